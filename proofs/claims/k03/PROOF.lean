import PyProof.Rows.All
import Wide.All
import OpenK.AllK
import Wide.FinOn
import HandS.Words
import PySem.Challenge.RW_lettersback_k03_invalid_tables
import HandS.Base
import HandS.Exc
import HandS.ExcInit
import HandS.Head0
import HandS.Head1
import HandS.Head2
import HandS.HeadHook2
import KE.KStateDown
import HandS.ForMost
import HandS.ForExc
import HandS.Conv
import HandS.Wide
import HandS.WideMore
import HandS.IsInst
import HandS.ExcField
import HandS.TryMany
import HandS.Flow
import HandS.TupMul
import HandS.TupAny
import HandS.Zip
import HandS.CallSlots
import PyProof.Rows.TupTab
import HandS.Style
import HandS.WideBits
import HandS.Deep
import HandS.TupLen
import HandS.Text
import HandS.ClsMeth
import HandS.Defaults
import HandS.EndBits
import KE.LtSeq
import HandS.SortRule
import HandS.SortInts
import KE.KDictWalk
import HandS.DictComp
import HandS.OwnEq
import PyProof.ReprLen
import PyProof.DictMoreH
import HandS.TryOnly
import HandS.More
import HandS.MakeKwOnly
import HandS.Strs
import HandS.SetKeys
import HandS.SetBool
import HandS.TupSets
import KE.GoesMore
import KE.KDictPairs
import KE.KExcIs
import PyProof.StrBlock2
import HandS.ExcBuiltin
import PyProof.ExcBaseAll.LookupError
import PyProof.ExcBaseAll.RuntimeError
import KE.KExcInit
import HandS.DictSubView
import KE.KDictCopyH
import KE.KDictLaws
import HandS.SetFor
import HandS.Set
import HandS.Zip0
import KE.KDictZip
import KE.KTurns
import KE.DataMinMax
import KE.KDictItemsList
import KE.KEqNest
import HandS.Walk
import KE.DataFind
import HandS.List
import KE.KEqDict
import KE.DataCmp
import HandS.DictTup
import KE.KRevSl
section
set_option Elab.async false
set_option linter.all false
set_option maxRecDepth 100000
set_option maxHeartbeats 8000000
/-! the text (printed by gen2.py) -/
namespace K03
open PySem L2 PyProof.Rows PySem.Spec
def top (i : Nat) : Stmt := PySem.Challenge.pw_lettersback_k03_invalid_tables.main.body.getD i (.Pass ⟨0, 0, 0, 0⟩)
abbrev s_is_integer : Stmt := top 11
abbrev s_is_size : Stmt := top 12
abbrev s_is_sizes : Stmt := top 13
abbrev s_check_sizes : Stmt := top 14
abbrev s_product : Stmt := top 15
abbrev s_is_values : Stmt := top 16
abbrev s_check_values : Stmt := top 17
abbrev s_check_product : Stmt := top 18
abbrev s_is_row : Stmt := top 21
abbrev s_Table___init__ : Stmt := inClass (top 22) 0
abbrev s_Table_input_sizes : Stmt := inClass (top 22) 1
abbrev s_Table_output_sizes : Stmt := inClass (top 22) 2
abbrev s_Table_rows : Stmt := inClass (top 22) 3
abbrev s_Table_weight : Stmt := inClass (top 22) 4
abbrev s_Table___eq__ : Stmt := inClass (top 22) 7
abbrev s_Table___len__ : Stmt := inClass (top 22) 8
abbrev s__law_pool : Stmt := top 24
abbrev s__law_take : Stmt := top 25
abbrev s__law_worths : Stmt := top 26
abbrev s__law_side : Stmt := top 27
abbrev s__law_rows : Stmt := top 28
abbrev s__law_caught : Stmt := top 29
abbrev s__law_odd_row : Stmt := top 30
abbrev s__law_odd_sizes : Stmt := top 31
abbrev s_law : Stmt := top 32
abbrev i_InvalidSizes : Stmt := inClass (top 3) 0
abbrev i_InvalidValues : Stmt := inClass (top 4) 0
abbrev i_InvalidRow : Stmt := inClass (top 5) 0
abbrev i_TooWide : Stmt := inClass (top 6) 0
end K03
end

section
set_option Elab.async false
set_option linter.all false
set_option autoImplicit false
set_option maxRecDepth 100000
set_option maxHeartbeats 4000000
/-! FO: the head by one kernel run; what the walk wants of it, as Bools over the part of the heap that the module's names reach. -/
namespace DL
open PySem L2 PyProof.Rows PySem.Spec
abbrev FaB : Type := PySem.W.Frag → Bool
abbrev fH (f : He.Fa) : FaB := fun K => f.ok K
/-- an error's class: its order of classes, its maker -/
def excB (bm : PySem.W.Frag → List Value) (nw : String) (C : PySem.W.Frag → Addr) : FaB := fun K => match K.lookup (C K) with
  | some ⟨.type "type", _, .cls cd, sl⟩ => (match cd.mro, sl.toList with
    | .ref C' :: bm', [_, _, _, _, some (.builtin n), _] => C' == C K && (n == nw && (!cd.hasDel && (cd.hasDict && decide (bm' = bm K))))
    | _, _ => false)
  | _ => false
theorem excB_ok {bm : PySem.W.Frag → List Value} {nw : String} {C : PySem.W.Frag → Addr} {K : PySem.W.Frag} {p : List Value → Prop} (q : excB bm nw C K = true) (hp : p (bm K)) :
    ∃ nm qn N bs bm' sn sub ab col dd k0 k1 k2 k3 k5, K.lookup (C K) = some (excClassObj nm qn (C K) N bs bm' true sn sub ab col dd k0 k1 k2 k3 k5 nw) ∧ p bm' := by
  unfold excB at q
  split at q
  · rename_i dd cd sl ho
    split at q
    · rename_i C' bm' k0 k1 k2 k3 n k5 hm hs
      simp only [Bool.and_eq_true, beq_iff_eq, Bool.not_eq_true', decide_eq_true_eq] at q
      obtain ⟨e1, e2, hdel, hdd, e3⟩ := q
      obtain ⟨nm, bs, mro, ns, qn, hd, sn, sub, ab, col, del⟩ := cd
      dsimp only at hm hdel hdd
      subst hm hdel hdd e1 e2 e3
      have hsl : sl = #[k0, k1, k2, k3, some (.builtin n), k5] := by
        obtain ⟨l⟩ := sl
        simp only at hs
        rw [hs]
      subst hsl
      exact ⟨nm, qn, ns, bs, _, sn, sub, ab, col, dd, k0, k1, k2, k3, k5, ho, hp⟩
    · cases q
  · cases q
def obsB (fa : List (List FaB)) (fn : List He.DefD) (K : PySem.W.Frag) : He.AlD := ((fa.all fun l => l.all fun f => f K) && fn.all fun d => d.ok K, fn.map fun d => He.fnW K d.at_)
def SaysB (fa : List (List FaB)) (fn : List He.DefD) (K : PySem.W.Frag) : Prop := obsB fa fn K = He.valD fn
/-- what the module's names reach: functions, their codes and defaults, classes' dicts, methods, their codes -/
def refK (o : Obj) : List Addr := match o.data with
  | .dict es _ => es.toList.flatMap fun e => He.refV e.val
  | .func fd => He.refV fd.code ++ (He.refV fd.defaults ++ He.refV fd.kwdefaults)
  | .cls cd => [cd.ns]
  | _ => []
def refsK (g : Addr → Option Obj) (as : List Addr) : List Addr := as.flatMap fun a => match g a with
  | some o => refK o
  | none => []
def asN (g : Addr → Option Obj) : Nat → List Addr → List Addr
  | 0, as => as
  | n + 1, as => as ++ asN g n (refsK g as)
def asK (g : Addr → Option Obj) : List Addr := mainGlobals :: cStatics :: asN g 4 (refsK g [mainGlobals])
/-- the list, brought to its form ahead of what looks at it -/
def frK {β : Type} : PySem.W.Frag → (PySem.W.Frag → β) → β
  | [], k => k []
  | (a, o) :: r, k => HandSHeadRun.frNat a fun a => frK r fun r => k ((a, o) :: r)
theorem frK_eq {β : Type} : ∀ (K : PySem.W.Frag) (k : PySem.W.Frag → β), frK K k = k K
  | [], k => rfl
  | (a, o) :: r, k => by
    show HandSHeadRun.frNat a (fun a => frK r fun r => k ((a, o) :: r)) = _
    rw [HandSHeadRun.frNat_eq, frK_eq r]
def obsBG (fa : List (List FaB)) (fn : List He.DefD) (g : Addr → Option Obj) : He.AlD := frK (He.frG g (asK g)) fun K => obsB fa fn K
def hookB (fa : List (List FaB)) (fn : List He.DefD) : PySem.W.Hook where
  α := He.AlD
  obs := fun s => obsBG fa fn s.heap.get?
  val := fun _ => He.valD fn
  says := fun _ h => ∃ K : PySem.W.Frag, K.In h ∧ SaysB fa fn K
  of := fun _ s e => ⟨_, He.frG_in (as := asK s.heap.get?), (frK_eq _ _).symm.trans e⟩
  keeps := fun _ _ _ ⟨K, hK, c⟩ k => ⟨K, PySem.W.Frag.In.keeps hK k, c⟩
theorem obsBG_eq {fa : List (List FaB)} {fn : List He.DefD} {g : Addr → Option Obj} {s : Shared} (h : ∀ a, g a = s.heap.get? a) : obsBG fa fn g = (hookB fa fn).obs s := by
  have e : g = s.heap.get? := funext h
  rw [e] <;> rfl
/-- what a class's maker is found as -/
def fclB (v : PySem.W.Frag → Value) (t : Value) (x : Str) (r : Value) : FaB := fun K => match PySem.W.findCls K (v K) t x with
  | some (.val u) => decide (u = r)
  | _ => false
theorem fclB_ok {v : PySem.W.Frag → Value} {t : Value} {x : Str} {r : Value} {K : PySem.W.Frag} (q : fclB v t x r K = true) : PySem.W.findCls K (v K) t x = some (.val r) := by
  unfold fclB at q
  split at q
  · rename_i u h
    rw [h, of_decide_eq_true q]
  · cases q
/-- a def of the text, where it stands -/
abbrev dF (x : Str) (st : Stmt) (dfl : List He.Dv := []) (kwd : List (Str × He.Dv) := []) : He.DefD := ⟨(x, none), x, x, defArgs st, defBody st, defScope st, dfl, kwd⟩
abbrev dM (C m q : Str) (st : Stmt) (kwd : List (Str × He.Dv) := []) : He.DefD := ⟨(C, some m), m, q, defArgs st, defBody st, defScope st, [], kwd⟩
end DL
end

section
set_option Elab.async false
set_option linter.all false
set_option maxRecDepth 100000
set_option maxHeartbeats 8000000
/-! the head (printed by gen2.py) -/
namespace K03
open PySem L2 PyProof.Rows PySem.Spec DL
def fa0 : List FaB := [
  fun K => decide (PySem.W.nsIn K mainGlobals "ValueError" = some none),
  fun K => decide (PySem.W.nsIn K mainGlobals "abs" = some none),
  fun K => decide (PySem.W.nsIn K mainGlobals "all" = some none),
  fun K => decide (PySem.W.nsIn K mainGlobals "bool" = some none),
  fun K => decide (PySem.W.nsIn K mainGlobals "int" = some none),
  fun K => decide (PySem.W.nsIn K mainGlobals "isinstance" = some none),
  fun K => decide (PySem.W.nsIn K mainGlobals "len" = some none),
  fun K => decide (PySem.W.nsIn K mainGlobals "list" = some none),
  fun K => decide (PySem.W.nsIn K mainGlobals "max" = some none),
  fun K => decide (PySem.W.nsIn K mainGlobals "min" = some none),
  fun K => decide (PySem.W.nsIn K mainGlobals "range" = some none),
  fun K => decide (PySem.W.nsIn K mainGlobals "repr" = some none),
  fun K => decide (PySem.W.nsIn K mainGlobals "sorted" = some none),
  fun K => decide (PySem.W.nsIn K mainGlobals "tuple" = some none),
  fun K => decide (PySem.W.nsIn K mainGlobals "zip" = some none),
  fH (.int "MAX_PRODUCT" 1024),
  fH (.int "MAX_SIZE" 4),
  fH (.int "MAX_WEIGHT" 1000000000000000000000000000000),
  fH (.int "MAX_WIRES" 30),
  fH (.glo "is_integer")]
def fa1 : List FaB := [
  fH (.glo "is_size"),
  fH (.glo "is_sizes"),
  fH (.glo "check_sizes"),
  fH (.glo "product"),
  fH (.glo "is_values"),
  fH (.glo "check_values"),
  fH (.glo "check_product"),
  fH (.glo "is_row"),
  fH (.glo "_law_pool"),
  fH (.glo "_law_take"),
  fH (.glo "_law_worths"),
  fH (.glo "_law_side"),
  fH (.glo "_law_rows"),
  fH (.glo "_law_caught"),
  fH (.glo "_law_odd_row"),
  fH (.glo "_law_odd_sizes"),
  fH (.glo "law"),
  fH (.glo "Table"),
  fH (.cls "Table"),
  fun K => decide (PySem.W.findIn K (.ref (He.ga K "Table")) "weights" = some none)]
def fa2 : List FaB := [
  fun K => decide (PySem.W.findIn K (.ref (He.ga K "Table")) "sizes_in" = some none),
  fun K => decide (PySem.W.findIn K (.ref (He.ga K "Table")) "sizes_out" = some none),
  fH (.mkr "Table"),
  fH (.meth "Table" "input_sizes"),
  fH (.meth "Table" "output_sizes"),
  fH (.meth "Table" "rows"),
  fH (.meth "Table" "weight"),
  fH (.meth "Table" "__eq__"),
  fH (.meth "Table" "__len__"),
  fun K => decide (PySem.W.findIn K (.ref (He.ga K "Table")) "__ne__" = some (some (.builtin "object.__ne__"))),
  fun K => decide (PySem.W.mroIn K (He.ga K "Table") (.type "object") = some true),
  fun K => decide (PySem.W.findIn K (.ref (He.ga K "Table")) "__class__" = some (some (.builtin "object.__class__"))),
  fun K => decide (PySem.W.isClsIn K (He.ga K "Table") = true),
  fun K => decide (PySem.W.typeIn K (.ref (He.ga K "Table")) = some (.type "type")),
  fun K => decide (PySem.W.subIn K (.type "NoneType") (.ref (He.ga K "Table")) = some false),
  fun K => decide (PySem.W.subIn K (.ref (He.ga K "Table")) (.type "NoneType") = some false),
  fun K => decide (PySem.W.subIn K (.type "bool") (.ref (He.ga K "Table")) = some false),
  fun K => decide (PySem.W.subIn K (.ref (He.ga K "Table")) (.type "bool") = some false),
  fun K => decide (PySem.W.subIn K (.type "int") (.ref (He.ga K "Table")) = some false),
  fun K => decide (PySem.W.subIn K (.ref (He.ga K "Table")) (.type "int") = some false)]
def fa3 : List FaB := [
  fun K => decide (PySem.W.subIn K (.type "str") (.ref (He.ga K "Table")) = some false),
  fun K => decide (PySem.W.subIn K (.ref (He.ga K "Table")) (.type "str") = some false),
  fun K => decide (PySem.W.subIn K (.type "tuple") (.ref (He.ga K "Table")) = some false),
  fun K => decide (PySem.W.subIn K (.ref (He.ga K "Table")) (.type "tuple") = some false),
  fun K => decide (PySem.W.subIn K (.type "list") (.ref (He.ga K "Table")) = some false),
  fun K => decide (PySem.W.subIn K (.ref (He.ga K "Table")) (.type "list") = some false),
  fun K => decide (PySem.W.subIn K (.type "dict") (.ref (He.ga K "Table")) = some false),
  fun K => decide (PySem.W.subIn K (.ref (He.ga K "Table")) (.type "dict") = some false),
  fun K => decide (PySem.W.subIn K (.ref (He.ga K "Table")) (.ref (He.ga K "Table")) = some true),
  fun K => decide (PySem.W.specialIn K (.builtin "object.__class__") "__get__" = some (some (.builtin "getset_descriptor.__get__"))),
  fun K => decide (PySem.W.takesIn K (.builtin "object.__class__") = some true),
  fun K => decide (PySem.W.readsIn K (He.ga K "NetworkError") (.type "type") = true),
  fun K => decide (PySem.W.specialIn K (.ref (He.ga K "NetworkError")) "__getattribute__" = some (some (.builtin "type.__getattribute__"))),
  fclB (fun K => (.ref (He.ga K "NetworkError"))) (.type "type") "__init__" (.builtin "ValueError.__init__"),
  fun K => decide (PySem.W.nsIn K mainGlobals "InvalidSizes" = some (some (.ref (He.ga K "InvalidSizes")))),
  excB (fun K => [.ref (He.ga K "NetworkError"), .type "ValueError", .type "Exception", .type "BaseException", .type "object"]) "ValueError.__new__" (fun K => He.ga K "InvalidSizes"),
  fun K => decide (PySem.W.findIn K (.ref (He.ga K "InvalidSizes")) "__setattr__" = some (some (.builtin "object.__setattr__"))),
  fun K => decide (PySem.W.subIn K (.ref (He.ga K "InvalidSizes")) (.type "BaseException") = some true),
  fun K => decide (PySem.W.typeIn K (.ref (He.ga K "InvalidSizes")) = some (.type "type")),
  fun K => decide (PySem.W.keepIn K (.ref (He.ga K "InvalidSizes")) = true)]
def fa4 : List FaB := [
  fun K => decide (PySem.W.findIn K (.ref (He.ga K "InvalidSizes")) "__getattribute__" = some (some (.builtin "BaseException.__getattribute__"))),
  fun K => decide (PySem.W.findIn K (.ref (He.ga K "InvalidSizes")) "__getattr__" = some none),
  fun K => decide (PySem.W.hasDictIn K (He.ga K "InvalidSizes") = true),
  fun K => decide (PySem.W.findIn K (.ref (He.ga K "InvalidSizes")) "value" = some none),
  fun K => decide (PySem.W.findIn K (.ref (He.ga K "InvalidSizes")) "__init__" = some (some (.ref (He.ma K (He.ga K "InvalidSizes") "__init__")))),
  fun K => decide (PySem.W.typeIn K (.ref (He.ma K (He.ga K "InvalidSizes") "__init__")) = some (.type "function")),
  fun K => decide (PySem.W.isClsIn K (He.ga K "InvalidSizes") = true),
  fun K => decide (PySem.W.subIn K (.ref (He.ga K "InvalidSizes")) (.ref (He.ga K "InvalidSizes")) = some true),
  fun K => decide (PySem.W.subIn K (.ref (He.ga K "InvalidSizes")) (.ref (He.ga K "InvalidValues")) = some false),
  fun K => decide (PySem.W.subIn K (.ref (He.ga K "InvalidSizes")) (.ref (He.ga K "InvalidRow")) = some false),
  fun K => decide (PySem.W.subIn K (.ref (He.ga K "InvalidSizes")) (.ref (He.ga K "TooWide")) = some false),
  fun K => decide (PySem.W.nsIn K mainGlobals "InvalidValues" = some (some (.ref (He.ga K "InvalidValues")))),
  excB (fun K => [.ref (He.ga K "NetworkError"), .type "ValueError", .type "Exception", .type "BaseException", .type "object"]) "ValueError.__new__" (fun K => He.ga K "InvalidValues"),
  fun K => decide (PySem.W.findIn K (.ref (He.ga K "InvalidValues")) "__setattr__" = some (some (.builtin "object.__setattr__"))),
  fun K => decide (PySem.W.subIn K (.ref (He.ga K "InvalidValues")) (.type "BaseException") = some true),
  fun K => decide (PySem.W.typeIn K (.ref (He.ga K "InvalidValues")) = some (.type "type")),
  fun K => decide (PySem.W.keepIn K (.ref (He.ga K "InvalidValues")) = true),
  fun K => decide (PySem.W.findIn K (.ref (He.ga K "InvalidValues")) "__getattribute__" = some (some (.builtin "BaseException.__getattribute__"))),
  fun K => decide (PySem.W.findIn K (.ref (He.ga K "InvalidValues")) "__getattr__" = some none),
  fun K => decide (PySem.W.hasDictIn K (He.ga K "InvalidValues") = true)]
def fa5 : List FaB := [
  fun K => decide (PySem.W.findIn K (.ref (He.ga K "InvalidValues")) "value" = some none),
  fun K => decide (PySem.W.findIn K (.ref (He.ga K "InvalidValues")) "__init__" = some (some (.ref (He.ma K (He.ga K "InvalidValues") "__init__")))),
  fun K => decide (PySem.W.typeIn K (.ref (He.ma K (He.ga K "InvalidValues") "__init__")) = some (.type "function")),
  fun K => decide (PySem.W.isClsIn K (He.ga K "InvalidValues") = true),
  fun K => decide (PySem.W.subIn K (.ref (He.ga K "InvalidValues")) (.ref (He.ga K "InvalidSizes")) = some false),
  fun K => decide (PySem.W.subIn K (.ref (He.ga K "InvalidValues")) (.ref (He.ga K "InvalidValues")) = some true),
  fun K => decide (PySem.W.subIn K (.ref (He.ga K "InvalidValues")) (.ref (He.ga K "InvalidRow")) = some false),
  fun K => decide (PySem.W.subIn K (.ref (He.ga K "InvalidValues")) (.ref (He.ga K "TooWide")) = some false),
  fun K => decide (PySem.W.nsIn K mainGlobals "InvalidRow" = some (some (.ref (He.ga K "InvalidRow")))),
  excB (fun K => [.ref (He.ga K "NetworkError"), .type "ValueError", .type "Exception", .type "BaseException", .type "object"]) "ValueError.__new__" (fun K => He.ga K "InvalidRow"),
  fun K => decide (PySem.W.findIn K (.ref (He.ga K "InvalidRow")) "__setattr__" = some (some (.builtin "object.__setattr__"))),
  fun K => decide (PySem.W.subIn K (.ref (He.ga K "InvalidRow")) (.type "BaseException") = some true),
  fun K => decide (PySem.W.typeIn K (.ref (He.ga K "InvalidRow")) = some (.type "type")),
  fun K => decide (PySem.W.keepIn K (.ref (He.ga K "InvalidRow")) = true),
  fun K => decide (PySem.W.findIn K (.ref (He.ga K "InvalidRow")) "__getattribute__" = some (some (.builtin "BaseException.__getattribute__"))),
  fun K => decide (PySem.W.findIn K (.ref (He.ga K "InvalidRow")) "__getattr__" = some none),
  fun K => decide (PySem.W.hasDictIn K (He.ga K "InvalidRow") = true),
  fun K => decide (PySem.W.findIn K (.ref (He.ga K "InvalidRow")) "value" = some none),
  fun K => decide (PySem.W.findIn K (.ref (He.ga K "InvalidRow")) "__init__" = some (some (.ref (He.ma K (He.ga K "InvalidRow") "__init__")))),
  fun K => decide (PySem.W.typeIn K (.ref (He.ma K (He.ga K "InvalidRow") "__init__")) = some (.type "function"))]
def fa6 : List FaB := [
  fun K => decide (PySem.W.isClsIn K (He.ga K "InvalidRow") = true),
  fun K => decide (PySem.W.subIn K (.ref (He.ga K "InvalidRow")) (.ref (He.ga K "InvalidSizes")) = some false),
  fun K => decide (PySem.W.subIn K (.ref (He.ga K "InvalidRow")) (.ref (He.ga K "InvalidValues")) = some false),
  fun K => decide (PySem.W.subIn K (.ref (He.ga K "InvalidRow")) (.ref (He.ga K "InvalidRow")) = some true),
  fun K => decide (PySem.W.subIn K (.ref (He.ga K "InvalidRow")) (.ref (He.ga K "TooWide")) = some false),
  fun K => decide (PySem.W.nsIn K mainGlobals "TooWide" = some (some (.ref (He.ga K "TooWide")))),
  excB (fun K => [.ref (He.ga K "NetworkError"), .type "ValueError", .type "Exception", .type "BaseException", .type "object"]) "ValueError.__new__" (fun K => He.ga K "TooWide"),
  fun K => decide (PySem.W.findIn K (.ref (He.ga K "TooWide")) "__setattr__" = some (some (.builtin "object.__setattr__"))),
  fun K => decide (PySem.W.subIn K (.ref (He.ga K "TooWide")) (.type "BaseException") = some true),
  fun K => decide (PySem.W.typeIn K (.ref (He.ga K "TooWide")) = some (.type "type")),
  fun K => decide (PySem.W.keepIn K (.ref (He.ga K "TooWide")) = true),
  fun K => decide (PySem.W.findIn K (.ref (He.ga K "TooWide")) "__getattribute__" = some (some (.builtin "BaseException.__getattribute__"))),
  fun K => decide (PySem.W.findIn K (.ref (He.ga K "TooWide")) "__getattr__" = some none),
  fun K => decide (PySem.W.hasDictIn K (He.ga K "TooWide") = true),
  fun K => decide (PySem.W.findIn K (.ref (He.ga K "TooWide")) "count" = some none),
  fun K => decide (PySem.W.findIn K (.ref (He.ga K "TooWide")) "__init__" = some (some (.ref (He.ma K (He.ga K "TooWide") "__init__")))),
  fun K => decide (PySem.W.typeIn K (.ref (He.ma K (He.ga K "TooWide") "__init__")) = some (.type "function")),
  fun K => decide (PySem.W.isClsIn K (He.ga K "TooWide") = true),
  fun K => decide (PySem.W.subIn K (.ref (He.ga K "TooWide")) (.ref (He.ga K "InvalidSizes")) = some false),
  fun K => decide (PySem.W.subIn K (.ref (He.ga K "TooWide")) (.ref (He.ga K "InvalidValues")) = some false)]
def fa7 : List FaB := [
  fun K => decide (PySem.W.subIn K (.ref (He.ga K "TooWide")) (.ref (He.ga K "InvalidRow")) = some false),
  fun K => decide (PySem.W.subIn K (.ref (He.ga K "TooWide")) (.ref (He.ga K "TooWide")) = some true),
  fun K => decide (PySem.W.findIn K (.ref (He.ga K "InvalidRow")) "__class__" = some (some (.builtin "object.__class__"))),
  fun K => decide (PySem.W.mroIn K (He.ga K "InvalidRow") (.type "object") = some true),
  fun K => decide (PySem.W.findIn K (.ref (He.ga K "InvalidSizes")) "__class__" = some (some (.builtin "object.__class__"))),
  fun K => decide (PySem.W.mroIn K (He.ga K "InvalidSizes") (.type "object") = some true),
  fun K => decide (PySem.W.findIn K (.ref (He.ga K "InvalidValues")) "__class__" = some (some (.builtin "object.__class__"))),
  fun K => decide (PySem.W.mroIn K (He.ga K "InvalidValues") (.type "object") = some true),
  fun K => decide (PySem.W.findIn K (.ref (He.ga K "TooWide")) "__class__" = some (some (.builtin "object.__class__"))),
  fun K => decide (PySem.W.mroIn K (He.ga K "TooWide") (.type "object") = some true),
  fun K => decide (PySem.W.isClsIn K (He.ga K "NetworkError") = true),
  fun K => decide (PySem.W.typeIn K (.ref (He.ga K "NetworkError")) = some (.type "type")),
  fun K => decide (PySem.W.subIn K (.ref (He.ga K "InvalidRow")) (.type "ValueError") = some true),
  fun K => decide (PySem.W.subIn K (.ref (He.ga K "InvalidSizes")) (.type "ValueError") = some true),
  fun K => decide (PySem.W.subIn K (.ref (He.ga K "InvalidValues")) (.type "ValueError") = some true),
  fun K => decide (PySem.W.subIn K (.ref (He.ga K "TooWide")) (.type "ValueError") = some true),
  fun K => decide (PySem.W.nsIn K mainGlobals "NetworkError" = some (some (.ref (He.ga K "NetworkError")))),
  fun K => decide (PySem.W.subIn K (.ref (He.ga K "NetworkError")) (.type "BaseException") = some true),
  fun K => decide (PySem.W.subIn K (.ref (He.ga K "InvalidSizes")) (.ref (He.ga K "NetworkError")) = some true),
  fun K => decide (PySem.W.subIn K (.ref (He.ga K "InvalidValues")) (.ref (He.ga K "NetworkError")) = some true)]
def fa8 : List FaB := [
  fun K => decide (PySem.W.subIn K (.ref (He.ga K "InvalidRow")) (.ref (He.ga K "NetworkError")) = some true),
  fun K => decide (PySem.W.subIn K (.ref (He.ga K "TooWide")) (.ref (He.ga K "NetworkError")) = some true)]
def fa : List (List FaB) := [fa0, fa1, fa2, fa3, fa4, fa5, fa6, fa7, fa8]
def fn : List He.DefD := [
  dF "is_integer" s_is_integer [.int 0],
  dF "is_size" s_is_size,
  dF "is_sizes" s_is_sizes,
  dF "check_sizes" s_check_sizes,
  dF "product" s_product,
  dF "is_values" s_is_values,
  dF "check_values" s_check_values,
  dF "check_product" s_check_product,
  dF "is_row" s_is_row,
  dF "_law_pool" s__law_pool,
  dF "_law_take" s__law_take,
  dF "_law_worths" s__law_worths,
  dF "_law_side" s__law_side,
  dF "_law_rows" s__law_rows,
  dF "_law_caught" s__law_caught,
  dF "_law_odd_row" s__law_odd_row,
  dF "_law_odd_sizes" s__law_odd_sizes,
  dF "law" s_law,
  dM "Table" "__init__" "Table.__init__" s_Table___init__,
  dM "Table" "input_sizes" "Table.input_sizes" s_Table_input_sizes,
  dM "Table" "output_sizes" "Table.output_sizes" s_Table_output_sizes,
  dM "Table" "rows" "Table.rows" s_Table_rows,
  dM "Table" "weight" "Table.weight" s_Table_weight,
  dM "Table" "__eq__" "Table.__eq__" s_Table___eq__,
  dM "Table" "__len__" "Table.__len__" s_Table___len__,
  dM "InvalidSizes" "__init__" "InvalidSizes.__init__" i_InvalidSizes,
  dM "InvalidValues" "__init__" "InvalidValues.__init__" i_InvalidValues,
  dM "InvalidRow" "__init__" "InvalidRow.__init__" i_InvalidRow,
  dM "TooWide" "__init__" "TooWide.__init__" i_TooWide]
def nm0 : List PySem.Str := [("_wall" : PySem.Str), ("NetworkError" : PySem.Str), ("InvalidSizes" : PySem.Str), ("InvalidValues" : PySem.Str), ("InvalidRow" : PySem.Str), ("TooWide" : PySem.Str), ("MAX_SIZE" : PySem.Str), ("MAX_WIRES" : PySem.Str), ("MAX_PRODUCT" : PySem.Str), ("is_integer" : PySem.Str), ("is_size" : PySem.Str), ("is_sizes" : PySem.Str), ("check_sizes" : PySem.Str), ("product" : PySem.Str), ("is_values" : PySem.Str), ("check_values" : PySem.Str), ("check_product" : PySem.Str), ("MAX_WEIGHT" : PySem.Str), ("is_row" : PySem.Str), ("Table" : PySem.Str), ("_law_pool" : PySem.Str), ("_law_take" : PySem.Str), ("_law_worths" : PySem.Str), ("_law_side" : PySem.Str), ("_law_rows" : PySem.Str), ("_law_caught" : PySem.Str), ("_law_odd_row" : PySem.Str), ("_law_odd_sizes" : PySem.Str)]
def names : List PySem.Str := nm0
abbrev R : PySem.W.OpenRow := PySem.W.OpenLaw.row PySem.Challenge.rw_lettersback_k03_invalid_tables
abbrev qv : Program := PySem.W.view R.prog [32]
abbrev hk : PySem.W.Hook := hookB fa fn
def ob (s : PySem.W.SharedT) : He.AlD := obsBG fa fn (HandSHeadRun.getT s)
theorem ob_eq (s : PySem.W.SharedT) : ob s = hk.obs s.abs := obsBG_eq (HandSHeadRun.getT_eq s)
theorem run (w : World) : HandSHeadRun.RunEq R qv hk ob 20000 names w := by
  intro os
  kernel_rfl
theorem d_name : (HandSHeadRun.topDef (PySem.W.OpenLaw.row PySem.Challenge.rw_lettersback_k03_invalid_tables).prog 32).name = ("law" : Str) := by kernel_rfl
open PySem PySem.W PySem.Calls PyProof.Rows in
set_option maxHeartbeats 0 in
theorem head (hc : PySem.W.WalkO qv names (PySem.W.XL qv []) hk.says (PySem.W.OpenLaw.row PySem.Challenge.rw_lettersback_k03_invalid_tables).toRowW (HandSHeadRun.topDef (PySem.W.OpenLaw.row PySem.Challenge.rw_lettersback_k03_invalid_tables).prog 32) [] (fun f vs => PySem.call f vs)) : PySem.Challenge.rw_lettersback_k03_invalid_tables.Holds := by
  w_on; o_law
  refine HandSHeadRun.head_any (r := PySem.W.OpenLaw.row PySem.Challenge.rw_lettersback_k03_invalid_tables) (q := qv) (H := hk) (ob := ob) (M := 20000) (loose := names) (d := HandSHeadRun.topDef (PySem.W.OpenLaw.row PySem.Challenge.rw_lettersback_k03_invalid_tables).prog 32) (kwd := []) ob_eq
    (by kernel_rfl) (fun s => by kernel_rfl) run (by kernel_rfl) (by kernel_rfl) (by kernel_rfl) (by rfl) (by first | assumption | decide +kernel) (by decide +kernel) ⟨rfl, rfl, rfl, rfl, rfl, by decide +kernel⟩ ?hw ?hc
  case hw => w_witness2
  case hc => exact hc
theorem d_dfl : (HandSHeadRun.topDef (PySem.W.OpenLaw.row PySem.Challenge.rw_lettersback_k03_invalid_tables).prog 32).params.defaults = [] := by kernel_rfl
end K03
end

section
set_option Elab.async false
set_option linter.all false
set_option autoImplicit false
set_option maxRecDepth 100000
set_option maxHeartbeats 4000000
/-! E0: data; tuples of any depth as keys of dicts. -/
namespace DL
open PySem L2

inductive D where
  | non
  | bl (b : Bool)
  | int (i : Int)
  | str (x : Str)
  | tup (xs : List D)
  | lst (xs : List D)
  | dct (kvs : List (D × D))
  | set (xs : List D)
  | obj (c : Nat) (fs : List (Str × D))
  | scr (xs : List D)
deriving Inhabited
mutual
def D.dec : (a b : D) → Decidable (a = b)
  | .non, .non => .isTrue rfl
  | .bl a, .bl b => if h : a = b then .isTrue (by rw [h]) else .isFalse fun e => h (by injection e)
  | .int a, .int b => if h : a = b then .isTrue (by rw [h]) else .isFalse fun e => h (by injection e)
  | .str a, .str b => if h : a = b then .isTrue (by rw [h]) else .isFalse fun e => h (by injection e)
  | .tup a, .tup b => match D.decL a b with
    | .isTrue h => .isTrue (by rw [h])
    | .isFalse h => .isFalse fun e => h (by injection e)
  | .lst a, .lst b => match D.decL a b with
    | .isTrue h => .isTrue (by rw [h])
    | .isFalse h => .isFalse fun e => h (by injection e)
  | .set a, .set b => match D.decL a b with
    | .isTrue h => .isTrue (by rw [h])
    | .isFalse h => .isFalse fun e => h (by injection e)
  | .scr a, .scr b => match D.decL a b with
    | .isTrue h => .isTrue (by rw [h])
    | .isFalse h => .isFalse fun e => h (by injection e)
  | .dct a, .dct b => match D.decK a b with
    | .isTrue h => .isTrue (by rw [h])
    | .isFalse h => .isFalse fun e => h (by injection e)
  | .obj c a, .obj d b => if h0 : c = d then (match D.decF a b with
      | .isTrue h => .isTrue (by rw [h0, h])
      | .isFalse h => .isFalse fun e => h (by injection e)) else .isFalse fun e => h0 (by injection e)
  | .non, .bl _ | .non, .int _ | .non, .str _ | .non, .tup _ | .non, .lst _ | .non, .dct _ | .non, .set _ | .non, .obj _ _ | .non, .scr _ => .isFalse fun e => nomatch e
  | .bl _, .non | .bl _, .int _ | .bl _, .str _ | .bl _, .tup _ | .bl _, .lst _ | .bl _, .dct _ | .bl _, .set _ | .bl _, .obj _ _ | .bl _, .scr _ => .isFalse fun e => nomatch e
  | .int _, .non | .int _, .bl _ | .int _, .str _ | .int _, .tup _ | .int _, .lst _ | .int _, .dct _ | .int _, .set _ | .int _, .obj _ _ | .int _, .scr _ => .isFalse fun e => nomatch e
  | .str _, .non | .str _, .bl _ | .str _, .int _ | .str _, .tup _ | .str _, .lst _ | .str _, .dct _ | .str _, .set _ | .str _, .obj _ _ | .str _, .scr _ => .isFalse fun e => nomatch e
  | .tup _, .non | .tup _, .bl _ | .tup _, .int _ | .tup _, .str _ | .tup _, .lst _ | .tup _, .dct _ | .tup _, .set _ | .tup _, .obj _ _ | .tup _, .scr _ => .isFalse fun e => nomatch e
  | .lst _, .non | .lst _, .bl _ | .lst _, .int _ | .lst _, .str _ | .lst _, .tup _ | .lst _, .dct _ | .lst _, .set _ | .lst _, .obj _ _ | .lst _, .scr _ => .isFalse fun e => nomatch e
  | .dct _, .non | .dct _, .bl _ | .dct _, .int _ | .dct _, .str _ | .dct _, .tup _ | .dct _, .lst _ | .dct _, .set _ | .dct _, .obj _ _ | .dct _, .scr _ => .isFalse fun e => nomatch e
  | .set _, .non | .set _, .bl _ | .set _, .int _ | .set _, .str _ | .set _, .tup _ | .set _, .lst _ | .set _, .dct _ | .set _, .obj _ _ | .set _, .scr _ => .isFalse fun e => nomatch e
  | .obj _ _, .non | .obj _ _, .bl _ | .obj _ _, .int _ | .obj _ _, .str _ | .obj _ _, .tup _ | .obj _ _, .lst _ | .obj _ _, .dct _ | .obj _ _, .set _ | .obj _ _, .scr _ => .isFalse fun e => nomatch e
  | .scr _, .non | .scr _, .bl _ | .scr _, .int _ | .scr _, .str _ | .scr _, .tup _ | .scr _, .lst _ | .scr _, .dct _ | .scr _, .set _ | .scr _, .obj _ _ => .isFalse fun e => nomatch e
def D.decL : (a b : List D) → Decidable (a = b)
  | [], [] => .isTrue rfl
  | [], _ :: _ => .isFalse fun e => nomatch e
  | _ :: _, [] => .isFalse fun e => nomatch e
  | a :: as, b :: bs => match D.dec a b with
    | .isTrue h => (match D.decL as bs with
      | .isTrue h2 => .isTrue (by rw [h, h2])
      | .isFalse h2 => .isFalse fun e => h2 (by injection e))
    | .isFalse h => .isFalse fun e => h (by injection e)
def D.decK : (a b : List (D × D)) → Decidable (a = b)
  | [], [] => .isTrue rfl
  | [], _ :: _ => .isFalse fun e => nomatch e
  | _ :: _, [] => .isFalse fun e => nomatch e
  | (k, v) :: as, (k2, v2) :: bs => match D.dec k k2 with
    | .isTrue h => (match D.dec v v2 with
      | .isTrue h1 => (match D.decK as bs with
        | .isTrue h2 => .isTrue (by rw [h, h1, h2])
        | .isFalse h2 => .isFalse fun e => h2 (by injection e))
      | .isFalse h1 => .isFalse fun e => h1 (by injection e with e1 e2; injection e1))
    | .isFalse h => .isFalse fun e => h (by injection e with e1 e2; injection e1)
def D.decF : (a b : List (Str × D)) → Decidable (a = b)
  | [], [] => .isTrue rfl
  | [], _ :: _ => .isFalse fun e => nomatch e
  | _ :: _, [] => .isFalse fun e => nomatch e
  | (k, v) :: as, (k2, v2) :: bs => if h : k = k2 then (match D.dec v v2 with
      | .isTrue h1 => (match D.decF as bs with
        | .isTrue h2 => .isTrue (by rw [h, h1, h2])
        | .isFalse h2 => .isFalse fun e => h2 (by injection e))
      | .isFalse h1 => .isFalse fun e => h1 (by injection e with e1 e2; injection e1))
    else .isFalse fun e => h (by injection e with e1 e2; injection e1)
end
instance : DecidableEq D := D.dec

/-! ### tuples of ints and texts, of any depth below 8, as keys -/
mutual
def keyOk : Nat → D → Bool
  | _, .int _ => true
  | _, .str _ => true
  | n + 1, .tup ds => keyOkL n ds
  | _, _ => false
def keyOkL : Nat → List D → Bool
  | _, [] => true
  | n, d :: ds => keyOk n d && keyOkL n ds
end
def isTup : D → Bool
  | .tup _ => true
  | _ => false
mutual
def hashD (w : World) : D → Int
  | .int i => hashInt i
  | .str x => hashStr w x
  | .tup ds => reduceHash (Builtin.Tuple.tupleHashOf (hashDL w ds))
  | _ => 0
def hashDL (w : World) : List D → List Int
  | [] => []
  | d :: ds => hashD w d :: hashDL w ds
end
mutual
def drawsD : D → Nat
  | .tup ds => drawsDL ds + 1
  | _ => 1
def drawsDL : List D → Nat
  | [] => 0
  | d :: ds => drawsD d + drawsDL ds
end
theorem hashDL_append (w : World) : ∀ a b : List D, hashDL w (a ++ b) = hashDL w a ++ hashDL w b
  | [], _ => rfl
  | x :: a, b => by
    show hashD w x :: hashDL w (a ++ b) = _
    rw [hashDL_append w a b]
    rfl
theorem drawsDL_append : ∀ a b : List D, drawsDL (a ++ b) = drawsDL a + drawsDL b
  | [], b => by simp [drawsDL]
  | x :: a, b => by
    show drawsD x + drawsDL (a ++ b) = drawsD x + drawsDL a + drawsDL b
    rw [drawsDL_append a b, Nat.add_assoc]
mutual
inductive KeyAt (h : Heap) : Nat → D → Value → Prop
  | int (n : Nat) (i : Int) (t : Tok) : KeyAt h n (.int i) (.int i t)
  | str (n : Nat) (x : Str) (t : Tok) : KeyAt h n (.str x) (.str x t)
  | tup {n : Nat} {a : Addr} {o : Obj} {items : Array Value} {m : Nat} {ds : List D} : h.get? a = some o → o.cls = .type "tuple" → o.data = .seq items m → KeyAtL h n ds items.toList → KeyAt h (n + 1) (.tup ds) (.ref a)
inductive KeyAtL (h : Heap) : Nat → List D → List Value → Prop
  | nil (n : Nat) : KeyAtL h n [] []
  | cons {n : Nat} {d : D} {ds : List D} {v : Value} {vs : List Value} : KeyAt h n d v → KeyAtL h n ds vs → KeyAtL h n (d :: ds) (v :: vs)
end
mutual
theorem KeyAt.inj {h : Heap} : ∀ {n m : Nat} {x y : D} {v : Value}, KeyAt h n x v → KeyAt h m y v → x = y
  | _, _, _, _, _, .int _ i t, .int _ _ _ => rfl
  | _, _, _, _, _, .str _ i t, .str _ _ _ => rfl
  | _, _, _, _, _, .tup h1 h2 h3 h4, .tup k1 k2 k3 k4 => by
    rw [h1] at k1
    cases k1
    rw [h3] at k3
    injection k3 with e1 e2
    subst e1
    rw [KeyAtL.inj h4 k4]
theorem KeyAtL.inj {h : Heap} : ∀ {n m : Nat} {x y : List D} {v : List Value}, KeyAtL h n x v → KeyAtL h m y v → x = y
  | _, _, _, _, _, .nil _, .nil _ => rfl
  | _, _, _, _, _, .cons h1 h2, .cons k1 k2 => by rw [KeyAt.inj h1 k1, KeyAtL.inj h2 k2]
end
mutual
theorem KeyAt.keep {h h' : Heap} (k : ∀ a o items m, h.get? a = some o → o.data = .seq items m → h'.get? a = some o) : ∀ {n : Nat} {x : D} {v : Value}, KeyAt h n x v → KeyAt h' n x v
  | _, _, _, .int n i t => .int n i t
  | _, _, _, .str n i t => .str n i t
  | _, _, _, .tup h1 h2 h3 h4 => .tup (k _ _ _ _ h1 h3) h2 h3 (KeyAtL.keep k h4)
theorem KeyAtL.keep {h h' : Heap} (k : ∀ a o items m, h.get? a = some o → o.data = .seq items m → h'.get? a = some o) : ∀ {n : Nat} {x : List D} {v : List Value}, KeyAtL h n x v → KeyAtL h' n x v
  | _, _, _, .nil n => .nil n
  | _, _, _, .cons h1 h2 => .cons (KeyAt.keep k h1) (KeyAtL.keep k h2)
end
theorem KeyAtL.length {h : Heap} : ∀ {n : Nat} {x : List D} {v : List Value}, KeyAtL h n x v → x.length = v.length
  | _, _, _, .nil n => rfl
  | _, _, _, .cons h1 h2 => by simp [KeyAtL.length h2]
theorem KeyAtL.get {h : Heap} : ∀ {n : Nat} {x : List D} {v : List Value} (j : Nat) (d : D) (u : Value), KeyAtL h n x v → x[j]? = some d → v[j]? = some u → KeyAt h n d u
  | _, _, _, _, _, _, .nil _, e, _ => by simp at e
  | _, _, _, 0, _, _, .cons h1 h2, e1, e2 => by
    simp at e1 e2
    subst e1 e2
    exact h1
  | _, _, _, j + 1, d, u, .cons h1 h2, e1, e2 => KeyAtL.get j d u h2 (by simpa using e1) (by simpa using e2)
/-- the hash of a key -/
theorem key_hash {prog : Program} {w : World} : ∀ (n : Nat) {A : Around} {E : Value → Shared → Prop} {s : Shared} {d : D} {v : Value} {Q : Int → Shared → Prop}, A.units + 2 * n + 2 < cLine → KeyAt s.heap n d v → Q (hashD w d) { s with toks := s.toks + drawsD d } →
    wpAny (model prog w) A (pyHash v) Q E s := by
  intro n
  induction n with
  | zero =>
    intro A E s d v Q hu hk h
    cases hk with
    | int _ i t => exact wpAny_pyHash_int h
    | str _ x t => exact wpAny_pyHash_str h
  | succ n ih =>
    intro A E s d v Q hu hk h
    cases hk with
    | int _ i t => exact wpAny_pyHash_int h
    | str _ x t => exact wpAny_pyHash_str h
    | @tup _ a o items m ds ho hc hd hi =>
      have hT : s.TypeIs (.ref a) "tuple" := ⟨o, ho, hc⟩
      unfold pyHash
      first | unfold pyHashByItsType | skip
      first | refine wpAny_bind (wpAny_cRoomFor_or (.inr (by omega)) ?_) | skip
      refine wpAny_bind (wpAny_specialOf hT F.slot_tuple_hash.lookup ?_)
      show wpAny _ _ (if (some (Value.builtin "tuple.__hash__") == some Value.none) = true then _ else _) Q E s
      rw [if_neg (by rw [beq_builtin_none]; exact Bool.false_ne_true)]
      refine wpAny_bind (wpAny_specialOf hT F.slot_tuple_hash.lookup ?_)
      show wpAny _ _ (callSpecialIfBoundUnlessNone? (.ref a) "__hash__" _ >>= _) Q E s
      refine wpAny_bind (wpAny_callSpecialIfBoundUnlessNone?_slot hT F.slot_tuple_hash (wpAny_call_entry F.slot_tuple_hash hT F.entry_tuple_hash ?_ (F.args_tuple_hash_1 _)))
      show wpAny _ _ (Builtin.Tuple.tupleItemsOf (.ref a) >>= _) _ _ s
      refine wpAny_bind (wpAny_tupleItemsOf ho hd ?_)
      refine wpAny_bind ?_
      rw [← Array.forIn_toList]
      refine wpAny_forIn_list _
        (fun rest (b : Array Int) s' => ∃ done left, ds = done ++ left ∧ KeyAtL s.heap n left rest ∧ b.toList = hashDL w done ∧ s' = { s with toks := s.toks + drawsDL done })
        _ ?_ ?_ _ _ ⟨[], ds, rfl, hi, rfl, rfl⟩
      · rintro x rest b s' ⟨done, left, rfl, hl, hb, rfl⟩
        cases hl with
        | @cons _ k ks' _ _ h1 hl' =>
          have hin : A.in1.units = A.units + 1 := rfl
          refine wpAny_bind (ih (A := A.in1) (s := { s with toks := s.toks + drawsDL done }) (by rw [hin]; omega) h1 ?_)
          have e1 : ((b.push (hashD w k)).toList) = hashDL w (done ++ [k]) := by rw [hashDL_append]; simp [hb, hashDL]
          have e2 : s.toks + drawsDL done + drawsD k = s.toks + drawsDL (done ++ [k]) := by rw [drawsDL_append]; simp [drawsDL, Nat.add_assoc]
          first
            | exact wpAny_pure ⟨done ++ [k], ks', by simp, hl', e1, by simp only [e2]⟩
            | exact wpAny_bind (wpAny_pure (wpAny_pure ⟨done ++ [k], ks', by simp, hl', e1, by simp only [e2]⟩))
      · rintro b s' ⟨done, left, rfl, hl, hb, rfl⟩
        cases hl
        rw [List.append_nil] at h
        show wpAny _ _ (retInt (Builtin.Tuple.tupleHashOf b.toList)) _ _ _
        rw [hb]
        refine wpAny_ret_mkInt ?_
        show wpAny _ _ (if (decide (-(2 : Int) ^ 63 ≤ Builtin.Tuple.tupleHashOf (hashDL w done)) && decide (Builtin.Tuple.tupleHashOf (hashDL w done) < 2 ^ 63)) = true then _ else _) Q E _
        unfold hashD reduceHash at h
        have e3 : drawsD (D.tup done) = drawsDL done + 1 := by rw [drawsD]
        rw [e3] at h
        by_cases hr : (decide (-(2 : Int) ^ 63 ≤ Builtin.Tuple.tupleHashOf (hashDL w done)) && decide (Builtin.Tuple.tupleHashOf (hashDL w done) < 2 ^ 63)) = true
        · rw [if_pos hr]
          rw [if_pos hr] at h
          exact wpAny_pure (by simpa [Nat.add_assoc] using h)
        · rw [if_neg hr]
          rw [if_neg hr] at h
          exact wpAny_bind (wpAny_rule (wpAny_pure (by simpa [Nat.add_assoc] using h)))
open SeqAt in
theorem key_eq : ∀ (n : Nat) {m : Nat} {A : Around} {s : Shared} {x y : D} {u v : Value}, A.units + n < cLine → KeyAt s.heap n x u → KeyAt s.heap m y v → EqAt A s u v (decide (x = y)) := by
  have tt : ∀ (n m : Nat) {A : Around} {s : Shared} {xs ys : List D} {a b : Addr}, (∀ {m : Nat} {x y : D} {u v : Value}, KeyAt s.heap n x u → KeyAt s.heap m y v → EqAt A.in1 s u v (decide (x = y))) → A.units < cLine → KeyAt s.heap (n + 1) (.tup xs) (.ref a) → KeyAt s.heap (m + 1) (.tup ys) (.ref b) → EqAt A s (.ref a) (.ref b) (decide (D.tup xs = D.tup ys)) := by
    intro n m A s xs ys a b ih hu hx hy
    by_cases hab : a = b
    · subst hab
      have e := hx.inj hy
      rw [decide_eq_true e]
      exact EqAt.same _
    · cases hx with
      | @tup _ _ o items k _ ho hc hd hi =>
        cases hy with
        | @tup _ _ o' items' k' _ ho' hc' hd' hi' =>
          have l1 : xs.length = items.size := by simpa using hi.length
          have l2 : ys.length = items'.size := by simpa using hi'.length
          have hT : s.heap.IsTuple a items := ⟨_, ho, hc, _, hd⟩
          have hT' : s.heap.IsTuple b items' := ⟨_, ho', hc', _, hd'⟩
          refine EqAt.of_refs hab ?_
          have r := RcAt.tuples (e := fun j => decide (xs[j]? = ys[j]?)) hT hT' hu fun j j1 j2 => by
            have g1 : xs[j]? = some (xs[j]'(by omega)) := List.getElem?_eq_getElem _
            have g2 : ys[j]? = some (ys[j]'(by omega)) := List.getElem?_eq_getElem _
            have q1 := hi.get j _ items[j] g1 (by simp [j1])
            have q2 := hi'.get j _ items'[j] g2 (by simp [j2])
            have z := ih q1 q2
            simp only [g1, g2, Option.some.injEq]
            exact z
          have e : ((List.range (min items.size items'.size)).all (fun j => decide (xs[j]? = ys[j]?)) && items.size == items'.size) = decide (D.tup xs = D.tup ys) := by
            rw [← l1, ← l2, Bool.eq_iff_iff, Bool.and_eq_true, List.all_eq_true, decide_eq_true_iff]
            constructor
            · rintro ⟨q1, q2⟩
              have q2 : xs.length = ys.length := by simpa using q2
              congr 1
              apply List.ext_getElem?
              intro j
              by_cases hj : j < xs.length
              · exact of_decide_eq_true (q1 j (List.mem_range.mpr (by omega)))
              · rw [List.getElem?_eq_none (by omega), List.getElem?_eq_none (by omega)]
            · intro q
              injection q with q
              subst q
              exact ⟨fun j _ => by simp, by simp⟩
          rw [e] at r
          exact r
  have ii : ∀ i j : Int, decide (D.int i = D.int j) = (i == j) := fun i j => by
    rw [Bool.eq_iff_iff, decide_eq_true_iff]
    simp
  have ss : ∀ i j : Str, decide (D.str i = D.str j) = (i == j) := fun i j => by
    rw [Bool.eq_iff_iff, decide_eq_true_iff]
    simp
  intro n
  induction n with
  | zero =>
    intro m A s x y u v hu hx hy
    cases hx with
    | int _ i t =>
      cases hy with
      | int _ j t' => rw [ii]; exact EqAt.int_int i t j t'
      | str _ j t' => rw [decide_eq_false (fun e => nomatch e)]; exact EqAt.int_str i t j t'
      | tup ho hc hd hi => rw [decide_eq_false (fun e => nomatch e)]; exact EqAt.int_tuple i t ⟨_, ho, hc, _, hd⟩ (by omega)
    | str _ i t =>
      cases hy with
      | int _ j t' => rw [decide_eq_false (fun e => nomatch e)]; exact EqAt.str_int i t j t'
      | str _ j t' => rw [ss]; exact EqAt.str_str i t j t'
      | tup ho hc hd hi => rw [decide_eq_false (fun e => nomatch e)]; exact EqAt.str_tuple i t ⟨_, ho, hc, _, hd⟩ (by omega)
  | succ n ih =>
    intro m A s x y u v hu hx hy
    cases hx with
    | int _ i t =>
      cases hy with
      | int _ j t' => rw [ii]; exact EqAt.int_int i t j t'
      | str _ j t' => rw [decide_eq_false (fun e => nomatch e)]; exact EqAt.int_str i t j t'
      | tup ho hc hd hi => rw [decide_eq_false (fun e => nomatch e)]; exact EqAt.int_tuple i t ⟨_, ho, hc, _, hd⟩ (by omega)
    | str _ i t =>
      cases hy with
      | int _ j t' => rw [decide_eq_false (fun e => nomatch e)]; exact EqAt.str_int i t j t'
      | str _ j t' => rw [ss]; exact EqAt.str_str i t j t'
      | tup ho hc hd hi => rw [decide_eq_false (fun e => nomatch e)]; exact EqAt.str_tuple i t ⟨_, ho, hc, _, hd⟩ (by omega)
    | tup ho hc hd hi =>
      cases hy with
      | int _ j t' => rw [decide_eq_false (fun e => nomatch e)]; exact EqAt.tuple_int j t' ⟨_, ho, hc, _, hd⟩ (by omega)
      | str _ j t' => rw [decide_eq_false (fun e => nomatch e)]; exact EqAt.tuple_str j t' ⟨_, ho, hc, _, hd⟩ (by omega)
      | tup ho' hc' hd' hi' =>
        have hin : A.in1.units = A.units + 1 := rfl
        exact tt n _ (fun q1 q2 => ih (by rw [hin]; omega) q1 q2) (by omega) (.tup ho hc hd hi) (.tup ho' hc' hd' hi')
theorem key_quiet {prog : Program} {w : World} : ∀ (n : Nat) {A : Around} {E : Value → Shared → Prop} {s : Shared} {d : D} {v : Value} {Q : Bool → Shared → Prop}, KeyAt s.heap n d v → Q true s → wpAny (model prog w) A (eqIsQuiet n v) Q E s := by
  intro n
  induction n with
  | zero =>
    intro A E s d v Q hk h
    cases hk with
    | int _ i t => rw [eqIsQuiet_byValue _ rfl]; exact wpAny_pure h
    | str _ i t => rw [eqIsQuiet_byValue _ rfl]; exact wpAny_pure h
  | succ n ih =>
    intro A E s d v Q hk h
    cases hk with
    | int _ i t => rw [eqIsQuiet_byValue _ rfl]; exact wpAny_pure h
    | str _ i t => rw [eqIsQuiet_byValue _ rfl]; exact wpAny_pure h
    | @tup _ a o items m ds ho hc hd hi =>
      have hT : s.TypeIs (.ref a) "tuple" := ⟨o, ho, hc⟩
      unfold eqIsQuiet
      refine wpAny_bind (wpAny_specialOf hT F.slot_tuple_eq.lookup ?_)
      show wpAny _ _ (isInstance (.ref a) (.type "tuple") >>= _) _ _ s
      refine wpAny_bind (wpAny_isInstance hT isSubtype_tuple_tuple ?_)
      simp only [Bool.not_true, Bool.false_eq_true, if_false]
      refine wpAny_bind (wpAny_seqItems ho hd ?_)
      refine wpAny_bind ?_
      show wpAny _ _ (forIn items _ _) _ _ s
      rw [← Array.forIn_toList]
      refine wpAny_forIn_list _ (fun rest r s' => r.1 = none ∧ s' = s ∧ ∃ left, KeyAtL s.heap n left rest) _ ?_ ?_ _ _ ⟨rfl, rfl, _, hi⟩
      · rintro v rest r s' ⟨hr, rfl, left, hl⟩
        cases hl with
        | cons h1 h2 =>
          refine wpAny_bind (ih h1 ?_)
          simp only [Bool.not_true, Bool.false_eq_true, if_false]
          exact wpAny_pure ⟨rfl, rfl, _, h2⟩
      · rintro ⟨r1, r2⟩ s' ⟨hr, rfl, _⟩
        simp only at hr
        subst hr
        exact wpAny_pure h
def keyKind (prog : Program) (w : World) : HeapKind prog w D where
  is := fun h d a => KeyAt h 8 d (.ref a)
  hash := hashD w
  draws := drawsD
  room := fun A => A.units + 20 < cLine
  inj := fun hx hy => hx.inj hy
  keeps := fun {h h' k a d o es ep} x ho hd hs => x.keep fun b o' items m h1 h2 => by
    have hne : b ≠ d := by
      rintro rfl
      rw [ho] at h1
      cases h1
      rw [hd] at h2
      exact nomatch h2
    exact (hs.2 b hne).trans h1
  pyHash := fun hu hk h => key_hash 8 (by omega) hk h
  eqBool := fun hu hx hy h => key_eq 8 (by omega) hx hy _ _ _ _ h
  quiet := fun hk h => key_quiet 8 hk h
end DL
end

section
set_option Elab.async false
set_option linter.all false
set_option autoImplicit false
set_option maxRecDepth 100000
set_option maxHeartbeats 4000000
/-! E1: cells, results; what the heap holds of data; ownership by labels. -/
namespace DL
open PySem L2

/-! ### shapes, cells, results -/
/-- what of an owned thing may be changed: nothing; a container, its items by the inner shape; an object, its fields by theirs -/
inductive Sh where
  | fz
  | con (s : Sh)
  | ob (fs : List (Str × Sh))
deriving Inhabited
def fsh (fs : List (Str × Sh)) (f : Str) : Sh := (fs.lookup f).getD .fz
inductive Cell where
  | val (d : D)
  | own (s : Sh) (d : D)
  | exc (c : Nat) (fs : List (Str × D))
abbrev DEnv := List (Option Cell)
inductive Res (α : Type) where
  | ok (a : α)
  | er (c : Nat) (fs : List (Str × D)) (env : DEnv)
  | bad
def Res.bind {α β : Type} : Res α → (α → Res β) → Res β
  | .ok a, f => f a
  | .er c fs e, _ => .er c fs e
  | .bad, _ => .bad
abbrev EM (α : Type) := DEnv → Res (α × DEnv)

/-! ### extension of heaps -/
def Ex (H H' : Hp) : Prop := ∀ a o, H a = some o → H' a = some o
theorem Ex.refl (H : Hp) : Ex H H := fun _ _ h => h
theorem Ex.trans {H H1 H2 : Hp} (a : Ex H H1) (b : Ex H1 H2) : Ex H H2 := fun x o h => b x o (a x o h)
theorem Ex.new {H : Hp} {p : Addr} {o : HO} (h : H p = none) : Ex H (upd H p o) := fun a u e => by
  rw [upd_ne (ne_of_none e h)]
  exact e
theorem Ex.back {H H' : Hp} {p : Addr} (e : Ex H H') (h : H' p = none) : H p = none := by
  cases h1 : H p with
  | none => rfl
  | some o =>
    rw [e p o h1] at h
    cases h
theorem Ex.mut {H H' : Hp} {p : Addr} {o : HO} (e : Ex H H') (h : H p = none) : Ex H (upd H' p o) := fun a u ha => by
  rw [upd_ne (ne_of_none ha h)]
  exact e a u ha
theorem Ex.upd2 {F H : Hp} {p : Addr} {o : HO} (e : Ex F H) : Ex (upd F p o) (upd H p o) := fun a u ha => by
  by_cases h : a = p
  · subst h
    rw [upd_same] at ha ⊢
    exact ha
  · rw [upd_ne h] at ha ⊢
    exact e a u ha
theorem ex_rd {H H' : Hp} {a : Addr} {u : HO} (e : Ex H H') (h : Rd H a u) : Rd H' a u := by
  rcases h with h | ⟨o, h⟩
  · exact Or.inl (e a _ h)
  · exact Or.inr ⟨o, e a _ h⟩
theorem ex_l {K : PySem.W.Frag} {H H' : Hp} {a : Addr} {xs : List V} (e : Ex H H') (h : SqL K H a xs) : SqL K H' a xs := by
  rcases h with h | h
  · exact Or.inl (ex_rd e h)
  · exact Or.inr h
theorem ex_t {K : PySem.W.Frag} {H H' : Hp} {a : Addr} {xs : List V} (e : Ex H H') (h : SqT K H a xs) : SqT K H' a xs := by
  rcases h with h | h
  · exact Or.inl (ex_rd e h)
  · exact Or.inr h
theorem sq_of {K : PySem.W.Frag} {H : Hp} {a : Addr} {xs : List V} (h : H a = some (.lst xs)) : SqL K H a xs := Or.inl (Or.inl h)
theorem st_of {K : PySem.W.Frag} {H : Hp} {a : Addr} {xs : List V} (h : H a = some (.tup xs)) : SqT K H a xs := Or.inl (Or.inl h)

/-! ### what is spoken of -/
structure Gm where
  P : Program
  w : World
  K : PySem.W.Frag
  cl : Nat → Addr
/-- .. and the exceptions that are in hand, the slots whose objects the caller holds -/
structure Gx extends Gm where
  XA : Addr → Addr → Nat → Prop
  bp : List (Nat × Addr)
instance : Coe Gx Gm := ⟨Gx.toGm⟩
def keyD : Key → D
  | .inl i => .int i
  | .inr x => .str x
/-- a dict whose keys are tuples: keys as data, their places, values; od the object itself -/
def dHO (P : Program) (w : World) (a : Addr) (xs : List (D × Addr × V)) (od : Obj) : HO := .ext fun h => xs.length ≤ sizeLine ∧ (a == sysModules) = false ∧ ∃ ys : List (D × Addr × Value),
  Paired (fun (p : D × Addr × V) (q : D × Addr × Value) => p.1 = q.1 ∧ p.2.1 = q.2.1 ∧ RelV p.2.2 q.2.2) xs ys ∧
  ∃ es ep, h.get? a = some od ∧ od.ExactDict ∧ od.data = .dict es ep ∧ es.toList = ys.map (entryOfKey (keyKind P w)) ∧ (ys.map (·.1)).Nodup
/-- a dict whose keys are numbers and texts; od the object itself -/
def dKO (P : Program) (w : World) (a : Addr) (kvs : List (Key × V)) (od : Obj) : HO := .ext fun h => kvs.length ≤ sizeLine ∧ (a == sysModules) = false ∧ h.get? a = some od ∧ ∃ vs, KV kvs vs ∧ h.DictOf (mixKind P w) a vs
/-- G speaks of X -/
structure Fit (G : Gm) (X : Cx) : Prop where
  p : G.P = X.prog
  w : G.w = X.w
  k : G.K = X.K
/-- other things, by their one object -/
inductive Ext (G : Gm) (a : Addr) : HO → List V → List D → D → Prop
  | none {o : HO} {vs : List V} {ds : List D} {d : D} : False → Ext G a o vs ds d
/-- an exception's object, known by its class and its dict's place -/
def errO (C a dd : Addr) : HO := .ext fun h => ∃ o vs, h.get? a = some o ∧ o.cls = .ref C ∧ o.dict = some dd ∧ o.data = .fields vs
mutual
inductive Rep (G : Gm) (H : Hp) : V → D → Prop
  | non : Rep G H .non .non
  | bl (b : Bool) : Rep G H (.bl b) (.bl b)
  | int (i : Int) : Rep G H (.int i) (.int i)
  | str (x : Str) : Rep G H (.str x) (.str x)
  | tup {a : Addr} {xs : List V} {ds : List D} : SqT G.K H a xs → RepL G H xs ds → Rep G H (.ref a) (.tup ds)
  | lst {a : Addr} {xs : List V} {ds : List D} : H a = some (.lst xs) → RepL G H xs ds → Rep G H (.ref a) (.lst ds)
  | scr {a : Addr} {xs : List V} {ds : List D} : SqL G.K H a xs → RepL G H xs ds → Rep G H (.ref a) (.scr ds)
  | dK {od : Obj} {a : Addr} {kvs : List (Key × V)} {ds : List (D × D)} : H a = some (dKO G.P G.w a kvs od) → RepK G H kvs ds → Rep G H (.ref a) (.dct ds)
  | dH {od : Obj} {a : Addr} {xs : List (D × Addr × V)} {ds : List (D × D)} : H a = some (dHO G.P G.w a xs od) → xs ≠ [] → RepH G H xs ds → Rep G H (.ref a) (.dct ds)
  | ins {a dx : Addr} {c : Nat} {fs : List (Str × V)} {gs : List (Str × D)} : H a = some (.ins (G.cl c) dx fs) → RepF G H fs gs → Rep G H (.ref a) (.obj c gs)
  | err {a dd : Addr} {c : Nat} {fs : List (Str × V)} {gs : List (Str × D)} : H a = some (errO (G.cl c) a dd) → H dd = some (.xd fs) → RepF G H fs gs → Rep G H (.ref a) (.set [.obj c gs])
  | ext {a : Addr} {o : HO} {vs : List V} {ds : List D} {d : D} : H a = some o → Ext G a o vs ds d → RepL G H vs ds → Rep G H (.ref a) d
inductive RepL (G : Gm) (H : Hp) : List V → List D → Prop
  | nil : RepL G H [] []
  | cons {v : V} {vs : List V} {d : D} {ds : List D} : Rep G H v d → RepL G H vs ds → RepL G H (v :: vs) (d :: ds)
inductive RepK (G : Gm) (H : Hp) : List (Key × V) → List (D × D) → Prop
  | nil : RepK G H [] []
  | cons {k : Key} {v : V} {vs : List (Key × V)} {d : D} {ds : List (D × D)} : Rep G H v d → RepK G H vs ds → RepK G H ((k, v) :: vs) ((keyD k, d) :: ds)
inductive RepH (G : Gm) (H : Hp) : List (D × Addr × V) → List (D × D) → Prop
  | nil : RepH G H [] []
  | cons {k : D} {a : Addr} {v : V} {vs : List (D × Addr × V)} {d : D} {ds : List (D × D)} : keyOk 8 k = true → Rep G H (.ref a) k → Rep G H v d → RepH G H vs ds → RepH G H ((k, a, v) :: vs) ((k, d) :: ds)
inductive RepF (G : Gm) (H : Hp) : List (Str × V) → List (Str × D) → Prop
  | nil : RepF G H [] []
  | cons {k : Str} {v : V} {vs : List (Str × V)} {d : D} {ds : List (Str × D)} : Rep G H v d → RepF G H vs ds → RepF G H ((k, v) :: vs) ((k, d) :: ds)
end
mutual
theorem Rep.mono {G : Gm} {H H' : Hp} (e : Ex H H') : ∀ {v : V} {d : D}, Rep G H v d → Rep G H' v d
  | _, _, .non => .non
  | _, _, .bl b => .bl b
  | _, _, .int i => .int i
  | _, _, .str x => .str x
  | _, _, .tup h r => .tup (ex_t e h) (RepL.mono e r)
  | _, _, .lst h r => .lst (e _ _ h) (RepL.mono e r)
  | _, _, .scr h r => .scr (ex_l e h) (RepL.mono e r)
  | _, _, .dK h r => .dK (e _ _ h) (RepK.mono e r)
  | _, _, .dH h n r => .dH (e _ _ h) n (RepH.mono e r)
  | _, _, .ins h r => .ins (e _ _ h) (RepF.mono e r)
  | _, _, .err h h2 r => .err (e _ _ h) (e _ _ h2) (RepF.mono e r)
  | _, _, .ext h x r => .ext (e _ _ h) x (RepL.mono e r)
theorem RepL.mono {G : Gm} {H H' : Hp} (e : Ex H H') : ∀ {v : List V} {d : List D}, RepL G H v d → RepL G H' v d
  | _, _, .nil => .nil
  | _, _, .cons h r => .cons (Rep.mono e h) (RepL.mono e r)
theorem RepK.mono {G : Gm} {H H' : Hp} (e : Ex H H') : ∀ {v : List (Key × V)} {d : List (D × D)}, RepK G H v d → RepK G H' v d
  | _, _, .nil => .nil
  | _, _, .cons h r => .cons (Rep.mono e h) (RepK.mono e r)
theorem RepH.mono {G : Gm} {H H' : Hp} (e : Ex H H') : ∀ {v : List (D × Addr × V)} {d : List (D × D)}, RepH G H v d → RepH G H' v d
  | _, _, .nil => .nil
  | _, _, .cons z k h r => .cons z (Rep.mono e k) (Rep.mono e h) (RepH.mono e r)
theorem RepF.mono {G : Gm} {H H' : Hp} (e : Ex H H') : ∀ {v : List (Str × V)} {d : List (Str × D)}, RepF G H v d → RepF G H' v d
  | _, _, .nil => .nil
  | _, _, .cons h r => .cons (Rep.mono e h) (RepF.mono e r)
end
section
variable {G : Gm} {H : Hp}
theorem RepL.length : ∀ {vs : List V} {ds : List D}, RepL G H vs ds → vs.length = ds.length
  | _, _, .nil => rfl
  | _, _, .cons _ r => congrArg (· + 1) (RepL.length r)
theorem RepK.length : ∀ {vs : List (Key × V)} {ds : List (D × D)}, RepK G H vs ds → vs.length = ds.length
  | _, _, .nil => rfl
  | _, _, .cons _ r => congrArg (· + 1) (RepK.length r)
theorem RepH.length : ∀ {vs : List (D × Addr × V)} {ds : List (D × D)}, RepH G H vs ds → vs.length = ds.length
  | _, _, .nil => rfl
  | _, _, .cons _ _ _ r => congrArg (· + 1) (RepH.length r)
theorem RepL.get : ∀ {vs : List V} {ds : List D} {i : Nat} {d : D}, RepL G H vs ds → ds[i]? = some d → ∃ v, vs[i]? = some v ∧ Rep G H v d
  | _, _, _, _, .nil, e => by simp at e
  | _, _, 0, _, .cons h _, e => by
    simp at e
    subst e
    exact ⟨_, rfl, h⟩
  | _, _, i + 1, d, .cons _ r, e => by
    obtain ⟨v, h1, h2⟩ := RepL.get (i := i) (d := d) r (by simpa using e)
    exact ⟨v, by simpa using h1, h2⟩
theorem RepL.getV : ∀ {vs : List V} {ds : List D} {i : Nat} {v : V}, RepL G H vs ds → vs[i]? = some v → ∃ d, ds[i]? = some d ∧ Rep G H v d
  | _, _, _, _, .nil, e => by simp at e
  | _, _, 0, _, .cons h _, e => by
    simp at e
    subst e
    exact ⟨_, rfl, h⟩
  | _, _, i + 1, d, .cons _ r, e => by
    obtain ⟨v, h1, h2⟩ := RepL.getV (i := i) (v := d) r (by simpa using e)
    exact ⟨v, by simpa using h1, h2⟩
theorem RepL.append : ∀ {vs ws : List V} {ds es : List D}, RepL G H vs ds → RepL G H ws es → RepL G H (vs ++ ws) (ds ++ es)
  | _, _, _, _, .nil, s => s
  | _, _, _, _, .cons h r, s => .cons h (RepL.append r s)
theorem RepL.take : ∀ {vs : List V} {ds : List D} (n : Nat), RepL G H vs ds → RepL G H (vs.take n) (ds.take n)
  | _, _, 0, _ => .nil
  | _, _, _ + 1, .nil => .nil
  | _, _, n + 1, .cons r t => .cons r (RepL.take n t)
theorem RepL.drop : ∀ {vs : List V} {ds : List D} (n : Nat), RepL G H vs ds → RepL G H (vs.drop n) (ds.drop n)
  | _, _, 0, r => r
  | _, _, _ + 1, .nil => .nil
  | _, _, n + 1, .cons _ t => RepL.drop n t
theorem RepL.set {v : V} {d : D} (r : Rep G H v d) : ∀ {vs : List V} {ds : List D} (i : Nat), RepL G H vs ds → RepL G H (vs.set i v) (ds.set i d)
  | _, _, _, .nil => .nil
  | _, _, 0, .cons _ t => .cons r t
  | _, _, i + 1, .cons q t => .cons q (RepL.set r i t)
theorem RepF.look : ∀ {vs : List (Str × V)} {ds : List (Str × D)} {f : Str} {d : D}, RepF G H vs ds → ds.lookup f = some d → ∃ v, vs.lookup f = some v ∧ Rep G H v d
  | _, _, _, _, .nil, e => by simp at e
  | _, _, f, d, .cons (k := k) h r, e => by
    rw [List.lookup_cons] at e
    cases hk : f == k with
    | true =>
      rw [hk] at e
      cases e
      exact ⟨_, by rw [List.lookup_cons, hk], h⟩
    | false =>
      rw [hk] at e
      obtain ⟨v, h1, h2⟩ := RepF.look r e
      exact ⟨v, by rw [List.lookup_cons, hk]; exact h1, h2⟩
end

/-! ### owned things: every object of theirs bears a label -/
abbrev Lb := List Nat
abbrev Own := Addr → Option Lb
mutual
inductive RepX (G : Gm) (F H : Hp) (o : Own) : Lb → Sh → V → D → Prop
  | fz {l : Lb} {v : V} {d : D} : Rep G F v d → RepX G F H o l .fz v d
  | lst {l : Lb} {s : Sh} {a : Addr} {vs : List V} {ds : List D} : H a = some (.lst vs) → o a = some l → RepXL G F H o l 0 s vs ds → RepX G F H o l (.con s) (.ref a) (.lst ds)
  | dK {od : Obj} {l : Lb} {s : Sh} {a : Addr} {kvs : List (Key × V)} {ds : List (D × D)} : H a = some (dKO G.P G.w a kvs od) → o a = some l → RepXK G F H o l 0 s kvs ds → RepX G F H o l (.con s) (.ref a) (.dct ds)
  | dH {od : Obj} {l : Lb} {s : Sh} {a : Addr} {xs : List (D × Addr × V)} {ds : List (D × D)} : H a = some (dHO G.P G.w a xs od) → xs ≠ [] → o a = some l → RepXH G F H o l 0 s xs ds → RepX G F H o l (.con s) (.ref a) (.dct ds)
  | ins {l : Lb} {shs : List (Str × Sh)} {a dx : Addr} {c : Nat} {fs : List (Str × V)} {gs : List (Str × D)} : H a = some (.ins (G.cl c) dx fs) → o a = some l → RepXF G F H o l 0 shs fs gs → RepX G F H o l (.ob shs) (.ref a) (.obj c gs)
inductive RepXL (G : Gm) (F H : Hp) (o : Own) : Lb → Nat → Sh → List V → List D → Prop
  | nil {l : Lb} {k : Nat} {s : Sh} : RepXL G F H o l k s [] []
  | cons {l : Lb} {k : Nat} {s : Sh} {v : V} {vs : List V} {d : D} {ds : List D} : RepX G F H o (l ++ [k]) s v d → RepXL G F H o l (k + 1) s vs ds → RepXL G F H o l k s (v :: vs) (d :: ds)
inductive RepXK (G : Gm) (F H : Hp) (o : Own) : Lb → Nat → Sh → List (Key × V) → List (D × D) → Prop
  | nil {l : Lb} {k : Nat} {s : Sh} : RepXK G F H o l k s [] []
  | cons {l : Lb} {n : Nat} {s : Sh} {k : Key} {v : V} {vs : List (Key × V)} {d : D} {ds : List (D × D)} : RepX G F H o (l ++ [n]) s v d → RepXK G F H o l (n + 1) s vs ds → RepXK G F H o l n s ((k, v) :: vs) ((keyD k, d) :: ds)
inductive RepXH (G : Gm) (F H : Hp) (o : Own) : Lb → Nat → Sh → List (D × Addr × V) → List (D × D) → Prop
  | nil {l : Lb} {k : Nat} {s : Sh} : RepXH G F H o l k s [] []
  | cons {l : Lb} {n : Nat} {s : Sh} {k : D} {a : Addr} {v : V} {vs : List (D × Addr × V)} {d : D} {ds : List (D × D)} : keyOk 8 k = true → Rep G F (.ref a) k → RepX G F H o (l ++ [n]) s v d → RepXH G F H o l (n + 1) s vs ds → RepXH G F H o l n s ((k, a, v) :: vs) ((k, d) :: ds)
inductive RepXF (G : Gm) (F H : Hp) (o : Own) : Lb → Nat → List (Str × Sh) → List (Str × V) → List (Str × D) → Prop
  | nil {l : Lb} {k : Nat} {s : List (Str × Sh)} : RepXF G F H o l k s [] []
  | cons {l : Lb} {n : Nat} {s : List (Str × Sh)} {k : Str} {v : V} {vs : List (Str × V)} {d : D} {ds : List (Str × D)} : RepX G F H o (l ++ [n]) (fsh s k) v d → RepXF G F H o l (n + 1) s vs ds → RepXF G F H o l n s ((k, v) :: vs) ((k, d) :: ds)
end
section
variable {G : Gm} {F F' H H' : Hp} {o o' : Own}
/-- moved: below l everything stands as it stood, the labels with l' in l's place -/
def Mv (H H' : Hp) (o o' : Own) (l l' : Lb) : Prop := ∀ a m, o a = some (l ++ m) → o' a = some (l' ++ m) ∧ H' a = H a
theorem Mv.sub {l l' : Lb} (h : Mv H H' o o' l l') (k : Nat) : Mv H H' o o' (l ++ [k]) (l' ++ [k]) := fun a m e => by
  rw [List.append_assoc] at e ⊢
  exact h a _ e
theorem Mv.here {l l' : Lb} (h : Mv H H' o o' l l') {a : Addr} (e : o a = some l) : o' a = some l' ∧ H' a = H a := by
  have := h a [] (by rw [List.append_nil]; exact e)
  rwa [List.append_nil] at this
mutual
theorem RepX.move (ef : Ex F F') : ∀ {l l' : Lb} {s : Sh} {v : V} {d : D}, Mv H H' o o' l l' → RepX G F H o l s v d → RepX G F' H' o' l' s v d
  | _, _, _, _, _, _, .fz r => .fz (r.mono ef)
  | _, _, _, _, _, m, .lst h e r => .lst (by rw [(m.here e).2]; exact h) (m.here e).1 (RepXL.move ef m r)
  | _, _, _, _, _, m, .dK h e r => .dK (by rw [(m.here e).2]; exact h) (m.here e).1 (RepXK.move ef m r)
  | _, _, _, _, _, m, .dH h n e r => .dH (by rw [(m.here e).2]; exact h) n (m.here e).1 (RepXH.move ef m r)
  | _, _, _, _, _, m, .ins h e r => .ins (by rw [(m.here e).2]; exact h) (m.here e).1 (RepXF.move ef m r)
theorem RepXL.move (ef : Ex F F') : ∀ {l l' : Lb} {k : Nat} {s : Sh} {v : List V} {d : List D}, Mv H H' o o' l l' → RepXL G F H o l k s v d → RepXL G F' H' o' l' k s v d
  | _, _, _, _, _, _, _, .nil => .nil
  | _, _, k, _, _, _, m, .cons h r => .cons (RepX.move ef (m.sub k) h) (RepXL.move ef m r)
theorem RepXK.move (ef : Ex F F') : ∀ {l l' : Lb} {k : Nat} {s : Sh} {v : List (Key × V)} {d : List (D × D)}, Mv H H' o o' l l' → RepXK G F H o l k s v d → RepXK G F' H' o' l' k s v d
  | _, _, _, _, _, _, _, .nil => .nil
  | _, _, k, _, _, _, m, .cons h r => .cons (RepX.move ef (m.sub k) h) (RepXK.move ef m r)
theorem RepXH.move (ef : Ex F F') : ∀ {l l' : Lb} {k : Nat} {s : Sh} {v : List (D × Addr × V)} {d : List (D × D)}, Mv H H' o o' l l' → RepXH G F H o l k s v d → RepXH G F' H' o' l' k s v d
  | _, _, _, _, _, _, _, .nil => .nil
  | _, _, k, _, _, _, m, .cons z q h r => .cons z (q.mono ef) (RepX.move ef (m.sub k) h) (RepXH.move ef m r)
theorem RepXF.move (ef : Ex F F') : ∀ {l l' : Lb} {k : Nat} {s : List (Str × Sh)} {v : List (Str × V)} {d : List (Str × D)}, Mv H H' o o' l l' → RepXF G F H o l k s v d → RepXF G F' H' o' l' k s v d
  | _, _, _, _, _, _, _, .nil => .nil
  | _, _, k, _, _, _, m, .cons h r => .cons (RepX.move ef (m.sub k) h) (RepXF.move ef m r)
end
/-- frozen: all below l is in F' -/
def Fz (F' H : Hp) (o : Own) (l : Lb) : Prop := ∀ a m, o a = some (l ++ m) → F' a = H a
theorem Fz.sub {l : Lb} (h : Fz F' H o l) (k : Nat) : Fz F' H o (l ++ [k]) := fun a m e => by
  rw [List.append_assoc] at e
  exact h a _ e
theorem Fz.here {l : Lb} (h : Fz F' H o l) {a : Addr} (e : o a = some l) : F' a = H a := h a [] (by rw [List.append_nil]; exact e)
mutual
theorem RepX.freeze (ef : Ex F F') : ∀ {l : Lb} {s : Sh} {v : V} {d : D}, Fz F' H o l → RepX G F H o l s v d → Rep G F' v d
  | _, _, _, _, _, .fz r => r.mono ef
  | _, _, _, _, m, .lst h e r => .lst (by rw [m.here e]; exact h) (RepXL.freeze ef m r)
  | _, _, _, _, m, .dK h e r => .dK (by rw [m.here e]; exact h) (RepXK.freeze ef m r)
  | _, _, _, _, m, .dH h n e r => .dH (by rw [m.here e]; exact h) n (RepXH.freeze ef m r)
  | _, _, _, _, m, .ins h e r => .ins (by rw [m.here e]; exact h) (RepXF.freeze ef m r)
theorem RepXL.freeze (ef : Ex F F') : ∀ {l : Lb} {k : Nat} {s : Sh} {v : List V} {d : List D}, Fz F' H o l → RepXL G F H o l k s v d → RepL G F' v d
  | _, _, _, _, _, _, .nil => .nil
  | _, k, _, _, _, m, .cons h r => .cons (RepX.freeze ef (m.sub k) h) (RepXL.freeze ef m r)
theorem RepXK.freeze (ef : Ex F F') : ∀ {l : Lb} {k : Nat} {s : Sh} {v : List (Key × V)} {d : List (D × D)}, Fz F' H o l → RepXK G F H o l k s v d → RepK G F' v d
  | _, _, _, _, _, _, .nil => .nil
  | _, k, _, _, _, m, .cons h r => .cons (RepX.freeze ef (m.sub k) h) (RepXK.freeze ef m r)
theorem RepXH.freeze (ef : Ex F F') : ∀ {l : Lb} {k : Nat} {s : Sh} {v : List (D × Addr × V)} {d : List (D × D)}, Fz F' H o l → RepXH G F H o l k s v d → RepH G F' v d
  | _, _, _, _, _, _, .nil => .nil
  | _, k, _, _, _, m, .cons z q h r => .cons z (q.mono ef) (RepX.freeze ef (m.sub k) h) (RepXH.freeze ef m r)
theorem RepXF.freeze (ef : Ex F F') : ∀ {l : Lb} {k : Nat} {s : List (Str × Sh)} {v : List (Str × V)} {d : List (Str × D)}, Fz F' H o l → RepXF G F H o l k s v d → RepF G F' v d
  | _, _, _, _, _, _, .nil => .nil
  | _, k, _, _, _, m, .cons h r => .cons (RepX.freeze ef (m.sub k) h) (RepXF.freeze ef m r)
end
theorem RepXL.of {l : Lb} : ∀ {k : Nat} {v : List V} {d : List D}, RepL G F v d → RepXL G F H o l k .fz v d
  | _, _, _, .nil => .nil
  | _, _, _, .cons h r => .cons (.fz h) (RepXL.of r)
theorem RepXL.out {l : Lb} : ∀ {k : Nat} {v : List V} {d : List D}, RepXL G F H o l k .fz v d → RepL G F v d
  | _, _, _, .nil => .nil
  | _, _, _, .cons (.fz h) r => .cons h (RepXL.out r)
theorem RepXK.of {l : Lb} : ∀ {k : Nat} {v : List (Key × V)} {d : List (D × D)}, RepK G F v d → RepXK G F H o l k .fz v d
  | _, _, _, .nil => .nil
  | _, _, _, .cons h r => .cons (.fz h) (RepXK.of r)
theorem RepXK.out {l : Lb} : ∀ {k : Nat} {v : List (Key × V)} {d : List (D × D)}, RepXK G F H o l k .fz v d → RepK G F v d
  | _, _, _, .nil => .nil
  | _, _, _, .cons (.fz h) r => .cons h (RepXK.out r)
theorem RepXH.of {l : Lb} : ∀ {k : Nat} {v : List (D × Addr × V)} {d : List (D × D)}, RepH G F v d → RepXH G F H o l k .fz v d
  | _, _, _, .nil => .nil
  | _, _, _, .cons z q h r => .cons z q (.fz h) (RepXH.of r)
theorem RepXH.out {l : Lb} : ∀ {k : Nat} {v : List (D × Addr × V)} {d : List (D × D)}, RepXH G F H o l k .fz v d → RepH G F v d
  | _, _, _, .nil => .nil
  | _, _, _, .cons z q (.fz h) r => .cons z q h (RepXH.out r)
end

/-! ### the slots represent an environment: the label of slot i is [i + 1], of a thing in hand [0] -/
structure RepS (G : Gx) (B F0 F H : Hp) (o : Own) (σ : L2.St) (env : DEnv) : Prop where
  bh : Ex B H
  f0 : Ex F0 F
  fh : Ex F H
  fr : ∀ a u, F a = some u → (∃ u', F0 a = some u') ∨ B a = none
  ow : ∀ a m, o a = some m → F a = none ∧ B a = none ∧ ∃ u, H a = some u
  len : env.length = σ.length
  val : ∀ (i : Nat) (d : D), env[i]? = some (some (.val d)) → ∃ v, σ[i]? = some (some v) ∧ Rep G F v d
  own : ∀ (i : Nat) (s : Sh) (d : D), env[i]? = some (some (.own s d)) → ∃ v, σ[i]? = some (some v) ∧ RepX G F H o [i + 1] s v d
  exc : ∀ (i c : Nat) (fs : List (Str × D)), env[i]? = some (some (.exc c fs)) → ∃ a dd fvs, σ[i]? = some (some (.ref a)) ∧ G.XA a dd c ∧ F dd = some (.xd fvs) ∧ RepF G F fvs fs
  pin : ∀ (i : Nat) (p : Addr) (s : Sh) (d : D), (i, p) ∈ G.bp → env[i]? = some (some (.own s d)) → σ[i]? = some (some (.ref p))

/-- new things came, all that stood stands -/
structure Grow (F H F' H' : Hp) : Prop where
  f : Ex F F'
  h : Ex H H'
  fh : Ex F' H'
  fr : ∀ a o, F' a = some o → (∃ u, F a = some u) ∨ H a = none
theorem Grow.refl {F H : Hp} (e : Ex F H) : Grow F H F H := ⟨Ex.refl F, Ex.refl H, e, fun a o h => .inl ⟨o, h⟩⟩
/-- a new frozen object -/
theorem Grow.new {F H : Hp} {p : Addr} {o : HO} (e : Ex F H) (h : H p = none) : Grow F H (upd F p o) (upd H p o) :=
  ⟨Ex.new (e.back h), Ex.new h, e.upd2, fun a u q => by
    by_cases hp : a = p
    · rw [hp]; exact .inr h
    · rw [upd_ne hp] at q
      exact .inl ⟨u, q⟩⟩
theorem Grow.newH {F H : Hp} {p : Addr} {o : HO} (e : Ex F H) (h : H p = none) : Grow F H F (upd H p o) :=
  ⟨Ex.refl F, Ex.new h, e.mut (e.back h), fun a u q => .inl ⟨u, q⟩⟩
theorem Mv.keep {H H' : Hp} {o : Own} {l : Lb} (h : ∀ a m, o a = some m → H' a = H a) : Mv H H' o o l l := fun a m e => ⟨e, h a _ e⟩
section
variable {G : Gx} {B F0 F H F' H' : Hp} {o : Own} {σ : L2.St} {env : DEnv}
theorem RepS.grow (r : RepS G B F0 F H o σ env) (g : Grow F H F' H') : RepS G B F0 F' H' o σ env where
  bh := r.bh.trans g.h
  f0 := r.f0.trans g.f
  fh := g.fh
  fr := fun a u q => by
    rcases g.fr a u q with ⟨u', h⟩ | h
    · exact r.fr a u' h
    · exact .inr (r.bh.back h)
  ow := fun a m e => by
    obtain ⟨h1, h2, u, h3⟩ := r.ow a m e
    refine ⟨?_, h2, u, g.h _ _ h3⟩
    cases q : F' a with
    | none => rfl
    | some x =>
      rcases g.fr a x q with ⟨u', h⟩ | h
      · rw [h1] at h; cases h
      · rw [h3] at h; cases h
  len := r.len
  val := fun i d e => by
    obtain ⟨v, h1, h2⟩ := r.val i d e
    exact ⟨v, h1, h2.mono g.f⟩
  own := fun i s d e => by
    obtain ⟨v, h1, h2⟩ := r.own i s d e
    exact ⟨v, h1, h2.move g.f (Mv.keep fun a m q => by
      obtain ⟨_, _, u, h3⟩ := r.ow a m q
      rw [h3, g.h _ _ h3])⟩
  exc := fun i c fs e => by
    obtain ⟨a, dd, fvs, h1, h2, h3, h4⟩ := r.exc i c fs e
    exact ⟨a, dd, fvs, h1, h2, g.f _ _ h3, h4.mono g.f⟩
  pin := r.pin
/-- other labels, where what the slots own keeps its own -/
theorem RepS.labels (r : RepS G B F0 F H o σ env) {o' : Own} (h1 : ∀ a m, o' a = some m → F a = none ∧ B a = none ∧ ∃ u, H a = some u) (h2 : ∀ (i : Nat) (s : Sh) (d : D), env[i]? = some (some (.own s d)) → ∀ a m, o a = some ((i + 1) :: m) → o' a = some ((i + 1) :: m)) : RepS G B F0 F H o' σ env where
  bh := r.bh
  f0 := r.f0
  fh := r.fh
  fr := r.fr
  ow := h1
  len := r.len
  val := r.val
  own := fun i s d e => by
    obtain ⟨v, q1, q2⟩ := r.own i s d e
    exact ⟨v, q1, q2.move (Ex.refl F) fun a m z => ⟨h2 i s d e a m z, rfl⟩⟩
  exc := r.exc
  pin := r.pin
theorem RepS.setv (r : RepS G B F0 F H o σ env) {v : V} {d : D} (i : Nat) (h : Rep G F v d) : RepS G B F0 F H o (σ.set i (some v)) (env.set i (some (.val d))) where
  bh := r.bh
  f0 := r.f0
  fh := r.fh
  fr := r.fr
  ow := r.ow
  len := by simpa using r.len
  val := fun j e q => by
    rw [List.getElem?_set] at q ⊢
    by_cases hj : i = j
    · subst hj
      rw [if_pos rfl] at q ⊢
      split at q
      · cases q
        rename_i hl
        rw [if_pos (by rw [← r.len]; exact hl)]
        exact ⟨v, rfl, h⟩
      · cases q
    · rw [if_neg hj] at q ⊢
      exact r.val j e q
  own := fun j s e q => by
    rw [List.getElem?_set] at q ⊢
    by_cases hj : i = j
    · subst hj
      rw [if_pos rfl] at q
      split at q <;> cases q
    · rw [if_neg hj] at q ⊢
      exact r.own j s e q
  exc := fun j c fs q => by
    rw [List.getElem?_set] at q ⊢
    by_cases hj : i = j
    · subst hj
      rw [if_pos rfl] at q
      split at q <;> cases q
    · rw [if_neg hj] at q ⊢
      exact r.exc j c fs q
  pin := fun j p' s d' hb q => by
    rw [List.getElem?_set] at q ⊢
    by_cases hj : i = j
    · subst hj
      rw [if_pos rfl] at q
      split at q <;> cases q
    · rw [if_neg hj] at q ⊢
      exact r.pin j p' s d' hb q
/-- a slot forgotten -/
theorem RepS.forget (r : RepS G B F0 F H o σ env) (u : Option V) (i : Nat) : RepS G B F0 F H o (σ.set i u) (env.set i none) where
  bh := r.bh
  f0 := r.f0
  fh := r.fh
  fr := r.fr
  ow := r.ow
  len := by simpa using r.len
  val := fun j e q => by
    rw [List.getElem?_set] at q ⊢
    by_cases hj : i = j
    · subst hj
      rw [if_pos rfl] at q
      split at q <;> cases q
    · rw [if_neg hj] at q ⊢
      exact r.val j e q
  own := fun j s e q => by
    rw [List.getElem?_set] at q ⊢
    by_cases hj : i = j
    · subst hj
      rw [if_pos rfl] at q
      split at q <;> cases q
    · rw [if_neg hj] at q ⊢
      exact r.own j s e q
  exc := fun j c fs q => by
    rw [List.getElem?_set] at q ⊢
    by_cases hj : i = j
    · subst hj
      rw [if_pos rfl] at q
      split at q <;> cases q
    · rw [if_neg hj] at q ⊢
      exact r.exc j c fs q
  pin := fun j p' s d' hb q => by
    rw [List.getElem?_set] at q ⊢
    by_cases hj : i = j
    · subst hj
      rw [if_pos rfl] at q
      split at q <;> cases q
    · rw [if_neg hj] at q ⊢
      exact r.pin j p' s d' hb q
theorem set_same {σ : L2.St} {i : Nat} {v : V} (h : σ[i]? = some (some v)) : σ.set i (some v) = σ := by
  apply List.ext_getElem?
  intro j
  rw [List.getElem?_set]
  by_cases hj : i = j
  · subst hj
    rw [if_pos rfl, if_pos (List.getElem?_eq_some_iff.mp h).1, h]
  · rw [if_neg hj]
/-- slot i owns what bears the label [i + 1] -/
theorem RepS.putO (r : RepS G B F0 F H o σ env) {v : V} {s : Sh} {d : D} (i : Nat) (h : RepX G F H o [i + 1] s v d) (hp : ∀ p, (i, p) ∈ G.bp → v = .ref p) : RepS G B F0 F H o (σ.set i (some v)) (env.set i (some (.own s d))) where
  bh := r.bh
  f0 := r.f0
  fh := r.fh
  fr := r.fr
  ow := r.ow
  len := by simpa using r.len
  val := fun j e q => by
    rw [List.getElem?_set] at q ⊢
    by_cases hj : i = j
    · subst hj
      rw [if_pos rfl] at q
      split at q <;> cases q
    · rw [if_neg hj] at q ⊢
      exact r.val j e q
  own := fun j s' e q => by
    rw [List.getElem?_set] at q ⊢
    by_cases hj : i = j
    · subst hj
      rw [if_pos rfl] at q ⊢
      split at q
      · cases q
        rename_i hl
        rw [if_pos (by rw [← r.len]; exact hl)]
        exact ⟨v, rfl, h⟩
      · cases q
    · rw [if_neg hj] at q ⊢
      exact r.own j s' e q
  exc := fun j c fs q => by
    rw [List.getElem?_set] at q ⊢
    by_cases hj : i = j
    · subst hj
      rw [if_pos rfl] at q
      split at q <;> cases q
    · rw [if_neg hj] at q ⊢
      exact r.exc j c fs q
  pin := fun j p' s' d' hb q => by
    rw [List.getElem?_set] at q ⊢
    by_cases hj : i = j
    · subst hj
      rw [if_pos rfl] at q ⊢
      split at q
      · rename_i hl
        rw [if_pos (by rw [← r.len]; exact hl), hp p' hb]
      · cases q
    · rw [if_neg hj] at q ⊢
      exact r.pin j p' s' d' hb q
/-- the labels that begin with a, with b in a's place; what began with b is let go -/
def relab (a b : Nat) (o : Own) : Own := fun x => match o x with
  | some (h :: t) => if h = a then some (b :: t) else if h = b then none else some (h :: t)
  | _ => none
theorem relab_some {a b : Nat} {o : Own} {x : Addr} {m : Lb} (h : relab a b o x = some m) : ∃ m', o x = some m' := by
  unfold relab at h
  split at h
  · rename_i q
    exact ⟨_, q⟩
  · cases h
theorem relab_at {a b : Nat} {o : Own} {x : Addr} {m : Lb} (h : o x = some (a :: m)) : relab a b o x = some (b :: m) := by
  unfold relab
  rw [h]
  simp
theorem relab_ne {a b c : Nat} {o : Own} {x : Addr} {m : Lb} (h : o x = some (c :: m)) (h1 : c ≠ a) (h2 : c ≠ b) : relab a b o x = some (c :: m) := by
  unfold relab
  rw [h]
  simp [h1, h2]
/-- a thing in hand is stored at slot i -/
theorem RepS.seto (r : RepS G B F0 F H o σ env) {v : V} {s : Sh} {d : D} (i : Nat) (h : RepX G F H o [0] s v d) (hp : ∀ p, (i, p) ∈ G.bp → v = .ref p) : RepS G B F0 F H (relab 0 (i + 1) o) (σ.set i (some v)) (env.set i (some (.own s d))) := by
  have r1 := (r.forget (some v) i).labels (o' := relab 0 (i + 1) o) (fun a m q => by
    obtain ⟨m', q'⟩ := relab_some q
    exact r.ow a m' q') fun j s' d' q a m z => by
      have hj : i ≠ j := fun e => by
        subst e
        rw [List.getElem?_set, if_pos rfl] at q
        split at q <;> cases q
      exact relab_ne z (by omega) (by omega)
  have h1 : RepX G F H (relab 0 (i + 1) o) [i + 1] s v d := h.move (Ex.refl F) fun a m z => ⟨relab_at z, rfl⟩
  have r2 := r1.putO i h1 hp
  rw [List.set_set, List.set_set] at r2
  exact r2
/-- all that bears a label beginning with n is frozen -/
def addF (F H : Hp) (o : Own) (n : Nat) : Hp := fun a => match o a with
  | some (h :: _) => if h = n then H a else F a
  | _ => F a
def dropO (o : Own) (n : Nat) : Own := fun a => match o a with
  | some (h :: t) => if h = n then none else some (h :: t)
  | _ => none
theorem dropO_some {n : Nat} {o : Own} {x : Addr} {m : Lb} (h : dropO o n x = some m) : o x = some m ∧ ∃ k t, m = k :: t ∧ k ≠ n := by
  unfold dropO at h
  split at h
  · rename_i k t q
    split at h
    · cases h
    · rename_i hk
      cases h
      exact ⟨q, k, t, rfl, hk⟩
  · cases h
theorem addF_ex (r : RepS G B F0 F H o σ env) (n : Nat) : Ex F (addF F H o n) := fun a u q => by
  unfold addF
  split
  · rename_i k t e
    have z := (r.ow a _ e).1
    rw [q] at z
    cases z
  · exact q
theorem addF_cases {n : Nat} {a : Addr} {u : HO} (h : addF F H o n a = some u) : F a = some u ∨ (H a = some u ∧ ∃ t, o a = some (n :: t)) := by
  unfold addF at h
  split at h
  · rename_i k t e
    split at h
    · rename_i hk
      subst hk
      exact .inr ⟨h, t, e⟩
    · exact .inl h
  · exact .inl h
theorem addF_fz (n : Nat) : Fz (addF F H o n) H o [n] := fun a m e => by
  unfold addF
  rw [e]
  simp
theorem RepS.frzL (r : RepS G B F0 F H o σ env) (n : Nat) (hn : ∀ (i : Nat) (s : Sh) (d : D), env[i]? = some (some (.own s d)) → i + 1 ≠ n) : RepS G B F0 (addF F H o n) H (dropO o n) σ env where
  bh := r.bh
  f0 := r.f0.trans (addF_ex r n)
  fh := fun a u q => by
    rcases addF_cases q with h | ⟨h, _⟩
    · exact r.fh a u h
    · exact h
  fr := fun a u q => by
    rcases addF_cases q with h | ⟨h, t, e⟩
    · exact r.fr a u h
    · exact .inr (r.ow a _ e).2.1
  ow := fun a m e => by
    obtain ⟨e1, k, t, rfl, hk⟩ := dropO_some e
    obtain ⟨h1, h2, h3⟩ := r.ow a _ e1
    refine ⟨?_, h2, h3⟩
    unfold addF
    rw [e1]
    simp [hk, h1]
  len := r.len
  val := fun i d e => by
    obtain ⟨v, h1, h2⟩ := r.val i d e
    exact ⟨v, h1, h2.mono (addF_ex r n)⟩
  own := fun i s d e => by
    obtain ⟨v, h1, h2⟩ := r.own i s d e
    refine ⟨v, h1, h2.move (addF_ex r n) fun a m z => ⟨?_, rfl⟩⟩
    unfold dropO
    replace z : o a = some ((i + 1) :: m) := z
    rw [z]
    simp [hn i s d e]
  exc := fun i c fs e => by
    obtain ⟨a, dd, fvs, h1, h2, h3, h4⟩ := r.exc i c fs e
    exact ⟨a, dd, fvs, h1, h2, addF_ex r n _ _ h3, h4.mono (addF_ex r n)⟩
  pin := r.pin
/-- a thing in hand is frozen -/
theorem RepS.frz0 (r : RepS G B F0 F H o σ env) {v : V} {s : Sh} {d : D} (h : RepX G F H o [0] s v d) : ∃ F' o', Ex F F' ∧ Rep G F' v d ∧ RepS G B F0 F' H o' σ env :=
  ⟨_, _, addF_ex r 0, h.freeze (addF_ex r 0) (addF_fz 0), r.frzL 0 fun _ _ _ _ => by omega⟩
/-- slot i gives up its object -/
theorem RepS.frz (r : RepS G B F0 F H o σ env) {i : Nat} {s : Sh} {d : D} (h : env[i]? = some (some (.own s d))) : ∃ v F' o', σ[i]? = some (some v) ∧ Ex F F' ∧ Rep G F' v d ∧ RepS G B F0 F' H o' σ (env.set i (some (.val d))) := by
  obtain ⟨v, h1, h2⟩ := r.own i s d h
  have r1 := r.forget (some v) i
  rw [set_same h1] at r1
  have r2 := r1.frzL (i + 1) fun j s' d' q e => by
    have hj : j = i := by omega
    subst hj
    rw [List.getElem?_set, if_pos rfl] at q
    split at q <;> cases q
  have h3 : Rep G (addF F H o (i + 1)) v d := h2.freeze (addF_ex r (i + 1)) (addF_fz (i + 1))
  have r3 := r2.setv i h3
  rw [set_same h1, List.set_set] at r3
  exact ⟨v, _, _, h1, addF_ex r (i + 1), h3, r3⟩
/-- the frozen part at hand in F0's place, and back -/
theorem RepS.rebase (r : RepS G B F0 F H o σ env) {F1 : Hp} (e0 : Ex F0 F1) (e1 : Ex F1 F) : RepS G B F1 F H o σ env :=
  { r with
    f0 := e1
    fr := fun a u q => by
      rcases r.fr a u q with ⟨u', h⟩ | h
      · exact .inl ⟨u', e0 _ _ h⟩
      · exact .inr h }
theorem RepS.back {F1 H1 : Hp} {o1 : Own} {σ1 : L2.St} {env1 : DEnv} (r1 : RepS G B F0 F1 H1 o1 σ1 env1) (r : RepS G B F1 F H o σ env) : RepS G B F0 F H o σ env :=
  { r with
    f0 := r1.f0.trans r.f0
    fr := fun a u q => by
      rcases r.fr a u q with ⟨u', h⟩ | h
      · exact r1.fr a u' h
      · exact .inr h }
/-- something more is to stay -/
theorem RepS.addB (r : RepS G B F0 F H o σ env) {p : Addr} {u : HO} (h : H p = some u) (hF : F p = none) (hO : o p = none) : RepS G (upd B p u) F0 F H o σ env :=
  { r with
    bh := fun a u' q => by
      by_cases ha : a = p
      · subst ha
        rw [upd_same] at q
        rw [← q]
        exact h
      · rw [upd_ne ha] at q
        exact r.bh a u' q
    fr := fun a u' q => by
      rcases r.fr a u' q with h | h
      · exact .inl h
      · refine .inr ?_
        rw [upd_ne]
        · exact h
        · intro z
          subst z
          rw [hF] at q
          cases q
    ow := fun a m e => by
      obtain ⟨h1, h2, h3⟩ := r.ow a m e
      refine ⟨h1, ?_, h3⟩
      rw [upd_ne]
      · exact h2
      · intro z
        subst z
        rw [hO] at e
        cases e }
theorem RepS.keptF (r : RepS G B F0 F H o σ env) {p : Addr} {u : HO} (hB : B p = some u) (h0 : F0 p = none) : F p = none := by
  cases q : F p with
  | none => rfl
  | some u =>
    rcases r.fr p u q with ⟨z, h⟩ | h
    · rw [h0] at h
      cases h
    · rw [hB] at h
      cases h
theorem RepS.keptO (r : RepS G B F0 F H o σ env) {p : Addr} {u : HO} (hB : B p = some u) : o p = none := by
  cases q : o p with
  | none => rfl
  | some m =>
    have z := (r.ow p m q).2.1
    rw [hB] at z
    cases z
/-- what was to stay changes (F does not know it) -/
theorem RepS.chB {p : Addr} {u u' : HO} (r : RepS G (upd B p u) F0 F H o σ env) (hF : F p = none) : RepS G (upd B p u') F0 F (upd H p u') o σ env where
  bh := fun a x q => by
    by_cases ha : a = p
    · subst ha
      rw [upd_same] at q ⊢
      exact q
    · rw [upd_ne ha] at q ⊢
      exact r.bh a x (by rw [upd_ne ha]; exact q)
  f0 := r.f0
  fh := r.fh.mut hF
  fr := fun a x q => by
    have ha : a ≠ p := fun z => by
      subst z
      rw [hF] at q
      cases q
    rcases r.fr a x q with h | h
    · exact .inl h
    · refine .inr ?_
      rw [upd_ne ha] at h ⊢
      exact h
  ow := fun a m e => by
    obtain ⟨h1, h2, x, h3⟩ := r.ow a m e
    have ha : a ≠ p := fun z => by
      subst z
      rw [upd_same] at h2
      cases h2
    rw [upd_ne ha] at h2
    refine ⟨h1, by rw [upd_ne ha]; exact h2, x, by rw [upd_ne ha]; exact h3⟩
  len := r.len
  val := r.val
  own := fun j s e q => by
    obtain ⟨v, h1, h2⟩ := r.own j s e q
    refine ⟨v, h1, h2.move (Ex.refl F) (Mv.keep fun a m z => ?_)⟩
    have ha : a ≠ p := fun y => by
      subst y
      have h2 := (r.ow a m z).2.1
      rw [upd_same] at h2
      cases h2
    rw [upd_ne ha]
  exc := r.exc
  pin := r.pin
/-- .. and is let go -/
theorem RepS.dropB {p : Addr} {u : HO} (r : RepS G (upd B p u) F0 F H o σ env) (hB : B p = none) : RepS G B F0 F H o σ env :=
  { r with
    bh := fun a x q => by
      have ha : a ≠ p := fun z => by
        subst z
        rw [hB] at q
        cases q
      exact r.bh a x (by rw [upd_ne ha]; exact q)
    fr := fun a x q => by
      rcases r.fr a x q with h | h
      · exact .inl h
      · by_cases ha : a = p
        · subst ha
          exact .inr hB
        · rw [upd_ne ha] at h
          exact .inr h
    ow := fun a m e => by
      obtain ⟨h1, h2, h3⟩ := r.ow a m e
      have ha : a ≠ p := fun z => by
        subst z
        rw [upd_same] at h2
        cases h2
      rw [upd_ne ha] at h2
      exact ⟨h1, h2, h3⟩ }
/-- a new object of one's own, in hand -/
theorem RepS.newO (r : RepS G B F0 F H o σ env) {p : Addr} {u : HO} (h : H p = none) : RepS G B F0 F (upd H p u) (fun a => if a = p then some [0] else dropO o 0 a) σ env := by
  have g := r.grow (Grow.newH (o := u) r.fh h)
  refine g.labels (fun a m q => ?_) fun i s d q a m z => ?_
  · by_cases ha : a = p
    · subst ha
      exact ⟨r.fh.back h, r.bh.back h, u, upd_same⟩
    · rw [if_neg ha] at q
      exact g.ow a m (dropO_some q).1
  · have ha : a ≠ p := fun e => by
      subst e
      obtain ⟨_, _, x, hx⟩ := r.ow a _ z
      rw [h] at hx
      cases hx
    rw [if_neg ha]
    unfold dropO
    rw [z]
    simp
/-- the object p, owned, changes -/
theorem RepS.chO (r : RepS G B F0 F H o σ env) {i : Nat} {p : Addr} {u : HO} {m0 : Lb} (ho : o p = some ((i + 1) :: m0)) (hn : ∀ s d, env[i]? ≠ some (some (.own s d))) : RepS G B F0 F (upd H p u) o σ env where
  bh := r.bh.mut (r.ow p _ ho).2.1
  f0 := r.f0
  fh := r.fh.mut (r.ow p _ ho).1
  fr := r.fr
  ow := fun a m e => by
    obtain ⟨h1, h2, x, h3⟩ := r.ow a m e
    by_cases ha : a = p
    · subst ha
      exact ⟨h1, h2, u, upd_same⟩
    · exact ⟨h1, h2, x, by rw [upd_ne ha]; exact h3⟩
  len := r.len
  val := r.val
  own := fun j s e q => by
    obtain ⟨v, h1, h2⟩ := r.own j s e q
    refine ⟨v, h1, h2.move (Ex.refl F) fun a m z => ⟨z, ?_⟩⟩
    have ha : a ≠ p := fun y => by
      subst y
      replace z : o a = some ((j + 1) :: m) := z
      rw [ho] at z
      injection z with z
      injection z with z1 z2
      have : j = i := by omega
      subst this
      exact hn s e q
    rw [upd_ne ha]
  exc := r.exc
  pin := r.pin
end
end DL
end

section
set_option Elab.async false
set_option linter.all false
set_option autoImplicit false
set_option maxRecDepth 100000
set_option maxHeartbeats 4000000
/-! E2: readings by data; expressions. -/
namespace DL
open PySem L2

/-! ### what a reading hands on: R at the layer, A as data -/
structure Kd (R A : Type) where
  rel : Gx → Hp → L2.St → R → A → Prop
  mono : ∀ {G : Gx} {F F' : Hp} {σ : L2.St} {r : R} {a : A}, Ex F F' → rel G F σ r a → rel G F' σ r a
def gPost {R A : Type} (K : Kd R A) (G : Gx) (B F0 F : Hp) (σ : L2.St) (W : WX) (Q : R → Hp → Prop) : Res (A × DEnv) → Prop
  | .ok (a, env') => ∀ r F' H' o', RepS G B F0 F' H' o' σ env' → Ex F F' → K.rel G F' σ r a → Q r H'
  | .er c fs env' => ∀ dx F' H' o' fvs, RepS G B F0 F' H' o' σ env' → Ex F F' → F' dx = some (.xd fvs) → RepF G F' fvs fs → W (.ref (G.cl c)) (some dx) σ H'
  | .bad => False
def gG {R A : Type} (K : Kd R A) (G : Gx) (f : EM A) (W : WX) : L2.St → Hp → (R → Hp → Prop) → Prop := fun σ H Q => ∃ B F0 F o env, RepS G B F0 F H o σ env ∧ gPost K G B F0 F σ W Q (f env)
/-- .. with what is known of F carried -/
def gGC {R A : Type} (K : Kd R A) (G : Gx) (C : Hp → Prop) (f : EM A) (W : WX) (σ : L2.St) (H : Hp) (Q : R → Hp → Prop) : Prop := ∃ B F0 F o env, RepS G B F0 F H o σ env ∧ C F ∧ gPost K G B F0 F σ W Q (f env)
def kE : Kd V D := ⟨fun G F _ v d => Rep G F v d, fun e h => h.mono e⟩
def kA : Kd (List V) (List D) := ⟨fun G F _ v d => RepL G F v d, fun e h => h.mono e⟩
def kT : Kd Bool Bool := ⟨fun _ _ _ r a => r = a, fun _ h => h⟩
def kO : Kd (Option Int) (Option Int) := ⟨fun _ _ _ r a => r = a, fun _ h => h⟩
/-- an operand: a value, or a slot whose object is read when it is used -/
inductive XD where
  | v (d : D)
  | s (i : Nat)
def RepY (G : Gx) (F : Hp) (σ : L2.St) (v : V) : XD → Prop
  | .v d => Rep G F v d
  | .s i => σ[i]? = some (some v)
theorem RepY.mono {G : Gx} {F F' : Hp} {σ : L2.St} {v : V} {x : XD} (e : Ex F F') (h : RepY G F σ v x) : RepY G F' σ v x := by
  cases x with
  | v d => exact Rep.mono e h
  | s i => exact h
inductive RepYL (G : Gx) (F : Hp) (σ : L2.St) : List V → List XD → Prop
  | nil : RepYL G F σ [] []
  | cons {v : V} {vs : List V} {x : XD} {xs : List XD} : RepY G F σ v x → RepYL G F σ vs xs → RepYL G F σ (v :: vs) (x :: xs)
theorem RepYL.mono {G : Gx} {F F' : Hp} {σ : L2.St} {vs : List V} {xs : List XD} (e : Ex F F') (h : RepYL G F σ vs xs) : RepYL G F' σ vs xs := by
  induction h with
  | nil => exact .nil
  | cons a b ih => exact .cons (a.mono e) ih
def kX : Kd V XD := ⟨RepY, fun e h => h.mono e⟩
def kY : Kd (List V) (List XD) := ⟨RepYL, fun e h => h.mono e⟩
abbrev eG (G : Gx) (f : EM D) (W : WX) : TE := gG kE G f W
abbrev aG (G : Gx) (f : EM (List D)) (W : WX) : TA := gG kA G f W
abbrev tG (G : Gx) (f : EM Bool) (W : WX) : TT := gG kT G f W
abbrev oG (G : Gx) (f : EM (Option Int)) (W : WX) : TO := gG kO G f W
abbrev xG (G : Gx) (f : EM XD) (W : WX) : TE := gG kX G f W
abbrev yG (G : Gx) (f : EM (List XD)) (W : WX) : TA := gG kY G f W

theorem Inv.relab {X : Cx} {pins : List (Addr × Obj)} {σ : L2.St} {H : Hp} {s : Shared} {a : Addr} {u u' : HO} {od : Obj} (I : L2.Inv X pins σ H s) (h : H a = some u) (mu : L2.Mut (some u)) (e : s.heap.get? a = some od) (new : L2.ObjOk X.prog X.w (upd H a u') s.heap a u') : L2.Inv X pins σ (upd H a u') s :=
  I.write (x := a) (e := a) (t' := s.toks) (h' := s.heap) (by rw [h]; exact mu) (.inl rfl) (fun b v _ q => q) ⟨od, e⟩ new
theorem kd_new {P : Program} {w : World} {H' : Hp} {h' : Heap} {a : Addr} {kvs : List (Key × V)} {vs : List (Key × Value)} {od : Obj} (z : kvs.length ≤ sizeLine) (hd : (a == sysModules) = false) (e : h'.get? a = some od) (rel : KV kvs vs) (dd : h'.DictOf (mixKind P w) a vs) :
    L2.ObjOk P w H' h' a (dKO P w a kvs od) := by
  refine ⟨⟨z, hd, e, vs, rel, dd⟩, ⟨od, e⟩, ?_⟩
  rintro g1 g2 ⟨e1, e2, e0, ys', e3, o', es', ep', e4, e5⟩ keep
  exact ⟨e1, e2, keep _ e0, ys', e3, o', es', ep', keep _ e4, e5⟩
theorem upd_upd {H : Hp} {a : Addr} {u u' : HO} : upd (upd H a u) a u' = upd H a u' := by
  funext b
  by_cases h : b = a
  · subst h; rw [upd_same, upd_same]
  · rw [upd_ne h, upd_ne h, upd_ne h]
def tDNewX (X : Cx) : TE := fun _ H Q => ∀ p od, H p = none → Q (.ref p) (upd H p (dKO X.prog X.w p [] od))
theorem pe_dnewX {X : Cx} {pos : Pos} : PE X (.Dict [] [] pos) (tDNewX X) := by
  refine ⟨fun pins s σ H Q I h => ?_⟩
  refine thn (pe_dnewK.run pins s σ H (fun v H1 => ∃ p, v = .ref p ∧ H p = none ∧ H1 = upd H p (.dK [])) I fun p hp => ⟨p, rfl, hp, rfl⟩) fun v s1 ⟨x, H1, I1, r, p, e1, e2, e3⟩ => ?_
  subst e1 e3
  obtain ⟨z, hd, vs, rel, dd⟩ := dk_of I1.hok upd_same
  obtain ⟨od, es, ep, ho, hr⟩ := id dd
  have J := Inv.relab (u' := dKO X.prog X.w p [] od) I1 upd_same trivial ho (kd_new z hd ho rel dd)
  rw [upd_upd] at J
  exact ⟨.ref p, _, J, r, h p od e2⟩
section
variable {X : Cx}
theorem PE.imp {e : Expr} {t t' : TE} (h : PE X e t) (k : ∀ σ H Q, t' σ H Q → t σ H Q) : PE X e t' := ⟨fun pins s σ H Q I q => h.run pins s σ H Q I (k σ H Q q)⟩
theorem PT.imp {e : Expr} {t t' : TT} (h : PT X e t) (k : ∀ σ H Q, t' σ H Q → t σ H Q) : PT X e t' := ⟨fun pins s σ H Q I q => h.run pins s σ H Q I (k σ H Q q)⟩
theorem PW.imp {e : Expr} {t t' : TT} (h : PW X e t) (k : ∀ σ H Q, t' σ H Q → t σ H Q) : PW X e t' := ⟨fun wh pins s σ H Q I q => h.run wh pins s σ H Q I (k σ H Q q)⟩
theorem PA.imp {e : List Expr} {t t' : TA} (h : PA X e t) (k : ∀ σ H Q, t' σ H Q → t σ H Q) : PA X e t' := ⟨fun pos pins s σ H Q I q => h.run pos pins s σ H Q I (k σ H Q q)⟩
theorem PS.imp {e : Stmt} {t t' : TS} (h : PS X e t) (k : ∀ D σ H, t' D σ H → t D σ H) : PS X e t' := ⟨fun pins s σ H D I q => h.run pins s σ H D I (k D σ H q)⟩
theorem PSs.imp {e : List Stmt} {t t' : TS} (h : PSs X e t) (k : ∀ D σ H, t' D σ H → t D σ H) : PSs X e t' := ⟨fun pins s σ H D I q => h.run pins s σ H D I (k D σ H q)⟩
theorem PO.imp {e : Option Expr} {t t' : TO} (h : PO X e t) (k : ∀ σ H Q, t' σ H Q → t σ H Q) : PO X e t' := ⟨fun pins s σ H Q I q => h.run pins s σ H Q I (k σ H Q q)⟩
end

/-! ### meanings -/
def bnd {α β : Type} (a : EM α) (k : α → EM β) : EM β := fun env => (a env).bind fun x => k x.1 x.2
def ofO {α : Type} (o : Option α) : EM α := fun env => match o with
  | some d => .ok (d, env)
  | none => .bad
def rt {α : Type} (a : α) : EM α := fun env => .ok (a, env)
def eC (d : D) : EM D := fun env => .ok (d, env)
def eV (i : Nat) : EM D := fun env => match env[i]? with
  | some (some (.val d)) => .ok (d, env)
  | _ => .bad
/-- a read that gives the slot's object up -/
def eZ (i : Nat) : EM D := fun env => match env[i]? with
  | some (some (.val d)) => .ok (d, env)
  | some (some (.own _ d)) => .ok (d, env.set i (some (.val d)))
  | _ => .bad
def xV (a : EM D) : EM XD := bnd a fun d => rt (.v d)
def xS (i : Nat) : EM XD := fun env => match env[i]? with
  | some (some (.val _)) => .ok (.s i, env)
  | some (some (.own _ _)) => .ok (.s i, env)
  | _ => .bad
def rslv (env : DEnv) : XD → Option D
  | .v d => some d
  | .s i => match env[i]? with
    | some (some (.val d)) => some d
    | some (some (.own (.con .fz) d)) => some d
    | _ => none
def rslvL (env : DEnv) : List XD → Option (List D)
  | [] => some []
  | x :: xs => (rslv env x).bind fun d => (rslvL env xs).map fun ds => d :: ds
def eOp (f : D → D → Option D) (a b : EM D) : EM D := bnd a fun x => bnd b fun y => ofO (f x y)
def eOpX (f : D → D → Option D) (a b : EM XD) : EM D := bnd a fun x => bnd b fun y => fun env => ofO ((rslv env x).bind fun d => (rslv env y).bind fun e => f d e) env
def eUn (f : D → Option D) (a : EM D) : EM D := bnd a fun x => ofO (f x)
def aNil : EM (List D) := fun env => .ok ([], env)
def aCons (a : EM D) (r : EM (List D)) : EM (List D) := bnd a fun x => bnd r fun xs => fun env => .ok (x :: xs, env)
def yNil : EM (List XD) := fun env => .ok ([], env)
def yCons (a : EM XD) (r : EM (List XD)) : EM (List XD) := bnd a fun x => bnd r fun xs => fun env => .ok (x :: xs, env)
def eTup (a : EM (List D)) : EM D := bnd a fun xs => ofO (if xs.length ≤ 1000000 then some (.tup xs) else none)
def eLst (a : EM (List D)) : EM D := bnd a fun xs => ofO (if xs.length ≤ 1000000 then some (.lst xs) else none)
/-- a call by data -/
def eApp (f : List D → Option D) (a : EM (List D)) : EM D := bnd a fun xs => ofO (f xs)
def eAppX (f : List D → Option D) (a : EM (List XD)) : EM D := bnd a fun xs => fun env => ofO ((rslvL env xs).bind f) env
def toB (a : EM D) : EM Bool := bnd a fun d => ofO (match d with | .bl b => some b | _ => none)
def tNo (a : EM Bool) : EM Bool := bnd a fun b => fun env => .ok (!b, env)
def tAn (a b : EM Bool) : EM Bool := bnd a fun x => if x = true then b else fun env => .ok (false, env)
def tOt (a b : EM Bool) : EM Bool := bnd a fun x => if x = true then (fun env => .ok (true, env)) else b
def eIf (c : EM Bool) (a b : EM D) : EM D := bnd c fun x => if x = true then a else b

section
variable {R A : Type} {K : Kd R A} {G : Gx} {B F0 F F' : Hp} {σ : L2.St} {W : WX}
theorem gPost.mono {Q : R → Hp → Prop} (e : Ex F F') : ∀ {r : Res (A × DEnv)}, gPost K G B F0 F σ W Q r → gPost K G B F0 F' σ W Q r
  | .ok (d, env'), h => fun v F2 H2 o2 rs e2 rp => h v F2 H2 o2 rs (e.trans e2) rp
  | .er c fs env', h => fun dx F2 H2 o2 fvs rs e2 => h dx F2 H2 o2 fvs rs (e.trans e2)
  | .bad, h => h
end
def Up (C : Hp → Prop) : Prop := ∀ F F', Ex F F' → C F → C F'
theorem up_true : Up fun _ => True := fun _ _ _ _ => True.intro
theorem up_k {R A : Type} {K : Kd R A} {G : Gx} {σ : L2.St} {r : R} {a : A} : Up fun F => K.rel G F σ r a := fun _ _ e h => K.mono e h
theorem Up.and {C C' : Hp → Prop} (a : Up C) (b : Up C') : Up fun F => C F ∧ C' F := fun F F' e h => ⟨a F F' e h.1, b F F' e h.2⟩
section
variable {R A R1 A1 : Type} {K : Kd R A} {K1 : Kd R1 A1} {G : Gx} {C : Hp → Prop} {σ : L2.St} {H : Hp} {W : WX}
theorem gG.c {f : EM A} {Q : R → Hp → Prop} (h : gG K G f W σ H Q) : gGC K G (fun _ => True) f W σ H Q := by
  obtain ⟨B, F0, F, o, env, rs, p⟩ := h
  exact ⟨B, F0, F, o, env, rs, True.intro, p⟩
/-- one thing first, one behind it -/
theorem gG_bnd (up : Up C) {fa : EM A1} {k : A1 → EM A} {Q : R → Hp → Prop} {S : R1 → Hp → Prop} (h : gGC K G C (bnd fa k) W σ H Q) (kk : ∀ r a H', gGC K G (fun F => C F ∧ K1.rel G F σ r a) (k a) W σ H' Q → S r H') : gG K1 G fa W σ H S := by
  obtain ⟨B, F0, F, o, env, rs, hC, p⟩ := h
  refine ⟨B, F0, F, o, env, rs, ?_⟩
  unfold bnd at p
  cases hf : fa env with
  | ok x =>
    rw [hf] at p
    intro v F' H' o' rs' e rp
    exact kk v x.1 H' ⟨B, F0, F', o', x.2, rs', ⟨up _ _ e hC, rp⟩, gPost.mono e p⟩
  | er c fs e => rw [hf] at p; exact p
  | bad => rw [hf] at p; exact p
/-- a value that is there -/
theorem gGC_ofO {x : Option A} {Q : R → Hp → Prop} (h : gGC K G C (ofO x) W σ H Q) : ∃ F a, x = some a ∧ Ex F H ∧ C F ∧ ∀ r F' H', Grow F H F' H' → K.rel G F' σ r a → Q r H' := by
  obtain ⟨B, F0, F, o, env, rs, hC, p⟩ := h
  cases x with
  | none => exact p.elim
  | some d => exact ⟨F, d, rfl, rs.fh, hC, fun v F' H' g rp => p v F' H' o (rs.grow g) g.f rp⟩
theorem gGC_rt {a : A} {Q : R → Hp → Prop} (h : gGC K G C (fun env => .ok (a, env)) W σ H Q) : ∃ F, Ex F H ∧ C F ∧ ∀ r F' H', Grow F H F' H' → K.rel G F' σ r a → Q r H' := by
  obtain ⟨B, F0, F, o, env, rs, hC, p⟩ := h
  exact ⟨F, rs.fh, hC, fun v F' H' g rp => p v F' H' o (rs.grow g) g.f rp⟩
end
theorem tGC_ret {G : Gx} {C : Hp → Prop} {σ : L2.St} {H : Hp} {W : WX} {d : Bool} {Q : Bool → Hp → Prop} (h : gGC kT G C (fun env => .ok (d, env)) W σ H Q) : Q d H := by
  obtain ⟨F, ef, _, q⟩ := gGC_rt h
  exact q d F H (Grow.refl ef) rfl

/-! ### operations on data; an operand's top object is in H, what it holds in F -/
inductive SRep (G : Gm) (F H : Hp) : V → D → Prop
  | of {v : V} {d : D} : Rep G F v d → SRep G F H v d
  | lst {a : Addr} {vs : List V} {ds : List D} : H a = some (.lst vs) → RepL G F vs ds → SRep G F H (.ref a) (.lst ds)
  | dK {od : Obj} {a : Addr} {kvs : List (Key × V)} {ds : List (D × D)} : H a = some (dKO G.P G.w a kvs od) → RepK G F kvs ds → SRep G F H (.ref a) (.dct ds)
  | dH {od : Obj} {a : Addr} {xs : List (D × Addr × V)} {ds : List (D × D)} : H a = some (dHO G.P G.w a xs od) → xs ≠ [] → RepH G F xs ds → SRep G F H (.ref a) (.dct ds)
inductive SRepL (G : Gm) (F H : Hp) : List V → List D → Prop
  | nil : SRepL G F H [] []
  | cons {v : V} {vs : List V} {d : D} {ds : List D} : SRep G F H v d → SRepL G F H vs ds → SRepL G F H (v :: vs) (d :: ds)
theorem SRepL.of {G : Gm} {F H : Hp} {vs : List V} {ds : List D} (h : RepL G F vs ds) : SRepL G F H vs ds := by
  induction ds generalizing vs with
  | nil => cases h; exact .nil
  | cons d ds ih => cases h with | cons a b => exact .cons (.of a) (ih b)
theorem SRep.deep {G : Gm} {F H : Hp} {v : V} {d : D} (e : Ex F H) (h : SRep G F H v d) : Rep G H v d := by
  cases h with
  | of h => exact h.mono e
  | lst h r => exact .lst h (r.mono e)
  | dK h r => exact .dK h (r.mono e)
  | dH h n r => exact .dH h n (r.mono e)
section
variable {G : Gx} {B F0 F H : Hp} {o : Own} {σ : L2.St} {env : DEnv}
theorem RepS.rslv (r : RepS G B F0 F H o σ env) {v : V} {x : XD} {d : D} (h : RepY G F σ v x) (e : rslv env x = some d) : SRep G F H v d := by
  cases x with
  | v d' =>
    cases e
    exact .of h
  | s i =>
    unfold DL.rslv at e
    simp only at e
    split at e
    · rename_i d' q
      cases e
      obtain ⟨v', h1, h2⟩ := r.val i d q
      replace h : σ[i]? = some (some v) := h
      rw [h] at h1
      cases h1
      exact .of h2
    · rename_i d' q
      cases e
      obtain ⟨v', h1, h2⟩ := r.own i _ d q
      replace h : σ[i]? = some (some v) := h
      rw [h] at h1
      cases h1
      cases h2 with
      | lst a b c => exact .lst a c.out
      | dK a b c => exact .dK a c.out
      | dH a n b c => exact .dH a n c.out
    · cases e
theorem RepS.rslvL (r : RepS G B F0 F H o σ env) : ∀ {vs : List V} {xs : List XD} {ds : List D}, RepYL G F σ vs xs → rslvL env xs = some ds → SRepL G F H vs ds
  | _, _, _, .nil, e => by
    cases e
    exact .nil
  | _, _, _, .cons a b, e => by
    unfold DL.rslvL at e
    rw [Option.bind_eq_some_iff] at e
    obtain ⟨d, e1, e2⟩ := e
    rw [Option.map_eq_some_iff] at e2
    obtain ⟨ds, e3, rfl⟩ := e2
    exact .cons (r.rslv a e1) (RepS.rslvL r b e3)
end
def OpD (G : Gm) (r : R2) (f : D → D → Option D) : Prop := ∀ F H x y d e z (Q : VK), Ex F H → SRep G F H x d → SRep G F H y e → f d e = some z → (∀ v F' H', Grow F H F' H' → Rep G F' v z → Q v H') → r x y H Q
def UnD (G : Gm) (r : V → Hp → VK → Prop) (f : D → Option D) : Prop := ∀ F H x d z (Q : VK), Ex F H → Rep G F x d → f d = some z → (∀ v F' H', Grow F H F' H' → Rep G F' v z → Q v H') → r x H Q
def AppD (G : Gm) (r : List V → Hp → VK → Prop) (f : List D → Option D) : Prop := ∀ F H xs ds z (Q : VK), Ex F H → SRepL G F H xs ds → f ds = some z → (∀ v F' H', Grow F H F' H' → Rep G F' v z → Q v H') → r xs H Q

section
variable {G : Gx} {X : Cx} {W : WX} {a b c : Expr} {fa fb fc : EM D} {xa xb : EM XD} {pos p : Pos} {es : List Expr}
theorem de_var {i : Nat} {x : Str} (hN : X.N[i]? = some x := by rfl) (hv : Vis X.env.scope x := by first | exact Or.inl rfl | exact Or.inr (Or.inl rfl) | exact Or.inr (Or.inr rfl)) (hd : (x == ("__debug__" : Str)) = false := by decide)
    (hcd : (x == ("__classdict__" : Str)) = false := by decide) : PE X (.Name x pos) (eG G (eV i) W) := by
  refine PE.imp (pe_var hN hv hd hcd) fun σ H Q ⟨B, F0, F, o, env, rs, p⟩ => ?_
  unfold eV at p
  split at p
  · rename_i d he
    obtain ⟨v, h1, h2⟩ := rs.val i d he
    exact ⟨v, h1, p v F H o rs (Ex.refl F) h2⟩
  · exact p.elim
theorem de_varZ {i : Nat} {x : Str} (hN : X.N[i]? = some x := by rfl) (hv : Vis X.env.scope x := by first | exact Or.inl rfl | exact Or.inr (Or.inl rfl) | exact Or.inr (Or.inr rfl)) (hd : (x == ("__debug__" : Str)) = false := by decide)
    (hcd : (x == ("__classdict__" : Str)) = false := by decide) : PE X (.Name x pos) (eG G (eZ i) W) := by
  refine PE.imp (pe_var hN hv hd hcd) fun σ H Q ⟨B, F0, F, o, env, rs, p⟩ => ?_
  unfold eZ at p
  split at p
  · rename_i d he
    obtain ⟨v, h1, h2⟩ := rs.val i d he
    exact ⟨v, h1, p v F H o rs (Ex.refl F) h2⟩
  · rename_i s d he
    obtain ⟨v, F', o', h1, e1, h2, rs'⟩ := rs.frz he
    exact ⟨v, h1, p v F' H o' rs' e1 h2⟩
  · exact p.elim
theorem dx_var {i : Nat} {x : Str} (hN : X.N[i]? = some x := by rfl) (hv : Vis X.env.scope x := by first | exact Or.inl rfl | exact Or.inr (Or.inl rfl) | exact Or.inr (Or.inr rfl)) (hd : (x == ("__debug__" : Str)) = false := by decide)
    (hcd : (x == ("__classdict__" : Str)) = false := by decide) : PE X (.Name x pos) (xG G (xS i) W) := by
  refine PE.imp (pe_var hN hv hd hcd) fun σ H Q ⟨B, F0, F, o, env, rs, p⟩ => ?_
  unfold xS at p
  split at p
  · rename_i d he
    obtain ⟨v, h1, h2⟩ := rs.val i d he
    exact ⟨v, h1, p v F H o rs (Ex.refl F) h1⟩
  · rename_i s d he
    obtain ⟨v, h1, h2⟩ := rs.own i s d he
    exact ⟨v, h1, p v F H o rs (Ex.refl F) h1⟩
  · exact p.elim
theorem dx_val (h : PE X a (eG G fa W)) : PE X a (xG G (xV fa) W) := by
  refine PE.imp h fun σ H Q h => ?_
  refine gG_bnd up_true h.c fun v d H1 h1 => ?_
  obtain ⟨F, ef, ⟨_, r1⟩, q⟩ := gGC_rt h1
  exact q v F H1 (Grow.refl ef) r1
theorem de_const {v : V} {d : D} (h : PE X a (tC v)) (r : ∀ F, Rep G F v d) : PE X a (eG G (eC d) W) := by
  refine PE.imp h fun σ H Q ⟨B, F0, F, o, env, rs, p⟩ => ?_
  exact p v F H o rs (Ex.refl F) (r F)
theorem de_int {i : Int} {j} : PE X (.Constant (.int i) j pos) (eG G (eC (.int i)) W) := de_const pe_int fun _ => .int i
theorem de_bl {i : Bool} {j} : PE X (.Constant (.bool i) j pos) (eG G (eC (.bl i)) W) := de_const pe_bl fun _ => .bl i
theorem de_non {j} : PE X (.Constant .none j pos) (eG G (eC .non) W) := de_const pe_non fun _ => .non
theorem de_str {i : Str} {j} : PE X (.Constant (.str i) j pos) (eG G (eC (.str i)) W) := de_const pe_str fun _ => .str i
/-- a module's constant -/
theorem de_gint {x : Str} {i : Int} (hm : ∃ t, X.mg x = some (.int i t)) (hg : Gl X x := by rfl) (hd : (x == ("__debug__" : Str)) = false := by decide) : PE X (.Name x pos) (eG G (eC (.int i)) W) := by
  obtain ⟨t, hm⟩ := hm
  exact de_const (pe_glob (v := .int i) hg hm ⟨t, rfl⟩ hd) fun _ => .int i
theorem eG_op {r : R2} {f : D → D → Option D} (hf : OpD G r f) {σ : L2.St} {H : Hp} {Q : VK} (h : eG G (eOp f fa fb) W σ H Q) : tOp r (eG G fa W) (eG G fb W) σ H Q := by
  refine gG_bnd up_true h.c fun v d H1 h1 => gG_bnd (up_true.and up_k) h1 fun u e H2 h2 => ?_
  obtain ⟨F, z, hz, ef, ⟨⟨_, r1⟩, r2⟩, q⟩ := gGC_ofO h2
  exact hf F H2 v u d e z Q ef (.of r1) (.of r2) hz q
theorem gGC_lateX {C : Hp → Prop} {σ : L2.St} {H : Hp} {Q : VK} {g : DEnv → Option D} (h : gGC kE G C (fun env => ofO (g env) env) W σ H Q) : ∃ B F0 F o env z, RepS G B F0 F H o σ env ∧ g env = some z ∧ C F ∧ ∀ v F' H', Grow F H F' H' → Rep G F' v z → Q v H' := by
  obtain ⟨B, F0, F, o, env, rs, hC, p⟩ := h
  cases hg : g env with
  | none => simp only [ofO, hg] at p; exact p.elim
  | some z =>
    simp only [ofO, hg] at p
    exact ⟨B, F0, F, o, env, z, rs, hg, hC, fun v F' H' g' rp => p v F' H' o (rs.grow g') g'.f rp⟩
theorem eG_opX {r : R2} {f : D → D → Option D} (hf : OpD G r f) {σ : L2.St} {H : Hp} {Q : VK} (h : eG G (eOpX f xa xb) W σ H Q) : tOp r (xG G xa W) (xG G xb W) σ H Q := by
  refine gG_bnd up_true h.c fun v x H1 h1 => gG_bnd (up_true.and up_k) h1 fun u y H2 h2 => ?_
  obtain ⟨B, F0, F, o, env, z, rs, hz, ⟨⟨_, r1⟩, r2⟩, q⟩ := gGC_lateX h2
  rw [Option.bind_eq_some_iff] at hz
  obtain ⟨d, e1, hz⟩ := hz
  rw [Option.bind_eq_some_iff] at hz
  obtain ⟨e, e2, hz⟩ := hz
  exact hf F H2 v u d e z Q rs.fh (rs.rslv r1 e1) (rs.rslv r2 e2) hz q
theorem de_bin {op : Operator} {r : R2} {f : D → D → Option D} (ho : OpR X (binaryOp op) r) (hf : OpD G r f) (ha : PE X a (eG G fa W)) (hb : PE X b (eG G fb W)) : PE X (.BinOp a op b pos) (eG G (eOp f fa fb) W) :=
  PE.imp (pe_op ho ha hb) fun _ _ _ h => eG_op hf h
theorem de_cmp {op : CmpOp} {r : R2} {f : D → D → Option D} (ho : OpR X (compareOp op) r) (hf : OpD G r f) (ha : PE X a (eG G fa W)) (hb : PE X b (eG G fb W)) (hm : behindInMarks op b = false := by rfl) : PE X (.Compare a [op] [b] pos) (eG G (eOp f fa fb) W) :=
  PE.imp (pe_cmpR ho ha hb hm) fun _ _ _ h => eG_op hf h
theorem de_un {op : UnaryOp} {r : V → Hp → VK → Prop} {f : D → Option D} (ho : UnR X (unaryOp op) r) (hf : UnD G r f) (ha : PE X a (eG G fa W)) : PE X (.UnaryOp op a pos) (eG G (eUn f fa) W) := by
  refine PE.imp (pe_un ho ha) fun σ H Q h => ?_
  refine gG_bnd up_true h.c fun v d H1 h1 => ?_
  obtain ⟨F, z, hz, ef, ⟨_, r1⟩, q⟩ := gGC_ofO h1
  exact hf F H1 v d z Q ef r1 hz q
theorem da_nil : PA X [] (aG G aNil W) := by
  refine PA.imp pa_nil fun σ H Q ⟨B, F0, F, o, env, rs, p⟩ => ?_
  exact p [] F H o rs (Ex.refl F) RepL.nil
theorem da_cons {fr : EM (List D)} (ha : PE X a (eG G fa W)) (hr : PA X es (aG G fr W)) (hs : starEach (a :: es) X.env = (false, eval a X.env) :: starEach es X.env := by rfl) : PA X (a :: es) (aG G (aCons fa fr) W) := by
  refine PA.imp (pa_cons ha hr hs) fun σ H Q h => ?_
  refine gG_bnd up_true h.c fun v d H1 h1 => gG_bnd (up_true.and up_k) h1 fun vs ds H2 h2 => ?_
  obtain ⟨F, ef, ⟨⟨_, r1⟩, r2⟩, q⟩ := gGC_rt h2
  exact q (v :: vs) F H2 (Grow.refl ef) (RepL.cons r1 r2)
theorem dy_nil : PA X [] (yG G yNil W) := by
  refine PA.imp pa_nil fun σ H Q ⟨B, F0, F, o, env, rs, p⟩ => ?_
  exact p [] F H o rs (Ex.refl F) RepYL.nil
theorem dy_cons {fr : EM (List XD)} (ha : PE X a (xG G xa W)) (hr : PA X es (yG G fr W)) (hs : starEach (a :: es) X.env = (false, eval a X.env) :: starEach es X.env := by rfl) : PA X (a :: es) (yG G (yCons xa fr) W) := by
  refine PA.imp (pa_cons ha hr hs) fun σ H Q h => ?_
  refine gG_bnd up_true h.c fun v d H1 h1 => gG_bnd (up_true.and up_k) h1 fun vs ds H2 h2 => ?_
  obtain ⟨F, ef, ⟨⟨_, r1⟩, r2⟩, q⟩ := gGC_rt h2
  exact q (v :: vs) F H2 (Grow.refl ef) (RepYL.cons r1 r2)
theorem le_line {n : Nat} (h : n ≤ 1000000) : n ≤ sizeLine := Nat.le_trans h (by decide)
theorem lt_line {n : Nat} (h : n ≤ 1000000) : n < sizeLine := Nat.lt_of_le_of_lt h (by decide)
theorem de_tup {fr : EM (List D)} {k} (h : PA X es (aG G fr W)) : PE X (.Tuple es k pos) (eG G (eTup fr) W) := by
  refine PE.imp (pe_tup h) fun σ H Q h => ?_
  refine gG_bnd up_true h.c fun vs ds H1 h1 => ?_
  obtain ⟨F, z, hz, ef, ⟨_, r1⟩, q⟩ := gGC_ofO h1
  replace r1 : RepL G F vs ds := r1
  split at hz
  · rename_i hl
    cases hz
    refine ⟨by rw [r1.length]; exact le_line hl, fun p hp => q _ _ _ (Grow.new ef hp) (Rep.tup (st_of upd_same) (r1.mono (Ex.new (ef.back hp))))⟩
  · cases hz
theorem de_lst {fr : EM (List D)} (h : PA X es (aG G fr W)) : PE X (.List es pos) (eG G (eLst fr) W) := by
  refine PE.imp (pe_lst h) fun σ H Q h => ?_
  refine gG_bnd up_true h.c fun vs ds H1 h1 => ?_
  obtain ⟨F, z, hz, ef, ⟨_, r1⟩, q⟩ := gGC_ofO h1
  replace r1 : RepL G F vs ds := r1
  split at hz
  · rename_i hl
    cases hz
    refine ⟨by rw [r1.length]; exact le_line hl, fun p hp => q _ _ _ (Grow.new ef hp) (Rep.lst upd_same (r1.mono (Ex.new (ef.back hp))))⟩
  · cases hz
theorem de_dict0 (fit : Fit G X) : PE X (.Dict [] [] pos) (eG G (eC (.dct [])) W) := by
  refine PE.imp pe_dnewX fun σ H Q h => ?_
  obtain ⟨F, ef, _, q⟩ := gGC_rt h.c
  exact fun p od hp => q _ _ _ (Grow.new ef hp) (Rep.dK (od := od) (by rw [fit.p, fit.w]; exact upd_same) .nil)
theorem eG_app {r : List V → Hp → VK → Prop} {f : List D → Option D} {fr : EM (List D)} (hf : AppD G r f) {σ : L2.St} {H : Hp} {Q : VK} (h : eG G (eApp f fr) W σ H Q) : aG G fr W σ H fun vs H1 => r vs H1 Q := by
  refine gG_bnd up_true h.c fun vs ds H1 h1 => ?_
  obtain ⟨F, z, hz, ef, ⟨_, r1⟩, q⟩ := gGC_ofO h1
  exact hf F H1 vs ds z Q ef (.of r1) hz q
theorem eG_appX {r : List V → Hp → VK → Prop} {f : List D → Option D} {fr : EM (List XD)} (hf : AppD G r f) {σ : L2.St} {H : Hp} {Q : VK} (h : eG G (eAppX f fr) W σ H Q) : yG G fr W σ H fun vs H1 => r vs H1 Q := by
  refine gG_bnd up_true h.c fun vs xs H1 h1 => ?_
  obtain ⟨B, F0, F, o, env, z, rs, hz, ⟨_, r1⟩, q⟩ := gGC_lateX h1
  rw [Option.bind_eq_some_iff] at hz
  obtain ⟨ds, e1, hz⟩ := hz
  exact hf F H1 vs ds z Q rs.fh (rs.rslvL r1 e1) hz q
/-- a built-in function | a built-in class called -/
theorem de_callB {x : Str} {id : String} {r : List V → Hp → VK → Prop} {f : List D → Option D} {fr : EM (List D)} (hc : CallR X (.builtin id) r) (hf : AppD G r f) (hm : X.mg x = none) (hv : bootBuiltins x = some (.builtin id)) (ha : PA X (a :: es) (aG G fr W)) (hg : Gl X x := by rfl) (hn : x ≠ "__name__" := by decide) (hdb : (x == ("__debug__" : Str)) = false := by decide)
    (he : starEach (a :: es) X.env = (false, eval a X.env) :: starEach es X.env := by rfl) (hpl : (backTo pos (starEach es X.env)).any (·.1) = false := by rfl) : PE X (.Call (.Name x p) (a :: es) [] pos) (eG G (eApp f fr) W) :=
  PE.imp (pe_callB hc hg hm hv ha hn hdb he hpl) fun σ H Q h => eG_app hf h
theorem de_callTy {x : Str} {T : String} {r : List V → Hp → VK → Prop} {f : List D → Option D} {fr : EM (List D)} (hc : CallR X (.type T) r) (hf : AppD G r f) (hm : X.mg x = none) (hv : bootBuiltins x = some (.type T)) (ha : PA X (a :: es) (aG G fr W)) (hg : Gl X x := by rfl) (hn : x ≠ "__name__" := by decide) (hdb : (x == ("__debug__" : Str)) = false := by decide)
    (he : starEach (a :: es) X.env = (false, eval a X.env) :: starEach es X.env := by rfl) (hpl : (backTo pos (starEach es X.env)).any (·.1) = false := by rfl) : PE X (.Call (.Name x p) (a :: es) [] pos) (eG G (eApp f fr) W) :=
  PE.imp (pe_callTy hc hg hm hv ha hn hdb he hpl) fun σ H Q h => eG_app hf h
theorem de_callTyX {x : Str} {T : String} {r : List V → Hp → VK → Prop} {f : List D → Option D} {fr : EM (List XD)} (hc : CallR X (.type T) r) (hf : AppD G r f) (hm : X.mg x = none) (hv : bootBuiltins x = some (.type T)) (ha : PA X (a :: es) (yG G fr W)) (hg : Gl X x := by rfl) (hn : x ≠ "__name__" := by decide) (hdb : (x == ("__debug__" : Str)) = false := by decide)
    (he : starEach (a :: es) X.env = (false, eval a X.env) :: starEach es X.env := by rfl) (hpl : (backTo pos (starEach es X.env)).any (·.1) = false := by rfl) : PE X (.Call (.Name x p) (a :: es) [] pos) (eG G (eAppX f fr) W) :=
  PE.imp (pe_callTy hc hg hm hv ha hn hdb he hpl) fun σ H Q h => eG_appX hf h

/-! ### tests, and, or, not -/
theorem rep_bl {G : Gm} {H : Hp} {v : V} {k : Bool} (h : Rep G H v (.bl k)) : v = .bl k := by
  cases h with
  | bl => rfl
  | ext _ x => cases x with | none h => exact h.elim
theorem rep_int {G : Gm} {H : Hp} {v : V} {k : Int} (h : Rep G H v (.int k)) : v = .int k := by
  cases h with
  | int => rfl
  | ext _ x => cases x with | none h => exact h.elim
theorem rep_str {G : Gm} {H : Hp} {v : V} {k : Str} (h : Rep G H v (.str k)) : v = .str k := by
  cases h with
  | str => rfl
  | ext _ x => cases x with | none h => exact h.elim
theorem rep_non {G : Gm} {H : Hp} {v : V} (h : Rep G H v .non) : v = .non := by
  cases h with
  | non => rfl
  | ext _ x => cases x with | none h => exact h.elim
theorem srep_bl {G : Gm} {F H : Hp} {v : V} {k : Bool} (h : SRep G F H v (.bl k)) : v = .bl k := by cases h with | of h => exact rep_bl h
theorem srep_int {G : Gm} {F H : Hp} {v : V} {k : Int} (h : SRep G F H v (.int k)) : v = .int k := by cases h with | of h => exact rep_int h
theorem srep_str {G : Gm} {F H : Hp} {v : V} {k : Str} (h : SRep G F H v (.str k)) : v = .str k := by cases h with | of h => exact rep_str h
theorem srep_non {G : Gm} {F H : Hp} {v : V} (h : SRep G F H v .non) : v = .non := by cases h with | of h => exact rep_non h
theorem tG_toB {σ : L2.St} {H : Hp} {Q : Bool → Hp → Prop} (h : tG G (toB fa) W σ H Q) : eG G fa W σ H fun x H' => ∃ k, x = .bl k ∧ Q k H' := by
  refine gG_bnd up_true h.c fun v d H1 h1 => ?_
  obtain ⟨F, z, hz, ef, ⟨_, r1⟩, q⟩ := gGC_ofO h1
  cases d with
  | bl k =>
    cases hz
    exact ⟨_, rep_bl r1, q _ F H1 (Grow.refl ef) rfl⟩
  | _ => cases hz
/-- a value that is a bool, as a test -/
theorem dt_val (h : PE X a (eG G fa W)) (he : ∀ whole, isTrue a X.env whole = (do let v ← whole; standAt a.pos; holding [v] (truthy v)) := by intro _; rfl) : PT X a (tG G (toB fa) W) :=
  PT.imp (pt_val h he) fun _ _ _ h => tG_toB h
theorem dt_cmp {op : CmpOp} {r : R2} {f : D → D → Option D} (ho : OpR X (compareOp op) r) (hf : OpD G r f) (ha : PE X a (eG G fa W)) (hb : PE X b (eG G fb W)) (hm : behindInMarks op b = false := by rfl) : PT X (.Compare a [op] [b] pos) (tG G (toB (eOp f fa fb)) W) := by
  refine PT.imp (pt_cmpR ho ha hb hm) fun σ H Q h => ?_
  exact eG_op hf (tG_toB h)
theorem dt_not {ta : EM Bool} (h : PT X a (tG G ta W)) : PT X (.UnaryOp .Not a pos) (tG G (tNo ta) W) := by
  refine PT.imp (pt_not h) fun σ H Q h => ?_
  exact gG_bnd up_true h.c fun k b H1 h1 => by
    obtain ⟨B, F0, F, o, env, rs, ⟨_, hk⟩, p⟩ := h1
    cases (show k = b from hk)
    exact p _ F H1 o rs (Ex.refl F) rfl
theorem dw_or1 {ta : EM Bool} (h : PT X a (tG G ta W)) : PW X (.BoolOp .Or [a] pos) (tG G ta W) := pw_or1 h
theorem tG_bnd {R A : Type} {K : Kd R A} {ta : EM Bool} {k : Bool → EM A} {σ : L2.St} {H : Hp} {Q : R → Hp → Prop} {S : Bool → Hp → Prop} (h : gG K G (bnd ta k) W σ H Q) (kk : ∀ b H', gG K G (k b) W σ H' Q → S b H') : tG G ta W σ H S := by
  refine gG_bnd (K1 := kT) up_true h.c fun b b' H' h1 => ?_
  obtain ⟨B, F0, F, o, env, rs, ⟨_, hb⟩, p⟩ := h1
  cases (show b = b' from hb)
  exact kk b H' ⟨B, F0, F, o, env, rs, p⟩
theorem dw_or {ta tb : EM Bool} (ha : PT X a (tG G ta W)) (hb : PW X (.BoolOp .Or (b :: es) pos) (tG G tb W)) : PW X (.BoolOp .Or (a :: b :: es) pos) (tG G (tOt ta tb) W) := by
  refine PW.imp (pw_or ha hb) fun σ H Q h => ?_
  refine tG_bnd h fun k H1 h1 => ?_
  cases k with
  | true => exact tGC_ret h1.c
  | false => exact h1
/-! .. as values -/
theorem eG_toB {σ : L2.St} {H : Hp} {Q : VK} {k : Bool → EM D} {R : Bool → Hp → Prop} (h : eG G (bnd (toB fa) k) W σ H Q) (kk : ∀ b H', eG G (k b) W σ H' Q → R b H') : eG G fa W σ H fun x H' => ∃ c, x = .bl c ∧ R c H' :=
  tG_toB (tG_bnd h kk)
theorem de_and1 {op} (h : PE X a (eG G fa W)) : PE X (.BoolOp op [a] pos) (eG G fa W) := pe_one h
def eAn (a b : EM D) : EM D := bnd (toB a) fun x => if x = true then b else eC (.bl false)
def eOt (a b : EM D) : EM D := bnd (toB a) fun x => if x = true then eC (.bl true) else b
def eNo (a : EM D) : EM D := bnd (toB a) fun x => eC (.bl (!x))
theorem eG_eC {d : D} {v : V} {σ : L2.St} {H : Hp} {Q : VK} (r : ∀ F, Rep G F v d) (h : eG G (eC d) W σ H Q) : Q v H := by
  obtain ⟨F, ef, _, q⟩ := gGC_rt h.c
  exact q v F H (Grow.refl ef) (r F)
theorem de_and (ha : PE X a (eG G fa W)) (hb : PE X (.BoolOp .And (b :: es) pos) (eG G fb W)) : PE X (.BoolOp .And (a :: b :: es) pos) (eG G (eAn fa fb) W) := by
  refine PE.imp (pe_and ha hb) fun σ H Q h => ?_
  refine eG_toB h fun k H1 h1 => ?_
  cases k with
  | true => exact h1
  | false => exact eG_eC (fun _ => .bl false) h1
theorem de_not (ha : PE X a (eG G fa W)) : PE X (.UnaryOp .Not a pos) (eG G (eNo fa) W) := by
  refine PE.imp (pe_not ha) fun σ H Q h => ?_
  refine eG_toB h fun k H1 h1 => ?_
  exact eG_eC (fun _ => .bl _) h1
theorem de_ifExp {tc : EM Bool} (hc : PT X c (tG G tc W)) (ha : PE X a (eG G fa W)) (hb : PE X b (eG G fb W)) : PE X (.IfExp c a b pos) (eG G (eIf tc fa fb) W) := by
  refine PE.imp (pe_ifExp hc ha hb) fun σ H Q h => ?_
  refine tG_bnd h fun k H1 h1 => ?_
  cases k with
  | true => exact h1
  | false => exact h1
end
/-! ### a look at owned things: a scalar comes of it, nothing else changes -/
section
variable {G : Gx} {X : Cx} {W : WX} {a : Expr} {fa : EM D}
end
end DL
end

section
set_option Elab.async false
set_option linter.all false
set_option autoImplicit false
set_option maxRecDepth 100000
set_option maxHeartbeats 4000000
/-! E3: operations on data. -/
namespace DL
open PySem L2

/-! ### data as the library's own -/
mutual
def toPy : D → Option PyData
  | .non => some .none
  | .bl b => some (.bool b)
  | .int i => some (.int i)
  | .str x => some (.str x)
  | .tup xs => (toPyL xs).map .tuple
  | .lst xs => (toPyL xs).map .list
  | .dct _ => none
  | .set _ => none
  | .obj _ _ => none
  | .scr _ => none
def toPyL : List D → Option (List PyData)
  | [] => some []
  | x :: xs => (toPy x).bind fun a => (toPyL xs).map fun as => a :: as
end
section
variable {G : Gm} {H : Hp}
mutual
theorem Rep.dp : ∀ {v : V} {d : D} {a : PyData}, Rep G H v d → toPy d = some a → Dp G.K H v a
  | _, _, a, .non, e => by
    rw [toPy] at e
    cases e
    exact .non
  | _, _, a, .bl b, e => by
    rw [toPy] at e
    cases e
    exact .bl b
  | _, _, a, .int b, e => by
    rw [toPy] at e
    cases e
    exact .int b
  | _, _, a, .str b, e => by
    rw [toPy] at e
    cases e
    exact .str b
  | _, _, a, .tup h r, e => by
    rw [toPy, Option.map_eq_some_iff] at e
    obtain ⟨as, e1, e2⟩ := e
    subst e2
    exact .tup h (RepL.dp r e1)
  | _, _, a, .lst h r, e => by
    rw [toPy, Option.map_eq_some_iff] at e
    obtain ⟨as, e1, e2⟩ := e
    subst e2
    exact .lst (sq_of h) (RepL.dp r e1)
  | _, _, a, .scr h r, e => by
    rw [toPy] at e
    cases e
  | _, _, a, .dK h r, e => by
    rw [toPy] at e
    cases e
  | _, _, a, .dH h n r, e => by
    rw [toPy] at e
    cases e
  | _, _, a, .ins h r, e => by
    rw [toPy] at e
    cases e
  | _, _, a, .ext h (.none z) r, e => z.elim
theorem RepL.dp : ∀ {v : List V} {d : List D} {a : List PyData}, RepL G H v d → toPyL d = some a → DpAll G.K H v a
  | _, _, a, .nil, e => by
    rw [toPyL] at e
    cases e
    exact .nil
  | _, _, a, .cons h r, e => by
    rw [toPyL, Option.bind_eq_some_iff] at e
    obtain ⟨x, e1, e2⟩ := e
    rw [Option.map_eq_some_iff] at e2
    obtain ⟨xs, e3, e4⟩ := e2
    subst e4
    exact .cons (Rep.dp h e1) (RepL.dp r e3)
end
end
def eqB (d e : D) : Option Bool := (toPy d).bind fun a => (toPy e).bind fun b => if (SeqAt.shaped a && SeqAt.shaped b) = true then some (PyData.eqv a b) else none
def eqD (d e : D) : Option D := (eqB d e).map .bl
def neD (d e : D) : Option D := (eqB d e).map fun b => .bl (!b)
theorem eqB_some {d e : D} {b : Bool} (h : eqB d e = some b) : ∃ x y, toPy d = some x ∧ toPy e = some y ∧ SeqAt.shaped x = true ∧ SeqAt.shaped y = true ∧ PyData.eqv x y = b := by
  unfold eqB at h
  rw [Option.bind_eq_some_iff] at h
  obtain ⟨x, h1, h⟩ := h
  rw [Option.bind_eq_some_iff] at h
  obtain ⟨y, h2, h⟩ := h
  split at h
  · rename_i hs
    rw [Bool.and_eq_true] at hs
    exact ⟨x, y, h1, h2, hs.1, hs.2, Option.some.inj h⟩
  · cases h
section
variable {G : Gm}
theorem od_ne : OpD G (rNeD G.K) neD := by
  intro F H x y d e z Q ef r1 r2 hz q
  unfold neD at hz
  rw [Option.map_eq_some_iff] at hz
  obtain ⟨b, hb, rfl⟩ := hz
  obtain ⟨p, p', h1, h2, h3, h4, rfl⟩ := eqB_some hb
  exact ⟨p, p', (r1.deep ef).dp h1, (r2.deep ef).dp h2, h3, h4, q _ F H (Grow.refl ef) (.bl _)⟩

/-! ### ints -/
def i2 (f : Int → Int → Option D) : D → D → Option D
  | .int i, .int j => f i j
  | _, _ => none
theorem od_i0 {g : Int → Int → V} {f : Int → Int → D} (h : ∀ i j F, Rep G F (g i j) (f i j)) : OpD G (rI0 g) (i2 fun i j => some (f i j)) := by
  intro F H x y d e z Q ef r1 r2 hz q
  cases d with
  | int i =>
    cases e with
    | int j =>
      cases hz
      exact ⟨i, j, srep_int r1, srep_int r2, q _ F H (Grow.refl ef) (h i j F)⟩
    | _ => cases hz
  | _ => cases hz
theorem od_iC {C C' : Int → Int → Prop} [∀ i j, Decidable (C' i j)] {g : Int → Int → V} {f : Int → Int → D} (hC : ∀ i j, C' i j → C i j) (h : ∀ i j F, Rep G F (g i j) (f i j)) : OpD G (rI C g) (i2 fun i j => if C' i j then some (f i j) else none) := by
  intro F H x y d e z Q ef r1 r2 hz q
  cases d with
  | int i =>
    cases e with
    | int j =>
      unfold i2 at hz
      simp only at hz
      split at hz
      · rename_i hc
        cases hz
        exact ⟨i, j, srep_int r1, srep_int r2, hC i j hc, q _ F H (Grow.refl ef) (h i j F)⟩
      · cases hz
    | _ => cases hz
  | _ => cases hz
def ltD : D → D → Option D := i2 fun i j => some (.bl (decide (i < j)))
def leD : D → D → Option D := i2 fun i j => some (.bl (decide (i ≤ j)))
def gtD : D → D → Option D := i2 fun i j => some (.bl (decide (j < i)))
def geD : D → D → Option D := i2 fun i j => some (.bl (decide (j ≤ i)))
def subD : D → D → Option D := i2 fun i j => some (.int (i - j))
def fdivD : D → D → Option D := i2 fun i j => if 0 < j ∧ j.natAbs.log2 < 9000 then some (.int (i / j)) else none
def modD : D → D → Option D := i2 fun i j => if 0 < j then some (.int (i % j)) else none
def powD : D → D → Option D := i2 fun i j => if 0 ≤ j ∧ j ≤ 1000000 ∧ i.natAbs < 18446744073709551616 then some (.int (i ^ j.toNat)) else none
theorem od_lt : OpD G (rI0 fun i j => .bl (decide (i < j))) ltD := od_i0 fun i j _ => .bl _
theorem od_le : OpD G (rI0 fun i j => .bl (decide (i ≤ j))) leD := od_i0 fun i j _ => .bl _
theorem od_gt : OpD G (rI0 fun i j => .bl (decide (j < i))) gtD := od_i0 fun i j _ => .bl _
theorem od_ge : OpD G (rI0 fun i j => .bl (decide (j ≤ i))) geD := od_i0 fun i j _ => .bl _
theorem od_fdiv : OpD G (rI CDivW fun i j => .int (i / j)) fdivD := od_iC (fun i j h => h) fun i j _ => .int _
theorem od_mod : OpD G (rI (fun _ j => 0 < j) fun i j => .int (i % j)) modD := od_iC (C' := fun _ j => 0 < j) (fun i j h => h) fun i j _ => .int _
theorem od_pow : OpD G (rI CPow fun i j => .int (i ^ j.toNat)) powD := od_iC (C' := fun i j => 0 ≤ j ∧ j ≤ 1000000 ∧ i.natAbs < 18446744073709551616) (fun i j h => ⟨h.1, h.2.1, h.2.2⟩) fun i j _ => .int _
def negD : D → Option D
  | .int i => some (.int (-i))
  | _ => none
theorem ud_neg : UnD G (rU fun i => .int (-i)) negD := by
  intro F H x d z Q ef r1 hz q
  cases d with
  | int i =>
    cases hz
    exact ⟨i, rep_int r1, q _ F H (Grow.refl ef) (.int _)⟩
  | _ => cases hz

/-! ### is -/
def isNon : D → Bool
  | .non => true
  | _ => false
def isD : D → D → Option D
  | .bl a, .bl b => some (.bl (decide (a = b)))
  | d, .non => some (.bl (isNon d))
  | _, _ => none
def notIsD (d e : D) : Option D := match isD d e with
  | some (.bl b) => some (.bl (!b))
  | _ => none
def rIsAll : R2 := fun x y H Q => rIsB x y H Q ∨ (y = .non ∧ Q (.bl (decide (x = .non))) H)
theorem op_isAll {X : Cx} : OpR X (compareOp .Is) rIsAll := OpR.or op_isBl op_isN
theorem srep_isNon {F H : Hp} {v : V} {d : D} (h : SRep G F H v d) : decide (v = .non) = isNon d := by
  cases h with
  | of h =>
    cases h with
    | ext _ x => cases x with | none h => exact h.elim
    | _ => rfl
  | _ => rfl
theorem isD_cases {d e z : D} (h : isD d e = some z) : (∃ a b, d = .bl a ∧ e = .bl b ∧ z = .bl (decide (a = b))) ∨ (e = .non ∧ z = .bl (isNon d)) := by
  unfold isD at h
  split at h
  · cases h
    exact .inl ⟨_, _, rfl, rfl, rfl⟩
  · cases h
    exact .inr ⟨rfl, rfl⟩
  · cases h
theorem od_is : OpD G rIsAll isD := by
  intro F H x y d e z Q ef r1 r2 hz q
  rcases isD_cases hz with ⟨a, b, rfl, rfl, rfl⟩ | ⟨rfl, rfl⟩
  · exact .inl ⟨a, b, srep_bl r1, srep_bl r2, q _ F H (Grow.refl ef) (.bl _)⟩
  · refine .inr ⟨srep_non r2, ?_⟩
    rw [srep_isNon r1]
    exact q _ F H (Grow.refl ef) (.bl _)
/-! ### + and * -/
def rCatS (K : PySem.W.Frag) : R2 := fun x y H Q => ∃ l b xs zs, x = .ref l ∧ y = .ref b ∧ SqL K H l xs ∧ SqL K H b zs ∧ xs.length + zs.length ≤ sizeLine ∧ ∀ p, H p = none → Q (.ref p) (upd H p (.lst (xs ++ zs)))
theorem op_catS {X : Cx} : OpR X (binaryOp .Add) (rCatS X.K) := by
  intro pins s σ H x y v u Q I rx ry h
  obtain ⟨l, b, xs, zs, rfl, rfl, hl, hb, hz, q⟩ := h
  obtain ⟨i1, v1, ⟨⟨c1, k1, g1, w1⟩, n1, e1, f1, f2, f3⟩, _⟩ := I.list hl
  obtain ⟨i2, v2, ⟨⟨c2, k2, g2, w2⟩, n2, e2, f4, f5, f6⟩, _⟩ := I.list hb
  cases rx
  cases ry
  simp only at f1 f2 f3 f4 f5 f6
  subst f1 f2 f3 f4 f5 f6
  have t1 := v1.length
  have t2 := v2.length
  refine PySem.concat_meets ⟨_, e1, rfl⟩ ⟨_, e2, rfl⟩ PySem.noFill_list_add PySem.seq_list_add PySem.F.slot_list_add PySem.F.entry_list_add (PySem.F.args_list_add_2 _ _)
    (PyProof.Rows.list_addW l b i1.toArray i2.toArray n1 n2 none none w1 w2 (by simp; omega)) ⟨e1, e2, ?_⟩
  rw [show i1.toArray ++ i2.toArray = (i1 ++ i2).toArray by simp]
  exact ⟨.ref _, _, I.lnew (t' := s.toks) (v1.append v2) (by simpa using hz), rfl, q _ I.fresh⟩
def addD : D → D → Option D
  | .int i, .int j => some (.int (i + j))
  | .str a, .str b => if a.length + b.length ≤ 1000000 then some (.str (a ++ b)) else none
  | .lst a, .lst b => if a.length + b.length ≤ 1000000 then some (.lst (a ++ b)) else none
  | .tup a, .tup b => if a.length + b.length ≤ 1000000 then some (.tup (a ++ b)) else none
  | .scr a, .lst b => if a.length + b.length ≤ 1000000 then some (.lst (a ++ b)) else none
  | _, _ => none
def rStrCat : R2 := fun x y H Q => ∃ i j, x = .str i ∧ y = .str j ∧ i.length + j.length ≤ sizeLine ∧ Q (.str (i ++ j)) H
def rAddAll (K : PySem.W.Frag) : R2 := fun x y H Q => rI0 (fun i j => .int (i + j)) x y H Q ∨ rStrCat x y H Q ∨ rCatS K x y H Q ∨ rCatA K x y H Q
theorem op_addAll {X : Cx} : OpR X (binaryOp .Add) (rAddAll X.K) := OpR.or op_add (OpR.or op_add_str (OpR.or op_catS op_catA))
theorem rep_lst {H : Hp} {v : V} {ds : List D} (h : Rep G H v (.lst ds)) : ∃ a xs, v = .ref a ∧ H a = some (.lst xs) ∧ RepL G H xs ds := by
  cases h with
  | lst h1 h2 => exact ⟨_, _, rfl, h1, h2⟩
  | ext _ x => cases x with | none h => exact h.elim
theorem rep_scr {H : Hp} {v : V} {ds : List D} (h : Rep G H v (.scr ds)) : ∃ a xs, v = .ref a ∧ SqL G.K H a xs ∧ RepL G H xs ds := by
  cases h with
  | scr h1 h2 => exact ⟨_, _, rfl, h1, h2⟩
  | ext _ x => cases x with | none h => exact h.elim
theorem rep_tup {H : Hp} {v : V} {ds : List D} (h : Rep G H v (.tup ds)) : ∃ a xs, v = .ref a ∧ SqT G.K H a xs ∧ RepL G H xs ds := by
  cases h with
  | tup h1 h2 => exact ⟨_, _, rfl, h1, h2⟩
  | ext _ x => cases x with | none h => exact h.elim
theorem srep_lst {F H : Hp} {v : V} {ds : List D} (ef : Ex F H) (h : SRep G F H v (.lst ds)) : ∃ a xs, v = .ref a ∧ H a = some (.lst xs) ∧ RepL G F xs ds := by
  cases h with
  | of h =>
    obtain ⟨a, xs, h1, h2, h3⟩ := rep_lst h
    exact ⟨a, xs, h1, ef _ _ h2, h3⟩
  | lst h1 h2 => exact ⟨_, _, rfl, h1, h2⟩
theorem srep_scr {F H : Hp} {v : V} {ds : List D} (ef : Ex F H) (h : SRep G F H v (.scr ds)) : ∃ a xs, v = .ref a ∧ SqL G.K H a xs ∧ RepL G F xs ds := by
  cases h with
  | of h =>
    obtain ⟨a, xs, h1, h2, h3⟩ := rep_scr h
    exact ⟨a, xs, h1, ex_l ef h2, h3⟩
theorem srep_tup {F H : Hp} {v : V} {ds : List D} (ef : Ex F H) (h : SRep G F H v (.tup ds)) : ∃ a xs, v = .ref a ∧ SqT G.K F a xs ∧ RepL G F xs ds := by
  cases h with
  | of h => exact rep_tup h
theorem new_lst {F H : Hp} {p : Addr} {vs : List V} {ds : List D} (ef : Ex F H) (hp : H p = none) (r : RepL G F vs ds) : Rep G (upd F p (.lst vs)) (.ref p) (.lst ds) := .lst upd_same (r.mono (Ex.new (ef.back hp)))
theorem new_tup {F H : Hp} {p : Addr} {vs : List V} {ds : List D} (ef : Ex F H) (hp : H p = none) (r : RepL G F vs ds) : Rep G (upd F p (.tup vs)) (.ref p) (.tup ds) := .tup (st_of upd_same) (r.mono (Ex.new (ef.back hp)))
theorem od_add : OpD G (rAddAll G.K) addD := by
  intro F H x y d e z Q ef r1 r2 hz q
  cases d with
  | int i =>
    cases e with
    | int j =>
      cases hz
      exact .inl ⟨i, j, srep_int r1, srep_int r2, q _ F H (Grow.refl ef) (.int _)⟩
    | _ => cases hz
  | str i =>
    cases e with
    | str j =>
      unfold addD at hz
      simp only at hz
      split at hz
      · rename_i hl
        cases hz
        exact .inr (.inl ⟨i, j, srep_str r1, srep_str r2, le_line hl, q _ F H (Grow.refl ef) (.str _)⟩)
      · cases hz
    | _ => cases hz
  | lst i =>
    cases e with
    | lst j =>
      unfold addD at hz
      simp only at hz
      split at hz
      · rename_i hl
        cases hz
        obtain ⟨a, xs, rfl, h1, s1⟩ := srep_lst ef r1
        obtain ⟨b, ys, rfl, h2, s2⟩ := srep_lst ef r2
        refine .inr (.inr (.inl ⟨a, b, xs, ys, rfl, rfl, sq_of h1, sq_of h2, le_line (by rw [s1.length, s2.length]; exact hl), fun p hp => ?_⟩))
        exact q _ _ _ (Grow.new ef hp) (new_lst ef hp (s1.append s2))
      · cases hz
    | _ => cases hz
  | tup i =>
    cases e with
    | tup j =>
      unfold addD at hz
      simp only at hz
      split at hz
      · rename_i hl
        cases hz
        obtain ⟨a, xs, rfl, h1, s1⟩ := srep_tup ef r1
        obtain ⟨b, ys, rfl, h2, s2⟩ := srep_tup ef r2
        refine .inr (.inr (.inr ⟨a, b, xs, ys, rfl, rfl, ex_t ef h1, ex_t ef h2, le_line (by rw [s1.length, s2.length]; exact hl), fun hx => ?_, fun hx hy => ?_, fun hx hy p hp => ?_⟩))
        · subst hx
          cases s1
          exact q _ F H (Grow.refl ef) (.tup h2 s2)
        · subst hy
          cases s2
          rw [List.append_nil] at q
          exact q _ F H (Grow.refl ef) (.tup h1 s1)
        · exact q _ _ _ (Grow.new ef hp) (new_tup ef hp (s1.append s2))
      · cases hz
    | _ => cases hz
  | scr i =>
    cases e with
    | lst j =>
      unfold addD at hz
      simp only at hz
      split at hz
      · rename_i hl
        cases hz
        obtain ⟨a, xs, rfl, h1, s1⟩ := srep_scr ef r1
        obtain ⟨b, ys, rfl, h2, s2⟩ := srep_lst ef r2
        refine .inr (.inr (.inl ⟨a, b, xs, ys, rfl, rfl, h1, sq_of h2, le_line (by rw [s1.length, s2.length]; exact hl), fun p hp => ?_⟩))
        exact q _ _ _ (Grow.new ef hp) (new_lst ef hp (s1.append s2))
      · cases hz
    | _ => cases hz
  | _ => cases hz
def mulD : D → D → Option D
  | .int i, .int j => if i.natAbs < 18446744073709551616 ∨ j.natAbs < 18446744073709551616 ∨ i.natAbs.log2 + j.natAbs.log2 < 1000000 then some (.int (i * j)) else none
  | .lst a, .int k => if 0 ≤ k ∧ k ≤ 1000 ∧ a.length ≤ 1000 then some (.lst (List.replicate k.toNat a).flatten) else none
  | .tup a, .int k => if 2 ≤ k ∧ k ≤ 1000 ∧ a.length ≤ 1000 ∧ a ≠ [] then some (.tup (List.replicate k.toNat a).flatten) else none
  | _, _ => none
def rMulAll (K : PySem.W.Frag) : R2 := fun x y H Q => rI CMul (fun i j => .int (i * j)) x y H Q ∨ rI CMulW (fun i j => .int (i * j)) x y H Q ∨ rRep x y H Q ∨ rRepT K x y H Q
theorem op_mulAll {X : Cx} : OpR X (binaryOp .Mult) (rMulAll X.K) := OpR.or op_mul (OpR.or op_mulW (OpR.or op_rep op_repT))
theorem repL_rep {H : Hp} {vs : List V} {ds : List D} (r : RepL G H vs ds) : ∀ n : Nat, RepL G H (List.replicate n vs).flatten (List.replicate n ds).flatten
  | 0 => .nil
  | n + 1 => by
    rw [List.replicate_succ, List.replicate_succ, List.flatten_cons, List.flatten_cons]
    exact r.append (repL_rep r n)
theorem od_mul : OpD G (rMulAll G.K) mulD := by
  intro F H x y d e z Q ef r1 r2 hz q
  cases e with
  | int j =>
    cases d with
    | int i =>
      unfold mulD at hz
      simp only at hz
      split at hz
      · rename_i hc
        cases hz
        have e1 := srep_int r1
        have e2 := srep_int r2
        have qq := q _ F H (Grow.refl ef) (.int (i * j))
        rcases hc with h | h | h
        · exact .inl ⟨i, j, e1, e2, .inl ⟨by omega, by omega⟩, qq⟩
        · exact .inl ⟨i, j, e1, e2, .inr ⟨by omega, by omega⟩, qq⟩
        · exact .inr (.inl ⟨i, j, e1, e2, h, qq⟩)
      · cases hz
    | lst i =>
      unfold mulD at hz
      simp only at hz
      split at hz
      · rename_i hc
        cases hz
        obtain ⟨a, xs, rfl, h1, s1⟩ := srep_lst ef r1
        have hl := s1.length
        have hm : xs.length * j.toNat ≤ 1000 * 1000 := Nat.mul_le_mul (by omega) (by omega)
        refine .inr (.inr (.inl ⟨a, j, xs, rfl, srep_int r2, h1, by omega, by omega, le_line hm, fun p hp => ?_⟩))
        exact q _ _ _ (Grow.new ef hp) (new_lst ef hp (repL_rep s1 _))
      · cases hz
    | tup i =>
      unfold mulD at hz
      simp only at hz
      split at hz
      · rename_i hc
        cases hz
        obtain ⟨a, xs, rfl, h1, s1⟩ := srep_tup ef r1
        have hl := s1.length
        refine .inr (.inr (.inr ⟨a, j, xs, rfl, srep_int r2, ex_t ef h1, ?_, hc.1, hc.2.1, by omega, fun p hp => ?_⟩))
        · intro z
          subst z
          cases s1
          exact hc.2.2.2 rfl
        · exact q _ _ _ (Grow.new ef hp) (new_tup ef hp (repL_rep s1 _))
      · cases hz
    | _ => cases hz
  | _ => cases d <;> cases hz
end

/-- the parts of a slice -/
def oNone : EM (Option Int) := fun env => .ok (none, env)
def oSome (a : EM D) : EM (Option Int) := bnd a fun d => ofO (match d with | .int i => some (some i) | _ => none)
def cutD (xs : List D) (lo hi : Option Int) : List D := (xs.drop (HT.sIx xs.length 0 lo)).take (HT.sIx xs.length xs.length hi - HT.sIx xs.length 0 lo)
def sliceD (d : D) (lo hi : Option Int) : Option D := match d with
  | .lst xs => some (.lst (cutD xs lo hi))
  | .scr xs => some (.lst (cutD xs lo hi))
  | .tup xs => some (.tup (cutD xs lo hi))
  | _ => none
def eSl (a : EM D) (lo hi : EM (Option Int)) : EM D := bnd a fun d => bnd lo fun l => bnd hi fun h => ofO (sliceD d l h)
def eSlX (a : EM XD) (lo hi : EM (Option Int)) : EM D := bnd a fun x => bnd lo fun l => bnd hi fun h => fun env => ofO ((rslv env x).bind fun d => sliceD d l h) env
section
variable {G : Gx} {X : Cx} {W : WX} {a : Expr} {fa : EM D} {xa : EM XD} {pos p2 : Pos}
theorem do_none : PO X none (oG G oNone W) := PO.imp po_none fun σ H Q ⟨B, F0, F, o, env, rs, p⟩ => p none F H o rs (Ex.refl F) rfl
theorem do_some (h : PE X a (eG G fa W)) : PO X (some a) (oG G (oSome fa) W) := by
  refine PO.imp (po_some h) fun σ H Q h => ?_
  refine gG_bnd up_true h.c fun v d H1 h1 => ?_
  obtain ⟨F, z, hz, ef, ⟨_, r1⟩, q⟩ := gGC_ofO h1
  cases d with
  | int i =>
    cases hz
    exact ⟨i, rep_int r1, q _ F H1 (Grow.refl ef) rfl⟩
  | _ => cases hz
theorem cut_rep {H : Hp} {vs : List V} {ds : List D} (r : RepL G H vs ds) (lo hi : Option Int) : RepL G H (cutV vs lo hi) (cutD ds lo hi) := by
  unfold cutV cutD
  rw [r.length]
  exact (r.drop _).take _
def rSlAll (K : PySem.W.Frag) : V → Option Int → Option Int → Hp → VK → Prop := fun x lo hi H Q => rSlL K x lo hi H Q ∨ rSlA K x lo hi H Q
theorem slice_ok {F H3 : Hp} {v : V} {d z : D} {l u : Option Int} {Q : VK} (ef : Ex F H3) (r1 : SRep G F H3 v d) (hz : sliceD d l u = some z) (q : ∀ v F' H', Grow F H3 F' H' → Rep G F' v z → Q v H') : rSlAll G.K v l u H3 Q := by
  cases d with
  | lst xs =>
    cases hz
    obtain ⟨a, vs, rfl, e1, s1⟩ := srep_lst ef r1
    exact .inl ⟨a, vs, rfl, sq_of e1, fun p hp => q _ _ _ (Grow.new ef hp) (new_lst ef hp (cut_rep s1 l u))⟩
  | scr xs =>
    cases hz
    obtain ⟨a, vs, rfl, e1, s1⟩ := srep_scr ef r1
    exact .inl ⟨a, vs, rfl, e1, fun p hp => q _ _ _ (Grow.new ef hp) (new_lst ef hp (cut_rep s1 l u))⟩
  | tup xs =>
    cases hz
    obtain ⟨a, vs, rfl, e1, s1⟩ := srep_tup ef r1
    refine .inr ⟨a, vs, rfl, ex_t ef e1, fun hw => ?_, fun hw p hp => q _ _ _ (Grow.new ef hp) (new_tup ef hp (cut_rep s1 l u))⟩
    have e : cutD xs l u = xs := by
      unfold cutD
      rw [← s1.length, hw.1, hw.2]
      simp [s1.length]
    rw [e] at q
    exact q _ F H3 (Grow.refl ef) (.tup e1 s1)
  | _ => cases hz
theorem oG_bnd {R A : Type} {K : Kd R A} {C : Hp → Prop} (up : Up C) {ta : EM (Option Int)} {k : Option Int → EM A} {σ : L2.St} {H : Hp} {Q : R → Hp → Prop} {S : Option Int → Hp → Prop} (h : gGC K G C (bnd ta k) W σ H Q) (kk : ∀ b H', gGC K G C (k b) W σ H' Q → S b H') : oG G ta W σ H S := by
  refine gG_bnd (K1 := kO) up h fun b b' H' h1 => ?_
  obtain ⟨B, F0, F, o, env, rs, ⟨hC, hb⟩, p⟩ := h1
  cases (show b = b' from hb)
  exact kk b H' ⟨B, F0, F, o, env, rs, hC, p⟩
theorem de_slice {lo hi : Option Expr} {fl fh : EM (Option Int)} (ha : PE X a (eG G fa W)) (hl : PO X lo (oG G fl W)) (hh : PO X hi (oG G fh W)) (hK : G.K = X.K := by rfl) : PE X (.Subscript a (.Slice lo hi none p2) pos) (eG G (eSl fa fl fh) W) := by
  refine PE.imp (pe_slice (r := rSlAll X.K) (SlR.or sl_list sl_tupA) ha hl hh) fun σ H Q h => ?_
  refine gG_bnd up_true h.c fun v d H1 h1 => oG_bnd (up_true.and up_k) h1 fun l H2 h2 => oG_bnd (up_true.and up_k) h2 fun u H3 h3 => ?_
  obtain ⟨F, z, hz, ef, ⟨_, r1⟩, q⟩ := gGC_ofO h3
  rw [← hK]
  exact slice_ok ef (.of r1) hz q
end

/-! ### built-in functions -/
def lenD : List D → Option D
  | [.lst xs] => some (.int xs.length)
  | [.tup xs] => some (.int xs.length)
  | [.scr xs] => some (.int xs.length)
  | [.str x] => if x.length ≤ 1000000 then some (.int x.length) else none
  | _ => none
def absD : List D → Option D
  | [.int i] => some (.int (if i < 0 then -i else i))
  | _ => none
def maxD : List D → Option D
  | [.int i, .int j] => some (.int (if j > i then j else i))
  | _ => none
def minD : List D → Option D
  | [.int i, .int j] => some (.int (if j < i then j else i))
  | _ => none
def toIntD : List D → Option D
  | [.int i] => some (.int i)
  | [.bl k] => some (.int (if k then 1 else 0))
  | _ => none
def tupleD : List D → Option D
  | [.lst xs] => some (.tup xs)
  | [.tup xs] => some (.tup xs)
  | _ => none
def listD : List D → Option D
  | [.lst xs] => some (.lst xs)
  | [.tup xs] => some (.lst xs)
  | [.scr xs] => some (.lst xs)
  | _ => none
def bools : List D → Option (List Bool)
  | [] => some []
  | .bl b :: r => (bools r).map (b :: ·)
  | _ => none
def allD : List D → Option D
  | [.lst xs] => (bools xs).map fun bs => .bl (bs.all id)
  | _ => none
section
variable {G : Gm}
theorem repL1 {F H : Hp} {vs : List V} {d : D} (h : SRepL G F H vs [d]) : ∃ v, vs = [v] ∧ SRep G F H v d := by
  cases h with
  | cons a b =>
    cases b
    exact ⟨_, rfl, a⟩
theorem repL2 {F H : Hp} {vs : List V} {d e : D} (h : SRepL G F H vs [d, e]) : ∃ v u, vs = [v, u] ∧ SRep G F H v d ∧ SRep G F H u e := by
  cases h with
  | cons a b =>
    obtain ⟨u, rfl, c⟩ := repL1 b
    exact ⟨_, _, rfl, a, c⟩
theorem bools_rep : ∀ {ds : List D} {bs : List Bool} {F : Hp} {vs : List V}, bools ds = some bs → RepL G F vs ds → vs = bs.map V.bl
  | [], bs, F, vs, h, r => by
    cases h
    cases r
    rfl
  | d :: ds, bs, F, vs, h, r => by
    cases r with
    | cons a b =>
      cases d with
      | bl k =>
        unfold bools at h
        rw [Option.map_eq_some_iff] at h
        obtain ⟨bs', h1, rfl⟩ := h
        rw [rep_bl a, bools_rep h1 b]
        rfl
      | _ => cases h
def rLenAll (K : PySem.W.Frag) : List V → Hp → VK → Prop := fun xs H Q => ∃ x n, xs = [x] ∧ LenV K x H n ∧ Q (.int n) H
theorem ad_len : AppD G (rLenAll G.K) lenD := by
  intro F H xs ds z Q ef r hz q
  unfold lenD at hz
  split at hz
  · cases hz
    obtain ⟨v, rfl, h⟩ := repL1 r
    obtain ⟨a, vs, rfl, h1, s1⟩ := srep_lst ef h
    refine ⟨_, _, rfl, .inl ⟨vs, sq_of h1, rfl⟩, ?_⟩
    rw [s1.length]
    exact q _ F H (Grow.refl ef) (.int _)
  · cases hz
    obtain ⟨v, rfl, h⟩ := repL1 r
    obtain ⟨a, vs, rfl, h1, s1⟩ := srep_tup ef h
    refine ⟨_, _, rfl, .inr ⟨vs, ex_t ef h1, rfl⟩, ?_⟩
    rw [s1.length]
    exact q _ F H (Grow.refl ef) (.int _)
  · cases hz
    obtain ⟨v, rfl, h⟩ := repL1 r
    obtain ⟨a, vs, rfl, h1, s1⟩ := srep_scr ef h
    refine ⟨_, _, rfl, .inl ⟨vs, h1, rfl⟩, ?_⟩
    rw [s1.length]
    exact q _ F H (Grow.refl ef) (.int _)
  · split at hz
    · rename_i hl
      cases hz
      obtain ⟨v, rfl, h⟩ := repL1 r
      have e := srep_str h
      subst e
      exact ⟨_, _, rfl, ⟨le_line hl, rfl⟩, q _ F H (Grow.refl ef) (.int _)⟩
    · cases hz
  · cases hz
theorem ad_abs : AppD G (fun xs H Q => ∃ i, xs = [.int i] ∧ Q (.int (if i < 0 then -i else i)) H) absD := by
  intro F H xs ds z Q ef r hz q
  unfold absD at hz
  split at hz
  · cases hz
    obtain ⟨v, rfl, h⟩ := repL1 r
    have e := srep_int h
    subst e
    exact ⟨_, rfl, q _ F H (Grow.refl ef) (.int _)⟩
  · cases hz
theorem ad_max : AppD G (fun xs H Q => ∃ i j, xs = [.int i, .int j] ∧ Q (.int (if j > i then j else i)) H) maxD := by
  intro F H xs ds z Q ef r hz q
  unfold maxD at hz
  split at hz
  · cases hz
    obtain ⟨v, u, rfl, h, h'⟩ := repL2 r
    have e := srep_int h
    have e' := srep_int h'
    subst e e'
    exact ⟨_, _, rfl, q _ F H (Grow.refl ef) (.int _)⟩
  · cases hz
theorem ad_min : AppD G (fun xs H Q => ∃ i j, xs = [.int i, .int j] ∧ Q (.int (if j < i then j else i)) H) minD := by
  intro F H xs ds z Q ef r hz q
  unfold minD at hz
  split at hz
  · cases hz
    obtain ⟨v, u, rfl, h, h'⟩ := repL2 r
    have e := srep_int h
    have e' := srep_int h'
    subst e e'
    exact ⟨_, _, rfl, q _ F H (Grow.refl ef) (.int _)⟩
  · cases hz
theorem ad_int : AppD G (fun xs H Q => (∃ i, xs = [.int i] ∧ Q (.int i) H) ∨ ∃ k, xs = [.bl k] ∧ Q (.int (if k then 1 else 0)) H) toIntD := by
  intro F H xs ds z Q ef r hz q
  unfold toIntD at hz
  split at hz
  · cases hz
    obtain ⟨v, rfl, h⟩ := repL1 r
    have e := srep_int h
    subst e
    exact .inl ⟨_, rfl, q _ F H (Grow.refl ef) (.int _)⟩
  · cases hz
    obtain ⟨v, rfl, h⟩ := repL1 r
    have e := srep_bl h
    subst e
    exact .inr ⟨_, rfl, q _ F H (Grow.refl ef) (.int _)⟩
  · cases hz
theorem ad_tuple : AppD G (fun xs H Q => ∃ p ys, xs = [.ref p] ∧ ((SqL G.K H p ys ∧ ∀ l, H l = none → Q (.ref l) (upd H l (.tup ys))) ∨ (SqT G.K H p ys ∧ Q (.ref p) H))) tupleD := by
  intro F H xs ds z Q ef r hz q
  unfold tupleD at hz
  split at hz
  · cases hz
    obtain ⟨v, rfl, h⟩ := repL1 r
    obtain ⟨a, vs, rfl, h1, s1⟩ := srep_lst ef h
    exact ⟨_, _, rfl, .inl ⟨sq_of h1, fun p hp => q _ _ _ (Grow.new ef hp) (new_tup ef hp s1)⟩⟩
  · cases hz
    obtain ⟨v, rfl, h⟩ := repL1 r
    obtain ⟨a, vs, rfl, h1, s1⟩ := srep_tup ef h
    exact ⟨_, _, rfl, .inr ⟨ex_t ef h1, q _ F H (Grow.refl ef) (.tup h1 s1)⟩⟩
  · cases hz
theorem ad_list : AppD G (fun xs H Q => ∃ p ys, xs = [.ref p] ∧ (SqL G.K H p ys ∨ SqT G.K H p ys) ∧ ∀ l, H l = none → Q (.ref l) (upd H l (.lst ys))) listD := by
  intro F H xs ds z Q ef r hz q
  unfold listD at hz
  split at hz
  · cases hz
    obtain ⟨v, rfl, h⟩ := repL1 r
    obtain ⟨a, vs, rfl, h1, s1⟩ := srep_lst ef h
    exact ⟨_, _, rfl, .inl (sq_of h1), fun p hp => q _ _ _ (Grow.new ef hp) (new_lst ef hp s1)⟩
  · cases hz
    obtain ⟨v, rfl, h⟩ := repL1 r
    obtain ⟨a, vs, rfl, h1, s1⟩ := srep_tup ef h
    exact ⟨_, _, rfl, .inr (ex_t ef h1), fun p hp => q _ _ _ (Grow.new ef hp) (new_lst ef hp s1)⟩
  · cases hz
    obtain ⟨v, rfl, h⟩ := repL1 r
    obtain ⟨a, vs, rfl, h1, s1⟩ := srep_scr ef h
    exact ⟨_, _, rfl, .inl (h1), fun p hp => q _ _ _ (Grow.new ef hp) (new_lst ef hp s1)⟩
  · cases hz
theorem ad_all : AppD G (rAll G.K) allD := by
  intro F H xs ds z Q ef r hz q
  unfold allD at hz
  split at hz
  · rw [Option.map_eq_some_iff] at hz
    obtain ⟨bs, h1, rfl⟩ := hz
    obtain ⟨v, rfl, h⟩ := repL1 r
    obtain ⟨a, vs, rfl, h2, s1⟩ := srep_lst ef h
    have e := bools_rep h1 s1
    subst e
    exact ⟨a, bs, rfl, sq_of h2, q _ F H (Grow.refl ef) (.bl _)⟩
  · cases hz
end
end DL
end

section
set_option Elab.async false
set_option linter.all false
set_option autoImplicit false
set_option maxRecDepth 100000
set_option maxHeartbeats 4000000
/-! E4: dicts with keys of both kinds; items; in. -/
namespace DL
open PySem L2 PyProof.Rows

/-! ### keys -/
def toK : D → Option Key
  | .int i => some (.inl i)
  | .str x => some (.inr x)
  | _ => none
theorem keyD_inj {a b : Key} (h : keyD a = keyD b) : a = b := by
  cases a <;> cases b <;> simp [keyD] at h <;> simp [h]
mutual
inductive KeyV (K : PySem.W.Frag) (H : Hp) : Nat → D → V → Prop
  | int (n : Nat) (i : Int) : KeyV K H n (.int i) (.int i)
  | str (n : Nat) (x : Str) : KeyV K H n (.str x) (.str x)
  | tup {n : Nat} {a : Addr} {vs : List V} {ds : List D} : SqT K H a vs → KeyVL K H n ds vs → KeyV K H (n + 1) (.tup ds) (.ref a)
inductive KeyVL (K : PySem.W.Frag) (H : Hp) : Nat → List D → List V → Prop
  | nil (n : Nat) : KeyVL K H n [] []
  | cons {n : Nat} {d : D} {ds : List D} {v : V} {vs : List V} : KeyV K H n d v → KeyVL K H n ds vs → KeyVL K H n (d :: ds) (v :: vs)
end
mutual
theorem Rep.key {G : Gm} {H : Hp} : ∀ {v : V} {d : D} {n : Nat}, Rep G H v d → keyOk n d = true → KeyV G.K H n d v
  | _, _, n, .non, e => by cases n <;> simp [keyOk] at e
  | _, _, n, .bl _, e => by cases n <;> simp [keyOk] at e
  | _, _, n, .int i, e => .int n i
  | _, _, n, .str i, e => .str n i
  | _, _, 0, .tup h r, e => by simp [keyOk] at e
  | _, _, n + 1, .tup h r, e => .tup h (RepL.key r (by simpa [keyOk] using e))
  | _, _, n, .lst _ _, e => by cases n <;> simp [keyOk] at e
  | _, _, n, .scr _ _, e => by cases n <;> simp [keyOk] at e
  | _, _, n, .dK _ _, e => by cases n <;> simp [keyOk] at e
  | _, _, n, .dH _ _ _, e => by cases n <;> simp [keyOk] at e
  | _, _, n, .ins _ _, e => by cases n <;> simp [keyOk] at e
  | _, _, n, .ext _ (.none z) _, e => z.elim
theorem RepL.key {G : Gm} {H : Hp} : ∀ {v : List V} {d : List D} {n : Nat}, RepL G H v d → keyOkL n d = true → KeyVL G.K H n d v
  | _, _, n, .nil, e => .nil n
  | _, _, n, .cons a b, e => by
    simp only [keyOkL, Bool.and_eq_true] at e
    exact .cons (Rep.key a e.1) (RepL.key b e.2)
end
section
variable {X : Cx} {pins : List (Addr × Obj)} {σ : L2.St} {H : Hp} {s : Shared}
mutual
theorem KeyV.at (I : Inv X pins σ H s) : ∀ {n : Nat} {d : D} {v : V} {u : Value}, KeyV X.K H n d v → RelV v u → KeyAt s.heap n d u
  | _, _, _, _, .int n i, r => by
    obtain ⟨t, rfl⟩ := r
    exact .int n i t
  | _, _, _, _, .str n i, r => by
    obtain ⟨t, rfl⟩ := r
    exact .str n i t
  | _, _, _, _, .tup h k, r => by
    cases r
    obtain ⟨its, rv, ⟨o, h1, h2, m, h3⟩, _⟩ := I.tuple h
    exact .tup h1 h2 h3 (KeyVL.at I k (by simpa using rv))
theorem KeyVL.at (I : Inv X pins σ H s) : ∀ {n : Nat} {d : List D} {v : List V} {u : List Value}, KeyVL X.K H n d v → Vals v u → KeyAtL s.heap n d u
  | _, _, _, _, .nil n, r => by
    cases r
    exact .nil n
  | _, _, _, _, .cons a b, r => by
    cases r with
    | cons r1 r2 => exact .cons (KeyV.at I a r1) (KeyVL.at I b r2)
end
end

/-! ### dicts with tuple keys over the layer -/
def valH (xs : List (D × Addr × V)) (k : D) : Option V := match xs with
  | [] => none
  | x :: r => if x.1 = k then some x.2.2 else valH r k
def putH (xs : List (D × Addr × V)) (k : D) (b : Addr) (v : V) : List (D × Addr × V) := if (valH xs k).isSome = true then xs.map (fun e => if e.1 = k then (e.1, e.2.1, v) else e) else xs ++ [(k, b, v)]
/-- at a stands a dict with the tuple keys xs (an empty one is of both kinds) -/
def DHv (P : Program) (w : World) (H : Hp) (a : Addr) (xs : List (D × Addr × V)) : Prop := ∃ od, H a = some (dHO P w a xs od) ∨ (xs = [] ∧ H a = some (dKO P w a [] od))
abbrev KP : List (D × Addr × V) → List (D × Addr × Value) → Prop := Paired (fun (p : D × Addr × V) (q : D × Addr × Value) => p.1 = q.1 ∧ p.2.1 = q.2.1 ∧ RelV p.2.2 q.2.2)
theorem KP.val {xs : List (D × Addr × V)} {ys : List (D × Addr × Value)} (r : KP xs ys) (k : D) : RelO (valH xs k) ((atKey ys k).map (·.2)) := by
  induction r with
  | nil => exact True.intro
  | @cons p q ps qs h t ih =>
    obtain ⟨h1, _, h2⟩ := h
    unfold valH
    by_cases e : p.1 = k
    · have e' : q.1 = k := h1.symm.trans e
      have b : atKey (q :: qs) k = some q.2 := by simp [atKey, List.find?_cons, e']
      rw [if_pos e, b]; exact h2
    · have e' : ¬ q.1 = k := fun z => e (h1.trans z)
      have b : atKey (q :: qs) k = atKey qs k := by simp [atKey, List.find?_cons, e']
      rw [if_neg e, b]; exact ih
theorem KP.repl {xs : List (D × Addr × V)} {ys : List (D × Addr × Value)} (r : KP xs ys) (k : D) {y : V} {u : Value} (ry : RelV y u) : KP (xs.map fun e => if e.1 = k then (e.1, e.2.1, y) else e) (ys.map (putAt k u)) := by
  induction r with
  | nil => exact .nil
  | @cons p q ps qs h t ih =>
    rw [List.map_cons, List.map_cons]
    refine .cons ?_ ih
    obtain ⟨h1, h2, h3⟩ := h
    unfold putAt
    by_cases e : p.1 = k
    · rw [if_pos e, if_pos (h1.symm.trans e)]; exact ⟨h1, h2, ry⟩
    · rw [if_neg e, if_neg (fun z => e (h1.trans z))]; exact ⟨h1, h2, h3⟩
theorem KP.put {xs : List (D × Addr × V)} {ys : List (D × Addr × Value)} (r : KP xs ys) (k : D) {b : Addr} {y : V} {u : Value} (ry : RelV y u) : KP (putH xs k b y) (storedH ys k b u) := by
  have e : (valH xs k).isSome = (atKey ys k).isSome := by rw [(r.val k).isSome_eq, Option.isSome_map]
  unfold putH storedH
  rw [e]
  by_cases q : (atKey ys k).isSome = true
  · rw [if_pos q, if_pos q]; exact r.repl k ry
  · rw [if_neg q, if_neg q]; exact Paired.snoc r ⟨rfl, rfl, ry⟩
theorem length_putH (xs : List (D × Addr × V)) (k : D) (b : Addr) (v : V) : (putH xs k b v).length ≤ xs.length + 1 := by
  unfold putH
  split <;> simp
section
variable {X : Cx} {pins : List (Addr × Obj)} {σ : L2.St} {H : Hp} {s : Shared} {a : Addr} {xs : List (D × Addr × V)} {A : Around} {E : Value → Shared → Prop}
theorem hd_new {P : Program} {w : World} {H' : Hp} {h' : Heap} {a : Addr} {xs : List (D × Addr × V)} {ys : List (D × Addr × Value)} {od : Obj} {es : Array DictEntry} {ep : Nat} (z : xs.length ≤ sizeLine) (hd : (a == sysModules) = false) (rel : KP xs ys) (e : h'.get? a = some od) (h2 : od.ExactDict) (h3 : od.data = .dict es ep) (h4 : es.toList = ys.map (entryOfKey (keyKind P w))) (h5 : (ys.map (·.1)).Nodup) :
    L2.ObjOk P w H' h' a (dHO P w a xs od) := by
  refine ⟨⟨z, hd, ys, rel, es, ep, e, h2, h3, h4, h5⟩, ⟨od, e⟩, ?_⟩
  rintro g1 g2 ⟨e1, e2, ys', e3, es', ep', e4, e5, e6, e7, e8⟩ keep
  exact ⟨e1, e2, ys', e3, es', ep', keep _ e4, e5, e6, e7, e8⟩
theorem kd_rd {kvs : List (Key × V)} {od : Obj} (I : Inv X pins σ H s) (h : H a = some (dKO X.prog X.w a kvs od)) : kvs.length ≤ sizeLine ∧ (a == sysModules) = false ∧ s.heap.get? a = some od ∧ ∃ vs, KV kvs vs ∧ s.heap.DictOf (mixKind X.prog X.w) a vs := (I.hok a _ h).1
theorem dh_rd (I : Inv X pins σ H s) (h : DHv X.prog X.w H a xs) (hk : ∀ e ∈ xs, KeyV X.K H 8 e.1 (.ref e.2.1)) : xs.length ≤ sizeLine ∧ (a == sysModules) = false ∧ ∃ ys, KP xs ys ∧ s.heap.DictOfH (keyKind X.prog X.w) a ys := by
  obtain ⟨od, h | ⟨rfl, h⟩⟩ := h
  · obtain ⟨⟨h1, h2, ys, h3, es, ep, h4, h5, h6, h7, h8⟩, _⟩ := I.hok a _ h
    refine ⟨h1, h2, ys, h3, od, es, ep, h4, h5, h6, h7, fun x hx => ?_, h8⟩
    have all : ∀ {l : List (D × Addr × V)} {m : List (D × Addr × Value)}, KP l m → (∀ e ∈ l, KeyV X.K H 8 e.1 (.ref e.2.1)) → ∀ x ∈ m, (keyKind X.prog X.w).is s.heap x.1 x.2.1 := by
      intro l m q
      induction q with
      | nil => intro _ x hx; exact nomatch hx
      | @cons p q ps qs hq t ih =>
        intro hl x hx
        rcases List.mem_cons.mp hx with e | hx
        · subst e
          have z := (hl p List.mem_cons_self).at (u := .ref p.2.1) I rfl
          rw [hq.1, hq.2.1] at z
          exact z
        · exact ih (fun e he => hl e (List.mem_cons_of_mem _ he)) x hx
    exact all h3 hk x hx
  · obtain ⟨z, hd, _, vs, rel, o, es, ep, h4, h5, h6, h7, h8⟩ := kd_rd I h
    cases rel
    have h7' : es.toList = [] := by
      obtain ⟨h8, _⟩ := h8
      generalize es.toList = l at h8
      cases h8
      rfl
    exact ⟨Nat.zero_le _, hd, [], .nil, o, es, ep, h4, h5, h6, by simpa using h7', fun x hx => by simp at hx, List.nodup_nil⟩
/-- what the dict x holds at y -/
def GetR (X : Cx) (x y : V) (H : Hp) (r : Option V) : Prop := (∃ a kvs k od, x = .ref a ∧ y = kV k ∧ H a = some (dKO X.prog X.w a kvs od) ∧ r = valV kvs k) ∨ ∃ a b xs k, x = .ref a ∧ y = .ref b ∧ DHv X.prog X.w H a xs ∧ (∀ e ∈ xs, KeyV X.K H 8 e.1 (.ref e.2.1)) ∧ KeyV X.K H 8 k (.ref b) ∧ r = valH xs k
theorem g_getItem {x y v : V} {v' u : Value} {Q : Value → Shared → Prop} (hu : A.units + 64 < cLine) (I : Inv X pins σ H s) (g : GetR X x y H (some v)) (rx : RelV x v') (ry : RelV y u) (h : ∀ w' s', Inv X pins σ H s' → RelV v w' → Q w' s') :
    s.TypeIs v' "dict" ∧ wpAny (model X.prog X.w) A (getItem v' u) Q E s := by
  rcases g with ⟨a, kvs, k, od, rfl, rfl, he, hr⟩ | ⟨a, b, xs, k, rfl, rfl, hd, hk, kb, hr⟩
  · cases rx
    obtain ⟨z, hd, _, vs, rel, dd⟩ := kd_rd I he
    obtain ⟨w', hw, rw'⟩ := RelO.some_of (v := v) (o := valueAt vs k) (by rw [hr]; exact rel.val k)
    exact ⟨dd.typeIs, wpAny_getItem_of (kV_is ry) dd.mapOf hw (h w' _ (I.tok _) rw')⟩
  · cases rx
    cases ry
    obtain ⟨z, hd', ys, rel, dd⟩ := dh_rd I hd hk
    refine ⟨dd.typeIs, ?_⟩
    obtain ⟨w', hw, rw'⟩ := RelO.some_of (v := v) (o := (atKey ys k).map (·.2)) (by rw [hr]; exact rel.val k)
    obtain ⟨p, hp, hp2⟩ := Option.map_eq_some_iff.mp hw
    have hin : A.in1.units = A.units + 1 := rfl
    refine wpAny_getItem_heap (knd := keyKind X.prog X.w) (show A.in1.units + 20 < cLine by omega) (kb.at (u := .ref b) I rfl) dd hp ?_
    rw [hp2]
    exact h w' _ (I.tok _) rw'
theorem g_in {x y : V} {v' u : Value} {o : Option V} {Q : Value → Shared → Prop} (hu : A.units + 64 < cLine) (I : Inv X pins σ H s) (g : GetR X x y H o) (rx : RelV x v') (ry : RelV y u) (h : ∀ s', Inv X pins σ H s' → Q (.bool o.isSome) s') :
    wpAny (model X.prog X.w) A (compareOp .In u v') Q E s := by
  rcases g with ⟨a, kvs, k, od, rfl, rfl, he, hr⟩ | ⟨a, b, xs, k, rfl, rfl, hd, hk, kb, hr⟩
  · cases rx
    obtain ⟨z, hd, _, vs, rel, dd⟩ := kd_rd I he
    refine wpAny_in_of (kV_is ry) hd dd.mapOf ?_
    rw [← (rel.val k).isSome_eq, ← hr]
    exact h _ (I.tok _)
  · cases rx
    cases ry
    obtain ⟨z, hd', ys, rel, dd⟩ := dh_rd I hd hk
    have hin : A.in1.units = A.units + 1 := rfl
    refine wpAny_in_heap (knd := keyKind X.prog X.w) (show A.in1.units + 20 < cLine by omega) (kb.at (u := .ref b) I rfl) hd' dd ?_
    have q := (rel.val k).isSome_eq
    rw [Option.isSome_map] at q
    rw [← q, ← hr]
    exact h _ (I.tok _)
/-- the heap behind x[y] = v -/
def PutR (X : Cx) (x y v : V) (H : Hp) (Q : Hp → Prop) : Prop := (∃ a kvs k od, x = .ref a ∧ y = kV k ∧ H a = some (dKO X.prog X.w a kvs od) ∧ kvs.length < sizeLine ∧ ∀ od', Q (upd H a (dKO X.prog X.w a (putK kvs k v) od'))) ∨
  ∃ a b xs k, x = .ref a ∧ y = .ref b ∧ DHv X.prog X.w H a xs ∧ (∀ e ∈ xs, KeyV X.K H 8 e.1 (.ref e.2.1)) ∧ KeyV X.K H 8 k (.ref b) ∧ xs.length < sizeLine ∧ ∀ od', Q (upd H a (dHO X.prog X.w a (putH xs k b v) od'))
theorem g_setItem {x y v : V} {v' u r : Value} {QH : Hp → Prop} {Q : Unit → Shared → Prop} (hu : A.units + 64 < cLine) (I : Inv X pins σ H s) (g : PutR X x y v H QH) (rx : RelV x v') (ry : RelV y u) (rv : RelV v r) (h : ∀ s' H', Inv X pins σ H' s' → QH H' → Q () s') :
    wpAny (model X.prog X.w) A (setItem v' u r) Q E s := by
  rcases g with ⟨a, kvs, k, od, rfl, rfl, he, hl, hq⟩ | ⟨a, b, xs, k, rfl, rfl, hd, hk, kb, hl, hQ⟩
  · cases rx
    obtain ⟨z, hd, _, vs, rel, dd⟩ := kd_rd I he
    have hz : vs.length ≤ sizeLine := by rw [← rel.length]; exact z
    have hl2 : (putK kvs k v).length ≤ sizeLine := by have := length_putK kvs k v; omega
    refine wpAny_setItem_pairs (hsz := hz) (kV_is ry) dd fun h' dd' hs => ?_
    obtain ⟨q, _, _, hq', _⟩ := id dd'
    exact h _ _ (d_write I (by rw [he]; exact True.intro) hs ⟨q, hq'⟩ (kd_new hl2 hd hq' (rel.put k rv) dd')) (hq q)
  · cases rx
    cases ry
    obtain ⟨z, hd', ys, rel, dd⟩ := dh_rd I hd hk
    have hz : ys.length ≤ sizeLine := by rw [← Paired.length rel]; exact z
    have hl' : (putH xs k b v).length ≤ sizeLine := by have := length_putH xs k b v; omega
    have hin : A.in1.units = A.units + 1 := rfl
    refine wpAny_setItem_heap (knd := keyKind X.prog X.w) (hsz := hz) (show A.in1.units + 20 < cLine by omega) (kb.at (u := .ref b) I rfl) dd fun h' dd' hs => ?_
    obtain ⟨q, es, ep, hq, h2, h3, h4, _, h5⟩ := dd'
    have mu : Mut (H a) := by
      obtain ⟨od, e | ⟨_, e⟩⟩ := hd
      · rw [e]; exact True.intro
      · rw [e]; exact True.intro
    exact h _ _ (d_write (ob := dHO X.prog X.w a (putH xs k b v) q) I mu hs ⟨q, hq⟩ (hd_new hl' hd' (rel.put k rv) hq h2 h3 h4 h5)) (hQ q)
theorem dk_len {kvs : List (Key × V)} {od : Obj} (I : Inv X pins σ H s) (h : H a = some (dKO X.prog X.w a kvs od)) {Q : Value → Shared → Prop} (q : ∀ t s', Inv X pins σ H s' → Q (.int kvs.length t) s') : wpAny (model X.prog X.w) A (call (.builtin "len") [.ref a]) Q E s := by
  obtain ⟨z, hd, _, vs, rel, dd⟩ := kd_rd I h
  refine call_len_dict hd dd (by rw [← rel.length]; rw [sizeLine_eq] at z; omega) ?_
  rw [← rel.length]
  exact q _ _ (I.tok _)
theorem dh_len (I : Inv X pins σ H s) {od : Obj} (h : H a = some (dHO X.prog X.w a xs od)) (hk : ∀ e ∈ xs, KeyV X.K H 8 e.1 (.ref e.2.1)) {Q : Value → Shared → Prop} (q : ∀ t s', Inv X pins σ H s' → Q (.int xs.length t) s') : wpAny (model X.prog X.w) A (call (.builtin "len") [.ref a]) Q E s := by
  obtain ⟨z, hd, ys, rel, dd⟩ := dh_rd I ⟨od, .inl h⟩ hk
  have hl : xs.length = ys.length := Paired.length rel
  refine call_len_dictH hd dd (by rw [← hl]; rw [sizeLine_eq] at z; omega) ?_
  rw [← hl]
  exact q _ _ (I.tok _)
end
end DL
end

section
set_option Elab.async false
set_option linter.all false
set_option autoImplicit false
set_option maxRecDepth 100000
set_option maxHeartbeats 4000000
/-! E5: items, in, dict.get, len by data. -/
namespace DL
open PySem L2 PyProof.Rows

def dgetL : List (D × D) → D → Option D
  | [], _ => none
  | (a, v) :: r, k => if a = k then some v else dgetL r k
def dputL (kvs : List (D × D)) (k v : D) : List (D × D) := if (dgetL kvs k).isSome = true then kvs.map (fun p => if p.1 = k then (p.1, v) else p) else kvs ++ [(k, v)]
def kOk (kvs : List (D × D)) (k : D) : Bool := keyOk 8 k && (match kvs with
  | [] => true
  | (k0, _) :: _ => isTup k0 == isTup k)
section
variable {G : Gm}
theorem rep_dct {H : Hp} {v : V} {ds : List (D × D)} (h : Rep G H v (.dct ds)) : ∃ a, v = .ref a ∧ ((∃ od ks, H a = some (dKO G.P G.w a ks od) ∧ RepK G H ks ds) ∨ ∃ od xs, H a = some (dHO G.P G.w a xs od) ∧ xs ≠ [] ∧ RepH G H xs ds) := by
  cases h with
  | dK h1 h2 => exact ⟨_, rfl, .inl ⟨_, _, h1, h2⟩⟩
  | dH h1 n h2 => exact ⟨_, rfl, .inr ⟨_, _, h1, n, h2⟩⟩
  | ext _ x => cases x with | none h => exact h.elim
theorem srep_dct {F H : Hp} {v : V} {ds : List (D × D)} (ef : Ex F H) (h : SRep G F H v (.dct ds)) : ∃ a, v = .ref a ∧ ((∃ od ks, H a = some (dKO G.P G.w a ks od) ∧ RepK G F ks ds) ∨ ∃ od xs, H a = some (dHO G.P G.w a xs od) ∧ xs ≠ [] ∧ RepH G F xs ds) := by
  cases h with
  | of h =>
    obtain ⟨a, e, h | h⟩ := rep_dct h
    · obtain ⟨od, ks, h1, h2⟩ := h
      exact ⟨a, e, .inl ⟨od, ks, ef _ _ h1, h2⟩⟩
    · obtain ⟨od, ks, h1, n, h2⟩ := h
      exact ⟨a, e, .inr ⟨od, ks, ef _ _ h1, n, h2⟩⟩
  | dK h1 h2 => exact ⟨_, rfl, .inl ⟨_, _, h1, h2⟩⟩
  | dH h1 n h2 => exact ⟨_, rfl, .inr ⟨_, _, h1, n, h2⟩⟩
theorem RepK.val {F : Hp} : ∀ {ks : List (Key × V)} {ds : List (D × D)}, RepK G F ks ds → ∀ k : Key, match dgetL ds (keyD k) with
    | some d => ∃ v, valV ks k = some v ∧ Rep G F v d
    | none => valV ks k = none
  | _, _, .nil, k => by simp [dgetL, valV]
  | _, _, .cons (k := k0) h r, k => by
    unfold dgetL
    by_cases e : k0 = k
    · subst e
      simp only [if_pos]
      exact ⟨_, valV_pos rfl, h⟩
    · rw [if_neg fun z => e (keyD_inj z), valV_neg e]
      exact RepK.val r k
theorem RepH.val {F : Hp} : ∀ {xs : List (D × Addr × V)} {ds : List (D × D)}, RepH G F xs ds → ∀ k : D, match dgetL ds k with
    | some d => ∃ v, valH xs k = some v ∧ Rep G F v d
    | none => valH xs k = none
  | _, _, .nil, k => by simp [dgetL, valH]
  | _, _, .cons (k := k0) z q h r, k => by
    unfold dgetL valH
    by_cases e : k0 = k
    · subst e
      simp only [if_pos]
      exact ⟨_, rfl, h⟩
    · rw [if_neg e, if_neg e]
      exact RepH.val r k
theorem RepH.keys {F H : Hp} (ef : Ex F H) : ∀ {xs : List (D × Addr × V)} {ds : List (D × D)}, RepH G F xs ds → ∀ e ∈ xs, KeyV G.K H 8 e.1 (.ref e.2.1)
  | _, _, .nil, e, he => by cases he
  | _, _, .cons z q h r, e, he => by
    rcases List.mem_cons.mp he with rfl | he
    · exact (q.mono ef).key z
    · exact RepH.keys ef r e he
theorem keyOk_cases {n : Nat} {k : D} (h : keyOk n k = true) : (∃ c, k = keyD c ∧ isTup k = false) ∨ (∃ ds, k = .tup ds ∧ isTup k = true) := by
  cases k with
  | int i => exact .inl ⟨.inl i, rfl, rfl⟩
  | str i => exact .inl ⟨.inr i, rfl, rfl⟩
  | tup ds => exact .inr ⟨ds, rfl, rfl⟩
  | _ => cases n <;> simp [keyOk] at h
/-- where a key is looked up -/
theorem getR_of {X : Cx} (fit : Fit G X) {F H : Hp} {x y : V} {kvs : List (D × D)} {k : D} (ef : Ex F H) (hx : SRep G F H x (.dct kvs)) (hy : SRep G F H y k) (hk : kOk kvs k = true) : ∃ r, GetR X x y H r ∧ match dgetL kvs k with
    | some d => ∃ v, r = some v ∧ Rep G F v d
    | none => r = none := by
  obtain ⟨fp, fw, fk⟩ := fit
  unfold kOk at hk
  rw [Bool.and_eq_true] at hk
  obtain ⟨hk1, hk2⟩ := hk
  obtain ⟨a, rfl, ⟨od, ks, h1, h2⟩ | ⟨od, xs, h1, hn, h2⟩⟩ := srep_dct ef hx
  · rcases keyOk_cases hk1 with ⟨c, rfl, ht⟩ | ⟨ds, rfl, ht⟩
    · have e : y = kV c := by
        cases c with
        | inl i => exact srep_int hy
        | inr x => exact srep_str hy
      subst e
      exact ⟨_, .inl ⟨a, ks, c, od, rfl, rfl, by rw [← fp, ← fw]; exact h1, rfl⟩, h2.val c⟩
    · have e0 : kvs = [] := by
        cases h2 with
        | nil => rfl
        | @cons k0 v vs d ds h r =>
          cases k0 <;> simp [isTup, keyD] at hk2
      subst e0
      cases h2
      obtain ⟨b, vs, rfl, _, _⟩ := srep_tup ef hy
      refine ⟨none, .inr ⟨a, b, [], .tup ds, rfl, rfl, ⟨od, .inr ⟨rfl, by rw [← fp, ← fw]; exact h1⟩⟩, fun e he => (by cases he), ?_, rfl⟩, rfl⟩
      rw [← fk]
      exact (hy.deep ef).key hk1
  · rcases keyOk_cases hk1 with ⟨c, rfl, ht⟩ | ⟨ds, rfl, ht⟩
    · exfalso
      cases h2 with
      | nil => exact hn rfl
      | cons z q h r =>
        rcases keyOk_cases z with ⟨c', rfl, _⟩ | ⟨ds', rfl, _⟩
        · cases c' with
          | inl i => have := rep_int q; cases this
          | inr i => have := rep_str q; cases this
        · cases c <;> simp [isTup, keyD] at hk2
    · obtain ⟨b, vs, rfl, _, _⟩ := srep_tup ef hy
      refine ⟨valH xs _, .inr ⟨a, b, xs, _, rfl, rfl, ⟨od, .inl (by rw [← fp, ← fw]; exact h1)⟩, by rw [← fk]; exact h2.keys ef, by rw [← fk]; exact (hy.deep ef).key hk1, rfl⟩, h2.val (.tup ds)⟩
end

/-! ### x[i] -/
def idxD : D → D → Option D
  | .lst xs, .int i => atI xs i
  | .tup xs, .int i => atI xs i
  | .scr xs, .int i => atI xs i
  | .str x, .int i => if x.length ≤ 1000000 then (atI x.cps.toList i).map fun c => .str ⟨#[c]⟩ else none
  | .dct kvs, k => if kOk kvs k = true then dgetL kvs k else none
  | _, _ => none
def rIxDct (X : Cx) : R2 := fun x y H Q => ∃ v, GetR X x y H (some v) ∧ Q v H
theorem ix_dct {X : Cx} (hu : X.A.units + 64 < cLine) : IxR X (rIxDct X) := by
  intro value slice pins s σ H x y v u Q I rx ry h hs
  obtain ⟨z, g, q⟩ := h
  have hb := g_getItem (A := X.A) (E := X.xe) (Q := fun w' s' => EP X pins σ Q w' s') hu I g rx ry fun w' s' J rw' => ⟨z, H, J, rw', q⟩
  obtain ⟨hT, hw⟩ := hb
  unfold subscriptTail
  refine wpAny_bind ?_
  rw [getitemInPython_of_ne hT.not_modules]
  refine wpAny_bind (wpAny_specialOf hT PySem.F.slot_dict_getitem.lookup ?_)
  have fin : wpAny (model X.prog X.w) X.A (subscripted slice false v u) (fun r s₃ => wpAny (model X.prog X.w) X.A (letTemporaryGo value v r >>= fun _ => pure r) (EP X pins σ Q) X.xe s₃) X.xe s := by
    rw [hs]
    exact wpAny_operating (wpAny_mono hw (fun r s₃ h₃ => wpAny_bind (wpAny_letTemporaryGo (wpAny_pure h₃))) fun _ _ x => x)
  first
    | exact wpAny_pure (wpAny_bind fin)
    | exact wpAny_bind (wpAny_pure (wpAny_bind fin))
    | exact wpAny_bind fin
def rIxAll (X : Cx) : R2 := fun x y H Q => rIxL X.K x y H Q ∨ rIxT X.K x y H Q ∨ rIxS x y H Q ∨ rIxDct X x y H Q
theorem ix_all {X : Cx} (hu : X.A.units + 64 < cLine) : IxR X (rIxAll X) := L2.IxR.or ix_list (L2.IxR.or ix_tup (L2.IxR.or ix_str (ix_dct hu)))
section
variable {G : Gm} {X : Cx}
theorem atI_rep {H : Hp} {vs : List V} {ds : List D} (r : RepL G H vs ds) {i : Int} {d : D} (h : atI ds i = some d) : ∃ v, atI vs i = some v ∧ Rep G H v d := by
  unfold atI at h ⊢
  rw [Option.bind_eq_some_iff] at h
  obtain ⟨j, h1, h2⟩ := h
  obtain ⟨v, h3, h4⟩ := r.get h2
  exact ⟨v, by rw [r.length, h1]; exact h3, h4⟩
theorem od_ix (fit : Fit G X) : OpD G (rIxAll X) idxD := by
  intro F H x y d e z Q ef r1 r2 hz q
  have dct : ∀ kvs, d = .dct kvs → rIxAll X x y H Q := by
    rintro kvs rfl
    have hz' : (if kOk kvs e = true then dgetL kvs e else none) = some z := by
      cases e <;> exact hz
    split at hz'
    · rename_i hk
      obtain ⟨r, g, m⟩ := getR_of fit ef r1 r2 hk
      rw [hz'] at m
      obtain ⟨v, rfl, rv⟩ := m
      exact .inr (.inr (.inr ⟨v, g, q v F H (Grow.refl ef) rv⟩))
    · cases hz'
  cases d with
  | dct kvs => exact dct kvs rfl
  | lst xs =>
    cases e with
    | int i =>
      obtain ⟨a, vs, rfl, h1, s1⟩ := srep_lst ef r1
      obtain ⟨v, h3, h4⟩ := atI_rep s1 hz
      exact .inl ⟨a, vs, i, v, rfl, srep_int r2, sq_of h1, h3, q v F H (Grow.refl ef) h4⟩
    | _ => cases hz
  | scr xs =>
    cases e with
    | int i =>
      obtain ⟨a, vs, rfl, h1, s1⟩ := srep_scr ef r1
      obtain ⟨v, h3, h4⟩ := atI_rep s1 hz
      exact .inl ⟨a, vs, i, v, rfl, srep_int r2, by rw [← fit.k]; exact h1, h3, q v F H (Grow.refl ef) h4⟩
    | _ => cases hz
  | tup xs =>
    cases e with
    | int i =>
      obtain ⟨a, vs, rfl, h1, s1⟩ := srep_tup ef r1
      obtain ⟨v, h3, h4⟩ := atI_rep s1 hz
      exact .inr (.inl ⟨a, vs, i, v, rfl, srep_int r2, by rw [← fit.k]; exact ex_t ef h1, h3, q v F H (Grow.refl ef) h4⟩)
    | _ => cases hz
  | str x =>
    cases e with
    | int i =>
      unfold idxD at hz
      simp only at hz
      split at hz
      · rename_i hl
        rw [Option.map_eq_some_iff] at hz
        obtain ⟨c, hc, rfl⟩ := hz
        exact .inr (.inr (.inl ⟨x, i, c, srep_str r1, srep_int r2, le_line hl, hc, q _ F H (Grow.refl ef) (.str _)⟩))
      · cases hz
    | _ => cases hz
  | _ => cases e <;> cases hz
end
section
variable {G : Gx} {X : Cx} {W : WX} {a b : Expr} {fa fb : EM D} {xa xb : EM XD} {pos : Pos}
theorem de_ix (fit : Fit G X) (hu : X.A.units + 64 < cLine) (ha : PE X a (eG G fa W)) (hb : PE X b (eG G fb W)) (hs : PlainIx b := by exact fun _ _ => rfl) : PE X (.Subscript a b pos) (eG G (eOp idxD fa fb) W) :=
  PE.imp (pe_ix (r := rIxAll X) (ix_all hu) ha hb hs) fun _ _ _ h => eG_op (od_ix fit) h
theorem de_ixX (fit : Fit G X) (hu : X.A.units + 64 < cLine) (ha : PE X a (xG G xa W)) (hb : PE X b (xG G xb W)) (hs : PlainIx b := by exact fun _ _ => rfl) : PE X (.Subscript a b pos) (eG G (eOpX idxD xa xb) W) :=
  PE.imp (pe_ix (r := rIxAll X) (ix_all hu) ha hb hs) fun _ _ _ h => eG_opX (od_ix fit) h
end

/-! ### x in y -/
def inB : D → D → Option Bool
  | .str x, .str y => match x.cps.toList with
    | [c] => some (decide (c ∈ y.cps.toList))
    | _ => none
  | k, .dct kvs => if kOk kvs k = true then some (dgetL kvs k).isSome else none
  | d, .lst xs => (toPy d).bind fun a => (toPyL xs).bind fun as => if (SeqAt.shaped a && SeqAt.shaped (.list as)) = true then some (as.any fun z => PyData.eqv z a) else none
  | d, .tup xs => (toPy d).bind fun a => (toPyL xs).bind fun as => if (SeqAt.shaped a && SeqAt.shaped (.tuple as)) = true then some (as.any fun z => PyData.eqv z a) else none
  | _, _ => none
def inD (d e : D) : Option D := (inB d e).map .bl
def rInB (X : Cx) (f : Bool → Bool) : R2 := fun x y H Q => (∃ (c : Nat) (z : Str), x = .str ⟨#[c]⟩ ∧ y = .str z ∧ Q (.bl (f (decide (c ∈ z.cps.toList)))) H) ∨ (∃ o, GetR X y x H o ∧ Q (.bl (f o.isSome)) H) ∨
  (∃ d ds, Dp X.K H x d ∧ Dp X.K H y (.list ds) ∧ SeqAt.shaped d = true ∧ SeqAt.shaped (.list ds) = true ∧ Q (.bl (f (ds.any fun z => PyData.eqv z d))) H) ∨
  (∃ d ds, Dp X.K H x d ∧ Dp X.K H y (.tuple ds) ∧ SeqAt.shaped d = true ∧ SeqAt.shaped (.tuple ds) = true ∧ Q (.bl (f (ds.any fun z => PyData.eqv z d))) H)
section
variable {X : Cx}
theorem op_inDct (hu : X.A.units + 64 < cLine) : OpR X (compareOp .In) (fun x y H Q => ∃ o, GetR X y x H o ∧ Q (.bl o.isSome) H) := by
  intro pins s σ H x y v u Q I rx ry h
  obtain ⟨o, g, q⟩ := h
  exact g_in hu I g ry rx fun s' J => ⟨.bl _, H, J, rfl, q⟩
theorem op_inTup (hu : X.A.units + 65 < cLine) : OpR X (compareOp .In) (fun x y H Q => ∃ d ds, Dp X.K H x d ∧ Dp X.K H y (.tuple ds) ∧ SeqAt.shaped d = true ∧ SeqAt.shaped (.tuple ds) = true ∧ Q (.bl (ds.any fun z => PyData.eqv z d)) H) := by
  intro pins s σ H x y v u Q I rx ry h
  obtain ⟨d, ds, h1, h2, h3, h4, q⟩ := h
  obtain ⟨as, r1⟩ := Dp.reads I d x v h1 rx
  obtain ⟨bs, r2⟩ := Dp.reads I _ y u h2 ry
  exact SeqAt.in_tuple_reads r2 r1 (SeqAt.canLay_of_shaped h4) (SeqAt.canLay_of_shaped h3) (room_in_shaped h3 hu) ⟨.bl _, H, I, rfl, q⟩
theorem op_in (hu : X.A.units + 65 < cLine) : OpR X (compareOp .In) (rInB X id) := OpR.or op_in_sign (OpR.or (op_inDct (by omega)) (OpR.or (op_inD hu) (op_inTup hu)))
end
section
variable {G : Gm} {X : Cx}
theorem srep_one {F H : Hp} {v : V} {x : Str} {c : Nat} (h : SRep G F H v (.str x)) (e : x.cps.toList = [c]) : v = .str ⟨#[c]⟩ := by
  rw [srep_str h]
  congr 1
  obtain ⟨cps⟩ := x
  congr 1
  exact Array.toList_inj.mp e
theorem in_ok (fit : Fit G X) (f : Bool → Bool) {F H : Hp} {x y : V} {d e : D} {b : Bool} {Q : VK} (ef : Ex F H) (r1 : SRep G F H x d) (r2 : SRep G F H y e) (hz : inB d e = some b) (q : ∀ v F' H', Grow F H F' H' → Rep G F' v (.bl (f b)) → Q v H') : rInB X f x y H Q := by
  have seqs : ∀ {a : PyData}, toPy d = some a → Dp X.K H x a := fun h => by rw [← fit.k]; exact (r1.deep ef).dp h
  have dct : ∀ kvs, e = .dct kvs → (∃ o, GetR X y x H o ∧ Q (.bl (f o.isSome)) H) := by
    rintro kvs rfl
    have hz' : (if kOk kvs d = true then some (dgetL kvs d).isSome else none) = some b := by cases d <;> exact hz
    split at hz'
    · rename_i hk
      obtain ⟨r, g, m⟩ := getR_of fit ef r2 r1 hk
      refine ⟨r, g, ?_⟩
      have er : r.isSome = b := by
        injection hz' with hz'
        rw [← hz']
        split at m
        · rename_i d' hd
          obtain ⟨v, rfl, _⟩ := m
          rw [hd]
          rfl
        · rename_i hd
          rw [hd, m]
          rfl
      rw [er]
      exact q _ F H (Grow.refl ef) (.bl _)
    · cases hz'
  have lst : ∀ xs, e = .lst xs → ∃ d' ds, Dp X.K H x d' ∧ Dp X.K H y (.list ds) ∧ SeqAt.shaped d' = true ∧ SeqAt.shaped (.list ds) = true ∧ Q (.bl (f (ds.any fun z => PyData.eqv z d'))) H := by
    rintro xs rfl
    have hz' : ((toPy d).bind fun a => (toPyL xs).bind fun as => if (SeqAt.shaped a && SeqAt.shaped (.list as)) = true then some (as.any fun z => PyData.eqv z a) else none) = some b := by cases d <;> exact hz
    rw [Option.bind_eq_some_iff] at hz'
    obtain ⟨a, h1, hz'⟩ := hz'
    rw [Option.bind_eq_some_iff] at hz'
    obtain ⟨as, h2, hz'⟩ := hz'
    split at hz'
    · rename_i hs
      rw [Bool.and_eq_true] at hs
      injection hz' with hz'
      refine ⟨a, as, seqs h1, ?_, hs.1, hs.2, ?_⟩
      · rw [← fit.k]
        exact (r2.deep ef).dp (by rw [toPy, h2]; rfl)
      · rw [hz']
        exact q _ F H (Grow.refl ef) (.bl _)
    · cases hz'
  have tup : ∀ xs, e = .tup xs → ∃ d' ds, Dp X.K H x d' ∧ Dp X.K H y (.tuple ds) ∧ SeqAt.shaped d' = true ∧ SeqAt.shaped (.tuple ds) = true ∧ Q (.bl (f (ds.any fun z => PyData.eqv z d'))) H := by
    rintro xs rfl
    have hz' : ((toPy d).bind fun a => (toPyL xs).bind fun as => if (SeqAt.shaped a && SeqAt.shaped (.tuple as)) = true then some (as.any fun z => PyData.eqv z a) else none) = some b := by cases d <;> exact hz
    rw [Option.bind_eq_some_iff] at hz'
    obtain ⟨a, h1, hz'⟩ := hz'
    rw [Option.bind_eq_some_iff] at hz'
    obtain ⟨as, h2, hz'⟩ := hz'
    split at hz'
    · rename_i hs
      rw [Bool.and_eq_true] at hs
      injection hz' with hz'
      refine ⟨a, as, seqs h1, ?_, hs.1, hs.2, ?_⟩
      · rw [← fit.k]
        exact (r2.deep ef).dp (by rw [toPy, h2]; rfl)
      · rw [hz']
        exact q _ F H (Grow.refl ef) (.bl _)
    · cases hz'
  cases e with
  | dct kvs => exact .inr (.inl (dct kvs rfl))
  | lst xs => exact .inr (.inr (.inl (lst xs rfl)))
  | tup xs => exact .inr (.inr (.inr (tup xs rfl)))
  | str y =>
    cases d with
    | str x =>
      unfold inB at hz
      simp only at hz
      split at hz
      · rename_i c hc
        injection hz with hz
        refine .inl ⟨c, y, srep_one r1 hc, srep_str r2, ?_⟩
        rw [hz]
        exact q _ F H (Grow.refl ef) (.bl _)
      · cases hz
    | _ => cases hz
  | _ => cases d <;> cases hz
theorem od_in (fit : Fit G X) : OpD G (rInB X id) inD := by
  intro F H x y d e z Q ef r1 r2 hz q
  unfold inD at hz
  rw [Option.map_eq_some_iff] at hz
  obtain ⟨b, hb, rfl⟩ := hz
  exact in_ok fit id ef r1 r2 hb q
end

/-! ### len, dicts too -/
def lenA : List D → Option D
  | [.dct kvs] => some (.int kvs.length)
  | ds => lenD ds
def rLenA (X : Cx) : List V → Hp → VK → Prop := fun xs H Q => rLenAll X.K xs H Q ∨ (∃ p kvs od, xs = [.ref p] ∧ H p = some (dKO X.prog X.w p kvs od) ∧ Q (.int kvs.length) H) ∨ ∃ p xs' od, xs = [.ref p] ∧ H p = some (dHO X.prog X.w p xs' od) ∧ (∀ e ∈ xs', KeyV X.K H 8 e.1 (.ref e.2.1)) ∧ Q (.int xs'.length) H
theorem call_lenA {X : Cx} : CallR X (.builtin "len") (rLenA X) := by
  intro pins s σ H xs us Q I r h
  rcases h with h | ⟨p, kvs, od, rfl, hp, q⟩ | ⟨p, xs', od, rfl, hp, hk, q⟩
  · exact call_len pins s σ H xs us Q I r h
  · obtain ⟨u, rfl, ru⟩ := vals1 r
    cases ru
    exact dk_len I hp fun t s' J => ⟨.int _, H, J, ⟨_, rfl⟩, q⟩
  · obtain ⟨u, rfl, ru⟩ := vals1 r
    cases ru
    exact dh_len I hp hk fun t s' J => ⟨.int _, H, J, ⟨_, rfl⟩, q⟩
theorem ad_lenA {G : Gm} {X : Cx} (fit : Fit G X) : AppD G (rLenA X) lenA := by
  intro F H xs ds z Q ef r hz q
  unfold lenA at hz
  split at hz
  · rename_i kvs
    cases hz
    obtain ⟨v, rfl, h⟩ := repL1 r
    obtain ⟨a, rfl, ⟨od, ks, h1, h2⟩ | ⟨od, xs', h1, hn, h2⟩⟩ := srep_dct ef h
    · refine .inr (.inl ⟨a, ks, od, rfl, by rw [← fit.p, ← fit.w]; exact h1, ?_⟩)
      rw [h2.length]
      exact q _ F H (Grow.refl ef) (.int _)
    · refine .inr (.inr ⟨a, xs', od, rfl, by rw [← fit.p, ← fit.w]; exact h1, by rw [← fit.k]; exact h2.keys ef, ?_⟩)
      rw [h2.length]
      exact q _ F H (Grow.refl ef) (.int _)
  · refine .inl ?_
    rw [← fit.k]
    exact ad_len F H xs ds z Q ef r hz q

/-! ### methods of built-in types, by data: the receiver, the arguments -/
def tyW (X : Cx) (T : String) (x : V) (H : Hp) : Prop := tyV X.K T x H ∨ (T = "dict" ∧ ∃ a od, x = .ref a ∧ ((∃ xs, H a = some (dHO X.prog X.w a xs od)) ∨ ∃ kvs, H a = some (dKO X.prog X.w a kvs od)))
def tBW (X : Cx) (T : String) (r : V → List V → Hp → VK → Prop) (to : TE) (t : TA) : TE := fun σ H Q => to σ H fun x H1 => tyW X T x H1 ∧ t σ H1 fun xs H2 => r x xs H2 Q
section
variable {X : Cx} {o e : Expr} {es : List Expr} {to : TE} {t : TA} {name : Str} {apos cpos : Pos} {T id : String} {r : V → List V → Hp → VK → Prop}
theorem tyW_is {pins : List (Addr × Obj)} {σ : L2.St} {H : Hp} {s : Shared} {T : String} {x : V} {v : Value} (I : Inv X pins σ H s) (r : RelV x v) (ty : tyW X T x H) :
    s.TypeIs v T ∧ ∀ a, v = .ref a → ∃ ob, s.heap.get? a = some ob ∧ ob.dict = none := by
  rcases ty with ty | ⟨rfl, a, od, rfl, ⟨xs, h⟩ | ⟨kvs, h⟩⟩
  · exact tyV_is I r ty
  · cases r
    obtain ⟨⟨h1, h2, ys, h3, es, ep, h4, h5, h6, h7, h8⟩, _⟩ := I.hok a _ h
    exact ⟨⟨od, h4, h5.1⟩, fun b e => by cases e; exact ⟨od, h4, h5.2.1⟩⟩
  · cases r
    obtain ⟨z, hd, _, vs, rel, dd⟩ := kd_rd I h
    obtain ⟨o, es, ep, h4, h5, _⟩ := id dd
    exact ⟨dd.typeIs, fun b e => by cases e; exact ⟨o, h4, h5.2.1⟩⟩
theorem pe_bw (pa : PlainAttrs T) (slot : Slot T name id) (hty : typeOf (.builtin id) = pure (.type "method_descriptor")) (hm : MtR X id r) (ho : PE X o to) (ha : PA X (e :: es) t)
    (hbase : attributeBase o name X.env (eval o X.env) = eval o X.env := by rfl)
    (hfew : ((backTo cpos (starEach (e :: es) X.env)).all (fun x => !x.1) && (backToKw cpos (keywordEach [] X.env)).all (fun x => x.1.isSome)
      && decide ((e :: es).length + ([] : List Keyword).length + (if ([] : List Keyword).isEmpty then 0 else 1) < 30)) = true := by rfl)
    (hline : (apos.endLine == cpos.line) = true := by rfl) (hs : starEach (e :: es) X.env = (false, eval e X.env) :: starEach es X.env := by rfl) (hplain : (backTo cpos (starEach es X.env)).any (·.1) = false := by rfl) :
    PE X (.Call (.Attribute o name apos) (e :: es) [] cpos) (tBW X T r to t) := by
  refine ⟨fun pins s σ H Q I h => ?_⟩
  refine wpAny_Call_method_late hbase hfew hline rfl (thn (ho.run pins s σ H _ I h) fun v s1 ⟨x, H1, I1, r1, ty, q1⟩ => ?_)
  obtain ⟨h1, h2⟩ := tyW_is I1 r1 ty
  refine ⟨T, id, pa, slot, hty, h1, h2, ?_⟩
  have hA := ha.run cpos pins s1 σ H1 _ I1 q1
  rw [hs] at hA ⊢
  refine Calls.callWith_builtin (by show (false || (backTo cpos (starEach es X.env)).any (·.1)) = false; rw [hplain] <;> rfl) (Calls.evalArgs_plain ?_)
  exact thn hA fun us s2 ⟨vs, H2, I2, r2, q2⟩ => hm pins s2 σ H2 x vs v us Q I2 r1 r2 q2
end
def tyD : D → String
  | .lst _ => "list"
  | .scr _ => "list"
  | .dct _ => "dict"
  | .str _ => "str"
  | .int _ => "int"
  | _ => ""
theorem tyW_of {G : Gm} {X : Cx} (fit : Fit G X) {F H : Hp} {x : V} {d : D} (ef : Ex F H) (h : SRep G F H x d) (hn : tyD d ≠ "") : tyW X (tyD d) x H := by
  cases d with
  | lst xs =>
    obtain ⟨a, vs, rfl, h1, _⟩ := srep_lst ef h
    exact .inl (.inl ⟨rfl, vs, sq_of h1⟩)
  | scr xs =>
    obtain ⟨a, vs, rfl, h1, _⟩ := srep_scr ef h
    exact .inl (.inl ⟨rfl, vs, by rw [← fit.k]; exact h1⟩)
  | dct xs =>
    obtain ⟨a, rfl, ⟨od, ks, h1, h2⟩ | ⟨od, xs', h1, hn, h2⟩⟩ := srep_dct ef h
    · exact .inr ⟨rfl, a, od, rfl, .inr ⟨ks, by rw [← fit.p, ← fit.w]; exact h1⟩⟩
    · exact .inr ⟨rfl, a, od, rfl, .inl ⟨xs', by rw [← fit.p, ← fit.w]; exact h1⟩⟩
  | str x =>
    rw [srep_str h]
    exact .inl rfl
  | int x =>
    rw [srep_int h]
    exact .inl rfl
  | _ => exact absurd rfl hn
/-- a method by data -/
def MtD (G : Gm) (r : V → List V → Hp → VK → Prop) (f : D → List D → Option D) : Prop := ∀ F H x d xs ds z (Q : VK), Ex F H → SRep G F H x d → RepL G F xs ds → f d ds = some z → (∀ v F' H', Grow F H F' H' → Rep G F' v z → Q v H') → r x xs H Q
def eMt (T : String) (f : D → List D → Option D) (a : EM XD) (b : EM (List D)) : EM D := bnd a fun x => fun env => ((match (rslv env x).map tyD with
  | some T' => if T' = T then bnd b (fun ds => fun env => ofO ((rslv env x).bind fun d => f d ds) env) env else .bad
  | none => .bad) : Res (D × DEnv))
section
variable {G : Gx} {X : Cx} {W : WX} {o e : Expr} {es : List Expr} {name : Str} {apos cpos : Pos} {T id : String} {r : V → List V → Hp → VK → Prop} {f : D → List D → Option D} {xa : EM XD} {ya : EM (List D)}
theorem de_mt (fit : Fit G X) (pa : PlainAttrs T) (slot : Slot T name id) (hty : typeOf (.builtin id) = pure (.type "method_descriptor")) (hm : MtR X id r) (hf : MtD G r f) (ho : PE X o (xG G xa W)) (ha : PA X (e :: es) (aG G ya W)) (hT : T ≠ "" := by decide)
    (hbase : attributeBase o name X.env (eval o X.env) = eval o X.env := by rfl)
    (hfew : ((backTo cpos (starEach (e :: es) X.env)).all (fun x => !x.1) && (backToKw cpos (keywordEach [] X.env)).all (fun x => x.1.isSome)
      && decide ((e :: es).length + ([] : List Keyword).length + (if ([] : List Keyword).isEmpty then 0 else 1) < 30)) = true := by rfl)
    (hline : (apos.endLine == cpos.line) = true := by rfl) (hs : starEach (e :: es) X.env = (false, eval e X.env) :: starEach es X.env := by rfl) (hplain : (backTo cpos (starEach es X.env)).any (·.1) = false := by rfl) :
    PE X (.Call (.Attribute o name apos) (e :: es) [] cpos) (eG G (eMt T f xa ya) W) := by
  refine PE.imp (pe_bw pa slot hty hm ho ha hbase hfew hline hs hplain) fun σ H Q h => ?_
  refine gG_bnd up_true h.c fun v x H1 h1 => ?_
  obtain ⟨B, F0, F, o, env, rs, ⟨_, r1⟩, p⟩ := h1
  cases hr : rslv env x with
  | none => simp only [hr, Option.map_none] at p; exact p.elim
  | some d0 =>
    simp only [hr, Option.map_some] at p
    split at p
    · rename_i hd
      have sr := rs.rslv r1 hr
      refine ⟨by rw [← hd]; exact tyW_of fit rs.fh sr (by rw [hd]; exact hT), ?_⟩
      have hb : gGC kE G (fun F => True ∧ kX.rel G F σ v x) (bnd ya fun ds => fun env => ofO ((rslv env x).bind fun d => f d ds) env) W σ H1 Q := ⟨B, F0, F, o, env, rs, ⟨True.intro, r1⟩, p⟩
      refine gG_bnd (up_true.and up_k) hb fun vs ds H2 h2 => ?_
      obtain ⟨B, F0, F, o, env, z, rs, hz, ⟨⟨_, r1⟩, r2⟩, q⟩ := gGC_lateX h2
      rw [Option.bind_eq_some_iff] at hz
      obtain ⟨d, e1, hz⟩ := hz
      exact hf F H2 v d vs ds z Q rs.fh (rs.rslv r1 e1) r2 hz q
    · exact p.elim
end
/-! d.get(k), d.get(k, x) -/
def getD : D → List D → Option D
  | .dct kvs, [k, x] => if kOk kvs k = true then some ((dgetL kvs k).getD x) else none
  | .dct kvs, [k] => if kOk kvs k = true then some ((dgetL kvs k).getD .non) else none
  | _, _ => none
theorem rpl1 {G : Gm} {H : Hp} {vs : List V} {d : D} (h : RepL G H vs [d]) : ∃ v, vs = [v] ∧ Rep G H v d := by
  cases h with
  | cons a b =>
    cases b
    exact ⟨_, rfl, a⟩
theorem rpl2 {G : Gm} {H : Hp} {vs : List V} {d e : D} (h : RepL G H vs [d, e]) : ∃ v u, vs = [v, u] ∧ Rep G H v d ∧ Rep G H u e := by
  cases h with
  | cons a b =>
    obtain ⟨u, rfl, c⟩ := rpl1 b
    exact ⟨_, _, rfl, a, c⟩
end DL
end

section
set_option Elab.async false
set_option linter.all false
set_option autoImplicit false
set_option maxRecDepth 100000
set_option maxHeartbeats 4000000
/-! E6: new objects of one's own; statements; stores. -/
namespace DL
open PySem L2 PyProof.Rows

/-! ### expressions that hand a new object of their own -/
def FPost (G : Gx) (s : Sh) (B F0 F : Hp) (σ : L2.St) (W : WX) (Q : VK) : Res (D × DEnv) → Prop
  | .ok (d, env') => ∀ v F' H' o', RepS G B F0 F' H' o' σ env' → Ex F F' → RepX G F' H' o' [0] s v d → Q v H'
  | .er c fs env' => ∀ dx F' H' o' fvs, RepS G B F0 F' H' o' σ env' → Ex F F' → F' dx = some (.xd fvs) → RepF G F' fvs fs → W (.ref (G.cl c)) (some dx) σ H'
  | .bad => False
def fG (G : Gx) (s : Sh) (f : EM D) (W : WX) : TE := fun σ H Q => ∃ B F0 F o env, RepS G B F0 F H o σ env ∧ FPost G s B F0 F σ W Q (f env)
abbrev c1 : Sh := .con .fz
section
variable {G : Gx} {X : Cx} {W : WX} {a : Expr} {fa : EM D} {pos : Pos} {es : List Expr} {s : Sh}
theorem de_frz (h : PE X a (fG G s fa W)) : PE X a (eG G fa W) := by
  refine PE.imp h fun σ H Q ⟨B, F0, F, o, env, rs, p⟩ => ⟨B, F0, F, o, env, rs, ?_⟩
  cases hf : fa env with
  | ok x =>
    obtain ⟨d, env'⟩ := x
    rw [hf] at p
    intro v F' H' o' rs' e rx
    obtain ⟨F2, o2, e2, rp, rs2⟩ := rs'.frz0 rx
    exact p v F2 H' o2 rs2 (e.trans e2) rp
  | er c fs e => rw [hf] at p; exact p
  | bad => rw [hf] at p; exact p
theorem fG_new {R A : Type} {K : Kd R A} {fr : EM A} {k : A → EM D} {σ : L2.St} {H : Hp} {Q : VK} {S : R → Hp → Prop} (h : fG G s (bnd fr k) W σ H Q)
    (kk : ∀ r a H' B F0 F o env, RepS G B F0 F H' o σ env → K.rel G F σ r a → FPost G s B F0 F σ W Q (k a env) → S r H') : gG K G fr W σ H S := by
  obtain ⟨B, F0, F, o, env, rs, p⟩ := h
  refine ⟨B, F0, F, o, env, rs, ?_⟩
  unfold bnd at p
  cases hf : fr env with
  | ok x =>
    rw [hf] at p
    intro r F' H' o' rs' e rel
    refine kk r x.1 H' B F0 F' o' x.2 rs' rel ?_
    replace p : FPost G s B F0 F σ W Q (k x.1 x.2) := p
    cases hk : k x.1 x.2 with
    | ok y =>
      rw [hk] at p
      exact fun v F2 H2 o2 rs2 e2 rx => p v F2 H2 o2 rs2 (e.trans e2) rx
    | er c fs e' =>
      rw [hk] at p
      exact fun dx F2 H2 o2 fvs rs2 e2 => p dx F2 H2 o2 fvs rs2 (e.trans e2)
    | bad => rw [hk] at p; exact p
  | er c fs e => rw [hf] at p; exact p
  | bad => rw [hf] at p; exact p
theorem new_x {B F0 F H : Hp} {o : Own} {σ : L2.St} {env : DEnv} {W : WX} {Q : VK} {d : D} {p : Addr} {u : HO} (rs : RepS G B F0 F H o σ env) (hp : H p = none) (q : FPost G s B F0 F σ W Q (.ok (d, env)))
    (hx : ∀ o', o' p = some [0] → RepX G F (upd H p u) o' [0] s (.ref p) d) : Q (.ref p) (upd H p u) :=
  q _ F _ _ (rs.newO hp) (Ex.refl F) (hx _ (if_pos rfl))
theorem df_lst {fr : EM (List D)} (h : PA X es (aG G fr W)) : PE X (.List es pos) (fG G c1 (eLst fr) W) := by
  refine PE.imp (pe_lst h) fun σ H Q h => ?_
  refine fG_new (K := kA) h fun vs ds H1 B F0 F o env rs rl p => ?_
  replace rl : RepL G F vs ds := rl
  unfold ofO at p
  split at p
  · rename_i d hd
    split at hd
    · rename_i hl
      cases hd
      exact ⟨by rw [rl.length]; exact le_line hl, fun q hq => new_x rs hq p fun o' ho' => .lst upd_same ho' (RepXL.of rl)⟩
    · cases hd
  · exact p.elim
theorem df_dict0 (fit : Fit G X) : PE X (.Dict [] [] pos) (fG G c1 (eC (.dct [])) W) := by
  refine PE.imp pe_dnewX fun σ H Q ⟨B, F0, F, o, env, rs, p⟩ => ?_
  exact fun q od hq => new_x rs hq p fun o' ho' => .dK (od := od) (by rw [fit.p, fit.w]; exact upd_same) ho' .nil
end
/-! ### statements -/
inductive SR where
  | nx (env : DEnv)
  | rt (c : Cell) (env : DEnv)
  | bk (env : DEnv)
  | ct (env : DEnv)
  | er (c : Nat) (fs : List (Str × D)) (env : DEnv)
  | bad
abbrev SM := DEnv → SR
/-- what is handed back: a value, or an object that nothing else holds -/
def RepC (G : Gx) (F H : Hp) (o : Own) (v : V) : Cell → Prop
  | .val d => Rep G F v d
  | .own s d => ∃ i, RepX G F H o [i] s v d
  | .exc _ _ => False
def SPost (G : Gx) (B F0 : Hp) (W : WX) (D : Ends) : SR → Prop
  | .nx env' => ∀ σ' F' H' o', RepS G B F0 F' H' o' σ' env' → D.nx σ' H'
  | .bk env' => ∀ σ' F' H' o', RepS G B F0 F' H' o' σ' env' → D.bk σ' H'
  | .ct env' => ∀ σ' F' H' o', RepS G B F0 F' H' o' σ' env' → D.ct σ' H'
  | .rt c env' => ∀ v σ' F' H' o', RepS G B F0 F' H' o' σ' env' → RepC G F' H' o' v c → D.rt v H'
  | .er c fs env' => ∀ dx σ' F' H' o' fvs, RepS G B F0 F' H' o' σ' env' → F' dx = some (.xd fvs) → RepF G F' fvs fs → W (.ref (G.cl c)) (some dx) σ' H'
  | .bad => False
def sG (G : Gx) (f : SM) (W : WX) : TS := fun D σ H => ∃ B F0 F o env, RepS G B F0 F H o σ env ∧ SPost G B F0 W D (f env)
def liftE {α : Type} (r : Res (α × DEnv)) (k : α → DEnv → SR) : SR := match r with
  | .ok (a, e) => k a e
  | .er c fs e => .er c fs e
  | .bad => .bad
def isOwn (env : DEnv) (i : Nat) : Bool := match env[i]? with
  | some (some (.own (.con .fz) _)) => true
  | _ => false
def sSet (i : Nat) (f : EM D) : SM := fun env => liftE (f env) fun d e => .nx (e.set i (some (.val d)))
def sSetO (i : Nat) (s : Sh) (f : EM D) : SM := fun env => liftE (f env) fun d e => .nx (e.set i (some (.own s d)))
def sNx : SM := .nx
def sSeq (a b : SM) : SM := fun env => match a env with
  | .nx e => b e
  | r => r
def sIf (c : EM Bool) (a b : SM) : SM := fun env => liftE (c env) fun k e => if k = true then a e else b e
def sRet (f : EM D) : SM := fun env => liftE (f env) fun d e => .rt (.val d) e
def sRetF (s : Sh) (f : EM D) : SM := fun env => liftE (f env) fun d e => .rt (.own s d) e
def sDo (f : EM D) : SM := fun env => liftE (f env) fun _ e => .nx e
/-- return x, x an object of the frame's own -/
def sRetO (i : Nat) : SM := fun env => match env[i]? with
  | some (some (.own s d)) => .rt (.own s d) env
  | some (some (.val d)) => .rt (.val d) env
  | _ => .bad
/-- x[k] = e: a list's item, k not below nought; a dict's -/
def putD (d k x : D) : Option D := match d with
  | .lst ds => (match k with
    | .int n => if 0 ≤ n ∧ n < ds.length then some (.lst (ds.set n.toNat x)) else none
    | _ => none)
  | .dct kvs => if kOk kvs k = true ∧ kvs.length < 1000000 then some (.dct (dputL kvs k x)) else none
  | _ => none
def chg (i : Nat) (g : D → Option D) (e : DEnv) : SR := match e[i]? with
  | some (some (.own (.con .fz) d)) => (match g d with
    | some d' => .nx (e.set i (some (.own (.con .fz) d')))
    | none => .bad)
  | _ => .bad
def sSetI (i : Nat) (f fk : EM D) : SM := fun env => liftE (f env) fun x e => if isOwn e i = true then liftE (fk e) (fun k e2 => chg i (fun d => putD d k x) e2) else .bad
/-- a method that changes its receiver, the container at slot i: the answer and what is left -/
def eMut (T : String) (f : D → List D → Option (D × D)) (i : Nat) (b : EM (List D)) : EM D := fun env => match env[i]? with
  | some (some (.own (.con .fz) d0)) => if tyD d0 = T then bnd b (fun ds env1 => match env1[i]? with
      | some (some (.own (.con .fz) d)) => (match f d ds with
        | some (z, d') => .ok (z, env1.set i (some (.own (.con .fz) d')))
        | none => .bad)
      | _ => .bad) env else .bad
  | _ => .bad
def sAug (i : Nat) (op : D → D → Option D) (f : EM D) : SM := fun env => match env[i]? with
  | some (some (.val x)) => liftE (f env) fun y e => match op x y with
    | some z => .nx (e.set i (some (.val z)))
    | none => .bad
  | _ => .bad
section
variable {G : Gx} {X : Cx} {W : WX} {a : Expr} {fa : EM D} {pos p' : Pos} {es : List Expr} {st : Stmt} {rest : List Stmt} {sa sb : SM} {s : Sh}
/-- one thing first, what comes of it behind -/
theorem gGS {R A : Type} {K : Kd R A} {σ : L2.St} {H : Hp} {Dn : Ends} {k : A → DEnv → SR} {S : R → Hp → Prop} {f : EM A} (h : sG G (fun env => liftE (f env) k) W Dn σ H) (kk : ∀ v d H' B F0 F o env, RepS G B F0 F H' o σ env → K.rel G F σ v d → SPost G B F0 W Dn (k d env) → S v H') : gG K G f W σ H S := by
  obtain ⟨B, F0, F, o, env, rs, p⟩ := h
  refine ⟨B, F0, F, o, env, rs, ?_⟩
  replace p : SPost G B F0 W Dn (liftE (f env) k) := p
  cases hf : f env with
  | ok x =>
    rw [hf] at p
    exact fun v F' H' o' rs' e rp => kk v x.1 H' B F0 F' o' x.2 rs' rp p
  | er c fs e =>
    rw [hf] at p
    exact fun dx F' H' o' fvs rs' _ h1 h2 => p dx σ F' H' o' fvs rs' h1 h2
  | bad => rw [hf] at p; exact p
theorem fGS {σ : L2.St} {H : Hp} {Dn : Ends} {k : D → DEnv → SR} {R : VK} {f : EM D} (h : sG G (fun env => liftE (f env) k) W Dn σ H)
    (kk : ∀ v d H' B F0 F o env, RepS G B F0 F H' o σ env → RepX G F H' o [0] s v d → SPost G B F0 W Dn (k d env) → R v H') : fG G s f W σ H R := by
  obtain ⟨B, F0, F, o, env, rs, p⟩ := h
  refine ⟨B, F0, F, o, env, rs, ?_⟩
  replace p : SPost G B F0 W Dn (liftE (f env) k) := p
  cases hf : f env with
  | ok x =>
    rw [hf] at p
    exact fun v F' H' o' rs' e rx => kk v x.1 H' B F0 F' o' x.2 rs' rx p
  | er c fs e =>
    rw [hf] at p
    exact fun dx F' H' o' fvs rs' _ h1 h2 => p dx σ F' H' o' fvs rs' h1 h2
  | bad => rw [hf] at p; exact p
theorem ds_set {i : Nat} {x : Str} (he : PE X a (eG G fa W)) (hN : X.N.Nodup) (hi : X.N[i]? = some x := by rfl) (hx : Loc X.env.scope x := by first | exact Or.inl rfl | exact Or.inr rfl) (hs : swapsWith a (some (.Name x p')) pos.line X.env = pure false := by rfl)
    (hf : X.fn x = true ∨ X.env.scope.names.lookup x = some .local := by first | exact .inl rfl | exact .inr rfl) : PS X (.Assign [.Name x p'] a pos) (sG G (sSet i fa) W) := by
  refine PS.imp (ps_set hN hi hx he hs hf) fun Dn σ H h => ?_
  exact gGS h fun v d H' B F0 F o env rs rp q => q _ F H' o (rs.setv i rp)
theorem ds_setO {i : Nat} {x : Str} (he : PE X a (fG G s fa W)) (hN : X.N.Nodup) (hi : X.N[i]? = some x := by rfl) (hx : Loc X.env.scope x := by first | exact Or.inl rfl | exact Or.inr rfl) (hs : swapsWith a (some (.Name x p')) pos.line X.env = pure false := by rfl)
    (hf : X.fn x = true ∨ X.env.scope.names.lookup x = some .local := by first | exact .inl rfl | exact .inr rfl) (hp : ∀ q, (i, q) ∉ G.bp := by intro q h; simp at h) : PS X (.Assign [.Name x p'] a pos) (sG G (sSetO i s fa) W) := by
  refine PS.imp (ps_set hN hi hx he hs hf) fun Dn σ H h => ?_
  exact fGS h fun v d H' B F0 F o env rs rx q => q _ F H' _ (rs.seto i rx fun z hz => (hp z hz).elim)
theorem ds_nil : PSs X [] (sG G sNx W) := PSs.imp pss_nil fun Dn σ H ⟨B, F0, F, o, env, rs, p⟩ => p σ F H o rs
theorem ds_cons (h1 : PS X st (sG G sa W)) (h2 : PSs X rest (sG G sb W)) : PSs X (st :: rest) (sG G (sSeq sa sb) W) := by
  refine PSs.imp (pss_cons h1 h2) fun Dn σ H ⟨B, F0, F, o, env, rs, p⟩ => ⟨B, F0, F, o, env, rs, ?_⟩
  unfold sSeq at p
  cases hf : sa env with
  | nx e =>
    rw [hf] at p
    exact fun σ' F' H' o' rs' => ⟨B, F0, F', o', e, rs', p⟩
  | rt c e => rw [hf] at p; exact p
  | bk e => rw [hf] at p; exact p
  | ct e => rw [hf] at p; exact p
  | er c fs e => rw [hf] at p; exact p
  | bad => rw [hf] at p; exact p
theorem ds_one (h1 : PS X st (sG G sa W)) : PSs X [st] (sG G sa W) := pss_one h1
theorem ds_if {tc : EM Bool} {A Bs : List Stmt} (hc : PT X a (tG G tc W)) (ha : PSs X A (sG G sa W)) (hb : PSs X Bs (sG G sb W)) : PS X (.If a A Bs pos) (sG G (sIf tc sa sb) W) := by
  refine PS.imp (ps_if hc ha hb) fun Dn σ H h => ?_
  refine gGS h fun b b' H' B F0 F o env rs hb q => ?_
  cases (show b = b' from hb)
  cases b with
  | true => exact ⟨B, F0, F, o, env, rs, q⟩
  | false => exact ⟨B, F0, F, o, env, rs, q⟩
theorem ds_ret (he : PE X a (eG G fa W)) : PS X (.Return (some a) pos) (sG G (sRet fa) W) := by
  refine PS.imp (ps_ret he) fun Dn σ H h => ?_
  exact gGS h fun v d H' B F0 F o env rs rp q => q v σ F H' o rs rp
theorem ds_retF (he : PE X a (fG G s fa W)) : PS X (.Return (some a) pos) (sG G (sRetF s fa) W) := by
  refine PS.imp (ps_ret he) fun Dn σ H h => ?_
  exact fGS h fun v d H' B F0 F o env rs rx q => q _ σ F H' o rs ⟨0, rx⟩
theorem ds_expr (he : PE X a (eG G fa W)) (hs : swapsWith a none pos.line X.env = pure false := by rfl) : PS X (.Expr a pos) (sG G (sDo fa) W) := by
  refine PS.imp (ps_expr he hs) fun Dn σ H h => ?_
  exact gGS h fun v d H' B F0 F o env rs rp q => q σ F H' o rs
/-- the owned container at slot i changes -/
theorem RepS.own_put {B F0 F H : Hp} {o : Own} {σ : L2.St} {env : DEnv} (r : RepS G B F0 F H o σ env) {i : Nat} {d d' : D} {v : V} {p : Addr} {u : HO} {m0 : Lb} (h : env[i]? = some (some (.own s d))) (hs : σ[i]? = some (some v)) (ho : o p = some ((i + 1) :: m0)) (hn : RepX G F (upd H p u) o [i + 1] s v d') :
    RepS G B F0 F (upd H p u) o σ (env.set i (some (.own s d'))) := by
  have r1 := r.forget (some v) i
  rw [set_same hs] at r1
  have r2 := r1.chO (u := u) ho fun s' d'' q => by
    rw [List.getElem?_set, if_pos rfl] at q
    split at q <;> cases q
  have r3 := r2.putO i hn fun q hq => by
    have z := r.pin i q s d hq h
    rw [hs] at z
    cases z
    rfl
  rw [set_same hs, List.set_set] at r3
  exact r3
/-- the owned container's top -/
def XTop (G : Gm) (F H : Hp) (a : Addr) : D → Prop
  | .lst ds => ∃ vs, H a = some (.lst vs) ∧ RepL G F vs ds
  | .dct ds => (∃ od ks, H a = some (dKO G.P G.w a ks od) ∧ RepK G F ks ds) ∨ ∃ od xs, H a = some (dHO G.P G.w a xs od) ∧ xs ≠ [] ∧ RepH G F xs ds
  | _ => False
theorem RepX.top {G : Gm} {F H : Hp} {o : Own} {l : Lb} {v : V} {d : D} (h : RepX G F H o l c1 v d) : ∃ a, v = .ref a ∧ o a = some l ∧ XTop G F H a d := by
  cases h with
  | lst h1 h2 h3 => exact ⟨_, rfl, h2, _, h1, h3.out⟩
  | dK h1 h2 h3 => exact ⟨_, rfl, h2, .inl ⟨_, _, h1, h3.out⟩⟩
  | dH h1 n h2 h3 => exact ⟨_, rfl, h2, .inr ⟨_, _, h1, n, h3.out⟩⟩
theorem XTop.srep {G : Gm} {F H : Hp} {a : Addr} {d : D} (h : XTop G F H a d) : SRep G F H (.ref a) d := by
  cases d with
  | lst ds => obtain ⟨vs, h1, h2⟩ := h; exact .lst h1 h2
  | dct ds =>
    rcases h with ⟨od, ks, h1, h2⟩ | ⟨od, xs, h1, n, h2⟩
    · exact .dK h1 h2
    · exact .dH h1 n h2
  | _ => exact h.elim
theorem XTop.x {G : Gm} {F H : Hp} {o : Own} {l : Lb} {a : Addr} {d : D} (h : XTop G F H a d) (ho : o a = some l) : RepX G F H o l c1 (.ref a) d := by
  cases d with
  | lst ds => obtain ⟨vs, h1, h2⟩ := h; exact .lst h1 ho (RepXL.of h2)
  | dct ds =>
    rcases h with ⟨od, ks, h1, h2⟩ | ⟨od, xs, h1, n, h2⟩
    · exact .dK h1 ho (RepXK.of h2)
    · exact .dH h1 n ho (RepXH.of h2)
  | _ => exact h.elim
def MutD (G : Gm) (r : V → List V → Hp → VK → Prop) (f : D → List D → Option (D × D)) : Prop := ∀ F H a d xs ds z d' (Q : VK), Ex F H → F a = none → XTop G F H a d → RepL G F xs ds → f d ds = some (z, d') → (∀ v u, XTop G F (upd H a u) a d' → Rep G F v z → Q v (upd H a u)) → r (.ref a) xs H Q
/-- x.m(e, ..), x an object of one's own, changed by it -/
theorem de_mut {i : Nat} {x : Str} {e : Expr} {name : Str} {apos cpos px : Pos} {T id : String} {r : V → List V → Hp → VK → Prop} {f : D → List D → Option (D × D)} {fr : EM (List D)} (fit : Fit G X) (pa : PlainAttrs T) (slot : Slot T name id) (hty : typeOf (.builtin id) = pure (.type "method_descriptor")) (hm : MtR X id r) (hf : MutD G r f)
    (ha : PA X (e :: es) (aG G fr W)) (hN : X.N[i]? = some x := by rfl) (hv : Vis X.env.scope x := by first | exact Or.inl rfl | exact Or.inr (Or.inl rfl) | exact Or.inr (Or.inr rfl)) (hd : (x == ("__debug__" : Str)) = false := by decide) (hcd : (x == ("__classdict__" : Str)) = false := by decide) (hT : T ≠ "" := by decide)
    (hbase : attributeBase (.Name x px) name X.env (eval (.Name x px) X.env) = eval (.Name x px) X.env := by rfl)
    (hfew : ((backTo cpos (starEach (e :: es) X.env)).all (fun x => !x.1) && (backToKw cpos (keywordEach [] X.env)).all (fun x => x.1.isSome)
      && decide ((e :: es).length + ([] : List Keyword).length + (if ([] : List Keyword).isEmpty then 0 else 1) < 30)) = true := by rfl)
    (hline : (apos.endLine == cpos.line) = true := by rfl) (hs : starEach (e :: es) X.env = (false, eval e X.env) :: starEach es X.env := by rfl) (hplain : (backTo cpos (starEach es X.env)).any (·.1) = false := by rfl) :
    PE X (.Call (.Attribute (.Name x px) name apos) (e :: es) [] cpos) (eG G (eMut T f i fr) W) := by
  refine PE.imp (pe_bw pa slot hty hm (pe_var hN hv hd hcd) ha hbase hfew hline hs hplain) fun σ H Q ⟨B, F0, F, o, env, rs, p⟩ => ?_
  unfold eMut at p
  split at p
  · rename_i d0 h0
    split at p
    · rename_i hd0
      obtain ⟨v0, g1, g2⟩ := rs.own i _ _ h0
      obtain ⟨a0, rfl, k1, k2⟩ := g2.top
      refine ⟨_, g1, by rw [← hd0]; exact tyW_of fit rs.fh k2.srep (by rw [hd0]; exact hT), ?_⟩
      refine gG_bnd (K1 := kA) (K := kE) up_true (k := fun ds env1 => match env1[i]? with
        | some (some (.own (.con .fz) d)) => (match f d ds with
          | some (z, d') => .ok (z, env1.set i (some (.own (.con .fz) d')))
          | none => .bad)
        | _ => .bad) ⟨B, F0, F, o, env, rs, True.intro, p⟩ fun vs ds H2 h2 => ?_
      obtain ⟨B, F0, F, o, env1, rs1, ⟨_, r2⟩, p⟩ := h2
      simp only at p
      split at p
      · rename_i d h5
        split at p
        · rename_i z d' hz
          obtain ⟨v1, m1, m2⟩ := rs1.own i _ _ h5
          obtain ⟨a1, rfl, n1, n2⟩ := m2.top
          rw [g1] at m1
          cases m1
          refine hf F H2 a0 d vs ds z d' Q rs1.fh (rs1.ow a0 _ n1).1 n2 r2 hz fun v u hx rz => ?_
          exact p v F _ o (rs1.own_put h5 g1 n1 (hx.x n1)) (Ex.refl F) rz
        · exact p.elim
      · exact p.elim
    · exact p.elim
  · exact p.elim
/-- a store into an owned container -/
def SetD (G : Gm) (t : TSet) : Prop := ∀ F H a d k x y v d' (Q : Hp → Prop), Ex F H → F a = none → XTop G F H a d → SRep G F H y k → Rep G F v x → putD d k x = some d' → (∀ u, XTop G F (upd H a u) a d' → Q (upd H a u)) → t (.ref a) y v H Q
def rSetAll (X : Cx) : TSet := fun x y v H Q => rSetL x y v H Q ∨ PutR X x y v H Q
theorem set_all (hu : X.A.units + 64 < cLine) : PSet X (rSetAll X) := by
  intro pins s σ H o i v ov iv u Q I ro ri rv h
  rcases h with h | g
  · exact set_list pins s σ H o i v ov iv u Q I ro ri rv h
  · exact g_setItem hu I g ro ri rv fun s' H' J q => ⟨H', J, q⟩
theorem RepK.put {G : Gm} {F : Hp} {ks : List (Key × V)} {ds : List (D × D)} (r : RepK G F ks ds) (k : Key) {v : V} {d : D} (rv : Rep G F v d) : RepK G F (putK ks k v) (dputL ds (keyD k) d) := by
  have hs : (ks.any fun kv => decide (kv.1 = k)) = (dgetL ds (keyD k)).isSome := by
    rw [valV_any]
    have z := r.val k
    split at z
    · rename_i d' hd
      obtain ⟨v', e, _⟩ := z
      rw [e, hd]
      rfl
    · rename_i hd
      rw [z, hd]
      rfl
  unfold putK dputL
  rw [hs]
  have rep : ∀ {ks : List (Key × V)} {ds : List (D × D)}, RepK G F ks ds → RepK G F (ks.map fun kv => if kv.1 = k then (kv.1, v) else kv) (ds.map fun p => if p.1 = keyD k then (p.1, d) else p) := by
    intro ks ds r
    induction ds generalizing ks with
    | nil => cases r; exact .nil
    | cons x ds ih =>
      cases r with
      | @cons k0 v0 vs d0 _ h t =>
        rw [List.map_cons, List.map_cons]
        by_cases e : k0 = k
        · subst e
          simp only [if_pos]
          exact .cons rv (ih t)
        · rw [if_neg e, if_neg fun z => e (keyD_inj z)]
          exact .cons h (ih t)
  have app : ∀ {ks : List (Key × V)} {ds : List (D × D)}, RepK G F ks ds → RepK G F (ks ++ [(k, v)]) (ds ++ [(keyD k, d)]) := by
    intro ks ds r
    induction ds generalizing ks with
    | nil => cases r; exact .cons rv .nil
    | cons x ds ih =>
      cases r with
      | cons h t => exact .cons h (ih t)
  by_cases q : (dgetL ds (keyD k)).isSome = true
  · rw [if_pos q, if_pos q]
    exact rep r
  · rw [if_neg q, if_neg q]
    exact app r
theorem RepH.put {G : Gm} {F : Hp} {xs : List (D × Addr × V)} {ds : List (D × D)} (r : RepH G F xs ds) {k : D} {b : Addr} (hk : keyOk 8 k = true) (rk : Rep G F (.ref b) k) {v : V} {d : D} (rv : Rep G F v d) : RepH G F (putH xs k b v) (dputL ds k d) := by
  have hs : (valH xs k).isSome = (dgetL ds k).isSome := by
    have z := r.val k
    split at z
    · rename_i d' hd
      obtain ⟨v', e, _⟩ := z
      rw [e, hd]
      rfl
    · rename_i hd
      rw [z, hd]
      rfl
  unfold putH dputL
  rw [hs]
  have rep : ∀ {ks : List (D × Addr × V)} {ds : List (D × D)}, RepH G F ks ds → RepH G F (ks.map fun e => if e.1 = k then (e.1, e.2.1, v) else e) (ds.map fun p => if p.1 = k then (p.1, d) else p) := by
    intro ks ds r
    induction ds generalizing ks with
    | nil => cases r; exact .nil
    | cons x ds ih =>
      cases r with
      | @cons k0 a0 v0 vs d0 _ z q h t =>
        rw [List.map_cons, List.map_cons]
        by_cases e : k0 = k
        · subst e
          simp only [if_pos]
          exact .cons z q rv (ih t)
        · rw [if_neg e, if_neg e]
          exact .cons z q h (ih t)
  have app : ∀ {ks : List (D × Addr × V)} {ds : List (D × D)}, RepH G F ks ds → RepH G F (ks ++ [(k, b, v)]) (ds ++ [(k, d)]) := by
    intro ks ds r
    induction ds generalizing ks with
    | nil => cases r; exact .cons hk rk rv .nil
    | cons x ds ih =>
      cases r with
      | cons z q h t => exact .cons z q h (ih t)
  by_cases q : (dgetL ds k).isSome = true
  · rw [if_pos q, if_pos q]
    exact rep r
  · rw [if_neg q, if_neg q]
    exact app r
theorem putH_ne {xs : List (D × Addr × V)} {k : D} {b : Addr} {v : V} : putH xs k b v ≠ [] := by
  unfold putH
  split
  · rename_i h
    cases xs with
    | nil => simp [valH] at h
    | cons x xs => simp
  · simp
theorem sd_all {G : Gm} (fit : Fit G X) : SetD G (rSetAll X) := by
  intro F H a d k x y v d' Q ef hF hx hy rv hz q
  cases d with
  | lst ds =>
    cases k with
    | int n =>
      unfold putD at hz
      simp only at hz
      split at hz
      · rename_i hc
        cases hz
        obtain ⟨vs, h1, h2⟩ := hx
        have hl := h2.length
        refine .inl ⟨a, vs, n, n.toNat, rfl, srep_int hy, h1, ?_, q _ ⟨_, upd_same, RepL.set rv _ h2⟩⟩
        unfold ixN
        rw [if_pos hc.1, if_pos (by omega)]
      · cases hz
    | _ => cases hz
  | dct kvs =>
    unfold putD at hz
    simp only at hz
    split at hz
    · rename_i hc
      obtain ⟨hk, hlen⟩ := hc
      cases hz
      have hk' := hk
      unfold kOk at hk'
      rw [Bool.and_eq_true] at hk'
      obtain ⟨hk1, hk2⟩ := hk'
      rcases hx with ⟨od, ks, h1, h2⟩ | ⟨od, xs, h1, hn, h2⟩
      · rcases keyOk_cases hk1 with ⟨c, rfl, ht⟩ | ⟨ds, rfl, ht⟩
        · have e : y = kV c := by
            cases c with
            | inl i => exact srep_int hy
            | inr x => exact srep_str hy
          subst e
          exact .inr (.inl ⟨a, ks, c, od, rfl, rfl, by rw [← fit.p, ← fit.w]; exact h1, lt_line (by rw [h2.length]; omega), fun od' => q _ (.inl ⟨od', _, by rw [upd_same, fit.p, fit.w], h2.put c rv⟩)⟩)
        · have e0 : kvs = [] := by
            cases h2 with
            | nil => rfl
            | @cons k0 v vs d ds h r =>
              cases k0 <;> simp [isTup, keyD] at hk2
          subst e0
          cases h2
          obtain ⟨b, vs, rfl, hb1, hb2⟩ := srep_tup ef hy
          refine .inr (.inr ⟨a, b, [], .tup ds, rfl, rfl, ⟨od, .inr ⟨rfl, by rw [← fit.p, ← fit.w]; exact h1⟩⟩, fun e he => (by cases he), by rw [← fit.k]; exact (hy.deep ef).key hk1, lt_line (by simp), fun od' => ?_⟩)
          refine q _ (.inr ⟨od', _, by rw [upd_same, fit.p, fit.w], putH_ne, ?_⟩)
          exact RepH.put (xs := []) (ds := []) .nil hk1 (.tup hb1 hb2) rv
      · rcases keyOk_cases hk1 with ⟨c, rfl, ht⟩ | ⟨ds, rfl, ht⟩
        · exfalso
          cases h2 with
          | nil => exact hn rfl
          | cons z qq h r =>
            rcases keyOk_cases z with ⟨c', rfl, _⟩ | ⟨ds', rfl, _⟩
            · cases c' with
              | inl i => have := rep_int qq; cases this
              | inr i => have := rep_str qq; cases this
            · cases c <;> simp [isTup, keyD] at hk2
        · obtain ⟨b, vs, rfl, hb1, hb2⟩ := srep_tup ef hy
          refine .inr (.inr ⟨a, b, xs, .tup ds, rfl, rfl, ⟨od, .inl (by rw [← fit.p, ← fit.w]; exact h1)⟩, by rw [← fit.k]; exact h2.keys ef, by rw [← fit.k]; exact (hy.deep ef).key hk1, lt_line (by rw [h2.length]; omega), fun od' => ?_⟩)
          refine q _ (.inr ⟨od', _, by rw [upd_same, fit.p, fit.w], putH_ne, ?_⟩)
          exact h2.put hk1 (.tup hb1 hb2) rv
    · cases hz
  | _ => exact hx.elim
/-- x[k] = e -/
theorem ds_seti {i : Nat} {x : Str} {b : Expr} {fb : EM D} {q1 q2 : Pos} (fit : Fit G X) (hu : X.A.units + 64 < cLine) (ha : PE X a (eG G fa W)) (hb : PE X b (eG G fb W)) (hN : X.N[i]? = some x := by rfl) (hv : Vis X.env.scope x := by first | exact Or.inl rfl | exact Or.inr (Or.inl rfl) | exact Or.inr (Or.inr rfl))
    (hd : (x == ("__debug__" : Str)) = false := by decide) (hcd : (x == ("__classdict__" : Str)) = false := by decide)
    (hsub : ∀ v, assign (.Subscript (.Name x q1) b q2) X.env v = (do
      let ov ← holding [v] (eval (.Name x q1) X.env)
      let iv ← holding [v, ov] (eval b X.env)
      standAt q2
      holding [v, ov, iv] (setItem ov iv v)
      release [v, ov, iv] []) := by intro _; rfl)
    (hs : swapsWithSole [.Subscript (.Name x q1) b q2] a pos.line X.env = pure false := by rfl) (hw : swappedStores [.Subscript (.Name x q1) b q2] a X.env = pure none := by rfl)
    (h1 : (assignEach [.Subscript (.Name x q1) b q2] X.env).map (·.2) = [assign (.Subscript (.Name x q1) b q2) X.env] := by rfl) :
    PS X (.Assign [.Subscript (.Name x q1) b q2] a pos) (sG G (sSetI i fa fb) W) := by
  refine PS.imp (ps_asg ha (pg_sub (pe_var hN hv hd hcd) hb (set_all hu) hsub) hs hw h1) fun Dn σ H h => ?_
  refine gGS (K := kE) h fun v d H' B F0 F o env rs rp q => ?_
  split at q
  · rename_i ho
    unfold isOwn at ho
    split at ho
    · rename_i d0 h0
      obtain ⟨v0, g1, g2⟩ := rs.own i _ _ h0
      refine ⟨v0, g1, B, F0, F, o, env, rs, ?_⟩
      cases hf : fb env with
      | ok z =>
        rw [hf] at q
        obtain ⟨k, e2⟩ := z
        replace q : SPost G B F0 W Dn (chg i (fun d1 => putD d1 k d) e2) := q
        intro kv F' H2 o2 rs' ex rk
        unfold chg at q
        split at q
        · rename_i d1 h5
          split at q
          · rename_i d' hd'
            obtain ⟨v1, m1, m2⟩ := rs'.own i _ _ h5
            obtain ⟨a1, rfl, n1, n2⟩ := m2.top
            rw [g1] at m1
            cases m1
            refine sd_all fit F' H2 a1 d1 k d kv v d' _ rs'.fh (rs'.ow a1 _ n1).1 n2 (.of rk) (Rep.mono ex rp) hd' fun u hx => ?_
            exact q σ F' _ o2 (rs'.own_put h5 g1 n1 (hx.x n1))
          · exact q.elim
        · exact q.elim
      | er c fs e =>
        rw [hf] at q
        exact fun dx F' H2 o2 fvs rs' _ h1 h2 => q dx σ F' H2 o2 fvs rs' h1 h2
      | bad => rw [hf] at q; exact q
    · cases ho
  · exact q.elim
end
end DL
end

section
set_option Elab.async false
set_option linter.all false
set_option autoImplicit false
set_option maxRecDepth 100000
set_option maxHeartbeats 4000000
/-! E7: op=, x, y = .., append and its like, objects' fields. -/
namespace DL
open PySem L2 PyProof.Rows
section
variable {G : Gx} {X : Cx} {W : WX} {a : Expr} {fa : EM D} {pos p' : Pos}
/-- name op= e -/
theorem ds_aug {i : Nat} {x : Str} {op : Operator} {r : R2} {f : D → D → Option D} (he : PE X a (eG G fa W)) (ho : OpR X (inplaceOp op) r) (hf' : OpD G r f) (hN : X.N.Nodup) (hi : X.N[i]? = some x := by rfl) (hx : Loc X.env.scope x := by first | exact Or.inl rfl | exact Or.inr rfl)
    (hf : X.fn x = true ∨ X.env.scope.names.lookup x = some .local := by first | exact .inl rfl | exact .inr rfl) : PS X (.AugAssign (.Name x p') op a pos) (sG G (sAug i f fa) W) := by
  refine PS.imp (ps_aug hN hi hx he ho hf) fun Dn σ H ⟨B, F0, F, o, env, rs, p⟩ => ?_
  unfold sAug at p
  split at p
  · rename_i d he'
    obtain ⟨v, h1, h2⟩ := rs.val i d he'
    refine ⟨v, h1, B, F0, F, o, env, rs, ?_⟩
    cases hq : fa env with
    | ok z =>
      rw [hq] at p
      obtain ⟨y, e⟩ := z
      replace p : SPost G B F0 W Dn (match f d y with | some z => .nx (e.set i (some (.val z))) | none => .bad) := p
      intro u F' H' o' rs' ex ru
      cases hz : f d y with
      | none => rw [hz] at p; exact p.elim
      | some z =>
        rw [hz] at p
        refine hf' F' H' v u d y z _ rs'.fh (.of (h2.mono ex)) (.of ru) hz fun w F2 H2 g rw' => ?_
        exact p _ F2 H2 o' ((rs'.grow g).setv i rw')
    | er c fs e =>
      rw [hq] at p
      exact fun dx F' H2 o' fvs rs' _ h1 h2 => p dx σ F' H2 o' fvs rs' h1 h2
    | bad => rw [hq] at p; exact p
  · exact p.elim
end
/-! ### append, extend, pop, clear -/
def appendM (d : D) (ds : List D) : Option (D × D) := match d, ds with
  | .lst xs, [x] => if xs.length < 1000000 then some (.non, .lst (xs ++ [x])) else none
  | _, _ => none
section
variable {G : Gm}
theorem mu_append : MutD G rAppend appendM := by
  intro F H a d xs ds z d' Q ef hF hx rl hz q
  unfold appendM at hz
  split at hz
  · split at hz
    · rename_i hl
      cases hz
      obtain ⟨v, rfl, h1⟩ := rpl1 rl
      obtain ⟨vs, h2, h3⟩ := hx
      exact ⟨a, vs, v, rfl, rfl, h2, lt_line (by rw [h3.length]; omega), q _ _ ⟨_, upd_same, h3.append (.cons h1 .nil)⟩ .non⟩
    · cases hz
  · cases hz
end

/-! ### fields -/
def fldD (c : Nat) (f : Str) : D → Option D
  | .obj c' fs => if c' = c then fs.lookup f else none
  | _ => none
def eFld (c : Nat) (f : Str) (a : EM D) : EM D := bnd a fun d => ofO (fldD c f d)
section
variable {G : Gm}
end
section
variable {G : Gx} {X : Cx} {W : WX} {a : Expr} {fa : EM D} {pos p' : Pos} {c : Nat} {f : Str}
end
/-! self.f = e, self an object of one's own -/
def putF' (f : Str) (d : D) : List (Str × D) → List (Str × D)
  | [] => [(f, d)]
  | (k, x) :: r => if k = f then (k, d) :: r else (k, x) :: putF' f d r
/-- the place of f -/
def placeF (f : Str) (n : Nat) : List (Str × D) → Nat
  | [] => n
  | (k, _) :: r => if k = f then n else placeF f (n + 1) r
def sFldF (i c : Nat) (f : Str) (fa : EM D) : SM := fun env => liftE (fa env) fun x e => match e[i]? with
  | some (some (.own (.ob shs) (.obj c' fs))) => if c' = c ∧ fs.length < 900 then (match fsh shs f with
    | .con .fz => .nx (e.set i (some (.own (.ob shs) (.obj c (putF' f x fs)))))
    | _ => .bad) else .bad
  | _ => .bad
section
variable {G : Gm} {F F' H H' : Hp} {o o' : Own}
theorem RepXF.moveI (ef : Ex F F') {l : Lb} : ∀ {k : Nat} {s : List (Str × Sh)} {v : List (Str × V)} {d : List (Str × D)}, (∀ n, k ≤ n → Mv H H' o o' (l ++ [n]) (l ++ [n])) → RepXF G F H o l k s v d → RepXF G F' H' o' l k s v d
  | _, _, _, _, _, .nil => .nil
  | k, _, _, _, m, .cons h r => .cons (RepX.move ef (m k (Nat.le_refl _)) h) (RepXF.moveI ef (fun n hn => m n (by omega)) r)
theorem placeF_ge (f : Str) : ∀ (n : Nat) (fs : List (Str × D)), n ≤ placeF f n fs
  | n, [] => Nat.le_refl _
  | n, (k, _) :: r => by
    unfold placeF
    split
    · exact Nat.le_refl _
    · have := placeF_ge f (n + 1) r
      omega
theorem RepXF.put (ef : Ex F F') {l : Lb} {f : Str} {v : V} {d : D} : ∀ {k : Nat} {shs : List (Str × Sh)} {vs : List (Str × V)} {ds : List (Str × D)}, RepXF G F H o l k shs vs ds → (∀ n, n ≠ placeF f k ds → Mv H H' o o' (l ++ [n]) (l ++ [n])) → RepX G F' H' o' (l ++ [placeF f k ds]) (fsh shs f) v d →
    RepXF G F' H' o' l k shs (putF f v vs) (putF' f d ds)
  | k, shs, _, _, .nil, m, x => .cons x .nil
  | k, shs, _, _, .cons (k := k0) (v := v0) (vs := vs) (d := d0) (ds := ds) h r, m, x => by
    show RepXF G F' H' o' l k shs (if k0 = f then (k0, v) :: vs else (k0, v0) :: putF f v vs) (if k0 = f then (k0, d) :: ds else (k0, d0) :: putF' f d ds)
    unfold placeF at m x
    by_cases e : k0 = f
    · subst e
      rw [if_pos rfl] at m x
      rw [if_pos rfl, if_pos rfl]
      exact .cons x (RepXF.moveI ef (fun n hn => m n (by omega)) r)
    · rw [if_neg e] at m x
      rw [if_neg e, if_neg e]
      have hp := placeF_ge f (k + 1) ds
      exact .cons (h.move ef (m k (by omega))) (RepXF.put ef r m x)
theorem RepXF.length {l : Lb} : ∀ {k : Nat} {shs : List (Str × Sh)} {vs : List (Str × V)} {ds : List (Str × D)}, RepXF G F H o l k shs vs ds → vs.length = ds.length
  | _, _, _, _, .nil => rfl
  | _, _, _, _, .cons h r => by simp [RepXF.length r]
end
/-- the labels that begin with 0, with b, k in 0's place; what began with b, k is let go -/
def relab2 (b k : Nat) (o : Own) : Own := fun x => match o x with
  | some (0 :: t) => some (b :: k :: t)
  | some (h :: h2 :: t) => if h = b ∧ h2 = k then none else some (h :: h2 :: t)
  | z => z
theorem relab2_some {b k : Nat} {o : Own} {x : Addr} {m : Lb} (h : relab2 b k o x = some m) : ∃ m', o x = some m' := by
  unfold relab2 at h
  split at h
  · rename_i q; exact ⟨_, q⟩
  · rename_i q; exact ⟨_, q⟩
  · exact ⟨_, h⟩
theorem relab2_at {b k : Nat} {o : Own} {x : Addr} {m : Lb} (h : o x = some (0 :: m)) : relab2 b k o x = some (b :: k :: m) := by
  unfold relab2
  rw [h]
  cases m <;> rfl
theorem relab2_one {b k c : Nat} {o : Own} {x : Addr} (h : o x = some [c]) (h0 : c ≠ 0) : relab2 b k o x = some [c] := by
  unfold relab2
  rw [h]
  cases c with
  | zero => exact absurd rfl h0
  | succ n => rfl
theorem relab2_ne {b k c n : Nat} {o : Own} {x : Addr} {m : Lb} (h : o x = some (c :: n :: m)) (h0 : c ≠ 0) (h1 : ¬ (c = b ∧ n = k)) : relab2 b k o x = some (c :: n :: m) := by
  unfold relab2
  rw [h]
  cases c with
  | zero => exact absurd rfl h0
  | succ c => simp only [if_neg h1]
theorem relab2_other {b k c : Nat} {o : Own} {x : Addr} {m : Lb} (h : o x = some (c :: m)) (h0 : c ≠ 0) (h1 : c ≠ b) : relab2 b k o x = some (c :: m) := by
  cases m with
  | nil => exact relab2_one h h0
  | cons n m => exact relab2_ne h h0 fun z => h1 z.1
section
variable {G : Gx} {X : Cx} {W : WX} {value : Expr} {fa : EM D} {pos pos' px : Pos} {c : Nat} {f : Str} {i : Nat} {x : Str}
theorem ds_fldF (fit : Fit G X) (hc : Cls G.K (G.cl c)) (hn : NoAttr G.K (G.cl c) f) (hv : PE X value (fG G c1 fa W)) (hN : X.N[i]? = some x := by rfl) (hvi : Vis X.env.scope x := by first | exact Or.inl rfl | exact Or.inr (Or.inl rfl) | exact Or.inr (Or.inr rfl)) (hd : (x == ("__debug__" : Str)) = false := by decide)
    (hcd : (x == ("__classdict__" : Str)) = false := by decide) (hs : swapsWith value (some (.Attribute (.Name x px) f pos')) pos.line X.env = pure false := by rfl) : PS X (.Assign [.Attribute (.Name x px) f pos'] value pos) (sG G (sFldF i c f fa) W) := by
  refine PS.imp (ps_fld (pe_var hN hvi hd hcd) hv hs) fun Dn σ H h => ?_
  refine fGS h fun v d H' B F0 F o env rs rx q => ?_
  split at q
  · rename_i shs c' fs h0
    split at q
    · rename_i hcc
      obtain ⟨rfl, hlen⟩ := hcc
      split at q
      · rename_i hfz
        obtain ⟨v0, g1, g2⟩ := rs.own i _ _ h0
        cases g2 with
        | @ins _ _ a dx _ vs _ e1 e2 e3 =>
          refine ⟨_, g1, a, _, dx, vs, rfl, e1, by rw [← fit.k]; exact hc, by rw [← fit.k]; exact hn, by rw [e3.length]; omega, ?_⟩
          have r1 := (rs.forget (some (.ref a)) i).labels (o' := relab2 (i + 1) (placeF f 0 fs) o) (fun b m y => by
            obtain ⟨m', y'⟩ := relab2_some y
            exact rs.ow b m' y') fun j s' d' y b m z => by
              have hj : i ≠ j := fun e => by
                subst e
                rw [List.getElem?_set, if_pos rfl] at y
                split at y <;> cases y
              exact relab2_other z (by omega) (by omega)
          rw [set_same g1] at r1
          have ho : relab2 (i + 1) (placeF f 0 fs) o a = some [i + 1] := relab2_one e2 (by omega)
          have r2 := r1.chO (u := .ins (G.cl c') dx (putF f v vs)) ho fun s' d'' y => by
            rw [List.getElem?_set, if_pos rfl] at y
            split at y <;> cases y
          have hx : RepX G F (upd H' a (.ins (G.cl c') dx (putF f v vs))) (relab2 (i + 1) (placeF f 0 fs) o) [i + 1] (.ob shs) (.ref a) (.obj c' (putF' f d fs)) := by
            refine .ins upd_same ho (e3.put (Ex.refl F) (fun n hne b m z => ?_) ?_)
            · have hb : b ≠ a := fun y => by
                subst y
                rw [e2] at z
                simp at z
              refine ⟨relab2_ne z (by omega) fun y => hne y.2, by rw [upd_ne hb]⟩
            · rw [hfz]
              refine rx.move (Ex.refl F) fun b m z => ⟨relab2_at z, ?_⟩
              have hb : b ≠ a := fun y => by
                subst y
                rw [e2] at z
                simp at z
              rw [upd_ne hb]
          have r3 := r2.putO i hx fun p' hp' => by
            have z := rs.pin i p' _ _ hp' h0
            rw [g1] at z
            cases z
            rfl
          rw [set_same g1, List.set_set] at r3
          exact q σ F _ _ r3
      · exact q.elim
    · exact q.elim
  · exact q.elim
end
end DL
end

section
set_option Elab.async false
set_option linter.all false
set_option autoImplicit false
set_option maxRecDepth 100000
set_option maxHeartbeats 4000000
/-! E8: defs, calls, methods, new objects. -/
namespace DL
open PySem L2 PyProof.Rows PySem.Spec

/-! ### shapes alike -/
mutual
def Sh.same : Sh → Sh → Bool
  | .fz, .fz => true
  | .con a, .con b => Sh.same a b
  | .ob a, .ob b => Sh.sameL a b
  | _, _ => false
def Sh.sameL : List (Str × Sh) → List (Str × Sh) → Bool
  | [], [] => true
  | (f, a) :: r, (g, b) :: t => decide (f = g) && Sh.same a b && Sh.sameL r t
  | _, _ => false
end
mutual
theorem Sh.eq_of : ∀ {a b : Sh}, Sh.same a b = true → a = b
  | .fz, .fz, _ => rfl
  | .con a, .con b, h => by rw [Sh.same] at h; rw [Sh.eq_of h]
  | .ob a, .ob b, h => by rw [Sh.same] at h; rw [Sh.eqL_of h]
  | .fz, .con _, h => by simp [Sh.same] at h
  | .fz, .ob _, h => by simp [Sh.same] at h
  | .con _, .fz, h => by simp [Sh.same] at h
  | .con _, .ob _, h => by simp [Sh.same] at h
  | .ob _, .fz, h => by simp [Sh.same] at h
  | .ob _, .con _, h => by simp [Sh.same] at h
theorem Sh.eqL_of : ∀ {a b : List (Str × Sh)}, Sh.sameL a b = true → a = b
  | [], [], _ => rfl
  | (f, a) :: r, (g, b) :: t, h => by
    simp only [Sh.sameL, Bool.and_eq_true, decide_eq_true_eq] at h
    rw [h.1.1, Sh.eq_of h.1.2, Sh.eqL_of h.2]
  | [], _ :: _, h => by simp [Sh.sameL] at h
  | _ :: _, [], h => by simp [Sh.sameL] at h
end

/-! ### a def's promise where no repr is under way -/
structure FnG (P : Program) (w : World) (K : PySem.W.Frag) (mg : Str → Option Value) (base : Heap) (k : Nat) (f : Addr) (fd : FuncData) (ps : List Str) (sp : Sp) : Prop where
  len : ∀ vs H Q E, sp vs H Q E → vs.length = ps.length
  run : ∀ (A : Around) (outer : List PySem.Env) (s : Shared) (H : Hp) (args : Args) (us : List Value) (vs : List V) (Q : VK) (E : XK), Room k A → A.guards = some [] → Env0 P w K mg base A outer s H →
    BindsTo s fd args (ps.zip us) → Vals vs us → sp vs H Q E → codeAny (model P w) A (.call (.ref f) args) (CR (L2.CX P w) outer P w H s Q E) s
/-- by its body -/
theorem fnG_of {P : Program} {w : World} {K : PySem.W.Frag} {mg : Str → Option Value} {base : Heap} {k : Nat} {f : Addr} {name qual : Str} {params : Arguments} {body : List Stmt} {scope : Scope} {dV kV doc pm cdv ct oc : Value} {an od : Option Addr}
    {osl : Array (Option Value)} {N ps : List Str} {sp : Sp} (lk : K.lookup f = some ⟨oc, od, .func (PySem.W.fnOf name qual params body scope dV kV doc pm an cdv ct), osl⟩) (hcd : PySem.W.codeIn K cdv qual = true) (S : FnScope N ps scope)
    (hlen : ∀ vs H Q E, sp vs H Q E → vs.length = ps.length)
    (hbody : ∀ (A : Around) (outer : List PySem.Env) (s : Shared) (H : Hp) (vs : List V) (Q : VK) (E : XK), Room k (A.deeper (envOfC qual scope s.heap.objs.size f cdv)) → A.guards = some [] → sp vs H Q E →
      ∃ t, PSs (cxOf (L2.CX P w) P w K mg base N qual scope f cdv A outer s H E) body t ∧ t { nx := fun _ H' => Q .non H', rt := Q } (start N vs) H) :
    FnG P w K mg base (k + 1) f (PySem.W.fnOf name qual params body scope dV kV doc pm an cdv ct) ps sp := by
  refine ⟨hlen, fun A outer s H args us vs Q E room hgd env0 hbind rel hsp => ?_⟩
  have stays : ∀ b o, base.get? b = some o → s.heap.get? b = some o := fun b o q => (env0.bs b o q).1
  have inK : K.In s.heap := env0.mod.kin.keeps stays
  have hkinds : ∀ y ∈ ps.zip us, scope.names.lookup y.1 = some .local ∨ (scope.names.lookup y.1 = some .cell ∧ ((cellsFrom (s.heap.objs.size + 1) scope.names []).lookup y.1).isSome = true) := by
    rintro ⟨nm, uv⟩ hy
    rcases S.par nm (List.of_mem_zip hy).1 with q | q
    · exact Or.inl q
    · exact Or.inr ⟨q, PySem.W.cellsFrom_some _ _ _ (Or.inl q)⟩
  refine codeAny_call_function room.depth (inK _ _ lk) rfl S.co S.gen rfl (PySem.W.codeRec_of inK hcd) (hbind _ _ _ _ ?_)
  refine wpAny_newFunctionEnv_cells S.kind hkinds fun fenv hfe s1 inc => ?_
  subst hfe
  refine ⟨(env0.mod.nolimit.keeps stays).keeps inc.toInCall.keep, codeAny_func ?_⟩
  obtain ⟨t, pt, rd⟩ := hbody A outer s H vs Q E (room.deeper _) hgd hsp
  have I := inv_start (CX := L2.CX P w) (E := E) S room.hd env0 (hlen _ _ _ _ hsp) rel inc
  refine wpAny_mono (pt.run [] s1 (start N vs) H _ I rd) (fun fl s' out => ?_) fun e s' out => out
  cases fl with
  | ret u =>
    obtain ⟨v, σ', H', J, rv, q⟩ := out
    exact ⟨v, H', J.os, J.bare, J.base, J.hok, rv, q⟩
  | next =>
    obtain ⟨σ', H', J, q⟩ := out
    exact ⟨V.non, H', J.os, J.bare, J.base, J.hok, rfl, q⟩
  | brk =>
    obtain ⟨_, _, _, q⟩ := out
    exact q.elim
  | cont =>
    obtain ⟨_, _, _, q⟩ := out
    exact q.elim
section
variable {X : Cx} {k : Nat} {f C : Addr} {fd : FuncData} {ps : List Str} {sp : Sp} {dvs : List V} {ds : List Value} {x m : Str} {p pos apos : Pos} {e o : Expr} {es : List Expr} {t : TA} {ta : TE} {W : WX}
theorem run_fnG {pins : List (Addr × Obj)} {σ : L2.St} {H : Hp} {s : Shared} {Q : VK} {us : List Value} {vs : List V} (Fn : FnG X.prog X.w X.K X.mg X.base k f fd ps sp) (hr : Room k X.A) (hgd : X.A.guards = some []) (hb : Binds X.K fd ps ds) (hd : Vals dvs ds) (tk : Takes X W)
    (I1 : Inv X pins σ H s) (rel : Vals vs us) (q : sp (vs ++ dvs) H Q (WE W σ)) : wpAny (model X.prog X.w) X.A (call (.ref f) us) (EP X pins σ Q) X.xe s := by
  have rel2 : Vals (vs ++ dvs) (us ++ ds) := rel.append hd
  have hlen : (us ++ ds).length = ps.length := by
    rw [← rel2.length]
    exact Fn.len _ _ _ _ q
  refine wpAny_call (codeAny_mono (Fn.run X.A X.stack s H ⟨us, []⟩ (us ++ ds) (vs ++ dvs) Q (WE W σ) hr hgd I1.env0 (hb s us I1.kIn hlen) rel2 q) fun out s' hq => ?_)
  cases out with
  | error er => exact passAt tk σ pins H s er s' I1 hq
  | ok fl =>
    cases fl with
    | ret u => exact I1.after hq
    | next => exact hq.elim
    | brk => exact hq.elim
    | cont => exact hq.elim
/-- f(e, ..), what is raised is taken by W -/
theorem pe_callG (Fn : FnG X.prog X.w X.K X.mg X.base k f fd ps sp) (hr : Room k X.A) (hgd : X.A.guards = some []) (hm : X.mg x = some (.ref f)) (hk : PySem.W.keepIn X.K (.ref f) = true) (hb : Binds X.K fd ps ds) (hd : Vals dvs ds) (tk : Takes X W)
    (ha : PA X (e :: es) t) (hg : Gl X x := by rfl) (hdb : (x == ("__debug__" : Str)) = false := by decide) (he : starEach (e :: es) X.env = (false, eval e X.env) :: starEach es X.env := by rfl) (hpl : (backTo pos (starEach es X.env)).any (·.1) = false := by rfl) :
    PE X (.Call (.Name x p) (e :: es) [] pos) (tCallSD sp dvs (WE W) t) := by
  refine ⟨fun pins s σ H Q I h => wpAny_Call_Name_kw (ld_glob I hg hm ?_ hdb)⟩
  exact PySem.W.callWith_K (h₀ := X.base) I.ok.mod.kin hk (thn (ha.run pos pins s σ H _ I h) fun us s1 ⟨vs, H1, I1, rel, q⟩ => ⟨I1.kIn, run_fnG Fn hr hgd hb hd tk I1 rel q⟩) he hpl
/-- C(e, ..) -/
def tMakeG (C : Addr) (sp : Sp) (dvs : List V) (W : WX) (t : TA) : TE := fun σ H Q => t σ H fun vs H1 => ∀ x dx, H1 x = none → H1 dx = none → dx ≠ x →
  sp (.ref x :: (vs ++ dvs)) (upd (upd H1 dx (.own x)) x (.ins C dx [])) (fun v H2 => v = .non ∧ Q (.ref x) H2) (WE W σ)
theorem make_guards {A : Around} {us : List Value} {kw : List (Str × Value)} (h : A.guards = some []) : (A.under (.builtin "type.__call__" ⟨.ref C :: us, kw⟩)).guards = some [] := by
  first
    | exact h
    | simpa [Around.under, Code.isGuard, guardIds] using h
theorem run_makeG {pins : List (Addr × Obj)} {σ : L2.St} {H : Hp} {s : Shared} {Q : VK} {us : List Value} {vs : List V} (M : Mk X.K C f) (Fn : FnG X.prog X.w X.K X.mg X.base k f fd ps sp) (hr : Room (k + 1) X.A) (hgd : X.A.guards = some []) (hb : Binds X.K fd ps ds) (hd : Vals dvs ds)
    (tk : Takes X W) (I : Inv X pins σ H s) (r : Vals vs us)
    (h : ∀ x dx, H x = none → H dx = none → dx ≠ x → sp (.ref x :: (vs ++ dvs)) (upd (upd H dx (.own x)) x (.ins C dx [])) (fun v H2 => v = .non ∧ Q (.ref x) H2) (WE W σ)) :
    wpAny (model X.prog X.w) X.A (call (.ref C) us) (EP X pins σ Q) X.xe s := by
  have hq := h (s.heap.objs.size + 1) s.heap.objs.size (I.hok.fresh (Nat.le_succ _)) (I.hok.fresh (Nat.le_refl _)) (Nat.ne_of_lt (Nat.lt_succ_self _))
  have I2 := Inv.made (C := C) I
  have r2 : Vals (V.ref (s.heap.objs.size + 1) :: (vs ++ dvs)) (Value.ref (s.heap.objs.size + 1) :: (us ++ ds)) := .cons rfl (r.append hd)
  have hl : (Value.ref (s.heap.objs.size + 1) :: us ++ ds).length = ps.length := by
    have e := r2.length
    rw [Fn.len _ _ _ _ hq] at e
    exact e.symm
  refine wpAny_call (make_map (f := f) I.kIn M.makes M.init (beq_iff_eq.mp M.fn) (codeAny_mono (Fn.run _ X.stack _ _ ⟨Value.ref (s.heap.objs.size + 1) :: us, []⟩ (Value.ref (s.heap.objs.size + 1) :: (us ++ ds)) _ _ (WE W σ) (hr.make C us []) (make_guards hgd)
    (I2.env0.make C us []) (hb _ (Value.ref (s.heap.objs.size + 1) :: us) I2.kIn hl) r2 hq) fun r s' hq' => ?_))
  cases r with
  | error e => exact passAt tk σ pins _ _ e s' I2 hq'
  | ok fl =>
    cases fl with
    | ret u =>
      obtain ⟨v, H', I3, rv, ev, q3⟩ := I2.after hq'
      subst ev
      exact ⟨rv, ⟨V.ref (s.heap.objs.size + 1), H', I3, rfl, q3⟩⟩
    | next => exact False.elim hq'
    | brk => exact False.elim hq'
    | cont => exact False.elim hq'
theorem pe_makeG (M : Mk X.K C f) (Fn : FnG X.prog X.w X.K X.mg X.base k f fd ps sp) (hr : Room (k + 1) X.A) (hgd : X.A.guards = some []) (hm : X.mg x = some (.ref C)) (hb : Binds X.K fd ps ds) (hd : Vals dvs ds) (tk : Takes X W)
    (ha : PA X (e :: es) t) (hg : Gl X x := by rfl) (hdb : (x == ("__debug__" : Str)) = false := by decide) (he : starEach (e :: es) X.env = (false, eval e X.env) :: starEach es X.env := by rfl) (hpl : (backTo pos (starEach es X.env)).any (·.1) = false := by rfl) :
    PE X (.Call (.Name x p) (e :: es) [] pos) (tMakeG C sp dvs W t) := by
  refine ⟨fun pins s σ H Q I h => ?_⟩
  refine wpAny_Call_Name_kw (ld_glob I hg hm ?_ hdb)
  refine PySem.W.callWith_K (h₀ := X.base) I.ok.mod.kin M.kp (thn (ha.run pos pins s σ H _ I h) fun us s1 ⟨vs, H1, I1, r, q⟩ => ⟨I1.kIn, ?_⟩) he hpl
  exact run_makeG M Fn hr hgd hb hd tk I1 r q
end
end DL
end

section
set_option Elab.async false
set_option linter.all false
set_option autoImplicit false
set_option maxRecDepth 100000
set_option maxHeartbeats 4000000
/-! E9: promises by data. -/
namespace DL
open PySem L2 PyProof.Rows PySem.Spec

inductive FR where
  | ok (c : Cell)
  | er (c : Nat) (fs : List (Str × D))
  | bad
def RetC (G : Gm) (H F' H' : Hp) (v : V) : Cell → Prop
  | .val d => Rep G F' v d
  | .own s d => ∃ o', RepX G F' H' o' [0] s v d ∧ ∀ a m, o' a = some m → F' a = none ∧ H a = none ∧ ∃ u, H' a = some u
  | .exc _ _ => False
def FPo (G : Gm) (F H : Hp) (Q : VK) (E : XK) : FR → Prop
  | .ok c => ∀ v F' H', Grow F H F' H' → RetC G H F' H' v c → Q v H'
  | .er c fs => ∀ dx F' H' fvs, Grow F H F' H' → F' dx = some (.xd fvs) → RepF G F' fvs fs → E (.ref (G.cl c)) (some dx) H'
  | .bad => False
/-- a def of data: nothing that stood is changed -/
def spF (G : Gm) (n : Nat) (Φ : List D → FR) : Sp := fun vs H Q E => vs.length = n ∧ ∃ F ds, Ex F H ∧ RepL G F vs ds ∧ FPo G F H Q E (Φ ds)
/-- .. as an expression -/
def frE (env : DEnv) : FR → Res (D × DEnv)
  | .ok (.val d) => .ok (d, env)
  | .ok (.own _ d) => .ok (d, env)
  | .ok (.exc _ _) => .bad
  | .er c fs => .er c fs env
  | .bad => .bad
def eFn (Φ : List D → FR) (dds : List D) (a : EM (List D)) : EM D := bnd a fun ds env => frE env (Φ (ds ++ dds))
/-- .. whose value is a new object that nothing else holds -/
def frO (s : Sh) (env : DEnv) : FR → Res (D × DEnv)
  | .ok (.own s' d) => if Sh.same s' s = true then .ok (d, env) else .bad
  | .er c fs => .er c fs env
  | _ => .bad
def eFnO (s : Sh) (Φ : List D → FR) (dds : List D) (a : EM (List D)) : EM D := bnd a fun ds env => frO s env (Φ (ds ++ dds))
section
variable {G : Gx} {X : Cx} {W : WX} {B F0 F H F' H' : Hp} {o : Own} {σ : L2.St} {env : DEnv} {v : V} {s : Sh} {d : D}
/-- what a call handed back, in hand -/
theorem RepS.ret (r : RepS G B F0 F H o σ env) (g : Grow F H F' H') (h : RetC G H F' H' v (.own s d)) : ∃ o', RepS G B F0 F' H' o' σ env ∧ RepX G F' H' o' [0] s v d := by
  obtain ⟨o1, hx, ho⟩ := h
  let oc : Own := fun a => match o1 a with
    | some (0 :: t) => some (0 :: t)
    | _ => dropO o 0 a
  have r2 := r.grow g
  have hc : ∀ a t, o1 a = some (0 :: t) → oc a = some (0 :: t) := fun a t e => by
    show (match o1 a with | some (0 :: t) => some (0 :: t) | _ => dropO o 0 a) = _
    rw [e]
    rfl
  refine ⟨oc, r2.labels (fun a m q => ?_) fun i s' d' q a m z => ?_, hx.move (Ex.refl F') fun a m e => ⟨hc a m e, rfl⟩⟩
  · replace q : (match o1 a with | some (0 :: t) => some (0 :: t) | _ => dropO o 0 a) = some m := q
    split at q
    · rename_i t e
      obtain ⟨h1, h2, h3⟩ := ho a _ e
      exact ⟨h1, r.bh.back h2, h3⟩
    · exact r2.ow a m (dropO_some q).1
  · show (match o1 a with | some (0 :: t) => some (0 :: t) | _ => dropO o 0 a) = _
    have hd : dropO o 0 a = some ((i + 1) :: m) := by
      unfold dropO
      rw [z]
      simp
    split
    · rename_i t e
      obtain ⟨_, h2, _⟩ := ho a _ e
      obtain ⟨_, _, u, h3⟩ := r.ow a _ z
      rw [h2] at h3
      cases h3
    · exact hd
theorem eG_fn {Φ : List D → FR} {n : Nat} {dds : List D} {dvs : List V} {fr : EM (List D)} {σ : L2.St} {H : Hp} {Q : VK} (hl : ∀ ds, Φ (ds ++ dds) ≠ .bad → ds.length + dds.length = n) (hd : ∀ F, RepL G F dvs dds) (h : eG G (eFn Φ dds fr) W σ H Q) :
    tCallSD (spF G n Φ) dvs (WE W) (aG G fr W) σ H Q := by
  refine gG_bnd (K1 := kA) up_true h.c fun vs ds H1 ⟨B, F0, F, o, env, rs, ⟨_, rl⟩, p⟩ => ?_
  have rl2 := RepL.append rl (hd F)
  refine ⟨?_, F, ds ++ dds, rs.fh, rl2, ?_⟩
  · rw [rl2.length, List.length_append]
    refine hl ds fun z => ?_
    rw [z] at p
    exact p
  · cases hf : Φ (ds ++ dds) with
    | bad => rw [hf] at p; exact p
    | er c fs =>
      rw [hf] at p
      exact fun dx F' H' fvs g h1 h2 => p dx F' H' o fvs (rs.grow g) g.f h1 h2
    | ok c =>
      rw [hf] at p
      intro v F' H' g rc
      cases c with
      | val d => exact p v F' H' o (rs.grow g) g.f rc
      | exc _ _ => exact rc.elim
      | own s d =>
        obtain ⟨o', rs', rx⟩ := rs.ret g rc
        obtain ⟨F2, o2, e2, rp, rs2⟩ := rs'.frz0 rx
        exact p v F2 H' o2 rs2 (g.f.trans e2) rp
theorem fG_fn {Φ : List D → FR} {n : Nat} {dds : List D} {dvs : List V} {fr : EM (List D)} {σ : L2.St} {H : Hp} {Q : VK} (hl : ∀ ds, Φ (ds ++ dds) ≠ .bad → ds.length + dds.length = n) (hd : ∀ F, RepL G F dvs dds) (h : fG G s (eFnO s Φ dds fr) W σ H Q) :
    tCallSD (spF G n Φ) dvs (WE W) (aG G fr W) σ H Q := by
  refine fG_new (K := kA) h fun vs ds H1 B F0 F o env rs rl p => ?_
  have rl2 := RepL.append rl (hd F)
  refine ⟨?_, F, ds ++ dds, rs.fh, rl2, ?_⟩
  · rw [rl2.length, List.length_append]
    refine hl ds fun z => ?_
    rw [z] at p
    exact p
  · cases hf : Φ (ds ++ dds) with
    | bad => rw [hf] at p; exact p
    | er c fs =>
      rw [hf] at p
      exact fun dx F' H' fvs g h1 h2 => p dx F' H' o fvs (rs.grow g) g.f h1 h2
    | ok c =>
      rw [hf] at p
      intro v F' H' g rc
      cases c with
      | val d => exact p.elim
      | exc _ _ => exact rc.elim
      | own s' d =>
        replace p : FPost G s B F0 F σ W Q (if Sh.same s' s = true then .ok (d, env) else .bad) := p
        split at p
        · rename_i hs
          have := Sh.eq_of hs
          subst this
          obtain ⟨o', rs', rx⟩ := rs.ret g rc
          exact p v F' H' o' rs' g.f rx
        · exact p.elim
end
/-- a def of the program, as it is called -/
structure Cal (G : Gm) (X : Cx) (x : Str) (n : Nat) (Φ : List D → FR) (dds : List D) : Prop where
  ex : ∃ (k : Nat) (f : Addr) (fd : FuncData) (ps : List Str) (ds : List Value) (dvs : List V), FnG X.prog X.w X.K X.mg X.base k f fd ps (spF G n Φ) ∧ Room k X.A ∧ X.mg x = some (.ref f) ∧ PySem.W.keepIn X.K (.ref f) = true ∧ Binds X.K fd ps ds ∧ Vals dvs ds ∧ (∀ F, RepL G F dvs dds)
  len : ∀ ds, Φ (ds ++ dds) ≠ .bad → ds.length + dds.length = n
section
variable {G : Gx} {X : Cx} {W : WX} {a : Expr} {es : List Expr} {x : Str} {n : Nat} {Φ : List D → FR} {dds : List D} {fr : EM (List D)} {p pos : Pos} {s : Sh}
theorem de_fn (c : Cal G X x n Φ dds) (hgd : X.A.guards = some []) (tk : Takes X W) (ha : PA X (a :: es) (aG G fr W)) (hg : Gl X x := by rfl) (hdb : (x == ("__debug__" : Str)) = false := by decide) (he : starEach (a :: es) X.env = (false, eval a X.env) :: starEach es X.env := by rfl) (hpl : (backTo pos (starEach es X.env)).any (·.1) = false := by rfl) :
    PE X (.Call (.Name x p) (a :: es) [] pos) (eG G (eFn Φ dds fr) W) := by
  obtain ⟨k, f, fd, ps, ds, dvs, h1, h2, h3, h4, h5, h6, h7⟩ := c.ex
  exact PE.imp (pe_callG h1 h2 hgd h3 h4 h5 h6 tk ha hg hdb he hpl) fun _ _ _ h => eG_fn c.len h7 h
theorem df_fn (c : Cal G X x n Φ dds) (hgd : X.A.guards = some []) (tk : Takes X W) (ha : PA X (a :: es) (aG G fr W)) (hg : Gl X x := by rfl) (hdb : (x == ("__debug__" : Str)) = false := by decide) (he : starEach (a :: es) X.env = (false, eval a X.env) :: starEach es X.env := by rfl) (hpl : (backTo pos (starEach es X.env)).any (·.1) = false := by rfl) :
    PE X (.Call (.Name x p) (a :: es) [] pos) (fG G s (eFnO s Φ dds fr) W) := by
  obtain ⟨k, f, fd, ps, ds, dvs, h1, h2, h3, h4, h5, h6, h7⟩ := c.ex
  exact PE.imp (pe_callG h1 h2 hgd h3 h4 h5 h6 tk ha hg hdb he hpl) fun _ _ _ h => fG_fn c.len h7 h
end

/-! ### o.m(..), o a value -/
def isObj (c : Nat) (m : Str) : D → Bool
  | .obj c' fs => decide (c' = c) && (fs.lookup m).isNone
  | _ => false
def eMeth (c : Nat) (m : Str) (Φ : List D → FR) (dds : List D) (o : EM D) (a : EM (List D)) : EM D := bnd o fun d => if isObj c m d = true then bnd a (fun ds env => frE env (Φ (d :: (ds ++ dds)))) else fun _ => .bad
section
variable {G : Gx} {X : Cx} {W : WX} {a o : Expr} {es : List Expr} {m : Str} {c n : Nat} {Φ : List D → FR} {dds : List D} {fo : EM D} {fr : EM (List D)} {apos pos : Pos}
end

/-! ### a def that changes its first argument, an object that the caller owns -/
inductive FT where
  | ok (v d : D)
  | er (c : Nat) (fs : List (Str × D)) (d : D)
  | bad
/-- what such a call may do -/
structure Tx (F H : Hp) (o : Own) (F' H' : Hp) (o' : Own) : Prop where
  h : ∀ a u, H a = some u → o a = none → H' a = some u
  f : Ex F F'
  fh : Ex F' H'
  fr : ∀ a u, F' a = some u → (∃ u', F a = some u') ∨ H a = none ∨ ∃ m, o a = some m
  ow : ∀ a m, o' a = some m → F' a = none ∧ (H a = none ∨ ∃ m', o a = some m') ∧ ∃ u, H' a = some u
def spT (G : Gm) (n : Nat) (sin sout : Sh) (Φ : D → List D → FT) : Sp := fun vs H Q E => vs.length = n ∧ ∃ F o v0 vs' d ds, vs = v0 :: vs' ∧ Ex F H ∧ (∀ a m, o a = some m → F a = none ∧ ∃ u, H a = some u) ∧ RepX G F H o [1] sin v0 d ∧ RepL G F vs' ds ∧ match Φ d ds with
  | .ok c d' => ∀ v F' H' o', Tx F H o F' H' o' → RepX G F' H' o' [1] sout v0 d' → Rep G F' v c → Q v H'
  | .er c fs d' => ∀ dx F' H' o' fvs, Tx F H o F' H' o' → RepX G F' H' o' [1] sin v0 d' → F' dx = some (.xd fvs) → RepF G F' fvs fs → E (.ref (G.cl c)) (some dx) H'
  | .bad => False
/-- the caller's labels behind the call: n the callee's root, m the caller's -/
def backO (o o' : Own) (m : Nat) : Own := fun a => match o' a with
  | some (1 :: t) => some (m :: t)
  | _ => dropO o m a
def ofCaller (o : Own) (m : Nat) : Own := fun a => match o a with
  | some (h :: t) => if h = m then some (1 :: t) else none
  | _ => none
theorem ofCaller_some {o : Own} {m : Nat} {a : Addr} {l : Lb} (h : ofCaller o m a = some l) : ∃ t, o a = some (m :: t) ∧ l = 1 :: t := by
  unfold ofCaller at h
  split at h
  · rename_i k t e
    split at h
    · rename_i hk
      subst hk
      cases h
      exact ⟨t, e, rfl⟩
    · cases h
  · cases h
theorem ofCaller_at {o : Own} {m : Nat} {a : Addr} {t : Lb} (h : o a = some (m :: t)) : ofCaller o m a = some (1 :: t) := by
  unfold ofCaller
  rw [h]
  simp
section
variable {G : Gx} {B F0 F H F' H' : Hp} {o o' : Own} {σ : L2.St} {env : DEnv}
theorem RepS.backT (r : RepS G B F0 F H o σ env) {i : Nat} (hi : ∀ s d, env[i]? ≠ some (some (.own s d))) (t : Tx F H (ofCaller o (i + 1)) F' H' o') : RepS G B F0 F' H' (backO o o' (i + 1)) σ env where
  bh := fun a u h => by
    refine t.h a u (r.bh a u h) ?_
    cases q : ofCaller o (i + 1) a with
    | none => rfl
    | some l =>
      obtain ⟨m, e, _⟩ := ofCaller_some q
      have z := (r.ow a _ e).2.1
      rw [h] at z
      cases z
  f0 := r.f0.trans t.f
  fh := t.fh
  fr := fun a u h => by
    rcases t.fr a u h with ⟨u', q⟩ | q | ⟨m, q⟩
    · exact r.fr a u' q
    · exact .inr (r.bh.back q)
    · obtain ⟨m', e, _⟩ := ofCaller_some q
      exact .inr (r.ow a _ e).2.1
  ow := fun a m e => by
    unfold backO at e
    split at e
    · rename_i t' q
      obtain ⟨h1, h2, h3⟩ := t.ow a _ q
      refine ⟨h1, ?_, h3⟩
      rcases h2 with h2 | ⟨m', h2⟩
      · exact r.bh.back h2
      · obtain ⟨m'', e', _⟩ := ofCaller_some h2
        exact (r.ow a _ e').2.1
    · obtain ⟨e1, k, t', rfl, hk⟩ := dropO_some e
      obtain ⟨h1, h2, u, h3⟩ := r.ow a _ e1
      have hn : ofCaller o (i + 1) a = none := by
        unfold ofCaller
        rw [e1]
        simp [hk]
      refine ⟨?_, h2, u, t.h a u h3 hn⟩
      cases q : F' a with
      | none => rfl
      | some w =>
        rcases t.fr a w q with ⟨u', z⟩ | z | ⟨m', z⟩
        · rw [h1] at z; cases z
        · rw [h3] at z; cases z
        · rw [hn] at z; cases z
  len := r.len
  val := fun j d q => by
    obtain ⟨v, h1, h2⟩ := r.val j d q
    exact ⟨v, h1, h2.mono t.f⟩
  own := fun j s d q => by
    obtain ⟨v, h1, h2⟩ := r.own j s d q
    have hj : j ≠ i := fun e => by
      subst e
      exact hi s d q
    refine ⟨v, h1, h2.move t.f fun a m z => ?_⟩
    replace z : o a = some ((j + 1) :: m) := z
    have hn : ofCaller o (i + 1) a = none := by
      unfold ofCaller
      rw [z]
      simp [hj]
    obtain ⟨_, _, u, h3⟩ := r.ow a _ z
    refine ⟨?_, by rw [h3, t.h a u h3 hn]⟩
    unfold backO
    split
    · rename_i t' q'
      obtain ⟨_, h4, _⟩ := t.ow a _ q'
      rcases h4 with h4 | ⟨m', h4⟩
      · rw [h3] at h4; cases h4
      · rw [hn] at h4; cases h4
    · unfold dropO
      rw [z]
      simp [hj]
  exc := fun j c fs q => by
    obtain ⟨a, dd, fvs, h1, h2, h3, h4⟩ := r.exc j c fs q
    exact ⟨a, dd, fvs, h1, h2, t.f _ _ h3, h4.mono t.f⟩
  pin := r.pin
theorem back_at {m : Nat} {a : Addr} {t : Lb} (h : o' a = some (1 :: t)) : backO o o' m a = some (m :: t) := by
  unfold backO
  rw [h]
  rfl
end
def eFnT (sin sout : Sh) (Φ : D → List D → FT) (i : Nat) (a : EM (List D)) : EM D := fun env => match env[i]? with
  | some (some (.own _ _)) => (bnd a fun ds env1 => match env1[i]? with
    | some (some (.own s d)) => if Sh.same s sin = true then (match Φ d ds with
      | .ok c d' => .ok (c, env1.set i (some (.own sout d')))
      | .er c fs d' => .er c fs (env1.set i (some (.own sin d')))
      | .bad => .bad) else .bad
    | _ => .bad) env
  | _ => .bad
structure CalT (G : Gm) (X : Cx) (x : Str) (n : Nat) (sin sout : Sh) (Φ : D → List D → FT) : Prop where
  ex : ∃ (k : Nat) (f : Addr) (fd : FuncData) (ps : List Str), FnG X.prog X.w X.K X.mg X.base k f fd ps (spT G n sin sout Φ) ∧ Room k X.A ∧ X.mg x = some (.ref f) ∧ PySem.W.keepIn X.K (.ref f) = true ∧ Binds X.K fd ps []
  len : ∀ d ds, Φ d ds ≠ .bad → ds.length + 1 = n
section
variable {G : Gx} {X : Cx} {W : WX} {es : List Expr} {x y : Str} {n i : Nat} {sin sout : Sh} {Φ : D → List D → FT} {fr : EM (List D)} {p py pos : Pos}
theorem eG_fnT {σ : L2.St} {H : Hp} {Q : VK} (hlen : ∀ d ds, Φ d ds ≠ .bad → ds.length + 1 = n) (h : eG G (eFnT sin sout Φ i fr) W σ H Q) : ∃ v0, σ[i]? = some (some v0) ∧ aG G fr W σ H fun vs H1 => spT G n sin sout Φ (v0 :: vs) H1 Q (WE W σ) := by
  obtain ⟨B, F0, F, o, env, rs, q⟩ := h
  unfold eFnT at q
  split at q
  · rename_i s0 d0 h0
    obtain ⟨v0, g1, g2⟩ := rs.own i _ d0 h0
    refine ⟨v0, g1, ?_⟩
    refine gG_bnd (K1 := kA) (K := kE) up_true (k := fun ds env1 => match env1[i]? with
      | some (some (.own s d)) => if Sh.same s sin = true then (match Φ d ds with
        | .ok c d' => .ok (c, env1.set i (some (.own sout d')))
        | .er c fs d' => .er c fs (env1.set i (some (.own sin d')))
        | .bad => .bad) else .bad
      | _ => .bad) ⟨B, F0, F, o, env, rs, True.intro, q⟩ fun vs ds H1 ⟨B, F0, F, o, env1, rs1, ⟨_, rl⟩, q⟩ => ?_
    simp only at q
    split at q
    · rename_i s d h6
      split at q
      · rename_i hs
        have := Sh.eq_of hs
        subst this
        obtain ⟨v1, g3, g4⟩ := rs1.own i _ d h6
        rw [g1] at g3
        cases g3
        have hn : ds.length + 1 = n := hlen d ds fun z => by
          rw [z] at q
          exact q
        have hrl : RepL G F vs ds := rl
        refine ⟨by rw [List.length_cons, hrl.length]; exact hn, F, ofCaller o (i + 1), v0, vs, d, ds, rfl, rs1.fh, fun a m e => ?_, ?_, rl, ?_⟩
        · obtain ⟨t, e', _⟩ := ofCaller_some e
          obtain ⟨h1, _, h3⟩ := rs1.ow a _ e'
          exact ⟨h1, h3⟩
        · exact g4.move (Ex.refl F) fun a m z => ⟨ofCaller_at z, rfl⟩
        · have r1 := rs1.forget (some v0) i
          rw [set_same g1] at r1
          have hi : ∀ s' d', (env1.set i none)[i]? ≠ some (some (.own s' d')) := fun s' d' y => by
            rw [List.getElem?_set, if_pos rfl] at y
            split at y <;> cases y
          have fin : ∀ {F' H' : Hp} {o' : Own} {s' : Sh} {d' : D}, Tx F H1 (ofCaller o (i + 1)) F' H' o' → RepX G F' H' o' [1] s' v0 d' → RepS G B F0 F' H' (backO o o' (i + 1)) σ (env1.set i (some (.own s' d'))) := by
            intro F' H' o' s' d' t hx
            have r2 := r1.backT hi t
            have hx2 : RepX G F' H' (backO o o' (i + 1)) [i + 1] s' v0 d' := hx.move (Ex.refl F') fun a m z => ⟨back_at z, rfl⟩
            have r3 := r2.putO i hx2 fun p' hp' => by
              have z := rs1.pin i p' _ _ hp' h6
              rw [g1] at z
              exact Option.some.inj (Option.some.inj z)
            rw [set_same g1, List.set_set] at r3
            exact r3
          cases hΦ : Φ d ds with
          | bad => rw [hΦ] at q; exact q.elim
          | ok c2 d2 =>
            rw [hΦ] at q
            exact fun v F' H' o' t hx rv => q v F' H' _ (fin t hx) t.f rv
          | er c2 fs2 d2 =>
            rw [hΦ] at q
            exact fun dx F' H' o' fvs t hx h1 h2 => q dx F' H' _ fvs (fin t hx) t.f h1 h2
      · exact q.elim
    · exact q.elim
  · exact q.elim
theorem de_fnT (c : CalT G X x n sin sout Φ) (hgd : X.A.guards = some []) (tk : Takes X W) (ha : PA X es (aG G fr W)) (hN : X.N[i]? = some y := by rfl) (hv : Vis X.env.scope y := by first | exact Or.inl rfl | exact Or.inr (Or.inl rfl) | exact Or.inr (Or.inr rfl)) (hg : Gl X x := by rfl)
    (hdb : (x == ("__debug__" : Str)) = false := by decide) (hdy : (y == ("__debug__" : Str)) = false := by decide) (hcd : (y == ("__classdict__" : Str)) = false := by decide) (he : starEach (.Name y py :: es) X.env = (false, eval (.Name y py) X.env) :: starEach es X.env := by rfl) (hpl : (backTo pos (starEach es X.env)).any (·.1) = false := by rfl) :
    PE X (.Call (.Name x p) (.Name y py :: es) [] pos) (eG G (eFnT sin sout Φ i fr) W) := by
  obtain ⟨k, f, fd, ps, h1, h2, h3, h4, h5⟩ := c.ex
  refine PE.imp (pe_callG (dvs := []) h1 h2 hgd h3 h4 h5 .nil tk (pa_cons (pe_var hN hv hdy hcd) ha he) hg hdb he hpl) fun σ H Q h => ?_
  obtain ⟨v0, g1, g2⟩ := eG_fnT c.len h
  refine ⟨v0, g1, ?_⟩
  simpa [tCallSD, tCons] using g2
end

/-! ### C(..) -/
structure CalC (G : Gm) (X : Cx) (x : Str) (c n : Nat) (sin sout : Sh) (Φ : D → List D → FT) : Prop where
  ex : ∃ (k : Nat) (f : Addr) (fd : FuncData) (ps : List Str), FnG X.prog X.w X.K X.mg X.base k f fd ps (spT G n sin sout Φ) ∧ Room (k + 1) X.A ∧ X.mg x = some (.ref (G.cl c)) ∧ Mk X.K (G.cl c) f ∧ Binds X.K fd ps []
  len : ∀ d ds, Φ d ds ≠ .bad → ds.length + 1 = n
  ob : ∃ shs, sin = .ob shs
def eMk (c : Nat) (Φ : D → List D → FT) (a : EM (List D)) : EM D := bnd a fun ds env => match Φ (.obj c []) ds with
  | .ok .non d' => .ok (d', env)
  | .er c fs _ => .er c fs env
  | _ => .bad
section
variable {G : Gx} {X : Cx} {W : WX} {a : Expr} {es : List Expr} {x : Str} {n c : Nat} {sin sout : Sh} {Φ : D → List D → FT} {fr : EM (List D)} {p pos : Pos}
theorem df_mk (cc : CalC G X x c n sin sout Φ) (hgd : X.A.guards = some []) (tk : Takes X W) (ha : PA X (a :: es) (aG G fr W)) (hg : Gl X x := by rfl) (hdb : (x == ("__debug__" : Str)) = false := by decide) (he : starEach (a :: es) X.env = (false, eval a X.env) :: starEach es X.env := by rfl) (hpl : (backTo pos (starEach es X.env)).any (·.1) = false := by rfl) :
    PE X (.Call (.Name x p) (a :: es) [] pos) (fG G sout (eMk c Φ fr) W) := by
  obtain ⟨k, f, fd, ps, h1, h2, h3, h4, h5⟩ := cc.ex
  obtain ⟨shs, hob⟩ := cc.ob
  subst hob
  refine PE.imp (pe_makeG (dvs := []) h4 h1 h2 hgd h3 h5 .nil tk ha hg hdb he hpl) fun σ H Q h => ?_
  refine fG_new (K := kA) h fun vs ds H1 B F0 F o env rs rl q => ?_
  intro z dx hz hdx hne
  have hrl : RepL G F vs ds := rl
  have hn : ds.length + 1 = n := cc.len (.obj c []) ds fun y => by
    rw [y] at q
    exact q
  have g1 := Grow.newH (o := .own z) rs.fh hdx
  have hz2 : (upd H1 dx (.own z)) z = none := by rw [upd_ne (Ne.symm hne)]; exact hz
  have g2 := Grow.newH (o := .ins (G.cl c) dx []) g1.fh hz2
  have r2 := (rs.grow g1).grow g2
  let oN : Own := fun b => if b = z then some [1] else none
  have hoN : oN z = some [1] := if_pos rfl
  rw [List.append_nil]
  refine ⟨by rw [List.length_cons, hrl.length]; exact hn, F, oN, .ref z, vs, .obj c [], ds, rfl, g2.fh, fun b m e => ?_, .ins upd_same hoN .nil, rl, ?_⟩
  · replace e : (if b = z then some [1] else none) = some m := e
    split at e
    · rename_i hb
      subst hb
      exact ⟨rs.fh.back hz, _, upd_same⟩
    · cases e
  · have hB : ∀ b u, H1 b = some u → b ≠ z := fun b u e y => by
      subst y
      rw [hz] at e
      cases e
    have fin : ∀ {F' H' : Hp} {o' : Own}, Tx F (upd (upd H1 dx (.own z)) z (.ins (G.cl c) dx [])) oN F' H' o' → Grow F H1 F' H' := by
      intro F' H' o' t
      refine ⟨t.f, fun b u e => t.h b u ((g1.h.trans g2.h) b u e) (if_neg (hB b u e)), t.fh, fun b u e => ?_⟩
      rcases t.fr b u e with y | y | ⟨m, y⟩
      · exact .inl y
      · exact .inr ((g1.h.trans g2.h).back y)
      · replace y : (if b = z then some [1] else none) = some m := y
        split at y
        · rename_i hb
          subst hb
          exact .inr hz
        · cases y
    cases hΦ : Φ (.obj c []) ds with
    | bad => rw [hΦ] at q; exact q.elim
    | er c2 fs2 d2 =>
      rw [hΦ] at q
      exact fun dx' F' H' o' fvs t hx e1 e2 => q dx' F' H' o fvs (rs.grow (fin t)) t.f e1 e2
    | ok c2 d2 =>
      rw [hΦ] at q
      intro v F' H' o' t hx rv
      cases c2 with
      | non =>
        refine ⟨rep_non rv, ?_⟩
        have rc : RetC G H1 F' H' (.ref z) (.own sout d2) := by
          refine ⟨fun b => match o' b with | some (1 :: t) => some (0 :: t) | _ => none, hx.move (Ex.refl F') fun b m e => ⟨?_, rfl⟩, fun b m e => ?_⟩
          · show (match o' b with | some (1 :: t) => some (0 :: t) | _ => none) = _
            rw [show o' b = some (1 :: m) from e]
            rfl
          · replace e : (match o' b with | some (1 :: t) => some (0 :: t) | _ => none) = some m := e
            split at e
            · rename_i t' e'
              obtain ⟨k1, k2, k3⟩ := t.ow b _ e'
              refine ⟨k1, ?_, k3⟩
              rcases k2 with k2 | ⟨m', k2⟩
              · exact (g1.h.trans g2.h).back k2
              · replace k2 : (if b = z then some [1] else none) = some m' := k2
                split at k2
                · rename_i hb
                  subst hb
                  exact hz
                · cases k2
            · cases e
        obtain ⟨o2, rs2, rx2⟩ := rs.ret (fin t) rc
        exact q (.ref z) F' H' o2 rs2 t.f rx2
      | _ => exact q.elim
end
end DL
end

section
set_option Elab.async false
set_option linter.all false
set_option autoImplicit false
set_option maxRecDepth 100000
set_option maxHeartbeats 4000000
/-! EA: how a body becomes a promise. -/
namespace DL
open PySem L2 PyProof.Rows PySem.Spec
abbrev noXA : Addr → Addr → Nat → Prop := fun _ _ _ => False
section
variable {G : Gm}
theorem start_get (N : List Str) (vs : List V) (i : Nat) (h : i < vs.length) : (start N vs)[i]? = (vs[i]?).map some := by
  unfold L2.start
  rw [List.getElem?_append_left (by simpa using h), List.getElem?_map]
/-- the environment at a def's entry -/
def entry (n : Nat) (ds : List D) : DEnv := ds.map (fun d => some (.val d)) ++ List.replicate (n - ds.length) none
def entryT (n : Nat) (s : Sh) (d : D) (ds : List D) : DEnv := some (.own s d) :: (ds.map (fun d => some (.val d)) ++ List.replicate (n - (ds.length + 1)) none)
theorem entry_get {n : Nat} {ds : List D} {i : Nat} {c : Cell} (q : (entry n ds)[i]? = some (some c)) : ∃ d, c = .val d ∧ ds[i]? = some d := by
  unfold entry at q
  by_cases hi : i < ds.length
  · rw [List.getElem?_append_left (by simpa using hi), List.getElem?_map, Option.map_eq_some_iff] at q
    obtain ⟨d', q1, q2⟩ := q
    cases q2
    exact ⟨d', rfl, q1⟩
  · rw [List.getElem?_append_right (by simpa using hi), List.getElem?_replicate] at q
    split at q <;> cases q
theorem entryT_get {n : Nat} {s : Sh} {d : D} {ds : List D} {i : Nat} {c : Cell} (q : (entryT n s d ds)[i]? = some (some c)) : (i = 0 ∧ c = .own s d) ∨ ∃ j d', i = j + 1 ∧ c = .val d' ∧ ds[j]? = some d' := by
  unfold entryT at q
  cases i with
  | zero =>
    simp at q
    exact .inl ⟨rfl, q.symm⟩
  | succ j =>
    rw [List.getElem?_cons_succ] at q
    by_cases hi : j < ds.length
    · rw [List.getElem?_append_left (by simpa using hi), List.getElem?_map, Option.map_eq_some_iff] at q
      obtain ⟨d', q1, q2⟩ := q
      cases q2
      exact .inr ⟨j, d', rfl, rfl, q1⟩
    · rw [List.getElem?_append_right (by simpa using hi), List.getElem?_replicate] at q
      split at q <;> cases q
theorem rep_entry {XA : Addr → Addr → Nat → Prop} {F H : Hp} {vs : List V} {ds : List D} (N : List Str) (ef : Ex F H) (r : RepL G F vs ds) : RepS ⟨G, XA, []⟩ H F F H (fun _ => none) (start N vs) (entry N.length ds) where
  bh := Ex.refl H
  f0 := Ex.refl F
  fh := ef
  fr := fun a o q => .inl ⟨o, q⟩
  ow := fun a m q => by cases q
  len := by simp [entry, L2.start, r.length]
  val := fun i d q => by
    obtain ⟨d', e, q1⟩ := entry_get q
    cases e
    obtain ⟨v, h1, h2⟩ := r.get q1
    exact ⟨v, by rw [start_get N vs i (by have := (List.getElem?_eq_some_iff.mp h1).1; exact this), h1]; rfl, h2⟩
  own := fun i s d q => by
    obtain ⟨d', e, q1⟩ := entry_get q
    cases e
  exc := fun i c fs q => by
    obtain ⟨d', e, q1⟩ := entry_get q
    cases e
  pin := fun i p s d hb => by cases hb
/-- a def's meaning by its body's -/
def fnSem (m n : Nat) (body : SM) : List D → FR := fun ds => if ds.length = m then (match body (entry n ds) with
  | .nx _ => .ok (.val .non)
  | .rt (.exc _ _) _ => .bad
  | .rt c _ => .ok c
  | .er c fs _ => .er c fs
  | _ => .bad) else .bad
theorem fnSem_len {m n : Nat} {body : SM} {ds : List D} (h : fnSem m n body ds ≠ .bad) : ds.length = m := by
  unfold fnSem at h
  split at h
  · assumption
  · exact absurd rfl h
theorem body_ok {N : List Str} {m : Nat} {body : SM} {vs : List V} {H : Hp} {Q : VK} {E : XK} (h : spF G m (fnSem m N.length body) vs H Q E) :
    sG ⟨G, noXA, []⟩ body (fun cls d _ H' => E cls d H') { nx := fun _ H' => Q .non H', rt := Q } (start N vs) H := by
  obtain ⟨hl, F, ds, ef, rl, p⟩ := h
  refine ⟨H, F, F, _, entry N.length ds, rep_entry N ef rl, ?_⟩
  have hm : ds.length = m := by rw [← rl.length]; exact hl
  unfold fnSem at p
  rw [if_pos hm] at p
  have grow : ∀ {σ' : L2.St} {F' H' : Hp} {o' : Own} {env' : DEnv}, RepS ⟨G, noXA, []⟩ H F F' H' o' σ' env' → Grow F H F' H' := fun r => ⟨r.f0, r.bh, r.fh, r.fr⟩
  cases hb : body (entry N.length ds) with
  | nx e =>
    rw [hb] at p
    exact fun σ' F' H' o' r => p _ F' H' (grow r) Rep.non
  | rt c e =>
    rw [hb] at p
    intro v σ' F' H' o' r rc
    cases c with
    | val d => exact p v F' H' (grow r) rc
    | own s d =>
      obtain ⟨i, hx⟩ := rc
      refine p v F' H' (grow r) ⟨fun a => match o' a with | some (h :: t) => if h = i then some (0 :: t) else none | _ => none, hx.move (Ex.refl F') fun a t e => ⟨?_, rfl⟩, fun a t e => ?_⟩
      · show (match o' a with | some (h :: t) => if h = i then some (0 :: t) else none | _ => none) = _
        rw [show o' a = some (i :: t) from e]
        simp
      · replace e : (match o' a with | some (h :: t) => if h = i then some (0 :: t) else none | _ => none) = some t := e
        split at e
        · rename_i h' t' e'
          exact r.ow a _ e'
        · cases e
    | exc _ _ => exact rc.elim
  | bk e => rw [hb] at p; exact p.elim
  | ct e => rw [hb] at p; exact p.elim
  | bad => rw [hb] at p; exact p.elim
  | er c fs e =>
    rw [hb] at p
    exact fun dx σ' F' H' o' fvs r h1 h2 => p dx F' H' fvs (grow r) h1 h2

/-! ### .. that changes its first argument -/
def slot0 (s : Sh) (e : DEnv) : Option D := match e[(0 : Nat)]? with
  | some (some (.own s' d)) => if Sh.same s' s = true then some d else none
  | _ => none
def fnSemT (m n : Nat) (s : Sh) (body : SM) : D → List D → FT := fun d ds => if ds.length + 1 = m then (match body (entryT n s d ds) with
  | .nx e => (match slot0 s e with | some d' => .ok .non d' | none => .bad)
  | .rt (.val v) e => (match slot0 s e with | some d' => .ok v d' | none => .bad)
  | .er c fs e => (match slot0 s e with | some d' => .er c fs d' | none => .bad)
  | _ => .bad) else .bad
theorem fnSemT_len {m n : Nat} {s : Sh} {body : SM} {d : D} {ds : List D} (h : fnSemT m n s body d ds ≠ .bad) : ds.length + 1 = m := by
  unfold fnSemT at h
  split at h
  · assumption
  · exact absurd rfl h
theorem rep_entryT {XA : Addr → Addr → Nat → Prop} {F H : Hp} {o : Own} {p : Addr} {vs : List V} {s : Sh} {d : D} {ds : List D} (N : List Str) (ef : Ex F H) (hO : ∀ a m, o a = some m → F a = none ∧ ∃ u, H a = some u) (rx : RepX G F H o [1] s (.ref p) d) (r : RepL G F vs ds) (hN : vs.length + 1 ≤ N.length) :
    RepS ⟨G, XA, [(0, p)]⟩ (fun a => if (o a).isSome = true then none else H a) F F H o (start N (.ref p :: vs)) (entryT N.length s d ds) where
  bh := fun a u q => by
    dsimp only at q
    split at q
    · cases q
    · exact q
  f0 := Ex.refl F
  fh := ef
  fr := fun a o q => .inl ⟨o, q⟩
  ow := fun a m q => by
    obtain ⟨h1, h2⟩ := hO a m q
    refine ⟨h1, ?_, h2⟩
    rw [q]
    rfl
  len := by
    have := r.length
    simp [entryT, L2.start]
    omega
  val := fun i d' q => by
    rcases entryT_get q with ⟨_, e⟩ | ⟨j, d2, rfl, e, q1⟩
    · cases e
    · cases e
      obtain ⟨v, h1, h2⟩ := r.get q1
      have hj := (List.getElem?_eq_some_iff.mp h1).1
      exact ⟨v, by rw [start_get N _ (j + 1) (by simp; omega)]; simp [h1], h2⟩
  own := fun i s' d' q => by
    rcases entryT_get q with ⟨rfl, e⟩ | ⟨j, d2, rfl, e, q1⟩
    · cases e
      exact ⟨.ref p, by rw [start_get N _ 0 (by simp)]; rfl, rx⟩
    · cases e
  exc := fun i c fs q => by
    rcases entryT_get q with ⟨rfl, e⟩ | ⟨j, d2, rfl, e, q1⟩ <;> cases e
  pin := fun i p' s' d' hb q => by
    simp at hb
    obtain ⟨rfl, rfl⟩ := hb
    rw [start_get N _ 0 (by simp)]
    rfl
theorem tx_of {XA : Addr → Addr → Nat → Prop} {bp : List (Nat × Addr)} {F H F' H' : Hp} {o o' : Own} {σ' : L2.St} {env' : DEnv} (r : RepS ⟨G, XA, bp⟩ (fun a => if (o a).isSome = true then none else H a) F F' H' o' σ' env') : Tx F H o F' H' o' where
  h := fun a u e n => r.bh a u (by rw [n]; exact e)
  f := r.f0
  fh := r.fh
  fr := fun a u e => by
    rcases r.fr a u e with h | h
    · exact .inl h
    · split at h
      · rename_i hs
        exact .inr (.inr (Option.isSome_iff_exists.mp hs))
      · exact .inr (.inl h)
  ow := fun a m e => by
    obtain ⟨h1, h2, h3⟩ := r.ow a m e
    refine ⟨h1, ?_, h3⟩
    split at h2
    · rename_i hs
      exact .inr (Option.isSome_iff_exists.mp hs)
    · exact .inl h2
theorem slot0_some {s : Sh} {e : DEnv} {d : D} (h : slot0 s e = some d) : e[(0 : Nat)]? = some (some (.own s d)) := by
  unfold slot0 at h
  split at h
  · rename_i s' d' q
    split at h
    · rename_i hs
      cases h
      rw [Sh.eq_of hs] at q
      exact q
    · cases h
  · cases h
theorem body_okT {N : List Str} {m : Nat} {s : Sh} {body : SM} {vs : List V} {H : Hp} {Q : VK} {E : XK} (hs : s ≠ .fz) (hN : m ≤ N.length) (h : spT G m s s (fnSemT m N.length s body) vs H Q E) :
    ∃ p, sG ⟨G, noXA, [(0, p)]⟩ body (fun cls d _ H' => E cls d H') { nx := fun _ H' => Q .non H', rt := Q } (start N vs) H := by
  obtain ⟨hl, F, o, v0, vs', d, ds, rfl, ef, hO, rx, rl, p⟩ := h
  have hp : ∃ q, v0 = .ref q := by
    cases rx with
    | fz => exact absurd rfl hs
    | _ => exact ⟨_, rfl⟩
  obtain ⟨q, rfl⟩ := hp
  refine ⟨q, _, F, F, o, entryT N.length s d ds, rep_entryT N ef hO rx rl (by simp at hl; omega), ?_⟩
  have hm : ds.length + 1 = m := by rw [← rl.length]; simpa using hl
  unfold fnSemT at p
  rw [if_pos hm] at p
  have at0 : ∀ {σ' : L2.St} {F' H' : Hp} {o' : Own} {env' : DEnv} {d' : D}, RepS ⟨G, noXA, [(0, q)]⟩ (fun a => if (o a).isSome = true then none else H a) F F' H' o' σ' env' → slot0 s env' = some d' → RepX G F' H' o' [1] s (.ref q) d' := by
    intro σ' F' H' o' env' d' r e
    have e := slot0_some e
    obtain ⟨v, h1, h2⟩ := r.own 0 _ _ e
    have h3 := r.pin 0 q _ _ (by simp) e
    rw [h1] at h3
    cases h3
    exact h2
  cases hb : body (entryT N.length s d ds) with
  | nx e =>
    rw [hb] at p
    simp only at p
    cases he : slot0 s e with
    | none => rw [he] at p; exact p.elim
    | some d' =>
      rw [he] at p
      exact fun σ' F' H' o' r => p _ F' H' o' (tx_of r) (at0 r he) Rep.non
  | rt c e =>
    rw [hb] at p
    cases c with
    | val v =>
      simp only at p
      cases he : slot0 s e with
      | none => rw [he] at p; exact p.elim
      | some d' =>
        rw [he] at p
        exact fun u σ' F' H' o' r rc => p u F' H' o' (tx_of r) (at0 r he) rc
    | own _ _ => exact p.elim
    | exc _ _ => exact p.elim
  | er c fs e =>
    rw [hb] at p
    simp only at p
    cases he : slot0 s e with
    | none => rw [he] at p; exact p.elim
    | some d' =>
      rw [he] at p
      exact fun dx σ' F' H' o' fvs r h1 h2 => p dx F' H' o' fvs (tx_of r) (at0 r he) h1 h2
  | bk e => rw [hb] at p; exact p.elim
  | ct e => rw [hb] at p; exact p.elim
  | bad => rw [hb] at p; exact p.elim
/-- an object's parts are given up, its own fields stay its own -/
theorem spT_weak {m : Nat} {shs : List (Str × Sh)} {Φ : D → List D → FT} {vs : List V} {H : Hp} {Q : VK} {E : XK} (h : spT G m (.ob shs) (.ob []) Φ vs H Q E) : spT G m (.ob shs) (.ob shs) Φ vs H Q E := by
  obtain ⟨hl, F, o, v0, vs', d, ds, rfl, ef, hO, rx, rl, p⟩ := h
  refine ⟨hl, F, o, v0, vs', d, ds, rfl, ef, hO, rx, rl, ?_⟩
  cases hΦ : Φ d ds with
  | bad => rw [hΦ] at p; exact p
  | er c fs d' => rw [hΦ] at p; exact p
  | ok c d' =>
    rw [hΦ] at p
    intro v F' H' o' t hx rv
    let F2 : Hp := fun a => match o' a with | some (_ :: _ :: _) => H' a | _ => F' a
    let o2 : Own := fun a => match o' a with | some [k] => some [k] | _ => none
    have ex : Ex F' F2 := fun a u e => by
      show (match o' a with | some (_ :: _ :: _) => H' a | _ => F' a) = some u
      split
      · rename_i q
        have z := (t.ow a _ q).1
        rw [e] at z
        cases z
      · exact e
    have c2 : ∀ {a u}, F2 a = some u → F' a = some u ∨ (H' a = some u ∧ ∃ m, o' a = some m) := by
      intro a u e
      replace e : (match o' a with | some (_ :: _ :: _) => H' a | _ => F' a) = some u := e
      split at e
      · rename_i q
        exact .inr ⟨e, _, q⟩
      · exact .inl e
    refine p v F2 H' o2 ⟨t.h, t.f.trans ex, fun a u e => ?_, fun a u e => ?_, fun a m e => ?_⟩ ?_ (rv.mono ex)
    · rcases c2 e with h | ⟨h, _⟩
      · exact t.fh a u h
      · exact h
    · rcases c2 e with h | ⟨h, m, h2⟩
      · exact t.fr a u h
      · exact .inr (t.ow a m h2).2.1
    · replace e : (match o' a with | some [k] => some [k] | _ => none) = some m := e
      split at e
      · rename_i k q
        cases e
        obtain ⟨h1, h2, h3⟩ := t.ow a _ q
        refine ⟨?_, h2, h3⟩
        show (match o' a with | some (_ :: _ :: _) => H' a | _ => F' a) = none
        rw [q]
        exact h1
      · cases e
    · cases hx with
      | @ins _ _ a dx c0 fs gs e1 e2 e3 =>
        refine .ins e1 (by show (match o' a with | some [k] => some [k] | _ => none) = _; rw [e2]) ?_
        have all : ∀ {k : Nat} {fs : List (Str × V)} {gs : List (Str × D)}, RepXF G F' H' o' [1] k shs fs gs → RepXF G F2 H' o2 [1] k [] fs gs := by
          intro k fs gs hf
          induction gs generalizing k fs with
          | nil => cases hf; exact .nil
          | cons g gs ih =>
            cases hf with
            | cons h r =>
              refine .cons (.fz (h.freeze ex fun b m z => ?_)) (ih r)
              show (match o' b with | some (_ :: _ :: _) => H' b | _ => F' b) = H' b
              rw [show o' b = some (1 :: k :: m) from z]
        exact all e3
end
end DL
end

section
set_option Elab.async false
set_option linter.all false
set_option autoImplicit false
set_option maxRecDepth 100000
set_option maxHeartbeats 4000000
/-! EB: targets, loops, comprehensions. -/
namespace DL
open PySem L2 PyProof.Rows PySem.Spec

/-! ### targets -/
abbrev TgM := D → DEnv → Option DEnv
abbrev TgMs := List D → DEnv → Option DEnv
def tgN (i : Nat) : TgM := fun d env => some (env.set i (some (.val d)))
def tgNil : TgMs := fun ds env => match ds with
  | [] => some env
  | _ => none
def tgCons (t : TgM) (r : TgMs) : TgMs := fun ds env => match ds with
  | d :: ds => (t d env).bind (r ds)
  | [] => none
def tgT (r : TgMs) : TgM := fun d env => match d with
  | .tup ds => r ds env
  | _ => none
/-- the slots but is are as they were -/
def Agree (is : List Nat) (σ σ' : L2.St) : Prop := σ'.length = σ.length ∧ ∀ j, j ∉ is → σ'[j]? = σ[j]?
theorem Agree.refl {is : List Nat} {σ : L2.St} : Agree is σ σ := ⟨rfl, fun _ _ => rfl⟩
theorem Agree.set {is : List Nat} {σ σ' : L2.St} (a : Agree is σ σ') {i : Nat} (hi : i ∈ is) (o : Option V) : Agree is σ (σ'.set i o) := ⟨by simpa using a.1, fun j hj => by
  rw [List.getElem?_set, if_neg]
  · exact a.2 j hj
  · intro z
    subst z
    exact hj hi⟩
def pG (G : Gx) (is : List Nat) (t : TgM) : TG := fun v σ H Q => ∃ B F0 F o env d env', RepS G B F0 F H o σ env ∧ Rep G F v d ∧ t d env = some env' ∧ ∀ σ', RepS G B F0 F H o σ' env' → Agree is σ σ' → Q σ' H
def gGs (G : Gx) (is : List Nat) (t : TgMs) : TGs := fun vs σ H Q => ∃ B F0 F o env ds env', RepS G B F0 F H o σ env ∧ RepL G F vs ds ∧ t ds env = some env' ∧ ∀ σ', RepS G B F0 F H o σ' env' → Agree is σ σ' → Q σ' H
/-- r takes n items -/
def TgLen (r : TgMs) (n : Nat) : Prop := ∀ ds env env', r ds env = some env' → ds.length = n
theorem tgLen_nil : TgLen tgNil 0 := fun ds env env' h => by
  cases ds with
  | nil => rfl
  | cons a b => cases h
theorem tgLen_cons {t : TgM} {r : TgMs} {n : Nat} (h : TgLen r n) : TgLen (tgCons t r) (n + 1) := fun ds env env' q => by
  cases ds with
  | nil => cases q
  | cons a b =>
    unfold tgCons at q
    simp only at q
    rw [Option.bind_eq_some_iff] at q
    obtain ⟨e, q1, q2⟩ := q
    rw [List.length_cons, h b e env' q2]
section
variable {G : Gx} {X : Cx} {pos : Pos} {is : List Nat}
theorem PG.imp {e : Expr} {t t' : TG} (h : PG X e t) (k : ∀ v σ H Q, t' v σ H Q → t v σ H Q) : PG X e t' := ⟨fun pins s σ H v u Q I r q => h.run pins s σ H v u Q I r (k v σ H Q q)⟩
theorem PGs.imp {e : List Expr} {t t' : TGs} (h : PGs X e t) (k : ∀ v σ H Q, t' v σ H Q → t v σ H Q) : PGs X e t' := ⟨fun pins s σ H v u Q I r q => h.run pins s σ H v u Q I r (k v σ H Q q)⟩
theorem dg_name {i : Nat} {x : Str} (hN : X.N.Nodup) (hm : i ∈ is := by decide) (hi : X.N[i]? = some x := by rfl) (hx : Loc X.env.scope x := by first | exact Or.inl rfl | exact Or.inr rfl) (hf : X.fn x = true ∨ X.env.scope.names.lookup x = some .local := by first | exact .inl rfl | exact .inr rfl) :
    PG X (.Name x pos) (pG G is (tgN i)) := by
  refine PG.imp (pg_name hN hi hx hf) fun v σ H Q ⟨B, F0, F, o, env, d, env', rs, rp, ht, q⟩ => ?_
  cases ht
  exact q _ (rs.setv i rp) (Agree.refl.set hm _)
theorem dgs_nil : PGs X [] (gGs G is tgNil) := by
  refine PGs.imp pgs_nil fun v σ H Q ⟨B, F0, F, o, env, ds, env', rs, rl, ht, q⟩ => ?_
  cases ds with
  | nil =>
    cases ht
    cases rl
    exact ⟨rfl, q σ rs Agree.refl⟩
  | cons a b => cases ht
theorem dgs_cons {e : Expr} {es : List Expr} {t : TgM} {r : TgMs} (h1 : PG X e (pG G is t)) (h2 : PGs X es (gGs G is r)) (hs : (assignEach (e :: es) X.env).map (·.2) = assign e X.env :: (assignEach es X.env).map (·.2) := by rfl) : PGs X (e :: es) (gGs G is (tgCons t r)) := by
  refine PGs.imp (pgs_cons h1 h2 hs) fun v σ H Q ⟨B, F0, F, o, env, ds, env', rs, rl, ht, q⟩ => ?_
  cases ds with
  | nil => cases ht
  | cons a b =>
    unfold tgCons at ht
    simp only at ht
    rw [Option.bind_eq_some_iff] at ht
    obtain ⟨e1, t1, t2⟩ := ht
    cases rl with
    | cons ra rb =>
      refine ⟨_, _, rfl, B, F0, F, o, env, a, e1, rs, ra, t1, fun σ1 rs1 ag1 => ?_⟩
      refine ⟨B, F0, F, o, e1, b, env', rs1, rb, t2, fun σ2 rs2 ag2 => q σ2 rs2 ⟨ag2.1.trans ag1.1, fun j hj => (ag2.2 j hj).trans (ag1.2 j hj)⟩⟩
theorem dg_tup {es : List Expr} {k n : Nat} {r : TgMs} (hc : X.calm = true) (h : PGs X es (gGs G is r)) (hl : TgLen r n) (hn : (assignEach es X.env).length = n := by rfl) (hst : (assignEach es X.env).findIdx? (·.1) = none := by rfl) (hK : G.K = X.K := by rfl) :
    PG X (.Tuple es k pos) (pG G is (tgT r)) := by
  refine PG.imp (pg_tup hc h hn hst) fun v σ H Q ⟨B, F0, F, o, env, d, env', rs, rp, ht, q⟩ => ?_
  cases d with
  | tup ds =>
    obtain ⟨a, xs, rfl, h1, s1⟩ := rep_tup rp
    refine ⟨a, xs, rfl, ?_, ?_, B, F0, F, o, env, ds, env', rs, s1, ht, q⟩
    · rw [← hK]
      exact ex_t rs.fh h1
    · rw [s1.length]
      exact hl ds env env' ht
  | _ => cases ht
end
def sUnp (t : TgM) (f : EM D) : SM := fun env => liftE (f env) fun d e => match t d e with
  | some e' => .nx e'
  | none => .bad
section
variable {G : Gx} {X : Cx} {W : WX} {pos : Pos}
/-- (a, b, ..) = e -/
theorem ds_unp {tg a : Expr} {fa : EM D} {t : TgM} {is : List Nat} (he : PE X a (eG G fa W)) (hg : PG X tg (pG G is t)) (hs : swapsWithSole [tg] a pos.line X.env = pure false := by rfl) (hw : swappedStores [tg] a X.env = pure none := by rfl)
    (h1 : (assignEach [tg] X.env).map (·.2) = [assign tg X.env] := by rfl) : PS X (.Assign [tg] a pos) (sG G (sUnp t fa) W) := by
  refine PS.imp (ps_asg he hg hs hw h1) fun Dn σ H h => ?_
  refine gGS (K := kE) h fun v d H' B F0 F o env rs rp q => ?_
  split at q
  · rename_i e' ht
    exact ⟨B, F0, F, o, env, d, e', rs, rp, ht, fun σ' rs' _ => q σ' F H' o rs'⟩
  · exact q.elim
end

/-! ### what is walked -/
structure ItRep (G : Gm) (F : Hp) (J : It) (ds : List D) : Prop where
  go : ∀ i H, Ex F H → i < ds.length → J.go i H
  stop : ∀ i H, Ex F H → ds.length ≤ i → J.stop i H
  yld : ∀ i H v H' F1, Ex F F1 → Ex F1 H → i < ds.length → J.yld i H v H' → ∃ F2 d, Grow F1 H F2 H' ∧ ds[i]? = some d ∧ Rep G F2 v d
theorem ItRep.mono {G : Gm} {F F' : Hp} {J : It} {ds : List D} (e : Ex F F') (h : ItRep G F J ds) : ItRep G F' J ds :=
  ⟨fun i H e' => h.go i H (e.trans e'), fun i H e' => h.stop i H (e.trans e'), fun i H v H' F1 e1 => h.yld i H v H' F1 (e.trans e1)⟩
def kI : Kd It (List D) := ⟨fun G F _ J ds => ItRep G F J ds, fun e h => h.mono e⟩
abbrev iG (G : Gx) (f : EM (List D)) (W : WX) : TI := gG kI G f W
def rangeL (lo : Int) : Nat → List D
  | 0 => []
  | n + 1 => .int lo :: rangeL (lo + 1) n
def iR1 (a : EM (List D)) : EM (List D) := bnd a fun ds => ofO (match ds with
  | [.int j] => if -4611686018427387904 ≤ j ∧ j < 4611686018427387904 then some (rangeL 0 j.toNat) else none
  | _ => none)
def zipL : List D → List D → List D
  | x :: xs, y :: ys => .tup [x, y] :: zipL xs ys
  | _, _ => []
def iZp (a : EM (List D)) : EM (List D) := bnd a fun ds => ofO (match ds with
  | [.lst xs, .lst ys] => some (zipL xs ys)
  | [.tup xs, .tup ys] => some (zipL xs ys)
  | _ => none)
def enumL (n : Nat) : List D → List D
  | [] => []
  | x :: xs => .tup [.int n, x] :: enumL (n + 1) xs
theorem rangeL_len : ∀ (n : Nat) (lo : Int), (rangeL lo n).length = n
  | 0, _ => rfl
  | n + 1, lo => congrArg (· + 1) (rangeL_len n (lo + 1))
theorem rangeL_get : ∀ (n : Nat) (lo : Int) (i : Nat), i < n → (rangeL lo n)[i]? = some (.int (lo + i))
  | n + 1, lo, 0, _ => by simp [rangeL]
  | n + 1, lo, i + 1, h => by
    have := rangeL_get n (lo + 1) i (by omega)
    simp only [rangeL, List.getElem?_cons_succ, this]
    congr 2
    omega
theorem zipL_len : ∀ xs ys : List D, (zipL xs ys).length = min xs.length ys.length
  | [], ys => by simp [zipL]
  | x :: xs, [] => by simp [zipL]
  | x :: xs, y :: ys => by simp [zipL, zipL_len xs ys, Nat.add_min_add_right]
theorem zipL_get : ∀ (xs ys : List D) (i : Nat) (x y : D), xs[i]? = some x → ys[i]? = some y → (zipL xs ys)[i]? = some (.tup [x, y])
  | [], _, _, _, _, h, _ => by simp at h
  | _ :: _, [], _, _, _, _, h => by simp at h
  | a :: xs, b :: ys, 0, x, y, h1, h2 => by
    simp at h1 h2
    subst h1 h2
    rfl
  | a :: xs, b :: ys, i + 1, x, y, h1, h2 => by
    simp only [zipL, List.getElem?_cons_succ]
    exact zipL_get xs ys i x y (by simpa using h1) (by simpa using h2)
section
variable {G : Gm} {F : Hp}
theorem it_list {a : Addr} {vs : List V} {ds : List D} (h : SqL G.K F a vs) (r : RepL G F vs ds) : ItRep G F (Itl G.K a) ds where
  go := fun i H e hi => ⟨vs, vs[i]'(by rw [r.length]; exact hi), ex_l e h, List.getElem?_eq_getElem _⟩
  stop := fun i H e hi => ⟨vs, ex_l e h, by rw [r.length]; exact hi⟩
  yld := fun i H v H' F1 e1 e2 hi y => by
    obtain ⟨rfl, y⟩ := y
    have hv := y vs (ex_l (e1.trans e2) h)
    obtain ⟨d, h1, h2⟩ := r.getV hv
    exact ⟨F1, d, Grow.refl e2, h1, h2.mono e1⟩
theorem it_tup {a : Addr} {vs : List V} {ds : List D} (h : SqT G.K F a vs) (r : RepL G F vs ds) : ItRep G F (Itt G.K a) ds where
  go := fun i H e hi => ⟨vs, vs[i]'(by rw [r.length]; exact hi), ex_t e h, List.getElem?_eq_getElem _⟩
  stop := fun i H e hi => ⟨vs, ex_t e h, by rw [r.length]; exact hi⟩
  yld := fun i H v H' F1 e1 e2 hi y => by
    obtain ⟨rfl, y⟩ := y
    have hv := y vs (ex_t (e1.trans e2) h)
    obtain ⟨d, h1, h2⟩ := r.getV hv
    exact ⟨F1, d, Grow.refl e2, h1, h2.mono e1⟩
theorem it_range {lo : Int} {n : Nat} : ItRep G F (Itr lo n) (rangeL lo n) where
  go := fun i H e hi => by rw [rangeL_len] at hi; exact hi
  stop := fun i H e hi => by rw [rangeL_len] at hi; exact hi
  yld := fun i H v H' F1 e1 e2 hi y => by
    obtain ⟨rfl, rfl⟩ := y
    rw [rangeL_len] at hi
    exact ⟨F1, _, Grow.refl e2, rangeL_get n lo i hi, .int _⟩
theorem it_zipL {a b : Addr} {vs ws : List V} {ds es : List D} (h : SqL G.K F a vs) (r : RepL G F vs ds) (h' : SqL G.K F b ws) (r' : RepL G F ws es) : ItRep G F (Itz G.K a b) (zipL ds es) where
  go := fun i H e hi => by
    rw [zipL_len, ← r.length, ← r'.length] at hi
    exact ⟨vs, ws, vs[i]'(by omega), ws[i]'(by omega), ex_l e h, ex_l e h', List.getElem?_eq_getElem _, List.getElem?_eq_getElem _⟩
  stop := fun i H e hi => by
    rw [zipL_len, ← r.length, ← r'.length] at hi
    exact ⟨vs, ws, ex_l e h, ex_l e h', by omega⟩
  yld := fun i H v H' F1 e1 e2 hi y => by
    obtain ⟨T, x, y, rfl, hT, rfl, y1, y2⟩ := y
    obtain ⟨d, p1, p2⟩ := r.getV (y1 vs (ex_l (e1.trans e2) h))
    obtain ⟨e, p3, p4⟩ := r'.getV (y2 ws (ex_l (e1.trans e2) h'))
    exact ⟨_, _, Grow.new e2 hT, zipL_get ds es i d e p1 p3, new_tup e2 hT (.cons (p2.mono e1) (.cons (p4.mono e1) .nil))⟩
theorem it_zipT {a b : Addr} {vs ws : List V} {ds es : List D} (h : SqT G.K F a vs) (r : RepL G F vs ds) (h' : SqT G.K F b ws) (r' : RepL G F ws es) : ItRep G F (RZ.ItzT G.K a b) (zipL ds es) where
  go := fun i H e hi => by
    rw [zipL_len, ← r.length, ← r'.length] at hi
    exact ⟨vs, ws, vs[i]'(by omega), ws[i]'(by omega), ex_t e h, ex_t e h', List.getElem?_eq_getElem _, List.getElem?_eq_getElem _⟩
  stop := fun i H e hi => by
    rw [zipL_len, ← r.length, ← r'.length] at hi
    exact ⟨vs, ws, ex_t e h, ex_t e h', by omega⟩
  yld := fun i H v H' F1 e1 e2 hi y => by
    obtain ⟨T, x, y, rfl, hT, rfl, y1, y2⟩ := y
    obtain ⟨d, p1, p2⟩ := r.getV (y1 vs (ex_t (e1.trans e2) h))
    obtain ⟨e, p3, p4⟩ := r'.getV (y2 ws (ex_t (e1.trans e2) h'))
    exact ⟨_, _, Grow.new e2 hT, zipL_get ds es i d e p1 p3, new_tup e2 hT (.cons (p2.mono e1) (.cons (p4.mono e1) .nil))⟩
end
section
variable {G : Gx} {X : Cx} {W : WX} {tg a b : Expr} {fa fb : EM D} {pos p tpos : Pos} {elts : List Expr} {kk : Nat}
theorem PI.imp {e : Expr} {t t' : TI} (h : PI X tg e t) (k : ∀ σ H R, t' σ H R → t σ H R) : PI X tg e t' := ⟨fun pins s σ H R I q => h.run pins s σ H R I (k σ H R q)⟩
theorem di_range1 {fr : EM (List D)} (hm : X.mg "range" = none) (ha : PA X [a] (aG G fr W)) (hg : Gl X "range" := by rfl) (hs : starEach [a] X.env = [(false, eval a X.env)] := by rfl) : PI X tg (.Call (.Name "range" p) [a] [] pos) (iG G (iR1 fr) W) := by
  refine PI.imp (pi_range1 hg hm ha hs) fun σ H R h => ?_
  refine gG_bnd (K1 := kA) up_true h.c fun vs ds H' h' => ?_
  obtain ⟨F, z, hd, ef, ⟨_, rl⟩, q⟩ := gGC_ofO h'
  split at hd
  · split at hd
    · rename_i hc
      cases hd
      obtain ⟨v, rfl, h1⟩ := rpl1 rl
      exact ⟨_, by rw [rep_int h1], by omega, by omega, q _ F H' (Grow.refl ef) it_range⟩
    · cases hd
  · cases hd
theorem di_zip {fr : EM (List D)} (hm : X.mg "zip" = none) (ha : PA X [a, b] (aG G fr W)) (hg : Gl X "zip" := by rfl) (hs : starEach [a, b] X.env = (false, eval a X.env) :: starEach [b] X.env := by rfl) (hpl : (backTo pos (starEach [b] X.env)).any (·.1) = false := by rfl) (hK : G.K = X.K := by rfl) :
    PI X (.Tuple elts kk tpos) (.Call (.Name "zip" p) [a, b] [] pos) (iG G (iZp fr) W) := by
  refine PI.imp (RZ.pi_zipA hg hm ha hs hpl) fun σ H R h => ?_
  refine gG_bnd (K1 := kA) up_true h.c fun vs ds H' h' => ?_
  obtain ⟨F, z, hd, ef, ⟨_, rl⟩, q⟩ := gGC_ofO h'
  rw [← hK]
  split at hd
  · cases hd
    obtain ⟨v, u, rfl, h1, h2⟩ := rpl2 rl
    obtain ⟨l, ws, rfl, g1, s1⟩ := rep_lst h1
    obtain ⟨l', ws', rfl, g2, s2⟩ := rep_lst h2
    exact ⟨l, l', ws, ws', rfl, .inl ⟨sq_of (ef _ _ g1), sq_of (ef _ _ g2), q _ F H' (Grow.refl ef) (it_zipL (sq_of g1) s1 (sq_of g2) s2)⟩⟩
  · cases hd
    obtain ⟨v, u, rfl, h1, h2⟩ := rpl2 rl
    obtain ⟨l, ws, rfl, g1, s1⟩ := rep_tup h1
    obtain ⟨l', ws', rfl, g2, s2⟩ := rep_tup h2
    exact ⟨l, l', ws, ws', rfl, .inr ⟨ex_t ef g1, ex_t ef g2, q _ F H' (Grow.refl ef) (it_zipT g1 s1 g2 s2)⟩⟩
  · cases hd
end

def loopS (t : TgM) (b : SM) : List D → DEnv → SR
  | [], env => .nx env
  | d :: ds, env => match t d env with
    | none => .bad
    | some e1 => match b e1 with
      | .nx e2 => loopS t b ds e2
      | .ct e2 => loopS t b ds e2
      | .bk e2 => .nx e2
      | r => r
def sFor (f : EM (List D)) (t : TgM) (b : SM) : SM := fun env => liftE (f env) fun ds e => loopS t b ds e
section
variable {G : Gx} {X : Cx} {W : WX} {tg iter : Expr} {body : List Stmt} {pos : Pos}
theorem SPost.rebase {B F0 F1 H1 : Hp} {σ1 : L2.St} {env1 : DEnv} {Dn : Ends} {o1 : Own} (r : RepS G B F0 F1 H1 o1 σ1 env1) : ∀ {x : SR}, SPost G B F0 W Dn x → SPost G B F1 W Dn x
  | .nx _, p => fun σ' F' H' o' rs => p σ' F' H' o' (r.back rs)
  | .bk _, p => fun σ' F' H' o' rs => p σ' F' H' o' (r.back rs)
  | .ct _, p => fun σ' F' H' o' rs => p σ' F' H' o' (r.back rs)
  | .rt _ _, p => fun v σ' F' H' o' rs rc => p v σ' F' H' o' (r.back rs) rc
  | .er _ _ _, p => fun dx σ' F' H' o' fvs rs h1 h2 => p dx σ' F' H' o' fvs (r.back rs) h1 h2
  | .bad, p => p
theorem ds_for {fi : EM (List D)} {t : TgM} {b : SM} {is : List Nat} (hp : PassesOwn (model X.prog X.w) X.A X.env X.xe) (hc : X.calm = true) (hi : PI X tg iter (iG G fi W)) (hg : PG X tg (pG G is t)) (hb : PSs X body (sG G b W)) (hs : ∀ x, foldedSetIterable iter X.env x = pure x := by intro _; rfl) :
    PS X (.For tg iter body [] pos) (sG G (sFor fi t b) W) := by
  refine PS.imp (ps_for hp hc hi hg hb hs) fun Dn σ H ⟨B, F0, F, o, env, rs, p⟩ => ⟨B, F0, F, o, env, rs, ?_⟩
  unfold sFor at p
  cases hf : fi env with
  | bad => rw [hf] at p; exact p
  | er c fs e =>
    rw [hf] at p
    exact fun dx F' H' o' fvs rs' _ h1 h2 => p dx σ F' H' o' fvs rs' h1 h2
  | ok z =>
    rw [hf] at p
    obtain ⟨ds, e1⟩ := z
    replace p : SPost G B F0 W Dn (loopS t b ds e1) := p
    intro J F1 H1 o1 rs1 _ ir
    refine ⟨fun i m σ H => m = ds.length - i ∧ i ≤ ds.length ∧ ∃ F o env, RepS G B F1 F H o σ env ∧ SPost G B F1 W Dn (loopS t b (ds.drop i) env),
      ⟨_, rfl, Nat.zero_le _, F1, o1, e1, rs1.rebase rs1.f0 (Ex.refl F1), SPost.rebase rs1 p⟩, ?_⟩
    rintro i m σ2 H2 ⟨rfl, hi2, F2, o2, env2, rs2, q⟩
    by_cases hend : ds.length ≤ i
    · refine .inl ⟨ir.stop i H2 (rs2.f0.trans rs2.fh) hend, ?_⟩
      rw [List.drop_eq_nil_of_le hend] at q
      exact q σ2 F2 H2 o2 rs2
    · have hlt : i < ds.length := Nat.lt_of_not_le hend
      refine .inr ⟨ir.go i H2 (rs2.f0.trans rs2.fh) hlt, fun σ H => ∃ F o env, RepS G B F1 F H o σ env ∧ SPost G B F1 W Dn (loopS t b (ds.drop (i + 1)) env), ?_, ?_⟩
      · rintro σ3 H3 ⟨F3, o3, env3, rs3, q3⟩
        exact ⟨ds.length - (i + 1), by omega, rfl, hlt, F3, o3, env3, rs3, q3⟩
      · intro x H3 y
        obtain ⟨F3, d, g, hd, rp⟩ := ir.yld i H2 x H3 F2 rs2.f0 rs2.fh hlt y
        have hdrop : ds.drop i = d :: ds.drop (i + 1) := by
          rw [List.drop_eq_getElem_cons hlt]
          rw [List.getElem?_eq_getElem hlt] at hd
          rw [Option.some.inj hd]
        rw [hdrop] at q
        unfold loopS at q
        cases ht : t d env2 with
        | none => rw [ht] at q; exact q.elim
        | some e3 =>
          rw [ht] at q
          refine ⟨B, F1, F3, o2, env2, d, e3, rs2.grow g, rp, ht, fun σ4 rs4 _ => ⟨B, F1, F3, o2, e3, rs4, ?_⟩⟩
          replace q : SPost G B F1 W Dn (match b e3 with
            | .nx e2 => loopS t b (ds.drop (i + 1)) e2
            | .ct e2 => loopS t b (ds.drop (i + 1)) e2
            | .bk e2 => .nx e2
            | r => r) := q
          cases hb2 : b e3 with
          | nx e4 =>
            rw [hb2] at q
            exact fun σ5 F5 H5 o5 rs5 => ⟨F5, o5, e4, rs5, q⟩
          | ct e4 =>
            rw [hb2] at q
            exact fun σ5 F5 H5 o5 rs5 => ⟨F5, o5, e4, rs5, q⟩
          | bk e4 =>
            rw [hb2] at q
            exact fun σ5 F5 H5 o5 rs5 => q σ5 F5 H5 o5 rs5
          | rt c e4 => rw [hb2] at q; exact q
          | er c fs e4 => rw [hb2] at q; exact q
          | bad => rw [hb2] at q; exact q
end

section
variable {G : Gx} {B F0 F H : Hp} {o : Own} {σ : L2.St} {env : DEnv}
theorem RepS.freshO (r : RepS G B F0 F H o σ env) {p : Addr} (h : H p = none) : o p = none := by
  cases q : o p with
  | none => rfl
  | some m =>
    obtain ⟨_, _, u, hu⟩ := r.ow p m q
    rw [h] at hu
    cases hu
/-- an object that nobody holds comes to hand -/
theorem RepS.takeO (r : RepS G B F0 F H o σ env) {p : Addr} {u : HO} (h : H p = some u) (hF : F p = none) (hB : B p = none) (hO : o p = none := by first | assumption | rfl) : RepS G B F0 F H (fun a => if a = p then some [0] else dropO o 0 a) σ env := by
  refine r.labels (fun a m q => ?_) fun i s d q a m z => ?_
  · by_cases ha : a = p
    · subst ha
      exact ⟨hF, hB, u, h⟩
    · rw [if_neg ha] at q
      exact r.ow a m (dropO_some q).1
  · have ha : a ≠ p := fun e => by
      subst e
      rw [hO] at z
      cases z
    rw [if_neg ha]
    unfold dropO
    rw [z]
    simp
end

/-! ### list comprehensions -/
def wipeE (env : DEnv) : List Nat → DEnv
  | [] => env
  | v :: vs => (wipeE env vs).set v none
/-- e2 behind the block, the block's own names as they were in e1 (what e1 owned there is forgotten) -/
def keepV : Option (Option Cell) → Option Cell
  | some (some (.val d)) => some (.val d)
  | _ => none
def restE (e1 e2 : DEnv) : List Nat → DEnv
  | [] => e2
  | v :: vs => (restE e1 e2 vs).set v (keepV e1[v]?)
def lcLoop (t : TgM) (vs : List Nat) (c : EM Bool) (f : EM D) : List D → DEnv → List D → Res (List D × DEnv)
  | [], env, acc => .ok (acc, env)
  | d :: ds, env, acc => match t d env with
    | none => .bad
    | some e1 => match c e1 with
      | .ok (true, e2) => (match f e2 with
        | .ok (y, e3) => if acc.length < 1000000 then lcLoop t vs c f ds (wipeE e3 vs) (acc ++ [y]) else .bad
        | _ => .bad)
      | .ok (false, e2) => lcLoop t vs c f ds (wipeE e2 vs) acc
      | _ => .bad
def eLc (fi : EM (List D)) (vs : List Nat) (t : TgM) (c : EM Bool) (f : EM D) : EM D := bnd fi fun ds e1 => match lcLoop t vs c f ds (wipeE e1 vs) [] with
  | .ok (acc, e2) => .ok (.lst acc, restE e1 e2 vs)
  | _ => .bad
def tYs : EM Bool := fun env => .ok (true, env)
section
variable {G : Gx} {B F0 F H : Hp} {o : Own} {σ : L2.St} {env : DEnv}
theorem RepS.wipe (r : RepS G B F0 F H o σ env) : ∀ vs : List Nat, RepS G B F0 F H o (L2.wipe σ vs) (wipeE env vs)
  | [] => r
  | v :: vs => (r.wipe vs).forget none v
theorem wipe_agree {σ σ' : L2.St} {vs : List Nat} (a : Agree vs σ σ') : L2.wipe σ' vs = L2.wipe σ vs := by
  have key : ∀ (us : List Nat) (j : Nat), j ∈ us → ∀ τ : L2.St, (L2.wipe τ us)[j]? = (τ[j]?).map fun _ => none := by
    intro us
    induction us with
    | nil => intro j hj; cases hj
    | cons u us ih =>
      intro j hj τ
      unfold L2.wipe
      rw [List.getElem?_set]
      by_cases e : u = j
      · subst e
        rw [if_pos rfl, wipe_length]
        by_cases hl : u < τ.length
        · rw [if_pos hl, List.getElem?_eq_getElem hl]
          rfl
        · rw [if_neg hl, List.getElem?_eq_none (Nat.le_of_not_lt hl)]
          rfl
      · rw [if_neg e]
        rcases List.mem_cons.mp hj with z | z
        · exact absurd z.symm e
        · exact ih j z τ
  have key2 : ∀ (us : List Nat) (j : Nat), j ∉ us → ∀ τ : L2.St, (L2.wipe τ us)[j]? = τ[j]? := by
    intro us
    induction us with
    | nil => intro j _ τ; rfl
    | cons u us ih =>
      intro j hj τ
      unfold L2.wipe
      rw [List.getElem?_set, if_neg]
      · exact ih j (fun z => hj (List.mem_cons_of_mem _ z)) τ
      · intro z
        subst z
        exact hj List.mem_cons_self
  apply List.ext_getElem?
  intro j
  by_cases hj : j ∈ vs
  · rw [key vs j hj, key vs j hj]
    by_cases hl : j < σ.length
    · rw [List.getElem?_eq_getElem hl, List.getElem?_eq_getElem (by rw [a.1]; exact hl)]
      rfl
    · rw [List.getElem?_eq_none (Nat.le_of_not_lt hl), List.getElem?_eq_none (by rw [a.1]; exact Nat.le_of_not_lt hl)]
  · rw [key2 vs j hj, key2 vs j hj]
    exact a.2 j hj
theorem wipe_wipe (τ : L2.St) (us : List Nat) : L2.wipe (L2.wipe τ us) us = L2.wipe τ us := by
  have h : Agree us τ (L2.wipe τ us) := ⟨wipe_length τ us, fun j hj => by
    induction us with
    | nil => rfl
    | cons u us ih =>
      unfold L2.wipe
      rw [List.getElem?_set, if_neg]
      · exact ih fun z => hj (List.mem_cons_of_mem _ z)
      · intro z
        subst z
        exact hj List.mem_cons_self⟩
  exact wipe_agree h
/-- behind the block -/
theorem RepS.unwipe {F1 H1 : Hp} {o1 : Own} {e1 : DEnv} (r1 : RepS G B F0 F1 H1 o1 σ e1) (ex : Ex F1 F) : ∀ {vs : List Nat} {e2 : DEnv}, RepS G B F0 F H o (L2.wipe σ vs) e2 → RepS G B F0 F H o σ (restE e1 e2 vs) := by
  intro vs
  induction vs with
  | nil => exact fun h => h
  | cons v vs ih =>
    intro e2 h
    have h2 : RepS G B F0 F H o (L2.wipe σ vs) (e2.set v none) := by
      have q := h.forget ((L2.wipe σ vs)[v]?.getD none) v
      have e : ((L2.wipe σ (v :: vs)).set v ((L2.wipe σ vs)[v]?.getD none)) = L2.wipe σ vs := by
        show ((L2.wipe σ vs).set v none).set v _ = _
        rw [List.set_set]
        apply List.ext_getElem?
        intro j
        rw [List.getElem?_set]
        by_cases hj : v = j
        · subst hj
          rw [if_pos rfl]
          by_cases hl : v < (L2.wipe σ vs).length
          · rw [if_pos hl, List.getElem?_eq_getElem hl]
            rfl
          · rw [if_neg hl, List.getElem?_eq_none (Nat.le_of_not_lt hl)]
        · rw [if_neg hj]
      rw [e] at q
      exact q
    have h3 := ih h2
    have same : ∀ (us : List Nat) (c : Option Cell), (restE e1 (e2.set v none) us).set v c = (restE e1 e2 us).set v c := by
      intro us c
      induction us with
      | nil => exact List.set_set ..
      | cons u us ihu =>
        show ((restE e1 (e2.set v none) us).set u _).set v c = ((restE e1 e2 us).set u _).set v c
        by_cases huv : u = v
        · subst huv
          rw [List.set_set, List.set_set]
          exact ihu
        · rw [List.set_comm _ _ huv, List.set_comm _ _ huv, ihu]
    show RepS G B F0 F H o σ ((restE e1 e2 vs).set v (keepV e1[v]?))
    rw [← same]
    cases hk : keepV e1[v]? with
    | none =>
      have q := h3.forget (σ[v]?.getD none) v
      have e : σ.set v (σ[v]?.getD none) = σ := by
        apply List.ext_getElem?
        intro j
        rw [List.getElem?_set]
        by_cases hj : v = j
        · subst hj
          rw [if_pos rfl]
          by_cases hl : v < σ.length
          · rw [if_pos hl, List.getElem?_eq_getElem hl]
            rfl
          · rw [if_neg hl, List.getElem?_eq_none (Nat.le_of_not_lt hl)]
        · rw [if_neg hj]
      rw [e] at q
      exact q
    | some c =>
      unfold keepV at hk
      split at hk
      · rename_i d hd
        cases hk
        obtain ⟨x, g1, g2⟩ := r1.val v d hd
        have q := h3.setv v (g2.mono ex)
        have e : σ.set v (some x) = σ := by
          apply List.ext_getElem?
          intro j
          rw [List.getElem?_set]
          by_cases hj : v = j
          · subst hj
            rw [if_pos rfl, if_pos (List.getElem?_eq_some_iff.mp g1).1, g1]
          · rw [if_neg hj]
        rw [e] at q
        exact q
      · cases hk
end
abbrev W0 : WX := fun _ _ _ _ => False
section
variable {G : Gx} {X : Cx} {W : WX} {tg iter elt : Expr} {ifs : List Expr} {scope : Scope} {own : List (Str × Nat)} {pos : Pos}
theorem PTs.imp {e : List Expr} {t t' : TT} (h : PTs X e t) (k : ∀ σ H Q, t' σ H Q → t σ H Q) : PTs X e t' := ⟨fun pins s σ H Q I q => h.run pins s σ H Q I (k σ H Q q)⟩
theorem dts_nil : PTs X [] (tG G tYs W) := PTs.imp pts_nil fun σ H Q ⟨B, F0, F, o, env, rs, p⟩ => p _ F H o rs (Ex.refl F) rfl
/-- the reading of a comprehension -/
theorem fG_lc {fi : EM (List D)} {vs : List Nat} {t : TgM} {tc : EM Bool} {f : EM D} {σ : L2.St} {H : Hp} {Q : VK} (h : fG G c1 (eLc fi vs t tc f) W σ H Q) : tLc (iG G fi W) (pG G vs t) (tG G tc W0) (eG G f W0) vs σ H Q := by
  obtain ⟨B, F0, F, o, env, rs, p⟩ := h
  refine ⟨B, F0, F, o, env, rs, ?_⟩
  unfold eLc bnd at p
  cases hf : fi env with
  | bad => rw [hf] at p; exact p
  | er c fs e => rw [hf] at p; exact p
  | ok z =>
    rw [hf] at p
    obtain ⟨ds, e1⟩ := z
    intro J F1 H1 o1 rs1 ex1 ir Da hDa
    cases hl : lcLoop t vs tc f ds (wipeE e1 vs) [] with
    | bad =>
      simp only [Res.bind, hl] at p
      exact p.elim
    | er c fs e =>
      simp only [Res.bind, hl] at p
      exact p.elim
    | ok z2 =>
      obtain ⟨accF, e2⟩ := z2
      simp only [Res.bind, hl] at p
      have hF1 : F1 Da = none := rs1.fh.back hDa
      have hB1 : B Da = none := rs1.bh.back hDa
      refine ⟨fun i m H => m = ds.length - i ∧ i ≤ ds.length ∧ ∃ F o env acc as, H Da = some (.lst as) ∧ RepS G (upd B Da (.lst as)) F1 F H o (L2.wipe σ vs) env ∧ RepL G F as acc ∧ lcLoop t vs tc f (ds.drop i) env acc = .ok (accF, e2), ⟨_, rfl, Nat.zero_le _, F1, o1, wipeE e1 vs, [], [], upd_same, ?_, .nil, hl⟩, ?_⟩
      · have r2 := (rs1.rebase rs1.f0 (Ex.refl F1)).grow (Grow.newH (o := .lst []) rs1.fh hDa)
        exact (r2.addB upd_same hF1 (rs1.freshO hDa)).wipe vs
      · rintro i m H2 ⟨rfl, hi2, F2, o2, env2, acc, as, hacc, rs2, rl, q⟩
        have hF2 : F2 Da = none := rs2.keptF upd_same hF1
        by_cases hend : ds.length ≤ i
        · refine .inl ⟨ir.stop i H2 (rs2.f0.trans rs2.fh) hend, ?_⟩
          rw [List.drop_eq_nil_of_le hend] at q
          cases q
          have r3 := rs1.back ((rs2.dropB hB1))
          have r4 := rs1.unwipe rs2.f0 r3
          exact p (.ref Da) F2 H2 _ (r4.takeO hacc hF2 hB1 (rs2.keptO upd_same)) (ex1.trans rs2.f0) (.lst hacc (if_pos rfl) (RepXL.of rl))
        · have hlt : i < ds.length := Nat.lt_of_not_le hend
          refine .inr ⟨ir.go i H2 (rs2.f0.trans rs2.fh) hlt, fun H => ∃ F o env acc as, H Da = some (.lst as) ∧ RepS G (upd B Da (.lst as)) F1 F H o (L2.wipe σ vs) env ∧ RepL G F as acc ∧ lcLoop t vs tc f (ds.drop (i + 1)) env acc = .ok (accF, e2), ?_, ?_⟩
          · rintro H3 ⟨F3, o3, env3, acc3, as3, a1, a2, a3, a4⟩
            exact ⟨ds.length - (i + 1), by omega, rfl, hlt, F3, o3, env3, acc3, as3, a1, a2, a3, a4⟩
          · intro x H3 y
            obtain ⟨F3, d, g, hd, rp⟩ := ir.yld i H2 x H3 F2 rs2.f0 rs2.fh hlt y
            have hdrop : ds.drop i = d :: ds.drop (i + 1) := by
              rw [List.drop_eq_getElem_cons hlt]
              rw [List.getElem?_eq_getElem hlt] at hd
              rw [Option.some.inj hd]
            rw [hdrop] at q
            unfold lcLoop at q
            cases ht : t d env2 with
            | none => rw [ht] at q; cases q
            | some e3 =>
              rw [ht] at q
              simp only at q
              refine ⟨_, F1, F3, o2, env2, d, e3, rs2.grow g, rp, ht, fun σ4 rs4 ag => ⟨?_, ?_⟩⟩
              · rw [wipe_agree ag]
                exact wipe_wipe σ vs
              · have hw : L2.wipe σ4 vs = L2.wipe σ vs := by
                  rw [wipe_agree ag]
                  exact wipe_wipe σ vs
                cases hc : tc e3 with
                | bad => rw [hc] at q; cases q
                | er c fs e => rw [hc] at q; cases q
                | ok z3 =>
                  rw [hc] at q
                  obtain ⟨b, e4⟩ := z3
                  refine ⟨_, F1, F3, o2, e3, rs4, ?_⟩
                  rw [hc]
                  intro b' F5 H5 o5 rs5 ex5 hb'
                  cases (show b' = b from hb')
                  cases b with
                  | false =>
                    simp only at q
                    rw [if_neg Bool.false_ne_true]
                    have r6 := rs5.wipe vs
                    rw [hw] at r6
                    exact ⟨F5, o5, _, acc, as, rs5.bh _ _ upd_same, r6, rl.mono (g.f.trans ex5), q⟩
                  | true =>
                    simp only at q
                    rw [if_pos rfl]
                    refine ⟨_, F1, F5, o5, e4, rs5, ?_⟩
                    cases he : f e4 with
                    | bad => rw [he] at q; cases q
                    | er c fs e => rw [he] at q; cases q
                    | ok z4 =>
                      rw [he] at q
                      obtain ⟨yd, e5⟩ := z4
                      simp only at q
                      split at q
                      · rename_i hlen
                        intro yv F6 H6 o6 rs6 ex6 rpy
                        have hF6 : F6 Da = none := rs6.keptF upd_same hF1
                        have rl6 := rl.mono ((g.f.trans ex5).trans ex6)
                        refine ⟨as, rs6.bh _ _ upd_same, lt_line (by rw [rl.length]; omega), F6, o6, _, acc ++ [yd], as ++ [yv], upd_same, ?_, rl6.append (.cons rpy .nil), q⟩
                        have r7 := (rs6.chB (u' := .lst (as ++ [yv])) hF6).wipe vs
                        rw [hw] at r7
                        exact r7
                      · cases q
end
end DL
end

section
set_option Elab.async false
set_option linter.all false
set_option autoImplicit false
set_option maxRecDepth 100000
set_option maxHeartbeats 4000000
/-! EC: comprehensions as rules; two clauses. -/
namespace DL
open PySem L2 PyProof.Rows PySem.Spec

section
variable {G : Gx} {X : Cx} {W : WX} {tg iter elt : Expr} {ifs : List Expr} {scope : Scope} {own : List (Str × Nat)} {pos spos py : Pos} {fi : EM (List D)} {t : TgM} {tc : EM Bool} {f : EM D}
theorem df_lc (hc : X.calm = true) (hN : X.N.Nodup) (ok : BlkOk X.N X.env.scope scope own) (hi : PI X tg iter (iG G fi W))
    (hg : ∀ (s : Shared) (H : Hp) (C : Addr) (cl : List (Str × Addr)) (fp : List Addr), PG (X.blk s H scope (compEnvC scope cl C X.env) fp) tg (pG G (own.map (·.2)) t))
    (ht : ∀ (s : Shared) (H : Hp) (C : Addr) (cl : List (Str × Addr)) (fp : List Addr), PTs (X.blk s H scope (compEnvC scope cl C X.env) fp) ifs (tG G tc W0))
    (he : ∀ (s : Shared) (H : Hp) (C : Addr) (cl : List (Str × Addr)) (fp : List Addr), PE (X.blk s H scope (compEnvC scope cl C X.env) fp) elt (eG G f W0)) (hs : ∀ x, foldedSetIterable iter X.env x = pure x := by intro _; rfl) :
    PE X (.ListComp elt [⟨tg, iter, ifs, 0⟩] scope pos) (fG G c1 (eLc fi (own.map (·.2)) t tc f) W) := PE.imp (pe_lc hc hN hi ok hg ht he hs) fun _ _ _ h => fG_lc h
end

/-! ### two clauses -/
def lc2Loop (t : TgM) (vs : List Nat) (c : EM Bool) (fi1 : EM (List D)) (t1 : TgM) (vs1 : List Nat) (c1 : EM Bool) (f : EM D) : List D → DEnv → List D → Res (List D × DEnv)
  | [], env, acc => .ok (acc, env)
  | d :: ds, env, acc => match t d env with
    | none => .bad
    | some e1 => match c e1 with
      | .ok (true, e2) => (match fi1 e2 with
        | .ok (ds1, e3) => (match lcLoop t1 vs1 c1 f ds1 (wipeE e3 vs1) acc with
          | .ok (acc', e4) => lc2Loop t vs c fi1 t1 vs1 c1 f ds (wipeE e4 vs) acc'
          | _ => .bad)
        | _ => .bad)
      | .ok (false, e2) => lc2Loop t vs c fi1 t1 vs1 c1 f ds (wipeE e2 vs) acc
      | _ => .bad
def eLc2 (fi : EM (List D)) (vs : List Nat) (t : TgM) (c : EM Bool) (fi1 : EM (List D)) (vs1 : List Nat) (t1 : TgM) (c1 : EM Bool) (f : EM D) : EM D := bnd fi fun ds e1 => match lc2Loop t vs c fi1 t1 vs1 c1 f ds (wipeE e1 vs) [] with
  | .ok (acc, e2) => .ok (.lst acc, restE e1 e2 vs)
  | _ => .bad
section
variable {G : Gx} {X : Cx} {W : WX}
end
section
variable {G : Gx} {X : Cx} {W : WX} {tg iter elt tg1 iter1 : Expr} {ifs ifs1 : List Expr} {scope : Scope} {own : List (Str × Nat)} {vs1 : List Nat} {pos spos py : Pos} {fi fi1 : EM (List D)} {t t1 : TgM} {tc tc1 : EM Bool} {f : EM D}
end
end DL
end

section
set_option Elab.async false
set_option linter.all false
set_option autoImplicit false
set_option maxRecDepth 100000
set_option maxHeartbeats 4000000
/-! ED: own exceptions: made, raised, caught; repr; isinstance. -/
namespace DL
open PySem L2 PyProof.Rows PySem.Spec

/-! ### Base.__init__(self, ..), Base an own class over ValueError -/
theorem pe_netinit {X : Cx} {N : Addr} {mc : Value} {x : Str} {e : Expr} {es : List Expr} {ta : TA} {p1 p2 pos : Pos} {pl : Sem Bool} (rd : PySem.W.readsIn X.K N mc = true) (ga : PySem.W.specialIn X.K (.ref N) "__getattribute__" = some (some (.builtin "type.__getattribute__")))
    (vV : PySem.W.findCls X.K (.ref N) mc "__init__" = some (.val (.builtin "ValueError.__init__"))) (hm : X.mg x = some (.ref N)) (ha : PA X (e :: es) ta) (hg : Gl X x := by rfl) (hd : (x == ("__debug__" : Str)) = false := by decide)
    (hc : eval (.Call (.Attribute (.Name x p1) "__init__" p2) (e :: es) [] pos) X.env = (do
      let ov ← eval (.Name x p1) X.env
      standAt p2.atName
      let (f, first) ← holding [ov] (getMethod ov "__init__" pl)
      callWith pos f first (backTo pos (starEach (e :: es) X.env)) (backToKw pos (keywordEach [] X.env))) := by rfl)
    (he : starEach (e :: es) X.env = (false, eval e X.env) :: starEach es X.env := by rfl) (hpl : (backTo pos (starEach es X.env)).any (·.1) = false := by rfl) :
    PE X (.Call (.Attribute (.Name x p1) "__init__" p2) (e :: es) [] pos) (tVeI X.K ta) := by
  refine ⟨fun pins s σ H Q I h => PySem.W.methodCall_KW (pl := pl) (ld_glob I hg hm ?_ hd) hc⟩
  refine PySem.W.method_cls I.kIn ga (PySem.W.cls_value I.kIn rd vV (by decide +kernel) ?_)
  show wpAny _ _ (callWith pos (Value.builtin "ValueError.__init__") [] (backTo pos (starEach (e :: es) X.env)) []) _ _ _
  refine PyProof.Rows.callWith_method1 (thn (ha.run pos pins _ σ H _ (I.tok _) h) fun us s1 ⟨vs, H1, I1, rel, a, C, ws, ev, hl, T, ea, q⟩ => ?_) he hpl
  subst ev
  cases rel with
  | @cons _ u0 _ ur ra rr =>
    cases (show u0 = Value.ref a from ra)
    exact oinit_ok T I1 ea (by rw [← Paired.length rr, sizeLine_eq]; omega) fun s' J => ⟨.non, H1, J, rfl, q⟩
/-- __init__ of an own error with one field -/
def spE (C : Addr) (f : Str) : Sp := fun vs H Q _ => ∃ a w, vs = [.ref a, w] ∧ H a = some (exo a C none) ∧ ∀ dx, H dx = none → dx ≠ a → Q .non (upd (upd H dx (exd dx [(f, w)])) a (exo a C (some dx)))
/-- what is asked of an error's class (one field f), for raise -/
structure ErrC (G : Gm) (X : Cx) (x : Str) (c : Nat) (f : Str) : Prop where
  ex : ∃ (k : Nat) (fI : Addr) (fd : FuncData) (ps : List Str), OexC X.K (G.cl c) ∧ PySem.W.findIn X.K (.ref (G.cl c)) "__init__" = some (some (.ref fI)) ∧ PySem.W.typeIn X.K (.ref fI) = some (.type "function") ∧
    FnOk X.prog X.w X.K X.mg X.base (L2.CX X.prog X.w) k fI fd ps (spE (G.cl c) f) ∧ Room (k + 1) X.A ∧ Binds X.K fd ps [] ∧ X.mg x = some (.ref (G.cl c))
def sRaise (c : Nat) (f : Str) (a : EM D) : SM := fun env => liftE (a env) fun d e => .er c [(f, d)] e
section
variable {G : Gx} {X : Cx} {W : WX} {a : Expr} {fa : EM D} {p pos pos2 : Pos} {x f : Str} {c : Nat}
theorem ds_raise (E : ErrC G X x c f) (hc : X.calm = true) (tk : Takes X W) (ha : PE X a (eG G fa W)) (hg : Gl X x := by rfl) (hdb : (x == ("__debug__" : Str)) = false := by decide) (he : starEach (a :: []) X.env = (false, eval a X.env) :: starEach [] X.env := by rfl) (hpl : (backTo pos (starEach [] X.env)).any (·.1) = false := by rfl) :
    PS X (.Raise (some (.Call (.Name x p) [a] [] pos)) none pos2) (sG G (sRaise c f fa) W) := by
  obtain ⟨k, fI, fd, ps, h1, h2, h3, h4, h5, h6, h7⟩ := E.ex
  refine PS.imp (ps_raise hc tk (pmk_oex h1 h2 h3 h4 h5 h6 .nil passL hg h7 (pa_cons ha pa_nil he) hdb he hpl)) fun Dn σ H h => ?_
  refine gGS (K := kE) h fun v d H1 B F0 F o env rs rp q => ?_
  refine ⟨by show 1 ≤ 1000; decide, fun ea hea => ⟨ea, v, rfl, upd_same, fun dx hdx hne => ⟨rfl, dx, [(f, v)], upd_same, ?_, ?_, ?_⟩⟩⟩
  · rw [upd_ne hne, upd_same]
  · rw [upd_ne hne] at hdx
    exact hdx
  · rw [upd_ne hne] at hdx
    have e : upd (del (upd (upd (upd H1 ea (exo ea (G.cl c) none)) dx (exd dx [(f, v)])) ea (exo ea (G.cl c) (some dx))) ea) dx (HO.xd [(f, v)]) = upd H1 dx (HO.xd [(f, v)]) := by
      funext b
      by_cases hb : b = dx
      · subst hb
        rw [upd_same, upd_same]
      · rw [upd_ne hb, upd_ne hb]
        by_cases hb2 : b = ea
        · subst hb2
          rw [del_same, hea]
        · rw [del_ne hb2, upd_ne hb2, upd_ne hb, upd_ne hb2]
    rw [e]
    have g := Grow.new (o := .xd [(f, v)]) rs.fh hdx
    exact q dx σ _ _ o [(f, v)] (rs.grow g) upd_same (.cons (Rep.mono g.f rp) .nil)
end

/-! ### try with several clauses, each with or without a name -/
def SuiteOk (X : Cx) (st : List Stmt) (ts : Addr → Value → Option Addr → TS) : Prop := ∀ (a : Addr) (oe : Obj) (cls : Value) (d : Option Addr) (pn : List (Addr × Obj)), Zc cls d oe → (∃ vs, oe.data = .fields vs) → PSs (X.suite a ((a, oe) :: pn)) st (ts a cls d)
inductive HdsN (X : Cx) : List ExceptHandler → List (Value × Option Nat × (Addr → Value → Option Addr → TS)) → Prop
  | nil : HdsN X [] []
  | named {x n : Str} {c : Value} {i : Nat} {ts : Addr → Value → Option Addr → TS} {b0 : Stmt} {suite : List Stmt} {np pp : Pos} {hds : List ExceptHandler} {l : List (Value × Option Nat × (Addr → Value → Option Addr → TS))} (hc : Names X x c) (hi : X.N[i]? = some n) (hl : X.env.kindOf n = some .local)
      (su : SuiteOk X (b0 :: suite) ts) (r : HdsN X hds l) : HdsN X (.ExceptHandler (some (.Name x np)) (some n) (b0 :: suite) pp :: hds) ((c, some i, ts) :: l)
  | plain {x : Str} {c : Value} {ts : Addr → Value → Option Addr → TS} {b0 : Stmt} {suite : List Stmt} {np pp : Pos} {hds : List ExceptHandler} {l : List (Value × Option Nat × (Addr → Value → Option Addr → TS))} (hc : Names X x c)
      (su : SuiteOk X (b0 :: suite) ts) (r : HdsN X hds l) : HdsN X (.ExceptHandler (some (.Name x np)) none (b0 :: suite) pp :: hds) ((c, none, ts) :: l)
section
variable {X : Cx} {body : List Stmt} {h0 : ExceptHandler} {hds : List ExceptHandler} {l : List (Value × Option Nat × (Addr → Value → Option Addr → TS))} {pos : Pos} {tb : WX → TS} {Wout : WX}
end
def dropC : Option Cell → Option Cell
  | some (.exc _ _) => none
  | o => o
def dropX (env : DEnv) : DEnv := env.map dropC
def clrN (i : Nat) : SR → SR
  | .nx e => .nx ((dropX e).set i none)
  | .bk e => .bk ((dropX e).set i none)
  | .ct e => .ct ((dropX e).set i none)
  | .rt c e => .rt c (dropX e)
  | .er _ _ _ => .bad
  | .bad => .bad
def clrP : SR → SR
  | .nx e => .nx (dropX e)
  | .bk e => .bk (dropX e)
  | .ct e => .ct (dropX e)
  | .rt c e => .rt c (dropX e)
  | .er _ _ _ => .bad
  | .bad => .bad
def runH (isa : Nat → Nat → Bool) (c : Nat) (fs : List (Str × D)) (e : DEnv) : List (Nat × Option Nat × SM) → SR
  | [] => .er c fs e
  | (c0, some i, h) :: r => if isa c c0 = true then clrN i (h (e.set i (some (.exc c fs)))) else runH isa c fs e r
  | (c0, none, h) :: r => if isa c c0 = true then clrP (h e) else runH isa c fs e r
def sTry (n : Nat) (isa : Nat → Nat → Bool) (b : SM) (hs : List (Nat × Option Nat × SM)) : SM := fun env => match b env with
  | .er c fs e => if c < n then runH isa c fs e hs else .bad
  | r => r
def hXA (G : Gm) (a : Addr) (cls : Value) (d : Option Addr) : Addr → Addr → Nat → Prop := fun a' dd c => a' = a ∧ d = some dd ∧ cls = .ref (G.cl c)
section
variable {G : Gm} {XA XA' : Addr → Addr → Nat → Prop} {bp : List (Nat × Addr)} {B F0 F H : Hp} {o : Own} {σ : L2.St} {env : DEnv}
theorem RepS.xa (r : RepS ⟨G, XA, bp⟩ B F0 F H o σ env) (hno : ∀ a dd c, ¬ XA a dd c) : RepS ⟨G, XA', bp⟩ B F0 F H o σ env where
  bh := r.bh
  f0 := r.f0
  fh := r.fh
  fr := r.fr
  ow := r.ow
  len := r.len
  val := r.val
  own := r.own
  exc := fun i c fs q => by
    obtain ⟨a, dd, fvs, _, h2, _⟩ := r.exc i c fs q
    exact (hno a dd c h2).elim
  pin := r.pin
theorem RepS.sete (r : RepS ⟨G, XA, bp⟩ B F0 F H o σ env) {a dd : Addr} {c : Nat} {fvs : List (Str × V)} {fs : List (Str × D)} (i : Nat) (hx : XA a dd c) (hd : F dd = some (.xd fvs)) (rf : RepF G F fvs fs) : RepS ⟨G, XA, bp⟩ B F0 F H o (σ.set i (some (.ref a))) (env.set i (some (.exc c fs))) where
  bh := r.bh
  f0 := r.f0
  fh := r.fh
  fr := r.fr
  ow := r.ow
  len := by simpa using r.len
  val := fun j e q => by
    rw [List.getElem?_set] at q ⊢
    by_cases hj : i = j
    · subst hj
      rw [if_pos rfl] at q
      split at q <;> cases q
    · rw [if_neg hj] at q ⊢
      exact r.val j e q
  own := fun j s e q => by
    rw [List.getElem?_set] at q ⊢
    by_cases hj : i = j
    · subst hj
      rw [if_pos rfl] at q
      split at q <;> cases q
    · rw [if_neg hj] at q ⊢
      exact r.own j s e q
  exc := fun j c' fs' q => by
    rw [List.getElem?_set] at q ⊢
    by_cases hj : i = j
    · subst hj
      rw [if_pos rfl] at q ⊢
      split at q
      · cases q
        rename_i hl
        rw [if_pos (by rw [← r.len]; exact hl)]
        exact ⟨a, dd, fvs, rfl, hx, hd, rf⟩
      · cases q
    · rw [if_neg hj] at q ⊢
      exact r.exc j c' fs' q
  pin := fun j p' s' d' hb q => by
    rw [List.getElem?_set] at q ⊢
    by_cases hj : i = j
    · subst hj
      rw [if_pos rfl] at q
      split at q <;> cases q
    · rw [if_neg hj] at q ⊢
      exact r.pin j p' s' d' hb q
end
section
variable {G : Gm} {bp : List (Nat × Addr)} {X : Cx} {n : Nat} {isa : Nat → Nat → Bool} {W : WX}
end
/-! ### err.f in a suite -/
def eXf (i c0 : Nat) (f : Str) : EM D := fun env => match env[i]? with
  | some (some (.exc c fs)) => if c = c0 then (match fs.lookup f with
    | some d => .ok (d, env)
    | none => .bad) else .bad
  | _ => .bad
/-! ### repr -/
def showOk (a : PyData) : Bool := a.showable && decide (a.depth ≤ 60) && decide (a.shown.length ≤ 1000000)
def rRepr (X : Cx) : List V → Hp → VK → Prop := fun xs H Q => (∃ x d, xs = [x] ∧ Dp X.K H x d ∧ showOk d = true ∧ Q (.str d.shown) H) ∨ (∃ p od, xs = [.ref p] ∧ H p = some (dKO X.prog X.w p [] od) ∧ Q (.str (PyData.shown (.dict []))) H)
theorem dp_nodict : ∀ {K : PySem.W.Frag} {H : Hp} {v : V} {d : PyData}, Dp K H v d → d.hasDict = false := by
  intro K H v d h
  exact Dp.rec (motive_1 := fun _ d _ => d.hasDict = false) (motive_2 := fun _ ds _ => PyData.hasDictAll ds = false) (by simp [PyData.hasDict]) (fun _ => by simp [PyData.hasDict]) (fun _ => by simp [PyData.hasDict]) (fun _ => by simp [PyData.hasDict])
    (fun _ _ ih => by simpa [PyData.hasDict] using ih) (fun _ _ ih => by simpa [PyData.hasDict] using ih) (by simp [PyData.hasDictAll]) (fun _ _ i1 i2 => by simp [PyData.hasDictAll, i1, i2]) h
theorem cr_repr {X : Cx} (hgd : X.A.guards = some []) (hu : X.A.units + 64 < cLine) : CallR X (.builtin "repr") (rRepr X) := by
  intro pins s σ H xs us Q I rel h
  rcases h with ⟨x, d, rfl, hd, ho, q⟩ | ⟨p, od, rfl, hp, q⟩
  · obtain ⟨u, rfl, ru⟩ := vals1 rel
    unfold showOk at ho
    rw [Bool.and_eq_true, Bool.and_eq_true] at ho
    obtain ⟨⟨h1, h2⟩, h3⟩ := ho
    have h2 := of_decide_eq_true h2
    have h3 := of_decide_eq_true h3
    have nd := dp_nodict hd
    obtain ⟨as, rds⟩ := Dp.reads I d x u hd ru
    cases hd with
    | non =>
      cases ru
      exact PySem.P.repr_of_none ⟨.str _, H, I.tok _, ⟨_, rfl⟩, by simpa [PyData.shown] using q⟩
    | bl b =>
      cases ru
      refine PySem.P.repr_of_bool ⟨.str _, H, I.tok _, ⟨_, rfl⟩, ?_⟩
      simpa [PyData.shown] using q
    | int i =>
      obtain ⟨t, rfl⟩ := ru
      refine PySem.P.repr_of_int (by simpa [PyData.showable] using h1) ⟨.str _, H, I.tok _, ⟨_, rfl⟩, ?_⟩
      simpa [PyData.shown] using q
    | str y =>
      obtain ⟨t, rfl⟩ := ru
      refine PySem.P.repr_of_str ⟨.str _, H, I.tok _, ⟨_, rfl⟩, ?_⟩ ?_
      · simpa [PyData.shown] using q
      · rw [PyData.shown] at h3
        exact le_line h3
    | lst hs ha =>
      cases ru
      exact repr_of_reads' rds h1 (PyData.noDict_hsm nd) hgd (by omega) (fun _ _ e => e) (fun h' u tk hk => ⟨.str _, H, I.kept hk, ⟨_, rfl⟩, q⟩) (le_line h3)
    | tup hs ha =>
      cases ru
      exact repr_of_reads' rds h1 (PyData.noDict_hsm nd) hgd (by omega) (fun _ _ e => e) (fun h' u tk hk => ⟨.str _, H, I.kept hk, ⟨_, rfl⟩, q⟩) (le_line h3)
  · obtain ⟨u, rfl, ru⟩ := vals1 rel
    cases ru
    obtain ⟨_, hsm, _, vs, kv, o, es, ep, ho, hx, hdat, hrest⟩ := kd_rd I hp
    cases kv
    have he : es.toList = [] := by
      obtain ⟨_, hp2, _⟩ := hrest
      first
        | exact List.eq_nil_of_length_eq_zero (by simpa using hp2.length)
        | (cases h : es.toList with | nil => rfl | cons x y => (rw [h] at hp2; cases hp2))
    have rds : Reads s.heap (.ref p) (.dict []) (p :: [] ++ []) := Reads.dict (as := []) (bs := []) (kvs := []) ho hx.1 hdat (by rw [he]; exact .nil) (by rw [he]; exact .nil)
    refine repr_of_reads' rds (by simp [PyData.showable, PyData.showableKv]) (fun _ => ?_) hgd ?_ (fun _ _ e => e) (fun h' u tk hk => ⟨.str _, H, I.kept hk, ⟨_, rfl⟩, q⟩) ?_
    · intro z
      have : sysModules = p := by simpa using z
      rw [this] at hsm
      simp at hsm
    · have : PyData.depth (.dict []) = 1 := by simp [PyData.depth, PyData.depthKv]
      omega
    · exact le_line (by decide +kernel)
def reprD : D → Option D
  | .dct [] => some (.str (PyData.shown (.dict [])))
  | d => (toPy d).bind fun a => if showOk a = true then some (.str a.shown) else none
def reprL : List D → Option D
  | [d] => reprD d
  | _ => none
theorem ad_repr {G : Gm} {X : Cx} (fit : Fit G X) : AppD G (rRepr X) reprL := by
  intro F H xs ds z Q ef r hz q
  unfold reprL at hz
  split at hz
  · rename_i d
    obtain ⟨v, rfl, h⟩ := repL1 r
    unfold reprD at hz
    split at hz
    · cases hz
      obtain ⟨a, rfl, ⟨od, ks, h1, h2⟩ | ⟨od, xs', h1, hn, h2⟩⟩ := srep_dct ef h
      · cases h2
        exact .inr ⟨_, od, rfl, by rw [← fit.p, ← fit.w]; exact h1, q _ F H (Grow.refl ef) (.str _)⟩
      · cases h2
        exact absurd rfl hn
    · rw [Option.bind_eq_some_iff] at hz
      obtain ⟨a, h1, h2⟩ := hz
      split at h2
      · rename_i hs
        cases h2
        exact .inl ⟨v, a, rfl, by rw [← fit.k]; exact (h.deep ef).dp h1, hs, q _ F H (Grow.refl ef) (.str _)⟩
      · cases h2
  · cases hz

/-! ### isinstance -/
inductive CT where
  | b (T : String)
  | o (c : Nat)
deriving DecidableEq
def ctV (cl : Nat → Addr) : CT → Value
  | .b T => .type T
  | .o c => .ref (cl c)
def tyC : D → Option CT
  | .non => some (.b "NoneType")
  | .bl _ => some (.b "bool")
  | .int _ => some (.b "int")
  | .str _ => some (.b "str")
  | .tup _ => some (.b "tuple")
  | .lst _ => some (.b "list")
  | .scr _ => some (.b "list")
  | .dct _ => some (.b "dict")
  | .set _ => none
  | .obj c _ => some (.o c)
def kitC : CT → CT → Option Bool
  | .b a, .b b => kitB a b
  | .b _, .o _ => some false
  | .o _, .b _ => some false
  | .o c, .o c' => some (decide (c = c'))
def kitCs (t : CT) : List CT → Option Bool
  | [] => some false
  | c :: r => match kitC t c with
    | some true => some true
    | some false => kitCs t r
    | none => none
def bNames : List String := ["NoneType", "bool", "int", "str", "tuple", "list", "dict"]
def inC (oc : List Nat) : CT → Bool
  | .b T => bNames.contains T
  | .o c => oc.contains c
/-- what the text has of the own classes that are asked for -/
structure ClsI (K : PySem.W.Frag) (C : Addr) : Prop where
  cls : Cls K C
  ha : PySem.W.findIn K (.ref C) "__class__" = some (some (.builtin "object.__class__"))
  hn : PySem.W.specialIn K (.builtin "object.__class__") "__get__" = some (some (.builtin "getset_descriptor.__get__"))
  htk : PySem.W.takesIn K (.builtin "object.__class__") = some true
  hm : PySem.W.mroIn K C (.type "object") = some true
structure KitF (G : Gm) (oc : List Nat) : Prop where
  ty : ∀ c, oc.contains c = true → ClsI G.K (G.cl c)
  bo : ∀ c, oc.contains c = true → ∀ a, bNames.contains a = true → PySem.W.kitOne G.K (.type a) (.ref (G.cl c)) = some false
  ob : ∀ c, oc.contains c = true → ∀ a, bNames.contains a = true → PySem.W.kitOne G.K (.ref (G.cl c)) (.type a) = some false
  oo : ∀ c, oc.contains c = true → ∀ c', oc.contains c' = true → PySem.W.kitOne G.K (.ref (G.cl c)) (.ref (G.cl c')) = some (decide (c = c'))
def isiB (oc : List Nat) (cs : List CT) (d : D) : Option Bool := (tyC d).bind fun t => if (inC oc t && cs.all (inC oc)) = true then kitCs t cs else none
def eIsi (oc : List Nat) (cs : List CT) (a : EM D) : EM D := bnd a fun d => ofO ((isiB oc cs d).map .bl)
/-- the type of a value, dicts with tuple keys too -/
def TyY (X : Cx) (H : Hp) (x : V) (t : Value) : Prop := TyX X.K H x t ∨ ∃ a od, x = .ref a ∧ ((∃ xs, H a = some (dHO X.prog X.w a xs od)) ∨ ∃ kvs, H a = some (dKO X.prog X.w a kvs od)) ∧ t = .type "dict"
theorem kit_ofY {X : Cx} {pins : List (Addr × Obj)} {σ : L2.St} {H : Hp} {s : Shared} {x : V} {u t : Value} (I : Inv X pins σ H s) (rx : RelV x u) (ty : TyY X H x t) : ∃ P : Heap → Prop, PySem.W.KitX X.K u t P ∧ P s.heap ∧ u ≠ .builtin "__main__.__loader__#opaque" := by
  rcases ty with ty | ⟨a, od, rfl, ⟨xs, h⟩ | ⟨kvs, h⟩, rfl⟩
  · exact kit_of I rx ty
  · cases rx
    obtain ⟨⟨h1, h2, ys, h3, es, ep, h4, h5, h6, h7, h8⟩, _⟩ := I.hok a _ h
    exact ⟨_, PySem.W.kitx_dict, ⟨od, h4, h5.1⟩, fun z => nomatch z⟩
  · cases rx
    obtain ⟨z, hd, _, vs, rel, dd⟩ := kd_rd I h
    exact ⟨_, PySem.W.kitx_dict, dd.typeIs, fun z => nomatch z⟩
theorem kit_c {G : Gm} {oc : List Nat} (kf : KitF G oc) {t c : CT} {b : Bool} (ht : inC oc t = true) (hc : inC oc c = true) (h : kitC t c = some b) : PySem.W.kitOne G.K (ctV G.cl t) (ctV G.cl c) = some b := by
  cases t with
  | b a =>
    cases c with
    | b a' => exact kit_ty h
    | o c' => cases h; exact kf.bo c' hc a ht
  | o a =>
    cases c with
    | b a' => cases h; exact kf.ob a ht a' hc
    | o c' => cases h; exact kf.oo a ht c' hc
theorem kit_cs {G : Gm} {oc : List Nat} (kf : KitF G oc) {t : CT} (ht : inC oc t = true) : ∀ {cs : List CT} {b : Bool}, cs.all (inC oc) = true → kitCs t cs = some b → PySem.W.kitAny G.K (ctV G.cl t) (cs.map (ctV G.cl)) = some b
  | [], b, _, h => by
    cases h
    rfl
  | c :: cs, b, hc, h => by
    simp only [List.all_cons, Bool.and_eq_true] at hc
    unfold kitCs at h
    split at h
    · rename_i hk
      cases h
      exact kitAny_cons (kit_c kf ht hc.1 hk) (fun z => by cases z) fun _ => rfl
    · rename_i hk
      exact kitAny_cons (kit_c kf ht hc.1 hk) (fun _ => kit_cs kf ht hc.2 h) fun z => by cases z
    · cases h
theorem rep_ty {G : Gm} {X : Cx} (fit : Fit G X) {oc : List Nat} (kf : KitF G oc) {H : Hp} {v : V} {d : D} {t : CT} (r : Rep G H v d) (h : tyC d = some t) (ht : inC oc t = true) : TyY X H v (ctV G.cl t) := by
  cases r with
  | non => cases h; exact .inl (.base .non)
  | bl b => cases h; exact .inl (.base (.bl b))
  | int b => cases h; exact .inl (.base (.int b))
  | str b => cases h; exact .inl (.base (.str b))
  | tup hs _ =>
    cases h
    rw [fit.k] at hs
    rcases hs with (hs | ⟨o, hs⟩) | ⟨o, its, n, hk, hc, _⟩
    · exact .inl (.base (.tup hs))
    · exact .inl (.fTuple hs)
    · exact .inl (.kTuple hk hc)
  | lst hs _ => cases h; exact .inl (.base (.lst hs))
  | scr hs _ =>
    cases h
    rw [fit.k] at hs
    rcases hs with (hs | ⟨o, hs⟩) | ⟨o, its, n, hk, hc, _⟩
    · exact .inl (.base (.lst hs))
    · exact .inl (.base (.frz hs))
    · exact .inl (.kList hk hc)
  | dK hs _ => cases h; exact .inr ⟨_, _, rfl, .inr ⟨_, by rw [← fit.p, ← fit.w]; exact hs⟩, rfl⟩
  | dH hs _ _ => cases h; exact .inr ⟨_, _, rfl, .inl ⟨_, by rw [← fit.p, ← fit.w]; exact hs⟩, rfl⟩
  | ins hs _ =>
    cases h
    have c := kf.ty _ ht
    rw [fit.k] at c
    exact .inl (.base (.ins hs c.cls c.ha c.hn c.htk c.hm))
  | err _ _ _ => cases h
  | ext _ x => cases x with | none h => exact h.elim
section
variable {X : Cx}
def rIsiY (X : Cx) : List V → Hp → VK → Prop := fun xs H Q => ∃ (x c : V) (t u : Value) (b : Bool), xs = [x, c] ∧ ClsV c u ∧ TyY X H x t ∧ PySem.W.kitOne X.K t u = some b ∧ Q (.bl b) H
def rIsiYT (X : Cx) : List V → Hp → VK → Prop := fun xs H Q => ∃ (x : V) (tp : Addr) (cs : List V) (t : Value) (ws : List Value) (b : Bool), xs = [x, .ref tp] ∧ H tp = some (.tup cs) ∧ Paired ClsV cs ws ∧ TyY X H x t ∧ PySem.W.kitAny X.K t ws = some b ∧ Q (.bl b) H
theorem call_isiY : CallR X (.builtin "isinstance") (rIsiY X) := by
  intro pins s σ H xs us Q I r h
  obtain ⟨x, c, t, u, b, rfl, k, ty, e, q⟩ := h
  obtain ⟨u1, u2, rfl, r1, r2⟩ := vals2 r
  have e2 := k.eq r2
  subst e2
  obtain ⟨P, Z, p, hx⟩ := kit_ofY I r1 ty
  exact PySem.W.kia_one Z I.kIn p e hx fun tk => ⟨.bl b, H, I.tok tk, rfl, q⟩
theorem call_isiYT : CallR X (.builtin "isinstance") (rIsiYT X) := by
  intro pins s σ H xs us Q I r h
  obtain ⟨x, tp, cs, t, ws, b, rfl, hT, k, ty, e, q⟩ := h
  obtain ⟨u1, u2, rfl, r1, r2⟩ := vals2 r
  cases (show u2 = Value.ref tp from r2)
  obtain ⟨P, Z, p, hx⟩ := kit_ofY I r1 ty
  obtain ⟨_, its, rv, o, h1, h2, n, h3⟩ := (show ObjOk X.prog X.w H s.heap tp (.tup cs) from I.hok tp _ hT)
  have e3 := ClsV.all k rv
  subst e3
  obtain ⟨oc, od, dt, sl⟩ := o
  simp only at h2 h3
  subst h2 h3
  exact PySem.W.kia_tup Z I.kIn p h1 e hx fun tk => ⟨.bl b, H, I.tok tk, rfl, q⟩
end
/-- a class by its name -/
def PCls (G : Gm) (X : Cx) (e : Expr) (c : CT) : Prop := ∃ v, PE X e (tC v) ∧ ClsV v (ctV G.cl c)
inductive PClss (G : Gm) (X : Cx) : List Expr → List CT → Prop
  | nil : PClss G X [] []
  | cons {e : Expr} {c : CT} {es : List Expr} {cs : List CT} : PCls G X e c → PClss G X es cs → starEach (e :: es) X.env = (false, eval e X.env) :: starEach es X.env → PClss G X (e :: es) (c :: cs)
section
variable {G : Gx} {X : Cx} {W : WX} {a ec : Expr} {fa : EM D} {p p2 pos : Pos} {x : Str}
theorem pcls_b {T : String} (hm : X.mg x = none) (hv : bootBuiltins x = some (.type T)) (hg : Gl X x := by rfl) (hn : x ≠ "__name__" := by decide) (hd : (x == ("__debug__" : Str)) = false := by decide) : PCls G X (.Name x p2) (.b T) := ⟨.ty T, pe_bltn (v := .ty T) hg hm hv rfl hn hd, .ty T⟩
theorem de_isi {oc : List Nat} {c : CT} (fit : Fit G X) (kf : KitF G oc) (ha : PE X a (eG G fa W)) (hc : PCls G X ec c) (hmi : X.mg "isinstance" = none) (hgi : Gl X "isinstance" := by rfl)
    (he : starEach [a, ec] X.env = (false, eval a X.env) :: starEach [ec] X.env := by rfl) (he2 : starEach [ec] X.env = (false, eval ec X.env) :: starEach [] X.env := by rfl)
    (hpl : (backTo pos (starEach [ec] X.env)).any (·.1) = false := by rfl) : PE X (.Call (.Name "isinstance" p) [a, ec] [] pos) (eG G (eIsi oc [c] fa) W) := by
  obtain ⟨vc, hpc, hcv⟩ := hc
  refine PE.imp (pe_callB call_isiY hgi hmi (by decide +kernel) (pa_cons ha (pa_cons hpc pa_nil he2) he) (he := he) (hpl := hpl)) fun σ H Q h => ?_
  refine gG_bnd (K1 := kE) up_true h.c fun v d H1 h1 => ?_
  obtain ⟨F, z, hz, ef, ⟨_, r1⟩, q⟩ := gGC_ofO h1
  rw [Option.map_eq_some_iff] at hz
  obtain ⟨b, hb, rfl⟩ := hz
  unfold isiB at hb
  rw [Option.bind_eq_some_iff] at hb
  obtain ⟨t, ht, hk⟩ := hb
  split at hk
  · rename_i hi
    simp only [List.all_cons, List.all_nil, Bool.and_true, Bool.and_eq_true] at hi
    refine ⟨v, vc, ctV G.cl t, ctV G.cl c, b, rfl, hcv, rep_ty fit kf (Rep.mono ef r1) ht hi.1, ?_, q _ F H1 (Grow.refl ef) (Rep.bl b)⟩
    rw [← fit.k]
    refine kit_c kf hi.1 hi.2 ?_
    unfold kitCs at hk
    split at hk
    · rename_i e; rw [e]; exact hk
    · rename_i e; rw [e]; exact hk
    · cases hk
  · cases hk
theorem pclss_pa {es : List Expr} {cs : List CT} (h : PClss G X es cs) : ∃ vs, PA X es (fun σ H Q => Q vs H) ∧ Paired ClsV vs (cs.map (ctV G.cl)) ∧ vs.length = cs.length := by
  induction h with
  | nil => exact ⟨[], pa_nil, .nil, rfl⟩
  | cons hc _ hs ih =>
    obtain ⟨v, h1, h2⟩ := hc
    obtain ⟨vs, h3, h4, h5⟩ := ih
    exact ⟨v :: vs, PA.imp (pa_cons h1 h3 hs) fun σ H Q q => q, .cons h2 h4, by simp [h5]⟩
theorem de_isiT {oc : List Nat} {es : List Expr} {cs : List CT} {kx : Nat} (fit : Fit G X) (kf : KitF G oc) (ha : PE X a (eG G fa W)) (hc : PClss G X es cs) (hmi : X.mg "isinstance" = none) (hlen : cs.length ≤ 1000 := by decide) (hgi : Gl X "isinstance" := by rfl)
    (he : starEach [a, .Tuple es kx p2] X.env = (false, eval a X.env) :: starEach [.Tuple es kx p2] X.env := by rfl) (he2 : starEach [.Tuple es kx p2] X.env = (false, eval (.Tuple es kx p2) X.env) :: starEach [] X.env := by rfl)
    (hpl : (backTo pos (starEach [.Tuple es kx p2] X.env)).any (·.1) = false := by rfl) : PE X (.Call (.Name "isinstance" p) [a, .Tuple es kx p2] [] pos) (eG G (eIsi oc cs fa) W) := by
  obtain ⟨vs, hpa, hvs, hl⟩ := pclss_pa hc
  refine PE.imp (pe_callB call_isiYT hgi hmi (by decide +kernel) (pa_cons ha (pa_cons (pe_tup hpa) pa_nil he2) he) (he := he) (hpl := hpl)) fun σ H Q h => ?_
  refine gG_bnd (K1 := kE) up_true h.c fun v d H1 h1 => ?_
  obtain ⟨F, z, hz, ef, ⟨_, r1⟩, q⟩ := gGC_ofO h1
  rw [Option.map_eq_some_iff] at hz
  obtain ⟨b, hb, rfl⟩ := hz
  unfold isiB at hb
  rw [Option.bind_eq_some_iff] at hb
  obtain ⟨t, ht, hk⟩ := hb
  split at hk
  · rename_i hi
    simp only [Bool.and_eq_true] at hi
    refine ⟨le_line (by omega), fun tp htp => ?_⟩
    have g := Grow.newH (o := .tup vs) ef htp
    refine ⟨v, tp, vs, ctV G.cl t, _, b, rfl, upd_same, hvs, rep_ty fit kf (Rep.mono g.fh r1) ht hi.1, ?_, q _ F _ g (Rep.bl b)⟩
    rw [← fit.k]
    exact kit_cs kf hi.1 hi.2 hk
  · cases hk
end
end DL
end

section
set_option Elab.async false
set_option linter.all false
set_option autoImplicit false
set_option maxRecDepth 100000
set_option maxHeartbeats 4000000
/-! EE: defs as they stand; an error's __init__; the end of a law. -/
namespace DL
open PySem L2 PyProof.Rows PySem.Spec
section
variable {P : Program} {w : World} {K : PySem.W.Frag} {mg : Str → Option Value} {base : Heap} {cl : Nat → Addr}
/-- Base.__init__(self, text); self.f = f -/
theorem init_ok {C fI : Addr} {qual f m : Str} {st : Stmt} {fd : FuncData} (F : Fun K "__init__" qual st fI fd) (T : OexC K C) (hno : PySem.W.findIn K (.ref C) f = some none) (S : FnScope ["self", f] ["self", f] (defScope st))
    (hb : ∀ (cdv : Value) (A : Around) (outer : List PySem.Env) (s : Shared) (H : Hp) (E : XK), PSs (cxOf (L2.CX P w) P w K mg base ["self", f] qual (defScope st) fI cdv A outer s H E) (defBody st) (tSeq (tDrop (tVeI K (tCons (tVar 0) (tCons (tC (.str m)) tNil)))) (tOst K f (tVar 0) (tVar 1)))) :
    FnOk P w K mg base (L2.CX P w) 1 fI fd ["self", f] (spE C f) := by
  refine F.okX S (fun vs H Q E h => ?_) fun cdv A outer s H vs Q E hr h => ⟨_, hb cdv A outer s H E, ?_⟩
  · obtain ⟨a, u, rfl, _⟩ := h
    rfl
  · obtain ⟨a, u, rfl, h1, h2⟩ := h
    exact ⟨_, rfl, a, C, _, rfl, (by show 1 ≤ 1000; decide), T, h1, _, rfl, _, rfl, a, C, rfl, T, hno, .inl ⟨h1, fun dx h3 h4 => h2 dx h3 h4⟩⟩
/-- an error's class with one field, as it stands -/
structure ErrT (K : PySem.W.Frag) (mg : Str → Option Value) (x qual f : Str) (st : Stmt) (C : Addr) : Prop where
  ox : OexC K C
  xf : XfC K C
  no : PySem.W.findIn K (.ref C) f = some none
  gl : mg x = some (.ref C)
  ini : ∃ fI fd, PySem.W.findIn K (.ref C) "__init__" = some (some (.ref fI)) ∧ PySem.W.typeIn K (.ref fI) = some (.type "function") ∧ Fun K "__init__" qual st fI fd
/-- the base of such errors -/
structure NetT (K : PySem.W.Frag) (mg : Str → Option Value) (x : Str) : Prop where
  ex : ∃ N, PySem.W.readsIn K N (.type "type") = true ∧ PySem.W.specialIn K (.ref N) "__getattribute__" = some (some (.builtin "type.__getattribute__")) ∧ PySem.W.findCls K (.ref N) (.type "type") "__init__" = some (.val (.builtin "ValueError.__init__")) ∧ mg x = some (.ref N)
/-- a def of data as it stands -/
structure Def (P : Program) (w : World) (K : PySem.W.Frag) (mg : Str → Option Value) (base : Heap) (cl : Nat → Addr) (x : Str) (k n : Nat) (Φ : List D → FR) (dds : List D) : Prop where
  ex : ∃ (f : Addr) (fd : FuncData) (ps : List Str) (ds : List Value) (dvs : List V), FnG P w K mg base k f fd ps (spF ⟨P, w, K, cl⟩ n Φ) ∧ mg x = some (.ref f) ∧ PySem.W.keepIn K (.ref f) = true ∧ Binds K fd ps ds ∧ Vals dvs ds ∧ ∀ F, RepL ⟨P, w, K, cl⟩ F dvs dds
  len : ∀ ds, Φ ds ≠ .bad → ds.length = n
structure Fits (X : Cx) (P : Program) (w : World) (K : PySem.W.Frag) (mg : Str → Option Value) (base : Heap) (A : Around) : Prop where
  p : X.prog = P
  w : X.w = w
  k : X.K = K
  m : X.mg = mg
  b : X.base = base
  a : X.A = A
theorem Def.cal {X : Cx} {A : Around} {x : Str} {k k' n : Nat} {Φ : List D → FR} {dds : List D} (h : Def P w K mg base cl x k n Φ dds) (hr : Room k' A) (hk : k ≤ k' := by decide) (hX : Fits X P w K mg base A := by exact ⟨rfl, rfl, rfl, rfl, rfl, rfl⟩) : Cal ⟨P, w, K, cl⟩ X x n Φ dds := by
  obtain ⟨e1, e2, e3, e4, e5, e6⟩ := hX
  subst e1 e2 e3 e4 e5 e6
  obtain ⟨f, fd, ps, ds, dvs, h1, h2, h3, h4, h5, h6⟩ := h.ex
  exact ⟨⟨k, f, fd, ps, ds, dvs, h1, hr.mono hk, h2, h3, h4, h5, h6⟩, fun ds hb => by rw [← List.length_append]; exact h.len _ hb⟩
structure DefT (P : Program) (w : World) (K : PySem.W.Frag) (mg : Str → Option Value) (base : Heap) (cl : Nat → Addr) (x : Str) (k n : Nat) (s : Sh) (Φ : D → List D → FT) : Prop where
  ex : ∃ (f : Addr) (fd : FuncData) (ps : List Str), FnG P w K mg base k f fd ps (spT ⟨P, w, K, cl⟩ n s s Φ) ∧ mg x = some (.ref f) ∧ PySem.W.keepIn K (.ref f) = true ∧ Binds K fd ps []
  len : ∀ d ds, Φ d ds ≠ .bad → ds.length + 1 = n
theorem DefT.cal {X : Cx} {A : Around} {x : Str} {k k' n : Nat} {s : Sh} {Φ : D → List D → FT} (h : DefT P w K mg base cl x k n s Φ) (hr : Room k' A) (hk : k ≤ k' := by decide) (hX : Fits X P w K mg base A := by exact ⟨rfl, rfl, rfl, rfl, rfl, rfl⟩) : CalT ⟨P, w, K, cl⟩ X x n s s Φ := by
  obtain ⟨e1, e2, e3, e4, e5, e6⟩ := hX
  subst e1 e2 e3 e4 e5 e6
  obtain ⟨f, fd, ps, h1, h2, h3, h4⟩ := h.ex
  exact ⟨⟨k, f, fd, ps, h1, hr.mono hk, h2, h3, h4⟩, h.len⟩
/-- a class that is made -/
structure DefC (P : Program) (w : World) (K : PySem.W.Frag) (mg : Str → Option Value) (base : Heap) (cl : Nat → Addr) (x : Str) (c k n : Nat) (shs : List (Str × Sh)) (Φ : D → List D → FT) : Prop where
  ex : ∃ (f : Addr) (fd : FuncData) (ps : List Str), FnG P w K mg base k f fd ps (spT ⟨P, w, K, cl⟩ n (.ob shs) (.ob []) Φ) ∧ mg x = some (.ref (cl c)) ∧ Mk K (cl c) f ∧ Binds K fd ps []
  len : ∀ d ds, Φ d ds ≠ .bad → ds.length + 1 = n
theorem DefC.cal {X : Cx} {A : Around} {x : Str} {c k k' n : Nat} {shs : List (Str × Sh)} {Φ : D → List D → FT} (h : DefC P w K mg base cl x c k n shs Φ) (hr : Room k' A) (hk : k + 1 ≤ k' := by decide) (hX : Fits X P w K mg base A := by exact ⟨rfl, rfl, rfl, rfl, rfl, rfl⟩) : CalC ⟨P, w, K, cl⟩ X x c n (.ob shs) (.ob []) Φ := by
  obtain ⟨e1, e2, e3, e4, e5, e6⟩ := hX
  subst e1 e2 e3 e4 e5 e6
  obtain ⟨f, fd, ps, h1, h2, h3, h4⟩ := h.ex
  exact ⟨⟨k, f, fd, ps, h1, hr.mono hk, h2, h3, h4⟩, h.len, shs, rfl⟩
/-- what binds: every parameter is written -/
abbrev BindQ (x q : Str) (st : Stmt) (ps : List Str) : Prop := ∀ (kV doc pm : Value) (an : Option Addr) (cdv ct : Value) (us : List Value), us.length = ps.length → bindArgs (PySem.W.fnOf x q (defArgs st) (defBody st) (defScope st) .none kV doc pm an cdv ct) ⟨us, []⟩ = pure (ps.zip us)
abbrev HasF (K : PySem.W.Frag) (mg : Str → Option Value) (x : Str) (st : Stmt) : Prop := ∃ f fd, mg x = some (.ref f) ∧ Fun K x x st f fd
abbrev HasM (K : PySem.W.Frag) (C : Addr) (m q : Str) (st : Stmt) : Prop := ∃ f fd, Meth K C m f ∧ Fun K m q st f fd
abbrev HasC (K : PySem.W.Frag) (mg : Str → Option Value) (C : Addr) (x q : Str) (st : Stmt) : Prop := ∃ f fd, mg x = some (.ref C) ∧ Mk K C f ∧ Fun K "__init__" q st f fd
/-- a body's walk -/
abbrev Walk (P : Program) (w : World) (K : PySem.W.Frag) (mg : Str → Option Value) (base : Heap) (cl : Nat → Addr) (N : List Str) (q : Str) (st : Stmt) (k : Nat) (body : SM) : Prop := ∀ (f : Addr) (cdv : Value) (A : Around) (outer : List PySem.Env) (s : Shared) (H : Hp) (E : XK), Room k (A.deeper (envOfC q (defScope st) s.heap.objs.size f cdv)) → A.guards = some [] →
      PSs (cxOf (L2.CX P w) P w K mg base N q (defScope st) f cdv A outer s H E) (defBody st) (sG ⟨⟨P, w, K, cl⟩, noXA, []⟩ body (fun cls d _ H' => E cls d H'))
abbrev WalkT (P : Program) (w : World) (K : PySem.W.Frag) (mg : Str → Option Value) (base : Heap) (cl : Nat → Addr) (N : List Str) (q : Str) (st : Stmt) (k : Nat) (body : SM) : Prop := ∀ (p f : Addr) (cdv : Value) (A : Around) (outer : List PySem.Env) (s : Shared) (H : Hp) (E : XK), Room k (A.deeper (envOfC q (defScope st) s.heap.objs.size f cdv)) → A.guards = some [] →
      PSs (cxOf (L2.CX P w) P w K mg base N q (defScope st) f cdv A outer s H E) (defBody st) (sG ⟨⟨P, w, K, cl⟩, noXA, [(0, p)]⟩ body (fun cls d _ H' => E cls d H'))
theorem def_of {x : Str} {st : Stmt} {N ps : List Str} {m k : Nat} {body : SM} (h : HasF K mg x st) (S : FnScope N ps (defScope st)) (hps : ps.length = m) (hbi : BindQ x x st ps) (hbody : Walk P w K mg base cl N x st k body) :
    Def P w K mg base cl x (k + 1) m (fnSem m N.length body) [] := by
  obtain ⟨f, fd, hm, F⟩ := h
  refine ⟨⟨f, fd, ps, [], [], ?_, hm, F.kp, F.binds hbi, .nil, fun _ => .nil⟩, fun ds hb => fnSem_len hb⟩
  obtain ⟨oc, od, kV, doc, pm, an, cdv, ct, osl, rfl, lk, hcd⟩ := F.ex
  exact fnG_of lk hcd S (fun vs H Q E hs => hs.1.trans hps.symm) fun A outer s H vs Q E hr hg hs => ⟨_, hbody f cdv A outer s H E hr hg, body_ok hs⟩
theorem defT_of {x : Str} {st : Stmt} {N ps : List Str} {m k : Nat} {sh : Sh} {body : SM} (h : HasF K mg x st) (S : FnScope N ps (defScope st)) (hps : ps.length = m) (hbi : BindQ x x st ps) (hsh : sh ≠ .fz) (hN : m ≤ N.length) (hbody : WalkT P w K mg base cl N x st k body) :
    DefT P w K mg base cl x (k + 1) m sh (fnSemT m N.length sh body) := by
  obtain ⟨f, fd, hm, F⟩ := h
  refine ⟨⟨f, fd, ps, ?_, hm, F.kp, F.binds hbi⟩, fun d ds hb => fnSemT_len hb⟩
  obtain ⟨oc, od, kV, doc, pm, an, cdv, ct, osl, rfl, lk, hcd⟩ := F.ex
  refine fnG_of lk hcd S (fun vs H Q E hs => hs.1.trans hps.symm) fun A outer s H vs Q E hr hg hs => ?_
  obtain ⟨p, q⟩ := body_okT (N := N) hsh hN hs
  exact ⟨_, hbody p f cdv A outer s H E hr hg, q⟩
theorem defC_of {c : Nat} {x q : Str} {st : Stmt} {N ps : List Str} {m k : Nat} {shs : List (Str × Sh)} {body : SM} (h : HasC K mg (cl c) x q st) (S : FnScope N ps (defScope st)) (hps : ps.length = m) (hbi : BindQ "__init__" q st ps) (hN : m ≤ N.length) (hbody : WalkT P w K mg base cl N q st k body) :
    DefC P w K mg base cl x c (k + 1) m shs (fnSemT m N.length (.ob shs) body) := by
  obtain ⟨f, fd, hm, hmk, F⟩ := h
  refine ⟨⟨f, fd, ps, ?_, hm, hmk, F.binds hbi⟩, fun d ds hb => fnSemT_len hb⟩
  obtain ⟨oc, od, kV, doc, pm, an, cdv, ct, osl, rfl, lk, hcd⟩ := F.ex
  refine fnG_of lk hcd S (fun vs H Q E hs => hs.1.trans hps.symm) fun A outer s H vs Q E hr hg hs => ?_
  obtain ⟨p, q⟩ := body_okT (N := N) (fun z => by cases z) hN (spT_weak hs)
  exact ⟨_, hbody p f cdv A outer s H E hr hg, q⟩
/-- .. with defaults: n written ones -/
abbrev HasD (K : PySem.W.Frag) (mg : Str → Option Value) (x : Str) (st : Stmt) (dvs : List V) : Prop := ∃ f fd, mg x = some (.ref f) ∧ FunD K x x (defArgs st) (defBody st) (defScope st) dvs [] f fd
abbrev BindD (x : Str) (st : Stmt) (ps : List Str) (n j l : Nat) : Prop := ∀ (T : Addr) (kV doc pm : Value) (an : Option Addr) (cdv ct : Value) (us its : List Value), us.length = n → its.length = l →
      ∃ k, bindArgs (PySem.W.fnOf x x (defArgs st) (defBody st) (defScope st) (.ref T) kV doc pm an cdv ct) ⟨us, []⟩ = seqItems? (.ref T) >>= k ∧ k (some its.toArray) = pure (ps.zip (us ++ its.drop j))
theorem defD_of {x : Str} {st : Stmt} {N ps : List Str} {m k n j : Nat} {body : SM} {dvs : List V} {dds : List D} (h : HasD K mg x st dvs) (S : FnScope N ps (defScope st)) (hps : ps.length = m) (hn : n + (dvs.length - j) = ps.length) (hd : dvs ≠ []) (hbi : BindD x st ps n j dvs.length) (hr : ∀ F, RepL ⟨P, w, K, cl⟩ F (dvs.drop j) dds)
    (hbody : Walk P w K mg base cl N x st k body) : Def P w K mg base cl x (k + 1) m (fnSem m N.length body) dds := by
  obtain ⟨f, fd, hm, F⟩ := h
  obtain ⟨ds, v1, b1⟩ := F.binds1 n j hd hn hbi
  refine ⟨⟨f, fd, ps, ds, dvs.drop j, ?_, hm, F.kp, b1, v1, hr⟩, fun ds hb => fnSem_len hb⟩
  obtain ⟨oc, od, dV, kV, doc, pm, an, cdv, ct, osl, rfl, lk, hcd, _, _⟩ := F.ex
  exact fnG_of lk hcd S (fun vs H Q E hs => hs.1.trans hps.symm) fun A outer s H vs Q E hr hg hs => ⟨_, hbody f cdv A outer s H E hr hg, body_ok hs⟩
end
/-! ### numbers: x *= e -/
def imulD : D → D → Option D := i2 fun i j => if i.natAbs < 18446744073709551616 ∨ j.natAbs < 18446744073709551616 then some (.int (i * j)) else none
theorem od_imul {G : Gm} : OpD G (rI CMul fun i j => .int (i * j)) imulD := od_iC (C' := fun i j => i.natAbs < 18446744073709551616 ∨ j.natAbs < 18446744073709551616) (fun i j h => by
  rcases h with h | h
  · exact .inl ⟨by omega, by omega⟩
  · exact .inr ⟨by omega, by omega⟩) fun i j _ => .int _
def iaddD : D → D → Option D := i2 fun i j => some (.int (i + j))
/-- the script at a, as data -/
def scrOf (ns : List Int) : D := .scr (ns.map D.int)
theorem rep_ints {G : Gm} {F : Hp} : ∀ ns : List Int, RepL G F (ns.map V.int) (ns.map D.int)
  | [] => .nil
  | n :: ns => .cons (.int n) (rep_ints ns)
abbrev TrueEnd (s1 : Shared) : Result → Shared → Prop := fun r s' => r = .ok (.ret (.bool true)) ∧ OldK s1.heap s'.heap ∧ s'.os = s1.os ∧ AllBare s'.gens
section
variable {P : Program} {w : World} {K : PySem.W.Frag} {mg mb : Str → Option Value} {k : Nat} {fa a : Addr} {x : Str} {cl : Nat → Addr} {Φ : List D → FR} {s1 : Shared} {us : List Value} {ns : List Int}
/-- over a heap that tracks the script alone, or nothing -/
theorem law_core (KX : K.In s1.heap) (hns : s1.heap.Ns mainGlobals mg) (hb : s1.heap.Ns builtinsNs mb) (hbb : ∀ x : Str, x ≠ "__name__" → mb x = bootBuiltins x) (hlim : s1.heap.NoLimit) (hg : s1.gens = #[])
    (ha : s1.heap.get? a = some { cls := .type "list", data := .seq us.toArray }) (hr : Room k callerA) (hx : mg x = some (.ref fa)) (F : ∀ base : Heap, Def P w K mg base cl x k 1 Φ [])
    (hΦ : Φ [scrOf ns] = .ok (.val (.bl true))) {H : Hp} (hO : Only H) (hS : SqL K H a (ns.map V.int)) (hok : HOk P w H s1.heap) (hA : ∀ b, H b ≠ none → b = a) (hK : H a ≠ none → K.lookup a = none) :
    codeAny (model P w) callerA (.call (.ref fa) ⟨[.ref a], []⟩) (TrueEnd s1) s1 := by
  have free : ∀ {b : Addr} {o : Obj} {es : Array DictEntry} {ep : Nat}, s1.heap.get? b = some o → o.data = .dict es ep → H b = none := by
    intro b o es ep e d
    rcases Option.eq_none_or_eq_some (H b) with q | ⟨u, q⟩
    · exact q
    · have eb : b = a := hA b (by rw [q]; simp)
      rw [eb, ha] at e
      cases e
      exact nomatch (show Data.seq us.toArray _ = Data.dict es ep from d)
  have nsK : ∀ {b : Addr} {m : Str → Option Value}, s1.heap.Ns b m → (hidT s1.heap H).Ns b m := by
    rintro b m ⟨o, es, ep, e, d, r⟩
    exact ⟨o, es, ep, hidT_get e (free e d), d, r⟩
  have kIn : K.In (hidT s1.heap H) := by
    intro b o e
    refine hidT_get (KX b o e) ?_
    rcases Option.eq_none_or_eq_some (H b) with q | ⟨u, q⟩
    · exact q
    · have hq : H b ≠ none := by rw [q]; simp
      have eb : b = a := hA b hq
      subst eb
      rw [hK hq] at e
      cases e
  have md : Mod K mg (hidT s1.heap H) := ⟨kIn, nsK hns, ⟨mb, nsK hb, hbb⟩, by
    obtain ⟨mc, g1, g2⟩ := hlim
    exact ⟨mc, nsK g1, g2⟩⟩
  have e0 : Env0 P w K mg (hidT s1.heap H) callerA [] s1 H :=
    ⟨rfl, md, fun _ _ e => of_hidT e, Nat.le_of_eq (hidT_size _ _), trivial, fun b z => absurd (show b ∈ ([] : List Addr) from z) (by simp), hok, .of_eq hg⟩
  have say : spF ⟨P, w, K, cl⟩ 1 Φ [.ref a] H (fun v _ => v = .bl true) (fun _ _ _ => False) := by
    refine ⟨rfl, H, [scrOf ns], Ex.refl H, .cons (.scr hS (rep_ints ns)) .nil, ?_⟩
    rw [hΦ]
    exact fun v F' H' _ r => rep_bl r
  obtain ⟨f, fd, ps, ds, dvs, fn, hf, _, hbind, hv, hd⟩ := (F (hidT s1.heap H)).ex
  rw [hx] at hf
  cases hf
  cases (show dvs = [] by have z := hd H; cases z; rfl)
  cases hv
  have hps : 1 = ps.length := fn.len _ _ _ _ say
  refine codeAny_mono (fn.run callerA [] s1 H ⟨[.ref a], []⟩ [.ref a] [.ref a] _ _ hr rfl e0 (hbind s1 [.ref a] KX hps) (.cons rfl .nil) say) ?_
  intro r s' h
  cases r with
  | error e =>
    obtain ⟨_, _, _, _, _, _, _, _, _, _, _, _, z⟩ := h
    exact z.elim
  | ok fl =>
    cases fl with
    | next => exact h.elim
    | brk => exact h.elim
    | cont => exact h.elim
    | ret u =>
      obtain ⟨v, H', os, bare, un, hok', r', q⟩ := h
      cases (show v = .bl true from q)
      cases (show u = Value.bool true from r')
      refine ⟨rfl, OldK.of_keep ?_, os, bare⟩
      intro b o e
      rcases hO b with z | ⟨ob, xs, z⟩
      · exact un.keep b o e z (fun y => absurd (show b ∈ ([] : List Addr) from y) (by simp)) (by simp)
      · obtain ⟨e1, _⟩ := hok b _ z
        obtain ⟨e2, _⟩ := hok' b _ (un.frzs b ob _ z)
        rw [e] at e1
        cases e1
        exact e2
theorem law_at (KX : K.In s1.heap) (hns : s1.heap.Ns mainGlobals mg) (hb : s1.heap.Ns builtinsNs mb) (hbb : ∀ x : Str, x ≠ "__name__" → mb x = bootBuiltins x) (hlim : s1.heap.NoLimit) (hg : s1.gens = #[])
    (ha : s1.heap.get? a = some { cls := .type "list", data := .seq us.toArray }) (hi : IntsAre us ns) (hl : ns.length ≤ sizeLine) (hr : Room k callerA) (hx : mg x = some (.ref fa)) (F : ∀ base : Heap, Def P w K mg base cl x k 1 Φ [])
    (hΦ : Φ [scrOf ns] = .ok (.val (.bl true))) : codeAny (model P w) callerA (.call (.ref fa) ⟨[.ref a], []⟩) (TrueEnd s1) s1 := by
  have rv := vals_ints hi
  have hlen := hi.length
  let ob : Obj := { cls := .type "list", data := .seq us.toArray }
  rcases Option.eq_none_or_eq_some (K.lookup a) with hk | ⟨o, hk⟩
  · let H : Hp := fun b => if b = a then some (.frz ob (.lst (ns.map V.int))) else none
    have h1 : H a = some (.frz ob (.lst (ns.map V.int))) := if_pos rfl
    have h2 : ∀ {b}, b ≠ a → H b = none := fun hb => if_neg hb
    refine law_core (H := H) KX hns hb hbb hlim hg ha hr hx F hΦ ?_ (.inl (.inr ⟨ob, h1⟩)) ?_ ?_ fun _ => hk
    · intro b
      by_cases e : b = a
      · subst e
        exact .inr ⟨_, _, h1⟩
      · exact .inl (h2 e)
    · intro b u z
      by_cases e : b = a
      · subst e
        rw [h1] at z
        cases z
        exact ⟨ha, by rw [List.length_map]; exact hl, us, _, rv, ha⟩
      · rw [h2 e] at z
        cases z
    · intro b z
      by_cases e : b = a
      · exact e
      · exact absurd (h2 e) z
  · have e := KX a o hk
    rw [ha] at e
    cases e
    refine law_core (H := fun _ => none) KX hns hb hbb hlim hg ha hr hx F hΦ (fun _ => .inl rfl) ?_ (fun b u z => nomatch z) (fun b z => absurd rfl z) fun z => absurd rfl z
    exact .inr ⟨_, us.toArray, _, hk, rfl, rfl, rfl, by rw [List.size_toArray, hlen]; exact hl, by simpa using rv⟩
end
/-- what «except S» says of an error of the class at C -/
theorem exm_by {K : PySem.W.Frag} {C S : Addr} {b : Bool} (h1 : PySem.W.subIn K (.ref C) (.type "BaseException") = some true) (h1' : PySem.W.subIn K (.ref S) (.type "BaseException") = some true) (h2 : PySem.W.isClsIn K S = true) (h3 : PySem.W.typeIn K (.ref S) = some (.type "type")) (h4 : PySem.W.subIn K (.ref C) (.ref S) = some b) :
    PySem.W.exmOne K (.ref C) (.ref S) = some b := by
  have e1 : (PySem.W.subIn K (.ref S) (.type "BaseException") == some true) = true := by rw [h1'] <;> rfl
  have e2 : ((PySem.W.clsIn K S).isSome && PySem.W.typeIn K (.ref S) == some (.type "type")) = true := by
    rw [show (PySem.W.clsIn K S).isSome = true from h2, h3] <;> rfl
  refine Eq.trans (if_pos e1) ?_
  refine Eq.trans (if_pos e2) ?_
  exact h4
end DL
end

section
set_option Elab.async false
set_option linter.all false
set_option autoImplicit false
set_option maxRecDepth 100000
set_option maxHeartbeats 4000000
/-! EF: the order of keys; sorted. -/
namespace DL
open PySem L2 PyProof.Rows PySem.Spec

def rnk : D → Nat
  | .int _ => 0
  | .str _ => 1
  | .tup _ => 2
  | _ => 3
mutual
def ltB : D → D → Bool
  | .int i, .int j => decide (i < j)
  | .str x, .str y => decide (x.cps.toList < y.cps.toList)
  | .tup xs, .tup ys => ltBL xs ys
  | x, y => decide (rnk x < rnk y)
def ltBL : List D → List D → Bool
  | [], [] => false
  | [], _ :: _ => true
  | _ :: _, [] => false
  | x :: xs, y :: ys => if x = y then ltBL xs ys else ltB x y
end
/-! of one kind down to where they differ -/
mutual
def cmpB : D → D → Bool
  | .int _, .int _ => true
  | .str _, .str _ => true
  | .tup xs, .tup ys => cmpBL xs ys
  | _, _ => false
def cmpBL : List D → List D → Bool
  | x :: xs, y :: ys => cmpB x y && cmpBL xs ys
  | _, _ => true
end
/-! ints, texts, tuples of such -/
mutual
def isK : D → Bool
  | .int _ => true
  | .str _ => true
  | .tup xs => isKL xs
  | _ => false
def isKL : List D → Bool
  | [] => true
  | x :: xs => isK x && isKL xs
end
mutual
theorem ltB_asym : ∀ (x y : D), ltB x y = true → ltB y x = false
  | .int i, y, h => by
    cases y with
    | int j => simp only [ltB, decide_eq_true_eq, decide_eq_false_iff_not] at h ⊢; omega
    | _ => simp [ltB, rnk] at h ⊢
  | .str i, y, h => by
    cases y with
    | str j => simp only [ltB, decide_eq_true_eq, decide_eq_false_iff_not] at h ⊢; exact fun z => List.lt_irrefl _ (List.lt_trans h z)
    | _ => simp [ltB, rnk] at h ⊢
  | .tup xs, y, h => by
    cases y with
    | tup ys => rw [ltB] at h ⊢; exact ltBL_asym xs ys h
    | _ => simp [ltB, rnk] at h ⊢
  | .non, y, h => by cases y <;> simp [ltB, rnk] at h ⊢
  | .bl _, y, h => by cases y <;> simp [ltB, rnk] at h ⊢
  | .lst _, y, h => by cases y <;> simp [ltB, rnk] at h ⊢
  | .dct _, y, h => by cases y <;> simp [ltB, rnk] at h ⊢
  | .set _, y, h => by cases y <;> simp [ltB, rnk] at h ⊢
  | .obj _ _, y, h => by cases y <;> simp [ltB, rnk] at h ⊢
  | .scr _, y, h => by cases y <;> simp [ltB, rnk] at h ⊢
theorem ltBL_asym : ∀ (x y : List D), ltBL x y = true → ltBL y x = false
  | [], [], h => by simp [ltBL] at h
  | [], _ :: _, h => by simp [ltBL]
  | _ :: _, [], h => by simp [ltBL] at h
  | x :: xs, y :: ys, h => by
    rw [ltBL] at h ⊢
    by_cases e : x = y
    · subst e
      rw [if_pos rfl] at h ⊢
      exact ltBL_asym xs ys h
    · rw [if_neg e] at h
      rw [if_neg fun z => e z.symm]
      exact ltB_asym x y h
end
mutual
theorem ltB_trans : ∀ (x y z : D), ltB x y = true → ltB y z = true → ltB x z = true
  | .int i, y, z, h1, h2 => by
    cases y with
    | int j =>
      cases z with
      | int k => simp only [ltB, decide_eq_true_eq] at h1 h2 ⊢; omega
      | _ => simp [ltB, rnk] at h1 h2 ⊢
    | _ => cases z <;> simp [ltB, rnk] at h1 h2 ⊢
  | .str i, y, z, h1, h2 => by
    cases y with
    | str j =>
      cases z with
      | str k => simp only [ltB, decide_eq_true_eq] at h1 h2 ⊢; exact List.lt_trans h1 h2
      | _ => simp [ltB, rnk] at h1 h2 ⊢
    | _ => cases z <;> simp [ltB, rnk] at h1 h2 ⊢
  | .tup xs, y, z, h1, h2 => by
    cases y with
    | tup ys =>
      cases z with
      | tup zs => rw [ltB] at h1 h2 ⊢; exact ltBL_trans xs ys zs h1 h2
      | _ => simp [ltB, rnk] at h1 h2 ⊢
    | _ => cases z <;> simp [ltB, rnk] at h1 h2 ⊢
  | .non, y, z, h1, h2 => by cases y <;> simp [ltB, rnk] at h1
  | .bl _, y, z, h1, h2 => by cases y <;> simp [ltB, rnk] at h1
  | .lst _, y, z, h1, h2 => by cases y <;> simp [ltB, rnk] at h1
  | .dct _, y, z, h1, h2 => by cases y <;> simp [ltB, rnk] at h1
  | .set _, y, z, h1, h2 => by cases y <;> simp [ltB, rnk] at h1
  | .obj _ _, y, z, h1, h2 => by cases y <;> simp [ltB, rnk] at h1
  | .scr _, y, z, h1, h2 => by cases y <;> simp [ltB, rnk] at h1
theorem ltBL_trans : ∀ (x y z : List D), ltBL x y = true → ltBL y z = true → ltBL x z = true
  | [], _, [], h1, h2 => by
    rename_i y
    cases y <;> simp [ltBL] at h1 h2
  | [], _, _ :: _, h1, h2 => by simp [ltBL]
  | _ :: _, [], _, h1, h2 => by simp [ltBL] at h1
  | _ :: _, _ :: _, [], h1, h2 => by simp [ltBL] at h2
  | x :: xs, y :: ys, z :: zs, h1, h2 => by
    rw [ltBL] at h1 h2 ⊢
    by_cases e1 : x = y
    · subst e1
      rw [if_pos rfl] at h1
      by_cases e2 : x = z
      · subst e2
        rw [if_pos rfl] at h2 ⊢
        exact ltBL_trans xs ys zs h1 h2
      · rw [if_neg e2] at h2 ⊢
        exact h2
    · rw [if_neg e1] at h1
      by_cases e2 : y = z
      · subst e2
        rw [if_neg e1]
        exact h1
      · rw [if_neg e2] at h2
        have h3 := ltB_trans x y z h1 h2
        rw [if_neg]
        · exact h3
        · intro e
          subst e
          have := ltB_asym x y h1
          rw [h2] at this
          cases this
end
mutual
theorem ltB_tri : ∀ (x y : D), isK x = true → isK y = true → ltB x y = false → ltB y x = false → x = y
  | .int i, y, kx, ky, h1, h2 => by
    cases y with
    | int j =>
      simp only [ltB, decide_eq_false_iff_not] at h1 h2
      congr 1
      omega
    | _ => simp [ltB, rnk, isK] at h1 h2 ky
  | .str i, y, kx, ky, h1, h2 => by
    cases y with
    | str j =>
      simp only [ltB, decide_eq_false_iff_not] at h1 h2
      congr 1
      obtain ⟨a⟩ := i
      obtain ⟨b⟩ := j
      congr 1
      apply Array.toList_inj.mp
      exact List.le_antisymm (List.not_lt.mp h2) (List.not_lt.mp h1)
    | _ => simp [ltB, rnk, isK] at h1 h2 ky
  | .tup xs, y, kx, ky, h1, h2 => by
    cases y with
    | tup ys =>
      rw [ltB] at h1 h2
      rw [isK] at kx ky
      rw [ltBL_tri xs ys kx ky h1 h2]
    | _ => simp [ltB, rnk, isK] at h1 h2 ky
  | .non, y, kx, _, _, _ => by simp [isK] at kx
  | .bl _, y, kx, _, _, _ => by simp [isK] at kx
  | .lst _, y, kx, _, _, _ => by simp [isK] at kx
  | .dct _, y, kx, _, _, _ => by simp [isK] at kx
  | .set _, y, kx, _, _, _ => by simp [isK] at kx
  | .obj _ _, y, kx, _, _, _ => by simp [isK] at kx
  | .scr _, y, kx, _, _, _ => by simp [isK] at kx
theorem ltBL_tri : ∀ (x y : List D), isKL x = true → isKL y = true → ltBL x y = false → ltBL y x = false → x = y
  | [], [], _, _, _, _ => rfl
  | [], _ :: _, _, _, h1, h2 => by simp [ltBL] at h1
  | _ :: _, [], _, _, h1, h2 => by simp [ltBL] at h2
  | x :: xs, y :: ys, kx, ky, h1, h2 => by
    rw [ltBL] at h1 h2
    rw [isKL, Bool.and_eq_true] at kx ky
    by_cases e : x = y
    · subst e
      rw [if_pos rfl] at h1 h2
      rw [ltBL_tri xs ys kx.2 ky.2 h1 h2]
    · rw [if_neg e] at h1
      rw [if_neg fun z => e z.symm] at h2
      exact absurd (ltB_tri x y kx.1 ky.1 h1 h2) e
end
mutual
theorem KeyAt.isK {h : Heap} : ∀ {n : Nat} {d : D} {v : Value}, KeyAt h n d v → isK d = true
  | _, _, _, .int _ _ _ => rfl
  | _, _, _, .str _ _ _ => rfl
  | _, _, _, .tup _ _ _ k => by rw [DL.isK]; exact KeyAtL.isK k
theorem KeyAtL.isK {h : Heap} : ∀ {n : Nat} {d : List D} {v : List Value}, KeyAtL h n d v → isKL d = true
  | _, _, _, .nil _ => rfl
  | _, _, _, .cons a b => by rw [isKL, KeyAt.isK a, KeyAtL.isK b]; rfl
end
end DL
end

section
set_option Elab.async false
set_option linter.all false
set_option autoImplicit false
set_option maxRecDepth 100000
set_option maxHeartbeats 4000000
/-! EG: sorted. -/
namespace DL
open PySem L2 PyProof.Rows PySem.Spec
mutual
theorem KeyAt.keepT {h h' : Heap} (k : ∀ a o, h.get? a = some o → o.cls = .type "tuple" → h'.get? a = some o) : ∀ {n : Nat} {x : D} {v : Value}, KeyAt h n x v → KeyAt h' n x v
  | _, _, _, .int n i t => .int n i t
  | _, _, _, .str n i t => .str n i t
  | _, _, _, .tup h1 h2 h3 h4 => .tup (k _ _ h1 h2) h2 h3 (KeyAtL.keepT k h4)
theorem KeyAtL.keepT {h h' : Heap} (k : ∀ a o, h.get? a = some o → o.cls = .type "tuple" → h'.get? a = some o) : ∀ {n : Nat} {x : List D} {v : List Value}, KeyAtL h n x v → KeyAtL h' n x v
  | _, _, _, .nil n => .nil n
  | _, _, _, .cons h1 h2 => .cons (KeyAt.keepT k h1) (KeyAtL.keepT k h2)
end
def insD (x : D) : List D → List D
  | [] => [x]
  | y :: ys => if ltB y x = true then y :: insD x ys else x :: y :: ys
def sortD (xs : List D) : List D := xs.foldr insD []
def neTup : D → Bool
  | .tup [] => false
  | _ => true
def sortOk (ks : List D) : Bool := ks.all (fun k => keyOk 8 k) && (decide (ks.length < 2) || (ks.all neTup && ks.all fun x => ks.all fun y => cmpB x y))
/-! ### what an item stands for -/
section
variable {prog : Program} {w : World} {A : Around} {E : Value → Shared → Prop} {s : Shared}
end
end DL
end

section
set_option Elab.async false
set_option linter.all false
set_option autoImplicit false
set_option maxRecDepth 100000
set_option maxHeartbeats 4000000
/-! EH: sorted(list or tuple of keys). -/
namespace DL
open PySem L2 PyProof.Rows PySem.Spec SrtO
section
variable {prog : Program} {w : World} {A : Around} {E : Value → Shared → Prop} {s : Shared}
end
def sortedD : List D → Option D
  | [.lst ks] => if sortOk ks then some (.lst (sortD ks)) else none
  | [.tup ks] => if sortOk ks then some (.lst (sortD ks)) else none
  | _ => none
section
variable {G : Gm} {X : Cx}
end
end DL
end

section
set_option Elab.async false
set_option linter.all false
set_option autoImplicit false
set_option maxRecDepth 100000
set_option maxHeartbeats 4000000
/-! EI: walks over dicts, texts. -/
namespace DL
open PySem L2 PyProof.Rows PySem.Spec

/-- the dict at d is the object od; its keys, its values -/
def DV (P : Program) (w : World) (H : Hp) (d : Addr) (od : Obj) (ks vs : List V) : Prop :=
  (∃ xs : List (D × Addr × V), H d = some (dHO P w d xs od) ∧ ks = xs.map (fun e => V.ref e.2.1) ∧ vs = xs.map (·.2.2)) ∨ ∃ kvs : List (Key × V), H d = some (dKO P w d kvs od) ∧ ks = kvs.map (fun e => kV e.1) ∧ vs = kvs.map (·.2)
section
variable {X : Cx} {pins : List (Addr × Obj)} {σ : L2.St} {H : Hp} {s : Shared} {d : Addr} {od : Obj} {ks vs : List V}
theorem dv_raw (I : Inv X pins σ H s) (h : DV X.prog X.w H d od ks vs) : (d == sysModules) = false ∧ ∃ es ep, od.data = .dict es ep ∧ s.heap.DictRaw d es ep ∧ es.size = ks.length ∧ ∀ i (hi : i < es.size), ∃ k v, ks[i]? = some k ∧ vs[i]? = some v ∧ RelV k es[i].key ∧ RelV v es[i].val := by
  rcases h with ⟨xs, h, rfl, rfl⟩ | ⟨kvs, h, rfl, rfl⟩
  · obtain ⟨⟨h1, h2, ys, h3, es, ep, h4, h5, h6, h7, h8⟩, _⟩ := I.hok d _ h
    have l1 : es.size = ys.length := size_of_entries h7
    have l2 : xs.length = ys.length := Paired.length h3
    refine ⟨h2, es, ep, h6, ⟨od, h4, h5, h6⟩, by rw [List.length_map]; omega, fun i hi => ?_⟩
    have hx : i < xs.length := by omega
    have hy : i < ys.length := by omega
    have e := entry_at h7 i
    rw [Array.getElem?_eq_getElem hi, List.getElem?_eq_getElem hy, Option.map_some] at e
    have e' := Option.some.inj e
    obtain ⟨b, hb, e1, e2, e3⟩ := L2.paired_get h3 (List.getElem?_eq_getElem hx)
    rw [List.getElem?_eq_getElem hy] at hb
    cases hb
    refine ⟨.ref xs[i].2.1, xs[i].2.2, by simp [hx], by simp [hx], ?_, ?_⟩
    · rw [e']
      show Value.ref _ = Value.ref _
      rw [e2]
    · rw [e']
      exact e3
  · obtain ⟨z, hd, ho, vs, rel, dd⟩ := kd_rd I h
    obtain ⟨es, ep, hr, hs, he⟩ := dd.raw
    obtain ⟨o, h1, h2, h3⟩ := id hr
    rw [ho] at h1
    cases h1
    have l2 : kvs.length = vs.length := Paired.length rel
    refine ⟨hd, es, ep, h3, hr, by rw [List.length_map]; omega, fun i hi => ?_⟩
    have hx : i < kvs.length := by omega
    obtain ⟨u, hu, ru⟩ := kv_get rel (k := kvs[i].1) (v := kvs[i].2) (List.getElem?_eq_getElem hx)
    obtain ⟨g1, g2⟩ := he i hi _ _ hu
    refine ⟨kV kvs[i].1, kvs[i].2, by simp [hx], by simp [hx], relV_key (show keyIs _ _ = true from g1), ?_⟩
    rw [g2]
    exact ru
end
def ItDk (P : Program) (w : World) (d : Addr) (od : Obj) (ks vs : List V) : It :=
  ⟨fun i H => DV P w H d od ks vs ∧ i < ks.length, fun i H x H' => H' = H ∧ ks[i]? = some x, fun i H => DV P w H d od ks vs ∧ ks.length ≤ i⟩
section
variable {P : Program} {w : World} {K : PySem.W.Frag} {tg : Expr} {d : Addr} {od : Obj} {es : Array DictEntry} {ep : Nat} {ks vs : List V}
theorem turn_dk (it : Addr) (hod : od.data = .dict es ep) : Turn P w K tg (ItDk P w d od ks vs) [it] it (fun i h => h.IsKeyIter it d i es.size ep) where
  mem := by simp
  obj := fun i h st b hb => by
    have e : b = it := by simpa using hb
    subst e
    obtain ⟨oi, e, c, dd⟩ := st
    exact ⟨oi, e, fun v z => by rw [dd] at z; cases z⟩
  keep := fun i h h' st k => st.at fun oi e => k it (by simp) oi e
  item := by
    intro X hP hw hK hc i pins s σ H E I hf st hg
    subst hP hw hK
    obtain ⟨hd, hi⟩ := hg
    obtain ⟨f0, f1, f2, f3, f4, f5⟩ := hf it (by simp)
    obtain ⟨hs, es', ep', hdt, hr, hsz, ent⟩ := dv_raw I hd
    obtain ⟨rfl, rfl⟩ := dict_ep hod hdt
    have hi' : i < es'.size := by omega
    obtain ⟨k, v, g1, g2, g3, g4⟩ := ent i hi'
    refine wpAny_pyNext_keys_item_raw st hr hi' fun h' st' sb => ?_
    have I1 : Inv X pins σ H { s with heap := h' } := I.turned (t' := s.toks) (fun b ob hb e => (sb.2 b hb).trans e) f0 f1 f3 f4 f5
    obtain ⟨oi, e, c, dd⟩ := id st'
    exact ⟨_, rfl, go_of (s := { s with heap := h' }) e c dd (by decide) ⟨k, H, I1, g3, ⟨rfl, g1⟩, st', fun b hb => (hf b hb).1⟩⟩
  done := by
    intro X hP hw hK hc i pins s σ H E I hf st hg
    subst hP hw hK
    obtain ⟨hd, hi⟩ := hg
    obtain ⟨f0, f1, f2, f3, f4, f5⟩ := hf it (by simp)
    obtain ⟨hs, es', ep', hdt, hr, hsz, ent⟩ := dv_raw I hd
    obtain ⟨rfl, rfl⟩ := dict_ep hod hdt
    exact wpAny_pyNext_keys_end_raw (I.ok.hd hc) st hr (by omega) fun h' eb => ⟨rfl, I.turned (t' := s.toks) (fun b ob hb e => eb b ob hb e) f0 f1 f3 f4 f5⟩
  self := fun A i s Q E st h => wpAny_pyIter_keyiter st h
end
section
variable {X : Cx} {tg e : Expr} {td : TE} {apos cpos : Pos}
end
def pairD (p : D × D) : D := .tup [p.1, p.2]
section
variable {G : Gm} {X : Cx} {F : Hp}
/-- a represented dict: its keys, its values -/
theorem rep_dv (fit : Fit G X) {v : V} {kvs : List (D × D)} (h : Rep G F v (.dct kvs)) : ∃ d od ks vs, v = .ref d ∧ (∀ H, Ex F H → DV X.prog X.w H d od ks vs) ∧ RepL G F ks (kvs.map (·.1)) ∧ RepL G F vs (kvs.map (·.2)) := by
  obtain ⟨a, rfl, ⟨od, ks, h1, h2⟩ | ⟨od, xs, h1, hn, h2⟩⟩ := rep_dct h
  · refine ⟨a, od, _, _, rfl, fun H e => .inr ⟨ks, by rw [← fit.p, ← fit.w]; exact e _ _ h1, rfl, rfl⟩, ?_, ?_⟩
    · clear h h1
      induction kvs generalizing ks with
      | nil => cases h2; exact .nil
      | cons d ds ih =>
        cases h2 with
        | @cons k v vs d ds a b =>
          refine .cons ?_ (ih _ b)
          cases k with
          | inl i => exact .int i
          | inr i => exact .str i
    · clear h h1
      induction kvs generalizing ks with
      | nil => cases h2; exact .nil
      | cons d ds ih =>
        cases h2 with
        | cons a b => exact .cons a (ih _ b)
  · refine ⟨a, od, _, _, rfl, fun H e => .inl ⟨xs, by rw [← fit.p, ← fit.w]; exact e _ _ h1, rfl, rfl⟩, ?_, ?_⟩
    · clear h h1 hn
      induction kvs generalizing xs with
      | nil => cases h2; exact .nil
      | cons d ds ih =>
        cases h2 with
        | cons z a b c => exact .cons a (ih _ c)
    · clear h h1 hn
      induction kvs generalizing xs with
      | nil => cases h2; exact .nil
      | cons d ds ih =>
        cases h2 with
        | cons z a b c => exact .cons b (ih _ c)
variable {d : Addr} {od : Obj} {ks vs : List V} {kvs : List (D × D)}
theorem it_dk (hv : ∀ H, Ex F H → DV X.prog X.w H d od ks vs) (r1 : RepL G F ks (kvs.map (·.1))) : ItRep G F (ItDk X.prog X.w d od ks vs) (kvs.map (·.1)) where
  go := fun i H e hi => ⟨hv H e, by rw [r1.length]; exact hi⟩
  stop := fun i H e hi => ⟨hv H e, by rw [r1.length]; exact hi⟩
  yld := fun i H v H' F1 e1 e2 hi y => by
    obtain ⟨rfl, y⟩ := y
    obtain ⟨d, h1, h2⟩ := r1.getV y
    exact ⟨F1, d, Grow.refl e2, h1, h2.mono e1⟩
theorem it_str (x : Str) : ItRep G F (Its x) (x.cps.toList.map fun c => .str ⟨#[c]⟩) where
  go := fun i H e hi => show i < x.cps.size by simpa using hi
  stop := fun i H e hi => show x.cps.size ≤ i by simpa using hi
  yld := fun i H v H' F1 e1 e2 hi y => by
    obtain ⟨rfl, c, hc, rfl⟩ := y
    refine ⟨F1, _, Grow.refl e2, ?_, .str _⟩
    rw [List.getElem?_map, Array.getElem?_toList, hc]
    rfl
end
def iDv (a : EM D) : EM (List D) := bnd a fun d => ofO (match d with
  | .dct kvs => some (kvs.map (·.2))
  | _ => none)
def iDi (a : EM D) : EM (List D) := bnd a fun d => ofO (match d with
  | .dct kvs => some (kvs.map pairD)
  | _ => none)
def itemsOf : D → Option (List D)
  | .lst xs => some xs
  | .scr xs => some xs
  | .tup xs => some xs
  | .dct kvs => some (kvs.map (·.1))
  | .str x => some (x.cps.toList.map fun c => .str ⟨#[c]⟩)
  | _ => none
/-- the items of whatever is walked -/
def iAll (a : EM D) : EM (List D) := bnd a fun d => ofO (itemsOf d)
section
variable {G : Gx} {X : Cx} {W : WX} {tg a b : Expr} {fa fb : EM D} {pos p tpos apos cpos : Pos} {elts : List Expr} {kk : Nat}
def iAllT (X : Cx) (te : TE) : TI := fun σ H R => te σ H fun v H1 => (∃ a, v = .ref a ∧ (∃ xs, SqL X.K H1 a xs) ∧ R (Itl X.K a) H1) ∨ (∃ a, v = .ref a ∧ (∃ xs, SqT X.K H1 a xs) ∧ R (Itt X.K a) H1) ∨
  (∃ d od ks vs, v = .ref d ∧ DV X.prog X.w H1 d od ks vs ∧ R (ItDk X.prog X.w d od ks vs) H1) ∨ ∃ x, v = .str x ∧ R (Its x) H1
theorem pi_all {te : TE} (he : PE X a te) : PI X tg a (iAllT X te) := by
  refine ⟨fun pins s σ H R I h => ?_⟩
  refine thn (he.run pins s σ H _ I h) fun v s1 ⟨x, H1, I1, r1, q1⟩ => ?_
  rcases q1 with ⟨a, rfl, ⟨xs, hq⟩, q⟩ | ⟨a, rfl, ⟨xs, hq⟩, q⟩ | ⟨d, od, ks, vs, rfl, hd, q⟩ | ⟨x, rfl, q⟩
  · cases r1
    obtain ⟨its, rv, p, hz⟩ := I1.list hq
    exact wpAny_pyIter_list p.isList (pi_one (tk := s1.toks) I1 _ (turn_list a _) ⟨_, Heap.get?_push_size _ rfl, rfl, rfl⟩ q)
  · cases r1
    obtain ⟨its, rv, p, hz⟩ := I1.tuple hq
    exact wpAny_pyIter_tuple (show s1.heap.IsTuple a its.toArray from p) (pi_one (tk := s1.toks) I1 _ (turn_tuple a _) ⟨_, Heap.get?_push_size _ rfl, rfl, rfl⟩ q)
  · cases r1
    obtain ⟨hs, es, ep, hdt, hr, hsz, ent⟩ := dv_raw I1 hd
    exact wpAny_pyIter_dict_raw hs hr (pi_one (tk := s1.toks) I1 _ (turn_dk _ hdt) ⟨_, Heap.get?_push_size _ rfl, rfl, rfl⟩ q)
  · obtain ⟨t, rfl⟩ := r1
    cases ha : x.cps.all (· < 128)
    · exact wpAny_pyIter_wide ha (pi_one (tk := s1.toks) I1 _ (turn_str _ x t "str_iterator" (.inr rfl)) ⟨_, Heap.get?_push_size _ rfl, rfl, rfl⟩ q)
    · exact wpAny_pyIter_ascii ha (pi_one (tk := s1.toks) I1 _ (turn_str _ x t "str_ascii_iterator" (.inl rfl)) ⟨_, Heap.get?_push_size _ rfl, rfl, rfl⟩ q)
theorem di_all (fit : Fit G X) (h : PE X a (eG G fa W)) : PI X tg a (iG G (iAll fa) W) := by
  refine PI.imp (pi_all h) fun σ H R h => ?_
  refine gG_bnd (K1 := kE) up_true h.c fun v d H' h' => ?_
  obtain ⟨F, z, hz, ef, ⟨_, rp⟩, q⟩ := gGC_ofO h'
  cases d with
  | lst xs =>
    cases hz
    obtain ⟨l, vs, rfl, h1, s1⟩ := rep_lst rp
    exact .inl ⟨l, rfl, ⟨vs, sq_of (ef _ _ h1)⟩, q _ F H' (Grow.refl ef) (by rw [← fit.k]; exact it_list (sq_of h1) s1)⟩
  | scr xs =>
    cases hz
    obtain ⟨l, vs, rfl, h1, s1⟩ := rep_scr rp
    exact .inl ⟨l, rfl, ⟨vs, by rw [← fit.k]; exact ex_l ef h1⟩, q _ F H' (Grow.refl ef) (by rw [← fit.k]; exact it_list h1 s1)⟩
  | tup xs =>
    cases hz
    obtain ⟨l, vs, rfl, h1, s1⟩ := rep_tup rp
    exact .inr (.inl ⟨l, rfl, ⟨vs, by rw [← fit.k]; exact ex_t ef h1⟩, q _ F H' (Grow.refl ef) (by rw [← fit.k]; exact it_tup h1 s1)⟩)
  | dct kvs =>
    cases hz
    obtain ⟨d, od, ks, vs, rfl, g1, g2, g3⟩ := rep_dv fit rp
    exact .inr (.inr (.inl ⟨d, od, ks, vs, rfl, g1 _ ef, q _ F H' (Grow.refl ef) (it_dk g1 g2)⟩))
  | str x =>
    cases hz
    have e := rep_str rp
    subst e
    exact .inr (.inr (.inr ⟨x, rfl, q _ F H' (Grow.refl ef) (it_str x)⟩))
  | _ => cases hz
end
end DL
end

section
set_option Elab.async false
set_option linter.all false
set_option autoImplicit false
set_option maxRecDepth 100000
set_option maxHeartbeats 4000000
/-! EJ: dict comprehensions whose keys are numbers, texts, tuples (the proofs follow those of HandS.DictComp and HandS.Comp for lists, two clauses). -/
namespace DL
open PySem L2 PyProof.Rows PySem.Spec
section
variable {X : Cx}
end

/-! ### two clauses -/
section
variable {prog : Program} {w : World} {A : Around} {R : Result → Shared → Prop} {s : Shared} {kx vx t0 i0 t1 i1 : Expr} {ifs0 ifs1 : List Expr} {scope : Scope} {pos : Pos} {it : Value} {D : Addr} {env : Env}
end

section
variable {X : Cx}
end
end DL
end

section
set_option Elab.async false
set_option linter.all false
set_option autoImplicit false
set_option maxRecDepth 100000
set_option maxHeartbeats 4000000
/-! EK: dict comprehensions by data. -/
namespace DL
open PySem L2 PyProof.Rows PySem.Spec
def putL (acc : List (D × D)) (k v : D) : Option (List (D × D)) := match putD (.dct acc) k v with
  | some (.dct acc') => some acc'
  | _ => none
def dcLoop (t : TgM) (vs : List Nat) (c : EM Bool) (fk fv : EM D) : List D → DEnv → List (D × D) → Res (List (D × D) × DEnv)
  | [], env, acc => .ok (acc, env)
  | d :: ds, env, acc => match t d env with
    | none => .bad
    | some e1 => match c e1 with
      | .ok (true, e2) => (match fk e2 with
        | .ok (k, e3) => (match fv e3 with
          | .ok (y, e4) => (match putL acc k y with
            | some acc' => dcLoop t vs c fk fv ds (wipeE e4 vs) acc'
            | none => .bad)
          | _ => .bad)
        | _ => .bad)
      | .ok (false, e2) => dcLoop t vs c fk fv ds (wipeE e2 vs) acc
      | _ => .bad
def eDc (fi : EM (List D)) (vs : List Nat) (t : TgM) (c : EM Bool) (fk fv : EM D) : EM D := bnd fi fun ds e1 => match dcLoop t vs c fk fv ds (wipeE e1 vs) [] with
  | .ok (acc, e2) => .ok (.dct acc, restE e1 e2 vs)
  | _ => .bad
section
variable {G : Gx} {X : Cx} {W : WX}
end
def dc2Loop (t : TgM) (vs : List Nat) (c : EM Bool) (fi1 : EM (List D)) (t1 : TgM) (vs1 : List Nat) (c1 : EM Bool) (fk fv : EM D) : List D → DEnv → List (D × D) → Res (List (D × D) × DEnv)
  | [], env, acc => .ok (acc, env)
  | d :: ds, env, acc => match t d env with
    | none => .bad
    | some e1 => match c e1 with
      | .ok (true, e2) => (match fi1 e2 with
        | .ok (ds1, e3) => (match dcLoop t1 vs1 c1 fk fv ds1 (wipeE e3 vs1) acc with
          | .ok (acc', e4) => dc2Loop t vs c fi1 t1 vs1 c1 fk fv ds (wipeE e4 vs) acc'
          | _ => .bad)
        | _ => .bad)
      | .ok (false, e2) => dc2Loop t vs c fi1 t1 vs1 c1 fk fv ds (wipeE e2 vs) acc
      | _ => .bad
def eDc2 (fi : EM (List D)) (vs : List Nat) (t : TgM) (c : EM Bool) (fi1 : EM (List D)) (vs1 : List Nat) (t1 : TgM) (c1 : EM Bool) (fk fv : EM D) : EM D := bnd fi fun ds e1 => match dc2Loop t vs c fi1 t1 vs1 c1 fk fv ds (wipeE e1 vs) [] with
  | .ok (acc, e2) => .ok (.dct acc, restE e1 e2 vs)
  | _ => .bad
section
variable {G : Gx} {X : Cx} {W : WX}
end
section
variable {G : Gx} {X : Cx} {W : WX} {tg iter kx vx tg1 iter1 : Expr} {ifs ifs1 : List Expr} {scope : Scope} {own : List (Str × Nat)} {vs1 : List Nat} {pos spos py : Pos} {fi fi1 : EM (List D)} {t t1 : TgM} {tc tc1 : EM Bool} {fk fv : EM D}
end
end DL
end

section
set_option Elab.async false
set_option linter.all false
set_option autoImplicit false
set_option maxRecDepth 100000
set_option maxHeartbeats 4000000
/-! EL: a slot's things are set aside; things in the fields of an object of one's own. -/
namespace DL
open PySem L2 PyProof.Rows PySem.Spec

/-! ### a slot's things are set aside while something is evaluated -/
def lockB (B H : Hp) (o : Own) (n : Nat) : Hp := fun a => match o a with
  | some (h :: _) => if h = n then H a else B a
  | _ => B a
theorem lockB_at {B H : Hp} {o : Own} {n : Nat} {a : Addr} {m : Lb} (h : o a = some (n :: m)) : lockB B H o n a = H a := by
  unfold lockB
  rw [h]
  simp
theorem lockB_or (B H : Hp) (o : Own) (n : Nat) (a : Addr) : (∃ m, o a = some (n :: m)) ∨ lockB B H o n a = B a := by
  unfold lockB
  split
  · rename_i h t q
    split
    · rename_i e
      subst e
      exact .inl ⟨t, q⟩
    · exact .inr rfl
  · exact .inr rfl
def mixO (o o2 : Own) (n : Nat) : Own := fun a => match o a with
  | some (h :: t) => if h = n then some (h :: t) else dropO o2 n a
  | _ => dropO o2 n a
theorem mixO_at {o o2 : Own} {n : Nat} {a : Addr} {m : Lb} (h : o a = some (n :: m)) : mixO o o2 n a = some (n :: m) := by
  unfold mixO
  rw [h]
  simp
theorem mixO_or (o o2 : Own) (n : Nat) (a : Addr) : (∃ m, o a = some (n :: m)) ∨ mixO o o2 n a = dropO o2 n a := by
  unfold mixO
  split
  · rename_i h t q
    split
    · rename_i e
      subst e
      exact .inl ⟨t, q⟩
    · exact .inr rfl
  · exact .inr rfl
theorem dropO_ne {o : Own} {n k : Nat} {a : Addr} {m : Lb} (h : o a = some (k :: m)) (hk : k ≠ n) : dropO o n a = some (k :: m) := by
  unfold dropO
  rw [h]
  simp [hk]
section
variable {G : Gx} {B F0 F H F2 H2 : Hp} {o o2 : Own} {σ : L2.St} {env env2 : DEnv} {i : Nat} {s : Sh} {d : D}
theorem env_set_ne {env : DEnv} {i j : Nat} {c : Cell} (h : (env.set i none)[j]? = some (some c)) : i ≠ j := fun e => by
  subst e
  rw [List.getElem?_set, if_pos rfl] at h
  split at h <;> cases h
theorem RepS.lock (r : RepS G B F0 F H o σ env) (h : env[i]? = some (some (.own s d))) : RepS G (lockB B H o (i + 1)) F F H (dropO o (i + 1)) σ (env.set i none) := by
  obtain ⟨v, h1, h2⟩ := r.own i s d h
  have r1 := r.forget (some v) i
  rw [set_same h1] at r1
  have r2 := r1.labels (o' := dropO o (i + 1)) (fun a m q => r.ow a m (dropO_some q).1) fun j s' d' q a m z => dropO_ne z (by have := env_set_ne q; omega)
  exact { r2 with
    bh := fun a u q => by
      rcases lockB_or B H o (i + 1) a with ⟨m, e⟩ | e
      · rw [lockB_at e] at q; exact q
      · rw [e] at q; exact r.bh _ _ q
    f0 := Ex.refl F
    fr := fun a u q => .inl ⟨u, q⟩
    ow := fun a m q => by
      obtain ⟨q1, k, t, rfl, hk⟩ := dropO_some q
      obtain ⟨w1, w2, w3⟩ := r.ow a _ q1
      refine ⟨w1, ?_, w3⟩
      rcases lockB_or B H o (i + 1) a with ⟨m, e⟩ | e
      · rw [e] at q1
        injection q1 with q1
        injection q1 with q1
        exact absurd q1.symm hk
      · rw [e]; exact w2 }
theorem RepS.unlock (r : RepS G B F0 F H o σ env) (h : env[i]? = some (some (.own s d))) (r2 : RepS G (lockB B H o (i + 1)) F F2 H2 o2 σ env2) (hn : env2[i]? = some none) :
    RepS G B F0 F2 H2 (mixO o o2 (i + 1)) σ (env2.set i (some (.own s d))) ∧ Mv H H2 o (mixO o o2 (i + 1)) [i + 1] [i + 1] := by
  obtain ⟨v, h1, h2⟩ := r.own i s d h
  have lab : ∀ a m, o a = some ((i + 1) :: m) → ∃ u, H a = some u ∧ H2 a = some u ∧ F2 a = none ∧ o2 a = none ∧ B a = none := fun a m e => by
    obtain ⟨w1, w2, u, w3⟩ := r.ow a _ e
    have q : lockB B H o (i + 1) a = some u := by rw [lockB_at e]; exact w3
    exact ⟨u, w3, r2.bh _ _ q, r2.keptF q w1, r2.keptO q, w2⟩
  have mv : Mv H H2 o (mixO o o2 (i + 1)) [i + 1] [i + 1] := fun a m e => by
    obtain ⟨u, w1, w2, _⟩ := lab a m e
    exact ⟨mixO_at e, by rw [w1, w2]⟩
  have r3 : RepS G B F0 F2 H2 (dropO o2 (i + 1)) σ env2 := by
    have r4 := r2.labels (o' := dropO o2 (i + 1)) (fun a m q => r2.ow a m (dropO_some q).1) fun j s' d' q a m z => dropO_ne z (by
      have : i ≠ j := fun e => by
        subst e
        rw [hn] at q
        cases q
      omega)
    exact { r4 with
      bh := fun a u q => by
        rcases lockB_or B H o (i + 1) a with ⟨m, e⟩ | e
        · obtain ⟨_, _, _, _, _, w⟩ := lab a m e
          rw [w] at q
          cases q
        · exact r2.bh _ _ (by rw [e]; exact q)
      f0 := r.f0.trans r2.f0
      fr := fun a u q => by
        rcases r2.fr a u q with ⟨u', q'⟩ | q'
        · exact r.fr a u' q'
        · rcases lockB_or B H o (i + 1) a with ⟨m, e⟩ | e
          · obtain ⟨u2, w1, _⟩ := lab a m e
            rw [lockB_at e, w1] at q'
            cases q'
          · rw [e] at q'; exact .inr q'
      ow := fun a m q => by
        obtain ⟨w1, w2, w3⟩ := r2.ow a m (dropO_some q).1
        refine ⟨w1, ?_, w3⟩
        rcases lockB_or B H o (i + 1) a with ⟨m', e⟩ | e
        · exact (lab a m' e).choose_spec.2.2.2.2
        · rw [e] at w2; exact w2 }
  have r5 := r3.labels (o' := mixO o o2 (i + 1)) (fun a m q => by
    rcases mixO_or o o2 (i + 1) a with ⟨m', e⟩ | e
    · obtain ⟨u, w1, w2, w3, w4, w5⟩ := lab a m' e
      exact ⟨w3, w5, u, w2⟩
    · rw [e] at q; exact r3.ow a m q) fun j s' d' q a m z => by
      rcases mixO_or o o2 (i + 1) a with ⟨m', e⟩ | e
      · obtain ⟨u, w1, w2, w3, w4, w5⟩ := lab a m' e
        rw [(dropO_some z).1] at w4
        cases w4
      · rw [e]; exact z
  have r6 := r5.putO i (h2.move r2.f0 mv) fun p hp => by
    have z := r.pin i p s d hp h
    rw [h1] at z
    cases z
    rfl
  rw [set_same h1] at r6
  exact ⟨r6, mv⟩
end
/-! ### the thing in a field -/
def fldC (c : Nat) (f : Str) : Option (Option Cell) → Option D
  | some (some (.own (.ob shs) (.obj c' fs))) => if c' = c then (match fsh shs f with
    | .con .fz => fs.lookup f
    | _ => none) else none
  | _ => none
def eOpP (g : D → D → Option D) (fa : EM D) (i c : Nat) (f : Str) : EM D := bnd fa fun k env => ofO ((fldC c f env[i]?).bind fun d => g k d) env
theorem fldC_some {c : Nat} {f : Str} {oc : Option (Option Cell)} {d : D} (h : fldC c f oc = some d) : ∃ shs fs, oc = some (some (.own (.ob shs) (.obj c fs))) ∧ fsh shs f = .con .fz ∧ fs.lookup f = some d := by
  unfold fldC at h
  split at h
  · split at h
    · rename_i e
      subst e
      split at h
      · rename_i hf
        exact ⟨_, _, rfl, hf, h⟩
      · cases h
    · cases h
  · cases h
section
variable {G : Gm}
theorem RepXF.lookP {F H : Hp} {o : Own} {l : Lb} : ∀ {k : Nat} {shs : List (Str × Sh)} {vs : List (Str × V)} {ds : List (Str × D)} {f : Str} {d : D}, RepXF G F H o l k shs vs ds → ds.lookup f = some d → ∃ v, vs.lookup f = some v ∧ RepX G F H o (l ++ [placeF f k ds]) (fsh shs f) v d
  | _, _, _, _, _, _, .nil, e => by simp at e
  | k, _, _, _, f, d, .cons (k := k0) h r, e => by
    rw [List.lookup_cons] at e
    unfold placeF
    cases hk : f == k0 with
    | true =>
      rw [hk] at e
      cases e
      have : f = k0 := eq_of_beq hk
      subst this
      exact ⟨_, by rw [List.lookup_cons, hk], by rw [if_pos rfl]; exact h⟩
    | false =>
      rw [hk] at e
      have hne : ¬ k0 = f := fun z => by
        subst z
        simp at hk
      obtain ⟨v, h1, h2⟩ := RepXF.lookP r e
      exact ⟨v, by rw [List.lookup_cons, hk]; exact h1, by rw [if_neg hne]; exact h2⟩
end
theorem putF_same {f : Str} {v : V} : ∀ {fs : List (Str × V)}, fs.lookup f = some v → putF f v fs = fs
  | [], h => by simp at h
  | (k, x) :: r, h => by
    rw [List.lookup_cons] at h
    show (if k = f then (k, v) :: r else (k, x) :: putF f v r) = _
    by_cases e : k = f
    · subst e
      simp at h
      rw [if_pos rfl, h]
    · have hb : (f == k) = false := by
        cases q : f == k with
        | false => rfl
        | true => exact absurd (eq_of_beq q).symm e
      rw [hb] at h
      rw [if_neg e, putF_same h]
section
variable {G : Gx} {X : Cx} {W : WX} {a b : Expr} {fa fb : EM D} {pos p2 px : Pos} {c i : Nat} {f x : Str}
theorem dt_cmpP {op : CmpOp} {r : R2} {g : D → D → Option D} (ho : OpR X (compareOp op) r) (hf : OpD G r g) (fit : Fit G X) (hc : Cls G.K (G.cl c)) (hn : NoAttr G.K (G.cl c) f) (ha : PE X a (eG G fa W)) (hN : X.N[i]? = some x := by rfl) (hv : Vis X.env.scope x := by first | exact Or.inl rfl | exact Or.inr (Or.inl rfl) | exact Or.inr (Or.inr rfl)) (hd : (x == ("__debug__" : Str)) = false := by decide)
    (hcd : (x == ("__classdict__" : Str)) = false := by decide) (hb : attributeBase (.Name x px) f X.env (eval (.Name x px) X.env) = eval (.Name x px) X.env := by rfl) (hm : behindInMarks op (.Attribute (.Name x px) f p2) = false := by rfl) : PT X (.Compare a [op] [.Attribute (.Name x px) f p2] pos) (tG G (toB (eOpP g fa i c f)) W) := by
  refine PT.imp (pt_cmpR ho ha (pe_fld (pe_var hN hv hd hcd) hb) hm) fun σ H Q h => ?_
  have h := tG_toB h
  refine gG_bnd (K1 := kE) up_true h.c fun v k H1 h1 => ?_
  obtain ⟨B, F0, F, o, env, z, rs, hz, ⟨_, r1⟩, q⟩ := gGC_lateX h1
  rw [Option.bind_eq_some_iff] at hz
  obtain ⟨d, e1, hz⟩ := hz
  obtain ⟨shs, fs, e2, e3, e4⟩ := fldC_some e1
  obtain ⟨v0, g1, g2⟩ := rs.own i _ _ e2
  cases g2 with
  | @ins _ _ a0 dx _ vs _ k1 k2 k3 =>
    obtain ⟨u, k4, k5⟩ := k3.lookP e4
    rw [e3] at k5
    obtain ⟨p, rfl, n1, n2⟩ := k5.top
    exact ⟨_, g1, a0, _, dx, vs, _, rfl, k1, by rw [← fit.k]; exact hc, by rw [← fit.k]; exact hn, k4, hf F H1 v (.ref p) k d z _ rs.fh (.of r1) n2.srep hz q⟩
def sPSetI (i c : Nat) (f : Str) (fa fb : EM D) : SM := fun env => liftE (fa env) fun v e => match e[i]? with
  | some (some (.own (.ob shs) (.obj c' fs))) => (match fldC c f (some (some (.own (.ob shs) (.obj c' fs)))) with
    | some d => (match fb (e.set i none) with
      | .ok (k, e2) => (match e2[i]? with
        | some none => (match putD d k v with
          | some d' => .nx (e2.set i (some (.own (.ob shs) (.obj c (putF' f d' fs)))))
          | none => .bad)
        | _ => .bad)
      | _ => .bad)
    | none => .bad)
  | _ => .bad
/-- self.f[k] = e -/
theorem ds_pseti {q1 q2 q3 : Pos} (fit : Fit G X) (hu : X.A.units + 64 < cLine) (hc : Cls G.K (G.cl c)) (hn : NoAttr G.K (G.cl c) f) (ha : PE X a (eG G fa W)) (hb : PE X b (eG G fb W)) (hN : X.N[i]? = some x := by rfl) (hv : Vis X.env.scope x := by first | exact Or.inl rfl | exact Or.inr (Or.inl rfl) | exact Or.inr (Or.inr rfl))
    (hd : (x == ("__debug__" : Str)) = false := by decide) (hcd : (x == ("__classdict__" : Str)) = false := by decide) (hbase : attributeBase (.Name x q1) f X.env (eval (.Name x q1) X.env) = eval (.Name x q1) X.env := by rfl)
    (hsub : ∀ v, assign (.Subscript (.Attribute (.Name x q1) f q3) b q2) X.env v = (do
      let ov ← holding [v] (eval (.Attribute (.Name x q1) f q3) X.env)
      let iv ← holding [v, ov] (eval b X.env)
      standAt q2
      holding [v, ov, iv] (setItem ov iv v)
      release [v, ov, iv] []) := by intro _; rfl)
    (hs : swapsWithSole [.Subscript (.Attribute (.Name x q1) f q3) b q2] a pos.line X.env = pure false := by rfl) (hw : swappedStores [.Subscript (.Attribute (.Name x q1) f q3) b q2] a X.env = pure none := by rfl)
    (h1 : (assignEach [.Subscript (.Attribute (.Name x q1) f q3) b q2] X.env).map (·.2) = [assign (.Subscript (.Attribute (.Name x q1) f q3) b q2) X.env] := by rfl) :
    PS X (.Assign [.Subscript (.Attribute (.Name x q1) f q3) b q2] a pos) (sG G (sPSetI i c f fa fb) W) := by
  refine PS.imp (ps_asg ha (pg_sub (pe_fld (pe_var hN hv hd hcd) hbase) hb (set_all hu) hsub) hs hw h1) fun Dn σ H h => ?_
  refine gGS (K := kE) h fun v d H' B F0 F o env rs rp q => ?_
  split at q
  · rename_i shs c' fs h0
    split at q
    · rename_i dd hf
      obtain ⟨shs', fs', e2, e3, e4⟩ := fldC_some hf
      injection e2 with e2
      injection e2 with e2
      injection e2 with e5 e6
      injection e5 with e5
      injection e6 with e6 e7
      subst e5 e6 e7
      obtain ⟨v0, g1, g2⟩ := rs.own i _ _ h0
      cases g2 with
      | @ins _ _ a0 dx _ vs _ k1 k2 k3 =>
        obtain ⟨u, k4, k5⟩ := k3.lookP e4
        have k5' := k5
        rw [e3] at k5'
        obtain ⟨p, rfl, n1, n2⟩ := k5'.top
        refine ⟨_, g1, a0, _, dx, vs, _, rfl, k1, by rw [← fit.k]; exact hc, by rw [← fit.k]; exact hn, k4, ?_⟩
        refine ⟨_, _, F, _, _, rs.lock h0, ?_⟩
        cases hfb : fb (env.set i none) with
        | bad => rw [hfb] at q; exact q.elim
        | er c fs e => rw [hfb] at q; exact q.elim
        | ok z =>
          rw [hfb] at q
          obtain ⟨k, env2⟩ := z
          simp only at q
          split at q
          · rename_i hno
            split at q
            · rename_i d' hd'
              intro kv F2 H2 o2 rs2 ex2 rk
              obtain ⟨r3, mv⟩ := rs.unlock h0 rs2 hno
              have x0 := k5.move ex2 (mv.sub _)
              rw [e3] at x0
              obtain ⟨p', hp', m1, m2⟩ := x0.top
              cases hp'
              have hF2 : F2 p = none := (r3.ow p _ m1).1
              refine sd_all fit F2 H2 p dd k d kv v d' _ r3.fh hF2 m2 (.of rk) (rp.mono ex2) hd' fun u hx => ?_
              have a1 := mv.here k2
              have hne : a0 ≠ p := fun z => by
                subst z
                rw [a1.1] at m1
                simp at m1
              have hge : (env2.set i (some (.own (.ob shs) (.obj c' fs))))[i]? = some (some (.own (.ob shs) (.obj c' fs))) := by
                rw [List.getElem?_set, if_pos rfl, if_pos (List.getElem?_eq_some_iff.mp hno).1]
              have r4 := r3.own_put (i := i) (d' := .obj c' (putF' f d' fs)) (v := .ref a0) (p := p) (u := u) hge g1 m1 ?_
              · rw [List.set_set] at r4
                exact q σ F2 _ _ r4
              · have k6 : RepXF G F2 (upd H2 p u) (mixO o o2 (i + 1)) [i + 1] 0 shs (putF f (.ref p) vs) (putF' f d' fs) := by
                  refine RepXF.put ex2 k3 (fun n hnp b m z => ?_) ?_
                  · have zz := mv.sub n b m z
                    have hbp : b ≠ p := fun y => by
                      subst y
                      rw [zz.1] at m1
                      simp at m1
                      exact hnp m1.1
                    exact ⟨zz.1, by rw [upd_ne hbp]; exact zz.2⟩
                  · rw [e3]
                    exact hx.x m1
                rw [putF_same k4] at k6
                exact .ins (by rw [upd_ne hne, a1.2]; exact k1) a1.1 k6
            · exact q.elim
          · exact q.elim
    · exact q.elim
  · exact q.elim
end
end DL
end

section
set_option Elab.async false
set_option linter.all false
set_option autoImplicit false
set_option maxRecDepth 100000
set_option maxHeartbeats 4000000
/-! EN: several stores at once: fields; fresh things and values. -/
namespace DL
open PySem L2 PyProof.Rows PySem.Spec
def gAttr (K : PySem.W.Frag) (ta : TE) (f : Str) : TG := fun v σ H Q => ta σ H fun x H2 => ∃ a C dx fs, x = .ref a ∧ H2 a = some (.ins C dx fs) ∧ Cls K C ∧ NoAttr K C f ∧ fs.length < 1000 ∧ Q σ (upd H2 a (.ins C dx (putF f v fs)))
theorem pg_attr {X : Cx} {o : Expr} {f : Str} {pos : Pos} {ta : TE} (ha : PE X o ta) : PG X (.Attribute o f pos) (gAttr X.K ta f) := by
  refine ⟨fun pins s σ H v u Q I r h => ?_⟩
  rw [assign_Attribute]
  refine wpAny_bind (wpAny_holding (thn (ha.run pins s σ H _ I h) fun ov s1 ⟨x, H1, I1, r1, a, C, dx, fs, ex, ea, c, n, l, q⟩ => ?_))
  subst ex
  obtain rfl : ov = Value.ref a := r1
  refine wpAny_bind (wpAny_standAt (wpAny_bind (wpAny_holding (setattr_ok I1 ea c n l r fun s3 I3 => ?_))))
  exact wpAny_release ⟨σ, _, I3, q⟩
def stF (i c : Nat) (f : Str) (x : D) (e : DEnv) : Option DEnv := match e[i]? with
  | some (some (.own (.ob shs) (.obj c' fs))) => if c' = c ∧ fs.length < 900 then (match fsh shs f with
    | .fz => some (e.set i (some (.own (.ob shs) (.obj c (putF' f x fs)))))
    | _ => none) else none
  | _ => none
def sFld2 (i c : Nat) (f g : Str) (fr : EM D) : SM := fun env => liftE (fr env) fun d e => match d with
  | .tup [x, y] => (match (stF i c f x e).bind (stF i c g y) with
    | some e2 => .nx e2
    | none => .bad)
  | _ => .bad
section
variable {G : Gx} {X : Cx} {W : WX} {a : Expr} {fa : EM D} {pos : Pos} {c i : Nat} {f g x : Str}
theorem stF_ok (fit : Fit G X) (hc : Cls G.K (G.cl c)) (hn : NoAttr G.K (G.cl c) f) {B F0 F H : Hp} {o : Own} {σ : L2.St} {env env' : DEnv} {v : V} {d : D} {Q : L2.St → Hp → Prop} (rs : RepS G B F0 F H o σ env) (rp : Rep G F v d) (h : stF i c f d env = some env') (q : ∀ H', RepS G B F0 F H' o σ env' → Q σ H') :
    ∃ x0, σ[i]? = some (some x0) ∧ ∃ a C dx fs, x0 = .ref a ∧ H a = some (.ins C dx fs) ∧ Cls X.K C ∧ NoAttr X.K C f ∧ fs.length < 1000 ∧ Q σ (upd H a (.ins C dx (putF f v fs))) := by
  unfold stF at h
  split at h
  · rename_i shs c' fs h0
    split at h
    · rename_i hcc
      obtain ⟨rfl, hlen⟩ := hcc
      split at h
      · rename_i hfz
        cases h
        obtain ⟨v0, g1, g2⟩ := rs.own i _ _ h0
        cases g2 with
        | @ins _ _ a dx _ vs _ e1 e2 e3 =>
          refine ⟨_, g1, a, _, dx, vs, rfl, e1, by rw [← fit.k]; exact hc, by rw [← fit.k]; exact hn, by rw [e3.length]; omega, ?_⟩
          refine q _ (rs.own_put h0 g1 e2 (.ins upd_same e2 (e3.put (Ex.refl F) (fun n _ b m z => ⟨z, ?_⟩) ?_)))
          · have hb : b ≠ a := fun y => by
              subst y
              rw [e2] at z
              simp at z
            rw [upd_ne hb]
          · rw [hfz]
            exact .fz rp
      · cases h
    · cases h
  · cases h
/-- self.f, self.g = e -/
theorem ds_fld2 {q1 q2 q3 q4 q5 : Pos} {k : Nat} (fit : Fit G X) (hcm : X.calm = true) (hc : Cls G.K (G.cl c)) (hn : NoAttr G.K (G.cl c) f) (hn2 : NoAttr G.K (G.cl c) g) (ha : PE X a (eG G fa W)) (hN : X.N[i]? = some x := by rfl) (hv : Vis X.env.scope x := by first | exact Or.inl rfl | exact Or.inr (Or.inl rfl) | exact Or.inr (Or.inr rfl))
    (hd : (x == ("__debug__" : Str)) = false := by decide) (hcd : (x == ("__classdict__" : Str)) = false := by decide)
    (hs : swapsWithSole [.Tuple [.Attribute (.Name x q1) f q2, .Attribute (.Name x q3) g q4] k q5] a pos.line X.env = pure false := by rfl) (hw : swappedStores [.Tuple [.Attribute (.Name x q1) f q2, .Attribute (.Name x q3) g q4] k q5] a X.env = pure none := by rfl)
    (h1 : (assignEach [.Tuple [.Attribute (.Name x q1) f q2, .Attribute (.Name x q3) g q4] k q5] X.env).map (·.2) = [assign (.Tuple [.Attribute (.Name x q1) f q2, .Attribute (.Name x q3) g q4] k q5) X.env] := by rfl)
    (h2 : (assignEach [.Attribute (.Name x q1) f q2, .Attribute (.Name x q3) g q4] X.env).map (·.2) = assign (.Attribute (.Name x q1) f q2) X.env :: (assignEach [.Attribute (.Name x q3) g q4] X.env).map (·.2) := by rfl)
    (h3 : (assignEach [.Attribute (.Name x q3) g q4] X.env).map (·.2) = [assign (.Attribute (.Name x q3) g q4) X.env] := by rfl)
    (h4 : (assignEach [.Attribute (.Name x q1) f q2, .Attribute (.Name x q3) g q4] X.env).length = 2 := by rfl) (h5 : (assignEach [.Attribute (.Name x q1) f q2, .Attribute (.Name x q3) g q4] X.env).findIdx? (·.1) = none := by rfl) :
    PS X (.Assign [.Tuple [.Attribute (.Name x q1) f q2, .Attribute (.Name x q3) g q4] k q5] a pos) (sG G (sFld2 i c f g fa) W) := by
  refine PS.imp (ps_asg ha (pg_tup hcm (pgs_cons (pg_attr (pe_var hN hv hd hcd)) (pgs_cons (pg_attr (pe_var hN hv hd hcd)) pgs_nil h3) h2) h4 h5) hs hw h1) fun Dn σ H h => ?_
  refine gGS (K := kE) h fun v d H' B F0 F o env rs rp q => ?_
  split at q
  · rename_i dx dy
    split at q
    · rename_i e2 hz
      rw [Option.bind_eq_some_iff] at hz
      obtain ⟨e1, z1, z2⟩ := hz
      obtain ⟨t, xs, rfl, t1, t2⟩ := rep_tup rp
      obtain ⟨v1, v2, rfl, p1, p2⟩ := rpl2 t2
      refine ⟨t, _, rfl, by rw [← fit.k]; exact ex_t rs.fh t1, rfl, v1, [v2], rfl, ?_⟩
      obtain ⟨x0, g1, g2⟩ := stF_ok (Q := fun σ' H2 => gCons (gAttr X.K (tVar i) g) gNil [v2] σ' H2 Dn.nx) fit hc hn rs p1 z1 fun H2 rs2 => by
        refine ⟨v2, [], rfl, ?_⟩
        obtain ⟨x1, k1, k2⟩ := stF_ok (Q := fun σ' H3 => gNil [] σ' H3 Dn.nx) fit hc hn2 rs2 p2 z2 fun H3 rs3 => ⟨rfl, q σ F H3 o rs3⟩
        exact ⟨x1, k1, k2⟩
      exact ⟨x0, g1, g2⟩
    · exact q.elim
  · exact q.elim
end

/-! ### x, y, .. = e1, e2, ..: a fresh container is held while the rest is evaluated -/
abbrev Mix := List (Bool × EM D)
def mixL : Mix → DEnv → Option (List Cell × DEnv)
  | [], env => some ([], env)
  | (b, f) :: r, env => match f env with
    | .ok (d, e1) => (mixL r e1).map fun z => ((if b = true then Cell.own c1 d else Cell.val d) :: z.1, z.2)
    | _ => none
def setC : List Nat → List Cell → DEnv → DEnv
  | i :: is, c :: cs, env => (setC is cs env).set i (some c)
  | _, _, env => env
def setS : List Nat → List V → L2.St → L2.St
  | i :: is, v :: vs, σ => (setS is vs σ).set i (some v)
  | _, _, σ => σ
def sMix (is : List Nat) (m : Mix) : SM := fun env => match mixL m env with
  | some (cs, e) => .nx (setC is cs e)
  | none => .bad
def mG (G : Gx) (W : WX) : Mix → TA
  | [], _, H, Q => Q [] H
  | (b, f) :: r, σ, H, Q => (if b = true then fG G c1 f W else eG G f W) σ H fun v H1 => mG G W r σ H1 fun vs H2 => Q (v :: vs) H2
section
variable {G : Gx} {X : Cx} {W : WX} {a : Expr} {es : List Expr} {f : EM D} {r : Mix}
theorem dm_nil : PA X [] (mG G W []) := PA.imp pa_nil fun σ H Q h => h
theorem dm_val (ha : PE X a (eG G f W)) (hr : PA X es (mG G W r)) (hs : starEach (a :: es) X.env = (false, eval a X.env) :: starEach es X.env := by rfl) : PA X (a :: es) (mG G W ((false, f) :: r)) := PA.imp (pa_cons ha hr hs) fun σ H Q h => h
theorem dm_new (ha : PE X a (fG G c1 f W)) (hr : PA X es (mG G W r)) (hs : starEach (a :: es) X.env = (false, eval a X.env) :: starEach es X.env := by rfl) : PA X (a :: es) (mG G W ((true, f) :: r)) := PA.imp (pa_cons ha hr hs) fun σ H Q h => h
end
theorem XTop.mono {G : Gm} {F F' H H' : Hp} {a : Addr} {d : D} (h : XTop G F H a d) (e : Ex F F') (hh : H' a = H a) : XTop G F' H' a d := by
  cases d with
  | lst ds => obtain ⟨vs, h1, h2⟩ := h; exact ⟨vs, by rw [hh]; exact h1, h2.mono e⟩
  | dct ds =>
    rcases h with ⟨od, ks, h1, h2⟩ | ⟨od, xs, h1, n, h2⟩
    · exact .inl ⟨od, ks, by rw [hh]; exact h1, h2.mono e⟩
    · exact .inr ⟨od, xs, by rw [hh]; exact h1, n, h2.mono e⟩
  | _ => exact h.elim
section
variable {G : Gx} {W : WX}
/-- the slot i's labels are free -/
theorem mix_ok : ∀ (m : Mix) (is : List Nat) {B F0 F H : Hp} {o : Own} {σ : L2.St} {env env' : DEnv} {cs : List Cell} {Q : List V → Hp → Prop}, is.length = m.length → (∀ i ∈ is, ∀ q, (i, q) ∉ G.bp) → RepS G B F0 F H o σ env → mixL m env = some (cs, env') →
    (∀ vs H' F' o', vs.length = m.length → RepS G B F0 F' H' o' (setS is vs σ) (setC is cs env') → Q vs H') → mG G W m σ H Q
  | [], [], B, F0, F, H, o, σ, env, env', cs, Q, _, _, rs, hm, q => by
    cases hm
    exact q [] H F o rfl rs
  | (b, f) :: m, i :: is, B, F0, F, H, o, σ, env, env', cs, Q, hl, hp, rs, hm, q => by
    unfold mixL at hm
    cases hf : f env with
    | bad => rw [hf] at hm; cases hm
    | er c fs e => rw [hf] at hm; cases hm
    | ok z =>
      rw [hf] at hm
      obtain ⟨d, e1⟩ := z
      simp only at hm
      rw [Option.map_eq_some_iff] at hm
      obtain ⟨⟨cs', e2⟩, hm, he⟩ := hm
      injection he with he1 he2
      simp only at he1 he2
      subst he1 he2
      have hl' : is.length = m.length := by simpa using hl
      have hp' : ∀ i ∈ is, ∀ q, (i, q) ∉ G.bp := fun j hj => hp j (List.mem_cons_of_mem _ hj)
      cases b with
      | false =>
        show eG G f W σ H fun v H1 => mG G W m σ H1 fun vs H2 => Q (v :: vs) H2
        refine ⟨B, F0, F, o, env, rs, ?_⟩
        rw [hf]
        intro v F1 H1 o1 rs1 ex1 rp
        refine mix_ok m is hl' hp' (rs1.rebase rs1.f0 (Ex.refl F1)) hm fun vs H2 F2 o2 hvs rs2 => ?_
        refine q (v :: vs) H2 F2 o2 (by simp [hvs]) ?_
        exact (rs1.back rs2).setv i (rp.mono rs2.f0)
      | true =>
        show fG G c1 f W σ H fun v H1 => mG G W m σ H1 fun vs H2 => Q (v :: vs) H2
        refine ⟨B, F0, F, o, env, rs, ?_⟩
        rw [hf]
        intro v F1 H1 o1 rs1 ex1 rx
        obtain ⟨p, rfl, ho, ht⟩ := rx.top
        obtain ⟨hF1, hB1, u, hu⟩ := rs1.ow p _ ho
        have r2 : RepS G (upd B p u) F1 F1 H1 (dropO o1 0) σ e1 := by
          have r3 := (rs1.rebase rs1.f0 (Ex.refl F1)).labels (o' := dropO o1 0) (fun a mm y => rs1.ow a mm (dropO_some y).1) fun j s' d' y a mm z => dropO_ne z (by omega)
          refine r3.addB hu hF1 ?_
          cases y : dropO o1 0 p with
          | none => rfl
          | some mm =>
            obtain ⟨y1, k, t, rfl, hk⟩ := dropO_some y
            rw [ho] at y1
            injection y1 with y1
            injection y1 with y1 _
            exact absurd y1.symm hk
        refine mix_ok m is hl' hp' r2 hm fun vs H2 F2 o2 hvs rs2 => ?_
        refine q (.ref p :: vs) H2 F2 (relab 0 (i + 1) (fun a => if a = p then some [0] else dropO o2 0 a)) (by simp [hvs]) ?_
        have hH2 : H2 p = some u := rs2.bh _ _ upd_same
        have hF2 : F2 p = none := rs2.keptF upd_same hF1
        have r4 := rs1.back (rs2.dropB hB1)
        have r5 := r4.takeO hH2 hF2 hB1 (rs2.keptO upd_same)
        have ht2 : XTop G F2 H2 p d := ht.mono rs2.f0 (by rw [hH2, hu])
        exact r5.seto i (ht2.x (if_pos rfl)) fun z hz => (hp i List.mem_cons_self z hz).elim
  | [], _ :: _, _, _, _, _, _, _, _, _, _, _, hl, _, _, _, _ => by simp at hl
  | _ :: _, [], _, _, _, _, _, _, _, _, _, _, hl, _, _, _, _ => by simp at hl
variable {X : Cx} {a b : Expr} {pos : Pos}
theorem ds_mix2 {i j : Nat} {x y : Str} {m : Mix} {px py pt pt2 : Pos} {kt k2} (ha : PA X [a, b] (mG G W m)) (hc : X.calm = true) (hN : X.N.Nodup) (hi : X.N[i]? = some x := by rfl) (hj : X.N[j]? = some y := by rfl) (hij : i ≠ j := by decide)
    (hx : X.env.scope.names.lookup x = some .local := by rfl) (hy : X.env.scope.names.lookup y = some .local := by rfl) (hlen : m.length = 2 := by rfl)
    (hw : swappedStores [.Tuple [.Name x px, .Name y py] kt pt] (.Tuple [a, b] k2 pt2) X.env = pure (some [x, y]) := by rfl)
    (hs : swapsWithSole [.Tuple [.Name x px, .Name y py] kt pt] (.Tuple [a, b] k2 pt2) pos.line X.env = pure false := by rfl) (hp : ∀ k ∈ [i, j], ∀ q, (k, q) ∉ G.bp := by intro k hk q h; simp at h hk <;> omega) :
    PS X (.Assign [.Tuple [.Name x px, .Name y py] kt pt] (.Tuple [a, b] k2 pt2) pos) (sG G (sMix [i, j] m) W) := by
  refine PS.imp (ps_par hc hN hi hj hij hx hy ha hw hs) fun Dn σ H ⟨B, F0, F, o, env, rs, p⟩ => ?_
  unfold sMix at p
  split at p
  · rename_i cs e hm
    refine mix_ok m [i, j] (by simp [hlen]) hp rs hm fun vs H' F' o' hvs rs' => ?_
    rw [hlen] at hvs
    match vs, hvs with
    | [v, u], _ =>
      refine ⟨v, u, rfl, ?_⟩
      have := p _ F' H' o' rs'
      simp only [setS] at this
      rw [List.set_comm _ _ (Ne.symm hij)] at this
      exact this
  · exact p.elim
end
end DL
end

section
set_option Elab.async false
set_option linter.all false
set_option autoImplicit false
set_option maxRecDepth 100000
set_option maxHeartbeats 4000000
/-! EO: == and != by an own __eq__, len by an own __len__. -/
namespace DL
open PySem L2 PyProof.Rows PySem.Spec
section
variable {X : Cx} {k : Nat} {f C : Addr} {fd : FuncData} {ps : List Str} {sp : Sp}
end
section
variable {prog : Program} {w : World} {A : Around} {E : Value → Shared → Prop} {s : Shared} {K : PySem.W.Frag} {x C f : Addr} {ox : Obj} {od : Option Obj} {b : Value}
open PySem.W
end
section
variable {X : Cx} {G : Gm} {c : Nat} {Φ : List D → FR}
end
/-! ### together with the built-in == -/
/-! ### len -/
theorem callr_or {X : Cx} {t : Value} {r r' : List V → Hp → VK → Prop} (h : CallR X t r) (h' : CallR X t r') : CallR X t (fun x H Q => r x H Q ∨ r' x H Q) := fun pins s σ H xs us Q I rx q => q.elim (h pins s σ H xs us Q I rx) (h' pins s σ H xs us Q I rx)
def orA (f g : List D → Option D) (x : List D) : Option D := match f x with
  | some z => some z
  | none => g x
theorem appd_or {G : Gm} {r r' : List V → Hp → VK → Prop} {f g : List D → Option D} (h : AppD G r f) (h' : AppD G r' g) : AppD G (fun x H Q => r x H Q ∨ r' x H Q) (orA f g) := by
  intro F H xs ds z Q ef r1 hz q
  unfold orA at hz
  split at hz
  · rename_i w hw
    cases hz
    exact .inl (h F H xs ds _ Q ef r1 hw q)
  · exact .inr (h' F H xs ds z Q ef r1 hz q)
end DL
end

section
set_option Elab.async false
set_option linter.all false
set_option autoImplicit false
set_option maxRecDepth 100000
set_option maxHeartbeats 4000000
/-! EP: more: xs.pop(i); a new list by +, sorted. -/
namespace DL
open PySem L2 PyProof.Rows PySem.Spec
section
variable {G : Gx} {X : Cx} {W : WX} {a b : Expr} {xa xb : EM XD} {pos p : Pos} {es : List Expr}
end
end DL
end

section
set_option Elab.async false
set_option linter.all false
set_option autoImplicit false
set_option maxRecDepth 100000
set_option maxHeartbeats 4000000
/-! EQ: list(range(n)); a method as an operator calls it. -/
namespace DL
open PySem L2 PyProof.Rows PySem.Spec
theorem u65 {k : Nat} {A : Around} (r : Room k A) : A.units + 65 < cLine := by have := r.un; omega
section
variable {G : Gx} {X : Cx} {W : WX} {a b : Expr} {fa fb : EM D} {p pos p2 pos2 : Pos}
end
section
variable {P : Program} {w : World} {K : PySem.W.Frag} {mg : Str → Option Value} {base : Heap} {cl : Nat → Addr}
end
/-! ### isinstance, from what can be read off -/
section
variable {K : PySem.W.Frag} {C C2 : Addr}
theorem kit_bo {a : String} (h2 : PySem.W.isClsIn K C = true) (h3 : PySem.W.typeIn K (.ref C) = some (.type "type")) (h4 : PySem.W.subIn K (.type a) (.ref C) = some false) : PySem.W.kitOne K (.type a) (.ref C) = some false := by
  unfold PySem.W.kitOne
  rw [if_neg (by intro h; exact nomatch (eq_of_beq h))]
  unfold PySem.W.kitCls
  unfold PySem.W.isClsIn at h2
  simp only [h2, h3, beq_self_eq_true, Bool.and_self, if_true, h4]
theorem kit_ob {a : String} (hm : PySem.W.kitMeta a = true) (h4 : PySem.W.subIn K (.ref C) (.type a) = some false) : PySem.W.kitOne K (.ref C) (.type a) = some false := by
  unfold PySem.W.kitOne
  rw [if_neg (by intro h; exact nomatch (eq_of_beq h))]
  unfold PySem.W.kitCls
  simp only [hm, if_true, h4]
theorem kit_oo {b : Bool} (h2 : PySem.W.isClsIn K C2 = true) (h3 : PySem.W.typeIn K (.ref C2) = some (.type "type")) (h4 : PySem.W.subIn K (.ref C) (.ref C2) = some b) (hb : C = C2 → b = true) : PySem.W.kitOne K (.ref C) (.ref C2) = some b := by
  unfold PySem.W.kitOne
  by_cases e : C = C2
  · subst e
    rw [if_pos (by simp), hb rfl]
  · rw [if_neg (by intro h; have := eq_of_beq h; injection this with this; exact e this)]
    unfold PySem.W.kitCls
    unfold PySem.W.isClsIn at h2
    simp only [h2, h3, beq_self_eq_true, Bool.and_self, if_true, h4]
end
end DL
end

section
set_option Elab.async false
set_option linter.all false
set_option maxRecDepth 100000
set_option maxHeartbeats 2000000
/-! ER: laws of the meanings: loops, small data, repr and == of it. -/
namespace DL
open PySem L2 PyProof.Rows PySem.Spec
/-! ### loops -/
theorem loop_fold {β : Type} {t : TgM} {b : SM} (R : β → DEnv → Prop) (f : β → D → β) : ∀ (ds : List D) (x : β) (env : DEnv), R x env → (∀ x d env, d ∈ ds → R x env → ∃ e1 e2, t d env = some e1 ∧ b e1 = .nx e2 ∧ R (f x d) e2) →
    ∃ e, loopS t b ds env = .nx e ∧ R (ds.foldl f x) e
  | [], x, env, h, _ => ⟨env, rfl, h⟩
  | d :: ds, x, env, h, st => by
    obtain ⟨e1, e2, h1, h2, h3⟩ := st x d env List.mem_cons_self h
    obtain ⟨e, h4, h5⟩ := loop_fold R f ds (f x d) e2 h3 fun x d' env hd => st x d' env (List.mem_cons_of_mem _ hd)
    refine ⟨e, ?_, h5⟩
    unfold loopS
    rw [h1]
    simp only
    rw [h2]
    exact h4
/-- the items of ints -/
theorem loop_ints {β : Type} {t : TgM} {b : SM} (R : β → DEnv → Prop) (f : β → Int → β) (ns : List Int) (x : β) (env : DEnv) (h : R x env) (st : ∀ x i env, i ∈ ns → R x env → ∃ e1 e2, t (.int i) env = some e1 ∧ b e1 = .nx e2 ∧ R (f x i) e2) :
    ∃ e, loopS t b (ns.map D.int) env = .nx e ∧ R (ns.foldl f x) e := by
  obtain ⟨e, h1, h2⟩ := loop_fold R (fun x d => match d with | .int i => f x i | _ => x) (ns.map D.int) x env h (by
    intro x d env hd hR
    obtain ⟨i, hi, rfl⟩ := List.mem_map.mp hd
    exact st x i env hi hR)
  refine ⟨e, h1, ?_⟩
  rw [List.foldl_map] at h2
  exact h2
/-- .. that only maps -/
theorem lc_map {t : TgM} {vs : List Nat} {f : EM D} (R : DEnv → Prop) (g : D → D) : ∀ (ds : List D) (env : DEnv) (acc : List D), R env → acc.length + ds.length ≤ 1000000 →
    (∀ d env, d ∈ ds → R env → ∃ e1 e2, t d env = some e1 ∧ f e1 = .ok (g d, e2) ∧ R (wipeE e2 vs)) →
    ∃ e, lcLoop t vs tYs f ds env acc = .ok (acc ++ ds.map g, e) ∧ R e
  | [], env, acc, h, _, _ => ⟨env, by simp [lcLoop], h⟩
  | d :: ds, env, acc, h, hl, st => by
    obtain ⟨e1, e2, h1, h2, h3⟩ := st d env List.mem_cons_self h
    rw [List.length_cons] at hl
    obtain ⟨e, h4, h5⟩ := lc_map R g ds (wipeE e2 vs) (acc ++ [g d]) h3 (by simp; omega) fun d' env hd => st d' env (List.mem_cons_of_mem _ hd)
    refine ⟨e, ?_, h5⟩
    unfold lcLoop
    rw [h1]
    simp only [tYs]
    rw [h2]
    simp only
    rw [if_pos (by omega), h4]
    simp
theorem rangeL_map : ∀ (n : Nat) (lo : Int), rangeL lo n = (List.range n).map fun (i : Nat) => D.int (lo + i)
  | 0, _ => rfl
  | n + 1, lo => by
    rw [rangeL, rangeL_map n, List.range_succ_eq_map]
    simp only [List.map_cons, List.map_map]
    congr 1
    · simp
    · apply List.map_congr_left
      intro i _
      simp only [Function.comp]
      congr 1
      omega
/-! ### small data -/
theorem strOk_app {x y : Str} (h1 : PyData.strOk x = true) (h2 : PyData.strOk y = true) : PyData.strOk (x ++ y) = true := by
  unfold PyData.strOk at *
  show (x.cps ++ y.cps).all _ = true
  rw [Array.all_append, h1, h2]
  rfl
theorem strOk_of (s : String) : PyData.strOk (Str.ofString s) = true := by
  rw [Str.ofString_eq_toList]
  unfold PyData.strOk
  rw [Array.all_eq_true_iff_forall_mem]
  intro c hc
  have hc := Array.mem_toList_iff.mpr hc
  simp only [List.mem_map] at hc
  obtain ⟨z, _, rfl⟩ := hc
  have := z.valid
  simp only [decide_eq_true_eq]
  rcases this with h | h
  · exact Nat.lt_trans h (by decide)
  · exact h.2
theorem strOk_join : ∀ {ts : List Str}, (∀ t ∈ ts, PyData.strOk t = true) → PyData.strOk (Str.join ", " ts) = true
  | [], _ => by decide +kernel
  | [x], h => h x List.mem_cons_self
  | x :: y :: r, h => strOk_app (strOk_app (h x List.mem_cons_self) (strOk_of _)) (strOk_join fun t ht => h t (List.mem_cons_of_mem _ ht))
theorem strOk_from : ∀ {ts : List Str} {k : Nat} {acc : Str}, PyData.strOk acc = true → (∀ t ∈ ts, PyData.strOk t = true) → PyData.strOk (textFrom k acc ts) = true
  | [], _, _, h, _ => h
  | t :: r, k, acc, h, ht => strOk_from (ts := r) (k := k + 1) (strOk_app (strOk_app h (strOk_of _)) (ht t List.mem_cons_self)) fun u hu => ht u (List.mem_cons_of_mem _ hu)
theorem shownAll_mem : ∀ {xs : List PyData} {t : Str}, t ∈ PyData.shownAll xs → ∃ x ∈ xs, t = x.shown
  | [], t, h => by simp [PyData.shownAll] at h
  | x :: xs, t, h => by
    rw [PyData.shownAll] at h
    rcases List.mem_cons.mp h with h | h
    · exact ⟨x, List.mem_cons_self, h⟩
    · obtain ⟨y, hy, e⟩ := shownAll_mem h
      exact ⟨y, List.mem_cons_of_mem _ hy, e⟩
theorem toPyL_of {P : PyData → Prop} : ∀ {ds : List D}, (∀ d ∈ ds, ∃ a, toPy d = some a ∧ P a) → ∃ as, toPyL ds = some as ∧ (∀ a ∈ as, P a) ∧ as.length = ds.length
  | [], _ => ⟨[], by simp [toPyL], by simp, rfl⟩
  | d :: ds, h => by
    obtain ⟨a, e, p⟩ := h d List.mem_cons_self
    obtain ⟨as, e2, p2, l⟩ := toPyL_of fun x hx => h x (List.mem_cons_of_mem _ hx)
    refine ⟨a :: as, by simp [toPyL, e, e2], ?_, by simp [l]⟩
    intro x hx
    rcases List.mem_cons.mp hx with rfl | hx
    · exact p
    · exact p2 x hx
/-- a text that == may meet -/
def eqOk (d : D) : Bool := match toPy d with
  | some a => SeqAt.shaped a
  | none => false
theorem eqB_refl {d : D} (h : eqOk d = true) : eqB d d = some true := by
  unfold eqOk at h
  unfold eqB
  split at h
  · rename_i a e
    rw [e]
    simp only [Option.bind_some]
    rw [h]
    simp only [Bool.and_self, if_true]
    rw [SeqAt.eqv_refl a (SeqAt.canLay_of_shaped h)]
  · cases h
end DL
end

section
set_option Elab.async false
set_option linter.all false
set_option maxRecDepth 100000
set_option maxHeartbeats 2000000
/-! ES: the meanings at an environment, one step each (for simp). -/
namespace DL
open PySem L2 PyProof.Rows PySem.Spec
section
variable {α β : Type} {env e : DEnv} {a b c : EM D} {r fr : EM (List D)} {t u : EM Bool} {k : α → EM β} {x : EM α} {i j : Nat} {d : D} {f : D → D → Option D} {g : D → Option D} {h : List D → Option D} {p q : SM}
theorem q_bnd : bnd x k env = (x env).bind fun z => k z.1 z.2 := rfl
theorem q_ok {z : α} {K : α → Res β} : (Res.ok z).bind K = K z := rfl
theorem q_er {n : Nat} {fs : List (Str × D)} {K : α → Res β} : (Res.er n fs env).bind K = .er n fs env := rfl
theorem q_bad {K : α → Res β} : (Res.bad).bind K = .bad := rfl
theorem q_some {z : α} : ofO (some z) env = .ok (z, env) := rfl
theorem q_none : ofO (none : Option α) env = .bad := rfl
theorem q_eC : eC d env = .ok (d, env) := rfl
theorem q_eV : eV i env = match env[i]? with | some (some (.val d)) => .ok (d, env) | _ => .bad := rfl
theorem q_eZ : eZ i env = match env[i]? with | some (some (.val d)) => .ok (d, env) | some (some (.own _ d)) => .ok (d, env.set i (some (.val d))) | _ => .bad := rfl
theorem q_eOp : eOp f a b env = (a env).bind fun x => (b x.2).bind fun y => ofO (f x.1 y.1) y.2 := rfl
theorem q_eUn : eUn g a env = (a env).bind fun x => ofO (g x.1) x.2 := rfl
theorem q_aNil : aNil env = .ok ([], env) := rfl
theorem q_aCons : aCons a r env = (a env).bind fun x => (r x.2).bind fun y => .ok (x.1 :: y.1, y.2) := rfl
theorem q_eTup : eTup r env = (r env).bind fun x => ofO (if x.1.length ≤ 1000000 then some (.tup x.1) else none) x.2 := rfl
theorem q_eLst : eLst r env = (r env).bind fun x => ofO (if x.1.length ≤ 1000000 then some (.lst x.1) else none) x.2 := rfl
theorem q_eApp : eApp h r env = (r env).bind fun x => ofO (h x.1) x.2 := rfl
def bOf : D → Option Bool
  | .bl b => some b
  | _ => none
theorem q_toB : toB a env = (a env).bind fun x => ofO (bOf x.1) x.2 := by
  unfold toB bnd
  congr 1
theorem q_bOf {b : Bool} : bOf (.bl b) = some b := rfl
theorem q_tNo : tNo t env = (t env).bind fun x => .ok (!x.1, x.2) := rfl
theorem q_tAn : tAn t u env = (t env).bind fun x => if x.1 = true then u x.2 else .ok (false, x.2) := by
  unfold tAn bnd
  congr 1
  funext x
  obtain ⟨v, w⟩ := x
  cases v <;> rfl
theorem q_tOt : tOt t u env = (t env).bind fun x => if x.1 = true then .ok (true, x.2) else u x.2 := by
  unfold tOt bnd
  congr 1
  funext x
  obtain ⟨v, w⟩ := x
  cases v <;> rfl
theorem q_eIf : eIf t a b env = (t env).bind fun x => if x.1 = true then a x.2 else b x.2 := by
  unfold eIf bnd
  congr 1
  funext x
  obtain ⟨v, w⟩ := x
  cases v <;> rfl
theorem q_eAn : eAn a b env = (toB a env).bind fun x => if x.1 = true then b x.2 else .ok (.bl false, x.2) := by
  unfold eAn bnd
  congr 1
  funext x
  obtain ⟨v, w⟩ := x
  cases v <;> rfl
theorem q_eOt : eOt a b env = (toB a env).bind fun x => if x.1 = true then .ok (.bl true, x.2) else b x.2 := by
  unfold eOt bnd
  congr 1
  funext x
  obtain ⟨v, w⟩ := x
  cases v <;> rfl
theorem q_eNo : eNo a env = (toB a env).bind fun x => .ok (.bl (!x.1), x.2) := rfl
theorem q_eFn {Φ : List D → FR} {dds : List D} : eFn Φ dds r env = (r env).bind fun x => frE x.2 (Φ (x.1 ++ dds)) := rfl
theorem q_eFnO {s : Sh} {Φ : List D → FR} {dds : List D} : eFnO s Φ dds r env = (r env).bind fun x => frO s x.2 (Φ (x.1 ++ dds)) := rfl
theorem q_frv : frE env (.ok (.val d)) = .ok (d, env) := rfl
theorem q_fro {s : Sh} : frE env (.ok (.own s d)) = .ok (d, env) := rfl
theorem q_fre {n : Nat} {fs : List (Str × D)} : frE env (.er n fs) = .er n fs env := rfl
theorem q_foo : frO c1 env (.ok (.own c1 d)) = .ok (d, env) := rfl
theorem q_foo0 : frO (.ob []) env (.ok (.own (.ob []) d)) = .ok (d, env) := rfl
theorem q_foe {s : Sh} {n : Nat} {fs : List (Str × D)} : frO s env (.er n fs) = .er n fs env := rfl
theorem q_eFnT {Φ : D → List D → FT} {d : D} {r : EM (List D)} {ds : List D} {e2 : DEnv} {s0 : Sh} {d2 c d3 : D} (h1 : env[i]? = some (some (.own s0 d))) (h2 : r env = .ok (ds, e2)) (h3 : e2[i]? = some (some (.own c1 d2))) (h4 : Φ d2 ds = .ok c d3) : eFnT c1 c1 Φ i r env = .ok (c, e2.set i (some (.own c1 d3))) := by
  unfold eFnT
  rw [h1]
  unfold bnd
  rw [h2]
  have e : Sh.same c1 c1 = true := rfl
  simp only [Res.bind, h3, h4, e, if_true]
theorem q_eMut {T : String} {g : D → List D → Option (D × D)} {d0 : D} {r : EM (List D)} {ds : List D} {e2 : DEnv} {d2 c d3 : D} (h1 : env[i]? = some (some (.own c1 d0))) (hT : tyD d0 = T) (h2 : r env = .ok (ds, e2)) (h3 : e2[i]? = some (some (.own c1 d2))) (h4 : g d2 ds = some (c, d3)) : eMut T g i r env = .ok (c, e2.set i (some (.own c1 d3))) := by
  unfold eMut
  rw [h1]
  simp only [hT, if_true]
  unfold bnd
  rw [h2]
  simp only [Res.bind, h3, h4]
theorem q_sSet : sSet i a env = liftE (a env) fun d e => .nx (e.set i (some (.val d))) := rfl
theorem q_sSetO {s : Sh} : sSetO i s a env = liftE (a env) fun d e => .nx (e.set i (some (.own s d))) := rfl
theorem q_lok {K : α → DEnv → SR} {z : α} : liftE (.ok (z, e)) K = K z e := rfl
theorem q_ler {K : α → DEnv → SR} {n : Nat} {fs : List (Str × D)} : liftE (.er n fs e) K = .er n fs e := rfl
theorem q_sNx : sNx env = .nx env := rfl
theorem q_sSeq : sSeq p q env = match p env with | .nx e => q e | r => r := rfl
theorem q_sIf : sIf t p q env = liftE (t env) fun k e => if k = true then p e else q e := rfl
theorem q_sRet : sRet a env = liftE (a env) fun d e => .rt (.val d) e := rfl
theorem q_sRetF {s : Sh} : sRetF s a env = liftE (a env) fun d e => .rt (.own s d) e := rfl
theorem q_sDo : sDo a env = liftE (a env) fun _ e => .nx e := rfl
theorem q_sRetO : sRetO i env = match env[i]? with | some (some (.own s d)) => .rt (.own s d) env | some (some (.val d)) => .rt (.val d) env | _ => .bad := rfl
theorem q_sRaise {n : Nat} {f : Str} : sRaise n f a env = liftE (a env) fun d e => .er n [(f, d)] e := rfl
theorem q_sFor {fi : EM (List D)} {tg : TgM} : sFor fi tg p env = liftE (fi env) fun ds e => loopS tg p ds e := rfl
theorem q_sUnp {tg : TgM} : sUnp tg a env = liftE (a env) fun d e => match tg d e with | some e' => .nx e' | none => .bad := rfl
theorem q_sAug : sAug i f a env = match env[i]? with
  | some (some (.val x)) => liftE (a env) fun y e => match f x y with
    | some z => .nx (e.set i (some (.val z)))
    | none => .bad
  | _ => .bad := rfl
theorem q_sSetI : sSetI i a b env = liftE (a env) fun d e => if isOwn e i = true then liftE (b e) (fun k e2 => chg i (fun d1 => putD d1 k d) e2) else .bad := rfl
theorem q_isOwn : isOwn env i = match env[i]? with | some (some (.own (.con .fz) _)) => true | _ => false := rfl
theorem q_sMix {is : List Nat} {m : Mix} : sMix is m env = match mixL m env with | some (cs, e) => .nx (setC is cs e) | none => .bad := rfl
theorem q_mix0 : mixL [] env = some ([], env) := rfl
theorem q_mix1 {b : Bool} {m : Mix} : mixL ((b, a) :: m) env = match a env with
    | .ok (d, e1) => (mixL m e1).map fun z => ((if b = true then Cell.own c1 d else Cell.val d) :: z.1, z.2)
    | _ => none := rfl
theorem q_setC0 {cs : List Cell} : setC [] cs env = env := by cases cs <;> rfl
theorem q_setC {is : List Nat} {c : Cell} {cs : List Cell} : setC (i :: is) (c :: cs) env = (setC is cs env).set i (some c) := rfl
theorem q_eOpX {x y : EM XD} : eOpX f x y env = (x env).bind fun u => (y u.2).bind fun v => ofO ((rslv v.2 u.1).bind fun d => (rslv v.2 v.1).bind fun e => f d e) v.2 := rfl
theorem q_eAppX {y : EM (List XD)} : eAppX h y env = (y env).bind fun u => ofO ((rslvL u.2 u.1).bind h) u.2 := rfl
theorem q_xV : xV a env = (a env).bind fun x => .ok (.v x.1, x.2) := rfl
theorem q_xS : xS i env = match env[i]? with | some (some (.val _)) => .ok (.s i, env) | some (some (.own _ _)) => .ok (.s i, env) | _ => .bad := rfl
theorem q_yNil : yNil env = .ok ([], env) := rfl
theorem q_yCons {x : EM XD} {y : EM (List XD)} : yCons x y env = (x env).bind fun u => (y u.2).bind fun v => .ok (u.1 :: v.1, v.2) := rfl
theorem q_rv : rslv env (.v d) = some d := rfl
theorem q_rs : rslv env (.s i) = match env[i]? with | some (some (.val d)) => some d | some (some (.own (.con .fz) d)) => some d | _ => none := rfl
theorem q_rL0 : rslvL env [] = some [] := rfl
theorem q_rL {x : XD} {xs : List XD} : rslvL env (x :: xs) = (rslv env x).bind fun d => (rslvL env xs).map fun ds => d :: ds := rfl
theorem q_eSlX {x : EM XD} {lo hi : EM (Option Int)} : eSlX x lo hi env = (x env).bind fun u => (lo u.2).bind fun y => (hi y.2).bind fun z => ofO ((rslv z.2 u.1).bind fun d => sliceD d y.1 z.1) z.2 := rfl
theorem q_eFld {c : Nat} {f : Str} : eFld c f a env = (a env).bind fun x => ofO (fldD c f x.1) x.2 := rfl
theorem q_eMeth {c : Nat} {m : Str} {Φ : List D → FR} {dds : List D} : eMeth c m Φ dds a r env = (a env).bind fun x => if isObj c m x.1 = true then (r x.2).bind fun y => frE y.2 (Φ (x.1 :: (y.1 ++ dds))) else .bad := by
  unfold eMeth bnd
  congr 1
  funext x
  show (if isObj c m x.1 = true then _ else _ : EM D) x.2 = _
  split <;> rfl
theorem q_eMk {c : Nat} {Φ : D → List D → FT} : eMk c Φ r env = (r env).bind fun x => match Φ (.obj c []) x.1 with
  | .ok .non d' => .ok (d', x.2)
  | .er c fs _ => .er c fs x.2
  | _ => .bad := rfl
theorem q_eMt {T : String} {g : D → List D → Option D} {x : EM XD} : eMt T g x r env = (x env).bind fun u => match (rslv u.2 u.1).map tyD with
  | some T' => if T' = T then (r u.2).bind fun v => ofO ((rslv v.2 u.1).bind fun d => g d v.1) v.2 else .bad
  | none => .bad := rfl
theorem q_iDi : iDi a env = (a env).bind fun x => ofO (match x.1 with | .dct kvs => some (kvs.map pairD) | _ => none) x.2 := rfl
theorem q_iDv : iDv a env = (a env).bind fun x => ofO (match x.1 with | .dct kvs => some (kvs.map (·.2)) | _ => none) x.2 := rfl
theorem q_iAll : iAll a env = (a env).bind fun x => ofO (itemsOf x.1) x.2 := rfl
theorem q_eDc {fi : EM (List D)} {vs : List Nat} {tg : TgM} {tc : EM Bool} : eDc fi vs tg tc a b env = (fi env).bind fun x => match dcLoop tg vs tc a b x.1 (wipeE x.2 vs) [] with
  | .ok (acc, e2) => .ok (.dct acc, restE x.2 e2 vs)
  | _ => .bad := rfl
theorem q_eDc2 {fi fi1 : EM (List D)} {vs vs1 : List Nat} {tg tg1 : TgM} {tc tc1 : EM Bool} : eDc2 fi vs tg tc fi1 vs1 tg1 tc1 a b env = (fi env).bind fun x => match dc2Loop tg vs tc fi1 tg1 vs1 tc1 a b x.1 (wipeE x.2 vs) [] with
  | .ok (acc, e2) => .ok (.dct acc, restE x.2 e2 vs)
  | _ => .bad := rfl
theorem q_eOpP {c : Nat} {f' : Str} : eOpP f a i c f' env = (a env).bind fun x => ofO ((fldC c f' x.2[i]?).bind fun d => f x.1 d) x.2 := rfl
theorem q_eIsi {oc : List Nat} {cs : List CT} : eIsi oc cs a env = (a env).bind fun x => ofO ((isiB oc cs x.1).map .bl) x.2 := rfl
theorem q_it1 {xs : List D} : itemsOf (.lst xs) = some xs := rfl
theorem q_it2 {xs : List D} : itemsOf (.scr xs) = some xs := rfl
theorem q_it3 {xs : List D} : itemsOf (.tup xs) = some xs := rfl
def r1Of : List D → Option (List D)
  | [.int j] => if -4611686018427387904 ≤ j ∧ j < 4611686018427387904 then some (rangeL 0 j.toNat) else none
  | _ => none
theorem q_iR1 : iR1 r env = (r env).bind fun x => ofO (r1Of x.1) x.2 := by
  rfl
theorem q_r1 {j : Int} (h : 0 ≤ j) (h2 : j < 4611686018427387904) : r1Of [.int j] = some (rangeL 0 j.toNat) := if_pos ⟨by omega, h2⟩
def zpOf : List D → Option (List D)
  | [.lst xs, .lst ys] => some (zipL xs ys)
  | [.tup xs, .tup ys] => some (zipL xs ys)
  | _ => none
theorem q_iZp : iZp r env = (r env).bind fun x => ofO (zpOf x.1) x.2 := by
  rfl
theorem q_zp {xs ys : List D} : zpOf [.tup xs, .tup ys] = some (zipL xs ys) := rfl
theorem q_eLc {fi : EM (List D)} {vs : List Nat} {tg : TgM} {tc : EM Bool} : eLc fi vs tg tc a env = (fi env).bind fun x => match lcLoop tg vs tc a x.1 (wipeE x.2 vs) [] with
  | .ok (acc, e2) => .ok (.lst acc, restE x.2 e2 vs)
  | _ => .bad := rfl
theorem q_eLc2 {fi fi1 : EM (List D)} {vs vs1 : List Nat} {tg tg1 : TgM} {tc tc1 : EM Bool} : eLc2 fi vs tg tc fi1 vs1 tg1 tc1 a env = (fi env).bind fun x => match lc2Loop tg vs tc fi1 tg1 vs1 tc1 a x.1 (wipeE x.2 vs) [] with
  | .ok (acc, e2) => .ok (.lst acc, restE x.2 e2 vs)
  | _ => .bad := rfl
theorem q_oNone : oNone env = .ok (none, env) := rfl
def iOf : D → Option (Option Int)
  | .int i => some (some i)
  | _ => none
theorem q_oSome : oSome a env = (a env).bind fun x => ofO (iOf x.1) x.2 := by
  rfl
theorem q_iOf {i : Int} : iOf (.int i) = some (some i) := rfl
theorem q_eSl {lo hi : EM (Option Int)} : eSl a lo hi env = (a env).bind fun x => (lo x.2).bind fun y => (hi y.2).bind fun z => ofO (sliceD x.1 y.1 z.1) z.2 := rfl
theorem q_sTry {n : Nat} {isa : Nat → Nat → Bool} {hs : List (Nat × Option Nat × SM)} : sTry n isa p hs env = match p env with
  | .er c fs e => if c < n then runH isa c fs e hs else .bad
  | r => r := rfl
theorem q_eXf {n : Nat} {f : Str} : eXf i n f env = match env[i]? with
  | some (some (.exc c fs)) => if c = n then (match fs.lookup f with
    | some d => .ok (d, env)
    | none => .bad) else .bad
  | _ => .bad := rfl
end
section
variable {i j : Int}
theorem q_lt : ltD (.int i) (.int j) = some (.bl (decide (i < j))) := rfl
theorem q_le : leD (.int i) (.int j) = some (.bl (decide (i ≤ j))) := rfl
theorem q_gt : gtD (.int i) (.int j) = some (.bl (decide (j < i))) := rfl
theorem q_ge : geD (.int i) (.int j) = some (.bl (decide (j ≤ i))) := rfl
theorem q_sub : subD (.int i) (.int j) = some (.int (i - j)) := rfl
theorem q_add : addD (.int i) (.int j) = some (.int (i + j)) := rfl
theorem q_iadd : iaddD (.int i) (.int j) = some (.int (i + j)) := rfl
theorem q_fdiv : fdivD (.int i) (.int j) = if 0 < j ∧ j.natAbs.log2 < 9000 then some (.int (i / j)) else none := rfl
theorem q_mod : modD (.int i) (.int j) = if 0 < j then some (.int (i % j)) else none := rfl
theorem q_pow : powD (.int i) (.int j) = if 0 ≤ j ∧ j ≤ 1000000 ∧ i.natAbs < 18446744073709551616 then some (.int (i ^ j.toNat)) else none := rfl
theorem q_imul : imulD (.int i) (.int j) = if i.natAbs < 18446744073709551616 ∨ j.natAbs < 18446744073709551616 then some (.int (i * j)) else none := rfl
theorem q_mul : mulD (.int i) (.int j) = if i.natAbs < 18446744073709551616 ∨ j.natAbs < 18446744073709551616 ∨ i.natAbs.log2 + j.natAbs.log2 < 1000000 then some (.int (i * j)) else none := rfl
theorem q_neg : negD (.int i) = some (.int (-i)) := rfl
theorem q_addT {xs ys : List D} (h : xs.length + ys.length ≤ 1000000) : addD (.tup xs) (.tup ys) = some (.tup (xs ++ ys)) := if_pos h
theorem q_addL {xs ys : List D} (h : xs.length + ys.length ≤ 1000000) : addD (.lst xs) (.lst ys) = some (.lst (xs ++ ys)) := if_pos h
theorem q_is {a b : Bool} : isD (.bl a) (.bl b) = some (.bl (decide (a = b))) := rfl
theorem q_nis {a b : Bool} : notIsD (.bl a) (.bl b) = some (.bl (!decide (a = b))) := rfl
theorem q_eq {d e : D} : eqD d e = (eqB d e).map .bl := rfl
theorem q_ne {d e : D} : neD d e = (eqB d e).map fun b => .bl (!b) := rfl
end
/-- a def at its arguments -/
theorem q_fn {m n : Nat} {p : SM} {ds : List D} (h : ds.length = m) : fnSem m n p ds = match p (entry n ds) with
  | .nx _ => .ok (.val .non)
  | .rt (.exc _ _) _ => .bad
  | .rt c _ => .ok c
  | .er c fs _ => .er c fs
  | _ => .bad := if_pos h
end DL
end

section
set_option Elab.async false
set_option linter.all false
set_option autoImplicit false
set_option maxRecDepth 100000
set_option maxHeartbeats 4000000
/-! ET: plain laws: dicts with new keys, dict comprehensions, sorting of what is sorted. -/
namespace DL
open PySem L2
theorem dget_none {k : D} : ∀ {kvs : List (D × D)}, (∀ p ∈ kvs, p.1 ≠ k) → dgetL kvs k = none
  | [], _ => rfl
  | (a, v) :: r, h => by
    unfold dgetL
    rw [if_neg (h (a, v) List.mem_cons_self)]
    exact dget_none fun p hp => h p (List.mem_cons_of_mem _ hp)
theorem kOk_tup {kvs : List (D × D)} {k : D} (hk : keyOk 8 k = true) (ht : isTup k = true) (ha : ∀ p ∈ kvs, isTup p.1 = true) : kOk kvs k = true := by
  unfold kOk
  rw [hk, Bool.true_and]
  cases kvs with
  | nil => rfl
  | cons p r =>
    have := ha p List.mem_cons_self
    obtain ⟨a, b⟩ := p
    simp only at this ⊢
    rw [this, ht]
    rfl
theorem put_new {acc : List (D × D)} {k v : D} (hk : keyOk 8 k = true) (ht : isTup k = true) (ha : ∀ p ∈ acc, isTup p.1 = true) (hn : ∀ p ∈ acc, p.1 ≠ k) (hl : acc.length < 1000000) : putD (.dct acc) k v = some (.dct (acc ++ [(k, v)])) := by
  unfold putD
  simp only
  rw [if_pos ⟨kOk_tup hk ht ha, hl⟩]
  unfold dputL
  rw [dget_none hn]
  rfl
end DL
end

section
set_option Elab.async false
set_option linter.all false
set_option autoImplicit false
set_option maxRecDepth 100000
set_option maxHeartbeats 4000000
/-! EU: loops and comprehensions over L.map enc, for rewriting in place. -/
namespace DL
open PySem L2
section
variable {α β : Type} {t t1 : TgM} {vs vs1 : List Nat} {c cc1 : EM Bool} {f fk fv : EM D} {fi1 : EM (List D)} {enc : α → D} {env : DEnv}
theorem lc_encA (p : α → Bool) (g : α → D) : ∀ {L : List α} {acc : List D}, acc.length + L.length ≤ 1000000 →
    (∀ a ∈ L, ∃ e1, t (enc a) env = some e1 ∧ c e1 = .ok (p a, e1) ∧ (p a = true → f e1 = .ok (g a, e1)) ∧ wipeE e1 vs = env) →
    lcLoop t vs c f (L.map enc) env acc = .ok (acc ++ (L.filter p).map g, env)
  | [], acc, _, _ => by simp [lcLoop]
  | a :: L, acc, hl, h => by
    obtain ⟨e1, h1, h2, h3, h4⟩ := h a List.mem_cons_self
    rw [List.length_cons] at hl
    rw [List.map_cons]
    unfold lcLoop
    rw [h1]
    simp only [h2]
    cases hp : p a with
    | true =>
      have ih := lc_encA p g (L := L) (acc := acc ++ [g a]) (by simp; omega) fun b hb => h b (List.mem_cons_of_mem _ hb)
      simp only [h3 hp]
      rw [if_pos (by omega), h4, ih, List.filter_cons, hp]
      simp
    | false =>
      have ih := lc_encA p g (L := L) (acc := acc) (by omega) fun b hb => h b (List.mem_cons_of_mem _ hb)
      simp only
      rw [h4, ih, List.filter_cons, hp]
      rfl
theorem lc_encM (g : α → D) {L : List α} {acc : List D} (hl : acc.length + L.length ≤ 1000000) (h : ∀ a ∈ L, ∃ e1, t (enc a) env = some e1 ∧ f e1 = .ok (g a, e1) ∧ wipeE e1 vs = env) :
    lcLoop t vs tYs f (L.map enc) env acc = .ok (acc ++ L.map g, env) := by
  have hf : (L.filter fun _ => true) = L := List.filter_eq_self.mpr fun _ _ => rfl
  rw [lc_encA (fun _ => true) g hl (by
    intro a ha
    obtain ⟨e1, h1, h2, h3⟩ := h a ha
    exact ⟨e1, h1, rfl, fun _ => h2, h3⟩), hf]
theorem lc_enc (g : α → D) {L : List α} (hl : L.length ≤ 1000000) (h : ∀ a ∈ L, ∃ e1, t (enc a) env = some e1 ∧ f e1 = .ok (g a, e1) ∧ wipeE e1 vs = env) :
    lcLoop t vs tYs f (L.map enc) env [] = .ok (L.map g, env) := by
  rw [lc_encM g (by simpa using hl) h]
  simp
end
end DL
end

section
set_option Elab.async false
set_option linter.all false
set_option autoImplicit false
set_option maxRecDepth 100000
set_option maxHeartbeats 4000000
/-! EV: sum(xs). -/
namespace DL
open PySem L2
section
variable {G : Gm}
end
end DL
end

section
set_option Elab.async false
set_option linter.all false
set_option autoImplicit false
set_option maxRecDepth 100000
set_option maxHeartbeats 4000000
/-! EW: targets at work; sums over lists. -/
namespace DL
section
variable {env : DEnv} {i : Nat} {d : D} {ds : List D} {t : TgM} {r : TgMs}
theorem q_tgN : tgN i d env = some (env.set i (some (.val d))) := rfl
theorem q_tgT : tgT r (.tup ds) env = r ds env := rfl
theorem q_tg0 : tgNil [] env = some env := rfl
theorem q_tgC : tgCons t r (d :: ds) env = (t d env).bind (r ds) := rfl
theorem q_obd {α β : Type} {a : α} {f : α → Option β} : (some a).bind f = f a := rfl
end
section
variable {α β : Type}
end
end DL
end

section
set_option Elab.async false
set_option linter.all false
set_option autoImplicit false
set_option maxRecDepth 100000
set_option maxHeartbeats 4000000
/-! EX: d.setdefault(k, []).append((u, w)) over tuple keys; a slot frozen ahead of a statement. -/
namespace DL
open PySem L2 PyProof.Rows PySem.Spec
/-! ### a slot is frozen first -/
/-! ### setdefault over tuple keys -/
/-! ### the dict of lists as data -/
section
variable {G : Gm} {F H : Hp} {o : Own}
end
/-! ### the statement -/
section
variable {G : Gx} {X : Cx} {W : WX}
end
end DL
end

section
set_option Elab.async false
set_option linter.all false
set_option autoImplicit false
set_option maxRecDepth 100000
set_option maxHeartbeats 4000000
/-! EY: a op b op c; (a, b, ..) = a list. -/
namespace DL
open PySem L2 PyProof.Rows PySem.Spec
def eCh (f g : D → D → Option D) (a b c : EM D) : EM D := bnd a fun x => bnd b fun y => fun env => match f x y with
  | some (.bl true) => bnd c (fun z => ofO (g y z)) env
  | some (.bl false) => .ok (.bl false, env)
  | _ => .bad
section
variable {G : Gx} {X : Cx} {W : WX} {a b c : Expr} {fa fb fc : EM D} {pos : Pos}
theorem q_eCh {env : DEnv} {f g : D → D → Option D} : eCh f g fa fb fc env = (fa env).bind fun x => (fb x.2).bind fun y => match f x.1 y.1 with
  | some (.bl true) => (fc y.2).bind fun z => ofO (g y.1 z.1) z.2
  | some (.bl false) => .ok (.bl false, y.2)
  | _ => .bad := rfl
end
/-- a target for a list or a tuple -/
def tgU (r : TgMs) : TgM := fun d env => match d with
  | .tup ds => r ds env
  | .lst ds => r ds env
  | _ => none
section
variable {G : Gx} {X : Cx} {is : List Nat} {pos : Pos}
theorem q_tgUt {env : DEnv} {ds : List D} {r : TgMs} : tgU r (.tup ds) env = r ds env := rfl
theorem q_tgUl {env : DEnv} {ds : List D} {r : TgMs} : tgU r (.lst ds) env = r ds env := rfl
end
end DL
end

section
set_option Elab.async false
set_option linter.all false
set_option autoImplicit false
set_option maxRecDepth 100000
set_option maxHeartbeats 4000000
/-! EZ: what is never reached; dict(pairs), dict(d); xs[::-1]. -/
namespace DL
open PySem L2 PyProof.Rows PySem.Spec
/-! ### never reached -/
/-! ### dict(..) -/
section
variable {X : Cx}
end
section
variable {G : Gm} {F H : Hp}
end
/-! ### xs[::-1] -/
end DL
end

section
set_option Elab.async false
set_option linter.all false
set_option autoImplicit false
set_option maxRecDepth 100000
set_option maxHeartbeats 4000000
/-! Ea: calls with keywords. -/
namespace DL
open PySem L2 PyProof.Rows PySem.Spec
def pickL {α : Type} (ix : List Nat) (l : List α) : List α := ix.filterMap fun i => l[i]?
def aKw (n m : Nat) (ix : List Nat) (fa fk : EM (List D)) : EM (List D) := bnd fa fun ds => bnd fk fun es => ofO (if ds.length = n ∧ es.length = m then some (pickL ix (ds ++ es)) else none)
section
variable {X : Cx} {k n : Nat} {f C : Addr} {fd : FuncData} {ps ks : List Str} {ix : List Nat} {sp : Sp} {x : Str} {p pos : Pos} {e : Expr} {es : List Expr} {kws : List Keyword} {t tk : TA} {W : WX}
end
section
variable {G : Gx} {X : Cx} {W : WX} {e : Expr} {fe : EM D} {kws : List Keyword} {fr : EM (List D)} {nm : Option Str} {kpos : Pos}
end
/-! ### defs called so -/
section
variable {G : Gx} {X : Cx} {W : WX} {B F0 F H : Hp} {o : Own} {σ : L2.St} {env : DEnv} {Q : VK}
end
section
variable {G : Gx} {X : Cx} {W : WX} {a : Expr} {es : List Expr} {kws : List Keyword} {x : Str} {N n : Nat} {ks : List Str} {ix : List Nat} {Φ : List D → FR} {fr fk : EM (List D)} {p pos : Pos}
end
theorem q_aKw {n m : Nat} {ix : List Nat} {fa fk : EM (List D)} {env : DEnv} : aKw n m ix fa fk env = (fa env).bind fun x => (fk x.2).bind fun y => ofO (if x.1.length = n ∧ y.1.length = m then some (pickL ix (x.1 ++ y.1)) else none) y.2 := rfl
end DL
end

section
set_option Elab.async false
set_option linter.all false
set_option autoImplicit false
set_option maxRecDepth 100000
set_option maxHeartbeats 4000000
/-! Eb: C(e, .., k = v, ..); defs and classes as they stand, for such calls. -/
namespace DL
open PySem L2 PyProof.Rows PySem.Spec
section
variable {G : Gx} {X : Cx} {W : WX} {a : Expr} {es : List Expr} {kws : List Keyword} {x : Str} {N n c : Nat} {ks : List Str} {ix : List Nat} {sout : Sh} {shs : List (Str × Sh)} {Φ : D → List D → FT} {fr fk : EM (List D)} {p pos : Pos}
end
/-! ### as they stand -/
section
variable {P : Program} {w : World} {K : PySem.W.Frag} {mg : Str → Option Value} {base : Heap} {cl : Nat → Addr}
end
end DL
end

section
set_option Elab.async false
set_option linter.all false
set_option autoImplicit false
set_option maxRecDepth 100000
set_option maxHeartbeats 4000000
/-! Ec: a op b op c as a test; len(set(xs)) of numbers and texts (the loop follows that of HandS.Strs). -/
namespace DL
open PySem L2 PyProof.Rows PySem.Spec
/-! ### set(xs) of keys -/
/-- the keys met so far, each once -/
def hasK (l : List Key) (k : Key) : Bool := l.any fun j => decide (j = k)
def addK (l : List Key) (k : Key) : List Key := if hasK l k = true then l else l ++ [k]
def onceK (ks : List Key) : List Key := ks.foldl addK []
section
variable {prog : Program} {w : World} {A : Around} {R : Result → Shared → Prop} {I : Addr} {fp wr : List Addr} {Gg : Array GenState → Array GenState → Prop} {n : Nat} {P : Nat → Value → Prop} {St : Nat → Shared → Prop}
end

end DL
end

section
set_option Elab.async false
set_option linter.all false
set_option autoImplicit false
set_option maxRecDepth 100000
set_option maxHeartbeats 4000000
/-! Ed: len(set(xs)) by data. -/
namespace DL
open PySem L2 PyProof.Rows PySem.Spec
/-! ### len(set(xs)) -/
def keysD : List D → Option (List Key)
  | [] => some []
  | d :: r => (toK d).bind fun k => (keysD r).map fun ks => k :: ks
section
variable {G : Gx} {X : Cx} {W : WX}
end
end DL
end

section
set_option Elab.async false
set_option linter.all false
set_option autoImplicit false
set_option maxRecDepth 100000
set_option maxHeartbeats 4000000
/-! Ee: set comprehensions of keys and of tuples of ints (the core follows that of HandS.SetBool). -/
namespace DL
open PySem L2 PyProof.Rows PySem.Spec
open PpSet (newSet_ok codeAny_compStart_set compLoopS_any eval_SetComp)
section
variable {X : Cx}
end
end DL
end

section
set_option Elab.async false
set_option linter.all false
set_option autoImplicit false
set_option maxRecDepth 100000
set_option maxHeartbeats 4000000
/-! Ef: set comprehensions, one clause (the core follows that of HandS.SetBool). -/
namespace DL
open PySem L2 PyProof.Rows PySem.Spec
open PpSet (newSet_ok codeAny_compStart_set compLoopS_any eval_SetComp)
section
variable {X : Cx}
end
end DL
end

section
set_option Elab.async false
set_option linter.all false
set_option autoImplicit false
set_option maxRecDepth 100000
set_option maxHeartbeats 4000000
/-! Eg: len of a set comprehension by data. -/
namespace DL
open PySem L2 PyProof.Rows PySem.Spec
def intsG : List D → Option (List Int)
  | [] => some []
  | .int i :: r => (intsG r).map fun ns => i :: ns
  | _ => none
def tupI : D → Option (List Int)
  | .tup ds => intsG ds
  | _ => none
def tupsD : List D → Option (List (List Int))
  | [] => some []
  | d :: r => (tupI d).bind fun k => (tupsD r).map fun ks => k :: ks
def addT (l : List (List Int)) (k : List Int) : List (List Int) := if k ∈ l then l else l ++ [k]
def onceT (ks : List (List Int)) : List (List Int) := ks.foldl addT []
def lenSK (ds : List D) : Option D := if ds.length ≤ 1000 then (keysD ds).map fun ks => .int (onceK ks).length else none
def lenST (ds : List D) : Option D := if ds.length ≤ 60 then (tupsD ds).map fun ks => .int (onceT ks).length else none
def lenSD (tp : Bool) (ds : List D) : Option D := match tp with
  | false => lenSK ds
  | true => lenST ds
def eLenSc (tp : Bool) (fi : EM (List D)) (vs : List Nat) (t : TgM) (c : EM Bool) (f : EM D) : EM D := bnd fi fun ds e1 => match lcLoop t vs c f ds (wipeE e1 vs) [] with
  | .ok (acc, e2) => ofO (lenSD tp acc) (restE e1 e2 vs)
  | _ => .bad
section
variable {G : Gx} {X : Cx} {W : WX}
theorem q_eLenSc {env : DEnv} {tp : Bool} {fi : EM (List D)} {vs : List Nat} {t : TgM} {c : EM Bool} {f : EM D} : eLenSc tp fi vs t c f env = (eLc fi vs t c f env).bind fun x => match x.1 with
  | .lst acc => ofO (lenSD tp acc) x.2
  | _ => .bad := by
  unfold eLenSc eLc bnd
  cases fi env with
  | ok z =>
    simp only [Res.bind]
    cases lcLoop t vs c f z.1 (wipeE z.2 vs) [] with
    | ok z2 => rfl
    | er _ _ _ => rfl
    | bad => rfl
  | er _ _ _ => rfl
  | bad => rfl
end
end DL
end

section
set_option Elab.async false
set_option linter.all false
set_option autoImplicit false
set_option maxRecDepth 100000
set_option maxHeartbeats 4000000
/-! Eh: a, b = x, y with fresh containers where a name is a cell. -/
namespace DL
open PySem L2 PyProof.Rows PySem.Spec
section
variable {X : Cx} {G : Gx} {W : WX}
end
end DL
end

section
set_option Elab.async false
set_option linter.all false
set_option autoImplicit false
set_option maxRecDepth 100000
set_option maxHeartbeats 4000000
/-! Ei: y = {k: v for ..}, y a plain local, on one line (follows HandS.Comp's rule for lists). -/
namespace DL
open PySem L2 PyProof.Rows PySem.Spec
section
variable {X : Cx} {G : Gx} {W : WX} {kx vx tg iter tg1 iter1 : Expr} {ifs ifs1 : List Expr} {scope : Scope} {own : List (Str × Nat)} {vs1 : List Nat} {pos spos py : Pos} {i : Nat} {y : Str}
end
end DL
end

section
set_option Elab.async false
set_option linter.all false
set_option autoImplicit false
set_option maxRecDepth 100000
set_option maxHeartbeats 4000000
/-! Ej: enumerate(a tuple) (follows the library's for lists). -/
namespace DL
open PySem L2 PyProof.Rows PySem.Spec
open AutoSeq1 (wpAny_loadPart')
def iEnA (a : EM (List D)) : EM (List D) := bnd a fun ds => ofO (match ds with
  | [.lst xs] => some (enumL 0 xs)
  | [.tup xs] => some (enumL 0 xs)
  | _ => none)
def enOf : List D → Option (List D)
  | [.lst xs] => some (enumL 0 xs)
  | [.tup xs] => some (enumL 0 xs)
  | _ => none
theorem q_iEnA {a : EM (List D)} {env : DEnv} : iEnA a env = (a env).bind fun x => ofO (enOf x.1) x.2 := rfl
theorem q_enT {xs : List D} : enOf [.tup xs] = some (enumL 0 xs) := rfl
theorem q_enL {xs : List D} : enOf [.lst xs] = some (enumL 0 xs) := rfl
end DL
end

section
set_option Elab.async false
set_option linter.all false
set_option autoImplicit false
set_option maxRecDepth 100000
set_option maxHeartbeats 4000000
/-! Ek: sorted([(), (), ..]). -/
namespace DL
open PySem L2 PyProof.Rows PySem.Spec SrtO
section
variable {prog : Program} {w : World} {A : Around} {E : Value → Shared → Prop} {s : Shared}
end
end DL
end

section
set_option Elab.async false
set_option linter.all false
set_option autoImplicit false
set_option maxRecDepth 100000
set_option maxHeartbeats 4000000
/-! El: while; {k: v}; a def that changes its first argument, called with a new object. -/
namespace DL
open PySem L2 PyProof.Rows PySem.Spec
/-! ### while, at most n turns -/
section
variable {G : Gx} {X : Cx} {W : WX} {c : Expr} {body : List Stmt} {pos : Pos}
end
/-! ### {k: v} -/
section
variable {G : Gx} {X : Cx} {W : WX}
end
section
variable {G : Gx} {X : Cx} {W : WX} {k v : Expr} {fk fv : EM D} {pos : Pos}
end
/-! ### f(new object, ..), where f changes its first argument -/
section
variable {G : Gx} {X : Cx} {W : WX} {e0 : Expr} {es : List Expr} {x : Str} {n : Nat} {sout : Sh} {Φ : D → List D → FT} {f0 : EM D} {fr : EM (List D)} {p pos : Pos}
end
end DL
end

section
set_option Elab.async false
set_option linter.all false
set_option autoImplicit false
set_option maxRecDepth 100000
set_option maxHeartbeats 4000000
/-! Em: list(d), sorted(d) of a dict whose keys are numbers and texts. -/
namespace DL
open PySem L2 PyProof.Rows PySem.Spec SrtO
section
variable {prog : Program} {w : World} {A : Around} {E : Value → Shared → Prop} {s : Shared} {T : String} {r d : Addr} {n : Nat} {P : Nat → Value → Prop} {OK : Heap → Prop}
end
section
variable {G : Gm} {X : Cx}
end
end DL
end

section
set_option Elab.async false
set_option linter.all false
set_option autoImplicit false
set_option maxRecDepth 100000
set_option maxHeartbeats 4000000
/-! En: dict(list of pairs whose keys are tuples). -/
namespace DL
open PySem L2 PyProof.Rows PySem.Spec
section
variable {X : Cx}
end
/-! ### by data -/
section
variable {G : Gm} {F H : Hp}
end
end DL
end

section
set_option Elab.async false
set_option linter.all false
set_option autoImplicit false
set_option maxRecDepth 100000
set_option maxHeartbeats 4000000
/-! Eo: tuple * 1. -/
namespace DL
open PySem L2 PyProof.Rows PySem.Spec
section
variable {X : Cx}
end
end DL
end

section
set_option Elab.async false
set_option linter.all false
set_option autoImplicit false
set_option maxRecDepth 100000
set_option maxHeartbeats 4000000
/-! Ep: isinstance of the error that a suite has caught. -/
namespace DL
open PySem L2 PyProof.Rows PySem.Spec
structure XiC (K : PySem.W.Frag) (C : Addr) : Prop where
  hc : (PySem.W.clsIn K C).isSome = true
  xf : XfC K C
  ha : PySem.W.findIn K (.ref C) "__class__" = some (some (.builtin "object.__class__"))
  hn : PySem.W.specialIn K (.builtin "object.__class__") "__get__" = some (some (.builtin "getset_descriptor.__get__"))
  ht : PySem.W.takesIn K (.builtin "object.__class__") = some true
  hm : PySem.W.mroIn K C (.type "object") = some true
section
variable {K : PySem.W.Frag} {t c : Value} {cs : List Value} {b : Bool}
theorem kit_obB {C : Addr} {a : String} (hm : PySem.W.kitMeta a = true) (h4 : PySem.W.subIn K (.ref C) (.type a) = some b) : PySem.W.kitOne K (.ref C) (.type a) = some b := by
  unfold PySem.W.kitOne
  rw [if_neg (by intro h; exact nomatch (eq_of_beq h))]
  unfold PySem.W.kitCls
  simp only [hm, if_true, h4]
end
section
variable {G : Gm} {bp : List (Nat × Addr)} {X : Cx} {W : WX} {a : Addr} {oe : Obj} {cls : Value} {d : Option Addr} {pn : List (Addr × Obj)} {x : Str} {i c0 : Nat} {b : Bool} {pos p p0 p2 : Pos} {ec : Expr}
theorem pcx_b {G : Gm} {X : Cx} {x : Str} {p2 : Pos} {T : String} (hm : X.mg x = none) (hv : bootBuiltins x = some (.type T)) (hg : Gl X x := by rfl) (hn : x ≠ "__name__" := by decide) (hd : (x == ("__debug__" : Str)) = false := by decide) : PCls G X (.Name x p2) (.b T) := ⟨.ty T, pe_bltn (v := .ty T) hg hm hv rfl hn hd, .ty T⟩
theorem pcx_o {G : Gm} {X : Cx} {x : Str} {p2 : Pos} {c : Nat} (hm : X.mg x = some (.ref (G.cl c))) (hg : Gl X x := by rfl) (hd : (x == ("__debug__" : Str)) = false := by decide) : PCls G X (.Name x p2) (.o c) := ⟨.ref (G.cl c), pe_glob (v := .ref (G.cl c)) hg hm rfl hd, .own _⟩
end
end DL
end

section
set_option Elab.async false
set_option linter.all false
set_option autoImplicit false
set_option maxRecDepth 100000
set_option maxHeartbeats 4000000
/-! Eq: repr of data that hold dicts (keys: numbers, texts). -/
namespace DL
open PySem L2 PyProof.Rows PySem.Spec
mutual
/-- v reads as d, and no dict in it is that of the modules -/
inductive Rdx (h : Heap) : Value → PyData → Prop
  | non : Rdx h .none .none
  | bl (b : Bool) : Rdx h (.bool b) (.bool b)
  | int (i : Int) (t : Tok) : Rdx h (.int i t) (.int i)
  | str (x : Str) (t : Tok) : Rdx h (.str x t) (.str x)
  | lst {a : Addr} {o : Obj} {vs : Array Value} {n : Nat} {xs : List PyData} : h.get? a = some o → o.cls = .type "list" → o.data = .seq vs n → RdxL h vs.toList xs → Rdx h (.ref a) (.list xs)
  | tup {a : Addr} {o : Obj} {vs : Array Value} {n : Nat} {xs : List PyData} : h.get? a = some o → o.cls = .type "tuple" → o.data = .seq vs n → RdxL h vs.toList xs → Rdx h (.ref a) (.tuple xs)
  | dct {a : Addr} {o : Obj} {es : Array DictEntry} {n : Nat} {l : List (PyData × PyData)} : h.get? a = some o → o.cls = .type "dict" → o.data = .dict es n → (a == sysModules) = false → RdxL h (es.toList.map (·.key)) (l.map (·.1)) → RdxL h (es.toList.map (·.val)) (l.map (·.2)) → Rdx h (.ref a) (.dict l)
inductive RdxL (h : Heap) : List Value → List PyData → Prop
  | nil : RdxL h [] []
  | cons {v : Value} {vs : List Value} {d : PyData} {ds : List PyData} : Rdx h v d → RdxL h vs ds → RdxL h (v :: vs) (d :: ds)
end
section
variable {h : Heap}
mutual
theorem Rdx.reads : ∀ {v : Value} {d : PyData}, Rdx h v d → ∃ as, Reads h v d as
  | _, _, .non => ⟨_, .none⟩
  | _, _, .bl b => ⟨_, .bool b⟩
  | _, _, .int i t => ⟨_, .int i t⟩
  | _, _, .str x t => ⟨_, .str x t⟩
  | _, _, .lst h1 h2 h3 r => let ⟨_, q⟩ := RdxL.reads r; ⟨_, .list h1 h2 h3 q⟩
  | _, _, .tup h1 h2 h3 r => let ⟨_, q⟩ := RdxL.reads r; ⟨_, .tuple h1 h2 h3 q⟩
  | _, _, .dct h1 h2 h3 _ r1 r2 => let ⟨_, q1⟩ := RdxL.reads r1; let ⟨_, q2⟩ := RdxL.reads r2; ⟨_, .dict h1 h2 h3 q1 q2⟩
theorem RdxL.reads : ∀ {v : List Value} {d : List PyData}, RdxL h v d → ∃ as, ReadsAll h v d as
  | _, _, .nil => ⟨_, .nil⟩
  | _, _, .cons r1 r2 => let ⟨_, q1⟩ := Rdx.reads r1; let ⟨_, q2⟩ := RdxL.reads r2; ⟨_, .cons q1 q2⟩
end
end
section
variable {prog : Program} {w : World} {h : Heap}
mutual
theorem Rdx.rk : ∀ {v : Value} {d : PyData}, Rdx h v d → d.showable = true → d.shown.length ≤ sizeLine → ∃ bs, ReadAtMost h d.depth bs ∧ ReprK prog w bs h d.depth v d.shown
  | _, _, .non, _, _ => by
    refine ⟨[], (fun _ z => by cases z), ?_⟩
    rw [PyData.shown]
    exact .of_is ReprIs.none _ _ _
  | _, _, .bl b, _, _ => by
    refine ⟨[], (fun _ z => by cases z), ?_⟩
    rw [PyData.shown]
    exact .of_is (ReprIs.bool b) _ _ _
  | _, _, .int i t, q, _ => by
    refine ⟨[], (fun _ z => by cases z), ?_⟩
    rw [PyData.showable] at q
    rw [PyData.shown]
    exact .of_is (ReprIs.int t (of_decide_eq_true q)) _ _ _
  | _, _, .str x t, _, z => by
    refine ⟨[], (fun _ z => by cases z), ?_⟩
    rw [PyData.shown] at z ⊢
    exact .of_is (ReprIs.str x t z) _ _ _
  | _, _, .lst (a := a) (vs := vs) (xs := xs) h1 h2 h3 r, q, z => by
    rw [PyData.showable] at q
    rw [PyData.shown] at z
    obtain ⟨bs, e1, e2⟩ := RdxL.rk r q fun t ht => Nat.le_trans (listText_mem_le ht) z
    obtain ⟨as, rr⟩ := Rdx.reads (.lst h1 h2 h3 r)
    have hd : PyData.depthAll xs < (PyData.list xs).depth := by rw [PyData.depth]; omega
    have hn := not_mem_of_deeper rr hd e1
    refine ⟨a :: bs, ReadAtMost.cons rr (Nat.le_of_lt hd) e1, ?_⟩
    rw [PyData.depth, PyData.shown]
    obtain ⟨l⟩ := vs
    cases l with
    | cons x l => exact ReprK.list h1 h2 h3 hn (by simpa using e2.length_eq) fun i y e => e2.item i y (by simpa using e)
    | nil =>
      have r' : RdxL h [] xs := r
      cases r'
      rw [PyData.shownAll, listText_nil]
      exact ReprK.listEmpty h1 h2 h3
  | _, _, .tup (a := a) (vs := vs) (xs := xs) h1 h2 h3 r, q, z => by
    rw [PyData.showable] at q
    rw [PyData.shown] at z
    obtain ⟨bs, e1, e2⟩ := RdxL.rk r q fun t ht => Nat.le_trans (tupleText_mem_le ht) z
    obtain ⟨as, rr⟩ := Rdx.reads (.tup h1 h2 h3 r)
    have hd : PyData.depthAll xs < (PyData.tuple xs).depth := by rw [PyData.depth]; omega
    refine ⟨a :: bs, ReadAtMost.cons rr (Nat.le_of_lt hd) e1, ?_⟩
    rw [PyData.depth, PyData.shown]
    exact ReprK.tuple h1 h2 h3 (not_mem_of_deeper rr hd e1) e2
  | _, _, .dct (a := a) (es := es) (l := l) h1 h2 h3 hs r1 r2, q, z => by
    rw [PyData.showable] at q
    rw [PyData.shown] at z
    obtain ⟨q1, q2⟩ := PyData.showableKv_split l q
    obtain ⟨b1, e1, k1⟩ := RdxL.rk r1 q1 fun t ht => by
      obtain ⟨p, p1, p2⟩ := PyData.shownKv_key_le l t ht
      exact Nat.le_trans p2 (Nat.le_trans (dictText_mem_le p1) z)
    obtain ⟨b2, e2, k2⟩ := RdxL.rk r2 q2 fun t ht => by
      obtain ⟨p, p1, p2⟩ := PyData.shownKv_val_le l t ht
      exact Nat.le_trans p2 (Nat.le_trans (dictText_mem_le p1) z)
    obtain ⟨as, rr⟩ := Rdx.reads (.dct h1 h2 h3 hs r1 r2)
    have hd : PyData.depthKv l < (PyData.dict l).depth := by rw [PyData.depth]; omega
    have eb := (e1.mono (PyData.depthAll_keys_le l)).append (e2.mono (PyData.depthAll_vals_le l))
    refine ⟨a :: (b1 ++ b2), ReadAtMost.cons rr (Nat.le_of_lt hd) eb, ?_⟩
    rw [PyData.depth, PyData.shown, PyData.shownKv_eq]
    exact ReprK.dict h1 h2 h3 hs (not_mem_of_deeper rr hd eb) (.of_two es.toList _ _ (k1.more_le (fun b z => List.mem_append_left _ z) (PyData.depthAll_keys_le l)) (k2.more_le (fun b z => List.mem_append_right _ z) (PyData.depthAll_vals_le l)))
theorem RdxL.rk : ∀ {v : List Value} {d : List PyData}, RdxL h v d → PyData.showableAll d = true → (∀ t ∈ PyData.shownAll d, t.length ≤ sizeLine) → ∃ bs, ReadAtMost h (PyData.depthAll d) bs ∧ ReprAllK prog w bs h (PyData.depthAll d) v (PyData.shownAll d)
  | _, _, .nil, _, _ => by
    refine ⟨[], (fun _ z => by cases z), ?_⟩
    rw [PyData.shownAll]
    exact .nil
  | _, _, .cons (d := d) (ds := ds) r rs, q, z => by
    rw [PyData.showableAll, Bool.and_eq_true] at q
    rw [PyData.shownAll] at z
    obtain ⟨b1, e1, k1⟩ := Rdx.rk r q.1 (z _ List.mem_cons_self)
    obtain ⟨b2, e2, k2⟩ := RdxL.rk rs q.2 fun t ht => z t (List.mem_cons_of_mem _ ht)
    have m1 : d.depth ≤ PyData.depthAll (d :: ds) := by rw [PyData.depthAll]; exact Nat.le_max_left _ _
    have m2 : PyData.depthAll ds ≤ PyData.depthAll (d :: ds) := by rw [PyData.depthAll]; exact Nat.le_max_right _ _
    refine ⟨b1 ++ b2, (e1.mono m1).append (e2.mono m2), ?_⟩
    rw [PyData.shownAll]
    exact .cons ((k1.more fun b z => List.mem_append_left _ z).level_le m1) (k2.more_le (fun b z => List.mem_append_right _ z) m2)
end
end
section
variable {prog : Program} {w : World} {h : Heap} {A : Around} {E : Value → Shared → Prop} {s : Shared} {Q : Value → Shared → Prop}
theorem Rdx.call {a : Addr} {d : PyData} (r : Rdx s.heap (.ref a) d) (hs : d.showable = true) (hg : A.guards = some []) (hu : A.units + (d.depth + 1) < cLine)
    (hQ : ∀ h' u tk, (∀ b o, s.heap.get? b = some o → h'.get? b = some o) → Q (.str d.shown u) { s with heap := h', toks := tk }) (hz : d.shown.length ≤ sizeLine) : wpAny (model prog w) A (call (.builtin "repr") [.ref a]) Q E s := by
  have g1 : A.in1.guards = some [] := hg
  cases r with
  | @lst _ o vs n xs h1 h2 h3 rl =>
    rw [PyData.showable] at hs
    rw [PyData.shown] at hz hQ
    rw [PyData.depth] at hu
    obtain ⟨bs, e1, e2⟩ := RdxL.rk (prog := prog) (w := w) rl hs fun t ht => Nat.le_trans (listText_mem_le ht) hz
    obtain ⟨as, rr⟩ := Rdx.reads (.lst h1 h2 h3 rl)
    have hn := not_mem_of_deeper rr (by rw [PyData.depth]; omega) e1
    refine call_repr_slot (by omega) ⟨o, h1, h2⟩ F.slot_list_repr.toG ?_
    obtain ⟨l⟩ := vs
    cases l with
    | nil =>
      have r' : RdxL s.heap [] xs := rl
      cases r'
      rw [PyData.shownAll, listText_nil] at hQ
      exact call_list_repr_empty ⟨o, h1, h2⟩ h1 h3 ⟨_, _, rfl, hQ s.heap _ _ fun _ _ e => e⟩
    | cons x l => exact call_list_reprK h1 h2 h3 hn (by simpa using e2.length_eq) (fun i y e => e2.item i y (by simpa using e)) g1 (fun b _ => Clear.nil b) (by show A.units + 1 + _ < cLine; omega) (fun _ _ e => e) (fun h' u tk hk => ⟨_, _, rfl, hQ h' u tk hk⟩) hz
  | @tup _ o vs n xs h1 h2 h3 rl =>
    rw [PyData.showable] at hs
    rw [PyData.shown] at hz hQ
    rw [PyData.depth] at hu
    obtain ⟨bs, e1, e2⟩ := RdxL.rk (prog := prog) (w := w) rl hs fun t ht => Nat.le_trans (tupleText_mem_le ht) hz
    obtain ⟨as, rr⟩ := Rdx.reads (.tup h1 h2 h3 rl)
    have hn := not_mem_of_deeper rr (by rw [PyData.depth]; omega) e1
    refine call_repr_slot (by omega) ⟨o, h1, h2⟩ F.slot_tuple_repr ?_
    exact call_tuple_reprK h1 h2 h3 hn e2 g1 (fun b _ => Clear.nil b) (by show A.units + 1 + _ < cLine; omega) (fun _ _ e => e) (fun h' u tk hk => ⟨_, _, rfl, hQ h' u tk hk⟩) hz
  | @dct _ o es n l h1 h2 h3 hsy r1 r2 =>
    have ck := Rdx.rk (prog := prog) (w := w) (.dct h1 h2 h3 hsy r1 r2) hs hz
    rw [PyData.showable] at hs
    rw [PyData.shown] at hz hQ
    rw [PyData.depth] at hu
    obtain ⟨q1, q2⟩ := PyData.showableKv_split l hs
    obtain ⟨b1, e1, k1⟩ := RdxL.rk (prog := prog) (w := w) r1 q1 fun t ht => by
      obtain ⟨p, p1, p2⟩ := PyData.shownKv_key_le l t ht
      exact Nat.le_trans p2 (Nat.le_trans (dictText_mem_le p1) hz)
    obtain ⟨b2, e2, k2⟩ := RdxL.rk (prog := prog) (w := w) r2 q2 fun t ht => by
      obtain ⟨p, p1, p2⟩ := PyData.shownKv_val_le l t ht
      exact Nat.le_trans p2 (Nat.le_trans (dictText_mem_le p1) hz)
    obtain ⟨as, rr⟩ := Rdx.reads (.dct h1 h2 h3 hsy r1 r2)
    have eb := (e1.mono (PyData.depthAll_keys_le l)).append (e2.mono (PyData.depthAll_vals_le l))
    have hn := not_mem_of_deeper rr (by rw [PyData.depth]; omega) eb
    refine call_repr_slot (by omega) ⟨o, h1, h2⟩ F.slot_dict_repr ?_
    rw [PyData.shownKv_eq] at hQ hz
    exact call_dict_reprK h1 h2 h3 hsy hn (.of_two es.toList _ _ (k1.more_le (fun b z => List.mem_append_left _ z) (PyData.depthAll_keys_le l)) (k2.more_le (fun b z => List.mem_append_right _ z) (PyData.depthAll_vals_le l))) g1 (fun b _ => Clear.nil b) (by show A.units + 1 + _ < cLine; omega) (fun _ _ e => e) (fun h' u tk hk => ⟨_, _, rfl, hQ h' u tk hk⟩) hz
end
/-! ### by data -/
def pyK : D → Option PyData
  | .int i => some (.int i)
  | .str x => some (.str x)
  | _ => none
mutual
def pyD : D → Option PyData
  | .non => some .none
  | .bl b => some (.bool b)
  | .int i => some (.int i)
  | .str x => some (.str x)
  | .tup xs => (pyDL xs).map .tuple
  | .lst xs => (pyDL xs).map .list
  | .dct l => (pyDK l).map .dict
  | .scr _ => none
  | .set _ => none
  | .obj _ _ => none
def pyDL : List D → Option (List PyData)
  | [] => some []
  | x :: xs => (pyD x).bind fun a => (pyDL xs).map fun as => a :: as
def pyDK : List (D × D) → Option (List (PyData × PyData))
  | [] => some []
  | (k, x) :: r => (pyK k).bind fun c => (pyD x).bind fun a => (pyDK r).map fun l => (c, a) :: l
end
section
variable {G : Gm} {X : Cx} {F H : Hp} {pins : List (Addr × Obj)} {σ : L2.St} {s : Shared}
mutual
theorem Rep.rdx (fit : Fit G X) (ef : Ex F H) (I : Inv X pins σ H s) : ∀ {v : V} {d : D} {a : PyData} {u : Value}, Rep G F v d → pyD d = some a → RelV v u → Rdx s.heap u a
  | _, _, a, _, .non, e, r => by
    rw [pyD] at e
    cases e
    cases r
    exact .non
  | _, _, a, _, .bl b, e, r => by
    rw [pyD] at e
    cases e
    cases r
    exact .bl b
  | _, _, a, _, .int b, e, r => by
    rw [pyD] at e
    cases e
    obtain ⟨t, rfl⟩ := r
    exact .int b t
  | _, _, a, _, .str b, e, r => by
    rw [pyD] at e
    cases e
    obtain ⟨t, rfl⟩ := r
    exact .str b t
  | _, _, a, _, .tup h rl, e, r => by
    rw [pyD, Option.map_eq_some_iff] at e
    obtain ⟨as, e1, rfl⟩ := e
    cases r
    rw [fit.k] at h
    obtain ⟨its, rv, ⟨o, ho, hc, n, hd⟩, _⟩ := I.tuple (ex_t ef h)
    exact .tup ho hc hd (RepL.rdx fit ef I rl e1 rv)
  | _, _, a, _, .lst h rl, e, r => by
    rw [pyD, Option.map_eq_some_iff] at e
    obtain ⟨as, e1, rfl⟩ := e
    cases r
    obtain ⟨its, rv, ⟨o, n, ho, hc, _, hd⟩, _⟩ := I.list (sq_of (ef _ _ h))
    exact .lst ho hc hd (RepL.rdx fit ef I rl e1 rv)
  | _, _, a, _, .scr h rl, e, r => by
    rw [pyD] at e
    cases e
  | _, _, a, _, .dK h rk, e, r => by
    rw [pyD, Option.map_eq_some_iff] at e
    obtain ⟨l, e1, rfl⟩ := e
    cases r
    have h' := ef _ _ h
    rw [fit.p, fit.w] at h'
    obtain ⟨_, hsm, _, vs, kv, o, es, ep, ho, hx, hdat, _, hp, _⟩ := kd_rd I h'
    obtain ⟨q1, q2⟩ := RepK.rdx fit ef I rk e1 kv hp
    exact .dct ho hx.1 hdat hsm q1 q2
  | _, _, a, _, .dH h n rh, e, r => by
    rw [pyD, Option.map_eq_some_iff] at e
    obtain ⟨l, e1, rfl⟩ := e
    cases rh with
    | nil => exact absurd rfl n
    | cons hk rk rv rr =>
      rw [pyDK, Option.bind_eq_some_iff] at e1
      obtain ⟨c, e2, _⟩ := e1
      unfold pyK at e2
      split at e2
      · cases rk
        rename_i x
        cases x
        contradiction
      · cases rk
        rename_i x
        cases x
        contradiction
      · cases e2
  | _, _, a, _, .ins h rl, e, r => by
    rw [pyD] at e
    cases e
  | _, _, a, _, .ext _ x _, e, r => by
    cases x with
    | none z => exact z.elim
theorem RepL.rdx (fit : Fit G X) (ef : Ex F H) (I : Inv X pins σ H s) : ∀ {v : List V} {d : List D} {a : List PyData} {u : List Value}, RepL G F v d → pyDL d = some a → Vals v u → RdxL s.heap u a
  | _, _, a, _, .nil, e, r => by
    rw [pyDL] at e
    cases e
    cases r
    exact .nil
  | _, _, a, _, .cons r1 r2, e, r => by
    rw [pyDL, Option.bind_eq_some_iff] at e
    obtain ⟨b, e1, e⟩ := e
    rw [Option.map_eq_some_iff] at e
    obtain ⟨as, e2, rfl⟩ := e
    cases r with
    | cons k1 k2 => exact .cons (Rep.rdx fit ef I r1 e1 k1) (RepL.rdx fit ef I r2 e2 k2)
theorem RepK.rdx (fit : Fit G X) (ef : Ex F H) (I : Inv X pins σ H s) : ∀ {v : List (Key × V)} {d : List (D × D)} {l : List (PyData × PyData)} {vs : List (Key × Value)} {es : List DictEntry}, RepK G F v d → pyDK d = some l → KV v vs → Pairs (mixKind X.prog X.w) es vs → RdxL s.heap (es.map (·.key)) (l.map (·.1)) ∧ RdxL s.heap (es.map (·.val)) (l.map (·.2))
  | _, _, l, _, _, .nil, e, kv, p => by
    rw [pyDK] at e
    cases e
    cases kv
    cases p
    exact ⟨.nil, .nil⟩
  | _, _, l, _, _, .cons (k := k) r1 r2, e, kv, p => by
    rw [pyDK, Option.bind_eq_some_iff] at e
    obtain ⟨c, e0, e⟩ := e
    rw [Option.bind_eq_some_iff] at e
    obtain ⟨b, e1, e⟩ := e
    rw [Option.map_eq_some_iff] at e
    obtain ⟨as, e2, rfl⟩ := e
    cases kv with
    | cons k1 k2 =>
      cases p with
      | cons p1 p2 p3 =>
        obtain ⟨q1, q2⟩ := RepK.rdx fit ef I r2 e2 k2 p3
        refine ⟨.cons ?_ q1, .cons ?_ q2⟩
        · rw [← k1.1] at p1
          rcases keyIs_shape p1 with ⟨i, t, g1, g2⟩ | ⟨x, t, g1, g2⟩
          · cases (show k = Sum.inl i from g1)
            cases (show some (PyData.int i) = some c from e0)
            show Rdx s.heap (DictEntry.key _) (.int i)
            rw [g2]
            exact .int i t
          · cases (show k = Sum.inr x from g1)
            cases (show some (PyData.str x) = some c from e0)
            show Rdx s.heap (DictEntry.key _) (.str x)
            rw [g2]
            exact .str x t
        · show Rdx s.heap (DictEntry.val _) b
          rw [p2]
          exact Rep.rdx fit ef I r1 e1 k1.2
end
end
/-! ### repr -/
def rReprN (G : Gm) : List V → Hp → VK → Prop := fun xs H Q => ∃ a d p, xs = [.ref a] ∧ Rep G H (.ref a) d ∧ pyD d = some p ∧ showOk p = true ∧ Q (.str p.shown) H
theorem cr_reprN {G : Gm} {X : Cx} (fit : Fit G X) (hgd : X.A.guards = some []) (hu : X.A.units + 64 < cLine) : CallR X (.builtin "repr") (rReprN G) := by
  intro pins s σ H xs us Q I rel h
  obtain ⟨a, d, p, rfl, hd, hp, ho, q⟩ := h
  obtain ⟨u, rfl, ru⟩ := vals1 rel
  unfold showOk at ho
  rw [Bool.and_eq_true, Bool.and_eq_true] at ho
  obtain ⟨⟨h1, h2⟩, h3⟩ := ho
  have h2 := of_decide_eq_true h2
  have h3 := of_decide_eq_true h3
  have r := hd.rdx fit (Ex.refl H) I hp ru
  cases (show u = Value.ref a from ru)
  exact r.call h1 hgd (by omega) (fun h' u tk hk => ⟨.str _, H, I.kept hk, ⟨_, rfl⟩, q⟩) (le_line h3)
def isRf : D → Bool
  | .tup _ => true
  | .lst _ => true
  | .dct _ => true
  | _ => false
def reprN : List D → Option D
  | [d] => if isRf d = true then (pyD d).bind fun a => if showOk a = true then some (.str a.shown) else none else none
  | _ => none
theorem ad_reprN {G : Gm} : AppD G (rReprN G) reprN := by
  intro F H xs ds z Q ef r hz q
  unfold reprN at hz
  split at hz
  · rename_i d
    obtain ⟨v, rfl, h⟩ := repL1 r
    split at hz
    · rename_i hr
      rw [Option.bind_eq_some_iff] at hz
      obtain ⟨p, h1, h2⟩ := hz
      split at h2
      · rename_i hs
        cases h2
        have hd := h.deep ef
        have hv : ∃ a, v = .ref a := by
          cases d with
          | tup xs => cases hd with
            | tup => exact ⟨_, rfl⟩
            | ext _ x _ => exact ⟨_, rfl⟩
          | lst xs => cases hd with
            | lst => exact ⟨_, rfl⟩
            | ext _ x _ => exact ⟨_, rfl⟩
          | dct xs => cases hd with
            | dK => exact ⟨_, rfl⟩
            | dH => exact ⟨_, rfl⟩
            | ext _ x _ => exact ⟨_, rfl⟩
          | _ => exact absurd hr Bool.false_ne_true
        obtain ⟨a, rfl⟩ := hv
        exact ⟨a, d, p, rfl, hd, h1, hs, q _ F H (Grow.refl ef) (.str _)⟩
      · cases h2
    · cases hz
  · cases hz
end DL
end

section
set_option Elab.async false
set_option linter.all false
set_option autoImplicit false
set_option maxRecDepth 100000
set_option maxHeartbeats 4000000
/-! Er: small data, dicts among them, and their repr. -/
namespace DL
open PySem L2 PyProof.Rows PySem.Spec
mutual
theorem toPy_pyD : ∀ (d : D) (a : PyData), toPy d = some a → pyD d = some a
  | .non, a, h => by rw [toPy] at h; rw [pyD]; exact h
  | .bl b, a, h => by rw [toPy] at h; rw [pyD]; exact h
  | .int b, a, h => by rw [toPy] at h; rw [pyD]; exact h
  | .str b, a, h => by rw [toPy] at h; rw [pyD]; exact h
  | .tup xs, a, h => by
    rw [toPy, Option.map_eq_some_iff] at h
    obtain ⟨as, h1, rfl⟩ := h
    rw [pyD, toPyL_pyDL xs as h1]
    rfl
  | .lst xs, a, h => by
    rw [toPy, Option.map_eq_some_iff] at h
    obtain ⟨as, h1, rfl⟩ := h
    rw [pyD, toPyL_pyDL xs as h1]
    rfl
  | .scr xs, a, h => by rw [toPy] at h; cases h
  | .dct xs, a, h => by rw [toPy] at h; cases h
  | .set xs, a, h => by rw [toPy] at h; cases h
  | .obj c xs, a, h => by rw [toPy] at h; cases h
theorem toPyL_pyDL : ∀ (d : List D) (a : List PyData), toPyL d = some a → pyDL d = some a
  | [], a, h => by rw [toPyL] at h; rw [pyDL]; exact h
  | x :: xs, a, h => by
    rw [toPyL, Option.bind_eq_some_iff] at h
    obtain ⟨b, h1, h⟩ := h
    rw [Option.map_eq_some_iff] at h
    obtain ⟨bs, h2, rfl⟩ := h
    rw [pyDL, toPy_pyD x b h1, toPyL_pyDL xs bs h2]
    rfl
end
theorem pyDL_of {P : PyData → Prop} : ∀ {ds : List D}, (∀ d ∈ ds, ∃ a, pyD d = some a ∧ P a) → ∃ as, pyDL ds = some as ∧ (∀ a ∈ as, P a) ∧ as.length = ds.length
  | [], _ => ⟨[], by simp [pyDL], by simp, rfl⟩
  | d :: ds, h => by
    obtain ⟨a, e, p⟩ := h d List.mem_cons_self
    obtain ⟨as, e2, p2, l⟩ := pyDL_of fun x hx => h x (List.mem_cons_of_mem _ hx)
    refine ⟨a :: as, by simp [pyDL, e, e2], ?_, by simp [l]⟩
    intro x hx
    rcases List.mem_cons.mp hx with rfl | hx
    · exact p
    · exact p2 x hx
end DL
end

section
set_option Elab.async false
set_option linter.all false
set_option autoImplicit false
set_option maxRecDepth 100000
set_option maxHeartbeats 4000000
/-! Es: text * number. -/
namespace DL
open PySem L2 PyProof.Rows PySem.Spec
end DL
end

section
set_option Elab.async false
set_option linter.all false
set_option autoImplicit false
set_option maxRecDepth 100000
set_option maxHeartbeats 4000000
/-! Eu: == of lists and tuples that hold objects with an own __eq__, where it is True. -/
namespace DL
open PySem L2 PyProof.Rows PySem.Spec
section
variable {G : Gm} {X : Cx} {c : Nat} {Φ : List D → FR} {k0 : Nat} {f : Addr} {fd : FuncData} {ps : List Str}
end
section
variable {G : Gm} {X : Cx} {c : Nat} {Φ : List D → FR} {k0 : Nat} {f : Addr} {fd : FuncData} {ps : List Str}
end
end DL
namespace DL
open PySem L2 PyProof.Rows PySem.Spec
end DL
end

section
set_option Elab.async false
set_option linter.all false
set_option autoImplicit false
set_option maxRecDepth 100000
set_option maxHeartbeats 4000000
/-! Ev: own errors straight over another built-in base than ValueError (one field). -/
namespace DL
open PySem L2 PyProof.Rows PySem.Spec

section
open Builtin Builtin.ObjectAttr
variable {B n i : String} {t : List Value}
end
section
open Builtin Builtin.ObjectAttr
variable {prog : Program} {w : World} {A : Around} {R : Result → Shared → Prop} {hp : Heap} {g : Array GenState} {d : Drawn} {tt : Nat} {os : OsState} {B n i : String} {t : List Value}
end
section
variable {B n i : String} {t : List Value} {X : Cx} {pins : List (Addr × Obj)} {σ : L2.St} {H : Hp} {s : Shared} {a C dx : Addr} {f : Str} {y : V} {u : Value} {Q : Unit → Shared → Prop} {E : Value → Shared → Prop} {A : Around}
end
section
variable {B n i : String} {t : List Value} {X : Cx} {o e : Expr} {es : List Expr} {to te : TE} {ta : TA} {f x : Str} {p p' p1 p2 pos : Pos}
end
section
variable {G : Gx} {X : Cx} {W : WX} {a : Expr} {fa : EM D} {p pos pos2 : Pos} {x f : Str} {c : Nat}
end
section
variable {P : Program} {w : World} {K : PySem.W.Frag} {mg : Str → Option Value} {base : Heap} {cl : Nat → Addr} {B n i : String} {t : List Value}
end
end DL
end

section
set_option Elab.async false
set_option linter.all false
set_option autoImplicit false
set_option maxRecDepth 100000
set_option maxHeartbeats 4000000
/-! Ew: != of lists that hold objects with an own __eq__, where all are equal; an own __eq__ with a text at its right. -/
namespace GQ
open PySem PySem.SeqAt
open AutoSeq1 (wpAny_loadPart')
open MeetsSeq MeetsSeq2 MeetsSeq3 SeqRoads2
section
variable {prog : Program} {w : World} {A : Around} {R : Result → Shared → Prop}
end
section
variable {prog : Program} {w : World} {A : Around} {E : Value → Shared → Prop} {s : Shared}
end
end GQ
namespace DL
open PySem L2 PyProof.Rows PySem.Spec
section
variable {G : Gm} {X : Cx} {c : Nat} {Φ : List D → FR} {k0 : Nat} {f : Addr} {fd : FuncData} {ps : List Str}
end
/-! an own __eq__ with a text at its right -/
end DL
end

section
set_option Elab.async false
set_option linter.all false
set_option autoImplicit false
set_option maxRecDepth 100000
set_option maxHeartbeats 4000000
/-! Ex: calls that leave keyword-only parameters to their defaults. -/
namespace DL
open PySem L2 PyProof.Rows PySem.Spec
section
variable {X : Cx} {k n : Nat} {f C : Addr} {fd : FuncData} {ps ks : List Str} {ix : List Nat} {dws : List Value} {dvs : List V} {sp : Sp} {x : Str} {p pos : Pos} {e : Expr} {es : List Expr} {kws : List Keyword} {t tk : TA} {W : WX}
end
section
variable {G : Gx} {X : Cx} {W : WX} {a : Expr} {es : List Expr} {kws : List Keyword} {x : Str} {N n : Nat} {ks : List Str} {ix : List Nat} {dds : List D} {dvs : List V} {Φ : List D → FR} {fr fk : EM (List D)} {p pos : Pos}
end
section
variable {G : Gx} {X : Cx} {W : WX} {a : Expr} {es : List Expr} {kws : List Keyword} {x : Str} {N n c : Nat} {ks : List Str} {ix : List Nat} {dds : List D} {sout : Sh} {shs : List (Str × Sh)} {Φ : D → List D → FT} {fr fk : EM (List D)} {p pos : Pos}
end
/-! ### as they stand -/
section
variable {P : Program} {w : World} {K : PySem.W.Frag} {mg : Str → Option Value} {base : Heap} {cl : Nat → Addr}
end
end DL
namespace L2
open PySem PySem.Spec PyProof.Rows
end L2
end

section
set_option Elab.async false
set_option linter.all false
set_option autoImplicit false
set_option maxRecDepth 100000
set_option maxHeartbeats 4000000
/-! Ey: {k: v, ..} with some keys. -/
namespace DL
open PySem L2 PyProof.Rows PySem.Spec
section
variable {G : Gx} {X : Cx} {W : WX}
end
section
variable {G : Gx} {X : Cx} {W : WX} {pos : Pos}
end
end DL
end

section
set_option Elab.async false
set_option linter.all false
set_option autoImplicit false
set_option maxRecDepth 100000
set_option maxHeartbeats 4000000
/-! Ez: list(d.values()). -/
namespace DL
open PySem L2 PyProof.Rows PySem.Spec
section
variable {X : Cx} {e : Expr} {td : TE} {apos cpos pos p : Pos}
end
section
variable {G : Gx} {X : Cx} {W : WX} {a : Expr} {fa : EM D} {apos cpos pos p : Pos}
end
end DL
end

section
set_option Elab.async false
set_option linter.all false
set_option autoImplicit false
set_option maxRecDepth 100000
set_option maxHeartbeats 4000000
/-! F0: own errors with two fields. -/
namespace DL
open PySem L2 PyProof.Rows PySem.Spec
section
variable {G : Gx} {X : Cx} {W : WX} {a b : Expr} {fr : EM (List D)} {p pos pos2 : Pos} {x f1 f2 : Str} {c : Nat}
end
section
variable {P : Program} {w : World} {K : PySem.W.Frag} {mg : Str → Option Value} {base : Heap}
end
end DL
end

section
set_option Elab.async false
set_option linter.all false
set_option autoImplicit false
set_option maxRecDepth 100000
set_option maxHeartbeats 4000000
/-! F1: != of two dicts of flat values that are alike. -/
namespace DL
open PySem L2 PyProof.Rows PySem.Spec
section
variable {G : Gm} {X : Cx} {F : Hp}
end
end DL
end

section
set_option Elab.async false
set_option linter.all false
set_option maxRecDepth 100000
set_option maxHeartbeats 2000000
/-! F2: what sx.py's theorems lean on. -/
namespace DL
open PySem L2 PyProof.Rows PySem.Spec
section
variable {m n : Nat} {p q : SM} {ds : List D} {e0 e e1 : DEnv} {v d d' : D} {s : Sh} {c : Nat} {fs : List (Str × D)} {r : SR}
theorem seq_n (h : p e = .nx e1) (h2 : q e1 = r) : sSeq p q e = r := by
  unfold sSeq
  rw [h]
  exact h2
theorem seq_r {z : Cell} (h : p e = .rt z e1) : sSeq p q e = .rt z e1 := by
  unfold sSeq
  rw [h]
theorem seq_e (h : p e = .er c fs e1) : sSeq p q e = .er c fs e1 := by
  unfold sSeq
  rw [h]
theorem fn_rv (hl : ds.length = m) (he : entry n ds = e0) (h : p e0 = .rt (.val v) e) : fnSem m n p ds = .ok (.val v) := by
  rw [q_fn hl, he, h]
theorem fn_ro (hl : ds.length = m) (he : entry n ds = e0) (h : p e0 = .rt (.own s v) e) : fnSem m n p ds = .ok (.own s v) := by
  rw [q_fn hl, he, h]
theorem ft_rv (hl : ds.length + 1 = m) (he : entryT n s d ds = e0) (h : p e0 = .rt (.val v) e) (hz : slot0 s e = some d') : fnSemT m n s p d ds = .ok v d' := by
  unfold fnSemT
  rw [if_pos hl, he, h]
  simp only [hz]
theorem ft_er (hl : ds.length + 1 = m) (he : entryT n s d ds = e0) (h : p e0 = .er c fs e) (hz : slot0 s e = some d') : fnSemT m n s p d ds = .er c fs d' := by
  unfold fnSemT
  rw [if_pos hl, he, h]
  simp only [hz]
end
theorem q_app {i : Nat} {env e2 : DEnv} {a : EM (List D)} {x : D} {xs ys : List D} (h1 : env[i]? = some (some (.own c1 (.lst ys)))) (h2 : a env = .ok ([x], e2)) (h3 : e2[i]? = some (some (.own c1 (.lst xs)))) (hl : xs.length < 1000000) : eMut "list" appendM i a env = .ok (.non, e2.set i (some (.own c1 (.lst (xs ++ [x]))))) :=
  q_eMut h1 rfl h2 h3 (by
    show (if xs.length < 1000000 then some (D.non, D.lst (xs ++ [x])) else none) = _
    rw [if_pos hl])
/-- the turns of a law: as many as its script asks -/
theorem turns {n m k : Int} (hn : minD [.int n, .int m] = some (.int k)) (h0 : 0 ≤ m) (h1 : 0 ≤ n) (h2 : n ≤ 1000) : ∃ j : Int, maxD [.int 1, .int k] = some (.int j) ∧ 0 ≤ j ∧ j ≤ 1000 ∧ r1Of [.int j] = some (rangeL 0 j.toNat) := by
  have hk : k = if m < n then m else n := by
    have : minD [.int n, .int m] = some (.int (if m < n then m else n)) := rfl
    rw [this] at hn
    injection hn with hn
    injection hn with hn
    exact hn.symm
  have hj : maxD [.int 1, .int k] = some (.int (if 1 < k then k else 1)) := rfl
  refine ⟨_, hj, ?_, ?_, q_r1 ?_ ?_⟩ <;> split <;> (try split at hk) <;> omega
theorem kv_n : keepV (some none) = none := rfl
theorem kv_v {d : D} : keepV (some (some (.val d))) = some (.val d) := rfl
theorem kv_o {s : Sh} {d : D} : keepV (some (some (.own s d))) = none := rfl
end DL
end

section
set_option Elab.async false
set_option linter.all false
set_option autoImplicit false
set_option maxRecDepth 100000
set_option maxHeartbeats 4000000
/-! F3: d.setdefault(k, x) of a dict of one's own whose keys are ints or texts. -/
namespace DL
open PySem L2 PyProof.Rows PySem.Spec
end DL
end

section
set_option Elab.async false
set_option linter.all false
set_option autoImplicit false
set_option maxRecDepth 100000
set_option maxHeartbeats 4000000
/-! F4: xs.remove(k), a list of texts of one's own; xs.index(k), xs.count(k) of texts. -/
namespace DL
open PySem L2 PyProof.Rows PySem.Spec
section
variable {X : Cx}
end
end DL
end

section
set_option Elab.async false
set_option linter.all false
set_option autoImplicit false
set_option maxRecDepth 100000
set_option maxHeartbeats 4000000
/-! F5: sets of texts that can be walked: add, sorted (the roads of HandS.Set, for texts). -/
namespace DL
open PySem L2 PyProof.Rows PySem.Spec
section
variable {P : Program} {w : World}
variable {A : Around} {E : Value → Shared → Prop} {s : Shared} {a : Addr} {l : List Str}
end
end DL
end

section
set_option Elab.async false
set_option linter.all false
set_option autoImplicit false
set_option maxRecDepth 100000
set_option maxHeartbeats 4000000
/-! F6: .add and sorted of sets of texts, over the layer. -/
namespace DL
open PySem L2 PyProof.Rows PySem.Spec SrtO
section
variable {X : Cx} {pins : List (Addr × Obj)} {σ : L2.St} {H : Hp} {s : Shared} {a : Addr}
end
end DL
end

section
set_option Elab.async false
set_option linter.all false
set_option autoImplicit false
set_option maxRecDepth 100000
set_option maxHeartbeats 4000000
/-! F7: set comprehensions of texts, one clause (printed by mkF7.py from Ef). -/
namespace DL
open PySem L2 PyProof.Rows PySem.Spec
open PpSet (newSet_ok codeAny_compStart_set compLoopS_any eval_SetComp)
section
variable {X : Cx}
end
end DL
end

section
set_option Elab.async false
set_option linter.all false
set_option autoImplicit false
set_option maxRecDepth 100000
set_option maxHeartbeats 4000000
/-! F8: set comprehensions of texts, two clauses (printed by mkF7.py from EJ). -/
namespace DL
open PySem L2 PyProof.Rows PySem.Spec
open PpSet (newSet_ok codeAny_compStart_set compLoopS_any eval_SetComp)
/-! ### two clauses -/
section
variable {prog : Program} {w : World} {A : Around} {R : Result → Shared → Prop} {s : Shared} {elt t0 i0 t1 i1 : Expr} {ifs0 ifs1 : List Expr} {scope : Scope} {pos : Pos} {it : Value} {D : Addr} {env : Env}
end

section
variable {X : Cx}
end
end DL
end

section
set_option Elab.async false
set_option linter.all false
set_option autoImplicit false
set_option maxRecDepth 100000
set_option maxHeartbeats 4000000
/-! F9: sorted({..}) of texts by data (printed by mkF9.py). -/
namespace DL
open PySem L2 PyProof.Rows PySem.Spec
def okX (ds : List D) : Prop := ds.length ≤ 1000 ∧ ∃ xs : List Str, ds = xs.map D.str
section
variable {G : Gx} {X : Cx} {W : WX}
end
end DL
end

section
set_option Elab.async false
set_option linter.all false
set_option autoImplicit false
set_option maxRecDepth 100000
set_option maxHeartbeats 4000000
/-! FA: zip of two sequences, each a list or a tuple, as an argument of dict (printed by mkFA.py; follows HandS.Zip0 and KE.KDictZip). -/
namespace DL
open PySem
open PySem.Sem (wp)
section
variable {prog : Program} {w : World} {A : Around} {E : Value → Shared → Prop} {s : Shared}
end
section
variable {prog : Program} {w : World}
end
end DL
end

section
set_option Elab.async false
set_option linter.all false
set_option autoImplicit false
set_option maxRecDepth 100000
set_option maxHeartbeats 4000000
/-! FB: dict(zip(xs, ys)): keys that are numbers or texts. -/
namespace DL
open PySem L2 PyProof.Rows PySem.Spec
end DL
end

section
set_option Elab.async false
set_option linter.all false
set_option autoImplicit false
set_option maxRecDepth 100000
set_option maxHeartbeats 4000000
/-! FC: dict(zip(xs, ys)): keys that are numbers or texts. -/
namespace DL
open PySem L2 PyProof.Rows PySem.Spec
section
variable {X : Cx}
end
/-! ### by data -/
section
variable {G : Gx} {X : Cx} {W : WX} {e e2 : Expr} {fr : EM (List D)} {p p2 q pos : Pos}
end
end DL
end

section
set_option Elab.async false
set_option linter.all false
set_option autoImplicit false
set_option maxRecDepth 100000
set_option maxHeartbeats 4000000
/-! FD: min(xs), max(xs) of a list of data that are alike. -/
namespace DL
open PySem L2 PyProof.Rows PySem.Spec
mutual
def ofPy : PyData → D
  | .none => .non
  | .bool b => .bl b
  | .int i => .int i
  | .str x => .str x
  | .tuple xs => .tup (ofPyL xs)
  | .list xs => .lst (ofPyL xs)
  | .dict _ => .non
def ofPyL : List PyData → List D
  | [] => []
  | x :: xs => ofPy x :: ofPyL xs
end
mutual
theorem ofPy_toPy : ∀ (d : D) {a : PyData}, toPy d = some a → ofPy a = d
  | .non, a, h => by rw [toPy] at h; cases h; rfl
  | .bl b, a, h => by rw [toPy] at h; cases h; rfl
  | .int i, a, h => by rw [toPy] at h; cases h; rfl
  | .str x, a, h => by rw [toPy] at h; cases h; rfl
  | .tup xs, a, h => by
    rw [toPy, Option.map_eq_some_iff] at h
    obtain ⟨as, h1, rfl⟩ := h
    rw [ofPy, ofPyL_toPy xs h1]
  | .lst xs, a, h => by
    rw [toPy, Option.map_eq_some_iff] at h
    obtain ⟨as, h1, rfl⟩ := h
    rw [ofPy, ofPyL_toPy xs h1]
  | .dct _, a, h => by rw [toPy] at h; cases h
  | .set _, a, h => by rw [toPy] at h; cases h
  | .obj _ _, a, h => by rw [toPy] at h; cases h
  | .scr _, a, h => by rw [toPy] at h; cases h
theorem ofPyL_toPy : ∀ (ds : List D) {as : List PyData}, toPyL ds = some as → ofPyL as = ds
  | [], as, h => by rw [toPyL] at h; cases h; rfl
  | x :: xs, as, h => by
    rw [toPyL, Option.bind_eq_some_iff] at h
    obtain ⟨a, h1, h⟩ := h
    rw [Option.map_eq_some_iff] at h
    obtain ⟨bs, h2, rfl⟩ := h
    rw [ofPyL, ofPy_toPy x h1, ofPyL_toPy xs h2]
end
section
variable {X : Cx}
end
end DL
end

section
set_option Elab.async false
set_option linter.all false
set_option autoImplicit false
set_option maxRecDepth 100000
set_option maxHeartbeats 4000000
/-! FE: calls with keywords whose result is one's own. -/
namespace DL
open PySem L2 PyProof.Rows PySem.Spec
section
variable {G : Gx} {X : Cx} {W : WX}
variable {a : Expr} {es : List Expr} {kws : List Keyword} {x : Str} {N n : Nat} {ks : List Str} {ix : List Nat} {dds : List D} {dvs : List V} {Φ : List D → FR} {fr fk : EM (List D)} {p pos : Pos} {s : Sh}
end
end DL
end

section
set_option Elab.async false
set_option linter.all false
set_option autoImplicit false
set_option maxRecDepth 100000
set_option maxHeartbeats 4000000
/-! FG: list(d.items()). -/
namespace DL
open PySem L2 PyProof.Rows PySem.Spec
section
variable {X : Cx} {e : Expr} {td : TE} {apos cpos pos p : Pos}
end
section
variable {G : Gx} {X : Cx} {W : WX} {a : Expr} {fa : EM D} {apos cpos pos p : Pos}
end
end DL
end

section
set_option Elab.async false
set_option linter.all false
set_option autoImplicit false
set_option maxRecDepth 100000
set_option maxHeartbeats 4000000
/-! FH: d.pop(k) of a dict of one's own whose keys are ints or texts, the key being there. -/
namespace DL
open PySem L2 PyProof.Rows PySem.Spec
end DL
end

section
set_option Elab.async false
set_option linter.all false
set_option autoImplicit false
set_option maxRecDepth 100000
set_option maxHeartbeats 4000000
/-! FI: x or y by truth. -/
namespace DL
open PySem L2 PyProof.Rows PySem.Spec
section
variable {G : Gx} {X : Cx} {W : WX} {a b : Expr} {rest : List Expr} {pos : Pos} {fa fb : EM D}
end
end DL
end

section
set_option Elab.async false
set_option linter.all false
set_option autoImplicit false
set_option maxRecDepth 100000
set_option maxHeartbeats 4000000
/-! FJ: (a, b, ..) = e where e only looks at owned things and gives a tuple of scalars. -/
namespace DL
open PySem L2 PyProof.Rows PySem.Spec
section
variable {G : Gx} {X : Cx} {W : WX} {pos : Pos} {is : List Nat}
end
end DL
end

section
set_option Elab.async false
set_option linter.all false
set_option autoImplicit false
set_option maxRecDepth 100000
set_option maxHeartbeats 4000000
/-! FK: two readings of one statement, of one expression: the second where the first says nothing. -/
namespace DL
open PySem L2 PyProof.Rows PySem.Spec
section
variable {G : Gx} {X : Cx} {W : WX} {st : Stmt} {e : Expr} {a b : SM} {fa fb : EM D}
end
end DL
end

section
set_option Elab.async false
set_option linter.all false
set_option autoImplicit false
set_option maxRecDepth 100000
set_option maxHeartbeats 4000000
/-! FL: == of two lists of unequal lengths, whatever they hold. -/
namespace GQ
open PySem PySem.SeqAt
open AutoSeq1 (wpAny_loadPart')
open MeetsSeq MeetsSeq2 MeetsSeq3 SeqRoads2
section
variable {prog : Program} {w : World} {A : Around} {R : Result → Shared → Prop}
end
end GQ
namespace DL
open PySem L2 PyProof.Rows PySem.Spec
end DL
end

section
set_option Elab.async false
set_option linter.all false
set_option autoImplicit false
set_option maxRecDepth 100000
set_option maxHeartbeats 4000000
/-! FM: lists of lists of a slot's own: x[i][j].append(v). -/
namespace DL
open PySem L2 PyProof.Rows PySem.Spec
section
variable {G : Gm} {F H : Hp} {o : Own}
end
/-! ### quiet expressions: names and numbers; the heap stays -/
section
variable {G : Gx} {X : Cx} {W : WX}
/-! ### x[i][j].append(v) -/
end
end DL
end

section
set_option Elab.async false
set_option linter.all false
set_option autoImplicit false
set_option maxRecDepth 100000
set_option maxHeartbeats 4000000
/-! FN: fresh lists of lists: [[], []], [[..] for ..], a, b = [], [[..] for ..]. -/
namespace DL
open PySem L2 PyProof.Rows PySem.Spec
section
variable {G : Gx} {B F0 F H : Hp} {o : Own} {σ : L2.St} {env : DEnv}
end
section
variable {G : Gm} {F H : Hp} {o : Own}
end
/-! ### [[], []] -/
section
variable {G : Gx} {X : Cx} {W : WX}
end
/-! ### [e for x in xs], e fresh -/
section
variable {G : Gx} {X : Cx} {W : WX}
variable {elt tg iter : Expr} {ifs : List Expr} {scope : Scope} {own : List (Str × Nat)} {pos : Pos} {fi : EM (List D)} {t : TgM} {tc : EM Bool} {f : EM D} {s : Sh}
end
/-! ### x, y = e1, e2, a fresh thing of any shape -/
abbrev MixS := List (Option Sh × EM D)
section
variable {G : Gx} {X : Cx} {W : WX} {a : Expr} {es : List Expr} {f : EM D} {r : MixS} {s : Sh}
end
section
variable {G : Gx} {W : WX}
variable {X : Cx} {a b : Expr} {pos : Pos}
end
end DL
end

section
set_option Elab.async false
set_option linter.all false
set_option autoImplicit false
set_option maxRecDepth 100000
set_option maxHeartbeats 4000000
/-! FQ: xs[::k], xs[n::k]. -/
namespace L2
open PySem PySem.Spec PyProof.Rows
section
variable {X : Cx}
end
end L2
namespace DL
open PySem L2 PyProof.Rows PySem.Spec
end DL
end

section
set_option Elab.async false
set_option linter.all false
set_option autoImplicit false
set_option maxRecDepth 100000
set_option maxHeartbeats 4000000
/-! FR: enumerate(a dict): its keys, counted (follows Ej, and the library's walks over keys). -/
namespace DL
open PySem L2 PyProof.Rows PySem.Spec
open AutoSeq1 (wpAny_loadPart')
section
variable {prog : Program} {w : World} {A : Around} {E : Value → Shared → Prop} {s : Shared}
end
section
variable {G : Gm} {X : Cx} {F : Hp} {d : Addr} {od : Obj} {ks vs : List V} {kvs : List (D × D)}
end
end DL
end

section
set_option Elab.async false
set_option linter.all false
set_option autoImplicit false
set_option maxRecDepth 100000
set_option maxHeartbeats 4000000
/-! FS: x *= e with large numbers. -/
namespace DL
open PySem L2 PyProof.Rows PySem.Spec
end DL
end

section
set_option Elab.async false
set_option linter.all false
set_option autoImplicit false
set_option maxRecDepth 100000
set_option maxHeartbeats 4000000
/-! FT: [..] * n as a new list. -/
namespace DL
open PySem L2 PyProof.Rows PySem.Spec
end DL
end

section
set_option Elab.async false
set_option linter.all false
set_option autoImplicit false
set_option maxRecDepth 100000
set_option maxHeartbeats 4000000
/-! FU: slices of texts. -/
namespace DL
open PySem L2 PyProof.Rows PySem.Spec
section
variable {G : Gx} {X : Cx} {W : WX} {a : Expr} {fa : EM D} {pos p2 : Pos}
end
end DL
end

section
set_option Elab.async false
set_option linter.all false
set_option autoImplicit false
set_option maxRecDepth 100000
set_option maxHeartbeats 4000000
/-! FW: == and != of nested data with dicts, where they are equal (the order of a dict's keys does not count). -/
namespace DL
open PySem L2 PyProof.Rows PySem.Spec
section
variable {G : Gm} {X : Cx}
variable {pins : List (Addr × Obj)} {σ : L2.St} {F H : Hp} {s : Shared}
end
section
variable {G : Gm} {X : Cx}
end
end DL
end

section
set_option Elab.async false
set_option linter.all false
set_option autoImplicit false
set_option maxRecDepth 100000
set_option maxHeartbeats 4000000
/-! FV: range with a step. -/
namespace DL
open PySem L2 PyProof.Rows PySem.Spec
end DL
end

section
set_option Elab.async false
set_option linter.all false
set_option autoImplicit false
set_option maxRecDepth 100000
set_option maxHeartbeats 4000000
/-! FX: an own __eq__ with a list at its right. -/
namespace DL
open PySem L2 PyProof.Rows PySem.Spec
end DL
end

section
set_option Elab.async false
set_option linter.all false
set_option autoImplicit false
set_option maxRecDepth 100000
set_option maxHeartbeats 4000000
/-! FY: repr of a dict whose keys are tuples. -/
namespace DL
open PySem L2 PyProof.Rows PySem.Spec
section
variable {G : Gm} {X : Cx} {F H : Hp} {pins : List (Addr × Obj)} {σ : L2.St} {s : Shared}
end
end DL
end

section
set_option Elab.async false
set_option linter.all false
set_option autoImplicit false
set_option maxRecDepth 100000
set_option maxHeartbeats 4000000
/-! FZ: sorted(d) of a dict whose keys are tuples. -/
namespace DL
open PySem L2 PyProof.Rows PySem.Spec SrtO
end DL
end

section
set_option Elab.async false
set_option linter.all false
set_option autoImplicit false
set_option maxRecDepth 100000
set_option maxHeartbeats 4000000
/-! G0: xs.index(x), xs.count(x), t.count(x) of plain data. -/
namespace DL
open PySem L2 PyProof.Rows PySem.Spec
theorem readOf_ix {h : Heap} {vs : Array Value} {xs : List PyData} {as : List Addr} (rs : ReadsAll h vs.toList xs as) (hxs : PyData.canLayAll0 xs = true) (j : Nat) (hj : j < vs.size) : ∃ h2 : j < xs.length, SeqAt.readOf h vs[j] = xs[j] := by
  have e := SeqAt.readsAll_map xs _ _ hxs rs
  have hl : xs.length = vs.size := by rw [← e, List.length_map, Array.length_toList]
  refine ⟨by omega, ?_⟩
  have e2 : (vs.toList.map (SeqAt.readOf h))[j]? = xs[j]? := by rw [e]
  rw [List.getElem?_map, Array.getElem?_toList, Array.getElem?_eq_getElem hj, List.getElem?_eq_getElem (by omega)] at e2
  exact Option.some.inj e2
section
variable {prog : Program} {w : World} {A : Around} {E : Value → Shared → Prop} {s : Shared} {c x : Value} {xs : List PyData} {d : PyData} {as bs : List Addr} {Q : Value → Shared → Prop}
theorem index_list_reads {j : Nat} (rc : Reads s.heap c (.list xs) as) (rx : Reads s.heap x d bs) (hxs : PyData.canLayAll0 xs = true) (hd : d.canLay0 = true) (hu : A.units + 1 + min (PyData.depthAll xs) d.depth < cLine)
    (hp : xs.findIdx? (fun y => PyData.eqv y d) = some j) (hz : xs.length ≤ 1000000) (h : Q (.int j s.toks) { s with toks := s.toks + 1 }) : wpAny (model prog w) A (call (.builtin "list.index") [c, x]) Q E s := by
  cases rc with
  | list h1 h2 h3 h4 =>
    rename_i l o vs n as'
    obtain ⟨cls, dd, data, sl⟩ := o
    simp only at h2 h3
    subst h2 h3
    obtain ⟨q1, q2, q3⟩ := List.findIdx?_eq_some_iff_getElem.mp hp
    have hl : xs.length = vs.size := by rw [← SeqAt.readsAll_map xs _ _ hxs h4, List.length_map, Array.length_toList]
    have hj : j < vs.size := by omega
    refine call_meets PySem.F.slot_list_index ⟨_, h1, rfl⟩ PySem.F.entry_list_index (PySem.F.args_list_index_2 _ _) (SeqAt.list_indexAt l vs _ dd sl x (fun y => PyData.eqv (SeqAt.readOf s.heap y) d) j hj (by omega) ?_ fun m hm hmj => ?_) ⟨h1, SeqAt.items_eqAt h4 rx hxs hd hu, h⟩
    · obtain ⟨_, e⟩ := readOf_ix h4 hxs j hj
      rw [e]
      exact q2
    · obtain ⟨_, e⟩ := readOf_ix h4 hxs m hm
      rw [e]
      simpa using q3 m hmj
theorem count_list_reads (rc : Reads s.heap c (.list xs) as) (rx : Reads s.heap x d bs) (hxs : PyData.canLayAll0 xs = true) (hd : d.canLay0 = true) (hu : A.units + 1 + min (PyData.depthAll xs) d.depth < cLine)
    (h : Q (.int ((xs.countP fun y => PyData.eqv y d : Nat) : Int) s.toks) { s with toks := s.toks + 1 }) : wpAny (model prog w) A (call (.builtin "list.count") [c, x]) Q E s := by
  cases rc with
  | list h1 h2 h3 h4 =>
    rename_i l o vs n as'
    obtain ⟨cls, dd, data, sl⟩ := o
    simp only at h2 h3
    subst h2 h3
    have e : vs.toList.countP (fun y => PyData.eqv (SeqAt.readOf s.heap y) d) = xs.countP fun y => PyData.eqv y d := by
      rw [← SeqAt.readsAll_map xs _ _ hxs h4, List.countP_map]
      rfl
    rw [← e] at h
    exact call_meets PySem.F.slot_list_count ⟨_, h1, rfl⟩ PySem.F.entry_list_count (PySem.F.args_list_count_2 _ _) (SeqAt.list_countAt l vs _ dd sl x _) ⟨h1, SeqAt.items_eqAt h4 rx hxs hd hu, h⟩
end
section
variable {X : Cx}
def rIdxL (X : Cx) : V → List V → Hp → VK → Prop := fun x xs H Q => ∃ (y : V) (d : PyData) (ds : List PyData) (j : Nat), xs = [y] ∧ Dp X.K H y d ∧ Dp X.K H x (.list ds) ∧ SeqAt.shaped d = true ∧ SeqAt.shaped (.list ds) = true ∧ ds.findIdx? (fun z => PyData.eqv z d) = some j ∧ ds.length ≤ 1000000 ∧ Q (.int (j : Nat)) H
def rCntL (X : Cx) : V → List V → Hp → VK → Prop := fun x xs H Q => ∃ (y : V) (d : PyData) (ds : List PyData), xs = [y] ∧ Dp X.K H y d ∧ Dp X.K H x (.list ds) ∧ SeqAt.shaped d = true ∧ SeqAt.shaped (.list ds) = true ∧ Q (.int ((ds.countP fun z => PyData.eqv z d : Nat) : Int)) H
theorem mt_idxL (hu : X.A.units + 65 < cLine) : MtR X "list.index" (rIdxL X) := by
  intro pins s σ H x xs v us Q I rx rs h
  obtain ⟨y, d, ds, j, rfl, h1, h2, h3, h4, h5, h6, q⟩ := h
  obtain ⟨u, rfl, ry⟩ := vals1 rs
  obtain ⟨as, r1⟩ := Dp.reads I d y u h1 ry
  obtain ⟨bs, r2⟩ := Dp.reads I _ x v h2 rx
  exact index_list_reads r2 r1 (SeqAt.canLay_of_shaped h4) (SeqAt.canLay_of_shaped h3) (room_in_shaped h3 hu) h5 h6 ⟨.int (j : Nat), H, I.tok _, ⟨_, rfl⟩, q⟩
theorem mt_cntL (hu : X.A.units + 65 < cLine) : MtR X "list.count" (rCntL X) := by
  intro pins s σ H x xs v us Q I rx rs h
  obtain ⟨y, d, ds, rfl, h1, h2, h3, h4, q⟩ := h
  obtain ⟨u, rfl, ry⟩ := vals1 rs
  obtain ⟨as, r1⟩ := Dp.reads I d y u h1 ry
  obtain ⟨bs, r2⟩ := Dp.reads I _ x v h2 rx
  exact count_list_reads r2 r1 (SeqAt.canLay_of_shaped h4) (SeqAt.canLay_of_shaped h3) (room_in_shaped h3 hu) ⟨.int _, H, I.tok _, ⟨_, rfl⟩, q⟩
end
/-! ### by data -/
def idxM : D → List D → Option D
  | .lst xs, [d] => (toPy d).bind fun a => (toPyL xs).bind fun as => if (SeqAt.shaped a && SeqAt.shaped (.list as)) = true ∧ as.length ≤ 1000000 then (as.findIdx? fun z => PyData.eqv z a).map fun j => .int (j : Nat) else none
  | _, _ => none
def cntLM : D → List D → Option D
  | .lst xs, [d] => (toPy d).bind fun a => (toPyL xs).bind fun as => if (SeqAt.shaped a && SeqAt.shaped (.list as)) = true then some (.int ((as.countP fun z => PyData.eqv z a : Nat) : Int)) else none
  | _, _ => none
section
variable {G : Gm} {X : Cx}
theorem md_idxL (fit : Fit G X) : MtD G (rIdxL X) idxM := by
  intro F H x d xs ds z Q ef r1 r2 hz q
  unfold idxM at hz
  split at hz
  · rename_i ys e
    obtain ⟨y, rfl, ry⟩ := rpl1 r2
    rw [Option.bind_eq_some_iff] at hz
    obtain ⟨a, h1, hz⟩ := hz
    rw [Option.bind_eq_some_iff] at hz
    obtain ⟨as, h2, hz⟩ := hz
    split at hz
    · rename_i hs
      obtain ⟨hs, hl⟩ := hs
      rw [Bool.and_eq_true] at hs
      rw [Option.map_eq_some_iff] at hz
      obtain ⟨j, h3, rfl⟩ := hz
      refine ⟨y, a, as, j, rfl, ?_, ?_, hs.1, hs.2, h3, hl, q _ F H (Grow.refl ef) (.int _)⟩
      · rw [← fit.k]
        exact (ry.mono ef).dp h1
      · rw [← fit.k]
        exact (r1.deep ef).dp (by rw [toPy, h2]; rfl)
    · cases hz
  · cases hz
theorem md_cntL (fit : Fit G X) : MtD G (rCntL X) cntLM := by
  intro F H x d xs ds z Q ef r1 r2 hz q
  unfold cntLM at hz
  split at hz
  · rename_i ys e
    obtain ⟨y, rfl, ry⟩ := rpl1 r2
    rw [Option.bind_eq_some_iff] at hz
    obtain ⟨a, h1, hz⟩ := hz
    rw [Option.bind_eq_some_iff] at hz
    obtain ⟨as, h2, hz⟩ := hz
    split at hz
    · rename_i hs
      rw [Bool.and_eq_true] at hs
      cases hz
      refine ⟨y, a, as, rfl, ?_, ?_, hs.1, hs.2, q _ F H (Grow.refl ef) (.int _)⟩
      · rw [← fit.k]
        exact (ry.mono ef).dp h1
      · rw [← fit.k]
        exact (r1.deep ef).dp (by rw [toPy, h2]; rfl)
    · cases hz
  · cases hz
end
end DL
end

section
set_option Elab.async false
set_option linter.all false
set_option autoImplicit false
set_option maxRecDepth 100000
set_option maxHeartbeats 4000000
/-! G1: xs[::k], k any expression. -/
namespace L2
open PySem PySem.Spec PyProof.Rows
section
variable {X : Cx}
end
end L2
namespace DL
open PySem L2 PyProof.Rows PySem.Spec
end DL
end

section
set_option Elab.async false
set_option linter.all false
set_option autoImplicit false
set_option maxRecDepth 100000
set_option maxHeartbeats 4000000
/-! G2: d[k] where k only looks at owned things (k is used for the lookup alone). -/
namespace DL
open PySem L2 PyProof.Rows PySem.Spec
section
variable {G : Gm}
end
section
variable {G : Gx} {X : Cx} {W : WX} {a b : Expr} {fa fb : EM D} {pos : Pos}
end
end DL
end

section
set_option Elab.async false
set_option linter.all false
set_option autoImplicit false
set_option maxRecDepth 100000
set_option maxHeartbeats 4000000
/-! G3: break; x = e; x[k].append(c), where e gives a list of new lists and x is not read again: what e is made of holds no list. -/
namespace DL
open PySem L2 PyProof.Rows PySem.Spec
mutual
def noL : D → Bool
  | .lst _ => false
  | .scr _ => false
  | .tup xs => noLs xs
  | .dct kvs => noLk kvs
  | .obj _ fs => noLf fs
  | .set _ => false
  | _ => true
def noLs : List D → Bool
  | [] => true
  | x :: xs => noL x && noLs xs
def noLk : List (D × D) → Bool
  | [] => true
  | (k, v) :: r => noL k && (noL v && noLk r)
def noLf : List (Str × D) → Bool
  | [] => true
  | (_, v) :: r => noL v && noLf r
end
/-- without its lists -/
def noLst (F : Hp) : Hp := fun a => match F a with
  | some (.lst _) => none
  | x => x
theorem noLst_at {F : Hp} {a : Addr} {o : HO} (h : F a = some o) (hn : ∀ vs, o ≠ .lst vs) : noLst F a = some o := by
  unfold noLst
  split
  · rename_i vs e
    rw [h] at e
    exact absurd (Option.some.inj e) (hn vs)
  · exact h
section
variable {G : Gm} {F : Hp}
theorem noLst_t {K : PySem.W.Frag} {a : Addr} {xs : List V} (h : SqT K F a xs) : SqT K (noLst F) a xs := by
  rcases h with h | h
  · rcases h with h | ⟨o, h⟩
    · exact .inl (.inl (noLst_at h fun _ e => by cases e))
    · exact .inl (.inr ⟨o, noLst_at h fun _ e => by cases e⟩)
  · exact .inr h
mutual
theorem Rep.noLst : ∀ {v : V} {d : D}, noL d = true → Rep G F v d → Rep G (noLst F) v d
  | _, _, _, .non => .non
  | _, _, _, .bl b => .bl b
  | _, _, _, .int i => .int i
  | _, _, _, .str x => .str x
  | _, _, h, .tup q r => .tup (noLst_t q) (RepL.noLst (by simpa [noL] using h) r)
  | _, _, h, .lst q r => by simp [noL] at h
  | _, _, h, .scr q r => by simp [noL] at h
  | _, _, h, .dK q r => .dK (noLst_at q fun _ e => by cases e) (RepK.noLst (by simpa [noL] using h) r)
  | _, _, h, .dH q n r => .dH (noLst_at q fun _ e => by cases e) n (RepH.noLst (by simpa [noL] using h) r)
  | _, _, h, .ins q r => .ins (noLst_at q fun _ e => by cases e) (RepF.noLst (by simpa [noL] using h) r)
  | _, _, h, .err q q2 r => by simp [noL] at h
  | _, _, h, .ext q x r => by cases x; contradiction
theorem RepL.noLst : ∀ {v : List V} {d : List D}, noLs d = true → RepL G F v d → RepL G (noLst F) v d
  | _, _, _, .nil => .nil
  | _, _, h, .cons a r => by
    simp only [noLs, Bool.and_eq_true] at h
    exact .cons (Rep.noLst h.1 a) (RepL.noLst h.2 r)
theorem RepK.noLst : ∀ {v : List (Key × V)} {d : List (D × D)}, noLk d = true → RepK G F v d → RepK G (noLst F) v d
  | _, _, _, .nil => .nil
  | _, _, h, .cons a r => by
    simp only [noLk, Bool.and_eq_true] at h
    exact .cons (Rep.noLst h.2.1 a) (RepK.noLst h.2.2 r)
theorem RepH.noLst : ∀ {v : List (D × Addr × V)} {d : List (D × D)}, noLk d = true → RepH G F v d → RepH G (noLst F) v d
  | _, _, _, .nil => .nil
  | _, _, h, .cons z q a r => by
    simp only [noLk, Bool.and_eq_true] at h
    exact .cons z (Rep.noLst h.1 q) (Rep.noLst h.2.1 a) (RepH.noLst h.2.2 r)
theorem RepF.noLst : ∀ {v : List (Str × V)} {d : List (Str × D)}, noLf d = true → RepF G F v d → RepF G (noLst F) v d
  | _, _, _, .nil => .nil
  | _, _, h, .cons a r => by
    simp only [noLf, Bool.and_eq_true] at h
    exact .cons (Rep.noLst h.1 a) (RepF.noLst h.2 r)
end
end
section
variable {G : Gx} {X : Cx} {W : WX}
end
end DL
end

section
set_option Elab.async false
set_option linter.all false
set_option autoImplicit false
set_option maxRecDepth 100000
set_option maxHeartbeats 4000000
/-! G4: d == {}, whatever d's keys are. -/
namespace DL
open PySem L2 PyProof.Rows PySem.Spec
section
variable {prog : Program} {w : World} {A : Around} {E : Value → Shared → Prop} {s : Shared}
end
end DL
end

section
set_option Elab.async false
set_option linter.all false
set_option autoImplicit false
set_option maxRecDepth 100000
set_option maxHeartbeats 4000000
/-! G5: x < y for tuples of plain data that are alike. -/
namespace DL
open PySem L2 PyProof.Rows PySem.Spec
end DL
end

section
set_option Elab.async false
set_option linter.all false
/-! a test for which all own things but slot i's are lent -/
namespace DL
open PySem L2 PyProof.Rows PySem.Spec
section
variable {G : Gx} {B F0 F H F' H' : Hp} {o o' : Own} {σ : L2.St} {env e1 : DEnv} {i : Nat}
end
section
variable {G : Gx} {X : Cx} {W : WX} {a : Expr} {i : Nat}
end
end DL
end

section
set_option Elab.async false
set_option linter.all false
set_option autoImplicit false
set_option maxRecDepth 100000
set_option maxHeartbeats 4000000
/-! G8: sorted(d.items()). -/
namespace DL
open PySem L2 PyProof.Rows PySem.Spec SrtO
section
variable {X : Cx} {e : Expr} {td : TE} {apos cpos pos p : Pos}
end
section
variable {G : Gx} {X : Cx} {W : WX} {a : Expr} {fa : EM D} {apos cpos pos p : Pos}
end
end DL
end

section
set_option Elab.async false
set_option linter.all false
set_option autoImplicit false
set_option maxRecDepth 100000
set_option maxHeartbeats 4000000
/-! G9: bool(x) of an int or a bool. -/
namespace DL
open PySem L2 PyProof.Rows PySem.Spec
section
variable {G : Gm}
end
/-! x >= y of tuples of plain data that are alike -/
end DL
end

section
set_option Elab.async false
set_option linter.all false
set_option autoImplicit false
set_option maxRecDepth 100000
set_option maxHeartbeats 4000000
/-! Ga: a loop over zip of two sequences, each a list or a tuple (follows HandS.Zip over FA's zg_ lemmas). -/
namespace DL
open PySem PySem.Spec PyProof.Rows L2
section
variable {X : Cx} {pins : List (Addr × Obj)} {σ : L2.St} {H : Hp} {s : Shared} {a : Addr} {xs ys : List V} {b : Bool}
end
/-! ### by data -/
def zpM : List D → Option (List D)
  | [.lst xs, .lst ys] => some (zipL xs ys)
  | [.tup xs, .tup ys] => some (zipL xs ys)
  | [.lst xs, .tup ys] => some (zipL xs ys)
  | [.tup xs, .lst ys] => some (zipL xs ys)
  | _ => none
def iZpM (a : EM (List D)) : EM (List D) := bnd a fun ds => ofO (zpM ds)
theorem q_iZpM {r : EM (List D)} {env : DEnv} : iZpM r env = (r env).bind fun x => ofO (zpM x.1) x.2 := rfl
section
variable {G : Gm} {F : Hp}
end
section
variable {G : Gx} {X : Cx} {W : WX}
end
end DL
end

section
set_option Elab.async false
set_option linter.all false
set_option autoImplicit false
set_option maxRecDepth 100000
set_option maxHeartbeats 4000000
/-! Gb: tuple * 0; t[::-1] of a tuple (follows HandS.TupMul, HandS.List, HandS.Style). -/
namespace DL
open PySem PySem.Spec PyProof.Rows L2 HT
/-! ### tuple * 0 -/
section
variable {X : Cx}
end
/-! ### t[::-1] -/
section
variable {prog : Program} {w : World} {A : Around} {E : Value → Shared → Prop} {s : Shared}
end
end DL
end

section
set_option Elab.async false
set_option linter.all false
set_option autoImplicit false
set_option maxRecDepth 100000
set_option maxHeartbeats 4000000
/-! Gc: a def that calls itself, by fuel: the fuel at an end says nothing. -/
namespace DL
open PySem L2 PyProof.Rows PySem.Spec
end DL
end

section
set_option Elab.async false
set_option linter.all false
set_option autoImplicit false
set_option maxRecDepth 100000
set_option maxHeartbeats 4000000
/-! Gd: a result that is read, then changed, then left: while it is known no slot but its own can be filled, but with scalars. -/
namespace DL
open PySem L2 PyProof.Rows PySem.Spec
section
variable {G : Gx} {B F0 F H H' : Hp} {o : Own} {σ : L2.St} {env : DEnv} {i : Nat} {d : D}
end
section
variable {G : Gx} {X : Cx} {W : WX} {i : Nat}
end
end DL
end

section
set_option Elab.async false
set_option linter.all false
set_option autoImplicit false
set_option maxRecDepth 100000
set_option maxHeartbeats 4000000
/-! Ge: != of two lists of unequal lengths, whatever they hold. -/
namespace GQ
open PySem PySem.SeqAt
open AutoSeq1 (wpAny_loadPart')
open MeetsSeq MeetsSeq2 MeetsSeq3 SeqRoads2
section
variable {prog : Program} {w : World} {A : Around} {R : Result → Shared → Prop}
end
end GQ
namespace DL
open PySem L2 PyProof.Rows PySem.Spec
end DL
end

section
set_option Elab.async false
set_option linter.all false
set_option autoImplicit false
set_option maxRecDepth 100000
set_option maxHeartbeats 4000000
/-! Gf: x[i][k] = v and x[i][j] where slot i owns a list of containers. -/
namespace DL
open PySem L2 PyProof.Rows PySem.Spec
section
variable {G : Gm} {F H : Hp} {o : Own}
end
section
variable {G : Gx} {X : Cx} {W : WX}
/-! ### x[i][k] = v -/
/-! ### x[i][:n] -/
end
/-! ### x = [[..] for ..] -/
section
variable {G : Gx} {X : Cx} {W : WX} {tg iter elt : Expr} {ifs : List Expr} {scope : Scope} {own : List (Str × Nat)} {pos spos py : Pos} {fi : EM (List D)} {t : TgM} {tc : EM Bool} {f : EM D}
end
end DL
end

section
set_option Elab.async false
set_option linter.all false
set_option autoImplicit false
set_option maxRecDepth 100000
set_option maxHeartbeats 4000000
/-! Gg: a list comprehension out of which an exception leaves. -/
namespace DL
open PySem L2 PyProof.Rows PySem.Spec

/-! ### what is wanted at the block's end; the frame of what leaves is known -/
section
variable {M : Model} {A : Around} {E : Value → Shared → Prop} {s : Shared} {env : Env}
end

/-! ### noted at a frame, whatever env it is told by -/
section
variable {M : Model} {A : Around} {E : Value → Shared → Prop} {s : Shared} {Z : Obj → Prop} {base : Heap} {env : Env} {outer : List Env} {L e : Addr}
end
/-! ### another wish about exceptions -/
section
variable {X : Cx} {pins : List (Addr × Obj)} {σ : L2.St} {H3 : Hp} {s3 s' : Shared} {scope : Scope} {cl : List (Str × Addr)} {fp : List Addr} {W : WX} {u : Value} {use : Option (Value → Sem Unit)} {Qf : Value → Shared → Prop} {acc : Value}
end

/-! ### the comprehension -/
section
variable {X : Cx} {W : WX}
end

section
variable {X : Cx} {W : WX} {elt tg iter : Expr} {ifs : List Expr} {scope : Scope} {own : List (Str × Nat)} {pos : Pos} {wi : TI} {g : TG} {tt : WX → TT} {te : WX → TE}
end

/-! ### the reading -/
section
variable {G : Gx} {X : Cx} {W : WX} {tg iter elt : Expr} {ifs : List Expr} {scope : Scope} {own : List (Str × Nat)} {pos : Pos}
end

section
variable {G : Gx} {X : Cx} {W : WX} {tg iter elt : Expr} {ifs : List Expr} {scope : Scope} {own : List (Str × Nat)} {pos spos py : Pos} {fi : EM (List D)} {t : TgM} {tc : EM Bool} {f : EM D}
end
end DL
end

section
set_option Elab.async false
set_option linter.all false
set_option autoImplicit false
set_option maxRecDepth 100000
set_option maxHeartbeats 4000000
/-! Gh: an error that is kept behind its except suite. -/
namespace DL
open PySem L2 PyProof.Rows PySem.Spec

/-- an object that is there is told of -/
theorem inv_adopt {X : Cx} {pins : List (Addr × Obj)} {σ : L2.St} {H : Hp} {s : Shared} {a : Addr} {o : Obj} {vs : Array Value} {u : HO} (I : L2.Inv X pins σ H s) (g : s.heap.get? a = some o) (hd : o.data = .fields vs) (na : H a = none) (nL : a ≠ X.env.locals)
    (n0 : ∀ ob, X.s_0.heap.get? a = some ob → X.H_0 a = none → a ∈ X.ex) (np : ∀ p ∈ X.pn ++ pins, p.1 ≠ a) (new : L2.ObjOk X.prog X.w (upd H a u) s.heap a u) : L2.Inv X pins σ (upd H a u) s := by
  have hne : ∀ {b : Addr} {x : HO}, H b = some x → b ≠ a := fun {b x} e z => by rw [z, na] at e; cases e
  refine ⟨I.ok, I.os, I.bare, ⟨I.base.keep, I.base.slot, fun b ob e n hx => ?_, I.base.there, fun b xs e => ?_, fun b ob x e => ?_, fun b ps e => ?_⟩, I.loc, I.cell, ?_, fun x c e => ?_, fun p hp => ?_, fun b ob e => ?_, I.len⟩
  · have hb : b ≠ a := fun z => by
      subst z
      exact hx (n0 ob e n)
    rw [upd_ne hb]
    exact I.base.free b ob e n hx
  · have q := I.base.tups b xs e
    rw [upd_ne (hne q)]
    exact q
  · have q := I.base.frzs b ob x e
    rw [upd_ne (hne q)]
    exact q
  · obtain ⟨more, q⟩ := I.base.tbls b ps e
    exact ⟨more, by rw [upd_ne (hne q)]; exact q⟩
  · rw [upd_ne (Ne.symm nL)]
    exact I.free
  · have hc : c ≠ a := fun z => by
      obtain ⟨v, oc, h1, h2⟩ := I.cell x c e
      rw [z, g] at h1
      cases h1
      rw [hd] at h2
      cases h2
    rw [upd_ne hc]
    exact I.freeC x c e
  · obtain ⟨e1, e2, e3, e4, e5⟩ := I.pin p hp
    exact ⟨e1, by rw [upd_ne (np p hp)]; exact e2, e3, e4, e5⟩
  · by_cases hb : b = a
    · subst hb
      rw [upd_same] at e
      cases e
      exact new
    · rw [upd_ne hb] at e
      refine (I.hok b ob e).stay (fun _ _ _ q => q) (fun c q => ?_) fun c xs q => ?_
      · rw [upd_ne (hne q)]
        exact q
      · rw [upd_ne (hne q)]
        exact q
/-- what may be told of an exception's object -/
def Adopts (cls : Value) (d : Option Addr) (a : Addr) (u : HO) : Prop := ∀ (P : Program) (w : World) (H : Hp) (h : Heap), (∃ o vs, h.get? a = some o ∧ o.cls = cls ∧ o.dict = d ∧ o.data = .fields vs) → L2.ObjOk P w H h a u
theorem adopts_err (C a dd : Addr) : Adopts (.ref C) (some dd) a (errO C a dd) := fun P w H h ⟨o, vs, h1, h2, h3, h4⟩ => ⟨⟨o, vs, h1, h2, h3, h4⟩, ⟨o, h1⟩, fun g1 g2 ⟨o', vs', q1, q2⟩ k => ⟨o', vs', k _ q1, q2⟩⟩
/-- the clauses with a name tell of their error behind the suite -/
def wManyK (K : PySem.W.Frag) (Wout : WX) (Dn : Ends) : List (Value × Option Nat × (Addr → Value → Option Addr → TS)) → WX
  | [] => Wout
  | (c, some i, ts) :: r => fun cls d σ H => ∃ b, PySem.W.exmOne K cls c = some b ∧ (b = true → ∀ a, H a = none → ts a cls d { nx := fun σ' H' => H' a = none → ∃ u, Adopts cls d a u ∧ Dn.nx (σ'.set i none) (upd H' a u), rt := Dn.rt, bk := fun σ' H' => Dn.bk (σ'.set i none) H', ct := fun σ' H' => Dn.ct (σ'.set i none) H' } (σ.set i (some (.ref a))) H) ∧ (b = false → wManyK K Wout Dn r cls d σ H)
  | (c, none, ts) :: r => fun cls d σ H => ∃ b, PySem.W.exmOne K cls c = some b ∧ (b = true → ∀ a, H a = none → ts a cls d Dn σ H) ∧ (b = false → wManyK K Wout Dn r cls d σ H)
section
variable {X : Cx} {body : List Stmt} {h0 : ExceptHandler} {hds : List ExceptHandler} {l : List (Value × Option Nat × (Addr → Value → Option Addr → TS))} {pos : Pos} {tb : WX → TS} {Wout : WX}
theorem ps_tryK (hs : X.stack = X.env :: X.outer) (hf : X.env.frame = some X.env.locals) (hN : X.N.Nodup) (tk : Takes X Wout)
    (hb : ∀ (W : WX) (pn : List (Addr × Obj)) (xe : Value → Shared → Prop), Takes (X.tr pn xe) W → PassesOwn (model X.prog X.w) X.A X.env xe → PSs (X.tr pn xe) body (tb W))
    (hh : HdsN X (h0 :: hds) l) : PS X (.Try body (h0 :: hds) [] [] pos) (fun Dn σ H => tb (wManyK X.K Wout Dn l) Dn σ H) := by
  refine ⟨fun pins s σ H Dn I rd => wpAny_Try_except ?_⟩
  have okX := I.ok
  have frs0 : X.A.frames = some (X.env :: X.outer) := okX.frames.trans (congrArg some hs)
  let xe' : Value → Shared → Prop := fun e s1 => wpAny (model X.prog X.w) X.A (noteFrame e X.env) (fun _ s2 => wpAny (model X.prog X.w) X.A (setFlight e none) (fun _ s3 =>
    wpAny (model X.prog X.w) X.A (handleBy e X.env (h0 :: hds)) (SP X pins Dn) X.xe s3) X.xe s2) X.xe s1
  have taken : Takes (X.tr (X.pn ++ pins) xe') (wManyK X.K Wout Dn l) := by
    rintro u s' ⟨a, B, sI, pins', σ1, H1, cls, d, rfl, J0, nb, up, sky, na, os, ag, wish⟩
    have J : Inv X pins σ1 H1 sI := J0.ofTry okX
    rw [show (X.tr (X.pn ++ pins) xe').stack = X.env :: X.outer from hs] at sky
    show wpAny (model X.prog X.w) X.A (noteFrame (.ref a) X.env) _ _ _
    refine Sky.land Zc.steady frs0 hf sky fun h3 fl up3 => ?_
    have J3 : Inv X pins σ1 H1 { s' with heap := h3 } := J.landed nb fl.1 (up.trans up3) os ag
    obtain ⟨o3, w3, g3, z3, d3⟩ := fl.there
    have out : a ∉ frs (X.env :: X.outer) := fun mem => by
      obtain ⟨_, o', g', nf⟩ := fl.2.2.1.mem mem
      rw [g3] at g'
      cases g'
      exact nf _ d3
    have notL : a ≠ X.env.locals := fun z => out (List.mem_filterMap.mpr ⟨X.env, List.mem_cons_self, by rw [hf, z]⟩)
    have notF : a ∉ X.fs := fun mem => by
      obtain ⟨ev, hev, q⟩ := List.mem_filterMap.mp mem
      exact out (List.mem_filterMap.mpr ⟨ev, List.mem_cons_of_mem _ hev, q⟩)
    have S3 := J3.suite g3 d3 na notL notF
    have looked : ∀ {x : Str} {c : Value} {np : Pos} {Q : Value → Shared → Prop} {E : Value → Shared → Prop}, Names X x c → Q c { s' with heap := h3 } → wpAny (model X.prog X.w) (X.A.mark (some (.ref a))) (eval (.Name x np) X.env) Q E { s' with heap := h3 } := fun {x c np Q E} nm q => by
      obtain ⟨n1, n2, n3 | ⟨n3, n4, n5⟩⟩ := nm
      · exact ld_glob (X := X.suite a ((a, o3) :: (X.pn ++ pins))) S3 n1 n3 q n2
      · exact ld_blt (X := X.suite a ((a, o3) :: (X.pn ++ pins))) S3 n1 n3 n4 q n5 n2
    have n0 : ∀ ob, X.s_0.heap.get? a = some ob → X.H_0 a = none → a ∈ X.ex := fun ob e n => by
      by_cases hx : a ∈ X.ex
      · exact hx
      · have q := nb a ob (J.base.keep a ob e n notF hx) (by rw [show (X.tr (X.pn ++ pins) xe').stack = X.env :: X.outer from hs]; exact out)
        rw [fl.2.1] at q
        cases q
    have npin : ∀ p ∈ X.pn ++ pins, p.1 ≠ a := fun p hp z => by
      obtain ⟨e1, e2, e3, e4, e5⟩ := J.pin p hp
      have q := nb p.1 p.2 e1 (fun m => by
        rcases List.mem_cons.mp (J.stkSub p.1 m) with y | y
        · exact e3 y
        · exact e4 y)
      rw [z, fl.2.1] at q
      cases q
    have typ : PySem.W.Looks (model X.prog X.w) h3 (typeOf (.ref a)) cls := fun A Q E s kp q => wpAny_typeOf_ref (kp _ _ g3) (by rw [z3.1]; exact q)
    have clauses : ∀ {hs' : List ExceptHandler} {l' : List (Value × Option Nat × (Addr → Value → Option Addr → TS))}, HdsN X hs' l' → wManyK X.K Wout Dn l' cls d σ1 H1 →
        wpAny (model X.prog X.w) X.A (handleBy (.ref a) X.env hs') (SP X pins Dn) X.xe { s' with heap := h3 } := by
      intro hs' l' hk
      induction hk with
      | nil =>
        intro wsh
        refine wpAny_handleBy_nil ?_
        obtain ⟨k1, k2, k3, oe, vs, T, oT, ts', ge, hz, hd, hh1, hr⟩ := id fl
        unfold PySem.passOn
        refine wpAny_bind (wpAny_field ge hd hh1 ?_)
        rw [if_neg (by simp : ¬ ((Value.ref T == Value.none) = true))]
        have fin : wpAny (model X.prog X.w) X.A (setFlight (.ref a) X.env.frame) (fun _ s4 => wpAny (model X.prog X.w) X.A (throw (.ref a) : Sem Flow) (SP X pins Dn) X.xe s4) X.xe { s' with heap := h3 } := by
          rw [hf]
          refine HandSPX.setFlight_upZ fl fun h4 held up4 => wpAny_throw (tk _ _ ⟨a, B, sI, pins, σ1, H1, cls, d, rfl, J, nb, (up.trans up3).trans up4, Or.inr (Or.inr ?_), na, os, ag, wsh⟩)
          rw [hs]
          exact held
        first
          | exact wpAny_bind (wpAny_pure (wpAny_bind fin))
          | exact wpAny_bind fin
      | @named x n c i ts b0 suite np pp hds2 l2 hc hi hl su r ih =>
        intro wsh
        obtain ⟨b, eb, yes, no⟩ := wsh
        refine wpAny_handleBy_cons (codeAny_handlers_test ?_) (by intro q; cases q)
        refine looked hc ((PySem.W.exm_one (M := model X.prog X.w) J3.kIn typ eb).here ?_)
        cases b with
        | false =>
          show wpAny _ X.A (handleBy (.ref a) X.env hds2) _ _ _
          exact ih (no rfl)
        | true =>
          refine codeAny_handlers_suite_as (HandSPX.lands_againZ fl fun h4 fl4 up4 => ?_)
          have J4 : Inv X pins σ1 H1 { s' with heap := h4 } := J.landed nb fl4.1 ((up.trans up3).trans up4) os ag
          obtain ⟨o4, w4, g4, z4, d4⟩ := fl4.there
          have S4 := J4.suite g4 d4 na notL notF
          refine store_ok (X := X.suite a ((a, o4) :: (X.pn ++ pins))) (v := .ref a) S4 hN hi (Or.inl hl) rfl (fun s5 S5 => ?_) (Or.inr hl)
          refine wpAny_mono ((su a o4 cls d (X.pn ++ pins) z4 ⟨_, d4⟩).run [] s5 _ H1 _ S5 (yes rfl a na)) (fun fl6 s6 got => ?_) (fun _ _ z => z.elim)
          have gone : ∀ {σ6 : L2.St} {H6 : Hp} {Q : Shared → Prop}, Inv (X.suite a ((a, o4) :: (X.pn ++ pins))) [] σ6 H6 s6 → (∀ s7, Inv X pins (σ6.set i none) H6 s7 → Q s7) →
              wpAny (model X.prog X.w) X.A (do bindName X.env n .none; unbindBehindTheSuite X.env n pp) (fun _ s7 => Q s7) X.xe s6 := fun {σ6 H6 Q} S6 hq => gone_ok (S6.unsuite okX) hN hi hl hq
          cases fl6 with
          | next =>
            obtain ⟨σ6, H6, S6, q6⟩ := got
            obtain ⟨p1, p2, _⟩ := S6.pin (a, o4) (List.mem_append_left _ List.mem_cons_self)
            obtain ⟨u, hu, q7⟩ := q6 p2
            exact gone_ok (inv_adopt (S6.unsuite okX) p1 d4 p2 notL n0 npin (hu _ _ _ _ ⟨o4, _, p1, z4.1, z4.2, d4⟩)) hN hi hl fun s7 J7 => ⟨_, _, J7, q7⟩
          | brk =>
            obtain ⟨σ6, H6, S6, q6⟩ := got
            exact gone S6 fun s7 J7 => ⟨_, _, J7, q6⟩
          | cont =>
            obtain ⟨σ6, H6, S6, q6⟩ := got
            exact gone S6 fun s7 J7 => ⟨_, _, J7, q6⟩
          | ret u =>
            obtain ⟨v6, σ6, H6, S6, r6, q6⟩ := got
            exact gone S6 fun s7 J7 => ⟨_, _, _, J7, r6, q6⟩
      | @plain x c ts b0 suite np pp hds2 l2 hc su r ih =>
        intro wsh
        obtain ⟨b, eb, yes, no⟩ := wsh
        refine wpAny_handleBy_cons (codeAny_handlers_test ?_) (by intro q; cases q)
        refine looked hc ((PySem.W.exm_one (M := model X.prog X.w) J3.kIn typ eb).here ?_)
        cases b with
        | false =>
          show wpAny _ X.A (handleBy (.ref a) X.env hds2) _ _ _
          exact ih (no rfl)
        | true =>
          refine codeAny_handlers_suite (HandSPX.lands_againZ fl fun h4 fl4 up4 => ?_)
          have J4 : Inv X pins σ1 H1 { s' with heap := h4 } := J.landed nb fl4.1 ((up.trans up3).trans up4) os ag
          obtain ⟨o4, w4, g4, z4, d4⟩ := fl4.there
          have S4 := J4.suite g4 d4 na notL notF
          refine wpAny_mono ((su a o4 cls d (X.pn ++ pins) z4 ⟨_, d4⟩).run [] _ _ H1 _ S4 (yes rfl a na)) (fun fl6 s6 got => ?_) (fun _ _ z => z.elim)
          cases fl6 with
          | next =>
            obtain ⟨σ6, H6, S6, q6⟩ := got
            exact ⟨_, _, S6.unsuite okX, q6⟩
          | brk =>
            obtain ⟨σ6, H6, S6, q6⟩ := got
            exact ⟨_, _, S6.unsuite okX, q6⟩
          | cont =>
            obtain ⟨σ6, H6, S6, q6⟩ := got
            exact ⟨_, _, S6.unsuite okX, q6⟩
          | ret u =>
            obtain ⟨v6, σ6, H6, S6, r6, q6⟩ := got
            exact ⟨_, _, _, S6.unsuite okX, r6, q6⟩
    exact clauses hh wish
  refine wpAny_mono ((hb (wManyK X.K Wout Dn l) (X.pn ++ pins) xe' taken PassesOwn.looking).run [] s σ H Dn (I.toTry _) rd) (fun fl s1 got => ?_) (fun e s1 he => he)
  cases fl with
  | next =>
    obtain ⟨σ', H', J', q⟩ := got
    exact wpAny_execs_nil ⟨σ', H', J'.ofTry okX, q⟩
  | brk =>
    obtain ⟨σ', H', J', q⟩ := got
    exact ⟨σ', H', J'.ofTry okX, q⟩
  | cont =>
    obtain ⟨σ', H', J', q⟩ := got
    exact ⟨σ', H', J'.ofTry okX, q⟩
  | ret u =>
    obtain ⟨v, σ', H', J', r, q⟩ := got
    exact ⟨v, σ', H', J'.ofTry okX, r, q⟩
end

/-! ### the readings -/
/-- x = e in a suite, e the caught error -/
def sCpX (j i : Nat) : SM := fun env => match env[i]? with
  | some (some (.exc c fs)) => .nx (env.set j (some (.exc c fs)))
  | _ => .bad
/-- what an error is as a value -/
abbrev errD (c : Nat) (fs : List (Str × D)) : D := .set [.obj c fs]
def keepC : Option Cell → Option Cell
  | some (.exc c fs) => some (.val (errD c fs))
  | o => o
def keepX (env : DEnv) : DEnv := env.map keepC
def clrK (i : Nat) : SR → SR
  | .nx e => .nx ((keepX e).set i none)
  | _ => .bad
/-- try .. except C as e: .., one clause; what the suite has kept of e is a value behind it -/
def sTryK (n : Nat) (isa : Nat → Nat → Bool) (b : SM) (c0 i : Nat) (h : SM) : SM := fun env => match b env with
  | .er c fs e => if c < n then (if isa c c0 = true then clrK i (h (e.set i (some (.exc c fs)))) else .er c fs e) else .bad
  | r => r
section
variable {G : Gm} {bp : List (Nat × Addr)} {X : Cx} {W : WX}
theorem ds_cpX {a : Addr} {oe : Obj} {cls : Value} {d : Option Addr} {pn : List (Addr × Obj)} {x y : Str} {i j : Nat} {p p' pos : Pos} (hN : X.N.Nodup) (hi : X.N[i]? = some x := by rfl) (hv : Vis X.env.scope x := by first | exact Or.inl rfl | exact Or.inr (Or.inl rfl) | exact Or.inr (Or.inr rfl)) (hdb : (x == ("__debug__" : Str)) = false := by decide) (hcd : (x == ("__classdict__" : Str)) = false := by decide)
    (hj : X.N[j]? = some y := by rfl) (hy : Loc X.env.scope y := by first | exact Or.inl rfl | exact Or.inr rfl) (hs : swapsWith (.Name x p) (some (.Name y p')) pos.line X.env = pure false := by rfl)
    (hf : X.fn y = true ∨ X.env.scope.names.lookup y = some .local := by first | exact .inl rfl | exact .inr rfl) : PS (X.suite a ((a, oe) :: pn)) (.Assign [.Name y p'] (.Name x p) pos) (sG ⟨G, hXA G a cls d, bp⟩ (sCpX j i) W) := by
  refine PS.imp (ps_set (X := X.suite a ((a, oe) :: pn)) hN hj hy (pe_var (X := X.suite a ((a, oe) :: pn)) hi hv hdb hcd) hs hf) fun Dn σ H ⟨B, F0, F, o, env, rs, q⟩ => ?_
  unfold sCpX at q
  split at q
  · rename_i c fs he
    obtain ⟨a', dd, fvs, h1, h2, h3, h4⟩ := rs.exc i c fs he
    exact ⟨_, h1, q _ F H o (rs.sete j h2 h3 h4)⟩
  · exact q.elim
theorem keep_get {env : DEnv} {i : Nat} {c : Option Cell} (h : (keepX env)[i]? = some c) : ∃ o, env[i]? = some o ∧ c = keepC o := by
  unfold keepX at h
  rw [List.getElem?_map, Option.map_eq_some_iff] at h
  obtain ⟨o, h1, h2⟩ := h
  exact ⟨o, h1, h2.symm⟩
theorem RepS.keep {B F0 F H : Hp} {o : Own} {σ : L2.St} {env : DEnv} {a dx : Addr} {c0 : Nat} (r : RepS ⟨G, hXA G a (.ref (G.cl c0)) (some dx), bp⟩ B F0 F H o σ env) (hH : H a = none) : RepS ⟨G, noXA, bp⟩ B F0 (upd F a (errO (G.cl c0) a dx)) (upd H a (errO (G.cl c0) a dx)) o σ (keepX env) := by
  have g := Grow.new (o := errO (G.cl c0) a dx) r.fh hH
  have r2 := r.grow g
  refine ⟨r2.bh, r2.f0, r2.fh, r2.fr, r2.ow, by simpa [keepX] using r2.len, fun i d q => ?_, fun i s d q => ?_, fun i c fs q => ?_, fun i p s d hb q => ?_⟩
  · obtain ⟨oc, h1, h2⟩ := keep_get q
    cases oc with
    | none => cases h2
    | some cc =>
      cases cc with
      | val d' => cases h2; exact r2.val i d h1
      | own s d' => cases h2
      | exc c fs =>
        cases h2
        obtain ⟨a', dd, fvs, e1, ⟨e2, e3, e4⟩, e5, e6⟩ := r2.exc i c fs h1
        subst e2
        cases e3
        have z : G.cl c0 = G.cl c := by injection e4
        exact ⟨_, e1, .err (c := c) (by rw [← z]; exact upd_same) e5 e6⟩
  · obtain ⟨oc, h1, h2⟩ := keep_get q
    cases oc with
    | none => cases h2
    | some cc =>
      cases cc with
      | val d' => cases h2
      | own s' d' => cases h2; exact r2.own i s d h1
      | exc c fs => cases h2
  · obtain ⟨oc, h1, h2⟩ := keep_get q
    cases oc with
    | none => cases h2
    | some cc => cases cc <;> cases h2
  · obtain ⟨oc, h1, h2⟩ := keep_get q
    cases oc with
    | none => cases h2
    | some cc =>
      cases cc with
      | val d' => cases h2
      | own s' d' => cases h2; exact r2.pin i p s d hb h1
      | exc c fs => cases h2
theorem ds_tryK {body : List Stmt} {x nm : Str} {c0 i n : Nat} {isa : Nat → Nat → Bool} {h : SM} {b0 : Stmt} {suite : List Stmt} {b : SM} {np pp pos : Pos} (hst : X.stack = X.env :: X.outer) (hf : X.env.frame = some X.env.locals) (hN : X.N.Nodup) (tk : Takes X W)
    (hb : ∀ (W : WX) (pn : List (Addr × Obj)) (xe : Value → Shared → Prop), Takes (X.tr pn xe) W → PassesOwn (model X.prog X.w) X.A X.env xe → PSs (X.tr pn xe) body (sG ⟨G, noXA, bp⟩ b W))
    (hc : Names X x (.ref (G.cl c0))) (hx : ∀ c, c < n → PySem.W.exmOne X.K (.ref (G.cl c)) (.ref (G.cl c0)) = some (isa c c0)) (hi : X.N[i]? = some nm) (hl : X.env.kindOf nm = some .local)
    (su : SuiteOk X (b0 :: suite) fun a cls d => sG ⟨G, hXA G a cls d, bp⟩ h W0) :
    PS X (.Try body [.ExceptHandler (some (.Name x np)) (some nm) (b0 :: suite) pp] [] [] pos) (sG ⟨G, noXA, bp⟩ (sTryK n isa b c0 i h) W) := by
  refine PS.imp (ps_tryK hst hf hN tk hb (.named hc hi hl su .nil)) fun Dn σ H ⟨B, F0, F, o, env, rs, p⟩ => ⟨B, F0, F, o, env, rs, ?_⟩
  unfold sTryK at p
  cases hr : b env with
  | nx e => rw [hr] at p; exact p
  | rt c e => rw [hr] at p; exact p
  | bk e => rw [hr] at p; exact p
  | ct e => rw [hr] at p; exact p
  | bad => rw [hr] at p; exact p
  | er c fs e =>
    rw [hr] at p
    simp only at p
    split at p
    · rename_i hlt
      intro dx σ' F' H' o' fvs r2 h1 h2
      refine ⟨isa c c0, hx c hlt, fun yes a _ => ?_, fun no => ?_⟩
      · rw [if_pos yes] at p
        have r1 : RepS ⟨G, hXA G a (.ref (G.cl c)) (some dx), bp⟩ B F0 F' H' o' σ' e := r2.xa fun _ _ _ z => z
        refine ⟨B, F0, F', o', _, r1.sete i ⟨rfl, rfl, rfl⟩ h1 h2, ?_⟩
        cases hq : h (e.set i (some (.exc c fs))) with
        | nx e2 =>
          rw [hq] at p
          exact fun σ3 F3 H3 o3 r3 n3 => ⟨_, adopts_err _ _ _, p _ _ _ o3 ((r3.keep n3).forget none i)⟩
        | bk e2 => rw [hq] at p; exact p.elim
        | ct e2 => rw [hq] at p; exact p.elim
        | rt c2 e2 => rw [hq] at p; exact p.elim
        | er c2 f2 e2 => rw [hq] at p; exact p.elim
        | bad => rw [hq] at p; exact p.elim
      · rw [if_neg (by rw [no]; exact Bool.false_ne_true)] at p
        exact p dx σ' F' H' o' fvs r2 h1 h2
    · exact p.elim
end
/-! ### an error as a value: isinstance, fields, is None -/
def viD (al : List (Nat × Bool)) (d : D) : Option D := match d with
  | .set [.obj c _] => (al.lookup c).map .bl
  | _ => none
def vfD (cs : List Nat) (f : Str) (d : D) : Option D := match d with
  | .set [.obj c gs] => if cs.contains c = true then gs.lookup f else none
  | _ => none
abbrev eVi (al : List (Nat × Bool)) (a : EM D) : EM D := eUn (viD al) a
abbrev eVf (cs : List Nat) (f : Str) (a : EM D) : EM D := eUn (vfD cs f) a
theorem rep_err {G : Gm} {H : Hp} {v : V} {c : Nat} {gs : List (Str × D)} (h : Rep G H v (.set [.obj c gs])) : ∃ a dd fs, v = .ref a ∧ H a = some (errO (G.cl c) a dd) ∧ H dd = some (.xd fs) ∧ RepF G H fs gs := by
  cases h with
  | err h1 h2 h3 => exact ⟨_, _, _, rfl, h1, h2, h3⟩
  | ext _ x => cases x with | none h => exact h.elim
def rVi (X : Cx) (C : Addr → Prop) : List V → Hp → VK → Prop := fun xs H Q => ∃ (a Cc dd : Addr) (fs : List (Str × V)) (c : V) (cv : Value) (b : Bool), xs = [.ref a, c] ∧ H a = some (errO Cc a dd) ∧ H dd = some (.xd fs) ∧ C Cc ∧ ClsV c cv ∧ PySem.W.kitOne X.K (.ref Cc) cv = some b ∧ Q (.bl b) H
theorem inst_err {X : Cx} {pins : List (Addr × Obj)} {σ : L2.St} {H : Hp} {s : Shared} {a C dd : Addr} {fs : List (Str × V)} (I : L2.Inv X pins σ H s) (h1 : H a = some (errO C a dd)) (h2 : H dd = some (.xd fs)) : ∃ oe od mA, PySem.W.InstAt s.heap a oe C (some od) ∧ oe.dict = some dd ∧ s.heap.get? dd = some od ∧ s.heap.Ns1 dd mA ∧ (∀ f, RelO (fs.lookup f) (mA f)) := by
  obtain ⟨⟨o, vs, g1, g2, g3, g4⟩, _⟩ := (show L2.ObjOk X.prog X.w H s.heap a (errO C a dd) from I.hok a _ h1)
  obtain ⟨mA, hns, hr⟩ := (show L2.ObjOk X.prog X.w H s.heap dd (.xd fs) from I.hok dd _ h2)
  obtain ⟨od, ho, hl⟩ := lookIn_ns hns
  exact ⟨o, od, mA, ⟨g1, g2, by unfold PySem.W.notCls; rw [g4] <;> rfl, by rw [g3]; exact ho⟩, g3, ho, hns, hr⟩
theorem call_vi {X : Cx} {C : Addr → Prop} (T : ∀ c, C c → XiC X.K c) : CallR X (.builtin "isinstance") (rVi X C) := by
  intro pins s σ H xs us Q I r h
  obtain ⟨a, Cc, dd, fs, c, cv, b, rfl, h1, h2, hC, k, e, q⟩ := h
  obtain ⟨oe, od, mA, J, _⟩ := inst_err I h1 h2
  have T := T Cc hC
  have Z := PySem.W.kitx_exc (x := a) (ox := oe) (od := some od) T.hc T.xf.ga T.xf.gg T.xf.exC T.ha T.hn T.ht T.hm
  obtain ⟨u1, u2, rfl, r1, r2⟩ := vals2 r
  cases (show u1 = Value.ref a from r1)
  have e2 := k.eq r2
  subst e2
  exact PySem.W.kia_one Z I.kIn J e (fun z => nomatch z) fun tk => ⟨.bl b, H, I.tok tk, rfl, q⟩
section
variable {G : Gx} {X : Cx} {W : WX} {e ec : Expr} {f : EM D} {p pos : Pos}
theorem de_vi {al : List (Nat × Bool)} {c : CT} (fit : Fit G X) (T : ∀ k b, al.lookup k = some b → XiC X.K (G.cl k) ∧ PySem.W.kitOne X.K (.ref (G.cl k)) (ctV G.cl c) = some b) (ha : PE X e (eG G f W)) (hc : PCls G X ec c) (hmi : X.mg "isinstance" = none) (hgi : Gl X "isinstance" := by rfl)
    (he : starEach [e, ec] X.env = (false, eval e X.env) :: starEach [ec] X.env := by rfl) (he2 : starEach [ec] X.env = (false, eval ec X.env) :: starEach [] X.env := by rfl) (hpl : (backTo pos (starEach [ec] X.env)).any (·.1) = false := by rfl) :
    PE X (.Call (.Name "isinstance" p) [e, ec] [] pos) (eG G (eVi al f) W) := by
  obtain ⟨vc, hpc, hcv⟩ := hc
  refine PE.imp (pe_callB (call_vi (C := fun Cc => XiC X.K Cc) fun _ h => h) hgi hmi (by decide +kernel) (pa_cons ha (pa_cons hpc pa_nil he2) he) (he := he) (hpl := hpl)) fun σ H Q h => ?_
  refine gG_bnd (K1 := kE) up_true h.c fun v d H1 h1 => ?_
  obtain ⟨F, z, hz, ef, ⟨_, r1⟩, q⟩ := gGC_ofO h1
  unfold viD at hz
  split at hz
  · rename_i k gs
    obtain ⟨b, hb, rfl⟩ := Option.map_eq_some_iff.mp hz
    obtain ⟨a, dd, fs, rfl, h1, h2, h3⟩ := rep_err r1
    obtain ⟨t1, t2⟩ := T k b hb
    exact ⟨a, _, dd, fs, vc, _, b, rfl, ef _ _ h1, ef _ _ h2, t1, hcv, t2, q _ F H1 (Grow.refl ef) (Rep.bl b)⟩
  · cases hz
def tVf (X : Cx) (f : Str) (te : TE) : TE := fun σ H Q => te σ H fun x H1 => ∃ (a C dd : Addr) (fs : List (Str × V)) (v : V), x = .ref a ∧ H1 a = some (errO C a dd) ∧ H1 dd = some (.xd fs) ∧ XfC X.K C ∧ PySem.W.findIn X.K (.ref C) f = some none ∧ fs.lookup f = some v ∧ Q v H1
theorem pe_vf {te : TE} {n : Str} (he : PE X e te) (hb : attributeBase e n X.env (eval e X.env) = eval e X.env := by rfl) : PE X (.Attribute e n pos) (tVf X n te) := by
  refine ⟨fun pins s σ H Q I h => ?_⟩
  refine attr_of hb (thn (he.run pins s σ H _ I h) fun u s1 ⟨x, H1, I1, rx, a, C, dd, fs, v, ex, ha, hd, T, hno, l, q⟩ => ?_)
  subst ex
  obtain rfl : u = Value.ref a := rx
  obtain ⟨oe, od, mA, J, _, ho, hns, hr⟩ := inst_err I1 ha hd
  obtain ⟨od', ho', hl⟩ := lookIn_ns hns
  rw [ho] at ho'
  cases ho'
  obtain ⟨u, hu, ru⟩ := RelO.some_of (v := v) (o := mA n) (by rw [← l]; exact hr n)
  exact HandSPX.exc_get I1.kIn J T.ga T.gg T.exC (PySem.W.findObj_own T.hdC hno rfl (by rw [hl, hu])) (handed_of ru) ⟨v, H1, I1.tok _, ru, q⟩
theorem de_vf {cs : List Nat} {n : Str} (T : ∀ k, cs.contains k = true → XfC X.K (G.cl k) ∧ PySem.W.findIn X.K (.ref (G.cl k)) n = some none) (ha : PE X e (eG G f W)) (hb : attributeBase e n X.env (eval e X.env) = eval e X.env := by rfl) : PE X (.Attribute e n pos) (eG G (eVf cs n f) W) := by
  refine PE.imp (pe_vf ha hb) fun σ H Q h => ?_
  refine gG_bnd (K1 := kE) up_true h.c fun v d H1 h1 => ?_
  obtain ⟨F, z, hz, ef, ⟨_, r1⟩, q⟩ := gGC_ofO h1
  unfold vfD at hz
  split at hz
  · rename_i k gs
    split at hz
    · rename_i hk
      obtain ⟨a, dd, fs, rfl, h1, h2, h3⟩ := rep_err r1
      obtain ⟨v, g1, g2⟩ := h3.look hz
      exact ⟨a, _, dd, fs, v, rfl, ef _ _ h1, ef _ _ h2, (T k hk).1, (T k hk).2, g1, q v F H1 (Grow.refl ef) g2⟩
    · cases hz
  · cases hz
theorem al_nil {P : Nat → Bool → Prop} : ∀ k b, ([] : List (Nat × Bool)).lookup k = some b → P k b := fun _ _ h => nomatch h
theorem al_cons {P : Nat → Bool → Prop} {c : Nat} {b : Bool} {r : List (Nat × Bool)} (h : P c b) (t : ∀ k b, r.lookup k = some b → P k b) : ∀ k b', ((c, b) :: r).lookup k = some b' → P k b' := fun k b' e => by
  rw [List.lookup_cons] at e
  split at e
  · rename_i hk
    cases e
    rw [eq_of_beq hk]
    exact h
  · exact t k b' e
theorem cs_nil {P : Nat → Prop} : ∀ k, ([] : List Nat).contains k = true → P k := fun _ h => nomatch h
theorem cs_cons {P : Nat → Prop} {c : Nat} {r : List Nat} (h : P c) (t : ∀ k, r.contains k = true → P k) : ∀ k, (c :: r).contains k = true → P k := fun k e => by
  rw [List.contains_cons, Bool.or_eq_true] at e
  rcases e with e | e
  · rw [eq_of_beq e]
    exact h
  · exact t k e
end
end DL
end

section
set_option Elab.async false
set_option linter.all false
set_option maxRecDepth 100000
set_option maxHeartbeats 8000000
/-! what each def of the law lettersback_k03_invalid_tables computes (printed by gen2.py) -/
namespace K03
open PySem L2 PyProof.Rows PySem.Spec DL
abbrev c_InvalidSizes : Nat := 0
abbrev c_InvalidValues : Nat := 1
abbrev c_InvalidRow : Nat := 2
abbrev c_TooWide : Nat := 3
abbrev c_NetworkError : Nat := 30
def nE : Nat := 4
def isa : Nat → Nat → Bool
  | 0, 0 => true
  | 1, 1 => true
  | 2, 2 => true
  | 3, 3 => true
  | 0, 30 => true
  | 1, 30 => true
  | 2, 30 => true
  | 3, 30 => true
  | _, _ => false
def m_is_integer : SM :=
    sRet (eAn (eIsi [50] [.b "int"] (eV 0)) (eAn (eNo (eIsi [50] [.b "bool"] (eV 0))) (eOp geD (eV 0) (eV 1))))
def F_is_integer : List D → FR := fnSem 2 2 m_is_integer

def m_is_size : SM :=
    sRet (eAn (eFn F_is_integer [] (aCons (eV 0) (aCons (eC (.int 1)) (aNil)))) (eOp leD (eV 0) (eC (.int 4))))
def F_is_size : List D → FR := fnSem 1 1 m_is_size

def m_is_sizes : SM :=
    sRet (eAn (eIsi [50] [.b "tuple"] (eV 0)) (eAn (eOp leD (eApp lenA (aCons (eV 0) (aNil))) (eC (.int 30))) (eApp allD (aCons (eLc (iAll (eV 0)) [1] (tgN 1) (tYs) (eFn F_is_size [] (aCons (eV 1) (aNil)))) (aNil)))))
def F_is_sizes : List D → FR := fnSem 1 2 m_is_sizes

def m_check_sizes : SM :=
    sIf (tNo (toB (eFn F_is_sizes [] (aCons (eV 0) (aNil))))) (sRaise c_InvalidSizes "value" (eV 0)) (sNx)
def F_check_sizes : List D → FR := fnSem 1 1 m_check_sizes

def m_product : SM :=
    sSeq (sSet 1 (eC (.int 1)))
    (sSeq (sFor (iAll (eV 0)) (tgN 2) (sAug 1 imulD (eV 2)))
    (sRet (eV 1)))
def F_product : List D → FR := fnSem 1 3 m_product

def m_is_values : SM :=
    sSeq (sIf (tOt (tNo (toB (eIsi [50] [.b "tuple"] (eV 1)))) (toB (eOp neD (eApp lenA (aCons (eV 1) (aNil))) (eApp lenA (aCons (eV 0) (aNil)))))) (sRet (eC (.bl false))) (sNx))
    (sRet (eApp allD (aCons (eLc (iZp (aCons (eV 1) (aCons (eV 0) (aNil)))) [2, 3] (tgT (tgCons (tgN 2) (tgCons (tgN 3) (tgNil)))) (tYs) (eAn (eFn F_is_integer [(.int 0)] (aCons (eV 2) (aNil))) (eOp ltD (eV 2) (eV 3)))) (aNil))))
def F_is_values : List D → FR := fnSem 2 4 m_is_values

def m_check_values : SM :=
    sIf (tNo (toB (eFn F_is_values [] (aCons (eV 0) (aCons (eV 1) (aNil)))))) (sRaise c_InvalidValues "value" (eV 1)) (sNx)
def F_check_values : List D → FR := fnSem 2 2 m_check_values

def m_check_product : SM :=
    sIf (toB (eOp gtD (eV 0) (eC (.int 1024)))) (sRaise c_TooWide "count" (eV 0)) (sNx)
def F_check_product : List D → FR := fnSem 1 1 m_check_product

def m_is_row : SM :=
    sSeq (sIf (tOt (tNo (toB (eIsi [50] [.b "tuple"] (eV 2)))) (toB (eOp neD (eApp lenA (aCons (eV 2) (aNil))) (eC (.int 3))))) (sRet (eC (.bl false))) (sNx))
    (sSeq (sUnp (tgT (tgCons (tgN 3) (tgCons (tgN 4) (tgCons (tgN 5) (tgNil))))) (eV 2))
    (sSeq (sIf (tOt (tNo (toB (eFn F_is_values [] (aCons (eV 0) (aCons (eV 3) (aNil)))))) (tNo (toB (eFn F_is_values [] (aCons (eV 1) (aCons (eV 4) (aNil))))))) (sRet (eC (.bl false))) (sNx))
    (sRet (eAn (eFn F_is_integer [] (aCons (eV 5) (aCons (eC (.int 1)) (aNil)))) (eOp leD (eV 5) (eC (.int 1000000000000000000000000000000)))))))
def F_is_row : List D → FR := fnSem 3 6 m_is_row

def m_Table___init__ : SM :=
    sSeq (sDo (eFn F_check_sizes [] (aCons (eV 1) (aNil))))
    (sSeq (sDo (eFn F_check_sizes [] (aCons (eV 2) (aNil))))
    (sSeq (sDo (eFn F_check_product [] (aCons (eOp mulD (eFn F_product [] (aCons (eV 1) (aNil))) (eFn F_product [] (aCons (eV 2) (aNil)))) (aNil))))
    (sSeq (sIf (tNo (toB (eIsi [50] [.b "list", .b "tuple"] (eV 3)))) (sRaise c_InvalidRow "value" (eV 3)) (sNx))
    (sSeq (sFld2 0 50 "sizes_in" "sizes_out" (eTup (aCons (eV 1) (aCons (eV 2) (aNil)))))
    (sSeq (sFldF 0 50 "weights" (eC (.dct [])))
    (sFor (iAll (eV 3)) (tgN 4) (sSeq (sIf (tOt (tNo (toB (eFn F_is_row [] (aCons (eV 1) (aCons (eV 2) (aCons (eV 4) (aNil))))))) (toB (eOpP inD (eSl (eV 4) (oNone) (oSome (eC (.int 2)))) 0 50 "weights"))) (sRaise c_InvalidRow "value" (eV 4)) (sNx))
    (sPSetI 0 50 "weights" (eOp idxD (eV 4) (eC (.int 2))) (eSl (eV 4) (oNone) (oSome (eC (.int 2))))))))))))
def F_Table___init__ : D → List D → FT := fnSemT 4 5 (.ob [("weights", c1)]) m_Table___init__

def m_Table_input_sizes : SM :=
    sRet (eFld 50 "sizes_in" (eV 0))
def F_Table_input_sizes : List D → FR := fnSem 1 1 m_Table_input_sizes

def m_Table_output_sizes : SM :=
    sRet (eFld 50 "sizes_out" (eV 0))
def F_Table_output_sizes : List D → FR := fnSem 1 1 m_Table_output_sizes

def m_Table_rows : SM :=
    sRet (eApp sortedD (aCons (eLc (iDi (eFld 50 "weights" (eV 0))) [1, 2, 3] (tgT (tgCons (tgT (tgCons (tgN 2) (tgCons (tgN 3) (tgNil)))) (tgCons (tgN 1) (tgNil)))) (tYs) (eTup (aCons (eV 2) (aCons (eV 3) (aCons (eV 1) (aNil)))))) (aNil)))
def F_Table_rows : List D → FR := fnSem 1 4 m_Table_rows

def m_Table_weight : SM :=
    sSeq (sDo (eFn F_check_values [] (aCons (eFld 50 "sizes_in" (eV 0)) (aCons (eV 1) (aNil)))))
    (sSeq (sDo (eFn F_check_values [] (aCons (eFld 50 "sizes_out" (eV 0)) (aCons (eV 2) (aNil)))))
    (sRet (eMt "dict" getD (xV (eFld 50 "weights" (eV 0))) (aCons (eTup (aCons (eV 1) (aCons (eV 2) (aNil)))) (aCons (eC (.int 0)) (aNil))))))
def m_Table___eq__ : SM :=
    sSeq (sIf (tNo (toB (eIsi [50] [.o 50] (eV 1)))) (sRet (eC (.bl false))) (sNx))
    (sSeq (sIf (tOt (toB (eOp neD (eFld 50 "sizes_in" (eV 0)) (eMeth 50 "input_sizes" F_Table_input_sizes [] (eV 1) (aNil)))) (toB (eOp neD (eFld 50 "sizes_out" (eV 0)) (eMeth 50 "output_sizes" F_Table_output_sizes [] (eV 1) (aNil))))) (sRet (eC (.bl false))) (sNx))
    (sRet (eOp eqD (eMeth 50 "rows" F_Table_rows [] (eV 0) (aNil)) (eMeth 50 "rows" F_Table_rows [] (eV 1) (aNil)))))
def m_Table___len__ : SM :=
    sRet (eApp lenA (aCons (eFld 50 "weights" (eV 0)) (aNil)))
def m__law_pool : SM :=
    sSeq (sSet 2 (eC (.int 0)))
    (sSeq (sIf (toB (eOp ltD (eV 1) (eApp lenA (aCons (eV 0) (aNil))))) (sSet 2 (eApp absD (aCons (eOp idxD (eV 0) (eV 1)) (aNil)))) (sNx))
    (sSeq (sSet 3 (eOp modD (eOp mulD (eOp addD (eOp addD (eOp addD (eOp modD (eV 2) (eC (.int 2147483629))) (eOp mulD (eOp mulD (eC (.int 7919)) (eV 1)) (eV 1))) (eOp mulD (eC (.int 31)) (eV 1))) (eC (.int 17))) (eC (.int 48271))) (eC (.int 2147483647))))
    (sRetF c1 (eLst (aCons (eOp mulD (eV 2) (eApp toIntD (aCons (eOp geD (eV 2) (eOp powD (eC (.int 10)) (eC (.int 18)))) (aNil)))) (aCons (eOp modD (eOp mulD (eV 3) (eV 3)) (eC (.int 2147483629))) (aNil)))))))
def F__law_pool : List D → FR := fnSem 2 4 m__law_pool

def m__law_take : SM :=
    sSeq (sIf (toB (eOp gtD (eOpX idxD (xS 0) (xV (eC (.int 0)))) (eC (.int 0)))) (sSeq (sSet 2 (eOp modD (eOpX idxD (xS 0) (xV (eC (.int 0)))) (eV 1)))
    (sSeq (sSetI 0 (eOp fdivD (eOpX idxD (xS 0) (xV (eC (.int 0)))) (eV 1)) (eC (.int 0)))
    (sRet (eV 2)))) (sNx))
    (sSeq (sSetI 0 (eOp modD (eOp addD (eOp mulD (eOpX idxD (xS 0) (xV (eC (.int 1)))) (eC (.int 48271))) (eC (.int 12345))) (eC (.int 2147483647))) (eC (.int 1)))
    (sRet (eOp modD (eOp fdivD (eOp modD (eOp mulD (eOpX idxD (xS 0) (xV (eC (.int 1)))) (eOpX idxD (xS 0) (xV (eC (.int 1))))) (eC (.int 2147483629))) (eC (.int 64))) (eV 1))))
def F__law_take : D → List D → FT := fnSemT 2 3 c1 m__law_take

def m__law_worths : SM :=
    sSeq (sSet 1 (eLst (aCons (eTup (aNil)) (aNil))))
    (sSeq (sFor (iAll (eV 0)) (tgN 2) (sSeq (sSet 3 (eLst (aNil)))
    (sSeq (sFor (iAll (eV 1)) (tgN 4) (sSet 3 (eOp addD (eV 3) (eLc (iR1 (aCons (eV 2) (aNil))) [5] (tgN 5) (tYs) (eOp addD (eV 4) (eTup (aCons (eV 5) (aNil))))))))
    (sSet 1 (eV 3)))))
    (sRet (eV 1)))
def F__law_worths : List D → FR := fnSem 1 6 m__law_worths

def m__law_side : SM :=
    sSeq (sMix [3, 4] ((true, eLst (aNil)) :: (false, eC (.int 1)) :: []))
    (sSeq (sFor (iR1 (aCons (eFnT c1 c1 F__law_take 0 (aCons (eC (.int 3)) (aNil))) (aNil))) (tgN 2) (sSeq (sSet 5 (eOp addD (eC (.int 1)) (eFnT c1 c1 F__law_take 0 (aCons (eC (.int 3)) (aNil)))))
    (sIf (toB (eOp leD (eOp mulD (eV 4) (eV 5)) (eV 1))) (sSeq (sSet 4 (eOp mulD (eV 4) (eV 5)))
    (sDo (eMut "list" appendM 3 (aCons (eV 5) (aNil))))) (sNx))))
    (sRet (eAppX tupleD (yCons (xS 3) (yNil)))))
def F__law_side : D → List D → FT := fnSemT 2 6 c1 m__law_side

def m__law_rows : SM :=
    sSeq (sSetO 3 c1 (eLst (aNil)))
    (sSeq (sFor (iAll (eFn F__law_worths [] (aCons (eV 1) (aNil)))) (tgN 4) (sFor (iAll (eFn F__law_worths [] (aCons (eV 2) (aNil)))) (tgN 5) (sSeq (sSet 6 (eOp idxD (eLst (aCons (eC (.int 0)) (aCons (eC (.int 0)) (aCons (eC (.int 1)) (aCons (eOp addD (eC (.int 1)) (eFnT c1 c1 F__law_take 0 (aCons (eC (.int 9)) (aNil)))) (aCons (eOp powD (eC (.int 10)) (eC (.int 30))) (aNil))))))) (eFnT c1 c1 F__law_take 0 (aCons (eC (.int 5)) (aNil)))))
    (sIf (toB (eOp gtD (eV 6) (eC (.int 0)))) (sDo (eMut "list" appendM 3 (aCons (eTup (aCons (eV 4) (aCons (eV 5) (aCons (eV 6) (aNil))))) (aNil)))) (sNx)))))
    (sRet (eZ 3)))
def F__law_rows : D → List D → FT := fnSemT 3 7 c1 m__law_rows

def m__law_caught : SM :=
    sSeq (sSet 3 (eC .non))
    (sSeq (sTryK nE isa (sDo (eMk 50 F_Table___init__ (aCons (eV 0) (aCons (eV 1) (aCons (eV 2) (aNil)))))) c_NetworkError 4 (sCpX 3 4))
    (sSeq (sIf (toB (eOp isD (eV 3) (eC .non))) (sRetF c1 (eLst (aCons (eC (.str "made")) (aNil)))) (sNx))
    (sSeq (sSetO 5 c1 (eLst (aCons (eUn (viD [(c_InvalidSizes, true), (c_TooWide, false), (c_InvalidRow, false), (c_InvalidValues, false)]) (eV 3)) (aCons (eUn (viD [(c_InvalidSizes, false), (c_TooWide, true), (c_InvalidRow, false), (c_InvalidValues, false)]) (eV 3)) (aCons (eUn (viD [(c_InvalidSizes, false), (c_TooWide, false), (c_InvalidRow, true), (c_InvalidValues, false)]) (eV 3)) (aNil))))))
    (sSeq (sDo (eMut "list" appendM 5 (aCons (eUn (viD [(c_InvalidSizes, false), (c_TooWide, false), (c_InvalidRow, false), (c_InvalidValues, true)]) (eV 3)) (aNil))))
    (sSeq (sIf (tOt (toB (eOp neD (eMt "list" cntLM (xS 5) (aCons (eC (.bl true)) (aNil))) (eC (.int 1)))) (tNo (toB (eUn (viD [(c_InvalidSizes, true), (c_TooWide, true), (c_InvalidRow, true), (c_InvalidValues, true)]) (eV 3))))) (sRetF c1 (eLst (aCons (eC (.str "odd")) (aNil)))) (sNx))
    (sRetF c1 (eLst (aCons (eMt "list" idxM (xS 5) (aCons (eC (.bl true)) (aNil))) (aCons (eIf (toB (eOpX idxD (xS 5) (xV (eC (.int 1))))) (eUn (vfD [c_TooWide] "count") (eV 3)) (eApp (orA reprL reprN) (aCons (eUn (vfD [c_InvalidSizes, c_InvalidRow, c_InvalidValues] "value") (eV 3)) (aNil)))) (aNil))))))))))
def F__law_caught : List D → FR := fnSem 3 6 m__law_caught

def m__law_odd_row : SM :=
    sSeq (sSet 3 (eApp tupleD (aCons (eLc (iAll (eV 1)) [6] (tgN 6) (tYs) (eC (.int 0))) (aNil))))
    (sSeq (sSet 4 (eApp tupleD (aCons (eLc (iAll (eV 2)) [6] (tgN 6) (tYs) (eC (.int 0))) (aNil))))
    (sSeq (sSet 5 (eLst (aCons (eC .non) (aCons (eLst (aCons (eV 3) (aCons (eV 4) (aCons (eC (.int 1)) (aNil))))) (aCons (eTup (aCons (eV 3) (aCons (eV 4) (aNil)))) (aCons (eTup (aCons (eV 3) (aCons (eV 4) (aCons (eC (.int 1)) (aCons (eC (.int 1)) (aNil)))))) (aCons (eTup (aCons (eV 3) (aCons (eV 4) (aCons (eC (.int 0)) (aNil))))) (aCons (eTup (aCons (eV 3) (aCons (eV 4) (aCons (eC (.bl true)) (aNil))))) (aNil)))))))))
    (sSeq (sSet 5 (eOp addD (eV 5) (eLst (aCons (eTup (aCons (eV 3) (aCons (eV 4) (aCons (eUn negD (eC (.int 1))) (aNil))))) (aCons (eTup (aCons (eV 3) (aCons (eV 4) (aCons (eOp addD (eOp powD (eC (.int 10)) (eC (.int 30))) (eC (.int 1))) (aNil))))) (aCons (eTup (aCons (eV 3) (aCons (eV 4) (aCons (eC (.str "1")) (aNil))))) (aCons (eTup (aCons (eOp addD (eV 3) (eTup (aCons (eC (.int 0)) (aNil)))) (aCons (eV 4) (aCons (eC (.int 1)) (aNil))))) (aCons (eC (.str "row")) (aNil)))))))))
    (sSeq (sSet 5 (eOp addD (eV 5) (eLst (aCons (eTup (aCons (eV 3) (aCons (eApp listD (aCons (eV 4) (aNil))) (aCons (eC (.int 1)) (aNil))))) (aCons (eTup (aCons (eC .non) (aCons (eV 4) (aCons (eC (.int 1)) (aNil))))) (aCons (eTup (aCons (eV 3) (aCons (eOp addD (eV 4) (eTup (aCons (eC (.int 0)) (aNil)))) (aCons (eC (.int 1)) (aNil))))) (aCons (eTup (aCons (eV 3) (aCons (eV 4) (aCons (eC .non) (aNil))))) (aCons (eC (.dct [])) (aNil)))))))))
    (sSeq (sIf (toB (eOp neD (eV 1) (eTup (aNil)))) (sSet 5 (eOp addD (eV 5) (eLst (aCons (eTup (aCons (eOp addD (eTup (aCons (eOp idxD (eV 1) (eC (.int 0))) (aNil))) (eSl (eV 3) (oSome (eC (.int 1))) (oNone))) (aCons (eV 4) (aCons (eC (.int 1)) (aNil))))) (aCons (eTup (aCons (eOp addD (eTup (aCons (eC (.bl true)) (aNil))) (eSl (eV 3) (oSome (eC (.int 1))) (oNone))) (aCons (eV 4) (aCons (eC (.int 1)) (aNil))))) (aCons (eTup (aCons (eOp addD (eTup (aCons (eUn negD (eC (.int 1))) (aNil))) (eSl (eV 3) (oSome (eC (.int 1))) (oNone))) (aCons (eV 4) (aCons (eC (.int 1)) (aNil))))) (aNil))))))) (sNx))
    (sRet (eOp idxD (eV 5) (eFnT c1 c1 F__law_take 0 (aCons (eApp lenA (aCons (eV 5) (aNil))) (aNil))))))))))
def F__law_odd_row : D → List D → FT := fnSemT 3 7 c1 m__law_odd_row

def m__law_odd_sizes : SM :=
    sSeq (sSet 2 (eFnT c1 c1 F__law_take 0 (aCons (eOp addD (eApp lenA (aCons (eV 1) (aNil))) (eC (.int 1))) (aNil))))
    (sSeq (sSet 3 (eOp idxD (eLst (aCons (eC (.int 0)) (aCons (eC (.int 5)) (aCons (eC (.bl true)) (aCons (eC .non) (aCons (eC (.str "2")) (aCons (eTup (aCons (eC (.int 1)) (aNil))) (aCons (eUn negD (eC (.int 1))) (aNil))))))))) (eFnT c1 c1 F__law_take 0 (aCons (eC (.int 7)) (aNil)))))
    (sRet (eOp idxD (eLst (aCons (eOp addD (eOp addD (eSl (eV 1) (oNone) (oSome (eV 2))) (eTup (aCons (eV 3) (aNil)))) (eSl (eV 1) (oSome (eV 2)) (oNone))) (aCons (eApp listD (aCons (eV 1) (aNil))) (aCons (eC .non) (aCons (eOp mulD (eTup (aCons (eC (.int 1)) (aNil))) (eC (.int 31))) (aCons (eC (.int 3)) (aNil))))))) (eFnT c1 c1 F__law_take 0 (aCons (eC (.int 5)) (aNil))))))
def F__law_odd_sizes : D → List D → FT := fnSemT 2 4 c1 m__law_odd_sizes

def b_law_1 : SM :=
    sSeq (sSetO 2 c1 (eFnO c1 F__law_pool [] (aCons (eV 0) (aCons (eV 1) (aNil)))))
    (sSeq (sMix [11, 12] ((false, eFnT c1 c1 F__law_side 2 (aCons (eC (.int 4)) (aNil))) :: (false, eFnT c1 c1 F__law_side 2 (aCons (eC (.int 4)) (aNil))) :: []))
    (sSeq (sSet 3 (eFnT c1 c1 F__law_rows 2 (aCons (eV 11) (aCons (eV 12) (aNil)))))
    (sSeq (sSet 4 (eApp (orA reprL reprN) (aCons (eV 3) (aNil))))
    (sSeq (sIf (toB (eOp neD (eFn F__law_caught [] (aCons (eV 11) (aCons (eV 12) (aCons (eV 3) (aNil))))) (eLst (aCons (eC (.str "made")) (aNil))))) (sRet (eC (.bl false))) (sNx))
    (sSeq (sSet 5 (eFnT c1 c1 F__law_take 2 (aCons (eOp addD (eApp lenA (aCons (eV 3) (aNil))) (eC (.int 1))) (aNil))))
    (sSeq (sSet 6 (eFnT c1 c1 F__law_odd_row 2 (aCons (eV 11) (aCons (eV 12) (aNil)))))
    (sSeq (sSet 7 (eOp addD (eOp addD (eSl (eV 3) (oNone) (oSome (eV 5))) (eLst (aCons (eV 6) (aNil)))) (eSl (eV 3) (oSome (eV 5)) (oNone))))
    (sSeq (sSet 8 (eOp idxD (eLst (aCons (eC .non) (aCons (eC (.dct [])) (aCons (eC (.str "rows")) (aCons (eC (.int 5)) (aCons (eC (.bl true)) (aNil))))))) (eFnT c1 c1 F__law_take 2 (aCons (eC (.int 5)) (aNil)))))
    (sSeq (sIf (tOt (toB (eOp neD (eFn F__law_caught [] (aCons (eV 11) (aCons (eV 12) (aCons (eV 7) (aNil))))) (eLst (aCons (eC (.int 2)) (aCons (eApp (orA reprL reprN) (aCons (eV 6) (aNil))) (aNil)))))) (toB (eOp neD (eFn F__law_caught [] (aCons (eV 11) (aCons (eV 12) (aCons (eV 8) (aNil))))) (eLst (aCons (eC (.int 2)) (aCons (eApp (orA reprL reprN) (aCons (eV 8) (aNil))) (aNil))))))) (sRet (eC (.bl false))) (sNx))
    (sSeq (sIf (toB (eOp neD (eV 3) (eLst (aNil)))) (sSeq (sSet 13 (eOp addD (eSl (eOp idxD (eV 3) (eOp modD (eV 5) (eApp lenA (aCons (eV 3) (aNil))))) (oNone) (oSome (eC (.int 2)))) (eTup (aCons (eC (.int 7)) (aNil)))))
    (sIf (toB (eOp neD (eFn F__law_caught [] (aCons (eV 11) (aCons (eV 12) (aCons (eOp addD (eOp addD (eV 3) (eLst (aCons (eV 13) (aNil)))) (eLst (aCons (eV 6) (aNil)))) (aNil))))) (eLst (aCons (eC (.int 2)) (aCons (eApp (orA reprL reprN) (aCons (eV 13) (aNil))) (aNil)))))) (sRet (eC (.bl false))) (sNx))) (sNx))
    (sSeq (sSet 9 (eFnT c1 c1 F__law_odd_sizes 2 (aCons (eV 11) (aNil))))
    (sSeq (sSet 10 (eTup (aCons (eC (.int 4)) (aCons (eC (.int 4)) (aCons (eC (.int 4)) (aCons (eC (.int 4)) (aCons (eC (.int 4)) (aNil))))))))
    (sSeq (sIf (toB (eOp neD (eFn F__law_caught [] (aCons (eV 9) (aCons (eC .non) (aCons (eV 8) (aNil))))) (eLst (aCons (eC (.int 0)) (aCons (eApp (orA reprL reprN) (aCons (eV 9) (aNil))) (aNil)))))) (sRet (eC (.bl false))) (sNx))
    (sSeq (sIf (toB (eOp neD (eFn F__law_caught [] (aCons (eV 11) (aCons (eV 9) (aCons (eV 8) (aNil))))) (eLst (aCons (eC (.int 0)) (aCons (eApp (orA reprL reprN) (aCons (eV 9) (aNil))) (aNil)))))) (sRet (eC (.bl false))) (sNx))
    (sSeq (sIf (tOt (toB (eOp neD (eOp idxD (eFn F__law_caught [] (aCons (eV 10) (aCons (eOp addD (eTup (aCons (eC (.int 2)) (aNil))) (eV 12)) (aCons (eV 8) (aNil))))) (eC (.int 0))) (eC (.int 1)))) (toB (eOp neD (eFn F__law_caught [] (aCons (eV 10) (aCons (eTup (aCons (eC (.int 3)) (aCons (eC (.int 1)) (aNil)))) (aCons (eV 7) (aNil))))) (eLst (aCons (eC (.int 1)) (aCons (eC (.int 3072)) (aNil))))))) (sRet (eC (.bl false))) (sNx))
    (sIf (tOt (toB (eOp neD (eFn F__law_caught [] (aCons (eV 10) (aCons (eTup (aCons (eC (.int 1)) (aNil))) (aCons (eLst (aNil)) (aNil))))) (eLst (aCons (eC (.str "made")) (aNil))))) (toB (eOp neD (eApp (orA reprL reprN) (aCons (eV 3) (aNil))) (eV 4)))) (sRet (eC (.bl false))) (sNx)))))))))))))))))
def m_law : SM :=
    sSeq (sFor (iR1 (aCons (eApp maxD (aCons (eC (.int 1)) (aCons (eApp minD (aCons (eC (.int 16)) (aCons (eApp lenA (aCons (eV 0) (aNil))) (aNil)))) (aNil)))) (aNil))) (tgN 1) (b_law_1))
    (sRet (eC (.bl true)))
def F_law : List D → FR := fnSem 1 14 m_law
end K03
end

section
set_option Elab.async false
set_option linter.all false
set_option maxRecDepth 100000
set_option maxHeartbeats 8000000
/-! the walk (printed by gen2.py) -/
namespace K03
open PySem L2 PyProof.Rows PySem.Spec DL
theorem sc_is_integer : FnScope ["value", "minimum"] ["value", "minimum"] (defScope s_is_integer) := ⟨rfl, rfl, rfl, by decide +kernel, rfl, by decide +kernel, by decide +kernel⟩

theorem sc_is_size : FnScope ["value"] ["value"] (defScope s_is_size) := ⟨rfl, rfl, rfl, by decide +kernel, rfl, by decide +kernel, by decide +kernel⟩

theorem sc_is_sizes : FnScope ["value", "size"] ["value"] (defScope s_is_sizes) := ⟨rfl, rfl, rfl, by decide +kernel, rfl, by decide +kernel, by decide +kernel⟩

theorem sc_check_sizes : FnScope ["value"] ["value"] (defScope s_check_sizes) := ⟨rfl, rfl, rfl, by decide +kernel, rfl, by decide +kernel, by decide +kernel⟩

theorem sc_product : FnScope ["numbers", "result", "number"] ["numbers"] (defScope s_product) := ⟨rfl, rfl, rfl, by decide +kernel, rfl, by decide +kernel, by decide +kernel⟩

theorem sc_is_values : FnScope ["sizes", "value", "item", "size"] ["sizes", "value"] (defScope s_is_values) := ⟨rfl, rfl, rfl, by decide +kernel, rfl, by decide +kernel, by decide +kernel⟩

theorem sc_check_product : FnScope ["number"] ["number"] (defScope s_check_product) := ⟨rfl, rfl, rfl, by decide +kernel, rfl, by decide +kernel, by decide +kernel⟩

theorem sc_is_row : FnScope ["input_sizes", "output_sizes", "value", "inputs", "outputs", "weight"] ["input_sizes", "output_sizes", "value"] (defScope s_is_row) := ⟨rfl, rfl, rfl, by decide +kernel, rfl, by decide +kernel, by decide +kernel⟩

theorem sc_Table___init__ : FnScope ["self", "input_sizes", "output_sizes", "rows", "row"] ["self", "input_sizes", "output_sizes", "rows"] (defScope s_Table___init__) := ⟨rfl, rfl, rfl, by decide +kernel, rfl, by decide +kernel, by decide +kernel⟩

theorem sc__law_pool : FnScope ["_law_script", "_law_k", "_law_cell", "_law_mixed"] ["_law_script", "_law_k"] (defScope s__law_pool) := ⟨rfl, rfl, rfl, by decide +kernel, rfl, by decide +kernel, by decide +kernel⟩

theorem sc__law_take : FnScope ["_law_pool_here", "_law_many", "_law_found"] ["_law_pool_here", "_law_many"] (defScope s__law_take) := ⟨rfl, rfl, rfl, by decide +kernel, rfl, by decide +kernel, by decide +kernel⟩

theorem sc__law_worths : FnScope ["_law_sizes", "_law_found", "_law_size", "_law_later", "_law_one", "_law_worth"] ["_law_sizes"] (defScope s__law_worths) := ⟨rfl, rfl, rfl, by decide +kernel, rfl, by decide +kernel, by decide +kernel⟩

theorem sc__law_side : FnScope ["_law_pool_here", "_law_most", "_law_turn", "_law_found", "_law_whole", "_law_size"] ["_law_pool_here", "_law_most"] (defScope s__law_side) := ⟨rfl, rfl, rfl, by decide +kernel, rfl, by decide +kernel, by decide +kernel⟩

theorem sc__law_rows : FnScope ["_law_pool_here", "_law_ins", "_law_outs", "_law_found", "_law_given", "_law_told", "_law_many"] ["_law_pool_here", "_law_ins", "_law_outs"] (defScope s__law_rows) := ⟨rfl, rfl, rfl, by decide +kernel, rfl, by decide +kernel, by decide +kernel⟩

theorem sc__law_caught : FnScope ["_law_ins", "_law_outs", "_law_rows_here", "_law_found", "e", "_law_kinds"] ["_law_ins", "_law_outs", "_law_rows_here"] (defScope s__law_caught) := ⟨rfl, rfl, rfl, by decide +kernel, rfl, by decide +kernel, by decide +kernel⟩

theorem sc__law_odd_row : FnScope ["_law_pool_here", "_law_ins", "_law_outs", "_law_given", "_law_told", "_law_some", "_law_size"] ["_law_pool_here", "_law_ins", "_law_outs"] (defScope s__law_odd_row) := ⟨rfl, rfl, rfl, by decide +kernel, rfl, by decide +kernel, by decide +kernel⟩

theorem sc__law_odd_sizes : FnScope ["_law_pool_here", "_law_good", "_law_at", "_law_odd"] ["_law_pool_here", "_law_good"] (defScope s__law_odd_sizes) := ⟨rfl, rfl, rfl, by decide +kernel, rfl, by decide +kernel, by decide +kernel⟩

theorem sc_law : FnScope ["_law_script", "_law_k", "_law_pool_here", "_law_rows_here", "_law_kept", "_law_at", "_law_odd", "_law_bent", "_law_none", "_law_strange", "_law_wide", "_law_ins", "_law_outs", "_law_twice"] ["_law_script"] (defScope s_law) := ⟨rfl, rfl, rfl, by decide +kernel, rfl, by decide +kernel, by decide +kernel⟩
structure Txt (K : PySem.W.Frag) (mg : Str → Option Value) (cl : Nat → Addr) : Prop where
  n_ValueError : mg "ValueError" = none
  n_abs : mg "abs" = none
  n_all : mg "all" = none
  n_bool : mg "bool" = none
  n_int : mg "int" = none
  n_isinstance : mg "isinstance" = none
  n_len : mg "len" = none
  n_list : mg "list" = none
  n_max : mg "max" = none
  n_min : mg "min" = none
  n_range : mg "range" = none
  n_repr : mg "repr" = none
  n_sorted : mg "sorted" = none
  n_tuple : mg "tuple" = none
  n_zip : mg "zip" = none
  c_MAX_PRODUCT : ∃ t, mg "MAX_PRODUCT" = some (.int 1024 t)
  c_MAX_SIZE : ∃ t, mg "MAX_SIZE" = some (.int 4 t)
  c_MAX_WEIGHT : ∃ t, mg "MAX_WEIGHT" = some (.int 1000000000000000000000000000000 t)
  c_MAX_WIRES : ∃ t, mg "MAX_WIRES" = some (.int 30 t)
  f_is_integer : HasD K mg "is_integer" s_is_integer [.int 0]
  f_is_size : HasF K mg "is_size" s_is_size
  f_is_sizes : HasF K mg "is_sizes" s_is_sizes
  f_check_sizes : HasF K mg "check_sizes" s_check_sizes
  f_product : HasF K mg "product" s_product
  f_is_values : HasF K mg "is_values" s_is_values
  f_check_values : HasF K mg "check_values" s_check_values
  f_check_product : HasF K mg "check_product" s_check_product
  f_is_row : HasF K mg "is_row" s_is_row
  f__law_pool : HasF K mg "_law_pool" s__law_pool
  f__law_take : HasF K mg "_law_take" s__law_take
  f__law_worths : HasF K mg "_law_worths" s__law_worths
  f__law_side : HasF K mg "_law_side" s__law_side
  f__law_rows : HasF K mg "_law_rows" s__law_rows
  f__law_caught : HasF K mg "_law_caught" s__law_caught
  f__law_odd_row : HasF K mg "_law_odd_row" s__law_odd_row
  f__law_odd_sizes : HasF K mg "_law_odd_sizes" s__law_odd_sizes
  f_law : HasF K mg "law" s_law
  k_Table : Cls K (cl 50)
  g_Table : mg "Table" = some (.ref (cl 50))
  na_Table_weights : NoAttr K (cl 50) "weights"
  na_Table_sizes_in : NoAttr K (cl 50) "sizes_in"
  na_Table_sizes_out : NoAttr K (cl 50) "sizes_out"
  mk_Table : HasC K mg (cl 50) "Table" "Table.__init__" s_Table___init__
  m_Table_input_sizes : HasM K (cl 50) "input_sizes" "Table.input_sizes" s_Table_input_sizes
  m_Table_output_sizes : HasM K (cl 50) "output_sizes" "Table.output_sizes" s_Table_output_sizes
  m_Table_rows : HasM K (cl 50) "rows" "Table.rows" s_Table_rows
  m_Table_weight : HasM K (cl 50) "weight" "Table.weight" s_Table_weight
  m_Table___eq__ : HasM K (cl 50) "__eq__" "Table.__eq__" s_Table___eq__
  m_Table___len__ : HasM K (cl 50) "__len__" "Table.__len__" s_Table___len__
  ne_Table : PySem.W.findIn K (.ref (cl 50)) "__ne__" = some (some (.builtin "object.__ne__"))
  top_Table : PySem.W.mroIn K (cl 50) (.type "object") = some true
  ki : ∀ (P : Program) (w : World), KitF ⟨P, w, K, cl⟩ [50]
  t_NetworkError : NetT K mg "NetworkError"
  e_InvalidSizes : ErrT K mg "InvalidSizes" "InvalidSizes.__init__" "value" i_InvalidSizes (cl 0)
  e_InvalidValues : ErrT K mg "InvalidValues" "InvalidValues.__init__" "value" i_InvalidValues (cl 1)
  e_InvalidRow : ErrT K mg "InvalidRow" "InvalidRow.__init__" "value" i_InvalidRow (cl 2)
  e_TooWide : ErrT K mg "TooWide" "TooWide.__init__" "count" i_TooWide (cl 3)
  gb_NetworkError : mg "NetworkError" = some (.ref (cl 30))
  xi_InvalidRow : XiC K (cl 2)
  xi_InvalidSizes : XiC K (cl 0)
  xi_InvalidValues : XiC K (cl 1)
  xi_TooWide : XiC K (cl 3)
  kx_InvalidRow_InvalidRow : PySem.W.kitOne K (.ref (cl 2)) (ctV cl (.o 2)) = some true
  kx_InvalidRow_InvalidSizes : PySem.W.kitOne K (.ref (cl 2)) (ctV cl (.o 0)) = some false
  kx_InvalidRow_InvalidValues : PySem.W.kitOne K (.ref (cl 2)) (ctV cl (.o 1)) = some false
  kx_InvalidRow_TooWide : PySem.W.kitOne K (.ref (cl 2)) (ctV cl (.o 3)) = some false
  kx_InvalidRow_ValueError : PySem.W.kitOne K (.ref (cl 2)) (ctV cl (.b "ValueError")) = some true
  kx_InvalidSizes_InvalidRow : PySem.W.kitOne K (.ref (cl 0)) (ctV cl (.o 2)) = some false
  kx_InvalidSizes_InvalidSizes : PySem.W.kitOne K (.ref (cl 0)) (ctV cl (.o 0)) = some true
  kx_InvalidSizes_InvalidValues : PySem.W.kitOne K (.ref (cl 0)) (ctV cl (.o 1)) = some false
  kx_InvalidSizes_TooWide : PySem.W.kitOne K (.ref (cl 0)) (ctV cl (.o 3)) = some false
  kx_InvalidSizes_ValueError : PySem.W.kitOne K (.ref (cl 0)) (ctV cl (.b "ValueError")) = some true
  kx_InvalidValues_InvalidRow : PySem.W.kitOne K (.ref (cl 1)) (ctV cl (.o 2)) = some false
  kx_InvalidValues_InvalidSizes : PySem.W.kitOne K (.ref (cl 1)) (ctV cl (.o 0)) = some false
  kx_InvalidValues_InvalidValues : PySem.W.kitOne K (.ref (cl 1)) (ctV cl (.o 1)) = some true
  kx_InvalidValues_TooWide : PySem.W.kitOne K (.ref (cl 1)) (ctV cl (.o 3)) = some false
  kx_InvalidValues_ValueError : PySem.W.kitOne K (.ref (cl 1)) (ctV cl (.b "ValueError")) = some true
  kx_TooWide_InvalidRow : PySem.W.kitOne K (.ref (cl 3)) (ctV cl (.o 2)) = some false
  kx_TooWide_InvalidSizes : PySem.W.kitOne K (.ref (cl 3)) (ctV cl (.o 0)) = some false
  kx_TooWide_InvalidValues : PySem.W.kitOne K (.ref (cl 3)) (ctV cl (.o 1)) = some false
  kx_TooWide_TooWide : PySem.W.kitOne K (.ref (cl 3)) (ctV cl (.o 3)) = some true
  kx_TooWide_ValueError : PySem.W.kitOne K (.ref (cl 3)) (ctV cl (.b "ValueError")) = some true
  exb_NetworkError : ∀ c, c < nE → PySem.W.exmOne K (.ref (cl c)) (.ref (cl 30)) = some (isa c 30)
  exm : ∀ c c0, c < nE → c0 < nE → PySem.W.exmOne K (.ref (cl c)) (.ref (cl c0)) = some (isa c c0)
theorem sci_InvalidSizes : FnScope ["self", "value"] ["self", "value"] (defScope i_InvalidSizes) := ⟨rfl, rfl, rfl, by decide +kernel, rfl, by decide +kernel, by decide +kernel⟩
theorem err_InvalidSizes {X : Cx} {P : Program} {w : World} {K : PySem.W.Frag} {mg : Str → Option Value} {base : Heap} {A : Around} {cl : Nat → Addr} {k : Nat} (T : Txt K mg cl) (hr : Room k A) (hk : 2 ≤ k := by decide) (hX : Fits X P w K mg base A := by exact ⟨rfl, rfl, rfl, rfl, rfl, rfl⟩) : ErrC ⟨P, w, K, cl⟩ X "InvalidSizes" 0 "value" := by
  obtain ⟨e1, e2, e3, e4, e5, e6⟩ := hX
  subst e1 e2 e3 e4 e5 e6
  obtain ⟨fI, fd, h1, h2, F⟩ := T.e_InvalidSizes.ini
  obtain ⟨N, g1, g2, g3, g4⟩ := T.t_NetworkError.ex
  refine ⟨1, fI, fd, ["self", "value"], T.e_InvalidSizes.ox, h1, h2, init_ok (m := "invalid sizes") F T.e_InvalidSizes.ox T.e_InvalidSizes.no sci_InvalidSizes ?_, hr.mono hk, F.binds fun _ _ _ _ _ _ us hl => match us, hl with | [_, _], _ => rfl, T.e_InvalidSizes.gl⟩
  intro cdv A outer s H E
  exact pss_cons (ps_expr (pe_netinit g1 g2 g3 g4 (pa_cons (pv 0) (pa_cons pe_str pa_nil)))) (pss_one (ps_ost (pv 0) (pv 1)))
theorem sci_InvalidRow : FnScope ["self", "value"] ["self", "value"] (defScope i_InvalidRow) := ⟨rfl, rfl, rfl, by decide +kernel, rfl, by decide +kernel, by decide +kernel⟩
theorem err_InvalidRow {X : Cx} {P : Program} {w : World} {K : PySem.W.Frag} {mg : Str → Option Value} {base : Heap} {A : Around} {cl : Nat → Addr} {k : Nat} (T : Txt K mg cl) (hr : Room k A) (hk : 2 ≤ k := by decide) (hX : Fits X P w K mg base A := by exact ⟨rfl, rfl, rfl, rfl, rfl, rfl⟩) : ErrC ⟨P, w, K, cl⟩ X "InvalidRow" 2 "value" := by
  obtain ⟨e1, e2, e3, e4, e5, e6⟩ := hX
  subst e1 e2 e3 e4 e5 e6
  obtain ⟨fI, fd, h1, h2, F⟩ := T.e_InvalidRow.ini
  obtain ⟨N, g1, g2, g3, g4⟩ := T.t_NetworkError.ex
  refine ⟨1, fI, fd, ["self", "value"], T.e_InvalidRow.ox, h1, h2, init_ok (m := "invalid row") F T.e_InvalidRow.ox T.e_InvalidRow.no sci_InvalidRow ?_, hr.mono hk, F.binds fun _ _ _ _ _ _ us hl => match us, hl with | [_, _], _ => rfl, T.e_InvalidRow.gl⟩
  intro cdv A outer s H E
  exact pss_cons (ps_expr (pe_netinit g1 g2 g3 g4 (pa_cons (pv 0) (pa_cons pe_str pa_nil)))) (pss_one (ps_ost (pv 0) (pv 1)))
theorem sci_TooWide : FnScope ["self", "count"] ["self", "count"] (defScope i_TooWide) := ⟨rfl, rfl, rfl, by decide +kernel, rfl, by decide +kernel, by decide +kernel⟩
theorem err_TooWide {X : Cx} {P : Program} {w : World} {K : PySem.W.Frag} {mg : Str → Option Value} {base : Heap} {A : Around} {cl : Nat → Addr} {k : Nat} (T : Txt K mg cl) (hr : Room k A) (hk : 2 ≤ k := by decide) (hX : Fits X P w K mg base A := by exact ⟨rfl, rfl, rfl, rfl, rfl, rfl⟩) : ErrC ⟨P, w, K, cl⟩ X "TooWide" 3 "count" := by
  obtain ⟨e1, e2, e3, e4, e5, e6⟩ := hX
  subst e1 e2 e3 e4 e5 e6
  obtain ⟨fI, fd, h1, h2, F⟩ := T.e_TooWide.ini
  obtain ⟨N, g1, g2, g3, g4⟩ := T.t_NetworkError.ex
  refine ⟨1, fI, fd, ["self", "count"], T.e_TooWide.ox, h1, h2, init_ok (m := "too wide") F T.e_TooWide.ox T.e_TooWide.no sci_TooWide ?_, hr.mono hk, F.binds fun _ _ _ _ _ _ us hl => match us, hl with | [_, _], _ => rfl, T.e_TooWide.gl⟩
  intro cdv A outer s H E
  exact pss_cons (ps_expr (pe_netinit g1 g2 g3 g4 (pa_cons (pv 0) (pa_cons pe_str pa_nil)))) (pss_one (ps_ost (pv 0) (pv 1)))
theorem body_is_integer {P : Program} {w : World} {K : PySem.W.Frag} {mg : Str → Option Value} {base : Heap} {cl : Nat → Addr} (T : Txt K mg cl) : Walk P w K mg base cl ["value", "minimum"] "is_integer" s_is_integer 0 m_is_integer := by
  intro f cdv A outer s H E hr hg
  exact ds_one (ds_ret (de_and (de_isi ⟨rfl, rfl, rfl⟩ (T.ki _ _) (de_var (i := 0)) (pcls_b T.n_int (by decide +kernel)) T.n_isinstance) (de_and (de_not (de_isi ⟨rfl, rfl, rfl⟩ (T.ki _ _) (de_var (i := 0)) (pcls_b T.n_bool (by decide +kernel)) T.n_isinstance)) (de_and1 (de_cmp op_ge od_ge (de_var (i := 0)) (de_var (i := 1)))))))
theorem ok_is_integer_1 {P : Program} {w : World} {K : PySem.W.Frag} {mg : Str → Option Value} {base : Heap} {cl : Nat → Addr} (T : Txt K mg cl) : Def P w K mg base cl "is_integer" 1 2 F_is_integer [.int 0] :=
  defD_of (k := 0) (n := 1) (j := 0) T.f_is_integer sc_is_integer rfl rfl (by simp) (fun _ _ _ _ _ _ _ us its h1 h2 => match us, its, h1, h2 with | [_], [_], _, _ => ⟨_, rfl, rfl⟩) (fun _ => .cons (.int _) (.nil)) (body_is_integer T)
theorem ok_is_integer_2 {P : Program} {w : World} {K : PySem.W.Frag} {mg : Str → Option Value} {base : Heap} {cl : Nat → Addr} (T : Txt K mg cl) : Def P w K mg base cl "is_integer" 1 2 F_is_integer [] :=
  defD_of (k := 0) (n := 2) (j := 1) T.f_is_integer sc_is_integer rfl rfl (by simp) (fun _ _ _ _ _ _ _ us its h1 h2 => match us, its, h1, h2 with | [_, _], [_], _, _ => ⟨_, rfl, rfl⟩) (fun _ => .nil) (body_is_integer T)

theorem ok_is_size {P : Program} {w : World} {K : PySem.W.Frag} {mg : Str → Option Value} {base : Heap} {cl : Nat → Addr} (T : Txt K mg cl) : Def P w K mg base cl "is_size" 2 1 F_is_size [] := by
  refine def_of (k := 1) (N := ["value"]) (body := m_is_size) T.f_is_size sc_is_size rfl (fun _ _ _ _ _ _ us hl => match us, hl with | [_], _ => rfl) ?_
  intro f cdv A outer s H E hr hg
  exact ds_one (ds_ret (de_and (de_fn (by exact (ok_is_integer_2 T).cal hr) (by exact hg) (takes_of rfl rfl rfl rfl) (da_cons (de_var (i := 0)) (da_cons (de_int) (da_nil)))) (de_and1 (de_cmp op_le od_le (de_var (i := 0)) (de_gint T.c_MAX_SIZE)))))

theorem ok_is_sizes {P : Program} {w : World} {K : PySem.W.Frag} {mg : Str → Option Value} {base : Heap} {cl : Nat → Addr} (T : Txt K mg cl) : Def P w K mg base cl "is_sizes" 3 1 F_is_sizes [] := by
  refine def_of (k := 2) (N := ["value", "size"]) (body := m_is_sizes) T.f_is_sizes sc_is_sizes rfl (fun _ _ _ _ _ _ us hl => match us, hl with | [_], _ => rfl) ?_
  intro f cdv A outer s H E hr hg
  exact ds_one (ds_ret (de_and (de_isi ⟨rfl, rfl, rfl⟩ (T.ki _ _) (de_var (i := 0)) (pcls_b T.n_tuple (by decide +kernel)) T.n_isinstance) (de_and (de_cmp op_le od_le (de_callB call_lenA (ad_lenA ⟨rfl, rfl, rfl⟩) T.n_len (by decide +kernel) (da_cons (de_var (i := 0)) (da_nil))) (de_gint T.c_MAX_WIRES)) (de_and1 (de_callB (cr_all rfl) ad_all T.n_all (by decide +kernel) (da_cons (de_frz (df_lc (by rfl) sc_is_sizes.nd (blkOk_by (own := [("size", 1)]) (by kernel_rfl)) (di_all ⟨rfl, rfl, rfl⟩ (de_var (i := 0))) (fun _ _ _ _ _ => dg_name sc_is_sizes.nd (i := 1)) (fun _ _ _ _ _ => dts_nil) (fun _ _ _ _ _ => de_fn (by exact (ok_is_size T).cal hr) (by exact hg) takes0 (da_cons (de_var (i := 1)) (da_nil))))) (da_nil)))))))

theorem ok_check_sizes {P : Program} {w : World} {K : PySem.W.Frag} {mg : Str → Option Value} {base : Heap} {cl : Nat → Addr} (T : Txt K mg cl) : Def P w K mg base cl "check_sizes" 4 1 F_check_sizes [] := by
  refine def_of (k := 3) (N := ["value"]) (body := m_check_sizes) T.f_check_sizes sc_check_sizes rfl (fun _ _ _ _ _ _ us hl => match us, hl with | [_], _ => rfl) ?_
  intro f cdv A outer s H E hr hg
  exact ds_one (ds_if (dt_not (dt_val (de_fn (by exact (ok_is_sizes T).cal hr) (by exact hg) (takes_of rfl rfl rfl rfl) (da_cons (de_var (i := 0)) (da_nil))))) (ds_one (ds_raise (by exact err_InvalidSizes T hr) (by rfl) (takes_of rfl rfl rfl rfl) (de_var (i := 0)))) (ds_nil))

theorem ok_product {P : Program} {w : World} {K : PySem.W.Frag} {mg : Str → Option Value} {base : Heap} {cl : Nat → Addr} (T : Txt K mg cl) : Def P w K mg base cl "product" 1 1 F_product [] := by
  refine def_of (k := 0) (N := ["numbers", "result", "number"]) (body := m_product) T.f_product sc_product rfl (fun _ _ _ _ _ _ us hl => match us, hl with | [_], _ => rfl) ?_
  intro f cdv A outer s H E hr hg
  exact ds_cons (ds_set (i := 1) (de_int) sc_product.nd)
    (ds_cons (ds_for (is := [2]) (passes_of rfl) (by rfl) (di_all ⟨rfl, rfl, rfl⟩ (de_var (i := 0))) (dg_name sc_product.nd (i := 2)) (ds_one (ds_aug (i := 1) (de_var (i := 2)) iop_mul od_imul sc_product.nd)))
    (ds_one (ds_ret (de_var (i := 1)))))

theorem ok_is_values {P : Program} {w : World} {K : PySem.W.Frag} {mg : Str → Option Value} {base : Heap} {cl : Nat → Addr} (T : Txt K mg cl) : Def P w K mg base cl "is_values" 2 2 F_is_values [] := by
  refine def_of (k := 1) (N := ["sizes", "value", "item", "size"]) (body := m_is_values) T.f_is_values sc_is_values rfl (fun _ _ _ _ _ _ us hl => match us, hl with | [_, _], _ => rfl) ?_
  intro f cdv A outer s H E hr hg
  exact ds_cons (ds_if ((dw_or (dt_not (dt_val (de_isi ⟨rfl, rfl, rfl⟩ (T.ki _ _) (de_var (i := 1)) (pcls_b T.n_tuple (by decide +kernel)) T.n_isinstance))) (dw_or1 (dt_cmp (op_neD (by exact hr.units)) od_ne (de_callB call_lenA (ad_lenA ⟨rfl, rfl, rfl⟩) T.n_len (by decide +kernel) (da_cons (de_var (i := 1)) (da_nil))) (de_callB call_lenA (ad_lenA ⟨rfl, rfl, rfl⟩) T.n_len (by decide +kernel) (da_cons (de_var (i := 0)) (da_nil)))))).pt) (ds_one (ds_ret (de_bl))) (ds_nil))
    (ds_one (ds_ret (de_callB (cr_all rfl) ad_all T.n_all (by decide +kernel) (da_cons (de_frz (df_lc (by rfl) sc_is_values.nd (blkOk_by (own := [("item", 2), ("size", 3)]) (by kernel_rfl)) (di_zip T.n_zip (da_cons (de_var (i := 1)) (da_cons (de_var (i := 0)) (da_nil)))) (fun _ _ _ _ _ => dg_tup rfl (dgs_cons (dg_name sc_is_values.nd (i := 2)) (dgs_cons (dg_name sc_is_values.nd (i := 3)) (dgs_nil))) (tgLen_cons (tgLen_cons (tgLen_nil)))) (fun _ _ _ _ _ => dts_nil) (fun _ _ _ _ _ => de_and (de_fn (by exact (ok_is_integer_1 T).cal hr) (by exact hg) takes0 (da_cons (de_var (i := 2)) (da_nil))) (de_and1 (de_cmp op_lt od_lt (de_var (i := 2)) (de_var (i := 3))))))) (da_nil)))))

theorem ok_check_product {P : Program} {w : World} {K : PySem.W.Frag} {mg : Str → Option Value} {base : Heap} {cl : Nat → Addr} (T : Txt K mg cl) : Def P w K mg base cl "check_product" 3 1 F_check_product [] := by
  refine def_of (k := 2) (N := ["number"]) (body := m_check_product) T.f_check_product sc_check_product rfl (fun _ _ _ _ _ _ us hl => match us, hl with | [_], _ => rfl) ?_
  intro f cdv A outer s H E hr hg
  exact ds_one (ds_if (dt_cmp op_gt od_gt (de_var (i := 0)) (de_gint T.c_MAX_PRODUCT)) (ds_one (ds_raise (by exact err_TooWide T hr) (by rfl) (takes_of rfl rfl rfl rfl) (de_var (i := 0)))) (ds_nil))

theorem ok_is_row {P : Program} {w : World} {K : PySem.W.Frag} {mg : Str → Option Value} {base : Heap} {cl : Nat → Addr} (T : Txt K mg cl) : Def P w K mg base cl "is_row" 3 3 F_is_row [] := by
  refine def_of (k := 2) (N := ["input_sizes", "output_sizes", "value", "inputs", "outputs", "weight"]) (body := m_is_row) T.f_is_row sc_is_row rfl (fun _ _ _ _ _ _ us hl => match us, hl with | [_, _, _], _ => rfl) ?_
  intro f cdv A outer s H E hr hg
  exact ds_cons (ds_if ((dw_or (dt_not (dt_val (de_isi ⟨rfl, rfl, rfl⟩ (T.ki _ _) (de_var (i := 2)) (pcls_b T.n_tuple (by decide +kernel)) T.n_isinstance))) (dw_or1 (dt_cmp (op_neD (by exact hr.units)) od_ne (de_callB call_lenA (ad_lenA ⟨rfl, rfl, rfl⟩) T.n_len (by decide +kernel) (da_cons (de_var (i := 2)) (da_nil))) (de_int)))).pt) (ds_one (ds_ret (de_bl))) (ds_nil))
    (ds_cons (ds_unp (is := [3, 4, 5]) (de_var (i := 2)) (dg_tup rfl (dgs_cons (dg_name sc_is_row.nd (i := 3)) (dgs_cons (dg_name sc_is_row.nd (i := 4)) (dgs_cons (dg_name sc_is_row.nd (i := 5)) (dgs_nil)))) (tgLen_cons (tgLen_cons (tgLen_cons (tgLen_nil))))))
    (ds_cons (ds_if ((dw_or (dt_not (dt_val (de_fn (by exact (ok_is_values T).cal hr) (by exact hg) (takes_of rfl rfl rfl rfl) (da_cons (de_var (i := 0)) (da_cons (de_var (i := 3)) (da_nil)))))) (dw_or1 (dt_not (dt_val (de_fn (by exact (ok_is_values T).cal hr) (by exact hg) (takes_of rfl rfl rfl rfl) (da_cons (de_var (i := 1)) (da_cons (de_var (i := 4)) (da_nil)))))))).pt) (ds_one (ds_ret (de_bl))) (ds_nil))
    (ds_one (ds_ret (de_and (de_fn (by exact (ok_is_integer_2 T).cal hr) (by exact hg) (takes_of rfl rfl rfl rfl) (da_cons (de_var (i := 5)) (da_cons (de_int) (da_nil)))) (de_and1 (de_cmp op_le od_le (de_var (i := 5)) (de_gint T.c_MAX_WEIGHT))))))))

theorem ok_Table___init__ {P : Program} {w : World} {K : PySem.W.Frag} {mg : Str → Option Value} {base : Heap} {cl : Nat → Addr} (T : Txt K mg cl) : DefC P w K mg base cl "Table" 50 5 4 [("weights", c1)] F_Table___init__ := by
  refine defC_of (k := 4) T.mk_Table sc_Table___init__ rfl (fun _ _ _ _ _ _ us hl => match us, hl with | [_, _, _, _], _ => rfl) (by decide) ?_
  intro p f cdv A outer s H E hr hg
  exact ds_cons (ds_expr (de_fn (by exact (ok_check_sizes T).cal hr) (by exact hg) (takes_of rfl rfl rfl rfl) (da_cons (de_var (i := 1)) (da_nil))))
    (ds_cons (ds_expr (de_fn (by exact (ok_check_sizes T).cal hr) (by exact hg) (takes_of rfl rfl rfl rfl) (da_cons (de_var (i := 2)) (da_nil))))
    (ds_cons (ds_expr (de_fn (by exact (ok_check_product T).cal hr) (by exact hg) (takes_of rfl rfl rfl rfl) (da_cons (de_bin op_mulAll od_mul (de_fn (by exact (ok_product T).cal hr) (by exact hg) (takes_of rfl rfl rfl rfl) (da_cons (de_var (i := 1)) (da_nil))) (de_fn (by exact (ok_product T).cal hr) (by exact hg) (takes_of rfl rfl rfl rfl) (da_cons (de_var (i := 2)) (da_nil)))) (da_nil))))
    (ds_cons (ds_if (dt_not (dt_val (de_isiT ⟨rfl, rfl, rfl⟩ (T.ki _ _) (de_var (i := 3)) (.cons (pcls_b T.n_list (by decide +kernel)) (.cons (pcls_b T.n_tuple (by decide +kernel)) (.nil) rfl) rfl) T.n_isinstance))) (ds_one (ds_raise (by exact err_InvalidRow T hr) (by rfl) (takes_of rfl rfl rfl rfl) (de_var (i := 3)))) (ds_nil))
    (ds_cons (ds_fld2 (i := 0) ⟨rfl, rfl, rfl⟩ (by rfl) T.k_Table T.na_Table_sizes_in T.na_Table_sizes_out (de_tup (da_cons (de_var (i := 1)) (da_cons (de_var (i := 2)) (da_nil)))))
    (ds_cons (ds_fldF (i := 0) ⟨rfl, rfl, rfl⟩ T.k_Table T.na_Table_weights (df_dict0 ⟨rfl, rfl, rfl⟩))
    (ds_one (ds_for (is := [4]) (passes_of rfl) (by rfl) (di_all ⟨rfl, rfl, rfl⟩ (de_var (i := 3))) (dg_name sc_Table___init__.nd (i := 4)) (ds_cons (ds_if ((dw_or (dt_not (dt_val (de_fn (by exact (ok_is_row T).cal hr) (by exact hg) (takes_of rfl rfl rfl rfl) (da_cons (de_var (i := 1)) (da_cons (de_var (i := 2)) (da_cons (de_var (i := 4)) (da_nil))))))) (dw_or1 (dt_cmpP (i := 0) (op_in (by exact u65 hr)) (od_in ⟨rfl, rfl, rfl⟩) ⟨rfl, rfl, rfl⟩ T.k_Table T.na_Table_weights (de_slice (de_var (i := 4)) (do_none) (do_some (de_int)))))).pt) (ds_one (ds_raise (by exact err_InvalidRow T hr) (by rfl) (takes_of rfl rfl rfl rfl) (de_var (i := 4)))) (ds_nil))
    (ds_one (ds_pseti (i := 0) ⟨rfl, rfl, rfl⟩ (by exact hr.units) T.k_Table T.na_Table_weights (de_ix ⟨rfl, rfl, rfl⟩ (by exact hr.units) (de_var (i := 4)) (de_int)) (de_slice (de_var (i := 4)) (do_none) (do_some (de_int)))))))))))))

theorem ok__law_pool {P : Program} {w : World} {K : PySem.W.Frag} {mg : Str → Option Value} {base : Heap} {cl : Nat → Addr} (T : Txt K mg cl) : Def P w K mg base cl "_law_pool" 1 2 F__law_pool [] := by
  refine def_of (k := 0) (N := ["_law_script", "_law_k", "_law_cell", "_law_mixed"]) (body := m__law_pool) T.f__law_pool sc__law_pool rfl (fun _ _ _ _ _ _ us hl => match us, hl with | [_, _], _ => rfl) ?_
  intro f cdv A outer s H E hr hg
  exact ds_cons (ds_set (i := 2) (de_int) sc__law_pool.nd)
    (ds_cons (ds_if (dt_cmp op_lt od_lt (de_var (i := 1)) (de_callB call_lenA (ad_lenA ⟨rfl, rfl, rfl⟩) T.n_len (by decide +kernel) (da_cons (de_var (i := 0)) (da_nil)))) (ds_one (ds_set (i := 2) (de_callB call_abs ad_abs T.n_abs (by decide +kernel) (da_cons (de_ix ⟨rfl, rfl, rfl⟩ (by exact hr.units) (de_var (i := 0)) (de_var (i := 1))) (da_nil))) sc__law_pool.nd)) (ds_nil))
    (ds_cons (ds_set (i := 3) (de_bin op_mod od_mod (de_bin op_mulAll od_mul (de_bin op_addAll od_add (de_bin op_addAll od_add (de_bin op_addAll od_add (de_bin op_mod od_mod (de_var (i := 2)) (de_int)) (de_bin op_mulAll od_mul (de_bin op_mulAll od_mul (de_int) (de_var (i := 1))) (de_var (i := 1)))) (de_bin op_mulAll od_mul (de_int) (de_var (i := 1)))) (de_int)) (de_int)) (de_int)) sc__law_pool.nd)
    (ds_one (ds_retF (df_lst (da_cons (de_bin op_mulAll od_mul (de_var (i := 2)) (de_callTy call_int1 ad_int T.n_int (by decide +kernel) (da_cons (de_cmp op_ge od_ge (de_var (i := 2)) (de_bin op_pow od_pow (de_int) (de_int))) (da_nil)))) (da_cons (de_bin op_mod od_mod (de_bin op_mulAll od_mul (de_var (i := 3)) (de_var (i := 3))) (de_int)) (da_nil))))))))

theorem ok__law_take {P : Program} {w : World} {K : PySem.W.Frag} {mg : Str → Option Value} {base : Heap} {cl : Nat → Addr} (T : Txt K mg cl) : DefT P w K mg base cl "_law_take" 1 2 c1 F__law_take := by
  refine defT_of (k := 0) (N := ["_law_pool_here", "_law_many", "_law_found"]) (body := m__law_take) T.f__law_take sc__law_take rfl (fun _ _ _ _ _ _ us hl => match us, hl with | [_, _], _ => rfl) (fun z => by cases z) (by decide) ?_
  intro p f cdv A outer s H E hr hg
  exact ds_cons (ds_if (dt_cmp op_gt od_gt (de_ixX ⟨rfl, rfl, rfl⟩ (by exact hr.units) (dx_var (i := 0)) (dx_val (de_int))) (de_int)) (ds_cons (ds_set (i := 2) (de_bin op_mod od_mod (de_ixX ⟨rfl, rfl, rfl⟩ (by exact hr.units) (dx_var (i := 0)) (dx_val (de_int))) (de_var (i := 1))) sc__law_take.nd)
    (ds_cons (ds_seti (i := 0) ⟨rfl, rfl, rfl⟩ (by exact hr.units) (de_bin op_fdivW od_fdiv (de_ixX ⟨rfl, rfl, rfl⟩ (by exact hr.units) (dx_var (i := 0)) (dx_val (de_int))) (de_var (i := 1))) (de_int))
    (ds_one (ds_ret (de_var (i := 2)))))) (ds_nil))
    (ds_cons (ds_seti (i := 0) ⟨rfl, rfl, rfl⟩ (by exact hr.units) (de_bin op_mod od_mod (de_bin op_addAll od_add (de_bin op_mulAll od_mul (de_ixX ⟨rfl, rfl, rfl⟩ (by exact hr.units) (dx_var (i := 0)) (dx_val (de_int))) (de_int)) (de_int)) (de_int)) (de_int))
    (ds_one (ds_ret (de_bin op_mod od_mod (de_bin op_fdivW od_fdiv (de_bin op_mod od_mod (de_bin op_mulAll od_mul (de_ixX ⟨rfl, rfl, rfl⟩ (by exact hr.units) (dx_var (i := 0)) (dx_val (de_int))) (de_ixX ⟨rfl, rfl, rfl⟩ (by exact hr.units) (dx_var (i := 0)) (dx_val (de_int)))) (de_int)) (de_int)) (de_var (i := 1))))))

theorem ok__law_worths {P : Program} {w : World} {K : PySem.W.Frag} {mg : Str → Option Value} {base : Heap} {cl : Nat → Addr} (T : Txt K mg cl) : Def P w K mg base cl "_law_worths" 1 1 F__law_worths [] := by
  refine def_of (k := 0) (N := ["_law_sizes", "_law_found", "_law_size", "_law_later", "_law_one", "_law_worth"]) (body := m__law_worths) T.f__law_worths sc__law_worths rfl (fun _ _ _ _ _ _ us hl => match us, hl with | [_], _ => rfl) ?_
  intro f cdv A outer s H E hr hg
  exact ds_cons (ds_set (i := 1) (de_lst (da_cons (de_tup (da_nil)) (da_nil))) sc__law_worths.nd)
    (ds_cons (ds_for (is := [2]) (passes_of rfl) (by rfl) (di_all ⟨rfl, rfl, rfl⟩ (de_var (i := 0))) (dg_name sc__law_worths.nd (i := 2)) (ds_cons (ds_set (i := 3) (de_lst (da_nil)) sc__law_worths.nd)
    (ds_cons (ds_for (is := [4]) (passes_of rfl) (by rfl) (di_all ⟨rfl, rfl, rfl⟩ (de_var (i := 1))) (dg_name sc__law_worths.nd (i := 4)) (ds_one (ds_set (i := 3) (de_bin op_addAll od_add (de_var (i := 3)) (de_frz (df_lc (by rfl) sc__law_worths.nd (blkOk_by (own := [("_law_worth", 5)]) (by kernel_rfl)) (di_range1 T.n_range (da_cons (de_var (i := 2)) (da_nil))) (fun _ _ _ _ _ => dg_name sc__law_worths.nd (i := 5)) (fun _ _ _ _ _ => dts_nil) (fun _ _ _ _ _ => de_bin op_addAll od_add (de_var (i := 4)) (de_tup (da_cons (de_var (i := 5)) (da_nil))))))) sc__law_worths.nd)))
    (ds_one (ds_set (i := 1) (de_var (i := 3)) sc__law_worths.nd)))))
    (ds_one (ds_ret (de_var (i := 1)))))

theorem ok__law_side {P : Program} {w : World} {K : PySem.W.Frag} {mg : Str → Option Value} {base : Heap} {cl : Nat → Addr} (T : Txt K mg cl) : DefT P w K mg base cl "_law_side" 2 2 c1 F__law_side := by
  refine defT_of (k := 1) (N := ["_law_pool_here", "_law_most", "_law_turn", "_law_found", "_law_whole", "_law_size"]) (body := m__law_side) T.f__law_side sc__law_side rfl (fun _ _ _ _ _ _ us hl => match us, hl with | [_, _], _ => rfl) (fun z => by cases z) (by decide) ?_
  intro p f cdv A outer s H E hr hg
  exact ds_cons (ds_mix2 (i := 3) (j := 4) (dm_new (df_lst (da_nil)) (dm_val (de_int) (dm_nil))) (by rfl) sc__law_side.nd)
    (ds_cons (ds_for (is := [2]) (passes_of rfl) (by rfl) (di_range1 T.n_range (da_cons (de_fnT (by exact (ok__law_take T).cal hr) (by exact hg) (takes_of rfl rfl rfl rfl) (da_cons (de_int) (da_nil)) (i := 0)) (da_nil))) (dg_name sc__law_side.nd (i := 2)) (ds_cons (ds_set (i := 5) (de_bin op_addAll od_add (de_int) (de_fnT (by exact (ok__law_take T).cal hr) (by exact hg) (takes_of rfl rfl rfl rfl) (da_cons (de_int) (da_nil)) (i := 0))) sc__law_side.nd)
    (ds_one (ds_if (dt_cmp op_le od_le (de_bin op_mulAll od_mul (de_var (i := 4)) (de_var (i := 5))) (de_var (i := 1))) (ds_cons (ds_set (i := 4) (de_bin op_mulAll od_mul (de_var (i := 4)) (de_var (i := 5))) sc__law_side.nd)
    (ds_one (ds_expr (de_mut (i := 3) ⟨rfl, rfl, rfl⟩ PySem.F.plainAttrs_list PySem.F.slot_list_append PySem.F.type_list_append mt_append mu_append (da_cons (de_var (i := 5)) (da_nil)))))) (ds_nil)))))
    (ds_one (ds_ret (de_callTyX call_tuple_of ad_tuple T.n_tuple (by decide +kernel) (dy_cons (dx_var (i := 3)) (dy_nil))))))

theorem ok__law_rows {P : Program} {w : World} {K : PySem.W.Frag} {mg : Str → Option Value} {base : Heap} {cl : Nat → Addr} (T : Txt K mg cl) : DefT P w K mg base cl "_law_rows" 2 3 c1 F__law_rows := by
  refine defT_of (k := 1) (N := ["_law_pool_here", "_law_ins", "_law_outs", "_law_found", "_law_given", "_law_told", "_law_many"]) (body := m__law_rows) T.f__law_rows sc__law_rows rfl (fun _ _ _ _ _ _ us hl => match us, hl with | [_, _, _], _ => rfl) (fun z => by cases z) (by decide) ?_
  intro p f cdv A outer s H E hr hg
  exact ds_cons (ds_setO (i := 3) (df_lst (da_nil)) sc__law_rows.nd)
    (ds_cons (ds_for (is := [4]) (passes_of rfl) (by rfl) (di_all ⟨rfl, rfl, rfl⟩ (de_fn (by exact (ok__law_worths T).cal hr) (by exact hg) (takes_of rfl rfl rfl rfl) (da_cons (de_var (i := 1)) (da_nil)))) (dg_name sc__law_rows.nd (i := 4)) (ds_one (ds_for (is := [5]) (passes_of rfl) (by rfl) (di_all ⟨rfl, rfl, rfl⟩ (de_fn (by exact (ok__law_worths T).cal hr) (by exact hg) (takes_of rfl rfl rfl rfl) (da_cons (de_var (i := 2)) (da_nil)))) (dg_name sc__law_rows.nd (i := 5)) (ds_cons (ds_set (i := 6) (de_ix ⟨rfl, rfl, rfl⟩ (by exact hr.units) (de_lst (da_cons (de_int) (da_cons (de_int) (da_cons (de_int) (da_cons (de_bin op_addAll od_add (de_int) (de_fnT (by exact (ok__law_take T).cal hr) (by exact hg) (takes_of rfl rfl rfl rfl) (da_cons (de_int) (da_nil)) (i := 0))) (da_cons (de_bin op_pow od_pow (de_int) (de_int)) (da_nil))))))) (de_fnT (by exact (ok__law_take T).cal hr) (by exact hg) (takes_of rfl rfl rfl rfl) (da_cons (de_int) (da_nil)) (i := 0))) sc__law_rows.nd)
    (ds_one (ds_if (dt_cmp op_gt od_gt (de_var (i := 6)) (de_int)) (ds_one (ds_expr (de_mut (i := 3) ⟨rfl, rfl, rfl⟩ PySem.F.plainAttrs_list PySem.F.slot_list_append PySem.F.type_list_append mt_append mu_append (da_cons (de_tup (da_cons (de_var (i := 4)) (da_cons (de_var (i := 5)) (da_cons (de_var (i := 6)) (da_nil))))) (da_nil))))) (ds_nil)))))))
    (ds_one (ds_ret (de_varZ (i := 3)))))

theorem ok__law_caught {P : Program} {w : World} {K : PySem.W.Frag} {mg : Str → Option Value} {base : Heap} {cl : Nat → Addr} (T : Txt K mg cl) : Def P w K mg base cl "_law_caught" 7 3 F__law_caught [] := by
  refine def_of (k := 6) (N := ["_law_ins", "_law_outs", "_law_rows_here", "_law_found", "e", "_law_kinds"]) (body := m__law_caught) T.f__law_caught sc__law_caught rfl (fun _ _ _ _ _ _ us hl => match us, hl with | [_, _, _], _ => rfl) ?_
  intro f cdv A outer s H E hr hg
  exact ds_cons (ds_set (i := 3) (de_non) sc__law_caught.nd)
    (ds_cons (ds_tryK (by rfl) (by rfl) sc__law_caught.nd (takes_of rfl rfl rfl rfl) (fun W pn xe tk hp => ds_one (ds_expr (de_frz (df_mk (by exact (ok_Table___init__ T).cal hr) (by exact hg) tk (da_cons (de_var (i := 0)) (da_cons (de_var (i := 1)) (da_cons (de_var (i := 2)) (da_nil)))))))) ⟨by rfl, by decide, Or.inl T.gb_NetworkError⟩ (fun c hc => T.exb_NetworkError c hc) (i := 4) (by rfl) (by rfl) (fun a oe cls d pn hz hf => ds_one (ds_cpX (i := 4) (j := 3) sc__law_caught.nd)))
    (ds_cons (ds_if (dt_cmp op_isAll od_is (de_var (i := 3)) (de_non)) (ds_one (ds_retF (df_lst (da_cons (de_str) (da_nil))))) (ds_nil))
    (ds_cons (ds_setO (i := 5) (df_lst (da_cons (de_vi ⟨rfl, rfl, rfl⟩ (al_cons ⟨T.xi_InvalidSizes, T.kx_InvalidSizes_InvalidSizes⟩ (al_cons ⟨T.xi_TooWide, T.kx_TooWide_InvalidSizes⟩ (al_cons ⟨T.xi_InvalidRow, T.kx_InvalidRow_InvalidSizes⟩ (al_cons ⟨T.xi_InvalidValues, T.kx_InvalidValues_InvalidSizes⟩ (al_nil))))) (de_var (i := 3)) (pcx_o (c := 0) T.e_InvalidSizes.gl) T.n_isinstance) (da_cons (de_vi ⟨rfl, rfl, rfl⟩ (al_cons ⟨T.xi_InvalidSizes, T.kx_InvalidSizes_TooWide⟩ (al_cons ⟨T.xi_TooWide, T.kx_TooWide_TooWide⟩ (al_cons ⟨T.xi_InvalidRow, T.kx_InvalidRow_TooWide⟩ (al_cons ⟨T.xi_InvalidValues, T.kx_InvalidValues_TooWide⟩ (al_nil))))) (de_var (i := 3)) (pcx_o (c := 3) T.e_TooWide.gl) T.n_isinstance) (da_cons (de_vi ⟨rfl, rfl, rfl⟩ (al_cons ⟨T.xi_InvalidSizes, T.kx_InvalidSizes_InvalidRow⟩ (al_cons ⟨T.xi_TooWide, T.kx_TooWide_InvalidRow⟩ (al_cons ⟨T.xi_InvalidRow, T.kx_InvalidRow_InvalidRow⟩ (al_cons ⟨T.xi_InvalidValues, T.kx_InvalidValues_InvalidRow⟩ (al_nil))))) (de_var (i := 3)) (pcx_o (c := 2) T.e_InvalidRow.gl) T.n_isinstance) (da_nil))))) sc__law_caught.nd)
    (ds_cons (ds_expr (de_mut (i := 5) ⟨rfl, rfl, rfl⟩ PySem.F.plainAttrs_list PySem.F.slot_list_append PySem.F.type_list_append mt_append mu_append (da_cons (de_vi ⟨rfl, rfl, rfl⟩ (al_cons ⟨T.xi_InvalidSizes, T.kx_InvalidSizes_InvalidValues⟩ (al_cons ⟨T.xi_TooWide, T.kx_TooWide_InvalidValues⟩ (al_cons ⟨T.xi_InvalidRow, T.kx_InvalidRow_InvalidValues⟩ (al_cons ⟨T.xi_InvalidValues, T.kx_InvalidValues_InvalidValues⟩ (al_nil))))) (de_var (i := 3)) (pcx_o (c := 1) T.e_InvalidValues.gl) T.n_isinstance) (da_nil))))
    (ds_cons (ds_if ((dw_or (dt_cmp (op_neD (by exact hr.units)) od_ne (de_mt ⟨rfl, rfl, rfl⟩ PySem.F.plainAttrs_list PySem.F.slot_list_count PySem.F.type_list_count (mt_cntL (by exact u65 hr)) (md_cntL ⟨rfl, rfl, rfl⟩) (dx_var (i := 5)) (da_cons (de_bl) (da_nil))) (de_int)) (dw_or1 (dt_not (dt_val (de_vi ⟨rfl, rfl, rfl⟩ (al_cons ⟨T.xi_InvalidSizes, T.kx_InvalidSizes_ValueError⟩ (al_cons ⟨T.xi_TooWide, T.kx_TooWide_ValueError⟩ (al_cons ⟨T.xi_InvalidRow, T.kx_InvalidRow_ValueError⟩ (al_cons ⟨T.xi_InvalidValues, T.kx_InvalidValues_ValueError⟩ (al_nil))))) (de_var (i := 3)) (pcx_b T.n_ValueError (by decide +kernel)) T.n_isinstance))))).pt) (ds_one (ds_retF (df_lst (da_cons (de_str) (da_nil))))) (ds_nil))
    (ds_one (ds_retF (df_lst (da_cons (de_mt ⟨rfl, rfl, rfl⟩ PySem.F.plainAttrs_list PySem.F.slot_list_index PySem.F.type_list_index (mt_idxL (by exact u65 hr)) (md_idxL ⟨rfl, rfl, rfl⟩) (dx_var (i := 5)) (da_cons (de_bl) (da_nil))) (da_cons (de_ifExp (dt_val (de_ixX ⟨rfl, rfl, rfl⟩ (by exact hr.units) (dx_var (i := 5)) (dx_val (de_int)))) (de_vf (cs_cons ⟨T.e_TooWide.xf, T.e_TooWide.no⟩ (cs_nil)) (de_var (i := 3))) (de_callB (callr_or (cr_repr (by exact hg) (by exact hr.units)) (cr_reprN ⟨rfl, rfl, rfl⟩ (by exact hg) (by exact hr.units))) (appd_or (ad_repr ⟨rfl, rfl, rfl⟩) ad_reprN) T.n_repr (by decide +kernel) (da_cons (de_vf (cs_cons ⟨T.e_InvalidSizes.xf, T.e_InvalidSizes.no⟩ (cs_cons ⟨T.e_InvalidRow.xf, T.e_InvalidRow.no⟩ (cs_cons ⟨T.e_InvalidValues.xf, T.e_InvalidValues.no⟩ (cs_nil)))) (de_var (i := 3))) (da_nil)))) (da_nil)))))))))))

theorem ok__law_odd_row {P : Program} {w : World} {K : PySem.W.Frag} {mg : Str → Option Value} {base : Heap} {cl : Nat → Addr} (T : Txt K mg cl) : DefT P w K mg base cl "_law_odd_row" 2 3 c1 F__law_odd_row := by
  refine defT_of (k := 1) (N := ["_law_pool_here", "_law_ins", "_law_outs", "_law_given", "_law_told", "_law_some", "_law_size"]) (body := m__law_odd_row) T.f__law_odd_row sc__law_odd_row rfl (fun _ _ _ _ _ _ us hl => match us, hl with | [_, _, _], _ => rfl) (fun z => by cases z) (by decide) ?_
  intro p f cdv A outer s H E hr hg
  exact ds_cons (ds_set (i := 3) (de_callTy call_tuple_of ad_tuple T.n_tuple (by decide +kernel) (da_cons (de_frz (df_lc (by rfl) sc__law_odd_row.nd (blkOk_by (own := [("_law_size", 6)]) (by kernel_rfl)) (di_all ⟨rfl, rfl, rfl⟩ (de_var (i := 1))) (fun _ _ _ _ _ => dg_name sc__law_odd_row.nd (i := 6)) (fun _ _ _ _ _ => dts_nil) (fun _ _ _ _ _ => de_int))) (da_nil))) sc__law_odd_row.nd)
    (ds_cons (ds_set (i := 4) (de_callTy call_tuple_of ad_tuple T.n_tuple (by decide +kernel) (da_cons (de_frz (df_lc (by rfl) sc__law_odd_row.nd (blkOk_by (own := [("_law_size", 6)]) (by kernel_rfl)) (di_all ⟨rfl, rfl, rfl⟩ (de_var (i := 2))) (fun _ _ _ _ _ => dg_name sc__law_odd_row.nd (i := 6)) (fun _ _ _ _ _ => dts_nil) (fun _ _ _ _ _ => de_int))) (da_nil))) sc__law_odd_row.nd)
    (ds_cons (ds_set (i := 5) (de_lst (da_cons (de_non) (da_cons (de_lst (da_cons (de_var (i := 3)) (da_cons (de_var (i := 4)) (da_cons (de_int) (da_nil))))) (da_cons (de_tup (da_cons (de_var (i := 3)) (da_cons (de_var (i := 4)) (da_nil)))) (da_cons (de_tup (da_cons (de_var (i := 3)) (da_cons (de_var (i := 4)) (da_cons (de_int) (da_cons (de_int) (da_nil)))))) (da_cons (de_tup (da_cons (de_var (i := 3)) (da_cons (de_var (i := 4)) (da_cons (de_int) (da_nil))))) (da_cons (de_tup (da_cons (de_var (i := 3)) (da_cons (de_var (i := 4)) (da_cons (de_bl) (da_nil))))) (da_nil)))))))) sc__law_odd_row.nd)
    (ds_cons (ds_set (i := 5) (de_bin op_addAll od_add (de_var (i := 5)) (de_lst (da_cons (de_tup (da_cons (de_var (i := 3)) (da_cons (de_var (i := 4)) (da_cons (de_un un_neg ud_neg (de_int)) (da_nil))))) (da_cons (de_tup (da_cons (de_var (i := 3)) (da_cons (de_var (i := 4)) (da_cons (de_bin op_addAll od_add (de_bin op_pow od_pow (de_int) (de_int)) (de_int)) (da_nil))))) (da_cons (de_tup (da_cons (de_var (i := 3)) (da_cons (de_var (i := 4)) (da_cons (de_str) (da_nil))))) (da_cons (de_tup (da_cons (de_bin op_addAll od_add (de_var (i := 3)) (de_tup (da_cons (de_int) (da_nil)))) (da_cons (de_var (i := 4)) (da_cons (de_int) (da_nil))))) (da_cons (de_str) (da_nil)))))))) sc__law_odd_row.nd)
    (ds_cons (ds_set (i := 5) (de_bin op_addAll od_add (de_var (i := 5)) (de_lst (da_cons (de_tup (da_cons (de_var (i := 3)) (da_cons (de_callTy call_list_of ad_list T.n_list (by decide +kernel) (da_cons (de_var (i := 4)) (da_nil))) (da_cons (de_int) (da_nil))))) (da_cons (de_tup (da_cons (de_non) (da_cons (de_var (i := 4)) (da_cons (de_int) (da_nil))))) (da_cons (de_tup (da_cons (de_var (i := 3)) (da_cons (de_bin op_addAll od_add (de_var (i := 4)) (de_tup (da_cons (de_int) (da_nil)))) (da_cons (de_int) (da_nil))))) (da_cons (de_tup (da_cons (de_var (i := 3)) (da_cons (de_var (i := 4)) (da_cons (de_non) (da_nil))))) (da_cons (de_dict0 ⟨rfl, rfl, rfl⟩) (da_nil)))))))) sc__law_odd_row.nd)
    (ds_cons (ds_if (dt_cmp (op_neD (by exact hr.units)) od_ne (de_var (i := 1)) (de_tup (da_nil))) (ds_one (ds_set (i := 5) (de_bin op_addAll od_add (de_var (i := 5)) (de_lst (da_cons (de_tup (da_cons (de_bin op_addAll od_add (de_tup (da_cons (de_ix ⟨rfl, rfl, rfl⟩ (by exact hr.units) (de_var (i := 1)) (de_int)) (da_nil))) (de_slice (de_var (i := 3)) (do_some (de_int)) (do_none))) (da_cons (de_var (i := 4)) (da_cons (de_int) (da_nil))))) (da_cons (de_tup (da_cons (de_bin op_addAll od_add (de_tup (da_cons (de_bl) (da_nil))) (de_slice (de_var (i := 3)) (do_some (de_int)) (do_none))) (da_cons (de_var (i := 4)) (da_cons (de_int) (da_nil))))) (da_cons (de_tup (da_cons (de_bin op_addAll od_add (de_tup (da_cons (de_un un_neg ud_neg (de_int)) (da_nil))) (de_slice (de_var (i := 3)) (do_some (de_int)) (do_none))) (da_cons (de_var (i := 4)) (da_cons (de_int) (da_nil))))) (da_nil)))))) sc__law_odd_row.nd)) (ds_nil))
    (ds_one (ds_ret (de_ix ⟨rfl, rfl, rfl⟩ (by exact hr.units) (de_var (i := 5)) (de_fnT (by exact (ok__law_take T).cal hr) (by exact hg) (takes_of rfl rfl rfl rfl) (da_cons (de_callB call_lenA (ad_lenA ⟨rfl, rfl, rfl⟩) T.n_len (by decide +kernel) (da_cons (de_var (i := 5)) (da_nil))) (da_nil)) (i := 0))))))))))

theorem ok__law_odd_sizes {P : Program} {w : World} {K : PySem.W.Frag} {mg : Str → Option Value} {base : Heap} {cl : Nat → Addr} (T : Txt K mg cl) : DefT P w K mg base cl "_law_odd_sizes" 2 2 c1 F__law_odd_sizes := by
  refine defT_of (k := 1) (N := ["_law_pool_here", "_law_good", "_law_at", "_law_odd"]) (body := m__law_odd_sizes) T.f__law_odd_sizes sc__law_odd_sizes rfl (fun _ _ _ _ _ _ us hl => match us, hl with | [_, _], _ => rfl) (fun z => by cases z) (by decide) ?_
  intro p f cdv A outer s H E hr hg
  exact ds_cons (ds_set (i := 2) (de_fnT (by exact (ok__law_take T).cal hr) (by exact hg) (takes_of rfl rfl rfl rfl) (da_cons (de_bin op_addAll od_add (de_callB call_lenA (ad_lenA ⟨rfl, rfl, rfl⟩) T.n_len (by decide +kernel) (da_cons (de_var (i := 1)) (da_nil))) (de_int)) (da_nil)) (i := 0)) sc__law_odd_sizes.nd)
    (ds_cons (ds_set (i := 3) (de_ix ⟨rfl, rfl, rfl⟩ (by exact hr.units) (de_lst (da_cons (de_int) (da_cons (de_int) (da_cons (de_bl) (da_cons (de_non) (da_cons (de_str) (da_cons (de_tup (da_cons (de_int) (da_nil))) (da_cons (de_un un_neg ud_neg (de_int)) (da_nil))))))))) (de_fnT (by exact (ok__law_take T).cal hr) (by exact hg) (takes_of rfl rfl rfl rfl) (da_cons (de_int) (da_nil)) (i := 0))) sc__law_odd_sizes.nd)
    (ds_one (ds_ret (de_ix ⟨rfl, rfl, rfl⟩ (by exact hr.units) (de_lst (da_cons (de_bin op_addAll od_add (de_bin op_addAll od_add (de_slice (de_var (i := 1)) (do_none) (do_some (de_var (i := 2)))) (de_tup (da_cons (de_var (i := 3)) (da_nil)))) (de_slice (de_var (i := 1)) (do_some (de_var (i := 2))) (do_none))) (da_cons (de_callTy call_list_of ad_list T.n_list (by decide +kernel) (da_cons (de_var (i := 1)) (da_nil))) (da_cons (de_non) (da_cons (de_bin op_mulAll od_mul (de_tup (da_cons (de_int) (da_nil))) (de_int)) (da_cons (de_int) (da_nil))))))) (de_fnT (by exact (ok__law_take T).cal hr) (by exact hg) (takes_of rfl rfl rfl rfl) (da_cons (de_int) (da_nil)) (i := 0))))))

theorem ok_law {P : Program} {w : World} {K : PySem.W.Frag} {mg : Str → Option Value} {base : Heap} {cl : Nat → Addr} (T : Txt K mg cl) : Def P w K mg base cl "law" 8 1 F_law [] := by
  refine def_of (k := 7) (N := ["_law_script", "_law_k", "_law_pool_here", "_law_rows_here", "_law_kept", "_law_at", "_law_odd", "_law_bent", "_law_none", "_law_strange", "_law_wide", "_law_ins", "_law_outs", "_law_twice"]) (body := m_law) T.f_law sc_law rfl (fun _ _ _ _ _ _ us hl => match us, hl with | [_], _ => rfl) ?_
  intro f cdv A outer s H E hr hg
  exact ds_cons (ds_for (is := [1]) (passes_of rfl) (by rfl) (di_range1 T.n_range (da_cons (de_callB (call_max2 rfl) ad_max T.n_max (by decide +kernel) (da_cons (de_int) (da_cons (de_callB (call_min2 rfl) ad_min T.n_min (by decide +kernel) (da_cons (de_int) (da_cons (de_callB call_lenA (ad_lenA ⟨rfl, rfl, rfl⟩) T.n_len (by decide +kernel) (da_cons (de_var (i := 0)) (da_nil))) (da_nil)))) (da_nil)))) (da_nil))) (dg_name sc_law.nd (i := 1)) (ds_cons (ds_setO (i := 2) (df_fn (by exact (ok__law_pool T).cal hr) (by exact hg) (takes_of rfl rfl rfl rfl) (da_cons (de_var (i := 0)) (da_cons (de_var (i := 1)) (da_nil)))) sc_law.nd)
    (ds_cons (ds_mix2 (i := 11) (j := 12) (dm_val (de_fnT (by exact (ok__law_side T).cal hr) (by exact hg) (takes_of rfl rfl rfl rfl) (da_cons (de_int) (da_nil)) (i := 2)) (dm_val (de_fnT (by exact (ok__law_side T).cal hr) (by exact hg) (takes_of rfl rfl rfl rfl) (da_cons (de_int) (da_nil)) (i := 2)) (dm_nil))) (by rfl) sc_law.nd)
    (ds_cons (ds_set (i := 3) (de_fnT (by exact (ok__law_rows T).cal hr) (by exact hg) (takes_of rfl rfl rfl rfl) (da_cons (de_var (i := 11)) (da_cons (de_var (i := 12)) (da_nil))) (i := 2)) sc_law.nd)
    (ds_cons (ds_set (i := 4) (de_callB (callr_or (cr_repr (by exact hg) (by exact hr.units)) (cr_reprN ⟨rfl, rfl, rfl⟩ (by exact hg) (by exact hr.units))) (appd_or (ad_repr ⟨rfl, rfl, rfl⟩) ad_reprN) T.n_repr (by decide +kernel) (da_cons (de_var (i := 3)) (da_nil))) sc_law.nd)
    (ds_cons (ds_if (dt_cmp (op_neD (by exact hr.units)) od_ne (de_fn (by exact (ok__law_caught T).cal hr) (by exact hg) (takes_of rfl rfl rfl rfl) (da_cons (de_var (i := 11)) (da_cons (de_var (i := 12)) (da_cons (de_var (i := 3)) (da_nil))))) (de_lst (da_cons (de_str) (da_nil)))) (ds_one (ds_ret (de_bl))) (ds_nil))
    (ds_cons (ds_set (i := 5) (de_fnT (by exact (ok__law_take T).cal hr) (by exact hg) (takes_of rfl rfl rfl rfl) (da_cons (de_bin op_addAll od_add (de_callB call_lenA (ad_lenA ⟨rfl, rfl, rfl⟩) T.n_len (by decide +kernel) (da_cons (de_var (i := 3)) (da_nil))) (de_int)) (da_nil)) (i := 2)) sc_law.nd)
    (ds_cons (ds_set (i := 6) (de_fnT (by exact (ok__law_odd_row T).cal hr) (by exact hg) (takes_of rfl rfl rfl rfl) (da_cons (de_var (i := 11)) (da_cons (de_var (i := 12)) (da_nil))) (i := 2)) sc_law.nd)
    (ds_cons (ds_set (i := 7) (de_bin op_addAll od_add (de_bin op_addAll od_add (de_slice (de_var (i := 3)) (do_none) (do_some (de_var (i := 5)))) (de_lst (da_cons (de_var (i := 6)) (da_nil)))) (de_slice (de_var (i := 3)) (do_some (de_var (i := 5))) (do_none))) sc_law.nd)
    (ds_cons (ds_set (i := 8) (de_ix ⟨rfl, rfl, rfl⟩ (by exact hr.units) (de_lst (da_cons (de_non) (da_cons (de_dict0 ⟨rfl, rfl, rfl⟩) (da_cons (de_str) (da_cons (de_int) (da_cons (de_bl) (da_nil))))))) (de_fnT (by exact (ok__law_take T).cal hr) (by exact hg) (takes_of rfl rfl rfl rfl) (da_cons (de_int) (da_nil)) (i := 2))) sc_law.nd)
    (ds_cons (ds_if ((dw_or (dt_cmp (op_neD (by exact hr.units)) od_ne (de_fn (by exact (ok__law_caught T).cal hr) (by exact hg) (takes_of rfl rfl rfl rfl) (da_cons (de_var (i := 11)) (da_cons (de_var (i := 12)) (da_cons (de_var (i := 7)) (da_nil))))) (de_lst (da_cons (de_int) (da_cons (de_callB (callr_or (cr_repr (by exact hg) (by exact hr.units)) (cr_reprN ⟨rfl, rfl, rfl⟩ (by exact hg) (by exact hr.units))) (appd_or (ad_repr ⟨rfl, rfl, rfl⟩) ad_reprN) T.n_repr (by decide +kernel) (da_cons (de_var (i := 6)) (da_nil))) (da_nil))))) (dw_or1 (dt_cmp (op_neD (by exact hr.units)) od_ne (de_fn (by exact (ok__law_caught T).cal hr) (by exact hg) (takes_of rfl rfl rfl rfl) (da_cons (de_var (i := 11)) (da_cons (de_var (i := 12)) (da_cons (de_var (i := 8)) (da_nil))))) (de_lst (da_cons (de_int) (da_cons (de_callB (callr_or (cr_repr (by exact hg) (by exact hr.units)) (cr_reprN ⟨rfl, rfl, rfl⟩ (by exact hg) (by exact hr.units))) (appd_or (ad_repr ⟨rfl, rfl, rfl⟩) ad_reprN) T.n_repr (by decide +kernel) (da_cons (de_var (i := 8)) (da_nil))) (da_nil))))))).pt) (ds_one (ds_ret (de_bl))) (ds_nil))
    (ds_cons (ds_if (dt_cmp (op_neD (by exact hr.units)) od_ne (de_var (i := 3)) (de_lst (da_nil))) (ds_cons (ds_set (i := 13) (de_bin op_addAll od_add (de_slice (de_ix ⟨rfl, rfl, rfl⟩ (by exact hr.units) (de_var (i := 3)) (de_bin op_mod od_mod (de_var (i := 5)) (de_callB call_lenA (ad_lenA ⟨rfl, rfl, rfl⟩) T.n_len (by decide +kernel) (da_cons (de_var (i := 3)) (da_nil))))) (do_none) (do_some (de_int))) (de_tup (da_cons (de_int) (da_nil)))) sc_law.nd)
    (ds_one (ds_if (dt_cmp (op_neD (by exact hr.units)) od_ne (de_fn (by exact (ok__law_caught T).cal hr) (by exact hg) (takes_of rfl rfl rfl rfl) (da_cons (de_var (i := 11)) (da_cons (de_var (i := 12)) (da_cons (de_bin op_addAll od_add (de_bin op_addAll od_add (de_var (i := 3)) (de_lst (da_cons (de_var (i := 13)) (da_nil)))) (de_lst (da_cons (de_var (i := 6)) (da_nil)))) (da_nil))))) (de_lst (da_cons (de_int) (da_cons (de_callB (callr_or (cr_repr (by exact hg) (by exact hr.units)) (cr_reprN ⟨rfl, rfl, rfl⟩ (by exact hg) (by exact hr.units))) (appd_or (ad_repr ⟨rfl, rfl, rfl⟩) ad_reprN) T.n_repr (by decide +kernel) (da_cons (de_var (i := 13)) (da_nil))) (da_nil))))) (ds_one (ds_ret (de_bl))) (ds_nil)))) (ds_nil))
    (ds_cons (ds_set (i := 9) (de_fnT (by exact (ok__law_odd_sizes T).cal hr) (by exact hg) (takes_of rfl rfl rfl rfl) (da_cons (de_var (i := 11)) (da_nil)) (i := 2)) sc_law.nd)
    (ds_cons (ds_set (i := 10) (de_tup (da_cons (de_int) (da_cons (de_int) (da_cons (de_int) (da_cons (de_int) (da_cons (de_int) (da_nil))))))) sc_law.nd)
    (ds_cons (ds_if (dt_cmp (op_neD (by exact hr.units)) od_ne (de_fn (by exact (ok__law_caught T).cal hr) (by exact hg) (takes_of rfl rfl rfl rfl) (da_cons (de_var (i := 9)) (da_cons (de_non) (da_cons (de_var (i := 8)) (da_nil))))) (de_lst (da_cons (de_int) (da_cons (de_callB (callr_or (cr_repr (by exact hg) (by exact hr.units)) (cr_reprN ⟨rfl, rfl, rfl⟩ (by exact hg) (by exact hr.units))) (appd_or (ad_repr ⟨rfl, rfl, rfl⟩) ad_reprN) T.n_repr (by decide +kernel) (da_cons (de_var (i := 9)) (da_nil))) (da_nil))))) (ds_one (ds_ret (de_bl))) (ds_nil))
    (ds_cons (ds_if (dt_cmp (op_neD (by exact hr.units)) od_ne (de_fn (by exact (ok__law_caught T).cal hr) (by exact hg) (takes_of rfl rfl rfl rfl) (da_cons (de_var (i := 11)) (da_cons (de_var (i := 9)) (da_cons (de_var (i := 8)) (da_nil))))) (de_lst (da_cons (de_int) (da_cons (de_callB (callr_or (cr_repr (by exact hg) (by exact hr.units)) (cr_reprN ⟨rfl, rfl, rfl⟩ (by exact hg) (by exact hr.units))) (appd_or (ad_repr ⟨rfl, rfl, rfl⟩) ad_reprN) T.n_repr (by decide +kernel) (da_cons (de_var (i := 9)) (da_nil))) (da_nil))))) (ds_one (ds_ret (de_bl))) (ds_nil))
    (ds_cons (ds_if ((dw_or (dt_cmp (op_neD (by exact hr.units)) od_ne (de_ix ⟨rfl, rfl, rfl⟩ (by exact hr.units) (de_fn (by exact (ok__law_caught T).cal hr) (by exact hg) (takes_of rfl rfl rfl rfl) (da_cons (de_var (i := 10)) (da_cons (de_bin op_addAll od_add (de_tup (da_cons (de_int) (da_nil))) (de_var (i := 12))) (da_cons (de_var (i := 8)) (da_nil))))) (de_int)) (de_int)) (dw_or1 (dt_cmp (op_neD (by exact hr.units)) od_ne (de_fn (by exact (ok__law_caught T).cal hr) (by exact hg) (takes_of rfl rfl rfl rfl) (da_cons (de_var (i := 10)) (da_cons (de_tup (da_cons (de_int) (da_cons (de_int) (da_nil)))) (da_cons (de_var (i := 7)) (da_nil))))) (de_lst (da_cons (de_int) (da_cons (de_int) (da_nil))))))).pt) (ds_one (ds_ret (de_bl))) (ds_nil))
    (ds_one (ds_if ((dw_or (dt_cmp (op_neD (by exact hr.units)) od_ne (de_fn (by exact (ok__law_caught T).cal hr) (by exact hg) (takes_of rfl rfl rfl rfl) (da_cons (de_var (i := 10)) (da_cons (de_tup (da_cons (de_int) (da_nil))) (da_cons (de_lst (da_nil)) (da_nil))))) (de_lst (da_cons (de_str) (da_nil)))) (dw_or1 (dt_cmp (op_neD (by exact hr.units)) od_ne (de_callB (callr_or (cr_repr (by exact hg) (by exact hr.units)) (cr_reprN ⟨rfl, rfl, rfl⟩ (by exact hg) (by exact hr.units))) (appd_or (ad_repr ⟨rfl, rfl, rfl⟩) ad_reprN) T.n_repr (by decide +kernel) (da_cons (de_var (i := 3)) (da_nil))) (de_var (i := 4))))).pt) (ds_one (ds_ret (de_bl))) (ds_nil))))))))))))))))))))
    (ds_one (ds_ret (de_bl)))
end K03
end

section
set_option Elab.async false
set_option linter.all false
set_option autoImplicit false
set_option maxRecDepth 100000
set_option maxHeartbeats 4000000
/-! FP: from the head's facts to what the walk asks. -/
namespace DL
open PySem L2 PyProof.Rows PySem.Spec
section
variable {fa : List (List FaB)} {fn : List He.DefD} {K : PySem.W.Frag} {h : Heap} {mg : Str → Option Value}
theorem SaysB.fact (c : SaysB fa fn K) (i j : Nat) {l : List FaB} {f : FaB} (h1 : fa[i]? = some l := by rfl) (h2 : l[j]? = some f := by rfl) : f K = true := by
  have c1 := (He.ba (show ((fa.all fun l => l.all fun f => f K) && fn.all fun d => d.ok K) = true from congrArg (fun z : He.AlD => z.1) c)).1
  exact List.all_eq_true.mp (List.all_eq_true.mp c1 l (List.mem_of_getElem? h1)) f (List.mem_of_getElem? h2)
theorem SaysB.funD (c : SaysB fa fn K) (i : Nat) {d : He.DefD} (h : fn[i]? = some d) : ∃ fd, FunD K d.name d.qual d.params d.body d.scope (d.dvs K) (d.kws K) (He.fAd K d.at_) fd := by
  have c2 := (He.ba (show ((fa.all fun l => l.all fun f => f K) && fn.all fun d => d.ok K) = true from congrArg (fun z : He.AlD => z.1) c)).2
  have e : fn.map (fun d => He.fnW K d.at_) = fn.map He.DefD.val := congrArg (fun z : He.AlD => z.2) c
  have e2 : (fn.map fun d => He.fnW K d.at_)[i]? = (fn.map He.DefD.val)[i]? := by rw [e]
  rw [List.getElem?_map, List.getElem?_map, h] at e2
  exact He.DefD.funD (Option.some.inj e2) (List.all_eq_true.mp c2 d (List.mem_of_getElem? h))
theorem fun_ofD {x q : Str} {st : Stmt} {f : Addr} {fd : FuncData} (F : FunD K x q (defArgs st) (defBody st) (defScope st) [] [] f fd) : Fun K x q st f fd := by
  obtain ⟨oc, od, dV, kV, doc, pm, an, cdv, ct, osl, e, lk, hcd, hd, _⟩ := F.ex
  rcases hd with ⟨_, rfl⟩ | ⟨z, _⟩
  · exact ⟨⟨oc, od, kV, doc, pm, an, cdv, ct, osl, e, lk, hcd⟩, F.kp⟩
  · exact absurd rfl z
theorem SaysB.hasF (c : SaysB fa fn K) (X : K.In h) (G : h.Ns mainGlobals mg) (i : Nat) {x : Str} {st : Stmt} (hd : fn[i]? = some (dF x st)) (g : fH (.glo x) K = true) : HasF K mg x st := by
  obtain ⟨fd, F⟩ := c.funD i hd
  exact ⟨_, fd, He.glo_ok X G g, fun_ofD F⟩
theorem SaysB.hasD (c : SaysB fa fn K) (X : K.In h) (G : h.Ns mainGlobals mg) (i : Nat) {x : Str} {st : Stmt} {dfl : List He.Dv} (hd : fn[i]? = some (dF x st dfl)) (g : fH (.glo x) K = true) {dvs : List V} (e : dfl.map (He.Dv.v K) = dvs) : HasD K mg x st dvs := by
  obtain ⟨fd, F⟩ := c.funD i hd
  subst e
  exact ⟨_, fd, He.glo_ok X G g, F⟩
theorem SaysB.hasM (c : SaysB fa fn K) (i : Nat) {C m q : Str} {st : Stmt} (hd : fn[i]? = some (dM C m q st)) (g : fH (.meth C m) K = true) : HasM K (He.ga K C) m q st := by
  obtain ⟨fd, F⟩ := c.funD i hd
  exact ⟨_, fd, He.meth_ok g, fun_ofD F⟩
theorem SaysB.hasC (c : SaysB fa fn K) (X : K.In h) (G : h.Ns mainGlobals mg) (i : Nat) {C q : Str} {st : Stmt} (hd : fn[i]? = some (dM C "__init__" q st)) (g : fH (.glo C) K = true) (g2 : fH (.mkr C) K = true) : HasC K mg (He.ga K C) C q st := by
  obtain ⟨fd, F⟩ := c.funD i hd
  exact ⟨_, fd, He.glo_ok X G g, He.mkr_ok g2, fun_ofD F⟩
/-- an error's __init__ -/
theorem SaysB.ini (c : SaysB fa fn K) (i : Nat) {C q : Str} {st : Stmt} (hd : fn[i]? = some (dM C "__init__" q st)) (g1 : PySem.W.findIn K (.ref (He.ga K C)) "__init__" = some (some (.ref (He.ma K (He.ga K C) "__init__")))) (g2 : PySem.W.typeIn K (.ref (He.ma K (He.ga K C) "__init__")) = some (.type "function")) :
    ∃ fI fd, PySem.W.findIn K (.ref (He.ga K C)) "__init__" = some (some (.ref fI)) ∧ PySem.W.typeIn K (.ref fI) = some (.type "function") ∧ Fun K "__init__" q st fI fd := by
  obtain ⟨fd, F⟩ := c.funD i hd
  exact ⟨_, fd, g1, g2, fun_ofD F⟩
end
/-- the head's goal, the heap's part left open -/
theorem walk_ofDB {l : PySem.W.OpenLaw} {n k : Nat} {q : Program} {loose : List Str} {XP : (Str → Option Value) → Heap → Prop} {YP : World → Heap → Prop} {d : DefRec} {Φ : List D → FR}
    (hn : l.most = some n) (hn2 : n ≤ sizeLine) (hdf : d.params.defaults = []) (hr : Room k callerA)
    (F : ∀ (w : World) (mg : Str → Option Value) (h : Heap), YP w h → h.Ns mainGlobals mg → ∃ (K : PySem.W.Frag) (cl : Nat → Addr), K.In h ∧ ∀ base : Heap, Def l.prog w K mg base cl d.name k 1 Φ [])
    (hΦ : ∀ ns : List Int, ns.length ≤ n → (∀ z ∈ ns, Builtin.Int.intBits z ≤ 1048576) → Φ [scrOf ns] = .ok (.val (.bl true))) :
    PySem.W.WalkO q loose XP YP l.row.toRowW d [] (fun f vs => PySem.call f vs) := by
  refine Att.attach_callB hn hdf ?_
  intro w s0 s1 mg mb fa o pm cd doc a us ns G Y ho hd hcd hmg hobj hints hlen hbits hg
  obtain ⟨K, cl, KX, h1⟩ := F w mg _ Y G.T.g
  exact law_at KX G.T.g G.T.b G.T.builtins G.T.nolimit hg hobj hints (Nat.le_trans hlen hn2) hr hmg h1 (hΦ ns hlen hbits)
end DL
end

section
set_option Elab.async false
set_option linter.all false
set_option maxRecDepth 100000
set_option maxHeartbeats 8000000
/-! the head and the walk joined (printed by gen2.py) -/
namespace K03
open PySem L2 PyProof.Rows PySem.Spec DL
theorem all_B {P : Program} {w : World} {K : PySem.W.Frag} {h : Heap} {mg : Str → Option Value} (X : K.In h) (G : h.Ns mainGlobals mg) (c : SaysB fa fn K) :
    ∃ cl : Nat → Addr, ∀ base : Heap, Def P w K mg base cl "law" 8 1 F_law [] := ⟨fun | 0 => He.ga K "InvalidSizes" | 1 => He.ga K "InvalidValues" | 2 => He.ga K "InvalidRow" | 3 => He.ga K "TooWide" | 30 => He.ga K "NetworkError" | 50 => He.ga K "Table" | _ => 0, fun base => ok_law {
    n_ValueError := PySem.W.mg_none_of X G (show PySem.W.nsIn K mainGlobals "ValueError" = some none from of_decide_eq_true (c.fact 0 0)),
    n_abs := PySem.W.mg_none_of X G (show PySem.W.nsIn K mainGlobals "abs" = some none from of_decide_eq_true (c.fact 0 1)),
    n_all := PySem.W.mg_none_of X G (show PySem.W.nsIn K mainGlobals "all" = some none from of_decide_eq_true (c.fact 0 2)),
    n_bool := PySem.W.mg_none_of X G (show PySem.W.nsIn K mainGlobals "bool" = some none from of_decide_eq_true (c.fact 0 3)),
    n_int := PySem.W.mg_none_of X G (show PySem.W.nsIn K mainGlobals "int" = some none from of_decide_eq_true (c.fact 0 4)),
    n_isinstance := PySem.W.mg_none_of X G (show PySem.W.nsIn K mainGlobals "isinstance" = some none from of_decide_eq_true (c.fact 0 5)),
    n_len := PySem.W.mg_none_of X G (show PySem.W.nsIn K mainGlobals "len" = some none from of_decide_eq_true (c.fact 0 6)),
    n_list := PySem.W.mg_none_of X G (show PySem.W.nsIn K mainGlobals "list" = some none from of_decide_eq_true (c.fact 0 7)),
    n_max := PySem.W.mg_none_of X G (show PySem.W.nsIn K mainGlobals "max" = some none from of_decide_eq_true (c.fact 0 8)),
    n_min := PySem.W.mg_none_of X G (show PySem.W.nsIn K mainGlobals "min" = some none from of_decide_eq_true (c.fact 0 9)),
    n_range := PySem.W.mg_none_of X G (show PySem.W.nsIn K mainGlobals "range" = some none from of_decide_eq_true (c.fact 0 10)),
    n_repr := PySem.W.mg_none_of X G (show PySem.W.nsIn K mainGlobals "repr" = some none from of_decide_eq_true (c.fact 0 11)),
    n_sorted := PySem.W.mg_none_of X G (show PySem.W.nsIn K mainGlobals "sorted" = some none from of_decide_eq_true (c.fact 0 12)),
    n_tuple := PySem.W.mg_none_of X G (show PySem.W.nsIn K mainGlobals "tuple" = some none from of_decide_eq_true (c.fact 0 13)),
    n_zip := PySem.W.mg_none_of X G (show PySem.W.nsIn K mainGlobals "zip" = some none from of_decide_eq_true (c.fact 0 14)),
    c_MAX_PRODUCT := He.int_ok X G (c.fact 0 15),
    c_MAX_SIZE := He.int_ok X G (c.fact 0 16),
    c_MAX_WEIGHT := He.int_ok X G (c.fact 0 17),
    c_MAX_WIRES := He.int_ok X G (c.fact 0 18),
    f_is_integer := c.hasD X G 0 (dfl := [.int 0]) rfl (c.fact 0 19) rfl,
    f_is_size := c.hasF X G 1 rfl (c.fact 1 0),
    f_is_sizes := c.hasF X G 2 rfl (c.fact 1 1),
    f_check_sizes := c.hasF X G 3 rfl (c.fact 1 2),
    f_product := c.hasF X G 4 rfl (c.fact 1 3),
    f_is_values := c.hasF X G 5 rfl (c.fact 1 4),
    f_check_values := c.hasF X G 6 rfl (c.fact 1 5),
    f_check_product := c.hasF X G 7 rfl (c.fact 1 6),
    f_is_row := c.hasF X G 8 rfl (c.fact 1 7),
    f__law_pool := c.hasF X G 9 rfl (c.fact 1 8),
    f__law_take := c.hasF X G 10 rfl (c.fact 1 9),
    f__law_worths := c.hasF X G 11 rfl (c.fact 1 10),
    f__law_side := c.hasF X G 12 rfl (c.fact 1 11),
    f__law_rows := c.hasF X G 13 rfl (c.fact 1 12),
    f__law_caught := c.hasF X G 14 rfl (c.fact 1 13),
    f__law_odd_row := c.hasF X G 15 rfl (c.fact 1 14),
    f__law_odd_sizes := c.hasF X G 16 rfl (c.fact 1 15),
    f_law := c.hasF X G 17 rfl (c.fact 1 16),
    g_Table := He.glo_ok X G (c.fact 1 17),
    k_Table := He.cls_ok (c.fact 1 18),
    na_Table_weights := (show PySem.W.findIn K (.ref (He.ga K "Table")) "weights" = some none from of_decide_eq_true (c.fact 1 19)),
    na_Table_sizes_in := (show PySem.W.findIn K (.ref (He.ga K "Table")) "sizes_in" = some none from of_decide_eq_true (c.fact 2 0)),
    na_Table_sizes_out := (show PySem.W.findIn K (.ref (He.ga K "Table")) "sizes_out" = some none from of_decide_eq_true (c.fact 2 1)),
    mk_Table := c.hasC X G 18 rfl (c.fact 1 17) (c.fact 2 2),
    m_Table_input_sizes := c.hasM 19 rfl (c.fact 2 3),
    m_Table_output_sizes := c.hasM 20 rfl (c.fact 2 4),
    m_Table_rows := c.hasM 21 rfl (c.fact 2 5),
    m_Table_weight := c.hasM 22 rfl (c.fact 2 6),
    m_Table___eq__ := c.hasM 23 rfl (c.fact 2 7),
    m_Table___len__ := c.hasM 24 rfl (c.fact 2 8),
    ne_Table := (show PySem.W.findIn K (.ref (He.ga K "Table")) "__ne__" = some (some (.builtin "object.__ne__")) from of_decide_eq_true (c.fact 2 9)),
    top_Table := (show PySem.W.mroIn K (He.ga K "Table") (.type "object") = some true from of_decide_eq_true (c.fact 2 10)),
    ki := fun _ _ => {
      ty := fun c h => by
        simp at h
        subst h
        · exact ⟨He.cls_ok (c.fact 1 18), (show PySem.W.findIn K (.ref (He.ga K "Table")) "__class__" = some (some (.builtin "object.__class__")) from of_decide_eq_true (c.fact 2 11)), (show PySem.W.specialIn K (.builtin "object.__class__") "__get__" = some (some (.builtin "getset_descriptor.__get__")) from of_decide_eq_true (c.fact 3 9)), (show PySem.W.takesIn K (.builtin "object.__class__") = some true from of_decide_eq_true (c.fact 3 10)), (show PySem.W.mroIn K (He.ga K "Table") (.type "object") = some true from of_decide_eq_true (c.fact 2 10))⟩
      bo := fun c h a h2 => by
        simp at h
        subst h
        · simp [bNames] at h2
          rcases h2 with rfl | rfl | rfl | rfl | rfl | rfl | rfl
          · exact kit_bo (show PySem.W.isClsIn K (He.ga K "Table") = true from of_decide_eq_true (c.fact 2 12)) (show PySem.W.typeIn K (.ref (He.ga K "Table")) = some (.type "type") from of_decide_eq_true (c.fact 2 13)) (show PySem.W.subIn K (.type "NoneType") (.ref (He.ga K "Table")) = some false from of_decide_eq_true (c.fact 2 14))
          · exact kit_bo (show PySem.W.isClsIn K (He.ga K "Table") = true from of_decide_eq_true (c.fact 2 12)) (show PySem.W.typeIn K (.ref (He.ga K "Table")) = some (.type "type") from of_decide_eq_true (c.fact 2 13)) (show PySem.W.subIn K (.type "bool") (.ref (He.ga K "Table")) = some false from of_decide_eq_true (c.fact 2 16))
          · exact kit_bo (show PySem.W.isClsIn K (He.ga K "Table") = true from of_decide_eq_true (c.fact 2 12)) (show PySem.W.typeIn K (.ref (He.ga K "Table")) = some (.type "type") from of_decide_eq_true (c.fact 2 13)) (show PySem.W.subIn K (.type "int") (.ref (He.ga K "Table")) = some false from of_decide_eq_true (c.fact 2 18))
          · exact kit_bo (show PySem.W.isClsIn K (He.ga K "Table") = true from of_decide_eq_true (c.fact 2 12)) (show PySem.W.typeIn K (.ref (He.ga K "Table")) = some (.type "type") from of_decide_eq_true (c.fact 2 13)) (show PySem.W.subIn K (.type "str") (.ref (He.ga K "Table")) = some false from of_decide_eq_true (c.fact 3 0))
          · exact kit_bo (show PySem.W.isClsIn K (He.ga K "Table") = true from of_decide_eq_true (c.fact 2 12)) (show PySem.W.typeIn K (.ref (He.ga K "Table")) = some (.type "type") from of_decide_eq_true (c.fact 2 13)) (show PySem.W.subIn K (.type "tuple") (.ref (He.ga K "Table")) = some false from of_decide_eq_true (c.fact 3 2))
          · exact kit_bo (show PySem.W.isClsIn K (He.ga K "Table") = true from of_decide_eq_true (c.fact 2 12)) (show PySem.W.typeIn K (.ref (He.ga K "Table")) = some (.type "type") from of_decide_eq_true (c.fact 2 13)) (show PySem.W.subIn K (.type "list") (.ref (He.ga K "Table")) = some false from of_decide_eq_true (c.fact 3 4))
          · exact kit_bo (show PySem.W.isClsIn K (He.ga K "Table") = true from of_decide_eq_true (c.fact 2 12)) (show PySem.W.typeIn K (.ref (He.ga K "Table")) = some (.type "type") from of_decide_eq_true (c.fact 2 13)) (show PySem.W.subIn K (.type "dict") (.ref (He.ga K "Table")) = some false from of_decide_eq_true (c.fact 3 6))
      ob := fun c h a h2 => by
        simp at h
        subst h
        · simp [bNames] at h2
          rcases h2 with rfl | rfl | rfl | rfl | rfl | rfl | rfl
          · exact kit_ob (by decide +kernel) (show PySem.W.subIn K (.ref (He.ga K "Table")) (.type "NoneType") = some false from of_decide_eq_true (c.fact 2 15))
          · exact kit_ob (by decide +kernel) (show PySem.W.subIn K (.ref (He.ga K "Table")) (.type "bool") = some false from of_decide_eq_true (c.fact 2 17))
          · exact kit_ob (by decide +kernel) (show PySem.W.subIn K (.ref (He.ga K "Table")) (.type "int") = some false from of_decide_eq_true (c.fact 2 19))
          · exact kit_ob (by decide +kernel) (show PySem.W.subIn K (.ref (He.ga K "Table")) (.type "str") = some false from of_decide_eq_true (c.fact 3 1))
          · exact kit_ob (by decide +kernel) (show PySem.W.subIn K (.ref (He.ga K "Table")) (.type "tuple") = some false from of_decide_eq_true (c.fact 3 3))
          · exact kit_ob (by decide +kernel) (show PySem.W.subIn K (.ref (He.ga K "Table")) (.type "list") = some false from of_decide_eq_true (c.fact 3 5))
          · exact kit_ob (by decide +kernel) (show PySem.W.subIn K (.ref (He.ga K "Table")) (.type "dict") = some false from of_decide_eq_true (c.fact 3 7))
      oo := fun c h c2 h2 => by
        simp at h h2
        subst h
        · subst h2
          · exact kit_oo (show PySem.W.isClsIn K (He.ga K "Table") = true from of_decide_eq_true (c.fact 2 12)) (show PySem.W.typeIn K (.ref (He.ga K "Table")) = some (.type "type") from of_decide_eq_true (c.fact 2 13)) (show PySem.W.subIn K (.ref (He.ga K "Table")) (.ref (He.ga K "Table")) = some true from of_decide_eq_true (c.fact 3 8)) (fun _ => rfl) },
    t_NetworkError := ⟨_, (show PySem.W.readsIn K (He.ga K "NetworkError") (.type "type") = true from of_decide_eq_true (c.fact 3 11)), (show PySem.W.specialIn K (.ref (He.ga K "NetworkError")) "__getattribute__" = some (some (.builtin "type.__getattribute__")) from of_decide_eq_true (c.fact 3 12)), (fclB_ok (c.fact 3 13)), PySem.W.mg_of X G (show PySem.W.nsIn K mainGlobals "NetworkError" = some (some (.ref (He.ga K "NetworkError"))) from of_decide_eq_true (c.fact 7 16))⟩,
    e_InvalidSizes := ⟨⟨excB_ok (p := fun bm => PySem.HandSPX.refsVE bm = true) (c.fact 3 15) (by rfl), (show PySem.W.findIn K (.ref (He.ga K "InvalidSizes")) "__setattr__" = some (some (.builtin "object.__setattr__")) from of_decide_eq_true (c.fact 3 16)), (show PySem.W.subIn K (.ref (He.ga K "InvalidSizes")) (.type "BaseException") = some true from of_decide_eq_true (c.fact 3 17)), (show PySem.W.typeIn K (.ref (He.ga K "InvalidSizes")) = some (.type "type") from of_decide_eq_true (c.fact 3 18)), (show PySem.W.keepIn K (.ref (He.ga K "InvalidSizes")) = true from of_decide_eq_true (c.fact 3 19))⟩, ⟨(show PySem.W.findIn K (.ref (He.ga K "InvalidSizes")) "__getattribute__" = some (some (.builtin "BaseException.__getattribute__")) from of_decide_eq_true (c.fact 4 0)), (show PySem.W.findIn K (.ref (He.ga K "InvalidSizes")) "__getattr__" = some none from of_decide_eq_true (c.fact 4 1)), (show PySem.W.subIn K (.ref (He.ga K "InvalidSizes")) (.type "BaseException") = some true from of_decide_eq_true (c.fact 3 17)), (show PySem.W.hasDictIn K (He.ga K "InvalidSizes") = true from of_decide_eq_true (c.fact 4 2))⟩, (show PySem.W.findIn K (.ref (He.ga K "InvalidSizes")) "value" = some none from of_decide_eq_true (c.fact 4 3)), PySem.W.mg_of X G (show PySem.W.nsIn K mainGlobals "InvalidSizes" = some (some (.ref (He.ga K "InvalidSizes"))) from of_decide_eq_true (c.fact 3 14)), c.ini 25 rfl (show PySem.W.findIn K (.ref (He.ga K "InvalidSizes")) "__init__" = some (some (.ref (He.ma K (He.ga K "InvalidSizes") "__init__"))) from of_decide_eq_true (c.fact 4 4)) (show PySem.W.typeIn K (.ref (He.ma K (He.ga K "InvalidSizes") "__init__")) = some (.type "function") from of_decide_eq_true (c.fact 4 5))⟩,
    e_InvalidValues := ⟨⟨excB_ok (p := fun bm => PySem.HandSPX.refsVE bm = true) (c.fact 4 12) (by rfl), (show PySem.W.findIn K (.ref (He.ga K "InvalidValues")) "__setattr__" = some (some (.builtin "object.__setattr__")) from of_decide_eq_true (c.fact 4 13)), (show PySem.W.subIn K (.ref (He.ga K "InvalidValues")) (.type "BaseException") = some true from of_decide_eq_true (c.fact 4 14)), (show PySem.W.typeIn K (.ref (He.ga K "InvalidValues")) = some (.type "type") from of_decide_eq_true (c.fact 4 15)), (show PySem.W.keepIn K (.ref (He.ga K "InvalidValues")) = true from of_decide_eq_true (c.fact 4 16))⟩, ⟨(show PySem.W.findIn K (.ref (He.ga K "InvalidValues")) "__getattribute__" = some (some (.builtin "BaseException.__getattribute__")) from of_decide_eq_true (c.fact 4 17)), (show PySem.W.findIn K (.ref (He.ga K "InvalidValues")) "__getattr__" = some none from of_decide_eq_true (c.fact 4 18)), (show PySem.W.subIn K (.ref (He.ga K "InvalidValues")) (.type "BaseException") = some true from of_decide_eq_true (c.fact 4 14)), (show PySem.W.hasDictIn K (He.ga K "InvalidValues") = true from of_decide_eq_true (c.fact 4 19))⟩, (show PySem.W.findIn K (.ref (He.ga K "InvalidValues")) "value" = some none from of_decide_eq_true (c.fact 5 0)), PySem.W.mg_of X G (show PySem.W.nsIn K mainGlobals "InvalidValues" = some (some (.ref (He.ga K "InvalidValues"))) from of_decide_eq_true (c.fact 4 11)), c.ini 26 rfl (show PySem.W.findIn K (.ref (He.ga K "InvalidValues")) "__init__" = some (some (.ref (He.ma K (He.ga K "InvalidValues") "__init__"))) from of_decide_eq_true (c.fact 5 1)) (show PySem.W.typeIn K (.ref (He.ma K (He.ga K "InvalidValues") "__init__")) = some (.type "function") from of_decide_eq_true (c.fact 5 2))⟩,
    e_InvalidRow := ⟨⟨excB_ok (p := fun bm => PySem.HandSPX.refsVE bm = true) (c.fact 5 9) (by rfl), (show PySem.W.findIn K (.ref (He.ga K "InvalidRow")) "__setattr__" = some (some (.builtin "object.__setattr__")) from of_decide_eq_true (c.fact 5 10)), (show PySem.W.subIn K (.ref (He.ga K "InvalidRow")) (.type "BaseException") = some true from of_decide_eq_true (c.fact 5 11)), (show PySem.W.typeIn K (.ref (He.ga K "InvalidRow")) = some (.type "type") from of_decide_eq_true (c.fact 5 12)), (show PySem.W.keepIn K (.ref (He.ga K "InvalidRow")) = true from of_decide_eq_true (c.fact 5 13))⟩, ⟨(show PySem.W.findIn K (.ref (He.ga K "InvalidRow")) "__getattribute__" = some (some (.builtin "BaseException.__getattribute__")) from of_decide_eq_true (c.fact 5 14)), (show PySem.W.findIn K (.ref (He.ga K "InvalidRow")) "__getattr__" = some none from of_decide_eq_true (c.fact 5 15)), (show PySem.W.subIn K (.ref (He.ga K "InvalidRow")) (.type "BaseException") = some true from of_decide_eq_true (c.fact 5 11)), (show PySem.W.hasDictIn K (He.ga K "InvalidRow") = true from of_decide_eq_true (c.fact 5 16))⟩, (show PySem.W.findIn K (.ref (He.ga K "InvalidRow")) "value" = some none from of_decide_eq_true (c.fact 5 17)), PySem.W.mg_of X G (show PySem.W.nsIn K mainGlobals "InvalidRow" = some (some (.ref (He.ga K "InvalidRow"))) from of_decide_eq_true (c.fact 5 8)), c.ini 27 rfl (show PySem.W.findIn K (.ref (He.ga K "InvalidRow")) "__init__" = some (some (.ref (He.ma K (He.ga K "InvalidRow") "__init__"))) from of_decide_eq_true (c.fact 5 18)) (show PySem.W.typeIn K (.ref (He.ma K (He.ga K "InvalidRow") "__init__")) = some (.type "function") from of_decide_eq_true (c.fact 5 19))⟩,
    e_TooWide := ⟨⟨excB_ok (p := fun bm => PySem.HandSPX.refsVE bm = true) (c.fact 6 6) (by rfl), (show PySem.W.findIn K (.ref (He.ga K "TooWide")) "__setattr__" = some (some (.builtin "object.__setattr__")) from of_decide_eq_true (c.fact 6 7)), (show PySem.W.subIn K (.ref (He.ga K "TooWide")) (.type "BaseException") = some true from of_decide_eq_true (c.fact 6 8)), (show PySem.W.typeIn K (.ref (He.ga K "TooWide")) = some (.type "type") from of_decide_eq_true (c.fact 6 9)), (show PySem.W.keepIn K (.ref (He.ga K "TooWide")) = true from of_decide_eq_true (c.fact 6 10))⟩, ⟨(show PySem.W.findIn K (.ref (He.ga K "TooWide")) "__getattribute__" = some (some (.builtin "BaseException.__getattribute__")) from of_decide_eq_true (c.fact 6 11)), (show PySem.W.findIn K (.ref (He.ga K "TooWide")) "__getattr__" = some none from of_decide_eq_true (c.fact 6 12)), (show PySem.W.subIn K (.ref (He.ga K "TooWide")) (.type "BaseException") = some true from of_decide_eq_true (c.fact 6 8)), (show PySem.W.hasDictIn K (He.ga K "TooWide") = true from of_decide_eq_true (c.fact 6 13))⟩, (show PySem.W.findIn K (.ref (He.ga K "TooWide")) "count" = some none from of_decide_eq_true (c.fact 6 14)), PySem.W.mg_of X G (show PySem.W.nsIn K mainGlobals "TooWide" = some (some (.ref (He.ga K "TooWide"))) from of_decide_eq_true (c.fact 6 5)), c.ini 28 rfl (show PySem.W.findIn K (.ref (He.ga K "TooWide")) "__init__" = some (some (.ref (He.ma K (He.ga K "TooWide") "__init__"))) from of_decide_eq_true (c.fact 6 15)) (show PySem.W.typeIn K (.ref (He.ma K (He.ga K "TooWide") "__init__")) = some (.type "function") from of_decide_eq_true (c.fact 6 16))⟩,
    xi_InvalidRow := ⟨(show PySem.W.isClsIn K (He.ga K "InvalidRow") = true from of_decide_eq_true (c.fact 6 0)), ⟨(show PySem.W.findIn K (.ref (He.ga K "InvalidRow")) "__getattribute__" = some (some (.builtin "BaseException.__getattribute__")) from of_decide_eq_true (c.fact 5 14)), (show PySem.W.findIn K (.ref (He.ga K "InvalidRow")) "__getattr__" = some none from of_decide_eq_true (c.fact 5 15)), (show PySem.W.subIn K (.ref (He.ga K "InvalidRow")) (.type "BaseException") = some true from of_decide_eq_true (c.fact 5 11)), (show PySem.W.hasDictIn K (He.ga K "InvalidRow") = true from of_decide_eq_true (c.fact 5 16))⟩, (show PySem.W.findIn K (.ref (He.ga K "InvalidRow")) "__class__" = some (some (.builtin "object.__class__")) from of_decide_eq_true (c.fact 7 2)), (show PySem.W.specialIn K (.builtin "object.__class__") "__get__" = some (some (.builtin "getset_descriptor.__get__")) from of_decide_eq_true (c.fact 3 9)), (show PySem.W.takesIn K (.builtin "object.__class__") = some true from of_decide_eq_true (c.fact 3 10)), (show PySem.W.mroIn K (He.ga K "InvalidRow") (.type "object") = some true from of_decide_eq_true (c.fact 7 3))⟩,
    xi_InvalidSizes := ⟨(show PySem.W.isClsIn K (He.ga K "InvalidSizes") = true from of_decide_eq_true (c.fact 4 6)), ⟨(show PySem.W.findIn K (.ref (He.ga K "InvalidSizes")) "__getattribute__" = some (some (.builtin "BaseException.__getattribute__")) from of_decide_eq_true (c.fact 4 0)), (show PySem.W.findIn K (.ref (He.ga K "InvalidSizes")) "__getattr__" = some none from of_decide_eq_true (c.fact 4 1)), (show PySem.W.subIn K (.ref (He.ga K "InvalidSizes")) (.type "BaseException") = some true from of_decide_eq_true (c.fact 3 17)), (show PySem.W.hasDictIn K (He.ga K "InvalidSizes") = true from of_decide_eq_true (c.fact 4 2))⟩, (show PySem.W.findIn K (.ref (He.ga K "InvalidSizes")) "__class__" = some (some (.builtin "object.__class__")) from of_decide_eq_true (c.fact 7 4)), (show PySem.W.specialIn K (.builtin "object.__class__") "__get__" = some (some (.builtin "getset_descriptor.__get__")) from of_decide_eq_true (c.fact 3 9)), (show PySem.W.takesIn K (.builtin "object.__class__") = some true from of_decide_eq_true (c.fact 3 10)), (show PySem.W.mroIn K (He.ga K "InvalidSizes") (.type "object") = some true from of_decide_eq_true (c.fact 7 5))⟩,
    xi_InvalidValues := ⟨(show PySem.W.isClsIn K (He.ga K "InvalidValues") = true from of_decide_eq_true (c.fact 5 3)), ⟨(show PySem.W.findIn K (.ref (He.ga K "InvalidValues")) "__getattribute__" = some (some (.builtin "BaseException.__getattribute__")) from of_decide_eq_true (c.fact 4 17)), (show PySem.W.findIn K (.ref (He.ga K "InvalidValues")) "__getattr__" = some none from of_decide_eq_true (c.fact 4 18)), (show PySem.W.subIn K (.ref (He.ga K "InvalidValues")) (.type "BaseException") = some true from of_decide_eq_true (c.fact 4 14)), (show PySem.W.hasDictIn K (He.ga K "InvalidValues") = true from of_decide_eq_true (c.fact 4 19))⟩, (show PySem.W.findIn K (.ref (He.ga K "InvalidValues")) "__class__" = some (some (.builtin "object.__class__")) from of_decide_eq_true (c.fact 7 6)), (show PySem.W.specialIn K (.builtin "object.__class__") "__get__" = some (some (.builtin "getset_descriptor.__get__")) from of_decide_eq_true (c.fact 3 9)), (show PySem.W.takesIn K (.builtin "object.__class__") = some true from of_decide_eq_true (c.fact 3 10)), (show PySem.W.mroIn K (He.ga K "InvalidValues") (.type "object") = some true from of_decide_eq_true (c.fact 7 7))⟩,
    xi_TooWide := ⟨(show PySem.W.isClsIn K (He.ga K "TooWide") = true from of_decide_eq_true (c.fact 6 17)), ⟨(show PySem.W.findIn K (.ref (He.ga K "TooWide")) "__getattribute__" = some (some (.builtin "BaseException.__getattribute__")) from of_decide_eq_true (c.fact 6 11)), (show PySem.W.findIn K (.ref (He.ga K "TooWide")) "__getattr__" = some none from of_decide_eq_true (c.fact 6 12)), (show PySem.W.subIn K (.ref (He.ga K "TooWide")) (.type "BaseException") = some true from of_decide_eq_true (c.fact 6 8)), (show PySem.W.hasDictIn K (He.ga K "TooWide") = true from of_decide_eq_true (c.fact 6 13))⟩, (show PySem.W.findIn K (.ref (He.ga K "TooWide")) "__class__" = some (some (.builtin "object.__class__")) from of_decide_eq_true (c.fact 7 8)), (show PySem.W.specialIn K (.builtin "object.__class__") "__get__" = some (some (.builtin "getset_descriptor.__get__")) from of_decide_eq_true (c.fact 3 9)), (show PySem.W.takesIn K (.builtin "object.__class__") = some true from of_decide_eq_true (c.fact 3 10)), (show PySem.W.mroIn K (He.ga K "TooWide") (.type "object") = some true from of_decide_eq_true (c.fact 7 9))⟩,
    gb_NetworkError := PySem.W.mg_of X G (show PySem.W.nsIn K mainGlobals "NetworkError" = some (some (.ref (He.ga K "NetworkError"))) from of_decide_eq_true (c.fact 7 16)),
    kx_InvalidRow_InvalidRow := kit_oo (show PySem.W.isClsIn K (He.ga K "InvalidRow") = true from of_decide_eq_true (c.fact 6 0)) (show PySem.W.typeIn K (.ref (He.ga K "InvalidRow")) = some (.type "type") from of_decide_eq_true (c.fact 5 12)) (show PySem.W.subIn K (.ref (He.ga K "InvalidRow")) (.ref (He.ga K "InvalidRow")) = some true from of_decide_eq_true (c.fact 6 3)) (fun _ => rfl),
    kx_InvalidRow_InvalidSizes := kit_oo (show PySem.W.isClsIn K (He.ga K "InvalidSizes") = true from of_decide_eq_true (c.fact 4 6)) (show PySem.W.typeIn K (.ref (He.ga K "InvalidSizes")) = some (.type "type") from of_decide_eq_true (c.fact 3 18)) (show PySem.W.subIn K (.ref (He.ga K "InvalidRow")) (.ref (He.ga K "InvalidSizes")) = some false from of_decide_eq_true (c.fact 6 1)) (fun z => absurd ((show PySem.W.subIn K (.ref (He.ga K "InvalidRow")) (.ref (He.ga K "InvalidSizes")) = some true from by rw [show (He.ga K "InvalidRow") = (He.ga K "InvalidSizes") from z]; exact (show PySem.W.subIn K (.ref (He.ga K "InvalidSizes")) (.ref (He.ga K "InvalidSizes")) = some true from of_decide_eq_true (c.fact 4 7))).symm.trans (show PySem.W.subIn K (.ref (He.ga K "InvalidRow")) (.ref (He.ga K "InvalidSizes")) = some false from of_decide_eq_true (c.fact 6 1))) (by simp)),
    kx_InvalidRow_InvalidValues := kit_oo (show PySem.W.isClsIn K (He.ga K "InvalidValues") = true from of_decide_eq_true (c.fact 5 3)) (show PySem.W.typeIn K (.ref (He.ga K "InvalidValues")) = some (.type "type") from of_decide_eq_true (c.fact 4 15)) (show PySem.W.subIn K (.ref (He.ga K "InvalidRow")) (.ref (He.ga K "InvalidValues")) = some false from of_decide_eq_true (c.fact 6 2)) (fun z => absurd ((show PySem.W.subIn K (.ref (He.ga K "InvalidRow")) (.ref (He.ga K "InvalidValues")) = some true from by rw [show (He.ga K "InvalidRow") = (He.ga K "InvalidValues") from z]; exact (show PySem.W.subIn K (.ref (He.ga K "InvalidValues")) (.ref (He.ga K "InvalidValues")) = some true from of_decide_eq_true (c.fact 5 5))).symm.trans (show PySem.W.subIn K (.ref (He.ga K "InvalidRow")) (.ref (He.ga K "InvalidValues")) = some false from of_decide_eq_true (c.fact 6 2))) (by simp)),
    kx_InvalidRow_TooWide := kit_oo (show PySem.W.isClsIn K (He.ga K "TooWide") = true from of_decide_eq_true (c.fact 6 17)) (show PySem.W.typeIn K (.ref (He.ga K "TooWide")) = some (.type "type") from of_decide_eq_true (c.fact 6 9)) (show PySem.W.subIn K (.ref (He.ga K "InvalidRow")) (.ref (He.ga K "TooWide")) = some false from of_decide_eq_true (c.fact 6 4)) (fun z => absurd ((show PySem.W.subIn K (.ref (He.ga K "InvalidRow")) (.ref (He.ga K "TooWide")) = some true from by rw [show (He.ga K "InvalidRow") = (He.ga K "TooWide") from z]; exact (show PySem.W.subIn K (.ref (He.ga K "TooWide")) (.ref (He.ga K "TooWide")) = some true from of_decide_eq_true (c.fact 7 1))).symm.trans (show PySem.W.subIn K (.ref (He.ga K "InvalidRow")) (.ref (He.ga K "TooWide")) = some false from of_decide_eq_true (c.fact 6 4))) (by simp)),
    kx_InvalidRow_ValueError := kit_obB (by decide +kernel) (show PySem.W.subIn K (.ref (He.ga K "InvalidRow")) (.type "ValueError") = some true from of_decide_eq_true (c.fact 7 12)),
    kx_InvalidSizes_InvalidRow := kit_oo (show PySem.W.isClsIn K (He.ga K "InvalidRow") = true from of_decide_eq_true (c.fact 6 0)) (show PySem.W.typeIn K (.ref (He.ga K "InvalidRow")) = some (.type "type") from of_decide_eq_true (c.fact 5 12)) (show PySem.W.subIn K (.ref (He.ga K "InvalidSizes")) (.ref (He.ga K "InvalidRow")) = some false from of_decide_eq_true (c.fact 4 9)) (fun z => absurd ((show PySem.W.subIn K (.ref (He.ga K "InvalidSizes")) (.ref (He.ga K "InvalidRow")) = some true from by rw [show (He.ga K "InvalidSizes") = (He.ga K "InvalidRow") from z]; exact (show PySem.W.subIn K (.ref (He.ga K "InvalidRow")) (.ref (He.ga K "InvalidRow")) = some true from of_decide_eq_true (c.fact 6 3))).symm.trans (show PySem.W.subIn K (.ref (He.ga K "InvalidSizes")) (.ref (He.ga K "InvalidRow")) = some false from of_decide_eq_true (c.fact 4 9))) (by simp)),
    kx_InvalidSizes_InvalidSizes := kit_oo (show PySem.W.isClsIn K (He.ga K "InvalidSizes") = true from of_decide_eq_true (c.fact 4 6)) (show PySem.W.typeIn K (.ref (He.ga K "InvalidSizes")) = some (.type "type") from of_decide_eq_true (c.fact 3 18)) (show PySem.W.subIn K (.ref (He.ga K "InvalidSizes")) (.ref (He.ga K "InvalidSizes")) = some true from of_decide_eq_true (c.fact 4 7)) (fun _ => rfl),
    kx_InvalidSizes_InvalidValues := kit_oo (show PySem.W.isClsIn K (He.ga K "InvalidValues") = true from of_decide_eq_true (c.fact 5 3)) (show PySem.W.typeIn K (.ref (He.ga K "InvalidValues")) = some (.type "type") from of_decide_eq_true (c.fact 4 15)) (show PySem.W.subIn K (.ref (He.ga K "InvalidSizes")) (.ref (He.ga K "InvalidValues")) = some false from of_decide_eq_true (c.fact 4 8)) (fun z => absurd ((show PySem.W.subIn K (.ref (He.ga K "InvalidSizes")) (.ref (He.ga K "InvalidValues")) = some true from by rw [show (He.ga K "InvalidSizes") = (He.ga K "InvalidValues") from z]; exact (show PySem.W.subIn K (.ref (He.ga K "InvalidValues")) (.ref (He.ga K "InvalidValues")) = some true from of_decide_eq_true (c.fact 5 5))).symm.trans (show PySem.W.subIn K (.ref (He.ga K "InvalidSizes")) (.ref (He.ga K "InvalidValues")) = some false from of_decide_eq_true (c.fact 4 8))) (by simp)),
    kx_InvalidSizes_TooWide := kit_oo (show PySem.W.isClsIn K (He.ga K "TooWide") = true from of_decide_eq_true (c.fact 6 17)) (show PySem.W.typeIn K (.ref (He.ga K "TooWide")) = some (.type "type") from of_decide_eq_true (c.fact 6 9)) (show PySem.W.subIn K (.ref (He.ga K "InvalidSizes")) (.ref (He.ga K "TooWide")) = some false from of_decide_eq_true (c.fact 4 10)) (fun z => absurd ((show PySem.W.subIn K (.ref (He.ga K "InvalidSizes")) (.ref (He.ga K "TooWide")) = some true from by rw [show (He.ga K "InvalidSizes") = (He.ga K "TooWide") from z]; exact (show PySem.W.subIn K (.ref (He.ga K "TooWide")) (.ref (He.ga K "TooWide")) = some true from of_decide_eq_true (c.fact 7 1))).symm.trans (show PySem.W.subIn K (.ref (He.ga K "InvalidSizes")) (.ref (He.ga K "TooWide")) = some false from of_decide_eq_true (c.fact 4 10))) (by simp)),
    kx_InvalidSizes_ValueError := kit_obB (by decide +kernel) (show PySem.W.subIn K (.ref (He.ga K "InvalidSizes")) (.type "ValueError") = some true from of_decide_eq_true (c.fact 7 13)),
    kx_InvalidValues_InvalidRow := kit_oo (show PySem.W.isClsIn K (He.ga K "InvalidRow") = true from of_decide_eq_true (c.fact 6 0)) (show PySem.W.typeIn K (.ref (He.ga K "InvalidRow")) = some (.type "type") from of_decide_eq_true (c.fact 5 12)) (show PySem.W.subIn K (.ref (He.ga K "InvalidValues")) (.ref (He.ga K "InvalidRow")) = some false from of_decide_eq_true (c.fact 5 6)) (fun z => absurd ((show PySem.W.subIn K (.ref (He.ga K "InvalidValues")) (.ref (He.ga K "InvalidRow")) = some true from by rw [show (He.ga K "InvalidValues") = (He.ga K "InvalidRow") from z]; exact (show PySem.W.subIn K (.ref (He.ga K "InvalidRow")) (.ref (He.ga K "InvalidRow")) = some true from of_decide_eq_true (c.fact 6 3))).symm.trans (show PySem.W.subIn K (.ref (He.ga K "InvalidValues")) (.ref (He.ga K "InvalidRow")) = some false from of_decide_eq_true (c.fact 5 6))) (by simp)),
    kx_InvalidValues_InvalidSizes := kit_oo (show PySem.W.isClsIn K (He.ga K "InvalidSizes") = true from of_decide_eq_true (c.fact 4 6)) (show PySem.W.typeIn K (.ref (He.ga K "InvalidSizes")) = some (.type "type") from of_decide_eq_true (c.fact 3 18)) (show PySem.W.subIn K (.ref (He.ga K "InvalidValues")) (.ref (He.ga K "InvalidSizes")) = some false from of_decide_eq_true (c.fact 5 4)) (fun z => absurd ((show PySem.W.subIn K (.ref (He.ga K "InvalidValues")) (.ref (He.ga K "InvalidSizes")) = some true from by rw [show (He.ga K "InvalidValues") = (He.ga K "InvalidSizes") from z]; exact (show PySem.W.subIn K (.ref (He.ga K "InvalidSizes")) (.ref (He.ga K "InvalidSizes")) = some true from of_decide_eq_true (c.fact 4 7))).symm.trans (show PySem.W.subIn K (.ref (He.ga K "InvalidValues")) (.ref (He.ga K "InvalidSizes")) = some false from of_decide_eq_true (c.fact 5 4))) (by simp)),
    kx_InvalidValues_InvalidValues := kit_oo (show PySem.W.isClsIn K (He.ga K "InvalidValues") = true from of_decide_eq_true (c.fact 5 3)) (show PySem.W.typeIn K (.ref (He.ga K "InvalidValues")) = some (.type "type") from of_decide_eq_true (c.fact 4 15)) (show PySem.W.subIn K (.ref (He.ga K "InvalidValues")) (.ref (He.ga K "InvalidValues")) = some true from of_decide_eq_true (c.fact 5 5)) (fun _ => rfl),
    kx_InvalidValues_TooWide := kit_oo (show PySem.W.isClsIn K (He.ga K "TooWide") = true from of_decide_eq_true (c.fact 6 17)) (show PySem.W.typeIn K (.ref (He.ga K "TooWide")) = some (.type "type") from of_decide_eq_true (c.fact 6 9)) (show PySem.W.subIn K (.ref (He.ga K "InvalidValues")) (.ref (He.ga K "TooWide")) = some false from of_decide_eq_true (c.fact 5 7)) (fun z => absurd ((show PySem.W.subIn K (.ref (He.ga K "InvalidValues")) (.ref (He.ga K "TooWide")) = some true from by rw [show (He.ga K "InvalidValues") = (He.ga K "TooWide") from z]; exact (show PySem.W.subIn K (.ref (He.ga K "TooWide")) (.ref (He.ga K "TooWide")) = some true from of_decide_eq_true (c.fact 7 1))).symm.trans (show PySem.W.subIn K (.ref (He.ga K "InvalidValues")) (.ref (He.ga K "TooWide")) = some false from of_decide_eq_true (c.fact 5 7))) (by simp)),
    kx_InvalidValues_ValueError := kit_obB (by decide +kernel) (show PySem.W.subIn K (.ref (He.ga K "InvalidValues")) (.type "ValueError") = some true from of_decide_eq_true (c.fact 7 14)),
    kx_TooWide_InvalidRow := kit_oo (show PySem.W.isClsIn K (He.ga K "InvalidRow") = true from of_decide_eq_true (c.fact 6 0)) (show PySem.W.typeIn K (.ref (He.ga K "InvalidRow")) = some (.type "type") from of_decide_eq_true (c.fact 5 12)) (show PySem.W.subIn K (.ref (He.ga K "TooWide")) (.ref (He.ga K "InvalidRow")) = some false from of_decide_eq_true (c.fact 7 0)) (fun z => absurd ((show PySem.W.subIn K (.ref (He.ga K "TooWide")) (.ref (He.ga K "InvalidRow")) = some true from by rw [show (He.ga K "TooWide") = (He.ga K "InvalidRow") from z]; exact (show PySem.W.subIn K (.ref (He.ga K "InvalidRow")) (.ref (He.ga K "InvalidRow")) = some true from of_decide_eq_true (c.fact 6 3))).symm.trans (show PySem.W.subIn K (.ref (He.ga K "TooWide")) (.ref (He.ga K "InvalidRow")) = some false from of_decide_eq_true (c.fact 7 0))) (by simp)),
    kx_TooWide_InvalidSizes := kit_oo (show PySem.W.isClsIn K (He.ga K "InvalidSizes") = true from of_decide_eq_true (c.fact 4 6)) (show PySem.W.typeIn K (.ref (He.ga K "InvalidSizes")) = some (.type "type") from of_decide_eq_true (c.fact 3 18)) (show PySem.W.subIn K (.ref (He.ga K "TooWide")) (.ref (He.ga K "InvalidSizes")) = some false from of_decide_eq_true (c.fact 6 18)) (fun z => absurd ((show PySem.W.subIn K (.ref (He.ga K "TooWide")) (.ref (He.ga K "InvalidSizes")) = some true from by rw [show (He.ga K "TooWide") = (He.ga K "InvalidSizes") from z]; exact (show PySem.W.subIn K (.ref (He.ga K "InvalidSizes")) (.ref (He.ga K "InvalidSizes")) = some true from of_decide_eq_true (c.fact 4 7))).symm.trans (show PySem.W.subIn K (.ref (He.ga K "TooWide")) (.ref (He.ga K "InvalidSizes")) = some false from of_decide_eq_true (c.fact 6 18))) (by simp)),
    kx_TooWide_InvalidValues := kit_oo (show PySem.W.isClsIn K (He.ga K "InvalidValues") = true from of_decide_eq_true (c.fact 5 3)) (show PySem.W.typeIn K (.ref (He.ga K "InvalidValues")) = some (.type "type") from of_decide_eq_true (c.fact 4 15)) (show PySem.W.subIn K (.ref (He.ga K "TooWide")) (.ref (He.ga K "InvalidValues")) = some false from of_decide_eq_true (c.fact 6 19)) (fun z => absurd ((show PySem.W.subIn K (.ref (He.ga K "TooWide")) (.ref (He.ga K "InvalidValues")) = some true from by rw [show (He.ga K "TooWide") = (He.ga K "InvalidValues") from z]; exact (show PySem.W.subIn K (.ref (He.ga K "InvalidValues")) (.ref (He.ga K "InvalidValues")) = some true from of_decide_eq_true (c.fact 5 5))).symm.trans (show PySem.W.subIn K (.ref (He.ga K "TooWide")) (.ref (He.ga K "InvalidValues")) = some false from of_decide_eq_true (c.fact 6 19))) (by simp)),
    kx_TooWide_TooWide := kit_oo (show PySem.W.isClsIn K (He.ga K "TooWide") = true from of_decide_eq_true (c.fact 6 17)) (show PySem.W.typeIn K (.ref (He.ga K "TooWide")) = some (.type "type") from of_decide_eq_true (c.fact 6 9)) (show PySem.W.subIn K (.ref (He.ga K "TooWide")) (.ref (He.ga K "TooWide")) = some true from of_decide_eq_true (c.fact 7 1)) (fun _ => rfl),
    kx_TooWide_ValueError := kit_obB (by decide +kernel) (show PySem.W.subIn K (.ref (He.ga K "TooWide")) (.type "ValueError") = some true from of_decide_eq_true (c.fact 7 15)),
    exb_NetworkError := fun qa h1 => match qa, h1 with
      | 0, _ => exm_by (show PySem.W.subIn K (.ref (He.ga K "InvalidSizes")) (.type "BaseException") = some true from of_decide_eq_true (c.fact 3 17)) (show PySem.W.subIn K (.ref (He.ga K "NetworkError")) (.type "BaseException") = some true from of_decide_eq_true (c.fact 7 17)) (show PySem.W.isClsIn K (He.ga K "NetworkError") = true from of_decide_eq_true (c.fact 7 10)) (show PySem.W.typeIn K (.ref (He.ga K "NetworkError")) = some (.type "type") from of_decide_eq_true (c.fact 7 11)) (show PySem.W.subIn K (.ref (He.ga K "InvalidSizes")) (.ref (He.ga K "NetworkError")) = some true from of_decide_eq_true (c.fact 7 18))
      | 1, _ => exm_by (show PySem.W.subIn K (.ref (He.ga K "InvalidValues")) (.type "BaseException") = some true from of_decide_eq_true (c.fact 4 14)) (show PySem.W.subIn K (.ref (He.ga K "NetworkError")) (.type "BaseException") = some true from of_decide_eq_true (c.fact 7 17)) (show PySem.W.isClsIn K (He.ga K "NetworkError") = true from of_decide_eq_true (c.fact 7 10)) (show PySem.W.typeIn K (.ref (He.ga K "NetworkError")) = some (.type "type") from of_decide_eq_true (c.fact 7 11)) (show PySem.W.subIn K (.ref (He.ga K "InvalidValues")) (.ref (He.ga K "NetworkError")) = some true from of_decide_eq_true (c.fact 7 19))
      | 2, _ => exm_by (show PySem.W.subIn K (.ref (He.ga K "InvalidRow")) (.type "BaseException") = some true from of_decide_eq_true (c.fact 5 11)) (show PySem.W.subIn K (.ref (He.ga K "NetworkError")) (.type "BaseException") = some true from of_decide_eq_true (c.fact 7 17)) (show PySem.W.isClsIn K (He.ga K "NetworkError") = true from of_decide_eq_true (c.fact 7 10)) (show PySem.W.typeIn K (.ref (He.ga K "NetworkError")) = some (.type "type") from of_decide_eq_true (c.fact 7 11)) (show PySem.W.subIn K (.ref (He.ga K "InvalidRow")) (.ref (He.ga K "NetworkError")) = some true from of_decide_eq_true (c.fact 8 0))
      | 3, _ => exm_by (show PySem.W.subIn K (.ref (He.ga K "TooWide")) (.type "BaseException") = some true from of_decide_eq_true (c.fact 6 8)) (show PySem.W.subIn K (.ref (He.ga K "NetworkError")) (.type "BaseException") = some true from of_decide_eq_true (c.fact 7 17)) (show PySem.W.isClsIn K (He.ga K "NetworkError") = true from of_decide_eq_true (c.fact 7 10)) (show PySem.W.typeIn K (.ref (He.ga K "NetworkError")) = some (.type "type") from of_decide_eq_true (c.fact 7 11)) (show PySem.W.subIn K (.ref (He.ga K "TooWide")) (.ref (He.ga K "NetworkError")) = some true from of_decide_eq_true (c.fact 8 1))
      | n + 4, h => absurd h (by show ¬ n + 4 < 4; omega),
    exm := fun qa qb h1 h2 => match qa, qb, h1, h2 with
      | 0, 0, _, _ => exm_by (show PySem.W.subIn K (.ref (He.ga K "InvalidSizes")) (.type "BaseException") = some true from of_decide_eq_true (c.fact 3 17)) (show PySem.W.subIn K (.ref (He.ga K "InvalidSizes")) (.type "BaseException") = some true from of_decide_eq_true (c.fact 3 17)) (show PySem.W.isClsIn K (He.ga K "InvalidSizes") = true from of_decide_eq_true (c.fact 4 6)) (show PySem.W.typeIn K (.ref (He.ga K "InvalidSizes")) = some (.type "type") from of_decide_eq_true (c.fact 3 18)) (show PySem.W.subIn K (.ref (He.ga K "InvalidSizes")) (.ref (He.ga K "InvalidSizes")) = some true from of_decide_eq_true (c.fact 4 7))
      | 0, 1, _, _ => exm_by (show PySem.W.subIn K (.ref (He.ga K "InvalidSizes")) (.type "BaseException") = some true from of_decide_eq_true (c.fact 3 17)) (show PySem.W.subIn K (.ref (He.ga K "InvalidValues")) (.type "BaseException") = some true from of_decide_eq_true (c.fact 4 14)) (show PySem.W.isClsIn K (He.ga K "InvalidValues") = true from of_decide_eq_true (c.fact 5 3)) (show PySem.W.typeIn K (.ref (He.ga K "InvalidValues")) = some (.type "type") from of_decide_eq_true (c.fact 4 15)) (show PySem.W.subIn K (.ref (He.ga K "InvalidSizes")) (.ref (He.ga K "InvalidValues")) = some false from of_decide_eq_true (c.fact 4 8))
      | 0, 2, _, _ => exm_by (show PySem.W.subIn K (.ref (He.ga K "InvalidSizes")) (.type "BaseException") = some true from of_decide_eq_true (c.fact 3 17)) (show PySem.W.subIn K (.ref (He.ga K "InvalidRow")) (.type "BaseException") = some true from of_decide_eq_true (c.fact 5 11)) (show PySem.W.isClsIn K (He.ga K "InvalidRow") = true from of_decide_eq_true (c.fact 6 0)) (show PySem.W.typeIn K (.ref (He.ga K "InvalidRow")) = some (.type "type") from of_decide_eq_true (c.fact 5 12)) (show PySem.W.subIn K (.ref (He.ga K "InvalidSizes")) (.ref (He.ga K "InvalidRow")) = some false from of_decide_eq_true (c.fact 4 9))
      | 0, 3, _, _ => exm_by (show PySem.W.subIn K (.ref (He.ga K "InvalidSizes")) (.type "BaseException") = some true from of_decide_eq_true (c.fact 3 17)) (show PySem.W.subIn K (.ref (He.ga K "TooWide")) (.type "BaseException") = some true from of_decide_eq_true (c.fact 6 8)) (show PySem.W.isClsIn K (He.ga K "TooWide") = true from of_decide_eq_true (c.fact 6 17)) (show PySem.W.typeIn K (.ref (He.ga K "TooWide")) = some (.type "type") from of_decide_eq_true (c.fact 6 9)) (show PySem.W.subIn K (.ref (He.ga K "InvalidSizes")) (.ref (He.ga K "TooWide")) = some false from of_decide_eq_true (c.fact 4 10))
      | 1, 0, _, _ => exm_by (show PySem.W.subIn K (.ref (He.ga K "InvalidValues")) (.type "BaseException") = some true from of_decide_eq_true (c.fact 4 14)) (show PySem.W.subIn K (.ref (He.ga K "InvalidSizes")) (.type "BaseException") = some true from of_decide_eq_true (c.fact 3 17)) (show PySem.W.isClsIn K (He.ga K "InvalidSizes") = true from of_decide_eq_true (c.fact 4 6)) (show PySem.W.typeIn K (.ref (He.ga K "InvalidSizes")) = some (.type "type") from of_decide_eq_true (c.fact 3 18)) (show PySem.W.subIn K (.ref (He.ga K "InvalidValues")) (.ref (He.ga K "InvalidSizes")) = some false from of_decide_eq_true (c.fact 5 4))
      | 1, 1, _, _ => exm_by (show PySem.W.subIn K (.ref (He.ga K "InvalidValues")) (.type "BaseException") = some true from of_decide_eq_true (c.fact 4 14)) (show PySem.W.subIn K (.ref (He.ga K "InvalidValues")) (.type "BaseException") = some true from of_decide_eq_true (c.fact 4 14)) (show PySem.W.isClsIn K (He.ga K "InvalidValues") = true from of_decide_eq_true (c.fact 5 3)) (show PySem.W.typeIn K (.ref (He.ga K "InvalidValues")) = some (.type "type") from of_decide_eq_true (c.fact 4 15)) (show PySem.W.subIn K (.ref (He.ga K "InvalidValues")) (.ref (He.ga K "InvalidValues")) = some true from of_decide_eq_true (c.fact 5 5))
      | 1, 2, _, _ => exm_by (show PySem.W.subIn K (.ref (He.ga K "InvalidValues")) (.type "BaseException") = some true from of_decide_eq_true (c.fact 4 14)) (show PySem.W.subIn K (.ref (He.ga K "InvalidRow")) (.type "BaseException") = some true from of_decide_eq_true (c.fact 5 11)) (show PySem.W.isClsIn K (He.ga K "InvalidRow") = true from of_decide_eq_true (c.fact 6 0)) (show PySem.W.typeIn K (.ref (He.ga K "InvalidRow")) = some (.type "type") from of_decide_eq_true (c.fact 5 12)) (show PySem.W.subIn K (.ref (He.ga K "InvalidValues")) (.ref (He.ga K "InvalidRow")) = some false from of_decide_eq_true (c.fact 5 6))
      | 1, 3, _, _ => exm_by (show PySem.W.subIn K (.ref (He.ga K "InvalidValues")) (.type "BaseException") = some true from of_decide_eq_true (c.fact 4 14)) (show PySem.W.subIn K (.ref (He.ga K "TooWide")) (.type "BaseException") = some true from of_decide_eq_true (c.fact 6 8)) (show PySem.W.isClsIn K (He.ga K "TooWide") = true from of_decide_eq_true (c.fact 6 17)) (show PySem.W.typeIn K (.ref (He.ga K "TooWide")) = some (.type "type") from of_decide_eq_true (c.fact 6 9)) (show PySem.W.subIn K (.ref (He.ga K "InvalidValues")) (.ref (He.ga K "TooWide")) = some false from of_decide_eq_true (c.fact 5 7))
      | 2, 0, _, _ => exm_by (show PySem.W.subIn K (.ref (He.ga K "InvalidRow")) (.type "BaseException") = some true from of_decide_eq_true (c.fact 5 11)) (show PySem.W.subIn K (.ref (He.ga K "InvalidSizes")) (.type "BaseException") = some true from of_decide_eq_true (c.fact 3 17)) (show PySem.W.isClsIn K (He.ga K "InvalidSizes") = true from of_decide_eq_true (c.fact 4 6)) (show PySem.W.typeIn K (.ref (He.ga K "InvalidSizes")) = some (.type "type") from of_decide_eq_true (c.fact 3 18)) (show PySem.W.subIn K (.ref (He.ga K "InvalidRow")) (.ref (He.ga K "InvalidSizes")) = some false from of_decide_eq_true (c.fact 6 1))
      | 2, 1, _, _ => exm_by (show PySem.W.subIn K (.ref (He.ga K "InvalidRow")) (.type "BaseException") = some true from of_decide_eq_true (c.fact 5 11)) (show PySem.W.subIn K (.ref (He.ga K "InvalidValues")) (.type "BaseException") = some true from of_decide_eq_true (c.fact 4 14)) (show PySem.W.isClsIn K (He.ga K "InvalidValues") = true from of_decide_eq_true (c.fact 5 3)) (show PySem.W.typeIn K (.ref (He.ga K "InvalidValues")) = some (.type "type") from of_decide_eq_true (c.fact 4 15)) (show PySem.W.subIn K (.ref (He.ga K "InvalidRow")) (.ref (He.ga K "InvalidValues")) = some false from of_decide_eq_true (c.fact 6 2))
      | 2, 2, _, _ => exm_by (show PySem.W.subIn K (.ref (He.ga K "InvalidRow")) (.type "BaseException") = some true from of_decide_eq_true (c.fact 5 11)) (show PySem.W.subIn K (.ref (He.ga K "InvalidRow")) (.type "BaseException") = some true from of_decide_eq_true (c.fact 5 11)) (show PySem.W.isClsIn K (He.ga K "InvalidRow") = true from of_decide_eq_true (c.fact 6 0)) (show PySem.W.typeIn K (.ref (He.ga K "InvalidRow")) = some (.type "type") from of_decide_eq_true (c.fact 5 12)) (show PySem.W.subIn K (.ref (He.ga K "InvalidRow")) (.ref (He.ga K "InvalidRow")) = some true from of_decide_eq_true (c.fact 6 3))
      | 2, 3, _, _ => exm_by (show PySem.W.subIn K (.ref (He.ga K "InvalidRow")) (.type "BaseException") = some true from of_decide_eq_true (c.fact 5 11)) (show PySem.W.subIn K (.ref (He.ga K "TooWide")) (.type "BaseException") = some true from of_decide_eq_true (c.fact 6 8)) (show PySem.W.isClsIn K (He.ga K "TooWide") = true from of_decide_eq_true (c.fact 6 17)) (show PySem.W.typeIn K (.ref (He.ga K "TooWide")) = some (.type "type") from of_decide_eq_true (c.fact 6 9)) (show PySem.W.subIn K (.ref (He.ga K "InvalidRow")) (.ref (He.ga K "TooWide")) = some false from of_decide_eq_true (c.fact 6 4))
      | 3, 0, _, _ => exm_by (show PySem.W.subIn K (.ref (He.ga K "TooWide")) (.type "BaseException") = some true from of_decide_eq_true (c.fact 6 8)) (show PySem.W.subIn K (.ref (He.ga K "InvalidSizes")) (.type "BaseException") = some true from of_decide_eq_true (c.fact 3 17)) (show PySem.W.isClsIn K (He.ga K "InvalidSizes") = true from of_decide_eq_true (c.fact 4 6)) (show PySem.W.typeIn K (.ref (He.ga K "InvalidSizes")) = some (.type "type") from of_decide_eq_true (c.fact 3 18)) (show PySem.W.subIn K (.ref (He.ga K "TooWide")) (.ref (He.ga K "InvalidSizes")) = some false from of_decide_eq_true (c.fact 6 18))
      | 3, 1, _, _ => exm_by (show PySem.W.subIn K (.ref (He.ga K "TooWide")) (.type "BaseException") = some true from of_decide_eq_true (c.fact 6 8)) (show PySem.W.subIn K (.ref (He.ga K "InvalidValues")) (.type "BaseException") = some true from of_decide_eq_true (c.fact 4 14)) (show PySem.W.isClsIn K (He.ga K "InvalidValues") = true from of_decide_eq_true (c.fact 5 3)) (show PySem.W.typeIn K (.ref (He.ga K "InvalidValues")) = some (.type "type") from of_decide_eq_true (c.fact 4 15)) (show PySem.W.subIn K (.ref (He.ga K "TooWide")) (.ref (He.ga K "InvalidValues")) = some false from of_decide_eq_true (c.fact 6 19))
      | 3, 2, _, _ => exm_by (show PySem.W.subIn K (.ref (He.ga K "TooWide")) (.type "BaseException") = some true from of_decide_eq_true (c.fact 6 8)) (show PySem.W.subIn K (.ref (He.ga K "InvalidRow")) (.type "BaseException") = some true from of_decide_eq_true (c.fact 5 11)) (show PySem.W.isClsIn K (He.ga K "InvalidRow") = true from of_decide_eq_true (c.fact 6 0)) (show PySem.W.typeIn K (.ref (He.ga K "InvalidRow")) = some (.type "type") from of_decide_eq_true (c.fact 5 12)) (show PySem.W.subIn K (.ref (He.ga K "TooWide")) (.ref (He.ga K "InvalidRow")) = some false from of_decide_eq_true (c.fact 7 0))
      | 3, 3, _, _ => exm_by (show PySem.W.subIn K (.ref (He.ga K "TooWide")) (.type "BaseException") = some true from of_decide_eq_true (c.fact 6 8)) (show PySem.W.subIn K (.ref (He.ga K "TooWide")) (.type "BaseException") = some true from of_decide_eq_true (c.fact 6 8)) (show PySem.W.isClsIn K (He.ga K "TooWide") = true from of_decide_eq_true (c.fact 6 17)) (show PySem.W.typeIn K (.ref (He.ga K "TooWide")) = some (.type "type") from of_decide_eq_true (c.fact 6 9)) (show PySem.W.subIn K (.ref (He.ga K "TooWide")) (.ref (He.ga K "TooWide")) = some true from of_decide_eq_true (c.fact 7 1))
      | n + 4, _, h, _ => absurd h (by show ¬ n + 4 < 4; omega)
      | 0, n + 4, _, h => absurd h (by show ¬ n + 4 < 4; omega)
      | 1, n + 4, _, h => absurd h (by show ¬ n + 4 < 4; omega)
      | 2, n + 4, _, h => absurd h (by show ¬ n + 4 < 4; omega)
      | 3, n + 4, _, h => absurd h (by show ¬ n + 4 < 4; omega) }⟩
end K03
end

section
set_option Elab.async false
set_option linter.all false
set_option maxRecDepth 100000
set_option maxHeartbeats 4000000
namespace K03
open PySem L2 PyProof.Rows PySem.Spec DL
def isOb : D → Bool
  | .obj _ _ => true
  | .set _ => true
  | _ => false
/-! ### is_integer .. check_sizes -/
def intB : D → Int → Bool
  | .int i, m => decide (m ≤ i)
  | _, _ => false
theorem is_integer {d : D} (m : Int) (h : isOb d = false) : F_is_integer [d, .int m] = .ok (.val (.bl (intB d m))) := by
  cases d with
  | obj c fs => cases h
  | set xs => cases h
  | _ => rfl
def sizeB (d : D) : Bool := intB d 1 && (match d with | .int i => decide (i ≤ 4) | _ => false)
theorem is_size {d : D} (h : isOb d = false) : F_is_size [d] = .ok (.val (.bl (sizeB d))) := by
  have e := is_integer 1 h
  unfold F_is_size
  cases hb : intB d 1 with
  | false =>
    simp [q_bnd, q_ok, q_er, q_bad, q_some, q_none, q_eC, q_eV, q_eZ, q_eOp, q_eUn, q_aNil, q_aCons, q_eTup, q_eLst, q_eApp, q_toB, q_bOf, q_tNo, q_tAn, q_tOt, q_eIf, q_eAn, q_eOt, q_eNo, q_eFn, q_eFnO, q_frv, q_fro, q_fre, q_foo, q_foo0, q_foe, q_sSet, q_sSetO, q_lok, q_ler, q_sNx, q_sSeq, q_sIf, q_sRet, q_sRetF, q_sDo, q_sRetO, q_sRaise, q_sFor, q_sUnp, q_sAug, q_sSetI, q_isOwn, q_sMix, q_mix0, q_mix1, q_setC0, q_setC, q_eOpX, q_eAppX, q_xV, q_xS, q_yNil, q_yCons, q_rv, q_rs, q_rL0, q_rL, q_eSlX, q_eFld, q_eMeth, q_eMk, q_eMt, q_iDi, q_iDv, q_iAll, q_eDc, q_eDc2, q_eOpP, q_eIsi, q_it1, q_it2, q_it3, q_iR1, q_iZp, q_iZpM, q_zp, q_eLc, q_eLc2, q_oNone, q_oSome, q_iOf, q_eSl, q_sTry, q_eXf, q_fn, q_lt, q_le, q_gt, q_ge, q_sub, q_add, q_iadd, q_fdiv, q_mod, q_pow, q_imul, q_mul, q_neg, q_is, q_nis, q_eq, q_ne, q_tgN, q_tgT, q_tg0, q_tgC, q_obd, q_eCh, q_eLenSc, q_iEnA, q_enT, q_enL, q_aKw, q_tgUt, q_tgUl, entry, List.map, List.replicate, m_is_size, e, hb, sizeB]
  | true =>
    cases d with
    | int i => simp [q_bnd, q_ok, q_er, q_bad, q_some, q_none, q_eC, q_eV, q_eZ, q_eOp, q_eUn, q_aNil, q_aCons, q_eTup, q_eLst, q_eApp, q_toB, q_bOf, q_tNo, q_tAn, q_tOt, q_eIf, q_eAn, q_eOt, q_eNo, q_eFn, q_eFnO, q_frv, q_fro, q_fre, q_foo, q_foo0, q_foe, q_sSet, q_sSetO, q_lok, q_ler, q_sNx, q_sSeq, q_sIf, q_sRet, q_sRetF, q_sDo, q_sRetO, q_sRaise, q_sFor, q_sUnp, q_sAug, q_sSetI, q_isOwn, q_sMix, q_mix0, q_mix1, q_setC0, q_setC, q_eOpX, q_eAppX, q_xV, q_xS, q_yNil, q_yCons, q_rv, q_rs, q_rL0, q_rL, q_eSlX, q_eFld, q_eMeth, q_eMk, q_eMt, q_iDi, q_iDv, q_iAll, q_eDc, q_eDc2, q_eOpP, q_eIsi, q_it1, q_it2, q_it3, q_iR1, q_iZp, q_iZpM, q_zp, q_eLc, q_eLc2, q_oNone, q_oSome, q_iOf, q_eSl, q_sTry, q_eXf, q_fn, q_lt, q_le, q_gt, q_ge, q_sub, q_add, q_iadd, q_fdiv, q_mod, q_pow, q_imul, q_mul, q_neg, q_is, q_nis, q_eq, q_ne, q_tgN, q_tgT, q_tg0, q_tgC, q_obd, q_eCh, q_eLenSc, q_iEnA, q_enT, q_enL, q_aKw, q_tgUt, q_tgUl, entry, List.map, List.replicate, m_is_size, e, hb, sizeB]
    | _ => cases hb
def sizesB : D → Bool
  | .tup xs => decide (xs.length ≤ 30) && xs.all sizeB
  | _ => false
def plain : D → Bool
  | .obj _ _ => false
  | .set _ => false
  | .tup xs => xs.all fun x => !isOb x
  | _ => true
theorem bools_map (f : D → Bool) : ∀ xs : List D, bools (xs.map fun x => .bl (f x)) = some (xs.map f)
  | [] => rfl
  | x :: xs => by simp [bools, bools_map f xs]
theorem is_sizes {d : D} (h : plain d = true) : F_is_sizes [d] = .ok (.val (.bl (sizesB d))) := by
  cases d with
  | obj c fs => cases h
  | set xs => cases h
  | tup xs =>
    have hx : ∀ x ∈ xs, isOb x = false := fun x hx => by simpa using List.all_eq_true.mp h x hx
    have hi : isiB [50] [.b "tuple"] (.tup xs) = some true := rfl
    unfold F_is_sizes
    by_cases hl : xs.length ≤ 30
    · obtain ⟨e, h1, h2⟩ := lc_map (t := tgN 1) (vs := [1]) (f := eFn F_is_size [] (aCons (eV 1) aNil)) (fun e => e = [some (.val (.tup xs)), none]) (fun x => .bl (sizeB x)) xs [some (.val (.tup xs)), none] [] rfl (by simp; omega) (by
        rintro d env hd rfl
        exact ⟨_, [some (.val (.tup xs)), some (.val d)], rfl, by simp [q_bnd, q_ok, q_er, q_bad, q_some, q_none, q_eC, q_eV, q_eZ, q_eOp, q_eUn, q_aNil, q_aCons, q_eTup, q_eLst, q_eApp, q_toB, q_bOf, q_tNo, q_tAn, q_tOt, q_eIf, q_eAn, q_eOt, q_eNo, q_eFn, q_eFnO, q_frv, q_fro, q_fre, q_foo, q_foo0, q_foe, q_sSet, q_sSetO, q_lok, q_ler, q_sNx, q_sSeq, q_sIf, q_sRet, q_sRetF, q_sDo, q_sRetO, q_sRaise, q_sFor, q_sUnp, q_sAug, q_sSetI, q_isOwn, q_sMix, q_mix0, q_mix1, q_setC0, q_setC, q_eOpX, q_eAppX, q_xV, q_xS, q_yNil, q_yCons, q_rv, q_rs, q_rL0, q_rL, q_eSlX, q_eFld, q_eMeth, q_eMk, q_eMt, q_iDi, q_iDv, q_iAll, q_eDc, q_eDc2, q_eOpP, q_eIsi, q_it1, q_it2, q_it3, q_iR1, q_iZp, q_iZpM, q_zp, q_eLc, q_eLc2, q_oNone, q_oSome, q_iOf, q_eSl, q_sTry, q_eXf, q_fn, q_lt, q_le, q_gt, q_ge, q_sub, q_add, q_iadd, q_fdiv, q_mod, q_pow, q_imul, q_mul, q_neg, q_is, q_nis, q_eq, q_ne, q_tgN, q_tgT, q_tg0, q_tgC, q_obd, q_eCh, q_eLenSc, q_iEnA, q_enT, q_enL, q_aKw, q_tgUt, q_tgUl, entry, List.map, List.replicate, is_size (hx d hd)], rfl⟩)
      subst h2
      have hl' : ((xs.length : Int) ≤ 30) = True := eq_true (by omega)
      simp [q_bnd, q_ok, q_er, q_bad, q_some, q_none, q_eC, q_eV, q_eZ, q_eOp, q_eUn, q_aNil, q_aCons, q_eTup, q_eLst, q_eApp, q_toB, q_bOf, q_tNo, q_tAn, q_tOt, q_eIf, q_eAn, q_eOt, q_eNo, q_eFn, q_eFnO, q_frv, q_fro, q_fre, q_foo, q_foo0, q_foe, q_sSet, q_sSetO, q_lok, q_ler, q_sNx, q_sSeq, q_sIf, q_sRet, q_sRetF, q_sDo, q_sRetO, q_sRaise, q_sFor, q_sUnp, q_sAug, q_sSetI, q_isOwn, q_sMix, q_mix0, q_mix1, q_setC0, q_setC, q_eOpX, q_eAppX, q_xV, q_xS, q_yNil, q_yCons, q_rv, q_rs, q_rL0, q_rL, q_eSlX, q_eFld, q_eMeth, q_eMk, q_eMt, q_iDi, q_iDv, q_iAll, q_eDc, q_eDc2, q_eOpP, q_eIsi, q_it1, q_it2, q_it3, q_iR1, q_iZp, q_iZpM, q_zp, q_eLc, q_eLc2, q_oNone, q_oSome, q_iOf, q_eSl, q_sTry, q_eXf, q_fn, q_lt, q_le, q_gt, q_ge, q_sub, q_add, q_iadd, q_fdiv, q_mod, q_pow, q_imul, q_mul, q_neg, q_is, q_nis, q_eq, q_ne, q_tgN, q_tgT, q_tg0, q_tgC, q_obd, q_eCh, q_eLenSc, q_iEnA, q_enT, q_enL, q_aKw, q_tgUt, q_tgUl, entry, List.map, List.replicate, m_is_sizes, hi, lenA, lenD, hl', wipeE, h1, allD, bools_map, sizesB, hl]
      first | done | (congr 1; simp [List.all_eq_true])
    · have hl' : ((xs.length : Int) ≤ 30) = False := eq_false (by omega)
      simp [q_bnd, q_ok, q_er, q_bad, q_some, q_none, q_eC, q_eV, q_eZ, q_eOp, q_eUn, q_aNil, q_aCons, q_eTup, q_eLst, q_eApp, q_toB, q_bOf, q_tNo, q_tAn, q_tOt, q_eIf, q_eAn, q_eOt, q_eNo, q_eFn, q_eFnO, q_frv, q_fro, q_fre, q_foo, q_foo0, q_foe, q_sSet, q_sSetO, q_lok, q_ler, q_sNx, q_sSeq, q_sIf, q_sRet, q_sRetF, q_sDo, q_sRetO, q_sRaise, q_sFor, q_sUnp, q_sAug, q_sSetI, q_isOwn, q_sMix, q_mix0, q_mix1, q_setC0, q_setC, q_eOpX, q_eAppX, q_xV, q_xS, q_yNil, q_yCons, q_rv, q_rs, q_rL0, q_rL, q_eSlX, q_eFld, q_eMeth, q_eMk, q_eMt, q_iDi, q_iDv, q_iAll, q_eDc, q_eDc2, q_eOpP, q_eIsi, q_it1, q_it2, q_it3, q_iR1, q_iZp, q_iZpM, q_zp, q_eLc, q_eLc2, q_oNone, q_oSome, q_iOf, q_eSl, q_sTry, q_eXf, q_fn, q_lt, q_le, q_gt, q_ge, q_sub, q_add, q_iadd, q_fdiv, q_mod, q_pow, q_imul, q_mul, q_neg, q_is, q_nis, q_eq, q_ne, q_tgN, q_tgT, q_tg0, q_tgC, q_obd, q_eCh, q_eLenSc, q_iEnA, q_enT, q_enL, q_aKw, q_tgUt, q_tgUl, entry, List.map, List.replicate, m_is_sizes, hi, lenA, lenD, hl', sizesB, hl]
  | _ => rfl
theorem check_sizes {d : D} (h : plain d = true) : F_check_sizes [d] = if sizesB d = true then .ok (.val .non) else .er c_InvalidSizes [("value", d)] := by
  have e := is_sizes h
  unfold F_check_sizes
  cases hb : sizesB d <;> simp [q_bnd, q_ok, q_er, q_bad, q_some, q_none, q_eC, q_eV, q_eZ, q_eOp, q_eUn, q_aNil, q_aCons, q_eTup, q_eLst, q_eApp, q_toB, q_bOf, q_tNo, q_tAn, q_tOt, q_eIf, q_eAn, q_eOt, q_eNo, q_eFn, q_eFnO, q_frv, q_fro, q_fre, q_foo, q_foo0, q_foe, q_sSet, q_sSetO, q_lok, q_ler, q_sNx, q_sSeq, q_sIf, q_sRet, q_sRetF, q_sDo, q_sRetO, q_sRaise, q_sFor, q_sUnp, q_sAug, q_sSetI, q_isOwn, q_sMix, q_mix0, q_mix1, q_setC0, q_setC, q_eOpX, q_eAppX, q_xV, q_xS, q_yNil, q_yCons, q_rv, q_rs, q_rL0, q_rL, q_eSlX, q_eFld, q_eMeth, q_eMk, q_eMt, q_iDi, q_iDv, q_iAll, q_eDc, q_eDc2, q_eOpP, q_eIsi, q_it1, q_it2, q_it3, q_iR1, q_iZp, q_iZpM, q_zp, q_eLc, q_eLc2, q_oNone, q_oSome, q_iOf, q_eSl, q_sTry, q_eXf, q_fn, q_lt, q_le, q_gt, q_ge, q_sub, q_add, q_iadd, q_fdiv, q_mod, q_pow, q_imul, q_mul, q_neg, q_is, q_nis, q_eq, q_ne, q_tgN, q_tgT, q_tg0, q_tgC, q_obd, q_eCh, q_eLenSc, q_iEnA, q_enT, q_enL, q_aKw, q_tgUt, q_tgUl, entry, List.map, List.replicate, m_check_sizes, e, hb]
/-! ### product -/
abbrev tI (S : List Int) : D := .tup (S.map .int)
def Good (S : List Int) : Prop := ∀ s ∈ S, 1 ≤ s ∧ s ≤ 4
def pr : List Int → Int
  | [] => 1
  | s :: S => s * pr S
theorem pr_fold : ∀ (S : List Int) (a : Int), S.foldl (· * ·) a = a * pr S
  | [], a => by simp [pr]
  | s :: S, a => by rw [List.foldl_cons, pr_fold S, pr, Int.mul_assoc]
theorem pr_pos : ∀ {S : List Int}, Good S → 1 ≤ pr S
  | [], _ => by simp [pr]
  | s :: S, h => by
    have h1 := (h s List.mem_cons_self).1
    have h2 := pr_pos (S := S) fun x hx => h x (List.mem_cons_of_mem _ hx)
    have : 1 * 1 ≤ s * pr S := Int.mul_le_mul h1 h2 (by omega) (by omega)
    simpa [pr] using this
theorem plain_tI (S : List Int) : plain (tI S) = true := by
  simp [plain, isOb]
theorem sizesB_tI {S : List Int} (h : Good S) (hl : S.length ≤ 30) : sizesB (tI S) = true := by
  simp only [sizesB, List.length_map, Bool.and_eq_true, decide_eq_true_eq, List.all_eq_true, List.mem_map]
  refine ⟨hl, ?_⟩
  rintro x ⟨s, hs, rfl⟩
  have := h s hs
  simp [sizeB, intB]
  omega
theorem product {S : List Int} (h : Good S) : F_product [tI S] = .ok (.val (.int (pr S))) := by
  obtain ⟨e, h1, c, rfl⟩ := loop_ints (t := tgN 2) (b := sAug 1 imulD (eV 2)) (fun x env => ∃ c, env = [some (.val (tI S)), some (.val (.int x)), c]) (fun x i => x * i) S 1 [some (.val (tI S)), some (.val (.int 1)), none] ⟨none, rfl⟩ (by
    rintro x i env hi ⟨c, rfl⟩
    have := h i hi
    have hc : x.natAbs < 18446744073709551616 ∨ i.natAbs < 18446744073709551616 := .inr (by omega)
    exact ⟨_, [some (.val (tI S)), some (.val (.int (x * i))), some (.val (.int i))], rfl, by simp [q_bnd, q_ok, q_er, q_bad, q_some, q_none, q_eC, q_eV, q_eZ, q_eOp, q_eUn, q_aNil, q_aCons, q_eTup, q_eLst, q_eApp, q_toB, q_bOf, q_tNo, q_tAn, q_tOt, q_eIf, q_eAn, q_eOt, q_eNo, q_eFn, q_eFnO, q_frv, q_fro, q_fre, q_foo, q_foo0, q_foe, q_sSet, q_sSetO, q_lok, q_ler, q_sNx, q_sSeq, q_sIf, q_sRet, q_sRetF, q_sDo, q_sRetO, q_sRaise, q_sFor, q_sUnp, q_sAug, q_sSetI, q_isOwn, q_sMix, q_mix0, q_mix1, q_setC0, q_setC, q_eOpX, q_eAppX, q_xV, q_xS, q_yNil, q_yCons, q_rv, q_rs, q_rL0, q_rL, q_eSlX, q_eFld, q_eMeth, q_eMk, q_eMt, q_iDi, q_iDv, q_iAll, q_eDc, q_eDc2, q_eOpP, q_eIsi, q_it1, q_it2, q_it3, q_iR1, q_iZp, q_iZpM, q_zp, q_eLc, q_eLc2, q_oNone, q_oSome, q_iOf, q_eSl, q_sTry, q_eXf, q_fn, q_lt, q_le, q_gt, q_ge, q_sub, q_add, q_iadd, q_fdiv, q_mod, q_pow, q_imul, q_mul, q_neg, q_is, q_nis, q_eq, q_ne, q_tgN, q_tgT, q_tg0, q_tgC, q_obd, q_eCh, q_eLenSc, q_iEnA, q_enT, q_enL, q_aKw, q_tgUt, q_tgUl, entry, List.map, List.replicate, hc], _, rfl⟩)
  unfold F_product
  rw [pr_fold, Int.one_mul] at h1
  simp [q_bnd, q_ok, q_er, q_bad, q_some, q_none, q_eC, q_eV, q_eZ, q_eOp, q_eUn, q_aNil, q_aCons, q_eTup, q_eLst, q_eApp, q_toB, q_bOf, q_tNo, q_tAn, q_tOt, q_eIf, q_eAn, q_eOt, q_eNo, q_eFn, q_eFnO, q_frv, q_fro, q_fre, q_foo, q_foo0, q_foe, q_sSet, q_sSetO, q_lok, q_ler, q_sNx, q_sSeq, q_sIf, q_sRet, q_sRetF, q_sDo, q_sRetO, q_sRaise, q_sFor, q_sUnp, q_sAug, q_sSetI, q_isOwn, q_sMix, q_mix0, q_mix1, q_setC0, q_setC, q_eOpX, q_eAppX, q_xV, q_xS, q_yNil, q_yCons, q_rv, q_rs, q_rL0, q_rL, q_eSlX, q_eFld, q_eMeth, q_eMk, q_eMt, q_iDi, q_iDv, q_iAll, q_eDc, q_eDc2, q_eOpP, q_eIsi, q_it1, q_it2, q_it3, q_iR1, q_iZp, q_iZpM, q_zp, q_eLc, q_eLc2, q_oNone, q_oSome, q_iOf, q_eSl, q_sTry, q_eXf, q_fn, q_lt, q_le, q_gt, q_ge, q_sub, q_add, q_iadd, q_fdiv, q_mod, q_pow, q_imul, q_mul, q_neg, q_is, q_nis, q_eq, q_ne, q_tgN, q_tgT, q_tg0, q_tgC, q_obd, q_eCh, q_eLenSc, q_iEnA, q_enT, q_enL, q_aKw, q_tgUt, q_tgUl, entry, List.map, List.replicate, m_product, h1]
/-! ### values -/
def itemB (x : D) (s : Int) : Bool := intB x 0 && (match x with | .int i => decide (i < s) | _ => false)
def pairB : D → Bool
  | .tup [x, .int s] => itemB x s
  | _ => false
def valuesB (S : List Int) : D → Bool
  | .tup xs => decide (xs.length = S.length) && (zipL xs (S.map .int)).all pairB
  | _ => false
theorem zip_mem : ∀ {xs ys : List D} {p : D}, p ∈ zipL xs ys → ∃ x y, p = .tup [x, y] ∧ x ∈ xs ∧ y ∈ ys
  | [], ys, p, h => by simp [zipL] at h
  | x :: xs, [], p, h => by simp [zipL] at h
  | x :: xs, y :: ys, p, h => by
    rw [zipL] at h
    rcases List.mem_cons.mp h with h | h
    · exact ⟨x, y, h, List.mem_cons_self, List.mem_cons_self⟩
    · obtain ⟨a, b, e, h1, h2⟩ := zip_mem h
      exact ⟨a, b, e, List.mem_cons_of_mem _ h1, List.mem_cons_of_mem _ h2⟩
theorem eqI (i j : Int) : eqB (.int i) (.int j) = some (decide (i = j)) := by
  simp [eqB, toPy, SeqAt.shaped, PyData.canLay0, PyData.depth, PyData.eqv]
  rfl
theorem is_values {S : List Int} {d : D} (h : plain d = true) (hl : S.length ≤ 30) : F_is_values [tI S, d] = .ok (.val (.bl (valuesB S d))) := by
  cases d with
  | obj c fs => cases h
  | set xs => cases h
  | tup xs =>
    have hx : ∀ x ∈ xs, isOb x = false := fun x hx => by simpa using List.all_eq_true.mp h x hx
    have hi : isiB [50] [.b "tuple"] (.tup xs) = some true := rfl
    unfold F_is_values
    by_cases hn : xs.length = S.length
    · obtain ⟨e, h1, h2⟩ := lc_map (t := tgT (tgCons (tgN 2) (tgCons (tgN 3) tgNil))) (vs := [2, 3]) (f := eAn (eFn F_is_integer [.int 0] (aCons (eV 2) aNil)) (eOp ltD (eV 2) (eV 3))) (fun e => e = [some (.val (tI S)), some (.val (.tup xs)), none, none]) (fun p => .bl (pairB p)) (zipL xs (S.map .int)) [some (.val (tI S)), some (.val (.tup xs)), none, none] [] rfl (by rw [zipL_len]; simp; omega) (by
        rintro p env hp rfl
        obtain ⟨x, y, rfl, h1, h2⟩ := zip_mem hp
        obtain ⟨s, _, rfl⟩ := List.mem_map.mp h2
        have e := is_integer 0 (hx x h1)
        refine ⟨_, [some (.val (tI S)), some (.val (.tup xs)), some (.val x), some (.val (.int s))], rfl, ?_, rfl⟩
        cases hb : intB x 0 with
        | false => simp [q_bnd, q_ok, q_er, q_bad, q_some, q_none, q_eC, q_eV, q_eZ, q_eOp, q_eUn, q_aNil, q_aCons, q_eTup, q_eLst, q_eApp, q_toB, q_bOf, q_tNo, q_tAn, q_tOt, q_eIf, q_eAn, q_eOt, q_eNo, q_eFn, q_eFnO, q_frv, q_fro, q_fre, q_foo, q_foo0, q_foe, q_sSet, q_sSetO, q_lok, q_ler, q_sNx, q_sSeq, q_sIf, q_sRet, q_sRetF, q_sDo, q_sRetO, q_sRaise, q_sFor, q_sUnp, q_sAug, q_sSetI, q_isOwn, q_sMix, q_mix0, q_mix1, q_setC0, q_setC, q_eOpX, q_eAppX, q_xV, q_xS, q_yNil, q_yCons, q_rv, q_rs, q_rL0, q_rL, q_eSlX, q_eFld, q_eMeth, q_eMk, q_eMt, q_iDi, q_iDv, q_iAll, q_eDc, q_eDc2, q_eOpP, q_eIsi, q_it1, q_it2, q_it3, q_iR1, q_iZp, q_iZpM, q_zp, q_eLc, q_eLc2, q_oNone, q_oSome, q_iOf, q_eSl, q_sTry, q_eXf, q_fn, q_lt, q_le, q_gt, q_ge, q_sub, q_add, q_iadd, q_fdiv, q_mod, q_pow, q_imul, q_mul, q_neg, q_is, q_nis, q_eq, q_ne, q_tgN, q_tgT, q_tg0, q_tgC, q_obd, q_eCh, q_eLenSc, q_iEnA, q_enT, q_enL, q_aKw, q_tgUt, q_tgUl, entry, List.map, List.replicate, e, hb, pairB, itemB]
        | true =>
          cases x with
          | int i => simp [q_bnd, q_ok, q_er, q_bad, q_some, q_none, q_eC, q_eV, q_eZ, q_eOp, q_eUn, q_aNil, q_aCons, q_eTup, q_eLst, q_eApp, q_toB, q_bOf, q_tNo, q_tAn, q_tOt, q_eIf, q_eAn, q_eOt, q_eNo, q_eFn, q_eFnO, q_frv, q_fro, q_fre, q_foo, q_foo0, q_foe, q_sSet, q_sSetO, q_lok, q_ler, q_sNx, q_sSeq, q_sIf, q_sRet, q_sRetF, q_sDo, q_sRetO, q_sRaise, q_sFor, q_sUnp, q_sAug, q_sSetI, q_isOwn, q_sMix, q_mix0, q_mix1, q_setC0, q_setC, q_eOpX, q_eAppX, q_xV, q_xS, q_yNil, q_yCons, q_rv, q_rs, q_rL0, q_rL, q_eSlX, q_eFld, q_eMeth, q_eMk, q_eMt, q_iDi, q_iDv, q_iAll, q_eDc, q_eDc2, q_eOpP, q_eIsi, q_it1, q_it2, q_it3, q_iR1, q_iZp, q_iZpM, q_zp, q_eLc, q_eLc2, q_oNone, q_oSome, q_iOf, q_eSl, q_sTry, q_eXf, q_fn, q_lt, q_le, q_gt, q_ge, q_sub, q_add, q_iadd, q_fdiv, q_mod, q_pow, q_imul, q_mul, q_neg, q_is, q_nis, q_eq, q_ne, q_tgN, q_tgT, q_tg0, q_tgC, q_obd, q_eCh, q_eLenSc, q_iEnA, q_enT, q_enL, q_aKw, q_tgUt, q_tgUl, entry, List.map, List.replicate, e, hb, pairB, itemB]
          | _ => cases hb)
      subst h2
      simp [q_bnd, q_ok, q_er, q_bad, q_some, q_none, q_eC, q_eV, q_eZ, q_eOp, q_eUn, q_aNil, q_aCons, q_eTup, q_eLst, q_eApp, q_toB, q_bOf, q_tNo, q_tAn, q_tOt, q_eIf, q_eAn, q_eOt, q_eNo, q_eFn, q_eFnO, q_frv, q_fro, q_fre, q_foo, q_foo0, q_foe, q_sSet, q_sSetO, q_lok, q_ler, q_sNx, q_sSeq, q_sIf, q_sRet, q_sRetF, q_sDo, q_sRetO, q_sRaise, q_sFor, q_sUnp, q_sAug, q_sSetI, q_isOwn, q_sMix, q_mix0, q_mix1, q_setC0, q_setC, q_eOpX, q_eAppX, q_xV, q_xS, q_yNil, q_yCons, q_rv, q_rs, q_rL0, q_rL, q_eSlX, q_eFld, q_eMeth, q_eMk, q_eMt, q_iDi, q_iDv, q_iAll, q_eDc, q_eDc2, q_eOpP, q_eIsi, q_it1, q_it2, q_it3, q_iR1, q_iZp, q_iZpM, q_zp, q_eLc, q_eLc2, q_oNone, q_oSome, q_iOf, q_eSl, q_sTry, q_eXf, q_fn, q_lt, q_le, q_gt, q_ge, q_sub, q_add, q_iadd, q_fdiv, q_mod, q_pow, q_imul, q_mul, q_neg, q_is, q_nis, q_eq, q_ne, q_tgN, q_tgT, q_tg0, q_tgC, q_obd, q_eCh, q_eLenSc, q_iEnA, q_enT, q_enL, q_aKw, q_tgUt, q_tgUl, entry, List.map, List.replicate, m_is_values, hi, lenA, lenD, eqI, hn, wipeE, h1, allD, bools_map, valuesB]
      first | done | (congr 1; simp [List.all_eq_true])
    · have hn' : ((xs.length : Int) = S.length) = False := eq_false (by omega)
      simp [q_bnd, q_ok, q_er, q_bad, q_some, q_none, q_eC, q_eV, q_eZ, q_eOp, q_eUn, q_aNil, q_aCons, q_eTup, q_eLst, q_eApp, q_toB, q_bOf, q_tNo, q_tAn, q_tOt, q_eIf, q_eAn, q_eOt, q_eNo, q_eFn, q_eFnO, q_frv, q_fro, q_fre, q_foo, q_foo0, q_foe, q_sSet, q_sSetO, q_lok, q_ler, q_sNx, q_sSeq, q_sIf, q_sRet, q_sRetF, q_sDo, q_sRetO, q_sRaise, q_sFor, q_sUnp, q_sAug, q_sSetI, q_isOwn, q_sMix, q_mix0, q_mix1, q_setC0, q_setC, q_eOpX, q_eAppX, q_xV, q_xS, q_yNil, q_yCons, q_rv, q_rs, q_rL0, q_rL, q_eSlX, q_eFld, q_eMeth, q_eMk, q_eMt, q_iDi, q_iDv, q_iAll, q_eDc, q_eDc2, q_eOpP, q_eIsi, q_it1, q_it2, q_it3, q_iR1, q_iZp, q_iZpM, q_zp, q_eLc, q_eLc2, q_oNone, q_oSome, q_iOf, q_eSl, q_sTry, q_eXf, q_fn, q_lt, q_le, q_gt, q_ge, q_sub, q_add, q_iadd, q_fdiv, q_mod, q_pow, q_imul, q_mul, q_neg, q_is, q_nis, q_eq, q_ne, q_tgN, q_tgT, q_tg0, q_tgC, q_obd, q_eCh, q_eLenSc, q_iEnA, q_enT, q_enL, q_aKw, q_tgUt, q_tgUl, entry, List.map, List.replicate, m_is_values, hi, lenA, lenD, eqI, hn', hn, valuesB]
  | _ => rfl
theorem check_values {S : List Int} {d : D} (h : plain d = true) (hl : S.length ≤ 30) : F_check_values [tI S, d] = if valuesB S d = true then .ok (.val .non) else .er c_InvalidValues [("value", d)] := by
  have e := is_values h hl
  unfold F_check_values
  cases hb : valuesB S d <;> simp [q_bnd, q_ok, q_er, q_bad, q_some, q_none, q_eC, q_eV, q_eZ, q_eOp, q_eUn, q_aNil, q_aCons, q_eTup, q_eLst, q_eApp, q_toB, q_bOf, q_tNo, q_tAn, q_tOt, q_eIf, q_eAn, q_eOt, q_eNo, q_eFn, q_eFnO, q_frv, q_fro, q_fre, q_foo, q_foo0, q_foe, q_sSet, q_sSetO, q_lok, q_ler, q_sNx, q_sSeq, q_sIf, q_sRet, q_sRetF, q_sDo, q_sRetO, q_sRaise, q_sFor, q_sUnp, q_sAug, q_sSetI, q_isOwn, q_sMix, q_mix0, q_mix1, q_setC0, q_setC, q_eOpX, q_eAppX, q_xV, q_xS, q_yNil, q_yCons, q_rv, q_rs, q_rL0, q_rL, q_eSlX, q_eFld, q_eMeth, q_eMk, q_eMt, q_iDi, q_iDv, q_iAll, q_eDc, q_eDc2, q_eOpP, q_eIsi, q_it1, q_it2, q_it3, q_iR1, q_iZp, q_iZpM, q_zp, q_eLc, q_eLc2, q_oNone, q_oSome, q_iOf, q_eSl, q_sTry, q_eXf, q_fn, q_lt, q_le, q_gt, q_ge, q_sub, q_add, q_iadd, q_fdiv, q_mod, q_pow, q_imul, q_mul, q_neg, q_is, q_nis, q_eq, q_ne, q_tgN, q_tgT, q_tg0, q_tgC, q_obd, q_eCh, q_eLenSc, q_iEnA, q_enT, q_enL, q_aKw, q_tgUt, q_tgUl, entry, List.map, List.replicate, m_check_values, e, hb]
/-! ### all_values -/
abbrev lT (L : List (List Int)) : D := .lst (L.map tI)
def ext (L : List (List Int)) (s : Int) : List (List Int) := L.flatMap fun p => (List.range s.toNat).map fun (i : Nat) => p ++ [(i : Int)]
def allV (S : List Int) : List (List Int) := S.foldl ext [[]]
theorem ext_len (s : Int) : ∀ L : List (List Int), (ext L s).length = L.length * s.toNat
  | [] => by simp [ext]
  | p :: L => by
    have := ext_len s L
    unfold ext at *
    rw [List.flatMap_cons, List.length_append, this]
    simp [Nat.add_mul, Nat.add_comm]
theorem ext_bound {L : List (List Int)} {s : Int} {m : Nat} (h : ∀ p ∈ L, p.length ≤ m) : ∀ p ∈ ext L s, p.length ≤ m + 1 := by
  intro p hp
  unfold ext at hp
  obtain ⟨q, hq, hp⟩ := List.mem_flatMap.mp hp
  obtain ⟨i, _, rfl⟩ := List.mem_map.mp hp
  have := h q hq
  simp
  exact this
theorem check_product (n : Int) : F_check_product [.int n] = if n ≤ 1024 then .ok (.val .non) else .er c_TooWide [("count", .int n)] := by
  unfold F_check_product
  by_cases h : n ≤ 1024
  · simp [q_bnd, q_ok, q_er, q_bad, q_some, q_none, q_eC, q_eV, q_eZ, q_eOp, q_eUn, q_aNil, q_aCons, q_eTup, q_eLst, q_eApp, q_toB, q_bOf, q_tNo, q_tAn, q_tOt, q_eIf, q_eAn, q_eOt, q_eNo, q_eFn, q_eFnO, q_frv, q_fro, q_fre, q_foo, q_foo0, q_foe, q_sSet, q_sSetO, q_lok, q_ler, q_sNx, q_sSeq, q_sIf, q_sRet, q_sRetF, q_sDo, q_sRetO, q_sRaise, q_sFor, q_sUnp, q_sAug, q_sSetI, q_isOwn, q_sMix, q_mix0, q_mix1, q_setC0, q_setC, q_eOpX, q_eAppX, q_xV, q_xS, q_yNil, q_yCons, q_rv, q_rs, q_rL0, q_rL, q_eSlX, q_eFld, q_eMeth, q_eMk, q_eMt, q_iDi, q_iDv, q_iAll, q_eDc, q_eDc2, q_eOpP, q_eIsi, q_it1, q_it2, q_it3, q_iR1, q_iZp, q_iZpM, q_zp, q_eLc, q_eLc2, q_oNone, q_oSome, q_iOf, q_eSl, q_sTry, q_eXf, q_fn, q_lt, q_le, q_gt, q_ge, q_sub, q_add, q_iadd, q_fdiv, q_mod, q_pow, q_imul, q_mul, q_neg, q_is, q_nis, q_eq, q_ne, q_tgN, q_tgT, q_tg0, q_tgC, q_obd, q_eCh, q_eLenSc, q_iEnA, q_enT, q_enL, q_aKw, q_tgUt, q_tgUl, entry, List.map, List.replicate, m_check_product, h]
    rw [if_neg (by omega)]
  · have h' : (1024 < n) := by omega
    simp [q_bnd, q_ok, q_er, q_bad, q_some, q_none, q_eC, q_eV, q_eZ, q_eOp, q_eUn, q_aNil, q_aCons, q_eTup, q_eLst, q_eApp, q_toB, q_bOf, q_tNo, q_tAn, q_tOt, q_eIf, q_eAn, q_eOt, q_eNo, q_eFn, q_eFnO, q_frv, q_fro, q_fre, q_foo, q_foo0, q_foe, q_sSet, q_sSetO, q_lok, q_ler, q_sNx, q_sSeq, q_sIf, q_sRet, q_sRetF, q_sDo, q_sRetO, q_sRaise, q_sFor, q_sUnp, q_sAug, q_sSetI, q_isOwn, q_sMix, q_mix0, q_mix1, q_setC0, q_setC, q_eOpX, q_eAppX, q_xV, q_xS, q_yNil, q_yCons, q_rv, q_rs, q_rL0, q_rL, q_eSlX, q_eFld, q_eMeth, q_eMk, q_eMt, q_iDi, q_iDv, q_iAll, q_eDc, q_eDc2, q_eOpP, q_eIsi, q_it1, q_it2, q_it3, q_iR1, q_iZp, q_iZpM, q_zp, q_eLc, q_eLc2, q_oNone, q_oSome, q_iOf, q_eSl, q_sTry, q_eXf, q_fn, q_lt, q_le, q_gt, q_ge, q_sub, q_add, q_iadd, q_fdiv, q_mod, q_pow, q_imul, q_mul, q_neg, q_is, q_nis, q_eq, q_ne, q_tgN, q_tgT, q_tg0, q_tgC, q_obd, q_eCh, q_eLenSc, q_iEnA, q_enT, q_enL, q_aKw, q_tgUt, q_tgUl, entry, List.map, List.replicate, m_check_product, h, h']
/-! ### the numbers of values -/
theorem fold_ext : ∀ (S : List Int) (L : List (List Int)), S.foldl ext L = L.flatMap fun p => (allV S).map (p ++ ·)
  | [], L => by simp [allV]
  | s :: S, L => by
    unfold allV
    rw [List.foldl_cons, List.foldl_cons, fold_ext S, fold_ext S (ext [[]] s)]
    unfold ext
    simp [List.flatMap_assoc, List.map_flatMap, List.flatMap_map, Function.comp_def]
theorem allV_cons (s : Int) (S : List Int) : allV (s :: S) = (List.range s.toNat).flatMap fun (i : Nat) => (allV S).map ((i : Int) :: ·) := by
  unfold allV
  rw [List.foldl_cons, fold_ext]
  unfold ext
  simp [List.flatMap_map, allV]
  rfl
end K03
end

section
set_option Elab.async false
set_option linter.all false
set_option maxRecDepth 100000
set_option maxHeartbeats 4000000
namespace K03
open PySem L2 PyProof.Rows PySem.Spec DL
/-! ### worths -/
theorem row_lc2 {a b c d : Option Cell} {p : List Int} {n : Nat} (hp : p.length ≤ 1000) (hn : n ≤ 1000000) :
    lcLoop (tgN 5) [5] tYs (eOp addD (eV 4) (eTup (aCons (eV 5) aNil))) (rangeL 0 n) [a, b, c, d, some (.val (tI p)), none] [] = .ok ((rangeL 0 n).map fun i => .tup (p.map .int ++ [i]), [a, b, c, d, some (.val (tI p)), none]) := by
  obtain ⟨e, h1, rfl⟩ := lc_map (t := tgN 5) (vs := [5]) (f := eOp addD (eV 4) (eTup (aCons (eV 5) aNil))) (fun e => e = [a, b, c, d, some (.val (tI p)), none]) (fun i => .tup (p.map .int ++ [i])) (rangeL 0 n) [a, b, c, d, some (.val (tI p)), none] [] rfl (by rw [rangeL_len]; simpa using hn) (by
    rintro i env hi rfl
    refine ⟨_, [a, b, c, d, some (.val (tI p)), some (.val i)], rfl, ?_, rfl⟩
    have hq : (p.map D.int).length + [i].length ≤ 1000000 := by simp; omega
    simp [q_bnd, q_ok, q_er, q_bad, q_some, q_none, q_eC, q_eV, q_eZ, q_eOp, q_eUn, q_aNil, q_aCons, q_eTup, q_eLst, q_eApp, q_toB, q_bOf, q_tNo, q_tAn, q_tOt, q_eIf, q_eAn, q_eOt, q_eNo, q_eFn, q_eFnO, q_frv, q_fro, q_fre, q_foo, q_foo0, q_foe, q_sSet, q_sSetO, q_lok, q_ler, q_sNx, q_sSeq, q_sIf, q_sRet, q_sRetF, q_sDo, q_sRetO, q_sRaise, q_sFor, q_sUnp, q_sAug, q_sSetI, q_isOwn, q_sMix, q_mix0, q_mix1, q_setC0, q_setC, q_eOpX, q_eAppX, q_xV, q_xS, q_yNil, q_yCons, q_rv, q_rs, q_rL0, q_rL, q_eSlX, q_eFld, q_eMeth, q_eMk, q_eMt, q_iDi, q_iDv, q_iAll, q_eDc, q_eDc2, q_eOpP, q_eIsi, q_it1, q_it2, q_it3, q_iR1, q_iZp, q_iZpM, q_zp, q_eLc, q_eLc2, q_oNone, q_oSome, q_iOf, q_eSl, q_sTry, q_eXf, q_fn, q_lt, q_le, q_gt, q_ge, q_sub, q_add, q_iadd, q_fdiv, q_mod, q_pow, q_imul, q_mul, q_neg, q_is, q_nis, q_eq, q_ne, q_tgN, q_tgT, q_tg0, q_tgC, q_obd, q_eCh, q_eLenSc, q_iEnA, q_enT, q_enL, q_aKw, q_tgUt, q_tgUl, entry, List.map, List.replicate, q_addT hq])
  simpa using h1
theorem loop_in {a b : Option Cell} {s : Int} (hs : 0 ≤ s ∧ s ≤ 4) : ∀ (L A : List (List Int)) (c : Option Cell), (∀ p ∈ L, p.length ≤ 1000) → A.length + (ext L s).length ≤ 100000 →
    ∃ c', loopS (tgN 4) (sSet 3 (eOp addD (eV 3) (eLc (iR1 (aCons (eV 2) (aNil))) [5] (tgN 5) (tYs) (eOp addD (eV 4) (eTup (aCons (eV 5) (aNil))))))) (L.map tI) [a, b, some (.val (.int s)), some (.val (lT A)), c, none] = .nx [a, b, some (.val (.int s)), some (.val (lT (A ++ ext L s))), c', none]
  | [], A, c, _, _ => ⟨c, by simp [loopS, ext]⟩
  | p :: L, A, c, hL, hl => by
    have hr := q_r1 (j := s) hs.1 (by omega)
    have hx : ext (p :: L) s = (List.range s.toNat).map (fun (i : Nat) => p ++ [(i : Int)]) ++ ext L s := by simp [ext]
    have hq : (((List.range s.toNat).map (fun (i : Nat) => p ++ [(i : Int)])).map tI) = (rangeL 0 s.toNat).map fun i => D.tup (p.map .int ++ [i]) := by
      rw [rangeL_map]
      simp [Function.comp_def]
    rw [hx, List.length_append] at hl
    simp only [List.length_map, List.length_range] at hl
    obtain ⟨c', ih⟩ := loop_in (a := a) (b := b) hs L (A ++ (List.range s.toNat).map (fun (i : Nat) => p ++ [(i : Int)])) (some (.val (tI p))) (fun q hq => hL q (List.mem_cons_of_mem _ hq)) (by simp; omega)
    refine ⟨c', ?_⟩
    rw [List.map_cons]
    unfold loopS
    have e := row_lc2 (a := a) (b := b) (c := some (.val (.int s))) (d := some (.val (lT A))) (p := p) (n := s.toNat) (hL p List.mem_cons_self) (by omega)
    have hb : (A.map tI).length + ((rangeL 0 s.toNat).map fun i => D.tup (p.map .int ++ [i])).length ≤ 1000000 := by simp [rangeL_len]; omega
    rw [hx, ← List.append_assoc]
    simp only [lT] at ih e
    rw [List.map_append, hq] at ih
    simp [q_bnd, q_ok, q_er, q_bad, q_some, q_none, q_eC, q_eV, q_eZ, q_eOp, q_eUn, q_aNil, q_aCons, q_eTup, q_eLst, q_eApp, q_toB, q_bOf, q_tNo, q_tAn, q_tOt, q_eIf, q_eAn, q_eOt, q_eNo, q_eFn, q_eFnO, q_frv, q_fro, q_fre, q_foo, q_foo0, q_foe, q_sSet, q_sSetO, q_lok, q_ler, q_sNx, q_sSeq, q_sIf, q_sRet, q_sRetF, q_sDo, q_sRetO, q_sRaise, q_sFor, q_sUnp, q_sAug, q_sSetI, q_isOwn, q_sMix, q_mix0, q_mix1, q_setC0, q_setC, q_eOpX, q_eAppX, q_xV, q_xS, q_yNil, q_yCons, q_rv, q_rs, q_rL0, q_rL, q_eSlX, q_eFld, q_eMeth, q_eMk, q_eMt, q_iDi, q_iDv, q_iAll, q_eDc, q_eDc2, q_eOpP, q_eIsi, q_it1, q_it2, q_it3, q_iR1, q_iZp, q_iZpM, q_zp, q_eLc, q_eLc2, q_oNone, q_oSome, q_iOf, q_eSl, q_sTry, q_eXf, q_fn, q_lt, q_le, q_gt, q_ge, q_sub, q_add, q_iadd, q_fdiv, q_mod, q_pow, q_imul, q_mul, q_neg, q_is, q_nis, q_eq, q_ne, q_tgN, q_tgT, q_tg0, q_tgC, q_obd, q_eCh, q_eLenSc, q_iEnA, q_enT, q_enL, q_aKw, q_tgUt, q_tgUl, entry, List.map, List.replicate, lT, tgN, hr, wipeE, e, restE, keepV, q_addL hb]
    simpa using ih
theorem loop_out {a : Option Cell} : ∀ (R : List Int) (L : List (List Int)) (c d e : Option Cell) (m : Nat), Good R → (∀ p ∈ L, p.length ≤ m) → m + R.length ≤ 1000 → L.length * (pr R).toNat ≤ 1024 →
    ∃ c' d' e', loopS (tgN 2) (sSeq (sSet 3 (eLst (aNil)))
    (sSeq (sFor (iAll (eV 1)) (tgN 4) (sSet 3 (eOp addD (eV 3) (eLc (iR1 (aCons (eV 2) (aNil))) [5] (tgN 5) (tYs) (eOp addD (eV 4) (eTup (aCons (eV 5) (aNil))))))))
    (sSet 1 (eV 3)))) (R.map .int) [a, some (.val (lT L)), c, d, e, none] = .nx [a, some (.val (lT (R.foldl ext L))), c', d', e', none]
  | [], L, c, d, e, m, _, _, _, _ => ⟨c, d, e, by simp [loopS]⟩
  | s :: R, L, c, d, e, m, hg, hm, hl, hp => by
    have hR : Good R := fun x hx => hg x (List.mem_cons_of_mem _ hx)
    have hs := hg s List.mem_cons_self
    have h1 := pr_pos hR
    have hlen : (ext L s).length * (pr R).toNat ≤ 1024 := by
      rw [ext_len, Nat.mul_assoc, ← Int.toNat_mul (by omega) (by omega)]
      exact hp
    have hb : (ext L s).length ≤ 1024 := Nat.le_trans (Nat.le_mul_of_pos_right _ (by omega)) hlen
    simp only [List.length_cons] at hl
    obtain ⟨z, e1⟩ := loop_in (a := a) (b := some (.val (lT L))) (s := s) ⟨by omega, hs.2⟩ L [] e (fun p hp => by have := hm p hp; omega) (by simp; omega)
    obtain ⟨c', d', e', ih⟩ := loop_out (a := a) R (ext L s) (some (.val (.int s))) (some (.val (lT (ext L s)))) z (m + 1) hR (ext_bound hm) (by omega) hlen
    refine ⟨c', d', e', ?_⟩
    rw [List.map_cons]
    unfold loopS
    simp only [lT, List.map_nil, List.nil_append] at e1
    simp only [lT] at ih
    simp [q_bnd, q_ok, q_er, q_bad, q_some, q_none, q_eC, q_eV, q_eZ, q_eOp, q_eUn, q_aNil, q_aCons, q_eTup, q_eLst, q_eApp, q_toB, q_bOf, q_tNo, q_tAn, q_tOt, q_eIf, q_eAn, q_eOt, q_eNo, q_eFn, q_eFnO, q_frv, q_fro, q_fre, q_foo, q_foo0, q_foe, q_sSet, q_sSetO, q_lok, q_ler, q_sNx, q_sSeq, q_sIf, q_sRet, q_sRetF, q_sDo, q_sRetO, q_sRaise, q_sFor, q_sUnp, q_sAug, q_sSetI, q_isOwn, q_sMix, q_mix0, q_mix1, q_setC0, q_setC, q_eOpX, q_eAppX, q_xV, q_xS, q_yNil, q_yCons, q_rv, q_rs, q_rL0, q_rL, q_eSlX, q_eFld, q_eMeth, q_eMk, q_eMt, q_iDi, q_iDv, q_iAll, q_eDc, q_eDc2, q_eOpP, q_eIsi, q_it1, q_it2, q_it3, q_iR1, q_iZp, q_iZpM, q_zp, q_eLc, q_eLc2, q_oNone, q_oSome, q_iOf, q_eSl, q_sTry, q_eXf, q_fn, q_lt, q_le, q_gt, q_ge, q_sub, q_add, q_iadd, q_fdiv, q_mod, q_pow, q_imul, q_mul, q_neg, q_is, q_nis, q_eq, q_ne, q_tgN, q_tgT, q_tg0, q_tgC, q_obd, q_eCh, q_eLenSc, q_iEnA, q_enT, q_enL, q_aKw, q_tgUt, q_tgUl, entry, List.map, List.replicate, lT, tgN, e1]
    simpa using ih
theorem worths {S : List Int} (h : Good S) (hl : S.length ≤ 30) (hp : pr S ≤ 1024) : F__law_worths [tI S] = .ok (.val (lT (allV S))) := by
  have h1 := pr_pos h
  obtain ⟨c, d, e, e3⟩ := loop_out (a := some (.val (tI S))) S [[]] none none none 0 h (by simp) (by omega) (by simp; omega)
  unfold F__law_worths
  simp only [lT, List.map_cons, List.map_nil] at e3
  rw [show tI [] = D.tup [] from rfl] at e3
  simp [q_bnd, q_ok, q_er, q_bad, q_some, q_none, q_eC, q_eV, q_eZ, q_eOp, q_eUn, q_aNil, q_aCons, q_eTup, q_eLst, q_eApp, q_toB, q_bOf, q_tNo, q_tAn, q_tOt, q_eIf, q_eAn, q_eOt, q_eNo, q_eFn, q_eFnO, q_frv, q_fro, q_fre, q_foo, q_foo0, q_foe, q_sSet, q_sSetO, q_lok, q_ler, q_sNx, q_sSeq, q_sIf, q_sRet, q_sRetF, q_sDo, q_sRetO, q_sRaise, q_sFor, q_sUnp, q_sAug, q_sSetI, q_isOwn, q_sMix, q_mix0, q_mix1, q_setC0, q_setC, q_eOpX, q_eAppX, q_xV, q_xS, q_yNil, q_yCons, q_rv, q_rs, q_rL0, q_rL, q_eSlX, q_eFld, q_eMeth, q_eMk, q_eMt, q_iDi, q_iDv, q_iAll, q_eDc, q_eDc2, q_eOpP, q_eIsi, q_it1, q_it2, q_it3, q_iR1, q_iZp, q_iZpM, q_zp, q_eLc, q_eLc2, q_oNone, q_oSome, q_iOf, q_eSl, q_sTry, q_eXf, q_fn, q_lt, q_le, q_gt, q_ge, q_sub, q_add, q_iadd, q_fdiv, q_mod, q_pow, q_imul, q_mul, q_neg, q_is, q_nis, q_eq, q_ne, q_tgN, q_tgT, q_tg0, q_tgC, q_obd, q_eCh, q_eLenSc, q_iEnA, q_enT, q_enL, q_aKw, q_tgUt, q_tgUl, entry, List.map, List.replicate, m__law_worths, e3]
  rfl
end K03
end

section
set_option Elab.async false
set_option linter.all false
set_option maxRecDepth 100000
set_option maxHeartbeats 4000000
namespace K03
open PySem L2 PyProof.Rows PySem.Spec DL
/-! ### what == may meet -/
structure Eo (k : Nat) (d : D) : Prop where
  ex : ∃ a, toPy d = some a ∧ a.canLay0 = true ∧ a.depth ≤ k
theorem Eo.ok {k : Nat} {d : D} (h : Eo k d) (hk : k ≤ 64) : eqB d d = some true := by
  obtain ⟨a, e, h1, h2⟩ := h.ex
  refine eqB_refl ?_
  unfold eqOk
  rw [e]
  simp only [SeqAt.shaped, h1, Bool.true_and, decide_eq_true_eq]
  omega
theorem eo_int (i : Int) (k : Nat) : Eo k (.int i) := ⟨.int i, by simp [toPy], by simp [PyData.canLay0], by simp [PyData.depth]⟩
theorem eo_str {s : Str} (h : PyData.strOk s = true) (k : Nat) : Eo k (.str s) := ⟨.str s, by simp [toPy], by simp [PyData.canLay0, h], by simp [PyData.depth]⟩
theorem lay_all {k : Nat} : ∀ {xs : List PyData}, (∀ x ∈ xs, x.canLay0 = true ∧ x.depth ≤ k) → PyData.canLayAll0 xs = true ∧ PyData.depthAll xs ≤ k
  | [], _ => ⟨by simp [PyData.canLayAll0], by simp [PyData.depthAll]⟩
  | x :: xs, h => by
    have h1 := h x List.mem_cons_self
    have h2 := lay_all fun y hy => h y (List.mem_cons_of_mem _ hy)
    refine ⟨by simp [PyData.canLayAll0, h1.1, h2.1], ?_⟩
    rw [PyData.depthAll]
    exact Nat.max_le.mpr ⟨h1.2, h2.2⟩
theorem eo_tup {k : Nat} {ds : List D} (h : ∀ d ∈ ds, Eo k d) : Eo (k + 1) (.tup ds) := by
  obtain ⟨as, e, p, l⟩ := toPyL_of (P := fun a => a.canLay0 = true ∧ a.depth ≤ k) fun d hd => (h d hd).ex
  have q := lay_all p
  exact ⟨.tuple as, by simp [toPy, e], by simp only [PyData.canLay0, q.1], by rw [PyData.depth]; have := q.2; omega⟩
theorem eo_lst {k : Nat} {ds : List D} (h : ∀ d ∈ ds, Eo k d) : Eo (k + 1) (.lst ds) := by
  obtain ⟨as, e, p, l⟩ := toPyL_of (P := fun a => a.canLay0 = true ∧ a.depth ≤ k) fun d hd => (h d hd).ex
  have q := lay_all p
  exact ⟨.list as, by simp [toPy, e], by simp only [PyData.canLay0, q.1], by rw [PyData.depth]; have := q.2; omega⟩
theorem eo_tI (V : List Int) (k : Nat) : Eo (k + 1) (tI V) := eo_tup (by
  intro d hd
  obtain ⟨v, _, rfl⟩ := List.mem_map.mp hd
  exact eo_int v k)
theorem at_nn {α : Type} {xs : List α} {i : Int} (h0 : 0 ≤ i) (h1 : i < xs.length) : atI xs i = xs[i.toNat]? := by
  unfold atI ixN
  rw [if_pos h0, if_pos (by omega)]
  rfl
/-! ### texts of things -/
theorem small {i : Int} (h : i ≤ 1024) (h0 : -1 ≤ i) : i.natAbs < 10 ^ 21 := by
  have : (10 : Nat) ^ 21 = 1000000000000000000000 := by decide
  omega
theorem range_mem : ∀ {n : Nat} {lo : Int} {x : D}, x ∈ rangeL lo n → ∃ i : Int, x = .int i ∧ lo ≤ i ∧ i < lo + n
  | 0, lo, x, h => by cases h
  | n + 1, lo, x, h => by
    rw [rangeL] at h
    rcases List.mem_cons.mp h with rfl | h
    · exact ⟨lo, rfl, Int.le_refl _, by omega⟩
    · obtain ⟨i, e, h1, h2⟩ := range_mem h
      exact ⟨i, e, by omega, by omega⟩
/-! ### the pool -/
structure PoolOk (d : D) : Prop where
  ex : ∃ a b : Int, d = .lst [.int a, .int b] ∧ 0 ≤ a ∧ 0 ≤ b ∧ b < 2147483647
theorem take_ok {d : D} {n : Int} (h : PoolOk d) (h0 : 0 < n) (h1 : n < 1000000001) : ∃ r d', F__law_take d [.int n] = .ok (.int r) d' ∧ 0 ≤ r ∧ r < n ∧ PoolOk d' := by
  obtain ⟨a, b, rfl, ha, hb, hb2⟩ := h.ex
  have hlog : n.natAbs.log2 < 9000 := by
    rw [Nat.log2_lt (by omega)]
    have : n.natAbs < 1000000001 := by omega
    exact Nat.lt_trans this (by decide +kernel)
  have c1 : 0 < n ∧ n.natAbs.log2 < 9000 := ⟨h0, hlog⟩
  by_cases hz : 0 < a
  · refine ⟨a % n, .lst [.int (a / n), .int b], ?_, Int.emod_nonneg _ (by omega), Int.emod_lt_of_pos _ h0, ⟨_, _, rfl, Int.ediv_nonneg ha (by omega), hb, hb2⟩⟩
    unfold F__law_take
    simp [q_bnd, q_ok, q_er, q_bad, q_some, q_none, q_eC, q_eV, q_eZ, q_eOp, q_eUn, q_aNil, q_aCons, q_eTup, q_eLst, q_eApp, q_toB, q_bOf, q_tNo, q_tAn, q_tOt, q_eIf, q_eAn, q_eOt, q_eNo, q_eFn, q_eFnO, q_frv, q_fro, q_fre, q_foo, q_foo0, q_foe, q_sSet, q_sSetO, q_lok, q_ler, q_sNx, q_sSeq, q_sIf, q_sRet, q_sRetF, q_sDo, q_sRetO, q_sRaise, q_sFor, q_sUnp, q_sAug, q_sSetI, q_isOwn, q_sMix, q_mix0, q_mix1, q_setC0, q_setC, q_eOpX, q_eAppX, q_xV, q_xS, q_yNil, q_yCons, q_rv, q_rs, q_rL0, q_rL, q_eSlX, q_eFld, q_eMeth, q_eMk, q_eMt, q_iDi, q_iDv, q_iAll, q_eDc, q_eDc2, q_eOpP, q_eIsi, q_it1, q_it2, q_it3, q_iR1, q_iZp, q_iZpM, q_zp, q_eLc, q_eLc2, q_oNone, q_oSome, q_iOf, q_eSl, q_sTry, q_eXf, q_fn, q_lt, q_le, q_gt, q_ge, q_sub, q_add, q_iadd, q_fdiv, q_mod, q_pow, q_imul, q_mul, q_neg, q_is, q_nis, q_eq, q_ne, q_tgN, q_tgT, q_tg0, q_tgC, q_obd, q_eCh, q_eLenSc, q_iEnA, q_enT, q_enL, q_aKw, q_tgUt, q_tgUl, entry, List.map, List.replicate, fnSemT, entryT, m__law_take, idxD, atI, ixN, isOwn, chg, putD, slot0, Sh.same, DL.c1, hz, c1, h0]
  · have hm : ¬ (0 < a) := hz
    have q0 : 0 ≤ (b * 48271 + 12345) % 2147483647 := Int.emod_nonneg _ (by decide)
    have q1 : (b * 48271 + 12345) % 2147483647 < 2147483647 := Int.emod_lt_of_pos _ (by decide)
    refine ⟨(b * 48271 + 12345) % 2147483647 * ((b * 48271 + 12345) % 2147483647) % 2147483629 / 64 % n, .lst [.int a, .int ((b * 48271 + 12345) % 2147483647)], ?_, Int.emod_nonneg _ (by omega), Int.emod_lt_of_pos _ h0, ⟨_, _, rfl, ha, q0, q1⟩⟩
    have c3 : ((b * 48271 + 12345) % 2147483647).natAbs < 18446744073709551616 := by omega
    have c4 : Nat.log2 64 < 9000 := by decide +kernel
    unfold F__law_take
    simp [q_bnd, q_ok, q_er, q_bad, q_some, q_none, q_eC, q_eV, q_eZ, q_eOp, q_eUn, q_aNil, q_aCons, q_eTup, q_eLst, q_eApp, q_toB, q_bOf, q_tNo, q_tAn, q_tOt, q_eIf, q_eAn, q_eOt, q_eNo, q_eFn, q_eFnO, q_frv, q_fro, q_fre, q_foo, q_foo0, q_foe, q_sSet, q_sSetO, q_lok, q_ler, q_sNx, q_sSeq, q_sIf, q_sRet, q_sRetF, q_sDo, q_sRetO, q_sRaise, q_sFor, q_sUnp, q_sAug, q_sSetI, q_isOwn, q_sMix, q_mix0, q_mix1, q_setC0, q_setC, q_eOpX, q_eAppX, q_xV, q_xS, q_yNil, q_yCons, q_rv, q_rs, q_rL0, q_rL, q_eSlX, q_eFld, q_eMeth, q_eMk, q_eMt, q_iDi, q_iDv, q_iAll, q_eDc, q_eDc2, q_eOpP, q_eIsi, q_it1, q_it2, q_it3, q_iR1, q_iZp, q_iZpM, q_zp, q_eLc, q_eLc2, q_oNone, q_oSome, q_iOf, q_eSl, q_sTry, q_eXf, q_fn, q_lt, q_le, q_gt, q_ge, q_sub, q_add, q_iadd, q_fdiv, q_mod, q_pow, q_imul, q_mul, q_neg, q_is, q_nis, q_eq, q_ne, q_tgN, q_tgT, q_tg0, q_tgC, q_obd, q_eCh, q_eLenSc, q_iEnA, q_enT, q_enL, q_aKw, q_tgUt, q_tgUl, entry, List.map, List.replicate, fnSemT, entryT, m__law_take, idxD, atI, ixN, isOwn, chg, putD, slot0, Sh.same, DL.c1, hm, c3, h0, c4]
/-! ### the pool of a script -/
theorem pool_ok {ns : List Int} {k : Int} (h0 : 0 ≤ k) (h1 : k < 1000) : ∃ d, F__law_pool [scrOf ns, .int k] = .ok (.own c1 d) ∧ PoolOk d := by
  have hk : k.natAbs < 18446744073709551616 := by omega
  have hn : lenA [scrOf ns] = some (.int ns.length) := by simp [scrOf, lenA, lenD]
  have num : ∀ c : Int, ∃ m : Int, (c % 2147483629 + 7919 * k * k + 31 * k + 17) * 48271 % 2147483647 = m ∧ m.natAbs < 18446744073709551616 ∧ 0 ≤ m * m % 2147483629 ∧ m * m % 2147483629 < 2147483647 := by
    intro c
    refine ⟨_, rfl, ?_, ?_, ?_⟩
    · have q0 : 0 ≤ (c % 2147483629 + 7919 * k * k + 31 * k + 17) * 48271 % 2147483647 := Int.emod_nonneg _ (by decide)
      have q1 : (c % 2147483629 + 7919 * k * k + 31 * k + 17) * 48271 % 2147483647 < 2147483647 := Int.emod_lt_of_pos _ (by decide)
      omega
    · exact Int.emod_nonneg _ (by decide)
    · exact Int.lt_trans (Int.emod_lt_of_pos _ (by decide)) (by decide)
  unfold F__law_pool
  by_cases hl : k < ns.length
  · obtain ⟨z, hz⟩ : ∃ z, ns[k.toNat]? = some z := ⟨_, List.getElem?_eq_getElem (by omega)⟩
    have e1 : idxD (scrOf ns) (.int k) = some (.int z) := by
      show atI (ns.map D.int) k = _
      rw [at_nn h0 (by simpa using hl), List.getElem?_map, hz]
      rfl
    obtain ⟨c, hc, hc0⟩ : ∃ c, (if z < 0 then -z else z) = c ∧ 0 ≤ c := ⟨_, rfl, by split <;> omega⟩
    obtain ⟨m, hm, g1, g2, g3⟩ := num c
    by_cases hb : 1000000000000000000 ≤ c
    · exact ⟨.lst [.int c, .int (m * m % 2147483629)], by simp [q_bnd, q_ok, q_er, q_bad, q_some, q_none, q_eC, q_eV, q_eZ, q_eOp, q_eUn, q_aNil, q_aCons, q_eTup, q_eLst, q_eApp, q_toB, q_bOf, q_tNo, q_tAn, q_tOt, q_eIf, q_eAn, q_eOt, q_eNo, q_eFn, q_eFnO, q_frv, q_fro, q_fre, q_foo, q_foo0, q_foe, q_sSet, q_sSetO, q_lok, q_ler, q_sNx, q_sSeq, q_sIf, q_sRet, q_sRetF, q_sDo, q_sRetO, q_sRaise, q_sFor, q_sUnp, q_sAug, q_sSetI, q_isOwn, q_sMix, q_mix0, q_mix1, q_setC0, q_setC, q_eOpX, q_eAppX, q_xV, q_xS, q_yNil, q_yCons, q_rv, q_rs, q_rL0, q_rL, q_eSlX, q_eFld, q_eMeth, q_eMk, q_eMt, q_iDi, q_iDv, q_iAll, q_eDc, q_eDc2, q_eOpP, q_eIsi, q_it1, q_it2, q_it3, q_iR1, q_iZp, q_iZpM, q_zp, q_eLc, q_eLc2, q_oNone, q_oSome, q_iOf, q_eSl, q_sTry, q_eXf, q_fn, q_lt, q_le, q_gt, q_ge, q_sub, q_add, q_iadd, q_fdiv, q_mod, q_pow, q_imul, q_mul, q_neg, q_is, q_nis, q_eq, q_ne, q_tgN, q_tgT, q_tg0, q_tgC, q_obd, q_eCh, q_eLenSc, q_iEnA, q_enT, q_enL, q_aKw, q_tgUt, q_tgUl, entry, List.map, List.replicate, m__law_pool, hn, hl, e1, absD, hc, hk, toIntD, hb, hm, g1], ⟨_, _, rfl, hc0, g2, g3⟩⟩
    · exact ⟨.lst [.int 0, .int (m * m % 2147483629)], by simp [q_bnd, q_ok, q_er, q_bad, q_some, q_none, q_eC, q_eV, q_eZ, q_eOp, q_eUn, q_aNil, q_aCons, q_eTup, q_eLst, q_eApp, q_toB, q_bOf, q_tNo, q_tAn, q_tOt, q_eIf, q_eAn, q_eOt, q_eNo, q_eFn, q_eFnO, q_frv, q_fro, q_fre, q_foo, q_foo0, q_foe, q_sSet, q_sSetO, q_lok, q_ler, q_sNx, q_sSeq, q_sIf, q_sRet, q_sRetF, q_sDo, q_sRetO, q_sRaise, q_sFor, q_sUnp, q_sAug, q_sSetI, q_isOwn, q_sMix, q_mix0, q_mix1, q_setC0, q_setC, q_eOpX, q_eAppX, q_xV, q_xS, q_yNil, q_yCons, q_rv, q_rs, q_rL0, q_rL, q_eSlX, q_eFld, q_eMeth, q_eMk, q_eMt, q_iDi, q_iDv, q_iAll, q_eDc, q_eDc2, q_eOpP, q_eIsi, q_it1, q_it2, q_it3, q_iR1, q_iZp, q_iZpM, q_zp, q_eLc, q_eLc2, q_oNone, q_oSome, q_iOf, q_eSl, q_sTry, q_eXf, q_fn, q_lt, q_le, q_gt, q_ge, q_sub, q_add, q_iadd, q_fdiv, q_mod, q_pow, q_imul, q_mul, q_neg, q_is, q_nis, q_eq, q_ne, q_tgN, q_tgT, q_tg0, q_tgC, q_obd, q_eCh, q_eLenSc, q_iEnA, q_enT, q_enL, q_aKw, q_tgUt, q_tgUl, entry, List.map, List.replicate, m__law_pool, hn, hl, e1, absD, hc, hk, toIntD, hb, hm, g1], ⟨_, _, rfl, by omega, g2, g3⟩⟩
  · obtain ⟨m, hm, g1, g2, g3⟩ := num 0
    simp only [Int.zero_emod] at hm
    exact ⟨.lst [.int 0, .int (m * m % 2147483629)], by simp [q_bnd, q_ok, q_er, q_bad, q_some, q_none, q_eC, q_eV, q_eZ, q_eOp, q_eUn, q_aNil, q_aCons, q_eTup, q_eLst, q_eApp, q_toB, q_bOf, q_tNo, q_tAn, q_tOt, q_eIf, q_eAn, q_eOt, q_eNo, q_eFn, q_eFnO, q_frv, q_fro, q_fre, q_foo, q_foo0, q_foe, q_sSet, q_sSetO, q_lok, q_ler, q_sNx, q_sSeq, q_sIf, q_sRet, q_sRetF, q_sDo, q_sRetO, q_sRaise, q_sFor, q_sUnp, q_sAug, q_sSetI, q_isOwn, q_sMix, q_mix0, q_mix1, q_setC0, q_setC, q_eOpX, q_eAppX, q_xV, q_xS, q_yNil, q_yCons, q_rv, q_rs, q_rL0, q_rL, q_eSlX, q_eFld, q_eMeth, q_eMk, q_eMt, q_iDi, q_iDv, q_iAll, q_eDc, q_eDc2, q_eOpP, q_eIsi, q_it1, q_it2, q_it3, q_iR1, q_iZp, q_iZpM, q_zp, q_eLc, q_eLc2, q_oNone, q_oSome, q_iOf, q_eSl, q_sTry, q_eXf, q_fn, q_lt, q_le, q_gt, q_ge, q_sub, q_add, q_iadd, q_fdiv, q_mod, q_pow, q_imul, q_mul, q_neg, q_is, q_nis, q_eq, q_ne, q_tgN, q_tgT, q_tg0, q_tgC, q_obd, q_eCh, q_eLenSc, q_iEnA, q_enT, q_enL, q_aKw, q_tgUt, q_tgUl, entry, List.map, List.replicate, m__law_pool, hn, hl, hk, toIntD]; simp at hm; simp [hm, g1, q_bnd, q_ok, q_er, q_bad, q_some, q_none, q_eC, q_eV, q_eZ, q_eOp, q_eUn, q_aNil, q_aCons, q_eTup, q_eLst, q_eApp, q_toB, q_bOf, q_tNo, q_tAn, q_tOt, q_eIf, q_eAn, q_eOt, q_eNo, q_eFn, q_eFnO, q_frv, q_fro, q_fre, q_foo, q_foo0, q_foe, q_sSet, q_sSetO, q_lok, q_ler, q_sNx, q_sSeq, q_sIf, q_sRet, q_sRetF, q_sDo, q_sRetO, q_sRaise, q_sFor, q_sUnp, q_sAug, q_sSetI, q_isOwn, q_sMix, q_mix0, q_mix1, q_setC0, q_setC, q_eOpX, q_eAppX, q_xV, q_xS, q_yNil, q_yCons, q_rv, q_rs, q_rL0, q_rL, q_eSlX, q_eFld, q_eMeth, q_eMk, q_eMt, q_iDi, q_iDv, q_iAll, q_eDc, q_eDc2, q_eOpP, q_eIsi, q_it1, q_it2, q_it3, q_iR1, q_iZp, q_iZpM, q_zp, q_eLc, q_eLc2, q_oNone, q_oSome, q_iOf, q_eSl, q_sTry, q_eXf, q_fn, q_lt, q_le, q_gt, q_ge, q_sub, q_add, q_iadd, q_fdiv, q_mod, q_pow, q_imul, q_mul, q_neg, q_is, q_nis, q_eq, q_ne, q_tgN, q_tgT, q_tg0, q_tgC, q_obd, q_eCh, q_eLenSc, q_iEnA, q_enT, q_enL, q_aKw, q_tgUt, q_tgUl, entry, List.map, List.replicate], ⟨_, _, rfl, by omega, g2, g3⟩⟩
end K03
end

section
set_option Elab.async false
set_option linter.all false
set_option maxRecDepth 100000
set_option maxHeartbeats 4000000
namespace K03
open PySem L2 PyProof.Rows PySem.Spec DL
/-! ### rows of tables -/
abbrev Rw := List Int × List Int × Int
def rD (r : Rw) : D := .tup [tI r.1, tI r.2.1, .int r.2.2]
def kD (r : Rw) : D := .tup [tI r.1, tI r.2.1]
def kv (r : Rw) : D × D := (kD r, .int r.2.2)
def keyR (r : Rw) : List Int × List Int := (r.1, r.2.1)
def obD (A B W : D) : D := .obj 50 [("sizes_in", A), ("sizes_out", B), ("weights", W)]
def tb (A B : List Int) (R : List Rw) : D := obD (tI A) (tI B) (.dct (R.map kv))
theorem map_int_inj : ∀ {x y : List Int}, x.map D.int = y.map D.int → x = y
  | [], [], _ => rfl
  | [], _ :: _, h => by simp at h
  | _ :: _, [], h => by simp at h
  | a :: x, b :: y, h => by
    simp only [List.map_cons, List.cons.injEq, D.int.injEq] at h
    rw [h.1, map_int_inj h.2]
theorem tI_inj {x y : List Int} : tI x = tI y ↔ x = y := ⟨fun h => map_int_inj (by injection h), fun h => by rw [h]⟩
theorem kD_inj {r s : Rw} : kD r = kD s ↔ keyR r = keyR s := by
  unfold kD keyR
  constructor
  · intro h
    injection h with h
    injection h with h1 h2
    injection h2 with h2 _
    rw [tI_inj.mp h1, tI_inj.mp h2]
  · intro h
    injection h with h1 h2
    rw [h1, h2]
theorem keyOkL_int : ∀ (n : Nat) (x : List Int), keyOkL n (x.map D.int) = true
  | _, [] => by simp [keyOkL]
  | n, a :: x => by
    rw [List.map_cons, keyOkL, keyOkL_int n x]
    cases n <;> rfl
theorem keyOk_tI (n : Nat) (x : List Int) : keyOk (n + 1) (tI x) = true := by
  rw [keyOk]
  exact keyOkL_int n x
theorem keyOk_kD (r : Rw) : keyOk 8 (kD r) = true := by
  show keyOkL 7 [tI r.1, tI r.2.1] = true
  rw [keyOkL, keyOkL, keyOkL, keyOk_tI, keyOk_tI]
  rfl
theorem isTup_kD (r : Rw) : isTup (kD r) = true := rfl
/-- a row that a table may have -/
structure RowOk (A B : List Int) (r : Rw) : Prop where
  i : valuesB A (tI r.1) = true
  o : valuesB B (tI r.2.1) = true
  lo : 1 ≤ r.2.2
  hi : r.2.2 ≤ 1000000000000000000000000000000
theorem is_row {A B : List Int} {r : Rw} (hA : A.length ≤ 30) (hB : B.length ≤ 30) (h : RowOk A B r) : F_is_row [tI A, tI B, rD r] = .ok (.val (.bl true)) := by
  have e1 := is_values (S := A) (plain_tI r.1) hA
  have e2 := is_values (S := B) (plain_tI r.2.1) hB
  rw [h.i] at e1
  rw [h.o] at e2
  have e3 := is_integer (d := .int r.2.2) 1 rfl
  have e4 : intB (.int r.2.2) 1 = true := by simp [intB, h.lo]
  rw [e4] at e3
  have hi : isiB [50] [.b "tuple"] (rD r) = some true := rfl
  have hl : lenA [rD r] = some (.int 3) := rfl
  have h5 := h.hi
  have hu : ∀ a b c : Option Cell, tgT (tgCons (tgN 3) (tgCons (tgN 4) (tgCons (tgN 5) tgNil))) (rD r) [some (.val (tI A)), some (.val (tI B)), some (.val (rD r)), a, b, c] = some [some (.val (tI A)), some (.val (tI B)), some (.val (rD r)), some (.val (tI r.1)), some (.val (tI r.2.1)), some (.val (.int r.2.2))] := fun _ _ _ => rfl
  generalize rD r = x at hi hl hu
  unfold F_is_row
  simp [q_bnd, q_ok, q_er, q_bad, q_some, q_none, q_eC, q_eV, q_eZ, q_eOp, q_eUn, q_aNil, q_aCons, q_eTup, q_eLst, q_eApp, q_toB, q_bOf, q_tNo, q_tAn, q_tOt, q_eIf, q_eAn, q_eOt, q_eNo, q_eFn, q_eFnO, q_frv, q_fro, q_fre, q_foo, q_foo0, q_foe, q_sSet, q_sSetO, q_lok, q_ler, q_sNx, q_sSeq, q_sIf, q_sRet, q_sRetF, q_sDo, q_sRetO, q_sRaise, q_sFor, q_sUnp, q_sAug, q_sSetI, q_isOwn, q_sMix, q_mix0, q_mix1, q_setC0, q_setC, q_eOpX, q_eAppX, q_xV, q_xS, q_yNil, q_yCons, q_rv, q_rs, q_rL0, q_rL, q_eSlX, q_eFld, q_eMeth, q_eMk, q_eMt, q_iDi, q_iDv, q_iAll, q_eDc, q_eDc2, q_eOpP, q_eIsi, q_it1, q_it2, q_it3, q_iR1, q_iZp, q_iZpM, q_zp, q_eLc, q_eLc2, q_oNone, q_oSome, q_iOf, q_eSl, q_sTry, q_eXf, q_fn, q_lt, q_le, q_gt, q_ge, q_sub, q_add, q_iadd, q_fdiv, q_mod, q_pow, q_imul, q_mul, q_neg, q_is, q_nis, q_eq, q_ne, q_tgN, q_tgT, q_tg0, q_tgC, q_obd, q_eCh, q_eLenSc, q_iEnA, q_enT, q_enL, q_aKw, q_tgUt, q_tgUl, entry, List.map, List.replicate, m_is_row, hi, hl, eqI, hu, e1, e2, e3, h5]
abbrev shT : Sh := .ob [("weights", c1)]
theorem in_new {W : List (D × D)} {k : D} (h1 : keyOk 8 k = true) (h2 : isTup k = true) (h3 : ∀ p ∈ W, isTup p.1 = true) (h4 : ∀ p ∈ W, p.1 ≠ k) : inD k (.dct W) = some (.bl false) := by
  have e1 := kOk_tup h1 h2 h3
  have e2 := dget_none h4
  have e3 : inB k (.dct W) = some false := by
    cases k <;> first | (cases h2; done) | simp [inB, e1, e2]
  simp [inD, e3]
theorem sWI : (("weights" : Str) == "sizes_in") = false := by decide
theorem sWO : (("weights" : Str) == "sizes_out") = false := by decide
theorem lkW (a b c : D) : List.lookup ("weights" : Str) [("sizes_in", a), ("sizes_out", b), ("weights", c)] = some c := by simp [List.lookup, sWI, sWO]
theorem fldW (A B W : D) : fldC 50 "weights" (some (some (.own shT (obD A B W)))) = some W := by
  have e : fsh [("weights", c1)] "weights" = c1 := by simp [fsh, List.lookup]
  simp [fldC, obD, e, lkW]

theorem sIW : (("sizes_in" : Str) == "weights") = false := by decide
theorem sOW : (("sizes_out" : Str) == "weights") = false := by decide
theorem sameT : Sh.same shT shT = true := by decide
theorem nIW : (("sizes_in" : Str) = "weights") = False := eq_false (by decide)
theorem nOW : (("sizes_out" : Str) = "weights") = False := eq_false (by decide)
theorem nIO : (("sizes_in" : Str) = "sizes_out") = False := eq_false (by decide)
theorem pfW (a b c d : D) : putF' ("weights" : Str) d [(("sizes_in" : Str), a), (("sizes_out" : Str), b), (("weights" : Str), c)] = [(("sizes_in" : Str), a), (("sizes_out" : Str), b), (("weights" : Str), d)] := by simp [putF', nIW, nOW]
theorem pf1 (a : D) : putF' ("sizes_in" : Str) a [] = [(("sizes_in" : Str), a)] := rfl
theorem pf2 (a b : D) : putF' ("sizes_out" : Str) b [(("sizes_in" : Str), a)] = [(("sizes_in" : Str), a), (("sizes_out" : Str), b)] := by simp [putF', nIO]
theorem pf3 (a b c : D) : putF' ("weights" : Str) c [(("sizes_in" : Str), a), (("sizes_out" : Str), b)] = [(("sizes_in" : Str), a), (("sizes_out" : Str), b), (("weights" : Str), c)] := by simp [putF', nIW, nOW]
theorem step_row {A B : List Int} {X : D} {W : List (D × D)} {r : Rw} {c : Option Cell} (hA : A.length ≤ 30) (hB : B.length ≤ 30) (h : RowOk A B r) (h3 : ∀ p ∈ W, isTup p.1 = true) (h4 : ∀ p ∈ W, p.1 ≠ kD r) (hl : W.length < 1000000) :
    (sSeq (sIf (tOt (tNo (toB (eFn F_is_row [] (aCons (eV 1) (aCons (eV 2) (aCons (eV 4) (aNil))))))) (toB (eOpP inD (eSl (eV 4) (oNone) (oSome (eC (.int 2)))) 0 50 "weights"))) (sRaise c_InvalidRow "value" (eV 4)) (sNx))
    (sPSetI 0 50 "weights" (eOp idxD (eV 4) (eC (.int 2))) (eSl (eV 4) (oNone) (oSome (eC (.int 2)))))) [some (.own shT (obD (tI A) (tI B) (.dct W))), some (.val (tI A)), some (.val (tI B)), some (.val X), some (.val (rD r))] =
    .nx [some (.own shT (obD (tI A) (tI B) (.dct (W ++ [kv r])))), some (.val (tI A)), some (.val (tI B)), some (.val X), some (.val (rD r))] := by
  have e1 := is_row hA hB h
  have e2 : sliceD (rD r) none (some 2) = some (kD r) := rfl
  have e3 : idxD (rD r) (.int 2) = some (.int r.2.2) := rfl
  have e4 := in_new (keyOk_kD r) (isTup_kD r) h3 h4
  have e5 := put_new (v := .int r.2.2) (keyOk_kD r) (isTup_kD r) h3 h4 hl
  have e6 := fldW (tI A) (tI B) (.dct W)
  have e7 : kv r = (kD r, .int r.2.2) := rfl
  rw [e7]
  generalize rD r = x at e1 e2 e3
  generalize kD r = k at e2 e4 e5
  simp [q_bnd, q_ok, q_er, q_bad, q_some, q_none, q_eC, q_eV, q_eZ, q_eOp, q_eUn, q_aNil, q_aCons, q_eTup, q_eLst, q_eApp, q_toB, q_bOf, q_tNo, q_tAn, q_tOt, q_eIf, q_eAn, q_eOt, q_eNo, q_eFn, q_eFnO, q_frv, q_fro, q_fre, q_foo, q_foo0, q_foe, q_sSet, q_sSetO, q_lok, q_ler, q_sNx, q_sSeq, q_sIf, q_sRet, q_sRetF, q_sDo, q_sRetO, q_sRaise, q_sFor, q_sUnp, q_sAug, q_sSetI, q_isOwn, q_sMix, q_mix0, q_mix1, q_setC0, q_setC, q_eOpX, q_eAppX, q_xV, q_xS, q_yNil, q_yCons, q_rv, q_rs, q_rL0, q_rL, q_eSlX, q_eFld, q_eMeth, q_eMk, q_eMt, q_iDi, q_iDv, q_iAll, q_eDc, q_eDc2, q_eOpP, q_eIsi, q_it1, q_it2, q_it3, q_iR1, q_iZp, q_iZpM, q_zp, q_eLc, q_eLc2, q_oNone, q_oSome, q_iOf, q_eSl, q_sTry, q_eXf, q_fn, q_lt, q_le, q_gt, q_ge, q_sub, q_add, q_iadd, q_fdiv, q_mod, q_pow, q_imul, q_mul, q_neg, q_is, q_nis, q_eq, q_ne, q_tgN, q_tgT, q_tg0, q_tgC, q_obd, q_eCh, q_eLenSc, q_iEnA, q_enT, q_enL, q_aKw, q_tgUt, q_tgUl, entry, List.map, List.replicate, e1, e2, e3, e4, e6, sPSetI, e5]
  simp [obD] at e6
  simp [obD, q_bnd, q_ok, q_er, q_bad, q_some, q_none, q_eC, q_eV, q_eZ, q_eOp, q_eUn, q_aNil, q_aCons, q_eTup, q_eLst, q_eApp, q_toB, q_bOf, q_tNo, q_tAn, q_tOt, q_eIf, q_eAn, q_eOt, q_eNo, q_eFn, q_eFnO, q_frv, q_fro, q_fre, q_foo, q_foo0, q_foe, q_sSet, q_sSetO, q_lok, q_ler, q_sNx, q_sSeq, q_sIf, q_sRet, q_sRetF, q_sDo, q_sRetO, q_sRaise, q_sFor, q_sUnp, q_sAug, q_sSetI, q_isOwn, q_sMix, q_mix0, q_mix1, q_setC0, q_setC, q_eOpX, q_eAppX, q_xV, q_xS, q_yNil, q_yCons, q_rv, q_rs, q_rL0, q_rL, q_eSlX, q_eFld, q_eMeth, q_eMk, q_eMt, q_iDi, q_iDv, q_iAll, q_eDc, q_eDc2, q_eOpP, q_eIsi, q_it1, q_it2, q_it3, q_iR1, q_iZp, q_iZpM, q_zp, q_eLc, q_eLc2, q_oNone, q_oSome, q_iOf, q_eSl, q_sTry, q_eXf, q_fn, q_lt, q_le, q_gt, q_ge, q_sub, q_add, q_iadd, q_fdiv, q_mod, q_pow, q_imul, q_mul, q_neg, q_is, q_nis, q_eq, q_ne, q_tgN, q_tgT, q_tg0, q_tgC, q_obd, q_eCh, q_eLenSc, q_iEnA, q_enT, q_enL, q_aKw, q_tgUt, q_tgUl, entry, List.map, List.replicate, e2, e3, e6, e5, pfW]

theorem loop_rows {A B : List Int} {X : D} (hA : A.length ≤ 30) (hB : B.length ≤ 30) : ∀ (R Q : List Rw) (c : Option Cell), (∀ r ∈ R, RowOk A B r) → ((Q ++ R).map keyR).Nodup → (Q ++ R).length ≤ 100000 →
    ∃ c', loopS (tgN 4) (sSeq (sIf (tOt (tNo (toB (eFn F_is_row [] (aCons (eV 1) (aCons (eV 2) (aCons (eV 4) (aNil))))))) (toB (eOpP inD (eSl (eV 4) (oNone) (oSome (eC (.int 2)))) 0 50 "weights"))) (sRaise c_InvalidRow "value" (eV 4)) (sNx))
    (sPSetI 0 50 "weights" (eOp idxD (eV 4) (eC (.int 2))) (eSl (eV 4) (oNone) (oSome (eC (.int 2)))))) (R.map rD) [some (.own shT (tb A B Q)), some (.val (tI A)), some (.val (tI B)), some (.val X), c] =
    .nx [some (.own shT (tb A B (Q ++ R))), some (.val (tI A)), some (.val (tI B)), some (.val X), c']
  | [], Q, c, _, _, _ => ⟨c, by simp [loopS]⟩
  | r :: R, Q, c, hr, hk, hl => by
    have h3 : ∀ p ∈ Q.map kv, isTup p.1 = true := fun p hp => by
      obtain ⟨q, _, rfl⟩ := List.mem_map.mp hp
      rfl
    have h4 : ∀ p ∈ Q.map kv, p.1 ≠ kD r := fun p hp e => by
      obtain ⟨q, hq, rfl⟩ := List.mem_map.mp hp
      have e := kD_inj.mp e
      rw [List.map_append, List.nodup_append] at hk
      exact hk.2.2 (keyR q) (List.mem_map.mpr ⟨q, hq, rfl⟩) (keyR r) (by simp) e
    obtain ⟨c', ih⟩ := loop_rows (X := X) hA hB R (Q ++ [r]) (some (.val (rD r))) (fun s hs => hr s (List.mem_cons_of_mem _ hs)) (by simpa using hk) (by simpa using hl)
    refine ⟨c', ?_⟩
    have st := step_row (X := X) (c := c) hA hB (hr r List.mem_cons_self) h3 h4 (by simp at hl ⊢; omega)
    rw [List.map_cons]
    unfold loopS
    unfold tb at ih ⊢
    simp only [tgN, List.set_cons_succ, List.set_cons_zero]
    rw [st]
    simp only
    rw [List.map_append, List.map_cons, List.map_nil] at ih
    rw [ih]
    simp
/-- sides of a table -/
structure Side (A B : List Int) : Prop where
  a : Good A
  b : Good B
  la : A.length ≤ 30
  lb : B.length ≤ 30
  w : pr A * pr B ≤ 1024
theorem Side.flip {A B : List Int} (h : Side A B) : Side B A := ⟨h.b, h.a, h.lb, h.la, by rw [Int.mul_comm]; exact h.w⟩
theorem Side.pa {A B : List Int} (h : Side A B) : pr A ≤ 1024 := by
  have h1 := pr_pos h.a
  have h2 := pr_pos h.b
  have h3 := h.w
  have : pr A * 1 ≤ pr A * pr B := Int.mul_le_mul_of_nonneg_left h2 (by omega)
  omega
theorem Side.mul {A B : List Int} (h : Side A B) : mulD (.int (pr A)) (.int (pr B)) = some (.int (pr A * pr B)) := by
  have h1 := pr_pos h.a
  have h2 := h.pa
  rw [q_mul, if_pos (.inl (by omega))]
theorem make_list {A B : List Int} {R : List Rw} (h : Side A B) (hr : ∀ r ∈ R, RowOk A B r) (hk : (R.map keyR).Nodup) (hl : R.length ≤ 100000) : F_Table___init__ (.obj 50 []) [tI A, tI B, .lst (R.map rD)] = .ok .non (tb A B R) := by
  have e1 := check_sizes (plain_tI A)
  rw [if_pos (sizesB_tI h.a h.la)] at e1
  have e2 := check_sizes (plain_tI B)
  rw [if_pos (sizesB_tI h.b h.lb)] at e2
  have e3 := product h.a
  have e4 := product h.b
  have e5 := h.mul
  have e6 := check_product (pr A * pr B)
  rw [if_pos h.w] at e6
  obtain ⟨c, e7⟩ := loop_rows (A := A) (B := B) (X := .lst (R.map rD)) h.la h.lb R [] none hr hk (by simpa using hl)
  have e8 : isiB [50] [.b "list", .b "tuple"] (.lst (R.map rD)) = some true := rfl
  rw [List.nil_append] at e7
  unfold F_Table___init__ fnSemT
  have e9 : tb A B [] = .obj 50 [("sizes_in", tI A), ("sizes_out", tI B), ("weights", .dct [])] := rfl
  rw [e9] at e7
  simp [q_bnd, q_ok, q_er, q_bad, q_some, q_none, q_eC, q_eV, q_eZ, q_eOp, q_eUn, q_aNil, q_aCons, q_eTup, q_eLst, q_eApp, q_toB, q_bOf, q_tNo, q_tAn, q_tOt, q_eIf, q_eAn, q_eOt, q_eNo, q_eFn, q_eFnO, q_frv, q_fro, q_fre, q_foo, q_foo0, q_foe, q_sSet, q_sSetO, q_lok, q_ler, q_sNx, q_sSeq, q_sIf, q_sRet, q_sRetF, q_sDo, q_sRetO, q_sRaise, q_sFor, q_sUnp, q_sAug, q_sSetI, q_isOwn, q_sMix, q_mix0, q_mix1, q_setC0, q_setC, q_eOpX, q_eAppX, q_xV, q_xS, q_yNil, q_yCons, q_rv, q_rs, q_rL0, q_rL, q_eSlX, q_eFld, q_eMeth, q_eMk, q_eMt, q_iDi, q_iDv, q_iAll, q_eDc, q_eDc2, q_eOpP, q_eIsi, q_it1, q_it2, q_it3, q_iR1, q_iZp, q_iZpM, q_zp, q_eLc, q_eLc2, q_oNone, q_oSome, q_iOf, q_eSl, q_sTry, q_eXf, q_fn, q_lt, q_le, q_gt, q_ge, q_sub, q_add, q_iadd, q_fdiv, q_mod, q_pow, q_imul, q_mul, q_neg, q_is, q_nis, q_eq, q_ne, q_tgN, q_tgT, q_tg0, q_tgC, q_obd, q_eCh, q_eLenSc, q_iEnA, q_enT, q_enL, q_aKw, q_tgUt, q_tgUl, entry, m_Table___init__, entryT, e1, e2, e3, e4, e5, e6, e8, sFld2, stF, fsh, List.lookup, sIW, sOW, pf1, pf2, sFldF, pf3, e7, slot0, sameT]
end K03
end

section
set_option Elab.async false
set_option linter.all false
set_option maxRecDepth 100000
set_option maxHeartbeats 4000000
namespace K03
open PySem L2 PyProof.Rows PySem.Spec DL
end K03
end

section
set_option Elab.async false
set_option linter.all false
set_option maxRecDepth 100000
set_option maxHeartbeats 4000000
namespace K03
open PySem L2 PyProof.Rows PySem.Spec DL
/-! ### the methods of a table -/
theorem eo_rD (r : Rw) (k : Nat) : Eo (k + 2) (rD r) := eo_tup (by
  intro d hd
  rcases List.mem_cons.mp hd with rfl | hd
  · exact eo_tI _ k
  · rcases List.mem_cons.mp hd with rfl | hd
    · exact eo_tI _ k
    · rcases List.mem_cons.mp hd with rfl | hd
      · exact eo_int _ _
      · cases hd)
end K03
end

section
set_option Elab.async false
set_option linter.all false
set_option maxRecDepth 100000
set_option maxHeartbeats 4000000
namespace K03
open PySem L2 PyProof.Rows PySem.Spec DL
/-! ### rows in their order -/
def ltR (r s : Rw) : Prop := ltBL [tI r.1, tI r.2.1] [tI s.1, tI s.2.1] = true
theorem ltB_irr (x : D) : ltB x x = false := by
  cases h : ltB x x with
  | false => rfl
  | true => have := ltB_asym _ _ h; rw [h] at this; exact this
theorem ltR_ne {r s : Rw} (h : ltR r s) : keyR r ≠ keyR s := fun e => by
  unfold ltR at h
  injection e with e1 e2
  rw [e1, e2] at h
  simp [ltBL] at h
abbrev Ord (R : List Rw) : Prop := R.Pairwise ltR
theorem Ord.nodup {R : List Rw} (h : Ord R) : (R.map keyR).Nodup := List.pairwise_map.mpr (h.imp fun {a b} q => ltR_ne q)
def ltV (x y : List Int) : Prop := ltBL (x.map .int) (y.map .int) = true
theorem ltV_cons {i j : Int} {x y : List Int} (h : i < j ∨ (i = j ∧ ltV x y)) : ltV (i :: x) (j :: y) := by
  unfold ltV at *
  simp only [List.map_cons, ltBL]
  rcases h with h | ⟨rfl, h⟩
  · rw [if_neg (by intro e; injection e with e; omega), ltB, decide_eq_true_eq]
    exact h
  · rw [if_pos rfl]
    exact h
theorem allV_ord : ∀ S : List Int, (allV S).Pairwise ltV
  | [] => by simp [allV]
  | s :: S => by
    rw [allV_cons, List.pairwise_flatMap]
    refine ⟨fun i _ => List.pairwise_map.mpr ((allV_ord S).imp fun {a b} q => ltV_cons (.inr ⟨rfl, q⟩)), ?_⟩
    refine List.pairwise_lt_range.imp fun {i j} hij x hx y hy => ?_
    obtain ⟨a, _, rfl⟩ := List.mem_map.mp hx
    obtain ⟨b, _, rfl⟩ := List.mem_map.mp hy
    exact ltV_cons (.inl (by omega))
theorem ltV_ltB {x y : List Int} (h : ltV x y) : ltB (tI x) (tI y) = true := by rw [ltB]; exact h
theorem ltV_ne {x y : List Int} (h : ltV x y) : x ≠ y := fun e => by
  subst e
  have := ltV_ltB h
  rw [ltB_irr] at this
  cases this
theorem ltR_l {r s : Rw} (h : ltV r.1 s.1) : ltR r s := by
  unfold ltR
  simp only [ltBL]
  rw [if_neg (fun e => ltV_ne h (tI_inj.mp e))]
  exact ltV_ltB h
theorem ltR_r {r s : Rw} (e : r.1 = s.1) (h : ltV r.2.1 s.2.1) : ltR r s := by
  unfold ltR
  simp only [ltBL]
  rw [if_pos (by rw [e]), if_neg (fun e => ltV_ne h (tI_inj.mp e))]
  exact ltV_ltB h
/-! ### sorting rows -/
theorem allV_mem_len : ∀ {S : List Int} {g : List Int}, g ∈ allV S → g.length = S.length
  | [], g, h => by simp [allV] at h; simp [h]
  | s :: S, g, h => by
    rw [allV_cons] at h
    obtain ⟨i, _, h⟩ := List.mem_flatMap.mp h
    obtain ⟨a, ha, rfl⟩ := List.mem_map.mp h
    simp [allV_mem_len ha]
end K03
end

section
set_option Elab.async false
set_option linter.all false
set_option maxRecDepth 100000
set_option maxHeartbeats 4000000
namespace K03
open PySem L2 PyProof.Rows PySem.Spec DL
/-! ### drawn sides -/
theorem take_at {d d' : D} {r : Int} {i : Nat} {env e2 : DEnv} {a : EM (List D)} {n : Int} {s0 : Sh} {d0 : D} (h1 : env[i]? = some (some (.own s0 d0))) (h2 : a env = .ok ([.int n], e2)) (h3 : e2[i]? = some (some (.own c1 d))) (h : F__law_take d [.int n] = .ok (.int r) d') : eFnT c1 c1 F__law_take i a env = .ok (.int r, e2.set i (some (.own c1 d'))) := q_eFnT h1 h2 h3 h
theorem pr_snoc : ∀ (S : List Int) (s : Int), pr (S ++ [s]) = pr S * s
  | [], s => by simp [pr]
  | a :: S, s => by rw [List.cons_append, pr, pr, pr_snoc S s, Int.mul_assoc]
structure Drawn (m : Int) (S : List Int) : Prop where
  g : ∀ s ∈ S, 1 ≤ s ∧ s ≤ 3
  p : pr S ≤ m
theorem Drawn.good {m : Int} {S : List Int} (h : Drawn m S) : Good S := fun s hs => by have := h.g s hs; omega
def sideB : SM := sSeq (sSet 5 (eOp addD (eC (.int 1)) (eFnT c1 c1 F__law_take 0 (aCons (eC (.int 3)) (aNil)))))
    (sIf (toB (eOp leD (eOp mulD (eV 4) (eV 5)) (eV 1))) (sSeq (sSet 4 (eOp mulD (eV 4) (eV 5)))
    (sDo (eMut "list" appendM 3 (aCons (eV 5) (aNil))))) (sNx))
theorem side_loop {m : Int} : ∀ (n : Nat) (lo : Int) (S : List Int) (d : D) (a b : Option Cell), PoolOk d → Drawn m S → S.length + n ≤ 1000 → m ≤ 1000 → ∃ S' d' a' b', loopS (tgN 2) sideB (rangeL lo n) [some (.own c1 d), some (.val (.int m)), a, some (.own c1 (.lst (S.map .int))), some (.val (.int (pr S))), b] = .nx [some (.own c1 d'), some (.val (.int m)), a', some (.own c1 (.lst (S'.map .int))), some (.val (.int (pr S'))), b'] ∧ PoolOk d' ∧ Drawn m S' ∧ S'.length ≤ S.length + n
  | 0, lo, S, d, a, b, hd, hS, _, _ => ⟨S, d, a, b, by simp [rangeL, loopS], hd, hS, by omega⟩
  | n + 1, lo, S, d, a, b, hd, hS, hl, hm => by
    obtain ⟨r, d1, h1, h2, h3, h4⟩ := take_ok (n := 3) hd (by decide) (by decide)
    have e1 := take_at (env := [some (.own c1 d), some (.val (.int m)), some (.val (.int lo)), some (.own c1 (.lst (S.map .int))), some (.val (.int (pr S))), b]) (a := aCons (eC (.int 3)) (aNil)) (i := 0) (e2 := [some (.own c1 d), some (.val (.int m)), some (.val (.int lo)), some (.own c1 (.lst (S.map .int))), some (.val (.int (pr S))), b]) rfl rfl rfl h1
    have hp := pr_pos hS.good
    have hpm := hS.p
    have e2 : mulD (.int (pr S)) (.int (1 + r)) = some (.int (pr S * (1 + r))) := by rw [q_mul, if_pos (.inl (by omega))]
    rw [rangeL]
    unfold loopS
    by_cases hc : pr S * (1 + r) ≤ m
    · have hS' : Drawn m (S ++ [1 + r]) := ⟨fun s hs => by
        rcases List.mem_append.mp hs with hs | hs
        · exact hS.g s hs
        · have := List.mem_singleton.mp hs; omega, by rw [pr_snoc]; exact hc⟩
      obtain ⟨S', d', a', b', g1, g2, g3, g4⟩ := side_loop n (lo + 1) (S ++ [1 + r]) d1 (some (.val (.int lo))) (some (.val (.int (1 + r)))) h4 hS' (by simp; omega) hm
      refine ⟨S', d', a', b', ?_, g2, g3, by simp at g4 ⊢; omega⟩
      have hlen : (S.map D.int).length < 1000000 := by simp; omega
      have e3 : sideB [some (.own c1 d), some (.val (.int m)), some (.val (.int lo)), some (.own c1 (.lst (S.map .int))), some (.val (.int (pr S))), b] = .nx [some (.own c1 d1), some (.val (.int m)), some (.val (.int lo)), some (.own c1 (.lst ((S ++ [1 + r]).map .int))), some (.val (.int (pr (S ++ [1 + r])))), some (.val (.int (1 + r)))] := by
        have hlen' : S.length < 1000000 := by omega
        unfold sideB
        simp [q_bnd, q_ok, q_er, q_bad, q_some, q_none, q_eC, q_eV, q_eZ, q_eOp, q_eUn, q_aNil, q_aCons, q_eTup, q_eLst, q_eApp, q_toB, q_bOf, q_tNo, q_tAn, q_tOt, q_eIf, q_eAn, q_eOt, q_eNo, q_eFn, q_eFnO, q_frv, q_fro, q_fre, q_foo, q_foo0, q_foe, q_sSet, q_sSetO, q_lok, q_ler, q_sNx, q_sSeq, q_sIf, q_sRet, q_sRetF, q_sDo, q_sRetO, q_sRaise, q_sFor, q_sUnp, q_sAug, q_sSetI, q_isOwn, q_sMix, q_mix0, q_mix1, q_setC0, q_setC, q_eOpX, q_eAppX, q_xV, q_xS, q_yNil, q_yCons, q_rv, q_rs, q_rL0, q_rL, q_eSlX, q_eFld, q_eMeth, q_eMk, q_eMt, q_iDi, q_iDv, q_iAll, q_eDc, q_eDc2, q_eOpP, q_eIsi, q_it1, q_it2, q_it3, q_iR1, q_iZp, q_iZpM, q_zp, q_eLc, q_eLc2, q_oNone, q_oSome, q_iOf, q_eSl, q_sTry, q_eXf, q_fn, q_lt, q_le, q_gt, q_ge, q_sub, q_add, q_iadd, q_fdiv, q_mod, q_pow, q_imul, q_mul, q_neg, q_is, q_nis, q_eq, q_ne, q_tgN, q_tgT, q_tg0, q_tgC, q_obd, q_eCh, q_eLenSc, q_iEnA, q_enT, q_enL, q_aKw, q_tgUt, q_tgUl, entry, e1, e2, hc, eMut, tyD, appendM, hlen', pr_snoc]
      simp only [tgN, List.set_cons_succ, List.set_cons_zero]
      rw [e3]
      exact g1
    · obtain ⟨S', d', a', b', g1, g2, g3, g4⟩ := side_loop n (lo + 1) S d1 (some (.val (.int lo))) (some (.val (.int (1 + r)))) h4 hS (by omega) hm
      refine ⟨S', d', a', b', ?_, g2, g3, by omega⟩
      have e3 : sideB [some (.own c1 d), some (.val (.int m)), some (.val (.int lo)), some (.own c1 (.lst (S.map .int))), some (.val (.int (pr S))), b] = .nx [some (.own c1 d1), some (.val (.int m)), some (.val (.int lo)), some (.own c1 (.lst (S.map .int))), some (.val (.int (pr S))), some (.val (.int (1 + r)))] := by
        unfold sideB
        simp [q_bnd, q_ok, q_er, q_bad, q_some, q_none, q_eC, q_eV, q_eZ, q_eOp, q_eUn, q_aNil, q_aCons, q_eTup, q_eLst, q_eApp, q_toB, q_bOf, q_tNo, q_tAn, q_tOt, q_eIf, q_eAn, q_eOt, q_eNo, q_eFn, q_eFnO, q_frv, q_fro, q_fre, q_foo, q_foo0, q_foe, q_sSet, q_sSetO, q_lok, q_ler, q_sNx, q_sSeq, q_sIf, q_sRet, q_sRetF, q_sDo, q_sRetO, q_sRaise, q_sFor, q_sUnp, q_sAug, q_sSetI, q_isOwn, q_sMix, q_mix0, q_mix1, q_setC0, q_setC, q_eOpX, q_eAppX, q_xV, q_xS, q_yNil, q_yCons, q_rv, q_rs, q_rL0, q_rL, q_eSlX, q_eFld, q_eMeth, q_eMk, q_eMt, q_iDi, q_iDv, q_iAll, q_eDc, q_eDc2, q_eOpP, q_eIsi, q_it1, q_it2, q_it3, q_iR1, q_iZp, q_iZpM, q_zp, q_eLc, q_eLc2, q_oNone, q_oSome, q_iOf, q_eSl, q_sTry, q_eXf, q_fn, q_lt, q_le, q_gt, q_ge, q_sub, q_add, q_iadd, q_fdiv, q_mod, q_pow, q_imul, q_mul, q_neg, q_is, q_nis, q_eq, q_ne, q_tgN, q_tgT, q_tg0, q_tgC, q_obd, q_eCh, q_eLenSc, q_iEnA, q_enT, q_enL, q_aKw, q_tgUt, q_tgUl, entry, e1, e2, hc]
      simp only [tgN, List.set_cons_succ, List.set_cons_zero]
      rw [e3]
      exact g1
theorem side_ok {d : D} {m : Int} (hd : PoolOk d) (h1 : 1 ≤ m) (hm : m ≤ 1000) : ∃ S d', F__law_side d [.int m] = .ok (tI S) d' ∧ PoolOk d' ∧ Drawn m S ∧ S.length ≤ 2 := by
  obtain ⟨r, d1, q1, q2, q3, q4⟩ := take_ok (n := 3) hd (by decide) (by decide)
  have e1 := take_at (env := [some (.own c1 d), some (.val (.int m)), none, some (.own c1 (.lst [])), some (.val (.int 1)), none]) (a := aCons (eC (.int 3)) (aNil)) (i := 0) (e2 := [some (.own c1 d), some (.val (.int m)), none, some (.own c1 (.lst [])), some (.val (.int 1)), none]) rfl rfl rfl q1
  obtain ⟨S, d', a', b', g1, g2, g3, g4⟩ := side_loop (m := m) r.toNat 0 [] d1 none none q4 ⟨by simp, by simpa [pr] using h1⟩ (by simp; omega) hm
  refine ⟨S, d', ?_, g2, g3, by simp at g4; omega⟩
  have e2 := q_r1 (j := r) q2 (by omega)
  simp only [List.map_nil, pr] at g1
  unfold F__law_side fnSemT
  have e3 : m__law_side [some (.own c1 d), some (.val (.int m)), none, none, none, none] = .rt (.val (tI S)) [some (.own c1 d'), some (.val (.int m)), a', some (.own c1 (.lst (S.map .int))), some (.val (.int (pr S))), b'] := by
    unfold m__law_side
    have g1' : loopS (tgN 2) (sSeq (sSet 5 (eOp addD (eC (.int 1)) (eFnT c1 c1 F__law_take 0 (aCons (eC (.int 3)) (aNil)))))
    (sIf (toB (eOp leD (eOp mulD (eV 4) (eV 5)) (eV 1))) (sSeq (sSet 4 (eOp mulD (eV 4) (eV 5)))
    (sDo (eMut "list" appendM 3 (aCons (eV 5) (aNil))))) (sNx))) (rangeL 0 r.toNat) [some (.own c1 d1), some (.val (.int m)), none, some (.own c1 (.lst [])), some (.val (.int 1)), none] = _ := g1
    simp [q_bnd, q_ok, q_er, q_bad, q_some, q_none, q_eC, q_eV, q_eZ, q_eOp, q_eUn, q_aNil, q_aCons, q_eTup, q_eLst, q_eApp, q_toB, q_bOf, q_tNo, q_tAn, q_tOt, q_eIf, q_eAn, q_eOt, q_eNo, q_eFn, q_eFnO, q_frv, q_fro, q_fre, q_foo, q_foo0, q_foe, q_sSet, q_sSetO, q_lok, q_ler, q_sNx, q_sSeq, q_sIf, q_sRet, q_sRetF, q_sDo, q_sRetO, q_sRaise, q_sFor, q_sUnp, q_sAug, q_sSetI, q_isOwn, q_sMix, q_mix0, q_mix1, q_setC0, q_setC, q_eOpX, q_eAppX, q_xV, q_xS, q_yNil, q_yCons, q_rv, q_rs, q_rL0, q_rL, q_eSlX, q_eFld, q_eMeth, q_eMk, q_eMt, q_iDi, q_iDv, q_iAll, q_eDc, q_eDc2, q_eOpP, q_eIsi, q_it1, q_it2, q_it3, q_iR1, q_iZp, q_iZpM, q_zp, q_eLc, q_eLc2, q_oNone, q_oSome, q_iOf, q_eSl, q_sTry, q_eXf, q_fn, q_lt, q_le, q_gt, q_ge, q_sub, q_add, q_iadd, q_fdiv, q_mod, q_pow, q_imul, q_mul, q_neg, q_is, q_nis, q_eq, q_ne, q_tgN, q_tgT, q_tg0, q_tgC, q_obd, q_eCh, q_eLenSc, q_iEnA, q_enT, q_enL, q_aKw, q_tgUt, q_tgUl, entry, e1, e2, g1', tupleD]
  simp [entryT, e3, slot0, Sh.same, DL.c1]
end K03
end

section
set_option Elab.async false
set_option linter.all false
set_option maxRecDepth 100000
set_option maxHeartbeats 4000000
namespace K03
open PySem L2 PyProof.Rows PySem.Spec DL
/-! ### drawn rows -/
def rowB : SM := sSeq (sSet 6 (eOp idxD (eLst (aCons (eC (.int 0)) (aCons (eC (.int 0)) (aCons (eC (.int 1)) (aCons (eOp addD (eC (.int 1)) (eFnT c1 c1 F__law_take 0 (aCons (eC (.int 9)) (aNil)))) (aCons (eOp powD (eC (.int 10)) (eC (.int 30))) (aNil))))))) (eFnT c1 c1 F__law_take 0 (aCons (eC (.int 5)) (aNil)))))
    (sIf (toB (eOp gtD (eV 6) (eC (.int 0)))) (sDo (eMut "list" appendM 3 (aCons (eTup (aCons (eV 4) (aCons (eV 5) (aCons (eV 6) (aNil))))) (aNil)))) (sNx))
theorem pow30 : powD (.int 10) (.int 30) = some (.int 1000000000000000000000000000000) := by decide +kernel
/-- one row is drawn or not -/
theorem rowB_ok {d : D} {A B : Option Cell} {R : List Rw} {g t : List Int} {c : Option Cell} (hd : PoolOk d) (hl : R.length < 100000) : ∃ d' w, rowB [some (.own c1 d), A, B, some (.own c1 (.lst (R.map rD))), some (.val (tI g)), some (.val (tI t)), c] = .nx [some (.own c1 d'), A, B, some (.own c1 (.lst ((if 0 < w then R ++ [(g, t, w)] else R).map rD))), some (.val (tI g)), some (.val (tI t)), some (.val (.int w))] ∧ PoolOk d' ∧ w ≤ 1000000000000000000000000000000 := by
  obtain ⟨r, d1, q1, q2, q3, q4⟩ := take_ok (n := 9) hd (by decide) (by decide)
  obtain ⟨s, d2, p1, p2, p3, p4⟩ := take_ok (n := 5) q4 (by decide) (by decide)
  have e1 := take_at (env := [some (.own c1 d), A, B, some (.own c1 (.lst (R.map rD))), some (.val (tI g)), some (.val (tI t)), c]) (a := aCons (eC (.int 9)) (aNil)) (i := 0) (e2 := [some (.own c1 d), A, B, some (.own c1 (.lst (R.map rD))), some (.val (tI g)), some (.val (tI t)), c]) rfl rfl rfl q1
  have e2 := take_at (env := [some (.own c1 d1), A, B, some (.own c1 (.lst (R.map rD))), some (.val (tI g)), some (.val (tI t)), c]) (a := aCons (eC (.int 5)) (aNil)) (i := 0) (e2 := [some (.own c1 d1), A, B, some (.own c1 (.lst (R.map rD))), some (.val (tI g)), some (.val (tI t)), c]) rfl rfl rfl p1
  obtain ⟨w, hw, hw2⟩ : ∃ w, idxD (.lst [.int 0, .int 0, .int 1, .int (1 + r), .int 1000000000000000000000000000000]) (.int s) = some (.int w) ∧ w ≤ 1000000000000000000000000000000 := by
    have : s = 0 ∨ s = 1 ∨ s = 2 ∨ s = 3 ∨ s = 4 := by omega
    rcases this with rfl | rfl | rfl | rfl | rfl
    · exact ⟨0, rfl, by decide⟩
    · exact ⟨0, rfl, by decide⟩
    · exact ⟨1, rfl, by decide⟩
    · exact ⟨1 + r, rfl, by omega⟩
    · exact ⟨_, rfl, by decide⟩
  refine ⟨d2, w, ?_, p4, hw2⟩
  have hl' : R.length < 1000000 := by omega
  unfold rowB
  by_cases hp : 0 < w
  · simp [q_bnd, q_ok, q_er, q_bad, q_some, q_none, q_eC, q_eV, q_eZ, q_eOp, q_eUn, q_aNil, q_aCons, q_eTup, q_eLst, q_eApp, q_toB, q_bOf, q_tNo, q_tAn, q_tOt, q_eIf, q_eAn, q_eOt, q_eNo, q_eFn, q_eFnO, q_frv, q_fro, q_fre, q_foo, q_foo0, q_foe, q_sSet, q_sSetO, q_lok, q_ler, q_sNx, q_sSeq, q_sIf, q_sRet, q_sRetF, q_sDo, q_sRetO, q_sRaise, q_sFor, q_sUnp, q_sAug, q_sSetI, q_isOwn, q_sMix, q_mix0, q_mix1, q_setC0, q_setC, q_eOpX, q_eAppX, q_xV, q_xS, q_yNil, q_yCons, q_rv, q_rs, q_rL0, q_rL, q_eSlX, q_eFld, q_eMeth, q_eMk, q_eMt, q_iDi, q_iDv, q_iAll, q_eDc, q_eDc2, q_eOpP, q_eIsi, q_it1, q_it2, q_it3, q_iR1, q_iZp, q_iZpM, q_zp, q_eLc, q_eLc2, q_oNone, q_oSome, q_iOf, q_eSl, q_sTry, q_eXf, q_fn, q_lt, q_le, q_gt, q_ge, q_sub, q_add, q_iadd, q_fdiv, q_mod, q_pow, q_imul, q_mul, q_neg, q_is, q_nis, q_eq, q_ne, q_tgN, q_tgT, q_tg0, q_tgC, q_obd, q_eCh, q_eLenSc, q_iEnA, q_enT, q_enL, q_aKw, q_tgUt, q_tgUl, entry, e1, e2, pow30, hw, hp, eMut, tyD, appendM, hl', rD]
  · simp [q_bnd, q_ok, q_er, q_bad, q_some, q_none, q_eC, q_eV, q_eZ, q_eOp, q_eUn, q_aNil, q_aCons, q_eTup, q_eLst, q_eApp, q_toB, q_bOf, q_tNo, q_tAn, q_tOt, q_eIf, q_eAn, q_eOt, q_eNo, q_eFn, q_eFnO, q_frv, q_fro, q_fre, q_foo, q_foo0, q_foe, q_sSet, q_sSetO, q_lok, q_ler, q_sNx, q_sSeq, q_sIf, q_sRet, q_sRetF, q_sDo, q_sRetO, q_sRaise, q_sFor, q_sUnp, q_sAug, q_sSetI, q_isOwn, q_sMix, q_mix0, q_mix1, q_setC0, q_setC, q_eOpX, q_eAppX, q_xV, q_xS, q_yNil, q_yCons, q_rv, q_rs, q_rL0, q_rL, q_eSlX, q_eFld, q_eMeth, q_eMk, q_eMt, q_iDi, q_iDv, q_iAll, q_eDc, q_eDc2, q_eOpP, q_eIsi, q_it1, q_it2, q_it3, q_iR1, q_iZp, q_iZpM, q_zp, q_eLc, q_eLc2, q_oNone, q_oSome, q_iOf, q_eSl, q_sTry, q_eXf, q_fn, q_lt, q_le, q_gt, q_ge, q_sub, q_add, q_iadd, q_fdiv, q_mod, q_pow, q_imul, q_mul, q_neg, q_is, q_nis, q_eq, q_ne, q_tgN, q_tgT, q_tg0, q_tgC, q_obd, q_eCh, q_eLenSc, q_iEnA, q_enT, q_enL, q_aKw, q_tgUt, q_tgUl, entry, e1, e2, pow30, hw, hp]
theorem inner_rows {A B : Option Cell} {g : List Int} : ∀ (T : List (List Int)) (R : List Rw) (d : D) (c e : Option Cell), PoolOk d → R.length + T.length ≤ 100000 →
    ∃ N d' c' e', loopS (tgN 5) rowB (T.map tI) [some (.own c1 d), A, B, some (.own c1 (.lst (R.map rD))), some (.val (tI g)), c, e] = .nx [some (.own c1 d'), A, B, some (.own c1 (.lst ((R ++ N).map rD))), some (.val (tI g)), c', e'] ∧ PoolOk d' ∧ (N.map (·.2.1)).Sublist T ∧ ∀ r ∈ N, r.1 = g ∧ 1 ≤ r.2.2 ∧ r.2.2 ≤ 1000000000000000000000000000000
  | [], R, d, c, e, hd, _ => ⟨[], d, c, e, by simp [loopS], hd, by simp, by simp⟩
  | t :: T, R, d, c, e, hd, hl => by
    simp only [List.length_cons] at hl
    obtain ⟨d1, w, h1, h2, h3⟩ := rowB_ok (A := A) (B := B) (g := g) (t := t) (c := e) hd (R := R) (by omega)
    rw [List.map_cons]
    unfold loopS
    simp only [tgN, List.set_cons_succ, List.set_cons_zero]
    rw [h1]
    by_cases hw : 0 < w
    · simp only [hw, if_true]
      obtain ⟨N, d', c', e', q1, q2, q3, q4⟩ := inner_rows (A := A) (B := B) (g := g) T (R ++ [(g, t, w)]) d1 (some (.val (tI t))) (some (.val (.int w))) h2 (by simp; omega)
      refine ⟨(g, t, w) :: N, d', c', e', ?_, q2, ?_, ?_⟩
      · rw [q1]
        simp
      · rw [List.map_cons]
        exact q3.cons_cons _
      · intro r hr
        rcases List.mem_cons.mp hr with rfl | hr
        · exact ⟨rfl, by simp; omega, h3⟩
        · exact q4 r hr
    · simp only [hw, if_false]
      obtain ⟨N, d', c', e', q1, q2, q3, q4⟩ := inner_rows (A := A) (B := B) (g := g) T R d1 (some (.val (tI t))) (some (.val (.int w))) h2 (by omega)
      exact ⟨N, d', c', e', q1, q2, q3.cons _, q4⟩
theorem sub_ord {g : List Int} {T : List (List Int)} {N : List Rw} (hT : T.Pairwise ltV) (h : (N.map (·.2.1)).Sublist T) (hg : ∀ r ∈ N, r.1 = g) : Ord N := by
  have h1 := List.pairwise_map.mp (hT.sublist h)
  unfold Ord
  exact (List.Pairwise.imp_of_mem fun {a b} ha hb q => ltR_r (by rw [hg a ha, hg b hb]) q) h1
theorem outer_rows {A B : List Int} (hB : Good B) (lB : B.length ≤ 30) (pB : pr B ≤ 1024) : ∀ (X : List (List Int)) (R : List Rw) (d : D) (b c e : Option Cell), PoolOk d → X.Pairwise ltV → R.length + X.length * (allV B).length ≤ 100000 →
    ∃ N d' b' c' e', loopS (tgN 4) (sFor (iAll (eFn F__law_worths [] (aCons (eV 2) (aNil)))) (tgN 5) rowB) (X.map tI) [some (.own c1 d), some (.val (tI A)), some (.val (tI B)), some (.own c1 (.lst (R.map rD))), b, c, e] = .nx [some (.own c1 d'), some (.val (tI A)), some (.val (tI B)), some (.own c1 (.lst ((R ++ N).map rD))), b', c', e'] ∧ PoolOk d' ∧ N.length ≤ X.length * (allV B).length ∧ (∀ r ∈ N, r.1 ∈ X ∧ r.2.1 ∈ allV B ∧ 1 ≤ r.2.2 ∧ r.2.2 ≤ 1000000000000000000000000000000) ∧ Ord N
  | [], R, d, b, c, e, hd, _, _ => ⟨[], d, b, c, e, by simp [loopS], hd, by simp, by simp, by simp [Ord]⟩
  | g :: X, R, d, b, c, e, hd, ho, hl => by
    have hw := worths hB lB pB
    rw [List.length_cons, Nat.add_mul, Nat.one_mul] at hl
    obtain ⟨N, d1, c1', e1', q1, q2, q3, q4⟩ := inner_rows (A := some (.val (tI A))) (B := some (.val (tI B))) (g := g) (allV B) R d c e hd (by omega)
    have hN : N.length ≤ (allV B).length := by simpa using q3.length_le
    obtain ⟨M, d2, b2, c2, e2, p1, p2, p3, p4, p5⟩ := outer_rows (A := A) hB lB pB X (R ++ N) d1 (some (.val (tI g))) c1' e1' q2 (List.pairwise_cons.mp ho).2 (by rw [List.length_append]; omega)
    refine ⟨N ++ M, d2, b2, c2, e2, ?_, p2, ?_, ?_, ?_⟩
    · rw [List.map_cons]
      unfold loopS
      simp only [tgN, List.set_cons_succ, List.set_cons_zero]
      have e3 : sFor (iAll (eFn F__law_worths [] (aCons (eV 2) (aNil)))) (tgN 5) rowB [some (.own c1 d), some (.val (tI A)), some (.val (tI B)), some (.own c1 (.lst (R.map rD))), some (.val (tI g)), c, e] = .nx [some (.own c1 d1), some (.val (tI A)), some (.val (tI B)), some (.own c1 (.lst ((R ++ N).map rD))), some (.val (tI g)), c1', e1'] := by
        rw [q_sFor]
        have e4 : iAll (eFn F__law_worths [] (aCons (eV 2) (aNil))) [some (.own c1 d), some (.val (tI A)), some (.val (tI B)), some (.own c1 (.lst (R.map rD))), some (.val (tI g)), c, e] = .ok ((allV B).map tI, [some (.own c1 d), some (.val (tI A)), some (.val (tI B)), some (.own c1 (.lst (R.map rD))), some (.val (tI g)), c, e]) := by
          simp [q_bnd, q_ok, q_er, q_bad, q_some, q_none, q_eC, q_eV, q_eZ, q_eOp, q_eUn, q_aNil, q_aCons, q_eTup, q_eLst, q_eApp, q_toB, q_bOf, q_tNo, q_tAn, q_tOt, q_eIf, q_eAn, q_eOt, q_eNo, q_eFn, q_eFnO, q_frv, q_fro, q_fre, q_foo, q_foo0, q_foe, q_sSet, q_sSetO, q_lok, q_ler, q_sNx, q_sSeq, q_sIf, q_sRet, q_sRetF, q_sDo, q_sRetO, q_sRaise, q_sFor, q_sUnp, q_sAug, q_sSetI, q_isOwn, q_sMix, q_mix0, q_mix1, q_setC0, q_setC, q_eOpX, q_eAppX, q_xV, q_xS, q_yNil, q_yCons, q_rv, q_rs, q_rL0, q_rL, q_eSlX, q_eFld, q_eMeth, q_eMk, q_eMt, q_iDi, q_iDv, q_iAll, q_eDc, q_eDc2, q_eOpP, q_eIsi, q_it1, q_it2, q_it3, q_iR1, q_iZp, q_iZpM, q_zp, q_eLc, q_eLc2, q_oNone, q_oSome, q_iOf, q_eSl, q_sTry, q_eXf, q_fn, q_lt, q_le, q_gt, q_ge, q_sub, q_add, q_iadd, q_fdiv, q_mod, q_pow, q_imul, q_mul, q_neg, q_is, q_nis, q_eq, q_ne, q_tgN, q_tgT, q_tg0, q_tgC, q_obd, q_eCh, q_eLenSc, q_iEnA, q_enT, q_enL, q_aKw, q_tgUt, q_tgUl, entry, hw]
        rw [e4, q_lok]
        exact q1
      rw [e3]
      simp only
      rw [p1]
      simp
    · rw [List.length_append, List.length_cons, Nat.add_mul, Nat.one_mul]
      omega
    · intro r hr
      rcases List.mem_append.mp hr with hr | hr
      · have h := q4 r hr
        exact ⟨by rw [h.1]; exact List.mem_cons_self, q3.subset (List.mem_map.mpr ⟨r, hr, rfl⟩), h.2⟩
      · have h := p4 r hr
        exact ⟨List.mem_cons_of_mem _ h.1, h.2⟩
    · unfold Ord
      refine List.pairwise_append.mpr ⟨sub_ord (allV_ord B) q3 fun r hr => (q4 r hr).1, p5, ?_⟩
      intro r hr s hs
      refine ltR_l ?_
      rw [(q4 r hr).1]
      exact (List.pairwise_cons.mp ho).1 _ (p4 s hs).1
theorem val_mem : ∀ {S g : List Int}, g ∈ allV S → (zipL (g.map D.int) (S.map .int)).all pairB = true
  | [], g, h => by simp [allV] at h; simp [h, zipL]
  | s :: S, g, h => by
    rw [allV_cons] at h
    obtain ⟨i, hi, h⟩ := List.mem_flatMap.mp h
    obtain ⟨a, ha, rfl⟩ := List.mem_map.mp h
    have := List.mem_range.mp hi
    simp only [List.map_cons, zipL, List.all_cons, val_mem ha, Bool.and_true, pairB, itemB, intB, Bool.and_eq_true, decide_eq_true_eq]
    omega
theorem valuesB_mem {S g : List Int} (h : g ∈ allV S) : valuesB S (tI g) = true := by
  simp only [valuesB, Bool.and_eq_true, decide_eq_true_eq]
  exact ⟨by simpa using allV_mem_len h, val_mem h⟩
end K03
end

section
set_option Elab.async false
set_option linter.all false
set_option maxRecDepth 100000
set_option maxHeartbeats 4000000
namespace K03
open PySem L2 PyProof.Rows PySem.Spec DL
local macro_rules
  | `(tactic| push_cast [$xs,*]) => `(tactic| simp -implicitDefEqProofs [q_bnd, q_ok, q_er, q_bad, q_some, q_none, q_eC, q_eV, q_eZ, q_eOp, q_eUn, q_aNil, q_aCons, q_eTup, q_eLst, q_eApp, q_toB, q_bOf, q_tNo, q_tAn, q_tOt, q_eIf, q_eAn, q_eOt, q_eNo, q_eFn, q_eFnO, q_frv, q_fro, q_fre, q_foo, q_foo0, q_foe, q_sSet, q_sSetO, q_lok, q_ler, q_sNx, q_sSeq, q_sIf, q_sRet, q_sRetF, q_sDo, q_sRetO, q_sRaise, q_sFor, q_sUnp, q_sAug, q_sSetI, q_isOwn, q_sMix, q_mix0, q_mix1, q_setC0, q_setC, q_eOpX, q_eAppX, q_xV, q_xS, q_yNil, q_yCons, q_rv, q_rs, q_rL0, q_rL, q_eSlX, q_eFld, q_eMeth, q_eMk, q_eMt, q_iDi, q_iDv, q_iAll, q_eDc, q_eDc2, q_eOpP, q_eIsi, q_it1, q_it2, q_it3, q_iR1, q_iZp, q_iZpM, q_zp, q_eLc, q_eLc2, q_oNone, q_oSome, q_iOf, q_eSl, q_sTry, q_eXf, q_fn, q_lt, q_le, q_gt, q_ge, q_sub, q_add, q_iadd, q_fdiv, q_mod, q_pow, q_imul, q_mul, q_neg, q_is, q_nis, q_eq, q_ne, q_tgN, q_tgT, q_tg0, q_tgC, q_obd, q_eCh, q_eLenSc, q_iEnA, q_enT, q_enL, q_aKw, q_tgUt, q_tgUl, entry, $xs,*])
/-! ### k03: Table refused, and caught -/
theorem ti_1 {x1 x2 x3 x4 : D} {e1 : List (Str × D)}
    (h1 : F_check_sizes [x2] = .er c_InvalidSizes e1) :
    F_Table___init__ x1 [x2, x3, x4] = .er c_InvalidSizes e1 x1 := by
  refine ft_er (p := m_Table___init__) (e0 := [some (.own (.ob [("weights", c1)]) x1), some (.val x2), some (.val x3), some (.val x4), none]) rfl rfl (e := [some (.own (.ob [("weights", c1)]) x1), some (.val x2), some (.val x3), some (.val x4), none]) ?_ rfl
  unfold m_Table___init__
  generalize F_check_sizes = G1 at *
  refine seq_e ?_
  push_cast [h1]

theorem ti_2 {x1 x2 x3 x4 v1 : D} {e1 : List (Str × D)}
    (h1 : F_check_sizes [x2] = .ok (.val v1))
    (h2 : F_check_sizes [x3] = .er c_InvalidSizes e1) :
    F_Table___init__ x1 [x2, x3, x4] = .er c_InvalidSizes e1 x1 := by
  refine ft_er (p := m_Table___init__) (e0 := [some (.own (.ob [("weights", c1)]) x1), some (.val x2), some (.val x3), some (.val x4), none]) rfl rfl (e := [some (.own (.ob [("weights", c1)]) x1), some (.val x2), some (.val x3), some (.val x4), none]) ?_ rfl
  unfold m_Table___init__
  generalize F_check_sizes = G1 at *
  refine seq_n (e1 := [some (.own (.ob [("weights", c1)]) x1), some (.val x2), some (.val x3), some (.val x4), none]) (by push_cast [h1]) ?_
  refine seq_e ?_
  push_cast [h2]

theorem ti_3 {x1 x2 x3 x4 v1 v2 : D} {n1 n2 n3 : Int} {e1 : List (Str × D)}
    (h1 : F_check_sizes [x2] = .ok (.val v1))
    (h2 : F_check_sizes [x3] = .ok (.val v2))
    (h3 : F_product [x2] = .ok (.val (.int n1)))
    (h4 : F_product [x3] = .ok (.val (.int n2)))
    (h5 : mulD (.int n1) (.int n2) = some (.int n3))
    (h6 : F_check_product [.int n3] = .er c_TooWide e1) :
    F_Table___init__ x1 [x2, x3, x4] = .er c_TooWide e1 x1 := by
  refine ft_er (p := m_Table___init__) (e0 := [some (.own (.ob [("weights", c1)]) x1), some (.val x2), some (.val x3), some (.val x4), none]) rfl rfl (e := [some (.own (.ob [("weights", c1)]) x1), some (.val x2), some (.val x3), some (.val x4), none]) ?_ rfl
  unfold m_Table___init__
  generalize F_check_sizes = G1 at *
  generalize F_product = G2 at *
  generalize F_check_product = G3 at *
  refine seq_n (e1 := [some (.own (.ob [("weights", c1)]) x1), some (.val x2), some (.val x3), some (.val x4), none]) (by push_cast [h1]) ?_
  refine seq_n (e1 := [some (.own (.ob [("weights", c1)]) x1), some (.val x2), some (.val x3), some (.val x4), none]) (by push_cast [h2]) ?_
  refine seq_e ?_
  push_cast [h3, h4, h5, h6]

theorem ti_4 {x1 x2 x3 x4 v1 v2 : D} {n1 n2 n3 : Int} {v3 : D}
    (h1 : F_check_sizes [x2] = .ok (.val v1))
    (h2 : F_check_sizes [x3] = .ok (.val v2))
    (h3 : F_product [x2] = .ok (.val (.int n1)))
    (h4 : F_product [x3] = .ok (.val (.int n2)))
    (h5 : mulD (.int n1) (.int n2) = some (.int n3))
    (h6 : F_check_product [.int n3] = .ok (.val v3))
    (h7 : isiB [50] [.b "list", .b "tuple"] x4 = some false) :
    F_Table___init__ x1 [x2, x3, x4] = .er c_InvalidRow [("value", x4)] x1 := by
  refine ft_er (p := m_Table___init__) (e0 := [some (.own (.ob [("weights", c1)]) x1), some (.val x2), some (.val x3), some (.val x4), none]) rfl rfl (e := [some (.own (.ob [("weights", c1)]) x1), some (.val x2), some (.val x3), some (.val x4), none]) ?_ rfl
  unfold m_Table___init__
  generalize F_check_sizes = G1 at *
  generalize F_product = G2 at *
  generalize F_check_product = G3 at *
  refine seq_n (e1 := [some (.own (.ob [("weights", c1)]) x1), some (.val x2), some (.val x3), some (.val x4), none]) (by push_cast [h1]) ?_
  refine seq_n (e1 := [some (.own (.ob [("weights", c1)]) x1), some (.val x2), some (.val x3), some (.val x4), none]) (by push_cast [h2]) ?_
  refine seq_n (e1 := [some (.own (.ob [("weights", c1)]) x1), some (.val x2), some (.val x3), some (.val x4), none]) (by push_cast [h3, h4, h5, h6]) ?_
  refine seq_e ?_
  push_cast [h7]

theorem cg_m {x1 x2 x3 o1 : D}
    (h1 : F_Table___init__ (.obj 50 []) [x1, x2, x3] = .ok .non o1)
    (h2 : isD (.non) (.non) = some (.bl true)) :
    F__law_caught [x1, x2, x3] = .ok (.own c1 (.lst [.str "made"])) := by
  refine fn_ro (p := m__law_caught) (e0 := [some (.val x1), some (.val x2), some (.val x3), none, none, none]) rfl rfl (e := [some (.val x1), some (.val x2), some (.val x3), some (.val (.non)), none, none]) ?_
  unfold m__law_caught
  generalize F_Table___init__ = G1 at *
  refine seq_n (e1 := [some (.val x1), some (.val x2), some (.val x3), some (.val (.non)), none, none]) (by push_cast []) ?_
  refine seq_n (e1 := [some (.val x1), some (.val x2), some (.val x3), some (.val (.non)), none, none]) (by push_cast [sTryK, h1]) ?_
  refine seq_r ?_
  push_cast [h2]

theorem cg_s {x1 x2 x3 : D} {e1 : List (Str × D)} {d1 v1 v2 v3 v4 v5 v6 v7 v8 : D}
    (h1 : F_Table___init__ (.obj 50 []) [x1, x2, x3] = .er c_InvalidSizes e1 d1)
    (h2 : isD (.set [.obj c_InvalidSizes e1]) (.non) = some (.bl false))
    (h3 : viD [(c_InvalidSizes, true), (c_TooWide, false), (c_InvalidRow, false), (c_InvalidValues, false)] (.set [.obj c_InvalidSizes e1]) = some v1)
    (h4 : viD [(c_InvalidSizes, false), (c_TooWide, true), (c_InvalidRow, false), (c_InvalidValues, false)] (.set [.obj c_InvalidSizes e1]) = some v2)
    (h5 : viD [(c_InvalidSizes, false), (c_TooWide, false), (c_InvalidRow, true), (c_InvalidValues, false)] (.set [.obj c_InvalidSizes e1]) = some v3)
    (h6 : viD [(c_InvalidSizes, false), (c_TooWide, false), (c_InvalidRow, false), (c_InvalidValues, true)] (.set [.obj c_InvalidSizes e1]) = some v4)
    (h7 : List.length ([v1, v2, v3] : List D) < 1000000)
    (h8 : tyD (.lst [v1, v2, v3, v4]) = "list")
    (h9 : cntLM (.lst [v1, v2, v3, v4]) [.bl true] = some v5)
    (h10 : eqB v5 (.int 1) = some true)
    (h11 : viD [(c_InvalidSizes, true), (c_TooWide, true), (c_InvalidRow, true), (c_InvalidValues, true)] (.set [.obj c_InvalidSizes e1]) = some (.bl true))
    (h12 : tyD (.lst [v1, v2, v3, v4]) = "list")
    (h13 : idxM (.lst [v1, v2, v3, v4]) [.bl true] = some v6)
    (h14 : idxD (.lst [v1, v2, v3, v4]) (.int 1) = some (.bl false))
    (h15 : vfD [c_InvalidSizes, c_InvalidRow, c_InvalidValues] "value" (.set [.obj c_InvalidSizes e1]) = some v7)
    (h16 : (orA reprL reprN) [v7] = some v8) :
    F__law_caught [x1, x2, x3] = .ok (.own c1 (.lst [v6, v8])) := by
  refine fn_ro (p := m__law_caught) (e0 := [some (.val x1), some (.val x2), some (.val x3), none, none, none]) rfl rfl (e := [some (.val x1), some (.val x2), some (.val x3), some (.val (.set [.obj c_InvalidSizes e1])), none, some (.own c1 (.lst [v1, v2, v3, v4]))]) ?_
  unfold m__law_caught
  have p1 : eMut "list" appendM 5 (aCons (eUn (viD [(c_InvalidSizes, false), (c_TooWide, false), (c_InvalidRow, false), (c_InvalidValues, true)]) (eV 3)) aNil) [some (.val x1), some (.val x2), some (.val x3), some (.val (.set [.obj c_InvalidSizes e1])), none, some (.own c1 (.lst [v1, v2, v3]))] = .ok (.non, [some (.val x1), some (.val x2), some (.val x3), some (.val (.set [.obj c_InvalidSizes e1])), none, some (.own c1 (.lst [v1, v2, v3, v4]))]) := q_app (a := aCons (eUn (viD [(c_InvalidSizes, false), (c_TooWide, false), (c_InvalidRow, false), (c_InvalidValues, true)]) (eV 3)) aNil) (env := [some (.val x1), some (.val x2), some (.val x3), some (.val (.set [.obj c_InvalidSizes e1])), none, some (.own c1 (.lst [v1, v2, v3]))]) (e2 := [some (.val x1), some (.val x2), some (.val x3), some (.val (.set [.obj c_InvalidSizes e1])), none, some (.own c1 (.lst [v1, v2, v3]))]) rfl (by push_cast [h6]) rfl h7
  generalize F_Table___init__ = G1 at *
  generalize orA reprL reprN = G2 at *
  refine seq_n (e1 := [some (.val x1), some (.val x2), some (.val x3), some (.val (.non)), none, none]) (by push_cast []) ?_
  refine seq_n (e1 := [some (.val x1), some (.val x2), some (.val x3), some (.val (.set [.obj c_InvalidSizes e1])), none, none]) (by push_cast [sTryK, h1, isa, nE, clrK, keepX, keepC, sCpX, c_InvalidSizes, c_NetworkError]) ?_
  refine seq_n (e1 := [some (.val x1), some (.val x2), some (.val x3), some (.val (.set [.obj c_InvalidSizes e1])), none, none]) (by push_cast [h2]) ?_
  refine seq_n (e1 := [some (.val x1), some (.val x2), some (.val x3), some (.val (.set [.obj c_InvalidSizes e1])), none, some (.own c1 (.lst [v1, v2, v3]))]) (by push_cast [h3, h4, h5]) ?_
  refine seq_n (e1 := [some (.val x1), some (.val x2), some (.val x3), some (.val (.set [.obj c_InvalidSizes e1])), none, some (.own c1 (.lst [v1, v2, v3, v4]))]) (by push_cast [h6, p1]) ?_
  refine seq_n (e1 := [some (.val x1), some (.val x2), some (.val x3), some (.val (.set [.obj c_InvalidSizes e1])), none, some (.own c1 (.lst [v1, v2, v3, v4]))]) (by push_cast [h8, h9, h10, h11]) ?_
  push_cast [h12, h13, h14, h15, h16]

theorem cg_w {x1 x2 x3 : D} {e1 : List (Str × D)} {d1 v1 v2 v3 v4 v5 v6 v7 : D}
    (h1 : F_Table___init__ (.obj 50 []) [x1, x2, x3] = .er c_TooWide e1 d1)
    (h2 : isD (.set [.obj c_TooWide e1]) (.non) = some (.bl false))
    (h3 : viD [(c_InvalidSizes, true), (c_TooWide, false), (c_InvalidRow, false), (c_InvalidValues, false)] (.set [.obj c_TooWide e1]) = some v1)
    (h4 : viD [(c_InvalidSizes, false), (c_TooWide, true), (c_InvalidRow, false), (c_InvalidValues, false)] (.set [.obj c_TooWide e1]) = some v2)
    (h5 : viD [(c_InvalidSizes, false), (c_TooWide, false), (c_InvalidRow, true), (c_InvalidValues, false)] (.set [.obj c_TooWide e1]) = some v3)
    (h6 : viD [(c_InvalidSizes, false), (c_TooWide, false), (c_InvalidRow, false), (c_InvalidValues, true)] (.set [.obj c_TooWide e1]) = some v4)
    (h7 : List.length ([v1, v2, v3] : List D) < 1000000)
    (h8 : tyD (.lst [v1, v2, v3, v4]) = "list")
    (h9 : cntLM (.lst [v1, v2, v3, v4]) [.bl true] = some v5)
    (h10 : eqB v5 (.int 1) = some true)
    (h11 : viD [(c_InvalidSizes, true), (c_TooWide, true), (c_InvalidRow, true), (c_InvalidValues, true)] (.set [.obj c_TooWide e1]) = some (.bl true))
    (h12 : tyD (.lst [v1, v2, v3, v4]) = "list")
    (h13 : idxM (.lst [v1, v2, v3, v4]) [.bl true] = some v6)
    (h14 : idxD (.lst [v1, v2, v3, v4]) (.int 1) = some (.bl true))
    (h15 : vfD [c_TooWide] "count" (.set [.obj c_TooWide e1]) = some v7) :
    F__law_caught [x1, x2, x3] = .ok (.own c1 (.lst [v6, v7])) := by
  refine fn_ro (p := m__law_caught) (e0 := [some (.val x1), some (.val x2), some (.val x3), none, none, none]) rfl rfl (e := [some (.val x1), some (.val x2), some (.val x3), some (.val (.set [.obj c_TooWide e1])), none, some (.own c1 (.lst [v1, v2, v3, v4]))]) ?_
  unfold m__law_caught
  have p1 : eMut "list" appendM 5 (aCons (eUn (viD [(c_InvalidSizes, false), (c_TooWide, false), (c_InvalidRow, false), (c_InvalidValues, true)]) (eV 3)) aNil) [some (.val x1), some (.val x2), some (.val x3), some (.val (.set [.obj c_TooWide e1])), none, some (.own c1 (.lst [v1, v2, v3]))] = .ok (.non, [some (.val x1), some (.val x2), some (.val x3), some (.val (.set [.obj c_TooWide e1])), none, some (.own c1 (.lst [v1, v2, v3, v4]))]) := q_app (a := aCons (eUn (viD [(c_InvalidSizes, false), (c_TooWide, false), (c_InvalidRow, false), (c_InvalidValues, true)]) (eV 3)) aNil) (env := [some (.val x1), some (.val x2), some (.val x3), some (.val (.set [.obj c_TooWide e1])), none, some (.own c1 (.lst [v1, v2, v3]))]) (e2 := [some (.val x1), some (.val x2), some (.val x3), some (.val (.set [.obj c_TooWide e1])), none, some (.own c1 (.lst [v1, v2, v3]))]) rfl (by push_cast [h6]) rfl h7
  generalize F_Table___init__ = G1 at *
  refine seq_n (e1 := [some (.val x1), some (.val x2), some (.val x3), some (.val (.non)), none, none]) (by push_cast []) ?_
  refine seq_n (e1 := [some (.val x1), some (.val x2), some (.val x3), some (.val (.set [.obj c_TooWide e1])), none, none]) (by push_cast [sTryK, h1, isa, nE, clrK, keepX, keepC, sCpX, c_TooWide, c_NetworkError]) ?_
  refine seq_n (e1 := [some (.val x1), some (.val x2), some (.val x3), some (.val (.set [.obj c_TooWide e1])), none, none]) (by push_cast [h2]) ?_
  refine seq_n (e1 := [some (.val x1), some (.val x2), some (.val x3), some (.val (.set [.obj c_TooWide e1])), none, some (.own c1 (.lst [v1, v2, v3]))]) (by push_cast [h3, h4, h5]) ?_
  refine seq_n (e1 := [some (.val x1), some (.val x2), some (.val x3), some (.val (.set [.obj c_TooWide e1])), none, some (.own c1 (.lst [v1, v2, v3, v4]))]) (by push_cast [h6, p1]) ?_
  refine seq_n (e1 := [some (.val x1), some (.val x2), some (.val x3), some (.val (.set [.obj c_TooWide e1])), none, some (.own c1 (.lst [v1, v2, v3, v4]))]) (by push_cast [h8, h9, h10, h11]) ?_
  push_cast [h12, h13, h14, h15]

theorem cg_r {x1 x2 x3 : D} {e1 : List (Str × D)} {d1 v1 v2 v3 v4 v5 v6 v7 v8 : D}
    (h1 : F_Table___init__ (.obj 50 []) [x1, x2, x3] = .er c_InvalidRow e1 d1)
    (h2 : isD (.set [.obj c_InvalidRow e1]) (.non) = some (.bl false))
    (h3 : viD [(c_InvalidSizes, true), (c_TooWide, false), (c_InvalidRow, false), (c_InvalidValues, false)] (.set [.obj c_InvalidRow e1]) = some v1)
    (h4 : viD [(c_InvalidSizes, false), (c_TooWide, true), (c_InvalidRow, false), (c_InvalidValues, false)] (.set [.obj c_InvalidRow e1]) = some v2)
    (h5 : viD [(c_InvalidSizes, false), (c_TooWide, false), (c_InvalidRow, true), (c_InvalidValues, false)] (.set [.obj c_InvalidRow e1]) = some v3)
    (h6 : viD [(c_InvalidSizes, false), (c_TooWide, false), (c_InvalidRow, false), (c_InvalidValues, true)] (.set [.obj c_InvalidRow e1]) = some v4)
    (h7 : List.length ([v1, v2, v3] : List D) < 1000000)
    (h8 : tyD (.lst [v1, v2, v3, v4]) = "list")
    (h9 : cntLM (.lst [v1, v2, v3, v4]) [.bl true] = some v5)
    (h10 : eqB v5 (.int 1) = some true)
    (h11 : viD [(c_InvalidSizes, true), (c_TooWide, true), (c_InvalidRow, true), (c_InvalidValues, true)] (.set [.obj c_InvalidRow e1]) = some (.bl true))
    (h12 : tyD (.lst [v1, v2, v3, v4]) = "list")
    (h13 : idxM (.lst [v1, v2, v3, v4]) [.bl true] = some v6)
    (h14 : idxD (.lst [v1, v2, v3, v4]) (.int 1) = some (.bl false))
    (h15 : vfD [c_InvalidSizes, c_InvalidRow, c_InvalidValues] "value" (.set [.obj c_InvalidRow e1]) = some v7)
    (h16 : (orA reprL reprN) [v7] = some v8) :
    F__law_caught [x1, x2, x3] = .ok (.own c1 (.lst [v6, v8])) := by
  refine fn_ro (p := m__law_caught) (e0 := [some (.val x1), some (.val x2), some (.val x3), none, none, none]) rfl rfl (e := [some (.val x1), some (.val x2), some (.val x3), some (.val (.set [.obj c_InvalidRow e1])), none, some (.own c1 (.lst [v1, v2, v3, v4]))]) ?_
  unfold m__law_caught
  have p1 : eMut "list" appendM 5 (aCons (eUn (viD [(c_InvalidSizes, false), (c_TooWide, false), (c_InvalidRow, false), (c_InvalidValues, true)]) (eV 3)) aNil) [some (.val x1), some (.val x2), some (.val x3), some (.val (.set [.obj c_InvalidRow e1])), none, some (.own c1 (.lst [v1, v2, v3]))] = .ok (.non, [some (.val x1), some (.val x2), some (.val x3), some (.val (.set [.obj c_InvalidRow e1])), none, some (.own c1 (.lst [v1, v2, v3, v4]))]) := q_app (a := aCons (eUn (viD [(c_InvalidSizes, false), (c_TooWide, false), (c_InvalidRow, false), (c_InvalidValues, true)]) (eV 3)) aNil) (env := [some (.val x1), some (.val x2), some (.val x3), some (.val (.set [.obj c_InvalidRow e1])), none, some (.own c1 (.lst [v1, v2, v3]))]) (e2 := [some (.val x1), some (.val x2), some (.val x3), some (.val (.set [.obj c_InvalidRow e1])), none, some (.own c1 (.lst [v1, v2, v3]))]) rfl (by push_cast [h6]) rfl h7
  generalize F_Table___init__ = G1 at *
  generalize orA reprL reprN = G2 at *
  refine seq_n (e1 := [some (.val x1), some (.val x2), some (.val x3), some (.val (.non)), none, none]) (by push_cast []) ?_
  refine seq_n (e1 := [some (.val x1), some (.val x2), some (.val x3), some (.val (.set [.obj c_InvalidRow e1])), none, none]) (by push_cast [sTryK, h1, isa, nE, clrK, keepX, keepC, sCpX, c_InvalidRow, c_NetworkError]) ?_
  refine seq_n (e1 := [some (.val x1), some (.val x2), some (.val x3), some (.val (.set [.obj c_InvalidRow e1])), none, none]) (by push_cast [h2]) ?_
  refine seq_n (e1 := [some (.val x1), some (.val x2), some (.val x3), some (.val (.set [.obj c_InvalidRow e1])), none, some (.own c1 (.lst [v1, v2, v3]))]) (by push_cast [h3, h4, h5]) ?_
  refine seq_n (e1 := [some (.val x1), some (.val x2), some (.val x3), some (.val (.set [.obj c_InvalidRow e1])), none, some (.own c1 (.lst [v1, v2, v3, v4]))]) (by push_cast [h6, p1]) ?_
  refine seq_n (e1 := [some (.val x1), some (.val x2), some (.val x3), some (.val (.set [.obj c_InvalidRow e1])), none, some (.own c1 (.lst [v1, v2, v3, v4]))]) (by push_cast [h8, h9, h10, h11]) ?_
  push_cast [h12, h13, h14, h15, h16]

theorem mk_sz1 {d b c : D} (h : plain d = true) (hb : sizesB d = false) : ∃ o, F_Table___init__ (.obj 50 []) [d, b, c] = .er c_InvalidSizes [("value", d)] o := by
  have e1 := check_sizes h
  rw [if_neg (by rw [hb]; decide)] at e1
  exact ⟨_, ti_1 e1⟩
theorem mk_sz2 {A : List Int} {d c : D} (hA : Good A) (la : A.length ≤ 30) (h : plain d = true) (hb : sizesB d = false) : ∃ o, F_Table___init__ (.obj 50 []) [tI A, d, c] = .er c_InvalidSizes [("value", d)] o := by
  have e1 := check_sizes (plain_tI A)
  rw [if_pos (sizesB_tI hA la)] at e1
  have e2 := check_sizes h
  rw [if_neg (by rw [hb]; decide)] at e2
  exact ⟨_, ti_2 e1 e2⟩
theorem mk_wide {A B : List Int} {c : D} (hA : Good A) (hB : Good B) (la : A.length ≤ 30) (lb : B.length ≤ 30) (ha : pr A ≤ 1024) (h : 1024 < pr A * pr B) : ∃ o, F_Table___init__ (.obj 50 []) [tI A, tI B, c] = .er c_TooWide [("count", .int (pr A * pr B))] o := by
  have e1 := check_sizes (plain_tI A)
  rw [if_pos (sizesB_tI hA la)] at e1
  have e2 := check_sizes (plain_tI B)
  rw [if_pos (sizesB_tI hB lb)] at e2
  have h1 := pr_pos hA
  have e5 : mulD (.int (pr A)) (.int (pr B)) = some (.int (pr A * pr B)) := by rw [q_mul, if_pos (.inl (by omega))]
  have e6 := check_product (pr A * pr B)
  rw [if_neg (by omega)] at e6
  exact ⟨_, ti_3 e1 e2 (product hA) (product hB) e5 e6⟩
section
variable {A B : List Int} (h : Side A B)
include h
theorem mk_kind {c : D} (hc : isiB [50] [.b "list", .b "tuple"] c = some false) : ∃ o, F_Table___init__ (.obj 50 []) [tI A, tI B, c] = .er c_InvalidRow [("value", c)] o := by
  have e1 := check_sizes (plain_tI A)
  rw [if_pos (sizesB_tI h.a h.la)] at e1
  have e2 := check_sizes (plain_tI B)
  rw [if_pos (sizesB_tI h.b h.lb)] at e2
  have e6 := check_product (pr A * pr B)
  rw [if_pos h.w] at e6
  exact ⟨_, ti_4 e1 e2 (product h.a) (product h.b) h.mul e6 hc⟩
def rowS : SM := sSeq (sIf (tOt (tNo (toB (eFn F_is_row [] (aCons (eV 1) (aCons (eV 2) (aCons (eV 4) (aNil))))))) (toB (eOpP inD (eSl (eV 4) (oNone) (oSome (eC (.int 2)))) 0 50 "weights"))) (sRaise c_InvalidRow "value" (eV 4)) (sNx))
    (sPSetI 0 50 "weights" (eOp idxD (eV 4) (eC (.int 2))) (eSl (eV 4) (oNone) (oSome (eC (.int 2)))))
theorem rows_pre {X : D} {L : List D} {r0 : SR} : ∀ (R Q : List Rw) (c : Option Cell), (∀ r ∈ R, RowOk A B r) → ((Q ++ R).map keyR).Nodup → (Q ++ R).length ≤ 100000 → (∀ c', loopS (tgN 4) rowS L [some (.own shT (tb A B (Q ++ R))), some (.val (tI A)), some (.val (tI B)), some (.val X), c'] = r0) →
    loopS (tgN 4) rowS (R.map rD ++ L) [some (.own shT (tb A B Q)), some (.val (tI A)), some (.val (tI B)), some (.val X), c] = r0
  | [], Q, c, _, _, _, k => by
    rw [List.append_nil] at k
    exact k c
  | r :: R, Q, c, hr, hk, hl, k => by
    have h3 : ∀ p ∈ Q.map kv, isTup p.1 = true := fun p hp => by
      obtain ⟨q, _, rfl⟩ := List.mem_map.mp hp
      rfl
    have h4 : ∀ p ∈ Q.map kv, p.1 ≠ kD r := fun p hp e => by
      obtain ⟨q, hq, rfl⟩ := List.mem_map.mp hp
      have e := kD_inj.mp e
      rw [List.map_append, List.nodup_append] at hk
      exact hk.2.2 (keyR q) (List.mem_map.mpr ⟨q, hq, rfl⟩) (keyR r) (by simp) e
    have ih := rows_pre (X := X) (L := L) (r0 := r0) R (Q ++ [r]) (some (.val (rD r))) (fun s hs => hr s (List.mem_cons_of_mem _ hs)) (by simpa using hk) (by simpa using hl) (by simpa using k)
    have st := step_row (X := X) (c := c) h.la h.lb (hr r List.mem_cons_self) h3 h4 (by simp at hl ⊢; omega)
    rw [List.map_cons, List.cons_append]
    unfold loopS
    unfold tb at ih ⊢
    simp only [tgN, List.set_cons_succ, List.set_cons_zero]
    rw [show rowS [some (.own shT (obD (tI A) (tI B) (.dct (Q.map kv)))), some (.val (tI A)), some (.val (tI B)), some (.val X), some (.val (rD r))] = _ from st]
    simp only
    rw [List.map_append, List.map_cons, List.map_nil] at ih
    exact ih
omit h in
theorem dget_q {r q : Rw} : ∀ {R : List Rw}, q ∈ R → keyR q = keyR r → ∃ v, dgetL (R.map kv) (kD r) = some v
  | [], hq, _ => nomatch hq
  | s :: R, hq, e => by
    rw [List.map_cons]
    show ∃ v, (if kD s = kD r then some (D.int s.2.2) else dgetL (R.map kv) (kD r)) = some v
    by_cases c : kD s = kD r
    · exact ⟨_, if_pos c⟩
    · rw [if_neg c]
      rcases List.mem_cons.mp hq with rfl | hq
      · exact absurd (kD_inj.mpr e) c
      · exact dget_q hq e
theorem mk_loop {R : List Rw} {x : D} {L : List D} (hr : ∀ r ∈ R, RowOk A B r) (hk : (R.map keyR).Nodup) (hl : R.length ≤ 100000)
    (hx : ∀ X, rowS [some (.own shT (tb A B R)), some (.val (tI A)), some (.val (tI B)), some (.val X), some (.val x)] = .er c_InvalidRow [("value", x)] [some (.own shT (tb A B R)), some (.val (tI A)), some (.val (tI B)), some (.val X), some (.val x)]) : ∃ o, F_Table___init__ (.obj 50 []) [tI A, tI B, .lst (R.map rD ++ x :: L)] = .er c_InvalidRow [("value", x)] o := by
  have e1 := check_sizes (plain_tI A)
  rw [if_pos (sizesB_tI h.a h.la)] at e1
  have e2 := check_sizes (plain_tI B)
  rw [if_pos (sizesB_tI h.b h.lb)] at e2
  have e3 := product h.a
  have e4 := product h.b
  have e5 := h.mul
  have e6 := check_product (pr A * pr B)
  rw [if_pos h.w] at e6
  have e7 := rows_pre h (X := .lst (R.map rD ++ x :: L)) (L := x :: L) (r0 := .er c_InvalidRow [("value", x)] [some (.own shT (tb A B R)), some (.val (tI A)), some (.val (tI B)), some (.val (.lst (R.map rD ++ x :: L))), some (.val x)]) R [] none hr hk (by simpa using hl) fun c' => by
    unfold loopS
    simp only [tgN, List.set_cons_succ, List.set_cons_zero, List.nil_append]
    rw [hx]
  have e8 : isiB [50] [.b "list", .b "tuple"] (.lst (R.map rD ++ x :: L)) = some true := rfl
  unfold rowS at e7
  refine ⟨tb A B R, ?_⟩
  generalize hX : R.map rD ++ x :: L = M at *
  unfold F_Table___init__ fnSemT
  have e9 : tb A B [] = .obj 50 [("sizes_in", tI A), ("sizes_out", tI B), ("weights", .dct [])] := rfl
  rw [e9] at e7
  simp [q_bnd, q_ok, q_er, q_bad, q_some, q_none, q_eC, q_eV, q_eZ, q_eOp, q_eUn, q_aNil, q_aCons, q_eTup, q_eLst, q_eApp, q_toB, q_bOf, q_tNo, q_tAn, q_tOt, q_eIf, q_eAn, q_eOt, q_eNo, q_eFn, q_eFnO, q_frv, q_fro, q_fre, q_foo, q_foo0, q_foe, q_sSet, q_sSetO, q_lok, q_ler, q_sNx, q_sSeq, q_sIf, q_sRet, q_sRetF, q_sDo, q_sRetO, q_sRaise, q_sFor, q_sUnp, q_sAug, q_sSetI, q_isOwn, q_sMix, q_mix0, q_mix1, q_setC0, q_setC, q_eOpX, q_eAppX, q_xV, q_xS, q_yNil, q_yCons, q_rv, q_rs, q_rL0, q_rL, q_eSlX, q_eFld, q_eMeth, q_eMk, q_eMt, q_iDi, q_iDv, q_iAll, q_eDc, q_eDc2, q_eOpP, q_eIsi, q_it1, q_it2, q_it3, q_iR1, q_iZp, q_iZpM, q_zp, q_eLc, q_eLc2, q_oNone, q_oSome, q_iOf, q_eSl, q_sTry, q_eXf, q_fn, q_lt, q_le, q_gt, q_ge, q_sub, q_add, q_iadd, q_fdiv, q_mod, q_pow, q_imul, q_mul, q_neg, q_is, q_nis, q_eq, q_ne, q_tgN, q_tgT, q_tg0, q_tgC, q_obd, q_eCh, q_eLenSc, q_iEnA, q_enT, q_enL, q_aKw, q_tgUt, q_tgUl, entry, m_Table___init__, entryT, e1, e2, e3, e4, e5, e6, e8, sFld2, stF, fsh, List.lookup, sIW, sOW, pf1, pf2, sFldF, pf3, e7, slot0, sameT]
theorem mk_odd {R : List Rw} {x : D} {L : List D} (hr : ∀ r ∈ R, RowOk A B r) (hk : (R.map keyR).Nodup) (hl : R.length ≤ 100000) (hx : F_is_row [tI A, tI B, x] = .ok (.val (.bl false))) : ∃ o, F_Table___init__ (.obj 50 []) [tI A, tI B, .lst (R.map rD ++ x :: L)] = .er c_InvalidRow [("value", x)] o :=
  mk_loop h hr hk hl fun X => by
    unfold rowS
    simp [q_bnd, q_ok, q_er, q_bad, q_some, q_none, q_eC, q_eV, q_eZ, q_eOp, q_eUn, q_aNil, q_aCons, q_eTup, q_eLst, q_eApp, q_toB, q_bOf, q_tNo, q_tAn, q_tOt, q_eIf, q_eAn, q_eOt, q_eNo, q_eFn, q_eFnO, q_frv, q_fro, q_fre, q_foo, q_foo0, q_foe, q_sSet, q_sSetO, q_lok, q_ler, q_sNx, q_sSeq, q_sIf, q_sRet, q_sRetF, q_sDo, q_sRetO, q_sRaise, q_sFor, q_sUnp, q_sAug, q_sSetI, q_isOwn, q_sMix, q_mix0, q_mix1, q_setC0, q_setC, q_eOpX, q_eAppX, q_xV, q_xS, q_yNil, q_yCons, q_rv, q_rs, q_rL0, q_rL, q_eSlX, q_eFld, q_eMeth, q_eMk, q_eMt, q_iDi, q_iDv, q_iAll, q_eDc, q_eDc2, q_eOpP, q_eIsi, q_it1, q_it2, q_it3, q_iR1, q_iZp, q_iZpM, q_zp, q_eLc, q_eLc2, q_oNone, q_oSome, q_iOf, q_eSl, q_sTry, q_eXf, q_fn, q_lt, q_le, q_gt, q_ge, q_sub, q_add, q_iadd, q_fdiv, q_mod, q_pow, q_imul, q_mul, q_neg, q_is, q_nis, q_eq, q_ne, q_tgN, q_tgT, q_tg0, q_tgC, q_obd, q_eCh, q_eLenSc, q_iEnA, q_enT, q_enL, q_aKw, q_tgUt, q_tgUl, entry, List.map, List.replicate, hx]
theorem mk_twice {R : List Rw} {r q : Rw} {L : List D} (hr : ∀ r ∈ R, RowOk A B r) (hk : (R.map keyR).Nodup) (hl : R.length ≤ 100000) (ho : RowOk A B r) (hq : q ∈ R) (e : keyR q = keyR r) : ∃ o, F_Table___init__ (.obj 50 []) [tI A, tI B, .lst (R.map rD ++ rD r :: L)] = .er c_InvalidRow [("value", rD r)] o :=
  mk_loop h hr hk hl fun X => by
    have e1 := is_row h.la h.lb ho
    have e2 : sliceD (rD r) none (some 2) = some (kD r) := rfl
    have e6 := fldW (tI A) (tI B) (.dct (R.map kv))
    have e4 : inD (kD r) (.dct (R.map kv)) = some (.bl true) := by
      have h3 : ∀ p ∈ R.map kv, isTup p.1 = true := fun p hp => by
        obtain ⟨q, _, rfl⟩ := List.mem_map.mp hp
        rfl
      have k1 := kOk_tup (keyOk_kD r) (isTup_kD r) h3
      obtain ⟨v, k2⟩ := dget_q hq e
      have e3 : inB (kD r) (.dct (R.map kv)) = some true := by
        generalize hk : kD r = k at k1 k2
        have h2 : isTup k = true := by rw [← hk]; rfl
        cases k <;> first | (cases h2; done) | simp [inB, k1, k2]
      simp [inD, e3]
    unfold rowS tb
    generalize rD r = x at e1 e2
    generalize kD r = k at e2 e4
    simp [q_bnd, q_ok, q_er, q_bad, q_some, q_none, q_eC, q_eV, q_eZ, q_eOp, q_eUn, q_aNil, q_aCons, q_eTup, q_eLst, q_eApp, q_toB, q_bOf, q_tNo, q_tAn, q_tOt, q_eIf, q_eAn, q_eOt, q_eNo, q_eFn, q_eFnO, q_frv, q_fro, q_fre, q_foo, q_foo0, q_foe, q_sSet, q_sSetO, q_lok, q_ler, q_sNx, q_sSeq, q_sIf, q_sRet, q_sRetF, q_sDo, q_sRetO, q_sRaise, q_sFor, q_sUnp, q_sAug, q_sSetI, q_isOwn, q_sMix, q_mix0, q_mix1, q_setC0, q_setC, q_eOpX, q_eAppX, q_xV, q_xS, q_yNil, q_yCons, q_rv, q_rs, q_rL0, q_rL, q_eSlX, q_eFld, q_eMeth, q_eMk, q_eMt, q_iDi, q_iDv, q_iAll, q_eDc, q_eDc2, q_eOpP, q_eIsi, q_it1, q_it2, q_it3, q_iR1, q_iZp, q_iZpM, q_zp, q_eLc, q_eLc2, q_oNone, q_oSome, q_iOf, q_eSl, q_sTry, q_eXf, q_fn, q_lt, q_le, q_gt, q_ge, q_sub, q_add, q_iadd, q_fdiv, q_mod, q_pow, q_imul, q_mul, q_neg, q_is, q_nis, q_eq, q_ne, q_tgN, q_tgT, q_tg0, q_tgC, q_obd, q_eCh, q_eLenSc, q_iEnA, q_enT, q_enL, q_aKw, q_tgUt, q_tgUl, entry, List.map, List.replicate, e1, e2, e4, e6]
end
/-! caught -/
theorem cgt_m {a b c o : D} (h : F_Table___init__ (.obj 50 []) [a, b, c] = .ok .non o) : F__law_caught [a, b, c] = .ok (.own c1 (.lst [.str "made"])) := cg_m h rfl
theorem cgt_s {a b c o d v : D} (h : F_Table___init__ (.obj 50 []) [a, b, c] = .er c_InvalidSizes [("value", d)] o) (hr : (orA reprL reprN) [d] = some v) : F__law_caught [a, b, c] = .ok (.own c1 (.lst [.int 0, v])) :=
  cg_s (v5 := .int 1) (v6 := .int 0) h rfl rfl rfl rfl rfl (by decide) rfl (by decide +kernel) (by decide +kernel) rfl rfl (by decide +kernel) rfl rfl hr
theorem cgt_r {a b c o d v : D} (h : F_Table___init__ (.obj 50 []) [a, b, c] = .er c_InvalidRow [("value", d)] o) (hr : (orA reprL reprN) [d] = some v) : F__law_caught [a, b, c] = .ok (.own c1 (.lst [.int 2, v])) :=
  cg_r (v5 := .int 1) (v6 := .int 2) h rfl rfl rfl rfl rfl (by decide) rfl (by decide +kernel) (by decide +kernel) rfl rfl (by decide +kernel) rfl rfl hr
theorem cgt_w {a b c o d : D} (h : F_Table___init__ (.obj 50 []) [a, b, c] = .er c_TooWide [("count", d)] o) : F__law_caught [a, b, c] = .ok (.own c1 (.lst [.int 1, d])) :=
  cg_w (v5 := .int 1) (v6 := .int 1) h rfl rfl rfl rfl rfl (by decide) rfl (by decide +kernel) (by decide +kernel) rfl rfl (by decide +kernel) rfl rfl
end K03
end

section
set_option Elab.async false
set_option linter.all false
set_option maxRecDepth 100000
set_option maxHeartbeats 4000000
namespace K03
open PySem L2 PyProof.Rows PySem.Spec DL
local macro_rules
  | `(tactic| push_cast [$xs,*]) => `(tactic| simp -implicitDefEqProofs [q_bnd, q_ok, q_er, q_bad, q_some, q_none, q_eC, q_eV, q_eZ, q_eOp, q_eUn, q_aNil, q_aCons, q_eTup, q_eLst, q_eApp, q_toB, q_bOf, q_tNo, q_tAn, q_tOt, q_eIf, q_eAn, q_eOt, q_eNo, q_eFn, q_eFnO, q_frv, q_fro, q_fre, q_foo, q_foo0, q_foe, q_sSet, q_sSetO, q_lok, q_ler, q_sNx, q_sSeq, q_sIf, q_sRet, q_sRetF, q_sDo, q_sRetO, q_sRaise, q_sFor, q_sUnp, q_sAug, q_sSetI, q_isOwn, q_sMix, q_mix0, q_mix1, q_setC0, q_setC, q_eOpX, q_eAppX, q_xV, q_xS, q_yNil, q_yCons, q_rv, q_rs, q_rL0, q_rL, q_eSlX, q_eFld, q_eMeth, q_eMk, q_eMt, q_iDi, q_iDv, q_iAll, q_eDc, q_eDc2, q_eOpP, q_eIsi, q_it1, q_it2, q_it3, q_iR1, q_iZp, q_iZpM, q_zp, q_eLc, q_eLc2, q_oNone, q_oSome, q_iOf, q_eSl, q_sTry, q_eXf, q_fn, q_lt, q_le, q_gt, q_ge, q_sub, q_add, q_iadd, q_fdiv, q_mod, q_pow, q_imul, q_mul, q_neg, q_is, q_nis, q_eq, q_ne, q_tgN, q_tgT, q_tg0, q_tgC, q_obd, q_eCh, q_eLenSc, q_iEnA, q_enT, q_enL, q_aKw, q_tgUt, q_tgUl, entry, $xs,*])
/-! ### k03: odd rows, odd sizes -/
theorem lor_0 {x1 x2 x3 : D} {L1 T1 X1 L2 T2 X2 : List D} {v1 : D} {n1 : Int} {X3 X4 X5 X6 X7 : List D} {n2 : Int} {d1 : D} {n3 : Int} {v2 : D}
    (h1 : itemsOf x2 = some L1)
    (h2 : lcLoop (tgN 6) [6] tYs (eC (.int 0)) L1 [some (.own c1 x1), some (.val x2), some (.val x3), none, none, none, none] [] = .ok (T1, [some (.own c1 x1), some (.val x2), some (.val x3), none, none, none, none]))
    (h3 : tupleD [.lst T1] = some (.tup X1))
    (h4 : itemsOf x3 = some L2)
    (h5 : lcLoop (tgN 6) [6] tYs (eC (.int 0)) L2 [some (.own c1 x1), some (.val x2), some (.val x3), some (.val (.tup X1)), none, none, none] [] = .ok (T2, [some (.own c1 x1), some (.val x2), some (.val x3), some (.val (.tup X1)), none, none, none]))
    (h6 : tupleD [.lst T2] = some (.tup X2))
    (h7 : negD (.int 1) = some v1)
    (h8 : powD (.int 10) (.int 30) = some (.int n1))
    (h9 : addD (.tup X1) (.tup [.int 0]) = some (.tup X3))
    (h10 : addD (.lst [.non, .lst [.tup X1, .tup X2, .int 1], .tup [.tup X1, .tup X2], .tup [.tup X1, .tup X2, .int 1, .int 1], .tup [.tup X1, .tup X2, .int 0], .tup [.tup X1, .tup X2, .bl true]]) (.lst [.tup [.tup X1, .tup X2, v1], .tup [.tup X1, .tup X2, .int (n1 + 1)], .tup [.tup X1, .tup X2, .str "1"], .tup [.tup X3, .tup X2, .int 1], .str "row"]) = some (.lst X4))
    (h11 : listD [.tup X2] = some (.lst X5))
    (h12 : addD (.tup X2) (.tup [.int 0]) = some (.tup X6))
    (h13 : addD (.lst X4) (.lst [.tup [.tup X1, .lst X5, .int 1], .tup [.non, .tup X2, .int 1], .tup [.tup X1, .tup X6, .int 1], .tup [.tup X1, .tup X2, .non], .dct []]) = some (.lst X7))
    (h14 : eqB x2 (.tup []) = some true)
    (h15 : lenA [.lst X7] = some (.int n2))
    (h16 : F__law_take x1 [.int n2] = .ok (.int n3) d1)
    (h17 : idxD (.lst X7) (.int n3) = some v2) :
    F__law_odd_row x1 [x2, x3] = .ok v2 d1 := by
  refine ft_rv (p := m__law_odd_row) (e0 := [some (.own c1 x1), some (.val x2), some (.val x3), none, none, none, none]) rfl rfl (e := [some (.own c1 d1), some (.val x2), some (.val x3), some (.val (.tup X1)), some (.val (.tup X2)), some (.val (.lst X7)), none]) ?_ rfl
  unfold m__law_odd_row
  have p1 : eFnT c1 c1 F__law_take 0 (aCons (eApp lenA (aCons (eV 5) aNil)) aNil) [some (.own c1 x1), some (.val x2), some (.val x3), some (.val (.tup X1)), some (.val (.tup X2)), some (.val (.lst X7)), none] = .ok (.int n3, [some (.own c1 d1), some (.val x2), some (.val x3), some (.val (.tup X1)), some (.val (.tup X2)), some (.val (.lst X7)), none]) := q_eFnT (r := aCons (eApp lenA (aCons (eV 5) aNil)) aNil) (env := [some (.own c1 x1), some (.val x2), some (.val x3), some (.val (.tup X1)), some (.val (.tup X2)), some (.val (.lst X7)), none]) (e2 := [some (.own c1 x1), some (.val x2), some (.val x3), some (.val (.tup X1)), some (.val (.tup X2)), some (.val (.lst X7)), none]) rfl (by push_cast [h15, h17]) rfl h16
  generalize F__law_take = G1 at *
  refine seq_n (e1 := [some (.own c1 x1), some (.val x2), some (.val x3), some (.val (.tup X1)), none, none, none]) (by push_cast [h1, h2, wipeE, restE, kv_n, kv_v, kv_o, h3]) ?_
  refine seq_n (e1 := [some (.own c1 x1), some (.val x2), some (.val x3), some (.val (.tup X1)), some (.val (.tup X2)), none, none]) (by push_cast [h4, h5, wipeE, restE, kv_n, kv_v, kv_o, h6]) ?_
  refine seq_n (e1 := [some (.own c1 x1), some (.val x2), some (.val x3), some (.val (.tup X1)), some (.val (.tup X2)), some (.val (.lst [.non, .lst [.tup X1, .tup X2, .int 1], .tup [.tup X1, .tup X2], .tup [.tup X1, .tup X2, .int 1, .int 1], .tup [.tup X1, .tup X2, .int 0], .tup [.tup X1, .tup X2, .bl true]])), none]) (by push_cast []) ?_
  refine seq_n (e1 := [some (.own c1 x1), some (.val x2), some (.val x3), some (.val (.tup X1)), some (.val (.tup X2)), some (.val (.lst X4)), none]) (by push_cast [h7, h8, h9, h10]) ?_
  refine seq_n (e1 := [some (.own c1 x1), some (.val x2), some (.val x3), some (.val (.tup X1)), some (.val (.tup X2)), some (.val (.lst X7)), none]) (by push_cast [h11, h12, h13]) ?_
  refine seq_n (e1 := [some (.own c1 x1), some (.val x2), some (.val x3), some (.val (.tup X1)), some (.val (.tup X2)), some (.val (.lst X7)), none]) (by push_cast [h14]) ?_
  push_cast [h15, h17, p1]

theorem lor_1 {x1 x2 x3 : D} {L1 T1 X1 L2 T2 X2 : List D} {v1 : D} {n1 : Int} {X3 X4 X5 X6 X7 : List D} {v2 : D} {X8 X9 X10 X11 X12 : List D} {n2 : Int} {d1 : D} {n3 : Int} {v3 : D}
    (h1 : itemsOf x2 = some L1)
    (h2 : lcLoop (tgN 6) [6] tYs (eC (.int 0)) L1 [some (.own c1 x1), some (.val x2), some (.val x3), none, none, none, none] [] = .ok (T1, [some (.own c1 x1), some (.val x2), some (.val x3), none, none, none, none]))
    (h3 : tupleD [.lst T1] = some (.tup X1))
    (h4 : itemsOf x3 = some L2)
    (h5 : lcLoop (tgN 6) [6] tYs (eC (.int 0)) L2 [some (.own c1 x1), some (.val x2), some (.val x3), some (.val (.tup X1)), none, none, none] [] = .ok (T2, [some (.own c1 x1), some (.val x2), some (.val x3), some (.val (.tup X1)), none, none, none]))
    (h6 : tupleD [.lst T2] = some (.tup X2))
    (h7 : negD (.int 1) = some v1)
    (h8 : powD (.int 10) (.int 30) = some (.int n1))
    (h9 : addD (.tup X1) (.tup [.int 0]) = some (.tup X3))
    (h10 : addD (.lst [.non, .lst [.tup X1, .tup X2, .int 1], .tup [.tup X1, .tup X2], .tup [.tup X1, .tup X2, .int 1, .int 1], .tup [.tup X1, .tup X2, .int 0], .tup [.tup X1, .tup X2, .bl true]]) (.lst [.tup [.tup X1, .tup X2, v1], .tup [.tup X1, .tup X2, .int (n1 + 1)], .tup [.tup X1, .tup X2, .str "1"], .tup [.tup X3, .tup X2, .int 1], .str "row"]) = some (.lst X4))
    (h11 : listD [.tup X2] = some (.lst X5))
    (h12 : addD (.tup X2) (.tup [.int 0]) = some (.tup X6))
    (h13 : addD (.lst X4) (.lst [.tup [.tup X1, .lst X5, .int 1], .tup [.non, .tup X2, .int 1], .tup [.tup X1, .tup X6, .int 1], .tup [.tup X1, .tup X2, .non], .dct []]) = some (.lst X7))
    (h14 : eqB x2 (.tup []) = some false)
    (h15 : idxD x2 (.int 0) = some v2)
    (h16 : sliceD (.tup X1) (some 1) none = some (.tup X8))
    (h17 : addD (.tup [v2]) (.tup X8) = some (.tup X9))
    (h18 : addD (.tup [.bl true]) (.tup X8) = some (.tup X10))
    (h19 : addD (.tup [v1]) (.tup X8) = some (.tup X11))
    (h20 : addD (.lst X7) (.lst [.tup [.tup X9, .tup X2, .int 1], .tup [.tup X10, .tup X2, .int 1], .tup [.tup X11, .tup X2, .int 1]]) = some (.lst X12))
    (h21 : lenA [.lst X12] = some (.int n2))
    (h22 : F__law_take x1 [.int n2] = .ok (.int n3) d1)
    (h23 : idxD (.lst X12) (.int n3) = some v3) :
    F__law_odd_row x1 [x2, x3] = .ok v3 d1 := by
  refine ft_rv (p := m__law_odd_row) (e0 := [some (.own c1 x1), some (.val x2), some (.val x3), none, none, none, none]) rfl rfl (e := [some (.own c1 d1), some (.val x2), some (.val x3), some (.val (.tup X1)), some (.val (.tup X2)), some (.val (.lst X12)), none]) ?_ rfl
  unfold m__law_odd_row
  have p1 : eFnT c1 c1 F__law_take 0 (aCons (eApp lenA (aCons (eV 5) aNil)) aNil) [some (.own c1 x1), some (.val x2), some (.val x3), some (.val (.tup X1)), some (.val (.tup X2)), some (.val (.lst X12)), none] = .ok (.int n3, [some (.own c1 d1), some (.val x2), some (.val x3), some (.val (.tup X1)), some (.val (.tup X2)), some (.val (.lst X12)), none]) := q_eFnT (r := aCons (eApp lenA (aCons (eV 5) aNil)) aNil) (env := [some (.own c1 x1), some (.val x2), some (.val x3), some (.val (.tup X1)), some (.val (.tup X2)), some (.val (.lst X12)), none]) (e2 := [some (.own c1 x1), some (.val x2), some (.val x3), some (.val (.tup X1)), some (.val (.tup X2)), some (.val (.lst X12)), none]) rfl (by push_cast [h21, h23]) rfl h22
  generalize F__law_take = G1 at *
  refine seq_n (e1 := [some (.own c1 x1), some (.val x2), some (.val x3), some (.val (.tup X1)), none, none, none]) (by push_cast [h1, h2, wipeE, restE, kv_n, kv_v, kv_o, h3]) ?_
  refine seq_n (e1 := [some (.own c1 x1), some (.val x2), some (.val x3), some (.val (.tup X1)), some (.val (.tup X2)), none, none]) (by push_cast [h4, h5, wipeE, restE, kv_n, kv_v, kv_o, h6]) ?_
  refine seq_n (e1 := [some (.own c1 x1), some (.val x2), some (.val x3), some (.val (.tup X1)), some (.val (.tup X2)), some (.val (.lst [.non, .lst [.tup X1, .tup X2, .int 1], .tup [.tup X1, .tup X2], .tup [.tup X1, .tup X2, .int 1, .int 1], .tup [.tup X1, .tup X2, .int 0], .tup [.tup X1, .tup X2, .bl true]])), none]) (by push_cast []) ?_
  refine seq_n (e1 := [some (.own c1 x1), some (.val x2), some (.val x3), some (.val (.tup X1)), some (.val (.tup X2)), some (.val (.lst X4)), none]) (by push_cast [h7, h8, h9, h10]) ?_
  refine seq_n (e1 := [some (.own c1 x1), some (.val x2), some (.val x3), some (.val (.tup X1)), some (.val (.tup X2)), some (.val (.lst X7)), none]) (by push_cast [h11, h12, h13]) ?_
  refine seq_n (e1 := [some (.own c1 x1), some (.val x2), some (.val x3), some (.val (.tup X1)), some (.val (.tup X2)), some (.val (.lst X12)), none]) (by push_cast [h14, h15, h16, h17, h18, h7, h19, h20]) ?_
  push_cast [h21, h23, p1]

theorem los_c {x1 x2 : D} {n1 : Int} {d1 : D} {n2 : Int} {v1 d2 : D} {n3 : Int} {v2 v3 v4 v5 v6 : D} {X1 : List D} {v7 d3 : D} {n4 : Int} {v8 : D}
    (h1 : lenA [x2] = some (.int n1))
    (h2 : F__law_take x1 [.int (n1 + 1)] = .ok (.int n2) d1)
    (h3 : negD (.int 1) = some v1)
    (h4 : F__law_take d1 [.int 7] = .ok (.int n3) d2)
    (h5 : idxD (.lst [.int 0, .int 5, .bl true, .non, .str "2", .tup [.int 1], v1]) (.int n3) = some v2)
    (h6 : sliceD x2 none (some n2) = some v3)
    (h7 : addD v3 (.tup [v2]) = some v4)
    (h8 : sliceD x2 (some n2) none = some v5)
    (h9 : addD v4 v5 = some v6)
    (h10 : listD [x2] = some (.lst X1))
    (h11 : mulD (.tup [.int 1]) (.int 31) = some v7)
    (h12 : F__law_take d2 [.int 5] = .ok (.int n4) d3)
    (h13 : idxD (.lst [v6, .lst X1, .non, v7, .int 3]) (.int n4) = some v8) :
    F__law_odd_sizes x1 [x2] = .ok v8 d3 := by
  refine ft_rv (p := m__law_odd_sizes) (e0 := [some (.own c1 x1), some (.val x2), none, none]) rfl rfl (e := [some (.own c1 d3), some (.val x2), some (.val (.int n2)), some (.val v2)]) ?_ rfl
  unfold m__law_odd_sizes
  have p1 : eFnT c1 c1 F__law_take 0 (aCons (eOp addD (eApp lenA (aCons (eV 1) aNil)) (eC (.int 1))) aNil) [some (.own c1 x1), some (.val x2), none, none] = .ok (.int n2, [some (.own c1 d1), some (.val x2), none, none]) := q_eFnT (r := aCons (eOp addD (eApp lenA (aCons (eV 1) aNil)) (eC (.int 1))) aNil) (env := [some (.own c1 x1), some (.val x2), none, none]) (e2 := [some (.own c1 x1), some (.val x2), none, none]) rfl (by push_cast [h1]) rfl h2
  have p2 : eFnT c1 c1 F__law_take 0 (aCons (eC (.int 7)) aNil) [some (.own c1 d1), some (.val x2), some (.val (.int n2)), none] = .ok (.int n3, [some (.own c1 d2), some (.val x2), some (.val (.int n2)), none]) := q_eFnT (r := aCons (eC (.int 7)) aNil) (env := [some (.own c1 d1), some (.val x2), some (.val (.int n2)), none]) (e2 := [some (.own c1 d1), some (.val x2), some (.val (.int n2)), none]) rfl (by push_cast [h3, h5]) rfl h4
  have p3 : eFnT c1 c1 F__law_take 0 (aCons (eC (.int 5)) aNil) [some (.own c1 d2), some (.val x2), some (.val (.int n2)), some (.val v2)] = .ok (.int n4, [some (.own c1 d3), some (.val x2), some (.val (.int n2)), some (.val v2)]) := q_eFnT (r := aCons (eC (.int 5)) aNil) (env := [some (.own c1 d2), some (.val x2), some (.val (.int n2)), some (.val v2)]) (e2 := [some (.own c1 d2), some (.val x2), some (.val (.int n2)), some (.val v2)]) rfl (by push_cast [h6, h7, h8, h9, h10, h11, h13]) rfl h12
  generalize F__law_take = G1 at *
  refine seq_n (e1 := [some (.own c1 d1), some (.val x2), some (.val (.int n2)), none]) (by push_cast [h1, p1]) ?_
  refine seq_n (e1 := [some (.own c1 d2), some (.val x2), some (.val (.int n2)), some (.val v2)]) (by push_cast [h3, h5, p2]) ?_
  push_cast [h6, h7, h8, h9, h10, h11, h13, p3]

def sds : List (List Int) := [[], [1], [2], [3], [1, 1], [1, 2], [2, 1], [1, 3], [3, 1], [2, 2]]
theorem drawn_in {S : List Int} (h : Drawn 4 S) (hl : S.length ≤ 2) : S ∈ sds := by
  have hp := h.p
  match S, h.g, hl, hp with
  | [], _, _, _ => decide
  | [a], g, _, _ =>
    have := g a List.mem_cons_self
    have : a = 1 ∨ a = 2 ∨ a = 3 := by omega
    rcases this with rfl | rfl | rfl <;> decide
  | [a, b], g, _, hp =>
    have g1 := g a List.mem_cons_self
    have g2 := g b (List.mem_cons_of_mem _ List.mem_cons_self)
    have h1 : a = 1 ∨ a = 2 ∨ a = 3 := by omega
    have h2 : b = 1 ∨ b = 2 ∨ b = 3 := by omega
    rcases h1 with rfl | rfl | rfl <;> rcases h2 with rfl | rfl | rfl <;> first | decide | (exact absurd hp (by decide))
def zT (S : List Int) : List D := S.map fun _ => D.int 0
def oddL (A B : List Int) : List D :=
  [.non, .lst [.tup (zT A), .tup (zT B), .int 1], .tup [.tup (zT A), .tup (zT B)], .tup [.tup (zT A), .tup (zT B), .int 1, .int 1], .tup [.tup (zT A), .tup (zT B), .int 0], .tup [.tup (zT A), .tup (zT B), .bl true],
    .tup [.tup (zT A), .tup (zT B), .int (-1)], .tup [.tup (zT A), .tup (zT B), .int (1000000000000000000000000000000 + 1)], .tup [.tup (zT A), .tup (zT B), .str "1"], .tup [.tup (zT A ++ [.int 0]), .tup (zT B), .int 1], .str "row",
    .tup [.tup (zT A), .lst (zT B), .int 1], .tup [.non, .tup (zT B), .int 1], .tup [.tup (zT A), .tup (zT B ++ [.int 0]), .int 1], .tup [.tup (zT A), .tup (zT B), .non], .dct []] ++
  match A with
  | [] => []
  | a :: A' => [.tup [.tup (.int a :: zT A'), .tup (zT B), .int 1], .tup [.tup (.bl true :: zT A'), .tup (zT B), .int 1], .tup [.tup (.int (-1) :: zT A'), .tup (zT B), .int 1]]
theorem idx_lstX {ds : List D} {i : Nat} {d : D} (h : ds[i]? = some d) : idxD (.lst ds) (.int i) = some d := by
  have hi := (List.getElem?_eq_some_iff.mp h).1
  have e : ixN ds.length (i : Int) = some i := by
    unfold ixN
    simp [hi]
  simp only [idxD, atI, e, Option.bind_some]
  exact h
theorem ix_in {L : List D} {r : Int} (h0 : 0 ≤ r) (h1 : r < (L.length : Nat)) : ∃ x, idxD (.lst L) (.int r) = some x ∧ x ∈ L := by
  obtain ⟨k, rfl⟩ : ∃ k : Nat, r = (k : Nat) := ⟨r.toNat, by omega⟩
  have hk : k < L.length := by omega
  refine ⟨L[k], ?_, List.getElem_mem hk⟩
  exact idx_lstX (List.getElem?_eq_getElem hk)
theorem zer_lc {S : List Int} {env : DEnv} (he : wipeE (env.set 6 (some (.val (.int 0)))) [6] = env) (hs : ∀ d : D, wipeE (env.set 6 (some (.val d))) [6] = env) (hl : S.length ≤ 2) : lcLoop (tgN 6) [6] tYs (eC (.int 0)) (S.map D.int) env [] = .ok (zT S, env) :=
  lc_enc (enc := D.int) (fun _ => D.int 0) (by omega) fun i _ => ⟨_, rfl, rfl, hs _⟩
theorem odd_ok {d : D} {A B : List Int} (hd : PoolOk d) (hA : A.length ≤ 2) (hB : B.length ≤ 2) : ∃ x d', F__law_odd_row d [tI A, tI B] = .ok x d' ∧ PoolOk d' ∧ x ∈ oddL A B := by
  have p30 := pow30
  match A, B, hA, hB with
  | [], B, _, hB =>
    obtain ⟨r, d', q1, q2, q3, q4⟩ := take_ok hd (n := 16) (by decide) (by decide)
    obtain ⟨x, x1, x2⟩ := ix_in (L := oddL [] B) q2 q3
    refine ⟨x, d', ?_, q4, x2⟩
    have z2 : ∀ a : Option Cell, lcLoop (tgN 6) [6] tYs (eC (.int 0)) (B.map D.int) [some (.own c1 d), some (.val (tI [])), some (.val (tI B)), a, none, none, none] [] = .ok (zT B, [some (.own c1 d), some (.val (tI [])), some (.val (tI B)), a, none, none, none]) := fun a => zer_lc rfl (fun _ => rfl) hB
    match B, hB with
    | [], _ => exact lor_0 rfl rfl rfl rfl (z2 _) rfl rfl p30 rfl rfl rfl rfl rfl (by kernel_rfl) rfl q1 x1
    | [b], _ => exact lor_0 rfl rfl rfl rfl (z2 _) rfl rfl p30 rfl rfl rfl rfl rfl (by kernel_rfl) rfl q1 x1
    | [b, b'], _ => exact lor_0 rfl rfl rfl rfl (z2 _) rfl rfl p30 rfl rfl rfl rfl rfl (by kernel_rfl) rfl q1 x1
  | a :: A, B, hA, hB =>
    obtain ⟨r, d', q1, q2, q3, q4⟩ := take_ok hd (n := 19) (by decide) (by decide)
    obtain ⟨x, x1, x2⟩ := ix_in (L := oddL (a :: A) B) q2 q3
    refine ⟨x, d', ?_, q4, x2⟩
    have z1 : lcLoop (tgN 6) [6] tYs (eC (.int 0)) ((a :: A).map D.int) [some (.own c1 d), some (.val (tI (a :: A))), some (.val (tI B)), none, none, none, none] [] = .ok (zT (a :: A), [some (.own c1 d), some (.val (tI (a :: A))), some (.val (tI B)), none, none, none, none]) := zer_lc rfl (fun _ => rfl) hA
    have z2 : ∀ c : Option Cell, lcLoop (tgN 6) [6] tYs (eC (.int 0)) (B.map D.int) [some (.own c1 d), some (.val (tI (a :: A))), some (.val (tI B)), c, none, none, none] [] = .ok (zT B, [some (.own c1 d), some (.val (tI (a :: A))), some (.val (tI B)), c, none, none, none]) := fun c => zer_lc rfl (fun _ => rfl) hB
    match A, hA, B, hB with
    | [], _, [], _ => exact lor_1 rfl z1 rfl rfl (z2 _) rfl rfl p30 rfl rfl rfl rfl rfl (by kernel_rfl) rfl rfl rfl rfl rfl rfl rfl q1 x1
    | [], _, [b], _ => exact lor_1 rfl z1 rfl rfl (z2 _) rfl rfl p30 rfl rfl rfl rfl rfl (by kernel_rfl) rfl rfl rfl rfl rfl rfl rfl q1 x1
    | [], _, [b, b'], _ => exact lor_1 rfl z1 rfl rfl (z2 _) rfl rfl p30 rfl rfl rfl rfl rfl (by kernel_rfl) rfl rfl rfl rfl rfl rfl rfl q1 x1
    | [a'], _, [], _ => exact lor_1 rfl z1 rfl rfl (z2 _) rfl rfl p30 rfl rfl rfl rfl rfl (by kernel_rfl) rfl rfl rfl rfl rfl rfl rfl q1 x1
    | [a'], _, [b], _ => exact lor_1 rfl z1 rfl rfl (z2 _) rfl rfl p30 rfl rfl rfl rfl rfl (by kernel_rfl) rfl rfl rfl rfl rfl rfl rfl q1 x1
    | [a'], _, [b, b'], _ => exact lor_1 rfl z1 rfl rfl (z2 _) rfl rfl p30 rfl rfl rfl rfl rfl (by kernel_rfl) rfl rfl rfl rfl rfl rfl rfl q1 x1
/-! closed checks -/
def rpS (d : D) : Bool := match (orA reprL reprN) [d] with
  | some (.str s) => PyData.strOk s
  | _ => false
theorem rpS_is {d : D} (h : rpS d = true) : ∃ s, (orA reprL reprN) [d] = some (.str s) ∧ PyData.strOk s = true := by
  unfold rpS at h
  split at h
  · rename_i s e
    exact ⟨s, e, h⟩
  · cases h
def fls (x : FR) : Bool := match x with
  | .ok (.val (.bl false)) => true
  | _ => false
theorem fls_is {x : FR} (h : fls x = true) : x = .ok (.val (.bl false)) := by
  unfold fls at h
  split at h
  · rfl
  · cases h
theorem odd_1 : (sds.all fun A => sds.all fun B => (oddL A B).all fun x => fls (F_is_row [tI A, tI B, x]) && rpS x) = true := by decide +kernel
theorem odd_bad {A B : List Int} {x : D} (hA : A ∈ sds) (hB : B ∈ sds) (hx : x ∈ oddL A B) : F_is_row [tI A, tI B, x] = .ok (.val (.bl false)) ∧ ∃ s, (orA reprL reprN) [x] = some (.str s) ∧ PyData.strOk s = true := by
  have q := List.all_eq_true.mp (List.all_eq_true.mp (List.all_eq_true.mp odd_1 A hA) B hB) x hx
  rw [Bool.and_eq_true] at q
  exact ⟨fls_is q.1, rpS_is q.2⟩
def oddV : List D := [.int 0, .int 5, .bl true, .non, .str "2", .tup [.int 1], .int (-1)]
def strL (A : List Int) : List D := ((List.range (A.length + 1)).flatMap fun k => oddV.map fun o => .tup ((A.take k).map D.int ++ [o] ++ (A.drop k).map D.int)) ++ [.lst (A.map D.int), .non, .tup (List.replicate 31 (.int 1)), .int 3]
theorem str_1 : (sds.all fun A => (strL A).all fun x => plain x && !sizesB x && rpS x) = true := by decide +kernel
theorem str_bad {A : List Int} {x : D} (hA : A ∈ sds) (hx : x ∈ strL A) : plain x = true ∧ sizesB x = false ∧ ∃ s, (orA reprL reprN) [x] = some (.str s) ∧ PyData.strOk s = true := by
  have q := List.all_eq_true.mp (List.all_eq_true.mp str_1 A hA) x hx
  simp only [Bool.and_eq_true, Bool.not_eq_true'] at q
  exact ⟨q.1.1, q.1.2, rpS_is q.2⟩
def nonL : List D := [.non, .dct [], .str "rows", .int 5, .bl true]
theorem non_1 : (nonL.all fun x => decide (isiB [50] [.b "list", .b "tuple"] x = some false) && rpS x) = true := by decide +kernel
theorem non_bad {x : D} (hx : x ∈ nonL) : isiB [50] [.b "list", .b "tuple"] x = some false ∧ ∃ s, (orA reprL reprN) [x] = some (.str s) ∧ PyData.strOk s = true := by
  have q := List.all_eq_true.mp non_1 x hx
  rw [Bool.and_eq_true] at q
  exact ⟨of_decide_eq_true q.1, rpS_is q.2⟩
theorem str_ok {d : D} {A : List Int} (hd : PoolOk d) (hA : A.length ≤ 2) : ∃ x d', F__law_odd_sizes d [tI A] = .ok x d' ∧ PoolOk d' ∧ x ∈ strL A := by
  have la : lenA [tI A] = some (.int (A.length : Nat)) := by
    show some (D.int ((A.map D.int).length : Nat)) = _
    rw [List.length_map]
  obtain ⟨r, d1, q1, q2, q3, q4⟩ := take_ok hd (n := (A.length : Nat) + 1) (by omega) (by omega)
  obtain ⟨k, rfl⟩ : ∃ k : Nat, r = (k : Nat) := ⟨r.toNat, by omega⟩
  obtain ⟨r2, d2, t1, t2, t3, t4⟩ := take_ok q4 (n := 7) (by decide) (by decide)
  obtain ⟨o, o1, o2⟩ := ix_in (L := oddV) t2 t3
  obtain ⟨r3, d3, u1, u2, u3, u4⟩ := take_ok t4 (n := 5) (by decide) (by decide)
  have hk : k < A.length + 1 := by omega
  have inn : D.tup ((A.take k).map D.int ++ [o] ++ (A.drop k).map D.int) ∈ strL A := List.mem_append_left _ (List.mem_flatMap.mpr ⟨k, List.mem_range.mpr hk, List.mem_map.mpr ⟨o, o2, rfl⟩⟩)
  obtain ⟨x, x1, x2⟩ := ix_in (L := [.tup ((A.take k).map D.int ++ [o] ++ (A.drop k).map D.int), .lst (A.map D.int), .non, .tup (List.replicate 31 (.int 1)), .int 3]) u2 u3
  refine ⟨x, d3, ?_, u4, ?_⟩
  · match A, hA, k, hk with
    | [], _, 0, _ => exact los_c la q1 rfl t1 o1 rfl rfl rfl rfl rfl (by decide +kernel) u1 x1
    | [a], _, 0, _ => exact los_c la q1 rfl t1 o1 rfl rfl rfl rfl rfl (by decide +kernel) u1 x1
    | [a], _, 1, _ => exact los_c la q1 rfl t1 o1 rfl rfl rfl rfl rfl (by decide +kernel) u1 x1
    | [a, b], _, 0, _ => exact los_c la q1 rfl t1 o1 rfl rfl rfl rfl rfl (by decide +kernel) u1 x1
    | [a, b], _, 1, _ => exact los_c la q1 rfl t1 o1 rfl rfl rfl rfl rfl (by decide +kernel) u1 x1
    | [a, b], _, 2, _ => exact los_c la q1 rfl t1 o1 rfl rfl rfl rfl rfl (by decide +kernel) u1 x1
  · rcases List.mem_cons.mp x2 with rfl | x2
    · exact inn
    · exact List.mem_append_right _ x2
end K03
end

section
set_option Elab.async false
set_option linter.all false
set_option maxRecDepth 100000
set_option maxHeartbeats 4000000
namespace K03
open PySem L2 PyProof.Rows PySem.Spec DL
local macro_rules
  | `(tactic| push_cast [$xs,*]) => `(tactic| simp -implicitDefEqProofs [q_bnd, q_ok, q_er, q_bad, q_some, q_none, q_eC, q_eV, q_eZ, q_eOp, q_eUn, q_aNil, q_aCons, q_eTup, q_eLst, q_eApp, q_toB, q_bOf, q_tNo, q_tAn, q_tOt, q_eIf, q_eAn, q_eOt, q_eNo, q_eFn, q_eFnO, q_frv, q_fro, q_fre, q_foo, q_foo0, q_foe, q_sSet, q_sSetO, q_lok, q_ler, q_sNx, q_sSeq, q_sIf, q_sRet, q_sRetF, q_sDo, q_sRetO, q_sRaise, q_sFor, q_sUnp, q_sAug, q_sSetI, q_isOwn, q_sMix, q_mix0, q_mix1, q_setC0, q_setC, q_eOpX, q_eAppX, q_xV, q_xS, q_yNil, q_yCons, q_rv, q_rs, q_rL0, q_rL, q_eSlX, q_eFld, q_eMeth, q_eMk, q_eMt, q_iDi, q_iDv, q_iAll, q_eDc, q_eDc2, q_eOpP, q_eIsi, q_it1, q_it2, q_it3, q_iR1, q_iZp, q_iZpM, q_zp, q_eLc, q_eLc2, q_oNone, q_oSome, q_iOf, q_eSl, q_sTry, q_eXf, q_fn, q_lt, q_le, q_gt, q_ge, q_sub, q_add, q_iadd, q_fdiv, q_mod, q_pow, q_imul, q_mul, q_neg, q_is, q_nis, q_eq, q_ne, q_tgN, q_tgT, q_tg0, q_tgC, q_obd, q_eCh, q_eLenSc, q_iEnA, q_enT, q_enL, q_aKw, q_tgUt, q_tgUl, entry, $xs,*])
/-! ### k03: the law -/
theorem lb_0 {x1 x2 : D} {a1 a2 a3 a4 a5 a6 a7 a8 a9 a10 a11 a12 : Option Cell} {v1 d1 v2 d2 v3 d3 v4 v5 v6 : D} {n1 : Int} {d4 : D} {n2 : Int} {d5 v7 v8 v9 v10 v11 d6 : D} {n3 : Int} {v12 v13 v14 v15 v16 d7 v17 v18 v19 v20 v21 v22 v23 v24 v25 : D}
    (h1 : F__law_pool [x1, x2] = .ok (.own c1 v1))
    (h2 : F__law_side v1 [.int 4] = .ok v2 d1)
    (h3 : F__law_side d1 [.int 4] = .ok v3 d2)
    (h4 : F__law_rows d2 [v2, v3] = .ok v4 d3)
    (h5 : (orA reprL reprN) [v4] = some v5)
    (h6 : F__law_caught [v2, v3, v4] = .ok (.own c1 v6))
    (h7 : eqB v6 (.lst [.str "made"]) = some true)
    (h8 : lenA [v4] = some (.int n1))
    (h9 : F__law_take d3 [.int (n1 + 1)] = .ok (.int n2) d4)
    (h10 : F__law_odd_row d4 [v2, v3] = .ok v7 d5)
    (h11 : sliceD v4 none (some n2) = some v8)
    (h12 : addD v8 (.lst [v7]) = some v9)
    (h13 : sliceD v4 (some n2) none = some v10)
    (h14 : addD v9 v10 = some v11)
    (h15 : F__law_take d5 [.int 5] = .ok (.int n3) d6)
    (h16 : idxD (.lst [.non, .dct [], .str "rows", .int 5, .bl true]) (.int n3) = some v12)
    (h17 : F__law_caught [v2, v3, v11] = .ok (.own c1 v13))
    (h18 : (orA reprL reprN) [v7] = some v14)
    (h19 : eqB v13 (.lst [.int 2, v14]) = some true)
    (h20 : F__law_caught [v2, v3, v12] = .ok (.own c1 v15))
    (h21 : (orA reprL reprN) [v12] = some v16)
    (h22 : eqB v15 (.lst [.int 2, v16]) = some true)
    (h23 : eqB v4 (.lst []) = some true)
    (h24 : F__law_odd_sizes d6 [v2] = .ok v17 d7)
    (h25 : F__law_caught [v17, .non, v12] = .ok (.own c1 v18))
    (h26 : (orA reprL reprN) [v17] = some v19)
    (h27 : eqB v18 (.lst [.int 0, v19]) = some true)
    (h28 : F__law_caught [v2, v17, v12] = .ok (.own c1 v20))
    (h29 : eqB v20 (.lst [.int 0, v19]) = some true)
    (h30 : addD (.tup [.int 2]) v3 = some v21)
    (h31 : F__law_caught [.tup [.int 4, .int 4, .int 4, .int 4, .int 4], v21, v12] = .ok (.own c1 v22))
    (h32 : idxD v22 (.int 0) = some v23)
    (h33 : eqB v23 (.int 1) = some true)
    (h34 : F__law_caught [.tup [.int 4, .int 4, .int 4, .int 4, .int 4], .tup [.int 3, .int 1], v11] = .ok (.own c1 v24))
    (h35 : eqB v24 (.lst [.int 1, .int 3072]) = some true)
    (h36 : F__law_caught [.tup [.int 4, .int 4, .int 4, .int 4, .int 4], .tup [.int 1], .lst []] = .ok (.own c1 v25))
    (h37 : eqB v25 (.lst [.str "made"]) = some true)
    (h38 : eqB v5 v5 = some true) :
    b_law_1 [some (.val x1), some (.val x2), a1, a2, a3, a4, a5, a6, a7, a8, a9, a10, a11, a12] = .nx [some (.val x1), some (.val x2), some (.own c1 d7), some (.val v4), some (.val v5), some (.val (.int n2)), some (.val v7), some (.val v11), some (.val v12), some (.val v17), some (.val (.tup [.int 4, .int 4, .int 4, .int 4, .int 4])), some (.val v2), some (.val v3), a12] := by
  unfold b_law_1
  have p1 : eFnT c1 c1 F__law_side 2 (aCons (eC (.int 4)) aNil) [some (.val x1), some (.val x2), some (.own c1 v1), a2, a3, a4, a5, a6, a7, a8, a9, a10, a11, a12] = .ok (v2, [some (.val x1), some (.val x2), some (.own c1 d1), a2, a3, a4, a5, a6, a7, a8, a9, a10, a11, a12]) := q_eFnT (r := aCons (eC (.int 4)) aNil) (env := [some (.val x1), some (.val x2), some (.own c1 v1), a2, a3, a4, a5, a6, a7, a8, a9, a10, a11, a12]) (e2 := [some (.val x1), some (.val x2), some (.own c1 v1), a2, a3, a4, a5, a6, a7, a8, a9, a10, a11, a12]) rfl (by push_cast []) rfl h2
  have p2 : eFnT c1 c1 F__law_side 2 (aCons (eC (.int 4)) aNil) [some (.val x1), some (.val x2), some (.own c1 d1), a2, a3, a4, a5, a6, a7, a8, a9, a10, a11, a12] = .ok (v3, [some (.val x1), some (.val x2), some (.own c1 d2), a2, a3, a4, a5, a6, a7, a8, a9, a10, a11, a12]) := q_eFnT (r := aCons (eC (.int 4)) aNil) (env := [some (.val x1), some (.val x2), some (.own c1 d1), a2, a3, a4, a5, a6, a7, a8, a9, a10, a11, a12]) (e2 := [some (.val x1), some (.val x2), some (.own c1 d1), a2, a3, a4, a5, a6, a7, a8, a9, a10, a11, a12]) rfl (by push_cast [p1]) rfl h3
  have p3 : eFnT c1 c1 F__law_rows 2 (aCons (eV 11) (aCons (eV 12) aNil)) [some (.val x1), some (.val x2), some (.own c1 d2), a2, a3, a4, a5, a6, a7, a8, a9, some (.val v2), some (.val v3), a12] = .ok (v4, [some (.val x1), some (.val x2), some (.own c1 d3), a2, a3, a4, a5, a6, a7, a8, a9, some (.val v2), some (.val v3), a12]) := q_eFnT (r := aCons (eV 11) (aCons (eV 12) aNil)) (env := [some (.val x1), some (.val x2), some (.own c1 d2), a2, a3, a4, a5, a6, a7, a8, a9, some (.val v2), some (.val v3), a12]) (e2 := [some (.val x1), some (.val x2), some (.own c1 d2), a2, a3, a4, a5, a6, a7, a8, a9, some (.val v2), some (.val v3), a12]) rfl (by push_cast []) rfl h4
  have p4 : eFnT c1 c1 F__law_take 2 (aCons (eOp addD (eApp lenA (aCons (eV 3) aNil)) (eC (.int 1))) aNil) [some (.val x1), some (.val x2), some (.own c1 d3), some (.val v4), some (.val v5), a4, a5, a6, a7, a8, a9, some (.val v2), some (.val v3), a12] = .ok (.int n2, [some (.val x1), some (.val x2), some (.own c1 d4), some (.val v4), some (.val v5), a4, a5, a6, a7, a8, a9, some (.val v2), some (.val v3), a12]) := q_eFnT (r := aCons (eOp addD (eApp lenA (aCons (eV 3) aNil)) (eC (.int 1))) aNil) (env := [some (.val x1), some (.val x2), some (.own c1 d3), some (.val v4), some (.val v5), a4, a5, a6, a7, a8, a9, some (.val v2), some (.val v3), a12]) (e2 := [some (.val x1), some (.val x2), some (.own c1 d3), some (.val v4), some (.val v5), a4, a5, a6, a7, a8, a9, some (.val v2), some (.val v3), a12]) rfl (by push_cast [h8]) rfl h9
  have p5 : eFnT c1 c1 F__law_odd_row 2 (aCons (eV 11) (aCons (eV 12) aNil)) [some (.val x1), some (.val x2), some (.own c1 d4), some (.val v4), some (.val v5), some (.val (.int n2)), a5, a6, a7, a8, a9, some (.val v2), some (.val v3), a12] = .ok (v7, [some (.val x1), some (.val x2), some (.own c1 d5), some (.val v4), some (.val v5), some (.val (.int n2)), a5, a6, a7, a8, a9, some (.val v2), some (.val v3), a12]) := q_eFnT (r := aCons (eV 11) (aCons (eV 12) aNil)) (env := [some (.val x1), some (.val x2), some (.own c1 d4), some (.val v4), some (.val v5), some (.val (.int n2)), a5, a6, a7, a8, a9, some (.val v2), some (.val v3), a12]) (e2 := [some (.val x1), some (.val x2), some (.own c1 d4), some (.val v4), some (.val v5), some (.val (.int n2)), a5, a6, a7, a8, a9, some (.val v2), some (.val v3), a12]) rfl (by push_cast []) rfl h10
  have p6 : eFnT c1 c1 F__law_take 2 (aCons (eC (.int 5)) aNil) [some (.val x1), some (.val x2), some (.own c1 d5), some (.val v4), some (.val v5), some (.val (.int n2)), some (.val v7), some (.val v11), a7, a8, a9, some (.val v2), some (.val v3), a12] = .ok (.int n3, [some (.val x1), some (.val x2), some (.own c1 d6), some (.val v4), some (.val v5), some (.val (.int n2)), some (.val v7), some (.val v11), a7, a8, a9, some (.val v2), some (.val v3), a12]) := q_eFnT (r := aCons (eC (.int 5)) aNil) (env := [some (.val x1), some (.val x2), some (.own c1 d5), some (.val v4), some (.val v5), some (.val (.int n2)), some (.val v7), some (.val v11), a7, a8, a9, some (.val v2), some (.val v3), a12]) (e2 := [some (.val x1), some (.val x2), some (.own c1 d5), some (.val v4), some (.val v5), some (.val (.int n2)), some (.val v7), some (.val v11), a7, a8, a9, some (.val v2), some (.val v3), a12]) rfl (by push_cast [h16]) rfl h15
  have p7 : eFnT c1 c1 F__law_odd_sizes 2 (aCons (eV 11) aNil) [some (.val x1), some (.val x2), some (.own c1 d6), some (.val v4), some (.val v5), some (.val (.int n2)), some (.val v7), some (.val v11), some (.val v12), a8, a9, some (.val v2), some (.val v3), a12] = .ok (v17, [some (.val x1), some (.val x2), some (.own c1 d7), some (.val v4), some (.val v5), some (.val (.int n2)), some (.val v7), some (.val v11), some (.val v12), a8, a9, some (.val v2), some (.val v3), a12]) := q_eFnT (r := aCons (eV 11) aNil) (env := [some (.val x1), some (.val x2), some (.own c1 d6), some (.val v4), some (.val v5), some (.val (.int n2)), some (.val v7), some (.val v11), some (.val v12), a8, a9, some (.val v2), some (.val v3), a12]) (e2 := [some (.val x1), some (.val x2), some (.own c1 d6), some (.val v4), some (.val v5), some (.val (.int n2)), some (.val v7), some (.val v11), some (.val v12), a8, a9, some (.val v2), some (.val v3), a12]) rfl (by push_cast []) rfl h24
  generalize F__law_pool = G1 at *
  generalize F__law_side = G2 at *
  generalize F__law_rows = G3 at *
  generalize orA reprL reprN = G4 at *
  generalize F__law_caught = G5 at *
  generalize F__law_take = G6 at *
  generalize F__law_odd_row = G7 at *
  generalize F__law_odd_sizes = G8 at *
  refine seq_n (e1 := [some (.val x1), some (.val x2), some (.own c1 v1), a2, a3, a4, a5, a6, a7, a8, a9, a10, a11, a12]) (by push_cast [h1]) ?_
  refine seq_n (e1 := [some (.val x1), some (.val x2), some (.own c1 d2), a2, a3, a4, a5, a6, a7, a8, a9, some (.val v2), some (.val v3), a12]) (by push_cast [p1, p2]) ?_
  refine seq_n (e1 := [some (.val x1), some (.val x2), some (.own c1 d3), some (.val v4), a3, a4, a5, a6, a7, a8, a9, some (.val v2), some (.val v3), a12]) (by push_cast [p3]) ?_
  refine seq_n (e1 := [some (.val x1), some (.val x2), some (.own c1 d3), some (.val v4), some (.val v5), a4, a5, a6, a7, a8, a9, some (.val v2), some (.val v3), a12]) (by push_cast [h5]) ?_
  refine seq_n (e1 := [some (.val x1), some (.val x2), some (.own c1 d3), some (.val v4), some (.val v5), a4, a5, a6, a7, a8, a9, some (.val v2), some (.val v3), a12]) (by push_cast [h6, h7]) ?_
  refine seq_n (e1 := [some (.val x1), some (.val x2), some (.own c1 d4), some (.val v4), some (.val v5), some (.val (.int n2)), a5, a6, a7, a8, a9, some (.val v2), some (.val v3), a12]) (by push_cast [h8, p4]) ?_
  refine seq_n (e1 := [some (.val x1), some (.val x2), some (.own c1 d5), some (.val v4), some (.val v5), some (.val (.int n2)), some (.val v7), a6, a7, a8, a9, some (.val v2), some (.val v3), a12]) (by push_cast [p5]) ?_
  refine seq_n (e1 := [some (.val x1), some (.val x2), some (.own c1 d5), some (.val v4), some (.val v5), some (.val (.int n2)), some (.val v7), some (.val v11), a7, a8, a9, some (.val v2), some (.val v3), a12]) (by push_cast [h11, h12, h13, h14]) ?_
  refine seq_n (e1 := [some (.val x1), some (.val x2), some (.own c1 d6), some (.val v4), some (.val v5), some (.val (.int n2)), some (.val v7), some (.val v11), some (.val v12), a8, a9, some (.val v2), some (.val v3), a12]) (by push_cast [h16, p6]) ?_
  refine seq_n (e1 := [some (.val x1), some (.val x2), some (.own c1 d6), some (.val v4), some (.val v5), some (.val (.int n2)), some (.val v7), some (.val v11), some (.val v12), a8, a9, some (.val v2), some (.val v3), a12]) (by push_cast [h17, h18, h19, h20, h21, h22]) ?_
  refine seq_n (e1 := [some (.val x1), some (.val x2), some (.own c1 d6), some (.val v4), some (.val v5), some (.val (.int n2)), some (.val v7), some (.val v11), some (.val v12), a8, a9, some (.val v2), some (.val v3), a12]) (by push_cast [h23]) ?_
  refine seq_n (e1 := [some (.val x1), some (.val x2), some (.own c1 d7), some (.val v4), some (.val v5), some (.val (.int n2)), some (.val v7), some (.val v11), some (.val v12), some (.val v17), a9, some (.val v2), some (.val v3), a12]) (by push_cast [p7]) ?_
  refine seq_n (e1 := [some (.val x1), some (.val x2), some (.own c1 d7), some (.val v4), some (.val v5), some (.val (.int n2)), some (.val v7), some (.val v11), some (.val v12), some (.val v17), some (.val (.tup [.int 4, .int 4, .int 4, .int 4, .int 4])), some (.val v2), some (.val v3), a12]) (by push_cast []) ?_
  refine seq_n (e1 := [some (.val x1), some (.val x2), some (.own c1 d7), some (.val v4), some (.val v5), some (.val (.int n2)), some (.val v7), some (.val v11), some (.val v12), some (.val v17), some (.val (.tup [.int 4, .int 4, .int 4, .int 4, .int 4])), some (.val v2), some (.val v3), a12]) (by push_cast [h25, h26, h27]) ?_
  refine seq_n (e1 := [some (.val x1), some (.val x2), some (.own c1 d7), some (.val v4), some (.val v5), some (.val (.int n2)), some (.val v7), some (.val v11), some (.val v12), some (.val v17), some (.val (.tup [.int 4, .int 4, .int 4, .int 4, .int 4])), some (.val v2), some (.val v3), a12]) (by push_cast [h28, h26, h29]) ?_
  refine seq_n (e1 := [some (.val x1), some (.val x2), some (.own c1 d7), some (.val v4), some (.val v5), some (.val (.int n2)), some (.val v7), some (.val v11), some (.val v12), some (.val v17), some (.val (.tup [.int 4, .int 4, .int 4, .int 4, .int 4])), some (.val v2), some (.val v3), a12]) (by push_cast [h30, h31, h32, h33, h34, h35]) ?_
  push_cast [h36, h37, h5, h38]

theorem lb_1 {x1 x2 : D} {a1 a2 a3 a4 a5 a6 a7 a8 a9 a10 a11 a12 : Option Cell} {v1 d1 v2 d2 v3 d3 v4 v5 v6 : D} {n1 : Int} {d4 : D} {n2 : Int} {d5 v7 v8 v9 v10 v11 d6 : D} {n3 : Int} {v12 v13 v14 v15 v16 : D} {n4 : Int} {v17 v18 v19 v20 v21 v22 v23 d7 v24 v25 v26 v27 v28 v29 v30 v31 v32 : D}
    (h1 : F__law_pool [x1, x2] = .ok (.own c1 v1))
    (h2 : F__law_side v1 [.int 4] = .ok v2 d1)
    (h3 : F__law_side d1 [.int 4] = .ok v3 d2)
    (h4 : F__law_rows d2 [v2, v3] = .ok v4 d3)
    (h5 : (orA reprL reprN) [v4] = some v5)
    (h6 : F__law_caught [v2, v3, v4] = .ok (.own c1 v6))
    (h7 : eqB v6 (.lst [.str "made"]) = some true)
    (h8 : lenA [v4] = some (.int n1))
    (h9 : F__law_take d3 [.int (n1 + 1)] = .ok (.int n2) d4)
    (h10 : F__law_odd_row d4 [v2, v3] = .ok v7 d5)
    (h11 : sliceD v4 none (some n2) = some v8)
    (h12 : addD v8 (.lst [v7]) = some v9)
    (h13 : sliceD v4 (some n2) none = some v10)
    (h14 : addD v9 v10 = some v11)
    (h15 : F__law_take d5 [.int 5] = .ok (.int n3) d6)
    (h16 : idxD (.lst [.non, .dct [], .str "rows", .int 5, .bl true]) (.int n3) = some v12)
    (h17 : F__law_caught [v2, v3, v11] = .ok (.own c1 v13))
    (h18 : (orA reprL reprN) [v7] = some v14)
    (h19 : eqB v13 (.lst [.int 2, v14]) = some true)
    (h20 : F__law_caught [v2, v3, v12] = .ok (.own c1 v15))
    (h21 : (orA reprL reprN) [v12] = some v16)
    (h22 : eqB v15 (.lst [.int 2, v16]) = some true)
    (h23 : eqB v4 (.lst []) = some false)
    (h24 : modD (.int n2) (.int n1) = some (.int n4))
    (h25 : idxD v4 (.int n4) = some v17)
    (h26 : sliceD v17 none (some 2) = some v18)
    (h27 : addD v18 (.tup [.int 7]) = some v19)
    (h28 : addD v4 (.lst [v19]) = some v20)
    (h29 : addD v20 (.lst [v7]) = some v21)
    (h30 : F__law_caught [v2, v3, v21] = .ok (.own c1 v22))
    (h31 : (orA reprL reprN) [v19] = some v23)
    (h32 : eqB v22 (.lst [.int 2, v23]) = some true)
    (h33 : F__law_odd_sizes d6 [v2] = .ok v24 d7)
    (h34 : F__law_caught [v24, .non, v12] = .ok (.own c1 v25))
    (h35 : (orA reprL reprN) [v24] = some v26)
    (h36 : eqB v25 (.lst [.int 0, v26]) = some true)
    (h37 : F__law_caught [v2, v24, v12] = .ok (.own c1 v27))
    (h38 : eqB v27 (.lst [.int 0, v26]) = some true)
    (h39 : addD (.tup [.int 2]) v3 = some v28)
    (h40 : F__law_caught [.tup [.int 4, .int 4, .int 4, .int 4, .int 4], v28, v12] = .ok (.own c1 v29))
    (h41 : idxD v29 (.int 0) = some v30)
    (h42 : eqB v30 (.int 1) = some true)
    (h43 : F__law_caught [.tup [.int 4, .int 4, .int 4, .int 4, .int 4], .tup [.int 3, .int 1], v11] = .ok (.own c1 v31))
    (h44 : eqB v31 (.lst [.int 1, .int 3072]) = some true)
    (h45 : F__law_caught [.tup [.int 4, .int 4, .int 4, .int 4, .int 4], .tup [.int 1], .lst []] = .ok (.own c1 v32))
    (h46 : eqB v32 (.lst [.str "made"]) = some true)
    (h47 : eqB v5 v5 = some true) :
    b_law_1 [some (.val x1), some (.val x2), a1, a2, a3, a4, a5, a6, a7, a8, a9, a10, a11, a12] = .nx [some (.val x1), some (.val x2), some (.own c1 d7), some (.val v4), some (.val v5), some (.val (.int n2)), some (.val v7), some (.val v11), some (.val v12), some (.val v24), some (.val (.tup [.int 4, .int 4, .int 4, .int 4, .int 4])), some (.val v2), some (.val v3), some (.val v19)] := by
  unfold b_law_1
  have p1 : eFnT c1 c1 F__law_side 2 (aCons (eC (.int 4)) aNil) [some (.val x1), some (.val x2), some (.own c1 v1), a2, a3, a4, a5, a6, a7, a8, a9, a10, a11, a12] = .ok (v2, [some (.val x1), some (.val x2), some (.own c1 d1), a2, a3, a4, a5, a6, a7, a8, a9, a10, a11, a12]) := q_eFnT (r := aCons (eC (.int 4)) aNil) (env := [some (.val x1), some (.val x2), some (.own c1 v1), a2, a3, a4, a5, a6, a7, a8, a9, a10, a11, a12]) (e2 := [some (.val x1), some (.val x2), some (.own c1 v1), a2, a3, a4, a5, a6, a7, a8, a9, a10, a11, a12]) rfl (by push_cast []) rfl h2
  have p2 : eFnT c1 c1 F__law_side 2 (aCons (eC (.int 4)) aNil) [some (.val x1), some (.val x2), some (.own c1 d1), a2, a3, a4, a5, a6, a7, a8, a9, a10, a11, a12] = .ok (v3, [some (.val x1), some (.val x2), some (.own c1 d2), a2, a3, a4, a5, a6, a7, a8, a9, a10, a11, a12]) := q_eFnT (r := aCons (eC (.int 4)) aNil) (env := [some (.val x1), some (.val x2), some (.own c1 d1), a2, a3, a4, a5, a6, a7, a8, a9, a10, a11, a12]) (e2 := [some (.val x1), some (.val x2), some (.own c1 d1), a2, a3, a4, a5, a6, a7, a8, a9, a10, a11, a12]) rfl (by push_cast [p1]) rfl h3
  have p3 : eFnT c1 c1 F__law_rows 2 (aCons (eV 11) (aCons (eV 12) aNil)) [some (.val x1), some (.val x2), some (.own c1 d2), a2, a3, a4, a5, a6, a7, a8, a9, some (.val v2), some (.val v3), a12] = .ok (v4, [some (.val x1), some (.val x2), some (.own c1 d3), a2, a3, a4, a5, a6, a7, a8, a9, some (.val v2), some (.val v3), a12]) := q_eFnT (r := aCons (eV 11) (aCons (eV 12) aNil)) (env := [some (.val x1), some (.val x2), some (.own c1 d2), a2, a3, a4, a5, a6, a7, a8, a9, some (.val v2), some (.val v3), a12]) (e2 := [some (.val x1), some (.val x2), some (.own c1 d2), a2, a3, a4, a5, a6, a7, a8, a9, some (.val v2), some (.val v3), a12]) rfl (by push_cast []) rfl h4
  have p4 : eFnT c1 c1 F__law_take 2 (aCons (eOp addD (eApp lenA (aCons (eV 3) aNil)) (eC (.int 1))) aNil) [some (.val x1), some (.val x2), some (.own c1 d3), some (.val v4), some (.val v5), a4, a5, a6, a7, a8, a9, some (.val v2), some (.val v3), a12] = .ok (.int n2, [some (.val x1), some (.val x2), some (.own c1 d4), some (.val v4), some (.val v5), a4, a5, a6, a7, a8, a9, some (.val v2), some (.val v3), a12]) := q_eFnT (r := aCons (eOp addD (eApp lenA (aCons (eV 3) aNil)) (eC (.int 1))) aNil) (env := [some (.val x1), some (.val x2), some (.own c1 d3), some (.val v4), some (.val v5), a4, a5, a6, a7, a8, a9, some (.val v2), some (.val v3), a12]) (e2 := [some (.val x1), some (.val x2), some (.own c1 d3), some (.val v4), some (.val v5), a4, a5, a6, a7, a8, a9, some (.val v2), some (.val v3), a12]) rfl (by push_cast [h8]) rfl h9
  have p5 : eFnT c1 c1 F__law_odd_row 2 (aCons (eV 11) (aCons (eV 12) aNil)) [some (.val x1), some (.val x2), some (.own c1 d4), some (.val v4), some (.val v5), some (.val (.int n2)), a5, a6, a7, a8, a9, some (.val v2), some (.val v3), a12] = .ok (v7, [some (.val x1), some (.val x2), some (.own c1 d5), some (.val v4), some (.val v5), some (.val (.int n2)), a5, a6, a7, a8, a9, some (.val v2), some (.val v3), a12]) := q_eFnT (r := aCons (eV 11) (aCons (eV 12) aNil)) (env := [some (.val x1), some (.val x2), some (.own c1 d4), some (.val v4), some (.val v5), some (.val (.int n2)), a5, a6, a7, a8, a9, some (.val v2), some (.val v3), a12]) (e2 := [some (.val x1), some (.val x2), some (.own c1 d4), some (.val v4), some (.val v5), some (.val (.int n2)), a5, a6, a7, a8, a9, some (.val v2), some (.val v3), a12]) rfl (by push_cast []) rfl h10
  have p6 : eFnT c1 c1 F__law_take 2 (aCons (eC (.int 5)) aNil) [some (.val x1), some (.val x2), some (.own c1 d5), some (.val v4), some (.val v5), some (.val (.int n2)), some (.val v7), some (.val v11), a7, a8, a9, some (.val v2), some (.val v3), a12] = .ok (.int n3, [some (.val x1), some (.val x2), some (.own c1 d6), some (.val v4), some (.val v5), some (.val (.int n2)), some (.val v7), some (.val v11), a7, a8, a9, some (.val v2), some (.val v3), a12]) := q_eFnT (r := aCons (eC (.int 5)) aNil) (env := [some (.val x1), some (.val x2), some (.own c1 d5), some (.val v4), some (.val v5), some (.val (.int n2)), some (.val v7), some (.val v11), a7, a8, a9, some (.val v2), some (.val v3), a12]) (e2 := [some (.val x1), some (.val x2), some (.own c1 d5), some (.val v4), some (.val v5), some (.val (.int n2)), some (.val v7), some (.val v11), a7, a8, a9, some (.val v2), some (.val v3), a12]) rfl (by push_cast [h16]) rfl h15
  have p7 : eFnT c1 c1 F__law_odd_sizes 2 (aCons (eV 11) aNil) [some (.val x1), some (.val x2), some (.own c1 d6), some (.val v4), some (.val v5), some (.val (.int n2)), some (.val v7), some (.val v11), some (.val v12), a8, a9, some (.val v2), some (.val v3), some (.val v19)] = .ok (v24, [some (.val x1), some (.val x2), some (.own c1 d7), some (.val v4), some (.val v5), some (.val (.int n2)), some (.val v7), some (.val v11), some (.val v12), a8, a9, some (.val v2), some (.val v3), some (.val v19)]) := q_eFnT (r := aCons (eV 11) aNil) (env := [some (.val x1), some (.val x2), some (.own c1 d6), some (.val v4), some (.val v5), some (.val (.int n2)), some (.val v7), some (.val v11), some (.val v12), a8, a9, some (.val v2), some (.val v3), some (.val v19)]) (e2 := [some (.val x1), some (.val x2), some (.own c1 d6), some (.val v4), some (.val v5), some (.val (.int n2)), some (.val v7), some (.val v11), some (.val v12), a8, a9, some (.val v2), some (.val v3), some (.val v19)]) rfl (by push_cast []) rfl h33
  generalize F__law_pool = G1 at *
  generalize F__law_side = G2 at *
  generalize F__law_rows = G3 at *
  generalize orA reprL reprN = G4 at *
  generalize F__law_caught = G5 at *
  generalize F__law_take = G6 at *
  generalize F__law_odd_row = G7 at *
  generalize F__law_odd_sizes = G8 at *
  refine seq_n (e1 := [some (.val x1), some (.val x2), some (.own c1 v1), a2, a3, a4, a5, a6, a7, a8, a9, a10, a11, a12]) (by push_cast [h1]) ?_
  refine seq_n (e1 := [some (.val x1), some (.val x2), some (.own c1 d2), a2, a3, a4, a5, a6, a7, a8, a9, some (.val v2), some (.val v3), a12]) (by push_cast [p1, p2]) ?_
  refine seq_n (e1 := [some (.val x1), some (.val x2), some (.own c1 d3), some (.val v4), a3, a4, a5, a6, a7, a8, a9, some (.val v2), some (.val v3), a12]) (by push_cast [p3]) ?_
  refine seq_n (e1 := [some (.val x1), some (.val x2), some (.own c1 d3), some (.val v4), some (.val v5), a4, a5, a6, a7, a8, a9, some (.val v2), some (.val v3), a12]) (by push_cast [h5]) ?_
  refine seq_n (e1 := [some (.val x1), some (.val x2), some (.own c1 d3), some (.val v4), some (.val v5), a4, a5, a6, a7, a8, a9, some (.val v2), some (.val v3), a12]) (by push_cast [h6, h7]) ?_
  refine seq_n (e1 := [some (.val x1), some (.val x2), some (.own c1 d4), some (.val v4), some (.val v5), some (.val (.int n2)), a5, a6, a7, a8, a9, some (.val v2), some (.val v3), a12]) (by push_cast [h8, p4]) ?_
  refine seq_n (e1 := [some (.val x1), some (.val x2), some (.own c1 d5), some (.val v4), some (.val v5), some (.val (.int n2)), some (.val v7), a6, a7, a8, a9, some (.val v2), some (.val v3), a12]) (by push_cast [p5]) ?_
  refine seq_n (e1 := [some (.val x1), some (.val x2), some (.own c1 d5), some (.val v4), some (.val v5), some (.val (.int n2)), some (.val v7), some (.val v11), a7, a8, a9, some (.val v2), some (.val v3), a12]) (by push_cast [h11, h12, h13, h14]) ?_
  refine seq_n (e1 := [some (.val x1), some (.val x2), some (.own c1 d6), some (.val v4), some (.val v5), some (.val (.int n2)), some (.val v7), some (.val v11), some (.val v12), a8, a9, some (.val v2), some (.val v3), a12]) (by push_cast [h16, p6]) ?_
  refine seq_n (e1 := [some (.val x1), some (.val x2), some (.own c1 d6), some (.val v4), some (.val v5), some (.val (.int n2)), some (.val v7), some (.val v11), some (.val v12), a8, a9, some (.val v2), some (.val v3), a12]) (by push_cast [h17, h18, h19, h20, h21, h22]) ?_
  refine seq_n (e1 := [some (.val x1), some (.val x2), some (.own c1 d6), some (.val v4), some (.val v5), some (.val (.int n2)), some (.val v7), some (.val v11), some (.val v12), a8, a9, some (.val v2), some (.val v3), some (.val v19)]) (by push_cast [h23, h8, h24, h25, h26, h27, h28, h29, h30, h31, h32]) ?_
  refine seq_n (e1 := [some (.val x1), some (.val x2), some (.own c1 d7), some (.val v4), some (.val v5), some (.val (.int n2)), some (.val v7), some (.val v11), some (.val v12), some (.val v24), a9, some (.val v2), some (.val v3), some (.val v19)]) (by push_cast [p7]) ?_
  refine seq_n (e1 := [some (.val x1), some (.val x2), some (.own c1 d7), some (.val v4), some (.val v5), some (.val (.int n2)), some (.val v7), some (.val v11), some (.val v12), some (.val v24), some (.val (.tup [.int 4, .int 4, .int 4, .int 4, .int 4])), some (.val v2), some (.val v3), some (.val v19)]) (by push_cast []) ?_
  refine seq_n (e1 := [some (.val x1), some (.val x2), some (.own c1 d7), some (.val v4), some (.val v5), some (.val (.int n2)), some (.val v7), some (.val v11), some (.val v12), some (.val v24), some (.val (.tup [.int 4, .int 4, .int 4, .int 4, .int 4])), some (.val v2), some (.val v3), some (.val v19)]) (by push_cast [h34, h35, h36]) ?_
  refine seq_n (e1 := [some (.val x1), some (.val x2), some (.own c1 d7), some (.val v4), some (.val v5), some (.val (.int n2)), some (.val v7), some (.val v11), some (.val v12), some (.val v24), some (.val (.tup [.int 4, .int 4, .int 4, .int 4, .int 4])), some (.val v2), some (.val v3), some (.val v19)]) (by push_cast [h37, h35, h38]) ?_
  refine seq_n (e1 := [some (.val x1), some (.val x2), some (.own c1 d7), some (.val v4), some (.val v5), some (.val (.int n2)), some (.val v7), some (.val v11), some (.val v12), some (.val v24), some (.val (.tup [.int 4, .int 4, .int 4, .int 4, .int 4])), some (.val v2), some (.val v3), some (.val v19)]) (by push_cast [h39, h40, h41, h42, h43, h44]) ?_
  push_cast [h45, h46, h5, h47]

theorem lw_c {x1 : D} {n1 n2 n3 : Int} {L1 : List D} {a1 a2 a3 a4 a5 a6 a7 a8 a9 a10 a11 a12 a13 : Option Cell}
    (h1 : lenA [x1] = some (.int n1))
    (h2 : minD [.int 16, .int n1] = some (.int n2))
    (h3 : maxD [.int 1, .int n2] = some (.int n3))
    (h4 : r1Of [.int n3] = some L1)
    (h5 : loopS (tgN 1) b_law_1 L1 [some (.val x1), none, none, none, none, none, none, none, none, none, none, none, none, none] = .nx [some (.val x1), a1, a2, a3, a4, a5, a6, a7, a8, a9, a10, a11, a12, a13]) :
    F_law [x1] = .ok (.val (.bl true)) := by
  refine fn_rv (p := m_law) (e0 := [some (.val x1), none, none, none, none, none, none, none, none, none, none, none, none, none]) rfl rfl (e := [some (.val x1), a1, a2, a3, a4, a5, a6, a7, a8, a9, a10, a11, a12, a13]) ?_
  unfold m_law
  generalize b_law_1 = G1 at *
  refine seq_n (e1 := [some (.val x1), a1, a2, a3, a4, a5, a6, a7, a8, a9, a10, a11, a12, a13]) (by push_cast [h1, h2, h3, h4, h5]) ?_
  push_cast []

/-- texts with longer leaves -/
structure TinyZ (k w : Nat) (a : PyData) : Prop where
  dep : a.depth ≤ k
  wt : a.weight ≤ w
  sh : a.leavesShort 40 = true
  able : a.showable = true
  ok : PyData.strOk a.shown = true
theorem TinyZ.mono {k w k' w' : Nat} {a : PyData} (h : TinyZ k w a) (h1 : k ≤ k') (h2 : w ≤ w') : TinyZ k' w' a := ⟨Nat.le_trans h.dep h1, Nat.le_trans h.wt h2, h.sh, h.able, h.ok⟩
structure TinyZA (k w : Nat) (xs : List PyData) : Prop where
  dep : PyData.depthAll xs ≤ k
  wt : PyData.weightAll xs ≤ xs.length * (w + 1)
  sh : PyData.leavesShortAll 40 xs = true
  able : PyData.showableAll xs = true
theorem tinyZ_all {k w : Nat} : ∀ {xs : List PyData}, (∀ x ∈ xs, TinyZ k w x) → TinyZA k w xs
  | [], _ => ⟨by simp [PyData.depthAll], by simp [PyData.weightAll], by simp [PyData.leavesShortAll], by simp [PyData.showableAll]⟩
  | x :: xs, h => by
    have h1 := h x List.mem_cons_self
    have h2 := tinyZ_all fun y hy => h y (List.mem_cons_of_mem _ hy)
    refine ⟨?_, ?_, by simp [PyData.leavesShortAll, h1.sh, h2.sh], by simp [PyData.showableAll, h1.able, h2.able]⟩
    · rw [PyData.depthAll]
      exact Nat.max_le.mpr ⟨h1.dep, h2.dep⟩
    · have a1 := h1.wt
      have a2 := h2.wt
      rw [PyData.weightAll, List.length_cons, Nat.add_mul]
      omega
theorem tinyZ_tuple {k w n : Nat} {xs : List PyData} (h : ∀ x ∈ xs, TinyZ k w x) (hn : xs.length ≤ n) : TinyZ (k + 1) (n * (w + 1)) (.tuple xs) := by
  have q := tinyZ_all h
  have hm := Nat.mul_le_mul_right (w + 1) hn
  refine ⟨?_, ?_, by simp only [PyData.leavesShort, q.sh], by simp only [PyData.showable, q.able], ?_⟩
  · rw [PyData.depth]
    have := q.dep
    omega
  · rw [PyData.weight]
    have := q.wt
    omega
  · rw [PyData.shown]
    unfold tupleText
    exact strOk_app (strOk_app (strOk_of _) (strOk_join fun t ht => by obtain ⟨x, hx, rfl⟩ := shownAll_mem ht; exact (h x hx).ok)) (strOk_of _)
theorem tinyZ_list {k w n : Nat} {xs : List PyData} (h : ∀ x ∈ xs, TinyZ k w x) (hn : xs.length ≤ n) : TinyZ (k + 1) (n * (w + 1)) (.list xs) := by
  have q := tinyZ_all h
  have hm := Nat.mul_le_mul_right (w + 1) hn
  refine ⟨?_, ?_, by simp only [PyData.leavesShort, q.sh], by simp only [PyData.showable, q.able], ?_⟩
  · rw [PyData.depth]
    have := q.dep
    omega
  · rw [PyData.weight]
    have := q.wt
    omega
  · rw [PyData.shown]
    unfold listText
    exact strOk_app (strOk_from (strOk_of _) (fun t ht => by obtain ⟨x, hx, rfl⟩ := shownAll_mem ht; exact (h x hx).ok)) (strOk_of _)
structure TnZ (k w : Nat) (d : D) : Prop where
  ex : ∃ a, pyD d = some a ∧ TinyZ k w a
theorem TnZ.mono {k w k' w' : Nat} {d : D} (h : TnZ k w d) (h1 : k ≤ k') (h2 : w ≤ w') : TnZ k' w' d := by
  obtain ⟨a, e, t⟩ := h.ex
  exact ⟨a, e, t.mono h1 h2⟩
theorem tnz_tup {k w n : Nat} {ds : List D} (h : ∀ d ∈ ds, TnZ k w d) (hn : ds.length ≤ n) : TnZ (k + 1) (n * (w + 1)) (.tup ds) := by
  obtain ⟨as, e, p, l⟩ := pyDL_of (P := TinyZ k w) fun d hd => (h d hd).ex
  exact ⟨.tuple as, by simp [pyD, e], tinyZ_tuple p (by omega)⟩
theorem tnz_lst {k w n : Nat} {ds : List D} (h : ∀ d ∈ ds, TnZ k w d) (hn : ds.length ≤ n) : TnZ (k + 1) (n * (w + 1)) (.lst ds) := by
  obtain ⟨as, e, p, l⟩ := pyDL_of (P := TinyZ k w) fun d hd => (h d hd).ex
  exact ⟨.list as, by simp [pyD, e], tinyZ_list p (by omega)⟩
theorem TnZ.showOk {k w : Nat} {a : PyData} (t : TinyZ k w a) (hk : k ≤ 60) (hw : w ≤ 20000) : showOk a = true := by
  have h1 := PyData.shown_le 40 (by decide) a t.sh
  have h2 := t.wt
  have h3 := t.dep
  unfold DL.showOk
  simp only [t.able, Bool.true_and, Bool.and_eq_true, decide_eq_true_eq]
  omega
theorem TnZ.repr {k w : Nat} {d : D} (h : TnZ k w d) (hk : k ≤ 60) (hw : w ≤ 20000) : ∃ s, orA reprL reprN [d] = some (.str s) ∧ PyData.strOk s = true := by
  obtain ⟨a, e, t⟩ := h.ex
  have ho := TnZ.showOk t hk hw
  unfold orA
  cases hr : reprL [d] with
  | some z =>
    have hr' : reprD d = some z := hr
    unfold reprD at hr'
    split at hr'
    · cases hr'
      exact ⟨_, rfl, by decide +kernel⟩
    · rw [Option.bind_eq_some_iff] at hr'
      obtain ⟨b, e1, e2⟩ := hr'
      have := toPy_pyD d b e1
      rw [e] at this
      cases this
      rw [if_pos ho] at e2
      cases e2
      exact ⟨_, rfl, t.ok⟩
  | none =>
    refine ⟨a.shown, ?_, t.ok⟩
    have hr' : reprD d = none := hr
    have hi : isRf d = true := by
      cases d with
      | tup => rfl
      | lst => rfl
      | dct => rfl
      | scr => rw [pyD] at e; cases e
      | set => rw [pyD] at e; cases e
      | obj => rw [pyD] at e; cases e
      | non =>
        rw [pyD] at e
        cases e
        simp [reprD, toPy, ho] at hr'
      | bl b =>
        rw [pyD] at e
        cases e
        simp [reprD, toPy, ho] at hr'
      | int b =>
        rw [pyD] at e
        cases e
        simp [reprD, toPy, ho] at hr'
      | str b =>
        rw [pyD] at e
        cases e
        simp [reprD, toPy, ho] at hr'
    show (if isRf d = true then (pyD d).bind fun a => if DL.showOk a = true then some (D.str a.shown) else none else none) = _
    rw [if_pos hi, e]
    simp only [Option.bind_some]
    rw [if_pos ho]
theorem tnz_int {i : Int} (h : i.natAbs < 10 ^ 31) : TnZ 0 110 (.int i) := by
  have hl : i.natAbs.log2 < 110 := by
    by_cases hz : i.natAbs = 0
    · rw [hz]; decide
    · rw [Nat.log2_lt hz]
      exact Nat.lt_trans h (by decide)
  refine ⟨.int i, by simp [pyD], by simp [PyData.depth], ?_, ?_, ?_, ?_⟩
  · unfold PyData.weight
    split <;> omega
  · simp only [PyData.leavesShort, decide_eq_true_eq]
    have e := int_text_length_le10 (k := 31) (by decide) h
    show (Str.ofString (toString i)).length ≤ 40
    rw [PySem.ofString_length]
    omega
  · simp only [PyData.showable, decide_eq_true_eq]
    omega
  · rw [PyData.shown]
    exact strOk_of _
theorem av_1 : (sds.all fun A => decide ((allV A).length ≤ 4) && (allV A).all fun v => decide (v.length ≤ 2) && v.all fun i => decide (i.natAbs ≤ 3)) = true := by decide +kernel
theorem av_in {A : List Int} (h : A ∈ sds) : (allV A).length ≤ 4 ∧ ∀ v ∈ allV A, v.length ≤ 2 ∧ ∀ i ∈ v, i.natAbs ≤ 3 := by
  have q := List.all_eq_true.mp av_1 A h
  rw [Bool.and_eq_true] at q
  refine ⟨of_decide_eq_true q.1, fun v hv => ?_⟩
  have q2 := List.all_eq_true.mp q.2 v hv
  rw [Bool.and_eq_true] at q2
  exact ⟨of_decide_eq_true q2.1, fun i hi => of_decide_eq_true (List.all_eq_true.mp q2.2 i hi)⟩
theorem tnz_v {A v : List Int} (h : A ∈ sds) (hv : v ∈ allV A) : TnZ 1 222 (tI v) := by
  have q := (av_in h).2 v hv
  refine tnz_tup (k := 0) (w := 110) (n := 2) (fun d hd => ?_) (by rw [List.length_map]; exact q.1)
  obtain ⟨i, hi, rfl⟩ := List.mem_map.mp hd
  exact tnz_int (Nat.lt_of_le_of_lt (q.2 i hi) (by decide))
theorem tnz_row {A B : List Int} {r : Rw} (hA : A ∈ sds) (hB : B ∈ sds) (h1 : r.1 ∈ allV A) (h2 : r.2.1 ∈ allV B) (h3 : 1 ≤ r.2.2) (h4 : r.2.2 ≤ 1000000000000000000000000000000) : TnZ 2 669 (rD r) := by
  refine tnz_tup (k := 1) (w := 222) (n := 3) (fun d hd => ?_) (by simp)
  simp only [List.mem_cons, List.not_mem_nil, or_false] at hd
  rcases hd with rfl | rfl | rfl
  · exact tnz_v hA h1
  · exact tnz_v hB h2
  · exact (tnz_int (by
      have : (10 : Nat) ^ 31 = 10000000000000000000000000000000 := by decide
      omega)).mono (by decide) (by decide)
/-- the rows drawn -/
structure Rows (A B : List Int) (R : List Rw) : Prop where
  ok : ∀ r ∈ R, RowOk A B r
  o : Ord R
  l : R.length ≤ 16
  t : ∀ r ∈ R, TnZ 2 669 (rD r)
  t7 : ∀ r ∈ R, TnZ 2 669 (rD (r.1, r.2.1, 7))
theorem rows_16 {A B : List Int} {d : D} (hd : PoolOk d) (h : Side A B) (hA : A ∈ sds) (hB : B ∈ sds) : ∃ R d', F__law_rows d [tI A, tI B] = .ok (.lst (R.map rD)) d' ∧ PoolOk d' ∧ Rows A B R := by
  have hw0 := worths h.a h.la h.pa
  have a4 := (av_in hA).1
  have b4 := (av_in hB).1
  have hn : (allV A).length * (allV B).length ≤ 4 * 4 := Nat.mul_le_mul a4 b4
  obtain ⟨N, d', b', c', e', q1, q2, q3, q4, q5⟩ := outer_rows (A := A) h.b h.lb h.flip.pa (allV A) [] d none none none hd (allV_ord A) (by simp; omega)
  refine ⟨N, d', ?_, q2, fun r hr => ⟨valuesB_mem (q4 r hr).1, valuesB_mem (q4 r hr).2.1, (q4 r hr).2.2.1, (q4 r hr).2.2.2⟩, q5, by omega, fun r hr => tnz_row hA hB (q4 r hr).1 (q4 r hr).2.1 (q4 r hr).2.2.1 (q4 r hr).2.2.2, fun r hr => tnz_row hA hB (q4 r hr).1 (q4 r hr).2.1 (by show (1 : Int) ≤ 7; decide) (by show (7 : Int) ≤ 1000000000000000000000000000000; decide)⟩
  unfold F__law_rows fnSemT
  have e3 : m__law_rows [some (.own c1 d), some (.val (tI A)), some (.val (tI B)), none, none, none, none] = .rt (.val (.lst (N.map rD))) [some (.own c1 d'), some (.val (tI A)), some (.val (tI B)), some (.val (.lst (N.map rD))), b', c', e'] := by
    unfold m__law_rows
    simp only [List.map_nil, List.nil_append] at q1
    unfold rowB at q1
    simp [q_bnd, q_ok, q_er, q_bad, q_some, q_none, q_eC, q_eV, q_eZ, q_eOp, q_eUn, q_aNil, q_aCons, q_eTup, q_eLst, q_eApp, q_toB, q_bOf, q_tNo, q_tAn, q_tOt, q_eIf, q_eAn, q_eOt, q_eNo, q_eFn, q_eFnO, q_frv, q_fro, q_fre, q_foo, q_foo0, q_foe, q_sSet, q_sSetO, q_lok, q_ler, q_sNx, q_sSeq, q_sIf, q_sRet, q_sRetF, q_sDo, q_sRetO, q_sRaise, q_sFor, q_sUnp, q_sAug, q_sSetI, q_isOwn, q_sMix, q_mix0, q_mix1, q_setC0, q_setC, q_eOpX, q_eAppX, q_xV, q_xS, q_yNil, q_yCons, q_rv, q_rs, q_rL0, q_rL, q_eSlX, q_eFld, q_eMeth, q_eMk, q_eMt, q_iDi, q_iDv, q_iAll, q_eDc, q_eDc2, q_eOpP, q_eIsi, q_it1, q_it2, q_it3, q_iR1, q_iZp, q_iZpM, q_zp, q_eLc, q_eLc2, q_oNone, q_oSome, q_iOf, q_eSl, q_sTry, q_eXf, q_fn, q_lt, q_le, q_gt, q_ge, q_sub, q_add, q_iadd, q_fdiv, q_mod, q_pow, q_imul, q_mul, q_neg, q_is, q_nis, q_eq, q_ne, q_tgN, q_tgT, q_tg0, q_tgC, q_obd, q_eCh, q_eLenSc, q_iEnA, q_enT, q_enL, q_aKw, q_tgUt, q_tgUl, entry, hw0, q1]
  simp [entryT, e3, slot0, Sh.same, DL.c1]
section
variable {A B : List Int} {R : List Rw} (h : Rows A B R)
include h
theorem Rows.rp : ∃ s, (orA reprL reprN) [.lst (R.map rD)] = some (.str s) ∧ PyData.strOk s = true := by
  have := tnz_lst (k := 2) (w := 669) (n := 16) (ds := R.map rD) (fun d hd => by
    obtain ⟨r, hr, rfl⟩ := List.mem_map.mp hd
    exact h.t r hr) (by rw [List.length_map]; exact h.l)
  exact this.repr (by decide) (by decide)
theorem Rows.rp7 {r : Rw} (hr : r ∈ R) : ∃ s, (orA reprL reprN) [rD (r.1, r.2.1, 7)] = some (.str s) ∧ PyData.strOk s = true := (h.t7 r hr).repr (by decide) (by decide)
end
theorem eq_rp {i : Int} {s : Str} (h : PyData.strOk s = true) : eqB (.lst [.int i, .str s]) (.lst [.int i, .str s]) = some true := (eo_lst (k := 1) (by
  intro x hx
  simp only [List.mem_cons, List.not_mem_nil, or_false] at hx
  rcases hx with rfl | rfl
  · exact eo_int _ _
  · exact eo_str h _)).ok (by decide)
theorem cut_loK {xs : List D} {n : Nat} (h1 : n ≤ xs.length) : DL.cutD xs none (some (n : Int)) = xs.take n := by
  unfold DL.cutD HT.sIx
  simp only [List.drop_zero]
  rw [if_neg (by omega)]
  have e : min ((n : Int).toNat) xs.length = n := by omega
  simp [e]
theorem cut_hiK {xs : List D} {n : Nat} (h1 : n ≤ xs.length) : DL.cutD xs (some (n : Int)) none = xs.drop n := by
  unfold DL.cutD HT.sIx
  simp only
  rw [if_neg (by omega)]
  have e : min ((n : Int).toNat) xs.length = n := by omega
  rw [e, List.take_of_length_le (by rw [List.length_drop]; omega)]
theorem sl_loK {xs : List D} {n : Nat} (h1 : n ≤ xs.length) : sliceD (.lst xs) none (some (n : Int)) = some (.lst (xs.take n)) := by
  simp only [sliceD]
  rw [cut_loK h1]
theorem sl_hiK {xs : List D} {n : Nat} (h1 : n ≤ xs.length) : sliceD (.lst xs) (some (n : Int)) none = some (.lst (xs.drop n)) := by
  simp only [sliceD]
  rw [cut_hiK h1]
theorem addLk {xs ys : List D} (h : xs.length + ys.length < 1000000) : addD (.lst xs) (.lst ys) = some (.lst (xs ++ ys)) := if_pos (by omega)
abbrev w5 : List Int := [4, 4, 4, 4, 4]
theorem good_of {S : List Int} (h : (S.all fun s => decide (1 ≤ s ∧ s ≤ 4)) = true) : Good S := fun s hs => of_decide_eq_true (List.all_eq_true.mp h s hs)
theorem w5_good : Good w5 := good_of (by decide)
theorem side_w : Side w5 [1] := ⟨w5_good, good_of (by decide), by decide, by decide, by decide⟩
theorem caught_w {B : List Int} {c : D} (hB : Good B) (lB : B.length ≤ 30) (h : 1 < pr B) : F__law_caught [tI w5, tI B, c] = .ok (.own c1 (.lst [.int 1, .int (1024 * pr B)])) := by
  have e : pr w5 = 1024 := by decide
  obtain ⟨o, q⟩ := mk_wide (c := c) w5_good hB (by decide) lB (by decide) (by rw [e]; omega)
  rw [e] at q
  exact cgt_w q
theorem eqB_nilN {xs : List D} {k : Nat} (hx : xs ≠ []) (h : ∀ d ∈ xs, Eo k d) (hk : k < 60) : eqB (.lst xs) (.lst []) = some false := by
  obtain ⟨a, e, h1, h2⟩ := (eo_lst h).ex
  cases xs with
  | nil => exact (hx rfl).elim
  | cons y ys =>
    obtain ⟨b, hb, _, _⟩ := (h y List.mem_cons_self).ex
    have e2 : toPy (.lst []) = some (.list []) := rfl
    cases hq : toPyL ys with
    | none =>
      rw [toPy, toPyL, hb, hq] at e
      cases e
    | some bs =>
      have e1 : toPy (.lst (y :: ys)) = some (.list (b :: bs)) := by
        rw [toPy, toPyL, hb, hq]
        rfl
      rw [e1] at e
      cases e
      unfold eqB
      rw [e1, e2]
      simp only [Option.bind_some]
      have s1 : SeqAt.shaped (.list (b :: bs)) = true := by
        simp only [SeqAt.shaped, h1, Bool.true_and, decide_eq_true_eq]
        omega
      have s2 : SeqAt.shaped (.list []) = true := by decide +kernel
      rw [s1, s2, Bool.and_self, if_pos rfl]
      simp [PyData.eqv, PyData.eqvAll]
section
variable {A B : List Int} (h : Side A B) (hA : A ∈ sds) (hB : B ∈ sds)
include h hA hB
theorem law_turn {ns : List Int} {i : Int} {d0 d1 d2 : D} (hp : F__law_pool [scrOf ns, .int i] = .ok (.own c1 d0)) (s1 : F__law_side d0 [.int 4] = .ok (tI A) d1) (s2 : F__law_side d1 [.int 4] = .ok (tI B) d2) (hd : PoolOk d2) (lA : A.length ≤ 2) (lB : B.length ≤ 2) {a2 a3 a4 a5 a6 a7 a8 a9 a10 a11 a12 a13 : Option Cell} :
    ∃ b2 b3 b4 b5 b6 b7 b8 b9 b10 b11 b12 b13, b_law_1 [some (.val (scrOf ns)), some (.val (.int i)), a2, a3, a4, a5, a6, a7, a8, a9, a10, a11, a12, a13] = .nx [some (.val (scrOf ns)), some (.val (.int i)), b2, b3, b4, b5, b6, b7, b8, b9, b10, b11, b12, b13] := by
  obtain ⟨R, d3, r1, r2, hR⟩ := rows_16 hd h hA hB
  obtain ⟨s0, k1, k2⟩ := hR.rp
  have l16 := hR.l
  have mk := cgt_m (make_list h hR.ok hR.o.nodup (by omega))
  have la : lenA [.lst (R.map rD)] = some (.int (R.length : Nat)) := by
    show some (D.int ((R.map rD).length : Nat)) = _
    rw [List.length_map]
  obtain ⟨t, d4, t1, t2, t3, t4⟩ := take_ok r2 (n := (R.length : Nat) + 1) (by omega) (by omega)
  obtain ⟨n, rfl⟩ : ∃ n : Nat, t = (n : Nat) := ⟨t.toNat, by omega⟩
  have hn : n ≤ R.length := by omega
  have hn' : n ≤ (R.map rD).length := by rw [List.length_map]; exact hn
  obtain ⟨x, d5, x1, x2, x3⟩ := odd_ok t4 lA lB
  obtain ⟨f1, sx, f2, f3⟩ := odd_bad hA hB x3
  obtain ⟨z, d6, z1, z2, z3, z4⟩ := take_ok x2 (n := 5) (by decide) (by decide)
  obtain ⟨y, y1, y2⟩ := ix_in (L := nonL) z2 z3
  obtain ⟨g1, sy, g2, g3⟩ := non_bad y2
  have sl1 := sl_loK hn'
  have sl2 := sl_hiK hn'
  have ad1 : addD (.lst ((R.map rD).take n)) (.lst [x]) = some (.lst ((R.map rD).take n ++ [x])) := addLk (by rw [List.length_take, List.length_map, List.length_singleton]; omega)
  have ad2 : addD (.lst ((R.map rD).take n ++ [x])) (.lst ((R.map rD).drop n)) = some (.lst ((R.map rD).take n ++ [x] ++ (R.map rD).drop n)) := addLk (by rw [List.length_append, List.length_take, List.length_drop, List.length_map, List.length_singleton]; omega)
  have bent : ∃ o, F_Table___init__ (.obj 50 []) [tI A, tI B, .lst ((R.map rD).take n ++ [x] ++ (R.map rD).drop n)] = .er c_InvalidRow [("value", x)] o := by
    have q := mk_odd h (R := R.take n) (x := x) (L := (R.map rD).drop n) (fun r hr => hR.ok r (List.mem_of_mem_take hr)) (hR.o.nodup.sublist ((List.take_sublist n R).map keyR)) (by rw [List.length_take]; omega) f1
    rw [List.map_take] at q
    rw [List.append_assoc]
    exact q
  obtain ⟨_, bent⟩ := bent
  have cb := cgt_r bent f2
  obtain ⟨_, kd⟩ := mk_kind h g1
  have cn := cgt_r kd g2
  obtain ⟨st, d7, st1, st2, st3⟩ := str_ok z4 lA
  obtain ⟨p1, p2, ss, p3, p4⟩ := str_bad hA st3
  obtain ⟨_, m1⟩ := mk_sz1 (b := .non) (c := y) p1 p2
  obtain ⟨_, m2⟩ := mk_sz2 (c := y) h.a h.la p1 p2
  have cs1 := cgt_s m1 p3
  have cs2 := cgt_s m2 p3
  have ad3 : addD (.tup [.int 2]) (tI B) = some (tI (2 :: B)) := by
    show addD (.tup [.int 2]) (.tup (B.map D.int)) = _
    unfold addD
    have : (B.map D.int).length ≤ 2 := by rw [List.length_map]; exact lB
    simp [tI]
    omega
  have pB := pr_pos h.b
  have w1 := caught_w (B := 2 :: B) (c := y) (fun s hs => by
    rcases List.mem_cons.mp hs with rfl | hs
    · decide
    · exact h.b s hs) (by rw [List.length_cons]; omega) (by rw [pr]; omega)
  have w2 := caught_w (B := [3, 1]) (c := .lst ((R.map rD).take n ++ [x] ++ (R.map rD).drop n)) (good_of (by decide)) (by decide) (by decide)
  have w3 := cgt_m (make_list side_w (R := []) (by simp) (by simp) (by simp))
  have e1 : eqB (.lst [.str "made"]) (.lst [.str "made"]) = some true := by decide +kernel
  have e2 : eqB (.lst [.int 1, .int (1024 * pr [3, 1])]) (.lst [.int 1, .int 3072]) = some true := by decide +kernel
  have es : eqB (.str s0) (.str s0) = some true := (eo_str k2 0).ok (by decide)
  by_cases c : R = []
  · subst c
    exact ⟨_, _, _, _, _, _, _, _, _, _, _, _, lb_0 hp s1 s2 r1 k1 mk e1 la t1 x1 sl1 ad1 sl2 ad2 z1 y1 cb f2 (eq_rp f3) cn g2 (eq_rp g3) (by decide +kernel) st1 cs1 p3 (eq_rp p4) cs2 (eq_rp p4) ad3 w1 rfl (by decide +kernel) w2 e2 w3 e1 es⟩
  · have r0 : 0 < R.length := List.length_pos_iff.mpr c
    obtain ⟨m, hm, m0⟩ : ∃ m : Nat, modD (.int (n : Nat)) (.int (R.length : Nat)) = some (.int (m : Nat)) ∧ m < R.length := by
      refine ⟨n % R.length, ?_, Nat.mod_lt _ r0⟩
      rw [Int.natCast_emod]
      exact if_pos (by omega)
    have ix : idxD (.lst (R.map rD)) (.int (m : Nat)) = some (rD R[m]) := idx_lstX (by simp [m0])
    have rin : R[m] ∈ R := List.getElem_mem m0
    generalize R[m] = r at ix rin
    have ro := hR.ok r rin
    have ad4 : addD (.lst (R.map rD)) (.lst [rD (r.1, r.2.1, 7)]) = some (.lst (R.map rD ++ [rD (r.1, r.2.1, 7)])) := addLk (by rw [List.length_map, List.length_singleton]; omega)
    have ad5 : addD (.lst (R.map rD ++ [rD (r.1, r.2.1, 7)])) (.lst [x]) = some (.lst (R.map rD ++ [rD (r.1, r.2.1, 7)] ++ [x])) := addLk (by rw [List.length_append, List.length_map, List.length_singleton, List.length_singleton]; omega)
    have tw : ∃ o, F_Table___init__ (.obj 50 []) [tI A, tI B, .lst (R.map rD ++ [rD (r.1, r.2.1, 7)] ++ [x])] = .er c_InvalidRow [("value", rD (r.1, r.2.1, 7))] o := by
      rw [List.append_assoc]
      exact mk_twice h (L := [x]) hR.ok hR.o.nodup (by omega) ⟨ro.i, ro.o, by show (1 : Int) ≤ 7; decide, by show (7 : Int) ≤ _; decide⟩ rin rfl
    obtain ⟨_, tw⟩ := tw
    obtain ⟨s7, u1, u2⟩ := hR.rp7 rin
    have ct := cgt_r tw u1
    have ne : eqB (.lst (R.map rD)) (.lst []) = some false := eqB_nilN (k := 2) (by
      intro z
      exact c (List.map_eq_nil_iff.mp z)) (fun d hd => by
        obtain ⟨q, _, rfl⟩ := List.mem_map.mp hd
        exact eo_rD q 0) (by decide)
    exact ⟨_, _, _, _, _, _, _, _, _, _, _, _, lb_1 hp s1 s2 r1 k1 mk e1 la t1 x1 sl1 ad1 sl2 ad2 z1 y1 cb f2 (eq_rp f3) cn g2 (eq_rp g3) ne hm ix rfl rfl ad4 ad5 ct u1 (eq_rp u2) st1 cs1 p3 (eq_rp p4) cs2 (eq_rp p4) ad3 w1 rfl (by decide +kernel) w2 e2 w3 e1 es⟩
end
theorem law_true (ns : List Int) (h : ns.length ≤ 63) (hb : ∀ z ∈ ns, Builtin.Int.intBits z ≤ 1048576) : F_law [scrOf ns] = .ok (.val (.bl true)) := by
  have hn : lenA [scrOf ns] = some (.int ns.length) := by simp [scrOf, lenA, lenD]
  have hm : minD [.int 16, .int (ns.length : Nat)] = some (.int (if ((ns.length : Nat) : Int) < 16 then (ns.length : Nat) else 16)) := rfl
  obtain ⟨j, j1, j2, j3, j4⟩ := turns (n := 16) (m := ns.length) hm (by omega) (by decide) (by decide)
  obtain ⟨e, lp, a1, a2, a3, a4, a5, a6, a7, a8, a9, a10, a11, a12, a13, rfl⟩ := loop_fold (t := tgN 1) (b := b_law_1) (fun (_ : Unit) env => ∃ a1 a2 a3 a4 a5 a6 a7 a8 a9 a10 a11 a12 a13, env = [some (.val (scrOf ns)), a1, a2, a3, a4, a5, a6, a7, a8, a9, a10, a11, a12, a13]) (fun _ _ => ()) (rangeL 0 j.toNat) () [some (.val (scrOf ns)), none, none, none, none, none, none, none, none, none, none, none, none, none] ⟨_, _, _, _, _, _, _, _, _, _, _, _, _, rfl⟩ (by
    rintro u x env hx ⟨a1, a2, a3, a4, a5, a6, a7, a8, a9, a10, a11, a12, a13, rfl⟩
    obtain ⟨i, rfl, i0, i1⟩ := range_mem hx
    obtain ⟨d0, hp, hd0⟩ := pool_ok (ns := ns) (k := i) i0 (by omega)
    obtain ⟨A, d1, s1, s2, s3, s4⟩ := side_ok hd0 (m := 4) (by decide) (by decide)
    obtain ⟨B, d2, u1, u2, u3, u4⟩ := side_ok s2 (m := 4) (by decide) (by decide)
    have pA := pr_pos s3.good
    have pB := pr_pos u3.good
    have w : pr A * pr B ≤ 4 * 4 := Int.mul_le_mul s3.p u3.p (by omega) (by decide)
    obtain ⟨b2, b3, b4, b5, b6, b7, b8, b9, b10, b11, b12, b13, t⟩ := law_turn (A := A) (B := B) ⟨s3.good, u3.good, by omega, by omega, by omega⟩ (drawn_in s3 s4) (drawn_in u3 u4) hp s1 u1 u2 s4 u4 (a2 := a2) (a3 := a3) (a4 := a4) (a5 := a5) (a6 := a6) (a7 := a7) (a8 := a8) (a9 := a9) (a10 := a10) (a11 := a11) (a12 := a12) (a13 := a13)
    exact ⟨_, _, rfl, t, _, _, _, _, _, _, _, _, _, _, _, _, _, rfl⟩)
  exact lw_c hn hm j1 j4 lp
end K03
end

section
set_option Elab.async false
set_option linter.all false
set_option maxRecDepth 100000
open PySem PySem.W PySem.Calls PyProof.Rows
theorem PySem.Challenge.cw_lettersback_k03_invalid_tables_holds : PySem.Challenge.rw_lettersback_k03_invalid_tables.Holds := by
  refine K03.head (DL.walk_ofDB (l := PySem.Challenge.rw_lettersback_k03_invalid_tables) (n := 63) (k := 8) (Φ := K03.F_law) rfl (by decide) K03.d_dfl ⟨rfl, by decide, by decide⟩ ?F ?S)
  case F =>
    intro w mg h Y G
    obtain ⟨K, KX, c⟩ := Y
    obtain ⟨cl, h1⟩ := K03.all_B (P := (PySem.Challenge.rw_lettersback_k03_invalid_tables).prog) (w := w) KX G c
    rw [K03.d_name]
    exact ⟨K, cl, KX, h1⟩
  case S => exact K03.law_true
end
