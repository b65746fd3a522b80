import PyProof.Rows.All
import Wide.All
import OpenK.AllK
import Wide.FinOn
import HandS.ForMost
import HandS.Lambda
import HandS.ExcInit
import HandS.Star
import HandS.NoneIn
import HandS.Style
import HandS.Defaults
import HandS.Walk
import HandS.Comp
import HandS.Zip
import HandS.Rev
import KE.GoesEnum
import HandS.More
import HandS.SetFor
import HandS.Wide
import HandS.WideBits
import HandS.TupAny
import HandS.TupLe
import HandS.Deep
import HandS.Steps
import HandS.IsInst
import HandS.Property
import HandS.HeadEnd
import HandS.Codes
import HandS.SortInts
import HandS.TupSets
import HandS.SortRule
import HandS.Text
import HandS.Strs
import HandS.Dict
import HandS.Small
import HandS.DictComp
import HandS.TupMul
import HandS.Conv
import KE.KStateDown
import HandS.Words
import HandS.WordsExc
import HandS.Head0
import HandS.Head1
import HandS.Head2
import HandS.HeadHook1
import HandS.HeadHook2
import HandS.HeadNt
import HandS.Ends
import HandS.RevTup
import HandS.Gcd
import KE.KDictZip
import PyProof.SeqIndex
import HandS.TryOnly
import PyProof.ExcBaseAll.ArithmeticError
import HandS.ExcIs
import HandS.SortOrd
import PyProof.Rows.StrStep
import KE.KDictPairs
import PyProof.ListStr
import HandS.ExcField
import HandS.HeadHook4
import KE.KExcHand
import KE.KExcIs
import HandS.FStr
import HandS.RaiseMore
import KE.KCallOwn
import HandS.ClsMeth
import PyProof.InstEq
import KE.KFmtOwn
import HandS.Records
import HandS.HotCalls
import KE.KExcInit
import PyProof.ExcBaseAll.LookupError
import PyProof.ExcBaseAll.ValueError
import HandS.ExcValue
import PySem.Challenge.RW_pairsums_k01_limits_and_errors
import HandS.Head3
set_option Elab.async false
set_option linter.all false
set_option maxRecDepth 100000
set_option maxHeartbeats 4000000
open PySem PySem.W in
theorem law_of (h : PySem.Challenge.rw_pairsums_k01_limits_and_errors.row.wellSaid = true → PySem.Challenge.rw_pairsums_k01_limits_and_errors.row.Holds) : PySem.Challenge.rw_pairsums_k01_limits_and_errors.Holds := by
  w_on; o_law
  exact h (by assumption)
open PySem PySem.W in
theorem bare_of : PySem.Challenge.rw_pairsums_k01_limits_and_errors.row.prog.bare := ⟨rfl, rfl, rfl, rfl, rfl, by decide +kernel⟩
open PySem PySem.W in
theorem wit_of : PySem.Challenge.rw_pairsums_k01_limits_and_errors.row.toRowW.promised := by
  w_on
  w_witness2
namespace MI
open PySem PySem.Spec PyProof.Rows L2 He
abbrev dfA (a : PySem.W.Frag → Addr) (name qual : Str) (params : Arguments) (body : List Stmt) (scope : Scope) : He5.DefA := { at_ := a, name := name, qual := qual, params := params, body := body, scope := scope }
def lookM (fa : List (PySem.W.Frag → Bool)) (fn : List He5.DefA) (K : PySem.W.Frag) : Bool × AlD := (fa.all (· K), He5.obsA [] fn K)
structure SaysM (fa : List (PySem.W.Frag → Bool)) (fn : List He5.DefA) (K : PySem.W.Frag) : Prop where
  facts : fa.all (· K) = true
  defs : He5.SaysA [] fn K
def frN {α : Type} (n : Nat) (k : Nat → α) : α := match n with
  | 0 => k 0
  | m + 1 => k (m + 1)
def reach (g : Addr → Option Obj) : Nat → Nat → List Addr → List Addr
  | 0, _, _ => []
  | _ + 1, _, [] => []
  | f + 1, m, a :: rest => match Nat.land (Nat.shiftRight m a) 1 with
    | 0 => (match g a with
      | some o => frN (Nat.lor m (Nat.shiftLeft 1 a)) fun m => a :: reach g f m (rest ++ refsD o)
      | none => reach g f m rest)
    | _ + 1 => reach g f m rest
def partG (q : Addr → Option Obj) : PySem.W.Frag := frG q (reach q 100000 0 [mainGlobals, PySem.cStatics])
def lookG (fa : List (PySem.W.Frag → Bool)) (fn : List He5.DefA) (q : Addr → Option Obj) : Bool × AlD := lookM fa fn (partG q)
def hookM (fa : List (PySem.W.Frag → Bool)) (fn : List He5.DefA) : PySem.W.Hook :=
  { α := Bool × AlD, obs := fun z => lookG fa fn z.heap.get?, val := fun _ => (true, He5.valA fn), says := fun _ h => ∃ K, K.In h ∧ SaysM fa fn K,
    of := fun _ _ e => ⟨_, frG_in, ⟨congrArg Prod.fst e, congrArg Prod.snd e⟩⟩, keeps := fun _ _ _ x more => x.imp fun _ y => ⟨y.1.keeps more, y.2⟩ }
def excE (c : Str) (K : PySem.W.Frag) : Bool := eqO (PySem.W.findIn K (.ref (ga K c)) "__getattribute__") (some (some (.builtin "BaseException.__getattribute__"))) &&
  ((match PySem.W.findIn K (.ref (ga K c)) "__getattr__" with
    | some none => true
    | _ => false) && (decide (PySem.W.subIn K (.ref (ga K c)) (.type "BaseException") = some true) && (PySem.W.hasDictIn K (ga K c) && (eqO (PySem.W.findIn K (.ref (ga K c)) "__class__") (some (some (.builtin "object.__class__"))) &&
    (eqO (PySem.W.specialIn K (.builtin "object.__class__") "__get__") (some (some (.builtin "getset_descriptor.__get__"))) && (decide (PySem.W.takesIn K (.builtin "object.__class__") = some true) && decide (PySem.W.mroIn K (ga K c) (.type "object") = some true)))))))
def iniB (c fl : Str) (K : PySem.W.Frag) : Bool := eqO (PySem.W.findIn K (.ref (ga K c)) "__init__") (some (some (.ref (ma K (ga K c) "__init__")))) && ((match PySem.W.typeIn K (.ref (ma K (ga K c) "__init__")) with
    | some (.type t) => decide (t = "function")
    | _ => false) && (eqO (PySem.W.findIn K (.ref (ga K c)) fl) (some none) && xfB K (ga K c)))
def oexA (c fl : Str) (bmB : List Value) (newId : String) (K : PySem.W.Frag) : Bool := PySem.W.excInitIn K (ga K c) bmB newId && (PySem.W.excOver K (ga K c) bmB && (eqO (PySem.W.findIn K (.ref (ga K c)) "__setattr__") (some (some (.builtin "object.__setattr__"))) &&
  ((match PySem.W.takerIn K (ga K c) fl with
    | some none => true
    | _ => false) && (PySem.W.hasDictIn K (ga K c) && (decide (PySem.W.subIn K (.ref (ga K c)) (.type "BaseException") = some true) && ((match PySem.W.typeIn K (.ref (ga K c)) with
    | some (.type t) => decide (t = "type")
    | _ => false) && PySem.W.keepIn K (.ref (ga K c))))))))
abbrev leB : List Value := [.type "LookupError", .type "Exception", .type "BaseException", .type "object"]
abbrev aeB : List Value := [.type "ArithmeticError", .type "Exception", .type "BaseException", .type "object"]
def excsB (mk : List Str) (K : PySem.W.Frag) : Bool := mk.all fun c => excE c K
def isXB (mk tb : List Str) (d : Str) (K : PySem.W.Frag) : Bool := mk.all fun c => decide (PySem.W.kitOne K (.ref (ga K c)) (.ref (ga K d)) = some (tb.contains c))
def isXtB (mk tb : List Str) (t : String) (K : PySem.W.Frag) : Bool := mk.all fun c => decide (PySem.W.kitOne K (.ref (ga K c)) (.type t) = some (tb.contains c))
def fldXB (mk : List Str) (f : Str) (K : PySem.W.Frag) : Bool := mk.all fun c => iniB c f K
def exnB (c : Str) (bmB : List Value) (newId : String) (K : PySem.W.Frag) : Bool := PySem.W.excIn K (ga K c) bmB newId && PySem.W.keepIn K (.ref (ga K c))
abbrev veBx : List Value := [.type "ValueError", .type "Exception", .type "BaseException", .type "object"]
abbrev PGFr : Program := PySem.Challenge.pw_pairsums_k01_limits_and_errors
def top (i : Nat) : Stmt := PGFr.main.body.getD i (.Pass ⟨0, 0, 0, 0⟩)
def clsB : Stmt → List Stmt
  | .ClassDef (body := b) .. => b
  | _ => []
def sub (i j : Nat) : Stmt := (clsB (top i)).getD j (.Pass ⟨0, 0, 0, 0⟩)
def fn : List He5.DefA := [dfA (fun K => ga K "_law_sorts") "_law_sorts" "_law_sorts" (defArgs (top 39)) (defBody (top 39)) (defScope (top 39)), dfA (fun K => ga K "_law_dip") "_law_dip" "_law_dip" (defArgs (top 36)) (defBody (top 36)) (defScope (top 36)), dfA (fun K => ga K "_law_one_of") "_law_one_of" "_law_one_of" (defArgs (top 37)) (defBody (top 37)) (defScope (top 37)), dfA (fun K => ga K "_law_given_errors") "_law_given_errors" "_law_given_errors" (defArgs (top 40)) (defBody (top 40)) (defScope (top 40)), dfA (fun K => ga K "_law_index_errors") "_law_index_errors" "_law_index_errors" (defArgs (top 41)) (defBody (top 41)) (defScope (top 41)), dfA (fun K => ga K "_law_right") "_law_right" "_law_right" (defArgs (top 42)) (defBody (top 42)) (defScope (top 42)), dfA (fun K => ga K "_law_jar") "_law_jar" "_law_jar" (defArgs (top 38)) (defBody (top 38)) (defScope (top 38)), dfA (fun K => ga K "law") "law" "law" (defArgs (top 43)) (defBody (top 43)) (defScope (top 43)), dfA (fun K => ma K (ga K "InvalidText") "__init__") "__init__" "InvalidText.__init__" (defArgs (sub 2 0)) (defBody (sub 2 0)) (defScope (sub 2 0)), dfA (fun K => ma K (ga K "InvalidName") "__init__") "__init__" "InvalidName.__init__" (defArgs (sub 3 0)) (defBody (sub 3 0)) (defScope (sub 3 0)), dfA (fun K => ma K (ga K "InvalidKind") "__init__") "__init__" "InvalidKind.__init__" (defArgs (sub 4 0)) (defBody (sub 4 0)) (defScope (sub 4 0)), dfA (fun K => ma K (ga K "InvalidWish") "__init__") "__init__" "InvalidWish.__init__" (defArgs (sub 5 0)) (defBody (sub 5 0)) (defScope (sub 5 0)), dfA (fun K => ma K (ga K "InvalidIndex") "__init__") "__init__" "InvalidIndex.__init__" (defArgs (sub 6 0)) (defBody (sub 6 0)) (defScope (sub 6 0)), dfA (fun K => ma K (ga K "InvalidNumber") "__init__") "__init__" "InvalidNumber.__init__" (defArgs (sub 7 0)) (defBody (sub 7 0)) (defScope (sub 7 0)), dfA (fun K => ma K (ga K "InvalidLine") "__init__") "__init__" "InvalidLine.__init__" (defArgs (sub 8 0)) (defBody (sub 8 0)) (defScope (sub 8 0)), dfA (fun K => ma K (ga K "NotATable") "__init__") "__init__" "NotATable.__init__" (defArgs (sub 9 0)) (defBody (sub 9 0)) (defScope (sub 9 0)), dfA (fun K => ma K (ga K "InvalidColumns") "__init__") "__init__" "InvalidColumns.__init__" (defArgs (sub 10 0)) (defBody (sub 10 0)) (defScope (sub 10 0)), dfA (fun K => ma K (ga K "InvalidValues") "__init__") "__init__" "InvalidValues.__init__" (defArgs (sub 11 0)) (defBody (sub 11 0)) (defScope (sub 11 0)), dfA (fun K => ma K (ga K "InvalidCells") "__init__") "__init__" "InvalidCells.__init__" (defArgs (sub 12 0)) (defBody (sub 12 0)) (defScope (sub 12 0)), dfA (fun K => ma K (ga K "InvalidLost") "__init__") "__init__" "InvalidLost.__init__" (defArgs (sub 13 0)) (defBody (sub 13 0)) (defScope (sub 13 0)), dfA (fun K => ma K (ga K "InvalidNames") "__init__") "__init__" "InvalidNames.__init__" (defArgs (sub 14 0)) (defBody (sub 14 0)) (defScope (sub 14 0)), dfA (fun K => ma K (ga K "InvalidRounds") "__init__") "__init__" "InvalidRounds.__init__" (defArgs (sub 15 0)) (defBody (sub 15 0)) (defScope (sub 15 0)), dfA (fun K => ma K (ga K "InvalidDeeds") "__init__") "__init__" "InvalidDeeds.__init__" (defArgs (sub 16 0)) (defBody (sub 16 0)) (defScope (sub 16 0)), dfA (fun K => ma K (ga K "UnknownName") "__init__") "__init__" "UnknownName.__init__" (defArgs (sub 18 0)) (defBody (sub 18 0)) (defScope (sub 18 0)), dfA (fun K => ma K (ga K "NotLost") "__init__") "__init__" "NotLost.__init__" (defArgs (sub 19 0)) (defBody (sub 19 0)) (defScope (sub 19 0)), dfA (fun K => ma K (ga K "NotBack") "__init__") "__init__" "NotBack.__init__" (defArgs (sub 22 0)) (defBody (sub 22 0)) (defScope (sub 22 0)), dfA (fun K => ma K (ga K "NotReady") "__init__") "__init__" "NotReady.__init__" (defArgs (sub 23 0)) (defBody (sub 23 0)) (defScope (sub 23 0)), dfA (fun K => ma K (ga K "Broken") "__init__") "__init__" "Broken.__init__" (defArgs (sub 24 0)) (defBody (sub 24 0)) (defScope (sub 24 0)), dfA (fun K => ma K (ga K "InUse") "__init__") "__init__" "InUse.__init__" (defArgs (sub 25 0)) (defBody (sub 25 0)) (defScope (sub 25 0))]
def fa : List (PySem.W.Frag → Bool) := [oexA "InvalidText" "given" veBx "ValueError.__new__", oexA "InvalidName" "given" veBx "ValueError.__new__", oexA "InvalidKind" "given" veBx "ValueError.__new__", oexA "InvalidWish" "given" veBx "ValueError.__new__", oexA "InvalidIndex" "given" veBx "ValueError.__new__", oexA "InvalidNumber" "given" veBx "ValueError.__new__", oexA "InvalidLine" "given" veBx "ValueError.__new__", oexA "NotATable" "given" veBx "ValueError.__new__", oexA "InvalidColumns" "index" veBx "ValueError.__new__", oexA "InvalidValues" "index" veBx "ValueError.__new__", oexA "InvalidCells" "index" veBx "ValueError.__new__", oexA "InvalidLost" "index" veBx "ValueError.__new__", oexA "InvalidNames" "index" veBx "ValueError.__new__", oexA "InvalidRounds" "index" veBx "ValueError.__new__", oexA "InvalidDeeds" "index" veBx "ValueError.__new__", oexA "UnknownName" "given" leB "LookupError.__new__", oexA "NotLost" "given" leB "LookupError.__new__", oexA "NotBack" "given" aeB "ArithmeticError.__new__", oexA "NotReady" "given" aeB "ArithmeticError.__new__", oexA "Broken" "index" aeB "ArithmeticError.__new__", oexA "InUse" "index" aeB "ArithmeticError.__new__", fun K => (Fa.free "isinstance").ok K, fun K => (Fa.glo "InvalidKind").ok K, excsB ["NotRight", "NothingToUndo", "WrongValue", "WrongName", "NoAnswer", "InvalidText", "InvalidName", "InvalidIndex", "InvalidNumber", "InvalidColumns", "InvalidValues", "InvalidCells", "InvalidLost", "InvalidNames", "InvalidRounds", "InvalidKind", "InvalidWish", "InvalidLine", "NotATable", "InvalidDeeds", "UnknownName", "NotLost", "NotBack", "NotReady", "Broken", "InUse"], isXB ["NotRight", "NothingToUndo", "WrongValue", "WrongName", "NoAnswer", "InvalidText", "InvalidName", "InvalidIndex", "InvalidNumber", "InvalidColumns", "InvalidValues", "InvalidCells", "InvalidLost", "InvalidNames", "InvalidRounds", "InvalidKind", "InvalidWish", "InvalidLine", "NotATable", "InvalidDeeds", "UnknownName", "NotLost", "NotBack", "NotReady", "Broken", "InUse"] ["InvalidKind"] "InvalidKind", fun K => (Fa.glo "InvalidName").ok K, isXB ["NotRight", "NothingToUndo", "WrongValue", "WrongName", "NoAnswer", "InvalidText", "InvalidName", "InvalidIndex", "InvalidNumber", "InvalidColumns", "InvalidValues", "InvalidCells", "InvalidLost", "InvalidNames", "InvalidRounds", "InvalidKind", "InvalidWish", "InvalidLine", "NotATable", "InvalidDeeds", "UnknownName", "NotLost", "NotBack", "NotReady", "Broken", "InUse"] ["InvalidName"] "InvalidName", fun K => (Fa.glo "InvalidText").ok K, isXB ["NotRight", "NothingToUndo", "WrongValue", "WrongName", "NoAnswer", "InvalidText", "InvalidName", "InvalidIndex", "InvalidNumber", "InvalidColumns", "InvalidValues", "InvalidCells", "InvalidLost", "InvalidNames", "InvalidRounds", "InvalidKind", "InvalidWish", "InvalidLine", "NotATable", "InvalidDeeds", "UnknownName", "NotLost", "NotBack", "NotReady", "Broken", "InUse"] ["InvalidText"] "InvalidText", fun K => (Fa.glo "InvalidNumber").ok K, isXB ["NotRight", "NothingToUndo", "WrongValue", "WrongName", "NoAnswer", "InvalidText", "InvalidName", "InvalidIndex", "InvalidNumber", "InvalidColumns", "InvalidValues", "InvalidCells", "InvalidLost", "InvalidNames", "InvalidRounds", "InvalidKind", "InvalidWish", "InvalidLine", "NotATable", "InvalidDeeds", "UnknownName", "NotLost", "NotBack", "NotReady", "Broken", "InUse"] ["InvalidNumber"] "InvalidNumber", fun K => (Fa.glo "InvalidIndex").ok K, isXB ["NotRight", "NothingToUndo", "WrongValue", "WrongName", "NoAnswer", "InvalidText", "InvalidName", "InvalidIndex", "InvalidNumber", "InvalidColumns", "InvalidValues", "InvalidCells", "InvalidLost", "InvalidNames", "InvalidRounds", "InvalidKind", "InvalidWish", "InvalidLine", "NotATable", "InvalidDeeds", "UnknownName", "NotLost", "NotBack", "NotReady", "Broken", "InUse"] ["InvalidIndex"] "InvalidIndex", fun K => (Fa.glo "InvalidWish").ok K, isXB ["NotRight", "NothingToUndo", "WrongValue", "WrongName", "NoAnswer", "InvalidText", "InvalidName", "InvalidIndex", "InvalidNumber", "InvalidColumns", "InvalidValues", "InvalidCells", "InvalidLost", "InvalidNames", "InvalidRounds", "InvalidKind", "InvalidWish", "InvalidLine", "NotATable", "InvalidDeeds", "UnknownName", "NotLost", "NotBack", "NotReady", "Broken", "InUse"] ["InvalidWish"] "InvalidWish", fun K => (Fa.glo "InvalidColumns").ok K, isXB ["NotRight", "NothingToUndo", "WrongValue", "WrongName", "NoAnswer", "InvalidText", "InvalidName", "InvalidIndex", "InvalidNumber", "InvalidColumns", "InvalidValues", "InvalidCells", "InvalidLost", "InvalidNames", "InvalidRounds", "InvalidKind", "InvalidWish", "InvalidLine", "NotATable", "InvalidDeeds", "UnknownName", "NotLost", "NotBack", "NotReady", "Broken", "InUse"] ["InvalidColumns"] "InvalidColumns", fun K => (Fa.glo "NotATable").ok K, isXB ["NotRight", "NothingToUndo", "WrongValue", "WrongName", "NoAnswer", "InvalidText", "InvalidName", "InvalidIndex", "InvalidNumber", "InvalidColumns", "InvalidValues", "InvalidCells", "InvalidLost", "InvalidNames", "InvalidRounds", "InvalidKind", "InvalidWish", "InvalidLine", "NotATable", "InvalidDeeds", "UnknownName", "NotLost", "NotBack", "NotReady", "Broken", "InUse"] ["NotATable"] "NotATable", fun K => (Fa.glo "InvalidLine").ok K, isXB ["NotRight", "NothingToUndo", "WrongValue", "WrongName", "NoAnswer", "InvalidText", "InvalidName", "InvalidIndex", "InvalidNumber", "InvalidColumns", "InvalidValues", "InvalidCells", "InvalidLost", "InvalidNames", "InvalidRounds", "InvalidKind", "InvalidWish", "InvalidLine", "NotATable", "InvalidDeeds", "UnknownName", "NotLost", "NotBack", "NotReady", "Broken", "InUse"] ["InvalidLine"] "InvalidLine", fun K => (Fa.glo "InvalidLost").ok K, isXB ["NotRight", "NothingToUndo", "WrongValue", "WrongName", "NoAnswer", "InvalidText", "InvalidName", "InvalidIndex", "InvalidNumber", "InvalidColumns", "InvalidValues", "InvalidCells", "InvalidLost", "InvalidNames", "InvalidRounds", "InvalidKind", "InvalidWish", "InvalidLine", "NotATable", "InvalidDeeds", "UnknownName", "NotLost", "NotBack", "NotReady", "Broken", "InUse"] ["InvalidLost"] "InvalidLost", fun K => (Fa.glo "InvalidCells").ok K, isXB ["NotRight", "NothingToUndo", "WrongValue", "WrongName", "NoAnswer", "InvalidText", "InvalidName", "InvalidIndex", "InvalidNumber", "InvalidColumns", "InvalidValues", "InvalidCells", "InvalidLost", "InvalidNames", "InvalidRounds", "InvalidKind", "InvalidWish", "InvalidLine", "NotATable", "InvalidDeeds", "UnknownName", "NotLost", "NotBack", "NotReady", "Broken", "InUse"] ["InvalidCells"] "InvalidCells", fun K => (Fa.glo "InvalidValues").ok K, isXB ["NotRight", "NothingToUndo", "WrongValue", "WrongName", "NoAnswer", "InvalidText", "InvalidName", "InvalidIndex", "InvalidNumber", "InvalidColumns", "InvalidValues", "InvalidCells", "InvalidLost", "InvalidNames", "InvalidRounds", "InvalidKind", "InvalidWish", "InvalidLine", "NotATable", "InvalidDeeds", "UnknownName", "NotLost", "NotBack", "NotReady", "Broken", "InUse"] ["InvalidValues"] "InvalidValues", fun K => (Fa.glo "InvalidDeeds").ok K, isXB ["NotRight", "NothingToUndo", "WrongValue", "WrongName", "NoAnswer", "InvalidText", "InvalidName", "InvalidIndex", "InvalidNumber", "InvalidColumns", "InvalidValues", "InvalidCells", "InvalidLost", "InvalidNames", "InvalidRounds", "InvalidKind", "InvalidWish", "InvalidLine", "NotATable", "InvalidDeeds", "UnknownName", "NotLost", "NotBack", "NotReady", "Broken", "InUse"] ["InvalidDeeds"] "InvalidDeeds", fun K => (Fa.glo "InvalidRounds").ok K, isXB ["NotRight", "NothingToUndo", "WrongValue", "WrongName", "NoAnswer", "InvalidText", "InvalidName", "InvalidIndex", "InvalidNumber", "InvalidColumns", "InvalidValues", "InvalidCells", "InvalidLost", "InvalidNames", "InvalidRounds", "InvalidKind", "InvalidWish", "InvalidLine", "NotATable", "InvalidDeeds", "UnknownName", "NotLost", "NotBack", "NotReady", "Broken", "InUse"] ["InvalidRounds"] "InvalidRounds", fun K => (Fa.glo "InvalidNames").ok K, isXB ["NotRight", "NothingToUndo", "WrongValue", "WrongName", "NoAnswer", "InvalidText", "InvalidName", "InvalidIndex", "InvalidNumber", "InvalidColumns", "InvalidValues", "InvalidCells", "InvalidLost", "InvalidNames", "InvalidRounds", "InvalidKind", "InvalidWish", "InvalidLine", "NotATable", "InvalidDeeds", "UnknownName", "NotLost", "NotBack", "NotReady", "Broken", "InUse"] ["InvalidNames"] "InvalidNames", fun K => (Fa.glo "NotRight").ok K, isXB ["NotRight", "NothingToUndo", "WrongValue", "WrongName", "NoAnswer", "InvalidText", "InvalidName", "InvalidIndex", "InvalidNumber", "InvalidColumns", "InvalidValues", "InvalidCells", "InvalidLost", "InvalidNames", "InvalidRounds", "InvalidKind", "InvalidWish", "InvalidLine", "NotATable", "InvalidDeeds", "UnknownName", "NotLost", "NotBack", "NotReady", "Broken", "InUse"] ["NotRight"] "NotRight", fun K => (Fa.glo "NotLost").ok K, isXB ["NotRight", "NothingToUndo", "WrongValue", "WrongName", "NoAnswer", "InvalidText", "InvalidName", "InvalidIndex", "InvalidNumber", "InvalidColumns", "InvalidValues", "InvalidCells", "InvalidLost", "InvalidNames", "InvalidRounds", "InvalidKind", "InvalidWish", "InvalidLine", "NotATable", "InvalidDeeds", "UnknownName", "NotLost", "NotBack", "NotReady", "Broken", "InUse"] ["NotLost"] "NotLost", fun K => (Fa.glo "UnknownName").ok K, isXB ["NotRight", "NothingToUndo", "WrongValue", "WrongName", "NoAnswer", "InvalidText", "InvalidName", "InvalidIndex", "InvalidNumber", "InvalidColumns", "InvalidValues", "InvalidCells", "InvalidLost", "InvalidNames", "InvalidRounds", "InvalidKind", "InvalidWish", "InvalidLine", "NotATable", "InvalidDeeds", "UnknownName", "NotLost", "NotBack", "NotReady", "Broken", "InUse"] ["UnknownName"] "UnknownName", fun K => (Fa.glo "InUse").ok K, isXB ["NotRight", "NothingToUndo", "WrongValue", "WrongName", "NoAnswer", "InvalidText", "InvalidName", "InvalidIndex", "InvalidNumber", "InvalidColumns", "InvalidValues", "InvalidCells", "InvalidLost", "InvalidNames", "InvalidRounds", "InvalidKind", "InvalidWish", "InvalidLine", "NotATable", "InvalidDeeds", "UnknownName", "NotLost", "NotBack", "NotReady", "Broken", "InUse"] ["InUse"] "InUse", fun K => (Fa.glo "Broken").ok K, isXB ["NotRight", "NothingToUndo", "WrongValue", "WrongName", "NoAnswer", "InvalidText", "InvalidName", "InvalidIndex", "InvalidNumber", "InvalidColumns", "InvalidValues", "InvalidCells", "InvalidLost", "InvalidNames", "InvalidRounds", "InvalidKind", "InvalidWish", "InvalidLine", "NotATable", "InvalidDeeds", "UnknownName", "NotLost", "NotBack", "NotReady", "Broken", "InUse"] ["Broken"] "Broken", fun K => (Fa.glo "NotReady").ok K, isXB ["NotRight", "NothingToUndo", "WrongValue", "WrongName", "NoAnswer", "InvalidText", "InvalidName", "InvalidIndex", "InvalidNumber", "InvalidColumns", "InvalidValues", "InvalidCells", "InvalidLost", "InvalidNames", "InvalidRounds", "InvalidKind", "InvalidWish", "InvalidLine", "NotATable", "InvalidDeeds", "UnknownName", "NotLost", "NotBack", "NotReady", "Broken", "InUse"] ["NotReady"] "NotReady", fun K => (Fa.glo "NotBack").ok K, isXB ["NotRight", "NothingToUndo", "WrongValue", "WrongName", "NoAnswer", "InvalidText", "InvalidName", "InvalidIndex", "InvalidNumber", "InvalidColumns", "InvalidValues", "InvalidCells", "InvalidLost", "InvalidNames", "InvalidRounds", "InvalidKind", "InvalidWish", "InvalidLine", "NotATable", "InvalidDeeds", "UnknownName", "NotLost", "NotBack", "NotReady", "Broken", "InUse"] ["NotBack"] "NotBack", fun K => (Fa.glo "NothingToUndo").ok K, isXB ["NotRight", "NothingToUndo", "WrongValue", "WrongName", "NoAnswer", "InvalidText", "InvalidName", "InvalidIndex", "InvalidNumber", "InvalidColumns", "InvalidValues", "InvalidCells", "InvalidLost", "InvalidNames", "InvalidRounds", "InvalidKind", "InvalidWish", "InvalidLine", "NotATable", "InvalidDeeds", "UnknownName", "NotLost", "NotBack", "NotReady", "Broken", "InUse"] ["NothingToUndo"] "NothingToUndo", fun K => (Fa.glo "NoAnswer").ok K, isXB ["NotRight", "NothingToUndo", "WrongValue", "WrongName", "NoAnswer", "InvalidText", "InvalidName", "InvalidIndex", "InvalidNumber", "InvalidColumns", "InvalidValues", "InvalidCells", "InvalidLost", "InvalidNames", "InvalidRounds", "InvalidKind", "InvalidWish", "InvalidLine", "NotATable", "InvalidDeeds", "UnknownName", "NotLost", "NotBack", "NotReady", "Broken", "InUse"] ["NotRight", "NothingToUndo", "NoAnswer", "NotBack", "NotReady", "Broken", "InUse"] "NoAnswer", fun K => (Fa.glo "WrongName").ok K, isXB ["NotRight", "NothingToUndo", "WrongValue", "WrongName", "NoAnswer", "InvalidText", "InvalidName", "InvalidIndex", "InvalidNumber", "InvalidColumns", "InvalidValues", "InvalidCells", "InvalidLost", "InvalidNames", "InvalidRounds", "InvalidKind", "InvalidWish", "InvalidLine", "NotATable", "InvalidDeeds", "UnknownName", "NotLost", "NotBack", "NotReady", "Broken", "InUse"] ["WrongName", "UnknownName", "NotLost"] "WrongName", fun K => (Fa.glo "WrongValue").ok K, isXB ["NotRight", "NothingToUndo", "WrongValue", "WrongName", "NoAnswer", "InvalidText", "InvalidName", "InvalidIndex", "InvalidNumber", "InvalidColumns", "InvalidValues", "InvalidCells", "InvalidLost", "InvalidNames", "InvalidRounds", "InvalidKind", "InvalidWish", "InvalidLine", "NotATable", "InvalidDeeds", "UnknownName", "NotLost", "NotBack", "NotReady", "Broken", "InUse"] ["WrongValue", "InvalidText", "InvalidName", "InvalidIndex", "InvalidNumber", "InvalidColumns", "InvalidValues", "InvalidCells", "InvalidLost", "InvalidNames", "InvalidRounds", "InvalidKind", "InvalidWish", "InvalidLine", "NotATable", "InvalidDeeds"] "WrongValue", fun K => (Fa.free "ArithmeticError").ok K, isXtB ["NotRight", "NothingToUndo", "WrongValue", "WrongName", "NoAnswer", "InvalidText", "InvalidName", "InvalidIndex", "InvalidNumber", "InvalidColumns", "InvalidValues", "InvalidCells", "InvalidLost", "InvalidNames", "InvalidRounds", "InvalidKind", "InvalidWish", "InvalidLine", "NotATable", "InvalidDeeds", "UnknownName", "NotLost", "NotBack", "NotReady", "Broken", "InUse"] ["NotRight", "NothingToUndo", "NoAnswer", "NotBack", "NotReady", "Broken", "InUse"] "ArithmeticError", fun K => (Fa.free "LookupError").ok K, isXtB ["NotRight", "NothingToUndo", "WrongValue", "WrongName", "NoAnswer", "InvalidText", "InvalidName", "InvalidIndex", "InvalidNumber", "InvalidColumns", "InvalidValues", "InvalidCells", "InvalidLost", "InvalidNames", "InvalidRounds", "InvalidKind", "InvalidWish", "InvalidLine", "NotATable", "InvalidDeeds", "UnknownName", "NotLost", "NotBack", "NotReady", "Broken", "InUse"] ["WrongName", "UnknownName", "NotLost"] "LookupError", fun K => (Fa.free "ValueError").ok K, isXtB ["NotRight", "NothingToUndo", "WrongValue", "WrongName", "NoAnswer", "InvalidText", "InvalidName", "InvalidIndex", "InvalidNumber", "InvalidColumns", "InvalidValues", "InvalidCells", "InvalidLost", "InvalidNames", "InvalidRounds", "InvalidKind", "InvalidWish", "InvalidLine", "NotATable", "InvalidDeeds", "UnknownName", "NotLost", "NotBack", "NotReady", "Broken", "InUse"] ["WrongValue", "InvalidText", "InvalidName", "InvalidIndex", "InvalidNumber", "InvalidColumns", "InvalidValues", "InvalidCells", "InvalidLost", "InvalidNames", "InvalidRounds", "InvalidKind", "InvalidWish", "InvalidLine", "NotATable", "InvalidDeeds"] "ValueError", fun K => (Fa.free "range").ok K, fun K => (Fa.free "divmod").ok K, fun K => (Fa.free "int").ok K, fun K => (Fa.free "len").ok K, fun K => (Fa.glo "_law_dip").ok K, iniB "InvalidName" "given", iniB "InvalidText" "given", iniB "InvalidWish" "given", iniB "InvalidKind" "given", iniB "InvalidIndex" "given", iniB "InvalidNumber" "given", iniB "NotATable" "given", iniB "InvalidLine" "given", iniB "InvalidColumns" "index", iniB "InvalidValues" "index", iniB "InvalidCells" "index", iniB "InvalidLost" "index", iniB "InvalidNames" "index", iniB "InvalidRounds" "index", iniB "InvalidDeeds" "index", fun K => (Fa.free "enumerate").ok K, fldXB ["InvalidText", "InvalidName", "InvalidIndex", "InvalidNumber", "InvalidKind", "InvalidWish", "InvalidLine", "NotATable", "UnknownName", "NotLost", "NotBack", "NotReady"] "given", fun K => (Fa.free "repr").ok K, fldXB ["InvalidColumns", "InvalidValues", "InvalidCells", "InvalidLost", "InvalidNames", "InvalidRounds", "InvalidDeeds", "Broken", "InUse"] "index", iniB "UnknownName" "given", iniB "NotLost" "given", iniB "NotReady" "given", iniB "NotBack" "given", iniB "InUse" "index", iniB "Broken" "index", fun K => (Fa.glo "_law_one_of").ok K, fun K => (Fa.glo "_law_given_errors").ok K, fun K => (Fa.glo "_law_sorts").ok K, fun K => (Fa.glo "_law_index_errors").ok K, fun K => (Fa.free "abs").ok K, fun K => (Fa.int "MOST_PLACES" 14).ok K, fun K => (Fa.int "MOST_SUM" 100000000000000000000000000000000).ok K, fun K => (Fa.int "MOST_VALUE" 1000000000000000000000000000000).ok K, fun K => (Fa.int "MOST_BITS" 60).ok K, fun K => (Fa.int "MOST_DIAL" 1000000000).ok K, fun K => (Fa.int "MOST_DATA" 24).ok K, fun K => (Fa.int "MOST_SUMS" 10).ok K, fun K => (Fa.int "MOST_COLUMNS" 8).ok K, exnB "NoAnswer" aeB "ArithmeticError.__new__", exnB "WrongName" leB "LookupError.__new__", exnB "WrongValue" veBx "ValueError.__new__", exnB "NothingToUndo" aeB "ArithmeticError.__new__", exnB "NotRight" aeB "ArithmeticError.__new__", fun K => (Fa.free "min").ok K, fun K => (Fa.free "max").ok K, fun K => (Fa.free "all").ok K, fun K => (Fa.glo "_law_right").ok K, fun K => (Fa.glo "_law_jar").ok K, fun K => (Fa.glo "law").ok K]
def nm0 : List PySem.Str := ["__name__", "WrongValue", "InvalidText", "InvalidName", "InvalidKind", "InvalidWish", "InvalidIndex", "InvalidNumber", "InvalidLine", "NotATable", "InvalidColumns", "InvalidValues", "InvalidCells", "InvalidLost", "InvalidNames", "InvalidRounds", "InvalidDeeds", "WrongName", "UnknownName", "NotLost", "NoAnswer", "NotRight", "NotBack", "NotReady", "Broken", "InUse", "NothingToUndo", "MOST_COLUMNS", "MOST_SUMS", "MOST_DATA"]
def nm1 : List PySem.Str := ["MOST_DIAL", "MOST_BITS", "MOST_VALUE", "MOST_SUM", "MOST_PLACES", "_law_dip", "_law_one_of", "_law_jar", "_law_sorts", "_law_given_errors", "_law_index_errors", "_law_right"]
def names : List PySem.Str := nm0 ++ nm1
abbrev R : PySem.W.OpenRow := PySem.W.OpenLaw.row PySem.Challenge.rw_pairsums_k01_limits_and_errors
abbrev hk : PySem.W.Hook := hookM fa fn
abbrev qv : Program := PySem.W.view R.prog [43]
def ob (s : PySem.W.SharedT) : Bool × AlD := lookG fa fn (HandSHeadRun.getT s)
open PySem.W PySem.Calls PyProof.Rows in
theorem run1 (w : World) (os : OsState) : (HandSHeadRun.endF (HandSHeadRun.stepQ (HandSHeadRun.denQ HandSHeadRun.tabQ) R.prog w) 10000 R.prog w os).map (fun x => (HandSHeadRun.looksF R.prog (boot_heap w.params) x.abs, HandSHeadRun.seenQ qv names (importedModules R.prog.main.body) (fun s => PySem.W.xlAt qv [] s && PySem.W.recOk R.toRowW.records s) x.abs)) = some (true, PySem.W.openGood qv names) := by kernel_rfl
open PySem.W PySem.Calls PyProof.Rows in
theorem run2a0 (w : World) (os : OsState) : (HandSHeadRun.endF (HandSHeadRun.stepQ (HandSHeadRun.denQ HandSHeadRun.tabQ) R.prog w) 10000 R.prog w os).map (fun x => ((fa.drop 0).take 15).all (· (partG (HandSHeadRun.getT x)))) = some true := by kernel_rfl
open PySem.W PySem.Calls PyProof.Rows in
theorem run2a1 (w : World) (os : OsState) : (HandSHeadRun.endF (HandSHeadRun.stepQ (HandSHeadRun.denQ HandSHeadRun.tabQ) R.prog w) 10000 R.prog w os).map (fun x => ((fa.drop 15).take 15).all (· (partG (HandSHeadRun.getT x)))) = some true := by kernel_rfl
open PySem.W PySem.Calls PyProof.Rows in
theorem run2a2 (w : World) (os : OsState) : (HandSHeadRun.endF (HandSHeadRun.stepQ (HandSHeadRun.denQ HandSHeadRun.tabQ) R.prog w) 10000 R.prog w os).map (fun x => ((fa.drop 30).take 15).all (· (partG (HandSHeadRun.getT x)))) = some true := by kernel_rfl
open PySem.W PySem.Calls PyProof.Rows in
theorem run2a3 (w : World) (os : OsState) : (HandSHeadRun.endF (HandSHeadRun.stepQ (HandSHeadRun.denQ HandSHeadRun.tabQ) R.prog w) 10000 R.prog w os).map (fun x => ((fa.drop 45).take 15).all (· (partG (HandSHeadRun.getT x)))) = some true := by kernel_rfl
open PySem.W PySem.Calls PyProof.Rows in
theorem run2a4 (w : World) (os : OsState) : (HandSHeadRun.endF (HandSHeadRun.stepQ (HandSHeadRun.denQ HandSHeadRun.tabQ) R.prog w) 10000 R.prog w os).map (fun x => ((fa.drop 60).take 15).all (· (partG (HandSHeadRun.getT x)))) = some true := by kernel_rfl
open PySem.W PySem.Calls PyProof.Rows in
theorem run2a5 (w : World) (os : OsState) : (HandSHeadRun.endF (HandSHeadRun.stepQ (HandSHeadRun.denQ HandSHeadRun.tabQ) R.prog w) 10000 R.prog w os).map (fun x => ((fa.drop 75).take 15).all (· (partG (HandSHeadRun.getT x)))) = some true := by kernel_rfl
open PySem.W PySem.Calls PyProof.Rows in
theorem run2a6 (w : World) (os : OsState) : (HandSHeadRun.endF (HandSHeadRun.stepQ (HandSHeadRun.denQ HandSHeadRun.tabQ) R.prog w) 10000 R.prog w os).map (fun x => ((fa.drop 90).take 15).all (· (partG (HandSHeadRun.getT x)))) = some true := by kernel_rfl
open PySem.W PySem.Calls PyProof.Rows in
theorem run2a7 (w : World) (os : OsState) : (HandSHeadRun.endF (HandSHeadRun.stepQ (HandSHeadRun.denQ HandSHeadRun.tabQ) R.prog w) 10000 R.prog w os).map (fun x => ((fa.drop 105).take 15).all (· (partG (HandSHeadRun.getT x)))) = some true := by kernel_rfl
open PySem.W PySem.Calls PyProof.Rows in
theorem run2a8 (w : World) (os : OsState) : (HandSHeadRun.endF (HandSHeadRun.stepQ (HandSHeadRun.denQ HandSHeadRun.tabQ) R.prog w) 10000 R.prog w os).map (fun x => ((fa.drop 120).take 15).all (· (partG (HandSHeadRun.getT x)))) = some true := by kernel_rfl
open PySem.W PySem.Calls PyProof.Rows in
theorem run2b (w : World) (os : OsState) : (HandSHeadRun.endF (HandSHeadRun.stepQ (HandSHeadRun.denQ HandSHeadRun.tabQ) R.prog w) 10000 R.prog w os).map (fun x => He5.obsA [] (fn.take 4) (partG (HandSHeadRun.getT x))) = some (He5.valA (fn.take 4)) := by kernel_rfl
open PySem.W PySem.Calls PyProof.Rows in
theorem run2c (w : World) (os : OsState) : (HandSHeadRun.endF (HandSHeadRun.stepQ (HandSHeadRun.denQ HandSHeadRun.tabQ) R.prog w) 10000 R.prog w os).map (fun x => He5.obsA [] (fn.drop 4) (partG (HandSHeadRun.getT x))) = some (He5.valA (fn.drop 4)) := by kernel_rfl
end MI
namespace MI
open PySem PySem.Spec PySem.HandSPX PyProof.Rows L2
section
variable {prog : Program} {w : World} {A : Around} {E : Value → Shared → Prop} {R : Result → Shared → Prop} {hp : Heap} {g : Array GenState} {d : Drawn} {t : Nat} {os : OsState}
variable {nm q : Str} {C N fI : Addr} {bs bm bmB : List Value} {hdct : Bool} {sn : List Str} {sub : List Value} {ab : Bool} {col : Option Bool} {dd : Option Addr} {k0 k1 k2 k3 k5 : Option Value} {B newId initId : String} {kw : List (Str × Value)}
abbrev kxH (hp : Heap) (C : Addr) : Heap := (hp.push (W.kdv_tup [])).push (excO C hp.objs.size)
theorem kx_new (F : ExcBaseFacts B newId initId bmB) (same : ∀ X : String, bm.contains (.type X) = bmB.contains (.type X)) (hC : hp.get? C = some (excClassObj nm q C N bs bm hdct sn sub ab col dd k0 k1 k2 k3 k5 newId))
    (hq : R (.ok (.ret (.ref (hp.objs.size + 1)))) ⟨kxH hp C, g, d, t, os⟩) : codeAny (model prog w) A (.call (.builtin newId) ⟨[.ref C], kw⟩) R ⟨hp, g, d, t, os⟩ := by
  have has : ∀ X, (Value.ref C :: bm).contains (.type X) = bmB.contains (.type X) := fun X => by
    rw [List.contains_cons, same]
    rfl
  have a1 := (has B).trans F.hasB
  have a2 := (has "AttributeError").trans F.noAttr
  have a3 := (has "NameError").trans F.noName
  have z1 := F.noStar
  have z2 := F.ends
  refine codeAny_call_builtin_code (Code.quiet_builtin _ F.quiet) ?_
  have asked : ∀ {A' : Around} {Q : Unit → Shared → Prop} {E' : Value → Shared → Prop}, Q () ⟨hp, g, d, t, os⟩ → wpAny (model prog w) A' (checkBuiltinCall newId ⟨[.ref C], kw⟩) Q E' ⟨hp, g, d, t, os⟩ := fun hq => by
    simp only [checkBuiltinCall, F.newKind, F.newSplit, F.newRow]
    repeat (first | (with_reducible refine wpAny_isSubtype_exc hC ?_; rw [a1]) | (first | with_reducible refine wpAny_loadPart_at hC ?_ | with_reducible refine wpAny_staticBase_exc hC ?_ | with_reducible refine wpAny_madeBy_exc hC ?_ | simp only [bne_self_eq_false, Bool.false_eq_true, if_false] | wp_step))
    exact hq
  refine asked (codeAny_builtinAt F.entry ?_)
  unfold Builtin.«BaseException.__new__»
  refine PyProof.Rows.wpAt_bind ?_
  show PyProof.Rows.wpAt _ _ _ (stack >>= _) _ _ _
  refine PyProof.Rows.wpAt_bind (PyProof.Rows.wpAt_stack fun p below => wpAt_of_wpAny ?_)
  wp_walk
  refine wpAt_of_wpAny ?_
  rw [F.owner]
  repeat (first | with_reducible refine wpAny_madeHere_exc F.canon hC ?_ | (with_reducible refine wpAny_isSubtype_exc hC ?_; first | rw [a1] | rw [a2] | rw [a3]) | (first | with_reducible refine wpAny_loadPart_at hC ?_ | with_reducible refine wpAny_staticBase_exc hC ?_ | with_reducible refine wpAny_madeBy_exc hC ?_ | simp only [bne_self_eq_false, Bool.false_eq_true, if_false] | wp_step))
  show R _ _
  rw [Heap.size_push]
  exact hq
theorem kx_make (F : ExcBaseFacts B newId initId bmB) (same : ∀ X : String, bm.contains (.type X) = bmB.contains (.type X)) (hC : hp.get? C = some (excClassObj nm q C N bs bm hdct sn sub ab col dd k0 k1 k2 k3 k5 newId))
    (hi : W.Looks (model prog w) hp (typeLookup (.ref C) "__init__") (some (.ref fI))) (hb : ∀ self, W.Looks (model prog w) hp (bindSpecial (.ref fI) self) (.ref fI, [self]))
    (run : codeAny (model prog w) (A.under (.builtin "type.__call__" ⟨[.ref C], kw⟩)) (.call (.ref fI) ⟨[.ref (hp.objs.size + 1)], kw⟩) (W.InitBack (hp.objs.size + 1) R) ⟨kxH hp C, g, d, t, os⟩) :
    codeAny (model prog w) A (.call (.ref C) ⟨[], kw⟩) R ⟨hp, g, d, t, os⟩ := by
  have z1 := tc_lookup
  have z2 := tc_bind (.ref C)
  have z3 := tc_sub
  have ty : (⟨hp, g, d, t, os⟩ : Shared).TypeIs (.ref C) "type" := ⟨_, hC, rfl⟩
  refine codeAny_of_tree ?_
  show wpAny _ _ (callAny (.ref C) _) _ _ _
  repeat (any_goals (first | assumption | (first | with_reducible refine wpAny_loadPart_at hC ?_ | with_reducible refine wpAny_staticBase_exc hC ?_ | with_reducible refine wpAny_madeBy_exc hC ?_ | simp only [bne_self_eq_false, Bool.false_eq_true, if_false] | wp_step)))
  refine ⟨rfl, ?_⟩
  have asked : ∀ {A' : Around} {Q : Unit → Shared → Prop} {E' : Value → Shared → Prop}, Q () ⟨hp, g, d, t, os⟩ → wpAny (model prog w) A' (checkBuiltinCall "type.__call__" ⟨[.ref C], kw⟩) Q E' ⟨hp, g, d, t, os⟩ := fun hq => by
    simp only [checkBuiltinCall, tc_kind, tc_split]
    repeat (any_goals (first | assumption | with_reducible refine wpAny_onRaise ?_ | with_reducible refine wpAny_map ?_ | (first | with_reducible refine wpAny_loadPart_at hC ?_ | with_reducible refine wpAny_staticBase_exc hC ?_ | with_reducible refine wpAny_madeBy_exc hC ?_ | simp only [bne_self_eq_false, Bool.false_eq_true, if_false] | wp_step)))
  refine codeAny_call_builtin_at (Code.quiet_builtin _ (by decide +kernel)) entry_typeCall (asked ?_)
  unfold Builtin.«type.__call__»
  repeat (first | (first | with_reducible refine wpAny_loadPart_at hC ?_ | with_reducible refine wpAny_staticBase_exc hC ?_ | with_reducible refine wpAny_madeBy_exc hC ?_ | simp only [bne_self_eq_false, Bool.false_eq_true, if_false] | wp_step))
  refine kx_new F same hC ?_
  show wpAny _ _ _ _ _ _
  have k : ∀ b o, hp.get? b = some o → (kxH hp C).get? b = some o := fun b o e => Heap.get?_push_of_some _ (Heap.get?_push_of_some _ e)
  have here : (kxH hp C).get? (hp.objs.size + 1) = some (excO C hp.objs.size) := by heap_get
  have own : (Value.ref C :: bm).contains (.ref C) = true := by simp
  have hC2 := k _ _ hC
  unfold isInstance
  repeat (first | with_reducible refine wpAny_loadPart_at here ?_ | (with_reducible refine wpAny_isSubtype_exc hC2 ?_; rw [own]) | wp_step)
  show wpAny _ _ (typeLookup (.ref C) _) _ _ _
  refine (hi.keeps k).at (wpAny_holding (wpAny_bind (((hb _).keeps k).at (wpAny_bind (wpAny_call (codeAny_mono run fun r s' z => ?_))))))
  match r, z with
  | .error _, z => exact z
  | .ok (.ret v), z =>
    obtain ⟨rfl, z⟩ := z
    first | exact wpAny_pure (wpAny_pure z) | (wp_walk; done) | (wp_walk; exact z)
  | .ok .next, z => exact z.elim
  | .ok .brk, z => exact z.elim
  | .ok .cont, z => exact z.elim
end
end MI
namespace MI
open PySem L2
def noT : Option HO → Option HO
  | some (.tbl _) => none
  | o => o
theorem noT_none {x : Option HO} (h : x = none) : noT x = none := by rw [h]; rfl
instance {x : Option HO} : Coe (x = none) (noT x = none) := ⟨noT_none⟩
theorem noT_at {x : Option HO} {o : HO} (h : noT x = none) (e : x = some o) : ∃ ps, o = .tbl ps := by
  rw [e] at h
  cases o <;> first | exact ⟨_, rfl⟩ | cases h
theorem noT_cases {x : Option HO} (h : noT x = none) : x = none ∨ ∃ ps, x = some (.tbl ps) := by
  cases x with
  | none => exact .inl rfl
  | some o =>
    obtain ⟨ps, e⟩ := noT_at h rfl
    exact .inr ⟨ps, by rw [e]⟩
theorem noT_tbl {x : Option HO} {ps : Array Value} (h : x = some (.tbl ps)) : noT x = none := by rw [h]; rfl
def fixO (H' : Hp) (a : Addr) : HO → Prop
  | .tbl _ => True
  | .lst xs => H' a = some (.lst xs)
  | .tup xs => H' a = some (.tup xs)
  | .dK kvs => H' a = some (.dK kvs)
  | .dT kvs => H' a = some (.dT kvs)
  | .set S n => H' a = some (.set S n)
  | .ins C dx fs => H' a = some (.ins C dx fs)
  | .own x => H' a = some (.own x)
  | .xd fs => H' a = some (.xd fs)
  | .met f x => H' a = some (.met f x)
  | .rng lo hi => H' a = some (.rng lo hi)
  | .frz o u => H' a = some (.frz o u)
  | .ext P => H' a = some (.ext P)
theorem fix_of {H' : Hp} {a : Addr} {o : HO} (h : H' a = some o) : fixO H' a o := by
  cases o <;> first | exact h | trivial
theorem fix_tbl {H' : Hp} {a : Addr} {o : HO} (h : ∃ ps, o = .tbl ps) : fixO H' a o := by
  obtain ⟨ps, rfl⟩ := h
  trivial
theorem fix_at {H' : Hp} {a : Addr} {o : HO} (h : fixO H' a o) (n : ∀ ps, o ≠ .tbl ps) : H' a = some o := by
  cases o <;> first | exact h | exact absurd rfl (n _)
theorem fix_by {H' : Hp} {a : Addr} {o : HO} (h : (∀ ps, o ≠ .tbl ps) → fixO H' a o) : fixO H' a o := by
  by_cases t : ∃ ps, o = .tbl ps
  · exact fix_tbl t
  · exact h fun ps e => t ⟨ps, e⟩
theorem fix_back {H H' : Hp} {a : Addr} (hn : noT (H' a) = none) {o : HO} (e : H a = some o) (h : fixO H' a o) : noT (H a) = none := by
  by_cases t : ∃ ps, o = .tbl ps
  · obtain ⟨ps, rfl⟩ := t
    exact noT_tbl e
  · obtain ⟨ps, z⟩ := noT_at hn (fix_at h fun ps e => t ⟨ps, e⟩)
    exact absurd ⟨ps, z⟩ t
theorem fix_congr {H1 H2 : Hp} {a : Addr} {o : HO} (e : H2 a = H1 a) (h : fixO H1 a o) : fixO H2 a o := by
  cases o <;> first | exact e.trans h | trivial
theorem fix_upd {H1 : Hp} {a b : Addr} {o u : HO} (ne : a ≠ b) (h : fixO H1 a o) : fixO (upd H1 b u) a o := fix_congr (upd_ne ne) h
theorem fix_trans {H1 H2 : Hp} {a : Addr} {o : HO} (h : fixO H1 a o) (k : H1 a = some o → (∀ ps, o ≠ .tbl ps) → fixO H2 a o) : fixO H2 a o := fix_by fun n => k (fix_at h n) n
structure Ext (H H' : Hp) : Prop where
  keep : ∀ a o, H a = some o → H' a = some o
  tbl : ∀ a ps, H' a = some (.tbl ps) → H a = some (.tbl ps)
instance {H H' : Hp} : CoeFun (Ext H H') (fun _ => ∀ a o, H a = some o → H' a = some o) := ⟨Ext.keep⟩
theorem Ext.refl {H : Hp} : Ext H H := ⟨fun _ _ e => e, fun _ _ e => e⟩
theorem Ext.trans {H H1 H2 : Hp} (e : Ext H H1) (f : Ext H1 H2) : Ext H H2 := ⟨fun a o h => f a o (e a o h), fun a ps h => e.tbl a ps (f.tbl a ps h)⟩
theorem Ext.upd {H : Hp} {p : Addr} {o : HO} (hp : H p = none) (no : ∀ ps, o ≠ .tbl ps) : Ext H (L2.upd H p o) :=
  ⟨fun a u e => by rw [upd_ne (ne_of_none e hp)]; exact e, fun a ps e => by
    by_cases ea : a = p
    · rw [ea, upd_same] at e
      exact absurd (Option.some.inj e) (no ps)
    · rw [upd_ne ea] at e
      exact e⟩
inductive Kd where
  | tup | scr | lst (o : Bool) | dK (o : Bool) (ks : List Key) | dT (o : Bool) (ks : List (List Key)) | ins (o : Bool) (c : Str) (fs : List Str) | exc (c : Str) (fs : List Str)
inductive T where
  | dead | non | bl (b : Bool) | int (i : Int) | str (s : Str) | nd (k : Kd) (ts : List T)
def Kd.own : Kd → Bool
  | .tup => false
  | .scr => false
  | .lst o => o
  | .dK o _ => o
  | .dT o _ => o
  | .ins o _ _ => o
  | .exc _ _ => false
def Kd.fz : Kd → Kd
  | .tup => .tup
  | .scr => .scr
  | .lst _ => .lst false
  | .dK _ ks => .dK false ks
  | .dT _ ks => .dT false ks
  | .ins _ c fs => .ins false c fs
  | .exc c fs => .exc c fs
def Kd.isTup : Kd → Bool
  | .tup => true
  | _ => false
mutual
def T.imm : T → Bool
  | .dead => false
  | .non => true
  | .bl _ => true
  | .int _ => true
  | .str _ => true
  | .nd k ts => !k.own && immL ts
def immL : List T → Bool
  | [] => true
  | t :: ts => t.imm && immL ts
end
mutual
def T.fz : T → T
  | .dead => .dead
  | .non => .non
  | .bl b => .bl b
  | .int i => .int i
  | .str s => .str s
  | .nd k ts => .nd k.fz (fzL ts)
def fzL : List T → List T
  | [] => []
  | t :: ts => t.fz :: fzL ts
end
theorem fzL_eq : ∀ ts : List T, fzL ts = ts.map T.fz
  | [] => rfl
  | t :: ts => by rw [fzL, fzL_eq ts]; rfl
theorem immL_eq : ∀ ts : List T, immL ts = ts.all T.imm
  | [] => rfl
  | t :: ts => by rw [immL, immL_eq ts]; rfl
structure Gc where
  K : PySem.W.Frag
  cl : Str → Addr
  /-- the code objects' tables, and the names of what is made by them -/
  tab : List (Addr × Str)
def LW (K : PySem.W.Frag) (a : Addr) (xs : List V) : Prop := ∃ (o : Obj) (its : Array Value) (n : Nat), K.lookup a = some o ∧ o.cls = .type "list" ∧ o.dict = none ∧ o.data = .seq its n ∧ its.size ≤ sizeLine ∧ Vals xs its.toList
def KTup (K : PySem.W.Frag) (a : Addr) (xs : List V) : Prop := (∃ i r, xs = V.int i :: r) ∧ ∃ (o : Obj) (its : Array Value) (n : Nat), K.lookup a = some o ∧ o.cls = .type "tuple" ∧ o.data = .seq its n ∧ its.size ≤ sizeLine ∧ Vals xs its.toList
def ExA (g : Gc) (S : Addr → Prop) (H : Hp) (c : Str) (kvs : List (Str × V)) (a : Addr) : Prop := ∃ d, H a = some (exo a (g.cl c) d) ∧ ((kvs = [] ∧ d = none) ∨ ∃ dx, d = some dx ∧ H dx = some (exd dx kvs) ∧ S dx)
theorem ExA.keep {g : Gc} {S S' : Addr → Prop} {H H' : Hp} {c : Str} {kvs : List (Str × V)} {a : Addr} (h : ExA g S H c kvs a) (sa : S a) (k : ∀ b o, S b → H b = some o → fixO H' b o) (hs : ∀ b, S b → S' b) : ExA g S' H' c kvs a := by
  obtain ⟨d, e, r⟩ := h
  refine ⟨d, fix_at (k a _ sa e) (fun _ z => nomatch z), r.imp (fun z => z) fun ⟨dx, ed, x, sx⟩ => ⟨dx, ed, fix_at (k dx _ sx x) (fun _ z => nomatch z), hs _ sx⟩⟩
def At (g : Gc) (S : Addr → Prop) (H : Hp) (k : Kd) (a : Addr) (xs : List V) : Prop :=
  match k with
  | .tup => H a = some (.tup xs) ∨ KTup g.K a xs
  | .lst true => H a = some (.lst xs)
  | .lst false => H a = some (.lst xs) ∧ S a
  | .scr => (Rd H a (.lst xs) ∧ S a) ∨ LW g.K a xs
  | .dK o ks => (Rd H a (.dK (ks.zip xs)) ∧ (o = true → H a = some (.dK (ks.zip xs)))) ∧ ks.length = xs.length ∧ (o = false → S a)
  | .dT o ks => (Rd H a (.dT (ks.zip xs)) ∧ (o = true → H a = some (.dT (ks.zip xs)))) ∧ ks.length = xs.length ∧ (o = false → S a)
  | .ins o c fs => (∃ dx, H a = some (.ins (g.cl c) dx (fs.zip xs))) ∧ fs.length = xs.length ∧ (o = false → S a)
  | .exc c fs => ExA g S H c (fs.zip xs) a ∧ fs.length = xs.length ∧ S a
mutual
def Rp (g : Gc) (S : Addr → Prop) (H : Hp) : T → V → List Addr → Prop
  | .dead, _, A => A = []
  | .non, x, A => x = .non ∧ A = []
  | .bl b, x, A => x = .bl b ∧ A = []
  | .int i, x, A => x = .int i ∧ A = []
  | .str s, x, A => x = .str s ∧ A = []
  | .nd k ts, x, A => ∃ a xs B, x = .ref a ∧ At g S H k a xs ∧ A = (if k.own then a :: B else B) ∧ (k.own = true ∨ k.isTup = true ∨ B = []) ∧ RpL g S H ts xs B
def RpL (g : Gc) (S : Addr → Prop) (H : Hp) : List T → List V → List Addr → Prop
  | [], xs, A => xs = [] ∧ A = []
  | t :: ts, xs, A => ∃ y ys A1 A2, xs = y :: ys ∧ A = A1 ++ A2 ∧ Rp g S H t y A1 ∧ RpL g S H ts ys A2
end
section
variable {g : Gc} {S S' : Addr → Prop} {H H' : Hp} {M : Addr → Prop}
theorem At.own_mut {k : Kd} {a : Addr} {xs : List V} (h : At g S H k a xs) (ho : k.own = true) : Mut (H a) := by
  cases k with
  | tup => cases ho
  | scr => cases ho
  | lst o =>
    have e : o = true := ho
    subst e
    have h : H a = some (.lst xs) := h
    rw [h]; trivial
  | dK o ks =>
    obtain ⟨h, _⟩ := h
    rw [h.2 ho]; trivial
  | dT o ks =>
    obtain ⟨h, _⟩ := h
    rw [h.2 ho]; trivial
  | ins o c fs =>
    obtain ⟨⟨dx, h⟩, _⟩ := h
    rw [h]; trivial
  | exc c fs => cases ho
theorem At.own_ob {k : Kd} {a : Addr} {xs : List V} (h : At g S H k a xs) (ho : k.own = true) : ∃ o, H a = some o ∧ (∀ ps, o ≠ .tbl ps) ∧ ∀ P, o ≠ .ext P := by
  cases k with
  | tup => cases ho
  | scr => cases ho
  | lst o =>
    have e : o = true := ho
    subst e
    have h : H a = some (.lst xs) := h
    exact ⟨_, h, (fun _ z => nomatch z), fun _ z => by cases z⟩
  | dK o ks => exact ⟨_, h.1.2 ho, (fun _ z => nomatch z), fun _ z => by cases z⟩
  | dT o ks => exact ⟨_, h.1.2 ho, (fun _ z => nomatch z), fun _ z => by cases z⟩
  | ins o c fs =>
    obtain ⟨⟨dx, h⟩, _⟩ := h
    exact ⟨_, h, (fun _ z => nomatch z), fun _ z => by cases z⟩
  | exc c fs => cases ho
theorem rd_keepF {a : Addr} {u : HO} (n : ∀ ps, u ≠ .tbl ps) (h : Rd H a u) (k : ∀ o, H a = some o → fixO H' a o) : Rd H' a u := by
  rcases h with h | ⟨o, h⟩
  · exact .inl (fix_at (k _ h) n)
  · exact .inr ⟨o, k _ h⟩
theorem At.keepF {k : Kd} {a : Addr} {xs : List V} (h : At g S H k a xs) (kp : ∀ a o, H a = some o → ¬ M a → fixO H' a o) (hm : ∀ a, M a → Mut (H a)) (hS : ∀ a, S a → ¬ M a) (hs : ∀ a, S a → S' a) (ho : k.own = true → ¬ M a) : At g S' H' k a xs := by
  cases k with
  | tup =>
    rcases (show H a = some (.tup xs) ∨ KTup g.K a xs from h) with h | h
    · refine Or.inl (kp a _ h fun m => ?_)
      have mu := hm a m
      rw [h] at mu; exact mu
    · exact Or.inr h
  | lst o =>
    cases o with
    | true => exact kp _ _ h (ho rfl)
    | false => exact ⟨kp _ _ h.1 (hS a h.2), hs _ h.2⟩
  | scr =>
    rcases (show (Rd H a (.lst xs) ∧ S a) ∨ LW g.K a xs from h) with h | h
    · exact Or.inl ⟨rd_keepF (fun _ z => nomatch z) h.1 fun o e => kp a o e (hS a h.2), hs _ h.2⟩
    · exact Or.inr h
  | dK o ks =>
    have nm : ¬ M a := by
      cases o with
      | true => exact ho rfl
      | false => exact hS a (h.2.2 rfl)
    exact ⟨⟨rd_keepF (fun _ z => nomatch z) h.1.1 fun o e => kp a o e nm, fun e => kp _ _ (h.1.2 e) nm⟩, h.2.1, fun e => hs _ (h.2.2 e)⟩
  | dT o ks =>
    have nm : ¬ M a := by
      cases o with
      | true => exact ho rfl
      | false => exact hS a (h.2.2 rfl)
    exact ⟨⟨rd_keepF (fun _ z => nomatch z) h.1.1 fun o e => kp a o e nm, fun e => kp _ _ (h.1.2 e) nm⟩, h.2.1, fun e => hs _ (h.2.2 e)⟩
  | ins o c fs =>
    obtain ⟨⟨dx, e⟩, h2⟩ := h
    refine ⟨⟨dx, kp _ _ e ?_⟩, h2.1, fun e => hs _ (h2.2 e)⟩
    cases o with
    | true => exact ho rfl
    | false => exact hS a (h2.2 rfl)
  | exc c fs => exact ⟨h.1.keep h.2.2 (fun b o sb e => kp b o e (hS b sb)) hs, h.2.1, hs _ h.2.2⟩
theorem At.keep {k : Kd} {a : Addr} {xs : List V} (h : At g S H k a xs) (kp : ∀ a o, H a = some o → ¬ M a → H' a = some o) (hm : ∀ a, M a → Mut (H a)) (hS : ∀ a, S a → ¬ M a) (hs : ∀ a, S a → S' a) (ho : k.own = true → ¬ M a) : At g S' H' k a xs := h.keepF (fun a o e n => fix_of (kp a o e n)) hm hS hs ho
theorem At.fz {k : Kd} {a : Addr} {xs : List V} (h : At g S H k a xs) (hs : ∀ a, S a → S' a) (ho : k.own = true → S' a) : At g S' H k.fz a xs := by
  cases k with
  | tup => exact h
  | lst o =>
    cases o with
    | true => exact ⟨h, ho rfl⟩
    | false => exact ⟨h.1, hs _ h.2⟩
  | scr =>
    rcases (show (Rd H a (.lst xs) ∧ S a) ∨ LW g.K a xs from h) with h | h
    · exact Or.inl ⟨h.1, hs _ h.2⟩
    · exact Or.inr h
  | dK o ks =>
    refine ⟨⟨h.1.1, fun z => nomatch z⟩, h.2.1, fun _ => ?_⟩
    cases o with
    | true => exact ho rfl
    | false => exact hs _ (h.2.2 rfl)
  | dT o ks =>
    refine ⟨⟨h.1.1, fun z => nomatch z⟩, h.2.1, fun _ => ?_⟩
    cases o with
    | true => exact ho rfl
    | false => exact hs _ (h.2.2 rfl)
  | ins o c fs =>
    refine ⟨h.1, h.2.1, fun _ => ?_⟩
    cases o with
    | true => exact ho rfl
    | false => exact hs _ (h.2.2 rfl)
  | exc c fs => exact ⟨h.1.keep h.2.2 (fun b o _ e => fix_of e) hs, h.2.1, hs _ h.2.2⟩
theorem At.sqT {a : Addr} {xs : List V} (h : At g S H .tup a xs) : SqT g.K H a xs := by
  rcases (show H a = some (.tup xs) ∨ KTup g.K a xs from h) with h | h
  · exact .inl (.inl h)
  · exact .inr h.2
theorem At.sqL {o : Bool} {a : Addr} {xs : List V} (h : At g S H (.lst o) a xs) : SqL g.K H a xs := by
  cases o with
  | true => exact SqL.of h
  | false => exact SqL.of h.1
theorem At.lst {o : Bool} {a : Addr} {xs : List V} (h : At g S H (.lst o) a xs) : H a = some (.lst xs) := by
  cases o with
  | true => exact h
  | false => exact h.1
theorem At.sqS {a : Addr} {xs : List V} (h : At g S H .scr a xs) : SqL g.K H a xs := by
  rcases (show (Rd H a (.lst xs) ∧ S a) ∨ LW g.K a xs from h) with h | h
  · exact Or.inl h.1
  · exact Or.inr h
theorem At.rd {o : Bool} {a : Addr} {xs : List V} (h : At g S H (.lst o) a xs) : Rd H a (.lst xs) := by
  cases o with
  | true => exact .inl h
  | false => exact .inl h.1
theorem Kd.fz_own (k : Kd) : k.fz.own = false := by cases k <;> rfl
mutual
theorem Rp.keepF (kp : ∀ a o, H a = some o → ¬ M a → fixO H' a o) (hm : ∀ a, M a → Mut (H a)) (hS : ∀ a, S a → ¬ M a) (hs : ∀ a, S a → S' a) :
    ∀ (t : T) (x : V) (A : List Addr), Rp g S H t x A → (∀ a ∈ A, ¬ M a) → Rp g S' H' t x A
  | .dead, _, _, h, _ => h
  | .non, _, _, h, _ => h
  | .bl _, _, _, h, _ => h
  | .int _, _, _, h, _ => h
  | .str _, _, _, h, _ => h
  | .nd k ts, x, A, h, hA => by
    obtain ⟨a, xs, B, e, at_, eA, c, r⟩ := h
    refine ⟨a, xs, B, e, at_.keepF kp hm hS hs fun ho => hA a ?_, eA, c, RpL.keepF kp hm hS hs ts xs B r fun b hb => hA b ?_⟩
    · rw [eA, if_pos ho]; exact List.mem_cons_self
    · rw [eA]
      split
      · exact List.mem_cons_of_mem _ hb
      · exact hb
theorem RpL.keepF (kp : ∀ a o, H a = some o → ¬ M a → fixO H' a o) (hm : ∀ a, M a → Mut (H a)) (hS : ∀ a, S a → ¬ M a) (hs : ∀ a, S a → S' a) :
    ∀ (ts : List T) (xs : List V) (A : List Addr), RpL g S H ts xs A → (∀ a ∈ A, ¬ M a) → RpL g S' H' ts xs A
  | [], _, _, h, _ => h
  | t :: ts, xs, A, h, hA => by
    obtain ⟨y, ys, A1, A2, e1, e2, r1, r2⟩ := h
    subst e2
    exact ⟨y, ys, A1, A2, e1, rfl, Rp.keepF kp hm hS hs t y A1 r1 fun a ha => hA a (List.mem_append_left _ ha), RpL.keepF kp hm hS hs ts ys A2 r2 fun a ha => hA a (List.mem_append_right _ ha)⟩
end
theorem Rp.keep (kp : ∀ a o, H a = some o → ¬ M a → H' a = some o) (hm : ∀ a, M a → Mut (H a)) (hS : ∀ a, S a → ¬ M a) (hs : ∀ a, S a → S' a) (t : T) (x : V) (A : List Addr) (r : Rp g S H t x A) (hA : ∀ a ∈ A, ¬ M a) : Rp g S' H' t x A := Rp.keepF (fun a o e n => fix_of (kp a o e n)) hm hS hs t x A r hA
theorem RpL.keep (kp : ∀ a o, H a = some o → ¬ M a → H' a = some o) (hm : ∀ a, M a → Mut (H a)) (hS : ∀ a, S a → ¬ M a) (hs : ∀ a, S a → S' a) (ts : List T) (xs : List V) (A : List Addr) (r : RpL g S H ts xs A) (hA : ∀ a ∈ A, ¬ M a) : RpL g S' H' ts xs A := RpL.keepF (fun a o e n => fix_of (kp a o e n)) hm hS hs ts xs A r hA
mutual
theorem Rp.fz (hs : ∀ a, S a → S' a) : ∀ (t : T) (x : V) (A : List Addr), Rp g S H t x A → (∀ a ∈ A, S' a) → Rp g S' H t.fz x []
  | .dead, _, _, h, _ => rfl
  | .non, _, _, h, _ => ⟨h.1, rfl⟩
  | .bl _, _, _, h, _ => ⟨h.1, rfl⟩
  | .int _, _, _, h, _ => ⟨h.1, rfl⟩
  | .str _, _, _, h, _ => ⟨h.1, rfl⟩
  | .nd k ts, x, A, h, hA => by
    obtain ⟨a, xs, B, e, at_, eA, c, r⟩ := h
    refine ⟨a, xs, [], e, at_.fz hs fun ho => hA a ?_, ?_, .inr (.inr rfl), RpL.fz hs ts xs B r fun b hb => hA b ?_⟩
    · rw [eA, if_pos ho]; exact List.mem_cons_self
    · rw [Kd.fz_own]; rfl
    · rw [eA]
      split
      · exact List.mem_cons_of_mem _ hb
      · exact hb
theorem RpL.fz (hs : ∀ a, S a → S' a) : ∀ (ts : List T) (xs : List V) (A : List Addr), RpL g S H ts xs A → (∀ a ∈ A, S' a) → RpL g S' H (fzL ts) xs []
  | [], _, _, h, _ => ⟨h.1, rfl⟩
  | t :: ts, xs, A, h, hA => by
    obtain ⟨y, ys, A1, A2, e1, e2, r1, r2⟩ := h
    subst e2
    exact ⟨y, ys, [], [], e1, rfl, Rp.fz hs t y A1 r1 fun a ha => hA a (List.mem_append_left _ ha), RpL.fz hs ts ys A2 r2 fun a ha => hA a (List.mem_append_right _ ha)⟩
end
mutual
theorem Rp.imm_nil : ∀ (t : T) (x : V) (A : List Addr), Rp g S H t x A → t.imm = true → A = []
  | .dead, _, _, h, _ => h
  | .non, _, _, h, _ => h.2
  | .bl _, _, _, h, _ => h.2
  | .int _, _, _, h, _ => h.2
  | .str _, _, _, h, _ => h.2
  | .nd k ts, x, A, h, hi => by
    obtain ⟨a, xs, B, e, at_, eA, c, r⟩ := h
    have hi : (!k.own && immL ts) = true := hi
    obtain ⟨h1, h2⟩ := Bool.and_eq_true_iff.mp hi
    rw [eA, if_neg (by simpa using h1)]
    exact RpL.imm_nil ts xs B r h2
theorem RpL.imm_nil : ∀ (ts : List T) (xs : List V) (A : List Addr), RpL g S H ts xs A → immL ts = true → A = []
  | [], _, _, h, _ => h.2
  | t :: ts, xs, A, h, hi => by
    obtain ⟨y, ys, A1, A2, e1, e2, r1, r2⟩ := h
    have hi : (t.imm && immL ts) = true := hi
    obtain ⟨h1, h2⟩ := Bool.and_eq_true_iff.mp hi
    rw [e2, Rp.imm_nil t y A1 r1 h1, RpL.imm_nil ts ys A2 r2 h2]; rfl
end
mutual
theorem Rp.cells : ∀ (t : T) (x : V) (A : List Addr), Rp g S H t x A → ∀ a ∈ A, Mut (H a)
  | .dead, _, _, h => by rw [show _ = [] from h]; exact fun a z => nomatch z
  | .non, _, _, h => by rw [h.2]; exact fun a z => nomatch z
  | .bl _, _, _, h => by rw [h.2]; exact fun a z => nomatch z
  | .int _, _, _, h => by rw [h.2]; exact fun a z => nomatch z
  | .str _, _, _, h => by rw [h.2]; exact fun a z => nomatch z
  | .nd k ts, x, A, h => by
    obtain ⟨a, xs, B, e, at_, eA, c, r⟩ := h
    intro b hb
    rw [eA] at hb
    split at hb
    · rename_i ho
      rcases List.mem_cons.mp hb with rfl | hb
      · exact at_.own_mut ho
      · exact RpL.cells ts xs B r b hb
    · exact RpL.cells ts xs B r b hb
theorem RpL.cells : ∀ (ts : List T) (xs : List V) (A : List Addr), RpL g S H ts xs A → ∀ a ∈ A, Mut (H a)
  | [], _, _, h => by rw [h.2]; exact fun a z => nomatch z
  | t :: ts, xs, A, h => by
    obtain ⟨y, ys, A1, A2, e1, e2, r1, r2⟩ := h
    intro b hb
    rw [e2] at hb
    rcases List.mem_append.mp hb with hb | hb
    · exact Rp.cells t y A1 r1 b hb
    · exact RpL.cells ts ys A2 r2 b hb
end
mutual
theorem T.fz_imm : ∀ t : T, t.imm = true → t.fz = t
  | .dead, _ => rfl
  | .non, _ => rfl
  | .bl _, _ => rfl
  | .int _, _ => rfl
  | .str _, _ => rfl
  | .nd k ts, h => by
    have h : (!k.own && immL ts) = true := h
    obtain ⟨h1, h2⟩ := Bool.and_eq_true_iff.mp h
    rw [T.fz, fzL_imm ts h2]
    cases k with
    | tup => rfl
    | scr => rfl
    | lst o =>
      cases o with
      | true => cases h1
      | false => rfl
    | dK o ks =>
      cases o with
      | true => cases h1
      | false => rfl
    | dT o ks =>
      cases o with
      | true => cases h1
      | false => rfl
    | ins o c fs =>
      cases o with
      | true => cases h1
      | false => rfl
    | exc c fs => rfl
theorem fzL_imm : ∀ ts : List T, immL ts = true → fzL ts = ts
  | [], _ => rfl
  | t :: ts, h => by
    have h : (t.imm && immL ts) = true := h
    obtain ⟨h1, h2⟩ := Bool.and_eq_true_iff.mp h
    rw [fzL, T.fz_imm t h1, fzL_imm ts h2]
end
theorem RpL.length : ∀ (ts : List T) (xs : List V) (A : List Addr), RpL g S H ts xs A → ts.length = xs.length
  | [], _, _, h => by rw [h.1]; rfl
  | t :: ts, xs, A, h => by
    obtain ⟨y, ys, A1, A2, e1, e2, r1, r2⟩ := h
    rw [e1, List.length_cons, List.length_cons, RpL.length ts ys A2 r2]
theorem RpL.get : ∀ (ts : List T) (xs : List V) (A : List Addr), RpL g S H ts xs A → ∀ (i : Nat) (t : T), ts[i]? = some t → ∃ x B, xs[i]? = some x ∧ Rp g S H t x B ∧ ∀ a ∈ B, a ∈ A
  | [], _, _, h, i, t, e => by simp at e
  | t0 :: ts, xs, A, h, i, t, e => by
    obtain ⟨y, ys, A1, A2, e1, e2, r1, r2⟩ := h
    subst e1; subst e2
    cases i with
    | zero =>
      simp at e; subst e
      exact ⟨y, A1, rfl, r1, fun a ha => List.mem_append_left _ ha⟩
    | succ i =>
      obtain ⟨x, B, h1, h2, h3⟩ := RpL.get ts ys A2 r2 i t (by simpa using e)
      exact ⟨x, B, by simpa using h1, h2, fun a ha => List.mem_append_right _ (h3 a ha)⟩
theorem RpL.append : ∀ (ts : List T) (xs : List V) (A : List Addr) (us : List T) (ys : List V) (B : List Addr), RpL g S H ts xs A → RpL g S H us ys B → RpL g S H (ts ++ us) (xs ++ ys) (A ++ B)
  | [], _, _, us, ys, B, h, h' => by rw [h.1, h.2]; exact h'
  | t :: ts, xs, A, us, ys, B, h, h' => by
    obtain ⟨y, zs, A1, A2, e1, e2, r1, r2⟩ := h
    subst e1; subst e2
    exact ⟨y, zs ++ ys, A1, A2 ++ B, rfl, List.append_assoc _ _ _, r1, RpL.append ts zs A2 us ys B r2 h'⟩
theorem RpL.one {t : T} {x : V} {A : List Addr} (h : Rp g S H t x A) : RpL g S H [t] [x] A := ⟨x, [], A, [], rfl, (List.append_nil _).symm, h, rfl, rfl⟩
end
def Rp1 (g : Gc) (S : Addr → Prop) (H : Hp) (t : T) (o : Option V) (A : List Addr) : Prop := (t = .dead ∧ A = []) ∨ ∃ x, o = some x ∧ Rp g S H t x A
def slot (Ts : List T) (i : Nat) : T := Ts.getD i .dead
structure TbO (g : Gc) (H : Hp) : Prop where
  tabs : LamX.Tabs g.tab H
structure StT (g : Gc) (S : Addr → Prop) (H : Hp) : Prop where
  st : ∀ a, S a → ∃ o, H a = some o ∧ ∀ ps, o ≠ .tbl ps
  tb : TbO g H
theorem StT.weak {g : Gc} {S : Addr → Prop} {H : Hp} (t : StT g S H) (a : Addr) (h : S a) : ∃ o, H a = some o := (t.st a h).imp fun _ z => z.1
instance {g : Gc} {S : Addr → Prop} {H : Hp} : CoeFun (StT g S H) (fun _ => ∀ a, S a → ∃ o, H a = some o) := ⟨StT.weak⟩
structure SR (g : Gc) (S : Addr → Prop) (H : Hp) (σ : L2.St) (Ts : List T) (A : Nat → List Addr) : Prop where
  rep : ∀ i, Rp1 g S H (slot Ts i) (σ.getD i none) (A i)
  nd : ∀ i, (A i).Nodup
  dj : ∀ i j, i ≠ j → ∀ a ∈ A i, a ∉ A j
  ns : ∀ i, ∀ a ∈ A i, ¬ S a
  len : Ts.length = σ.length
  st : StT g S H
structure Po (S : Addr → Prop) (H : Hp) (A : Nat → List Addr) (S' : Addr → Prop) (H' : Hp) (A' : Nat → List Addr) : Prop where
  keep : ∀ a o, H a = some o → (∀ i, a ∉ A i) → fixO H' a o
  sub : ∀ a, S a → S' a
  snew : ∀ a, S' a → S a ∨ (∃ i, a ∈ A i) ∨ noT (H a) = none
  anew : ∀ i, ∀ a ∈ A' i, (∃ j, a ∈ A j) ∨ noT (H a) = none
def Stb (eff : List Nat) (H : Hp) (Ts : List T) (A : Nat → List Addr) (H' : Hp) (Ts' : List T) (A' : Nat → List Addr) : Prop :=
  ∀ j, j ∉ eff → slot Ts' j = slot Ts j ∧ A' j = A j ∧ ∀ a ∈ A j, ∀ o, H a = some o → H' a = some o
structure Ow (bo : List Nat) (H : Hp) (A : Nat → List Addr) (S' : Addr → Prop) (A' : Nat → List Addr) (Ax : List Addr) : Prop where
  ns : ∀ a ∈ Ax, ¬ S' a
  dj : ∀ i, i ∉ bo → ∀ a ∈ Ax, a ∉ A' i
  nd : bo = [] → Ax.Nodup
  new : ∀ a ∈ Ax, (∃ j, a ∈ A j) ∨ noT (H a) = none
section
variable {g : Gc} {S S1 S2 : Addr → Prop} {H H1 H2 : Hp} {A A1 A2 : Nat → List Addr} {σ : L2.St} {Ts Ts1 Ts2 : List T} {eff eff1 eff2 bo : List Nat}
theorem SR.tb (R : SR g S H σ Ts A) : TbO g H := R.st.tb
theorem TbO.ext (t : TbO g H) (e : Ext H H1) : TbO g H1 := ⟨t.tabs.ext e⟩
theorem SR.cells (R : SR g S H σ Ts A) : ∀ i, ∀ a ∈ A i, Mut (H a) := fun i a ha => by
  rcases R.rep i with ⟨_, e⟩ | ⟨x, _, r⟩
  · rw [e] at ha; exact nomatch ha
  · exact Rp.cells _ _ _ r a ha
theorem tabs_keep (t : TbO g H) (k : ∀ a ps, H a = some (.tbl ps) → H1 a = some (.tbl ps)) (k2 : ∀ a P, H a = some (.ext P) → H1 a = some (.ext P)) (bk : ∀ a ps, H1 a = some (.tbl ps) → ∃ qs, H a = some (.tbl qs)) : TbO g H1 :=
  ⟨fun p hp => by
    obtain ⟨ps, h1, h2, h3⟩ := t.tabs p hp
    refine ⟨ps, k _ _ h1, h2, fun pos cv hc => ?_⟩
    obtain ⟨c, e1, e2⟩ := h3 pos cv hc
    exact ⟨c, e1, k2 _ _ e2⟩⟩
theorem tabs_upd {a : Addr} {o o' : HO} (t : TbO g H) (h : H a = some o) (n1 : ∀ ps, o ≠ .tbl ps) (n2 : ∀ P, o ≠ .ext P) (n3 : ∀ ps, o' ≠ .tbl ps) : TbO g (upd H a o') :=
  tabs_keep t (fun b ps e => by
    rw [upd_ne (fun z => n1 ps (by rw [z, h] at e; exact Option.some.inj e))]
    exact e) (fun b P e => by
    rw [upd_ne (fun z => n2 P (by rw [z, h] at e; exact Option.some.inj e))]
    exact e) fun b ps e => by
    by_cases eb : b = a
    · rw [eb, upd_same] at e
      exact absurd (Option.some.inj e) (n3 ps)
    · rw [upd_ne eb] at e
      exact ⟨ps, e⟩
theorem mut_tbl {o : HO} (h : Mut (some o)) : ∀ ps, o ≠ .tbl ps := fun ps e => by
  rw [e] at h
  exact h
theorem mut_ne {o : Option HO} (h : Mut o) : noT o ≠ none := fun n => by
  rcases noT_cases n with e | ⟨ps, e⟩ <;> rw [e] at h <;> exact h
theorem Po.refl : Po S H A S H A := ⟨fun _ _ e _ => fix_of e, fun _ h => h, fun _ h => .inl h, fun i a h => .inl ⟨i, h⟩⟩
theorem Po.trans (R : SR g S H σ Ts A) (p : Po S H A S1 H1 A1) (q : Po S1 H1 A1 S2 H2 A2) : Po S H A S2 H2 A2 where
  keep := fun a o e n => fix_trans (p.keep a o e n) fun eu nt => q.keep a o eu fun i hi => by
    rcases p.anew i a hi with ⟨j, hj⟩ | hn
    · exact n j hj
    · obtain ⟨ps, z⟩ := noT_at hn e
      exact nt ps z
  sub := fun a h => q.sub a (p.sub a h)
  snew := fun a h => by
    have back : noT (H1 a) = none → (∃ i, a ∈ A i) ∨ noT (H a) = none := fun hn => by
      cases e : H a with
      | none => exact .inr rfl
      | some o =>
        by_cases hj : ∃ j, a ∈ A j
        · exact .inl hj
        · exact .inr (e ▸ fix_back hn e (p.keep a o e fun i hi => hj ⟨i, hi⟩))
    rcases q.snew a h with h | ⟨i, hi⟩ | hn
    · exact p.snew a h
    · exact .inr (p.anew i a hi)
    · exact .inr (back hn)
  anew := fun i a h => by
    rcases q.anew i a h with ⟨j, hj⟩ | hn
    · exact p.anew j a hj
    · cases e : H a with
      | none => exact .inr rfl
      | some o =>
        by_cases hj : ∃ j, a ∈ A j
        · exact .inl hj
        · exact .inr (e ▸ fix_back hn e (p.keep a o e fun i hi => hj ⟨i, hi⟩))
theorem Stb.refl : Stb eff H Ts A H Ts A := fun j _ => ⟨rfl, rfl, fun _ _ _ e => e⟩
theorem Stb.trans (p : Stb eff1 H Ts A H1 Ts1 A1) (q : Stb eff2 H1 Ts1 A1 H2 Ts2 A2) : Stb (eff1 ++ eff2) H Ts A H2 Ts2 A2 := fun j hj => by
  have h1 : j ∉ eff1 := fun z => hj (List.mem_append_left _ z)
  have h2 : j ∉ eff2 := fun z => hj (List.mem_append_right _ z)
  obtain ⟨a1, a2, a3⟩ := p j h1
  obtain ⟨b1, b2, b3⟩ := q j h2
  exact ⟨b1.trans a1, b2.trans a2, fun a ha o e => b3 a (by rw [a2]; exact ha) o (a3 a ha o e)⟩
theorem Stb.mono (p : Stb eff1 H Ts A H1 Ts1 A1) (h : ∀ j ∈ eff1, j ∈ eff2) : Stb eff2 H Ts A H1 Ts1 A1 := fun j hj => p j fun z => hj (h j z)
theorem Rp.held {t : T} {x : V} {Ax : List Addr} (R1 : SR g S1 H1 σ Ts1 A1) (r : Rp g S1 H1 t x Ax) (o : Ow bo H A S1 A1 Ax) (p : Po S1 H1 A1 S2 H2 A2) (s : Stb eff2 H1 Ts1 A1 H2 Ts2 A2) (d : ∀ j ∈ bo, j ∉ eff2) : Rp g S2 H2 t x Ax := by
  refine Rp.keepF (M := fun a => ∃ j, j ∈ eff2 ∧ a ∈ A1 j) (fun a ob e n => ?_) (fun a ⟨j, _, hj⟩ => R1.cells j a hj) (fun a hs ⟨j, _, hj⟩ => R1.ns j a hj hs) p.sub t x Ax r fun a ha ⟨j, hj, hA⟩ => ?_
  · by_cases h : ∃ j, a ∈ A1 j
    · obtain ⟨j, hj⟩ := h
      by_cases he : j ∈ eff2
      · exact absurd ⟨j, he, hj⟩ n
      · exact fix_of ((s j he).2.2 a hj ob e)
    · exact p.keep a ob e fun i hi => h ⟨i, hi⟩
  · have hb : j ∉ bo := fun z => d j z hj
    exact o.dj j hb a ha hA
theorem RpL.held {ts : List T} {xs : List V} {Ax : List Addr} (R1 : SR g S1 H1 σ Ts1 A1) (r : RpL g S1 H1 ts xs Ax) (o : Ow bo H A S1 A1 Ax) (p : Po S1 H1 A1 S2 H2 A2) (s : Stb eff2 H1 Ts1 A1 H2 Ts2 A2) (d : ∀ j ∈ bo, j ∉ eff2) : RpL g S2 H2 ts xs Ax := by
  refine RpL.keepF (M := fun a => ∃ j, j ∈ eff2 ∧ a ∈ A1 j) (fun a ob e n => ?_) (fun a ⟨j, _, hj⟩ => R1.cells j a hj) (fun a hs ⟨j, _, hj⟩ => R1.ns j a hj hs) p.sub ts xs Ax r fun a ha ⟨j, hj, hA⟩ => ?_
  · by_cases h : ∃ j, a ∈ A1 j
    · obtain ⟨j, hj⟩ := h
      by_cases he : j ∈ eff2
      · exact absurd ⟨j, he, hj⟩ n
      · exact fix_of ((s j he).2.2 a hj ob e)
    · exact p.keep a ob e fun i hi => h ⟨i, hi⟩
  · have hb : j ∉ bo := fun z => d j z hj
    exact o.dj j hb a ha hA
end
end MI
namespace MI
open PySem L2
section
variable {g : Gc} {S S1 S2 : Addr → Prop} {H H1 H2 : Hp} {A A1 A2 : Nat → List Addr} {σ σ2 : L2.St} {Ts Ts1 Ts2 : List T} {eff eff1 eff2 bo bo2 : List Nat} {Ax Ay : List Addr}
theorem Ow.held (R1 : SR g S1 H1 σ Ts1 A1) (R2 : SR g S2 H2 σ2 Ts2 A2) (hc : ∀ a ∈ Ax, Mut (H1 a)) (o : Ow bo H A S1 A1 Ax) (p : Po S1 H1 A1 S2 H2 A2) (s : Stb eff2 H1 Ts1 A1 H2 Ts2 A2) (d : ∀ j ∈ bo, j ∉ eff2) : Ow bo H A S2 A2 Ax where
  ns := fun a ha h => by
    rcases p.snew a h with h | ⟨i, hi⟩ | hn
    · exact o.ns a ha h
    · have hb : i ∈ bo := Classical.byContradiction fun z => o.dj i z a ha hi
      have e := (s i (d i hb)).2.1
      exact R2.ns i a (by rw [e]; exact hi) h
    · exact mut_ne (hc a ha) hn
  dj := fun i hi a ha h => by
    rcases p.anew i a h with ⟨j, hj⟩ | hn
    · have hb : j ∈ bo := Classical.byContradiction fun z => o.dj j z a ha hj
      have e := (s j (d j hb)).2.1
      have ne : i ≠ j := by rintro rfl; exact hi hb
      exact R2.dj i j ne a h (by rw [e]; exact hj)
    · exact mut_ne (hc a ha) hn
  nd := o.nd
  new := o.new
theorem Ow.back (p : Po S H A S1 H1 A1) (o : Ow bo H1 A1 S2 A2 Ay) : ∀ a ∈ Ay, (∃ j, a ∈ A j) ∨ noT (H a) = none := fun a ha => by
  rcases o.new a ha with ⟨j, hj⟩ | hn
  · exact p.anew j a hj
  · cases e : H a with
    | none => exact .inr rfl
    | some ob =>
      by_cases hj : ∃ j, a ∈ A j
      · exact .inl hj
      · exact .inr (e ▸ fix_back hn e (p.keep a ob e fun i hi => hj ⟨i, hi⟩))
theorem Ow.app (p : Po S H A S1 H1 A1) (hc : ∀ a ∈ Ax, Mut (H1 a)) (o1 : Ow bo H A S1 A1 Ax) (o : Ow bo H A S2 A2 Ax) (o2 : Ow bo2 H1 A1 S2 A2 Ay) : Ow (bo ++ bo2) H A S2 A2 (Ax ++ Ay) where
  ns := fun a ha => (List.mem_append.mp ha).elim (o.ns a) (o2.ns a)
  dj := fun i hi a ha => (List.mem_append.mp ha).elim (o.dj i (fun z => hi (List.mem_append_left _ z)) a) (o2.dj i (fun z => hi (List.mem_append_right _ z)) a)
  nd := fun e => by
    obtain ⟨e1, e2⟩ := List.append_eq_nil_iff.mp e
    refine List.nodup_append.mpr ⟨o.nd e1, o2.nd e2, fun a ha b hb e3 => ?_⟩
    subst e3
    rcases o2.new a hb with ⟨j, hj⟩ | hn
    · exact o1.dj j (by rw [e1]; exact fun z => nomatch z) a ha hj
    · exact mut_ne (hc a ha) hn
  new := fun a ha => (List.mem_append.mp ha).elim (o.new a) (o2.back p a)
theorem Ow.nil : Ow bo H A S2 A2 [] := ⟨(fun _ h => nomatch h), (fun _ _ _ h => nomatch h), (fun _ => List.nodup_nil), (fun _ h => nomatch h)⟩
theorem Ow.mono {bo' : List Nat} (o : Ow bo H A S2 A2 Ax) (h : ∀ i ∈ bo, i ∈ bo') (hn : bo' = [] → bo = []) : Ow bo' H A S2 A2 Ax := ⟨o.ns, fun i hi => o.dj i fun z => hi (h i z), fun e => o.nd (hn e), o.new⟩
abbrev M (α : Type) := List T → Option (α × List T)
def bnd {α β : Type} (x : M α) (f : α → M β) : M β := fun s => match x s with
  | none => none
  | some (a, s') => f a s'
def ret {α : Type} (a : α) : M α := fun s => some (a, s)
def lft {α : Type} (o : Option α) : M α := fun s => match o with
  | none => none
  | some a => some (a, s)
theorem bnd_some {α β : Type} {x : M α} {f : α → M β} {s s2 : List T} {b : β} (h : bnd x f s = some (b, s2)) : ∃ a s1, x s = some (a, s1) ∧ f a s1 = some (b, s2) := by
  unfold bnd at h
  cases e : x s with
  | none => rw [e] at h; cases h
  | some p => obtain ⟨a, s1⟩ := p; rw [e] at h; exact ⟨a, s1, rfl, h⟩
theorem lft_some {α : Type} {o : Option α} {s s2 : List T} {b : α} (h : lft o s = some (b, s2)) : o = some b ∧ s2 = s := by
  unfold lft at h
  cases o with
  | none => cases h
  | some a =>
    have h : some (a, s) = some (b, s2) := h
    injection h with h
    injection h with h1 h2
    exact ⟨by rw [h1], h2.symm⟩
def TM (g : Gc) (f : M T) (eff bo : List Nat) : TE := fun σ H Q => ∃ S Ts A t Ts', SR g S H σ Ts A ∧ f Ts = some (t, Ts') ∧
  ∀ x H' S' A' Ax, SR g S' H' σ Ts' A' → Rp g S' H' t x Ax → Ow bo H A S' A' Ax → Po S H A S' H' A' → Stb eff H Ts A H' Ts' A' → Q x H'
def TMt (g : Gc) (f : M Bool) (eff : List Nat) : TT := fun σ H Q => ∃ S Ts A b Ts', SR g S H σ Ts A ∧ f Ts = some (b, Ts') ∧
  ∀ H' S' A', SR g S' H' σ Ts' A' → Po S H A S' H' A' → Stb eff H Ts A H' Ts' A' → Q b H'
def TMs (g : Gc) (f : M (List T)) (eff bo : List Nat) : TA := fun σ H Q => ∃ S Ts A ts Ts', SR g S H σ Ts A ∧ f Ts = some (ts, Ts') ∧
  ∀ xs H' S' A' Ax, SR g S' H' σ Ts' A' → RpL g S' H' ts xs Ax → Ow bo H A S' A' Ax → Po S H A S' H' A' → Stb eff H Ts A H' Ts' A' → Q xs H'
def PEm (g : Gc) (X : Cx) (e : Expr) (f : M T) (eff bo : List Nat) : Prop := PE X e (TM g f eff bo)
def PTm (g : Gc) (X : Cx) (e : Expr) (f : M Bool) (eff : List Nat) : Prop := PT X e (TMt g f eff)
def PAm (g : Gc) (X : Cx) (es : List Expr) (f : M (List T)) (eff bo : List Nat) : Prop := PA X es (TMs g f eff bo)
theorem PE.imp {X : Cx} {e : Expr} {t t' : TE} (h : PE X e t) (i : ∀ σ H Q, t' σ H Q → t σ H Q) : PE X e t' := ⟨fun pins s σ H Q I q => h.run pins s σ H Q I (i σ H Q q)⟩
theorem PT.imp {X : Cx} {e : Expr} {t t' : TT} (h : PT X e t) (i : ∀ σ H Q, t' σ H Q → t σ H Q) : PT X e t' := ⟨fun pins s σ H Q I q => h.run pins s σ H Q I (i σ H Q q)⟩
theorem PA.imp {X : Cx} {e : List Expr} {t t' : TA} (h : PA X e t) (i : ∀ σ H Q, t' σ H Q → t σ H Q) : PA X e t' := ⟨fun pos pins s σ H Q I q => h.run pos pins s σ H Q I (i σ H Q q)⟩
theorem PS.imp {X : Cx} {e : Stmt} {t t' : TS} (h : PS X e t) (i : ∀ D σ H, t' D σ H → t D σ H) : PS X e t' := ⟨fun pins s σ H D I q => h.run pins s σ H D I (i D σ H q)⟩
theorem PSs.imp {X : Cx} {e : List Stmt} {t t' : TS} (h : PSs X e t) (i : ∀ D σ H, t' D σ H → t D σ H) : PSs X e t' := ⟨fun pins s σ H D I q => h.run pins s σ H D I (i D σ H q)⟩
end
end MI
namespace MI
open PySem L2
structure New (g : Gc) (S : Addr → Prop) (H H' : Hp) (t : T) (z : V) (Az : List Addr) : Prop where
  ext : Ext H H'
  rep : Rp g S H' t z Az
  nd : Az.Nodup
  new : ∀ a ∈ Az, H a = none
section
variable {g : Gc} {S S1 S2 : Addr → Prop} {H H1 H2 : Hp} {A A1 A2 : Nat → List Addr} {σ : L2.St} {Ts Ts1 Ts2 : List T} {eff eff1 eff2 bo bo2 : List Nat} {Ax Ay : List Addr}
theorem Rp.ext (e : Ext H H1) {t : T} {x : V} (r : Rp g S H t x Ax) : Rp g S H1 t x Ax :=
  Rp.keep (M := fun _ => False) (fun a o h _ => e a o h) (fun _ h => h.elim) (fun _ _ h => h) (fun _ h => h) t x Ax r fun _ _ h => h
theorem RpL.ext (e : Ext H H1) {t : List T} {x : List V} (r : RpL g S H t x Ax) : RpL g S H1 t x Ax :=
  RpL.keep (M := fun _ => False) (fun a o h _ => e a o h) (fun _ h => h.elim) (fun _ _ h => h) (fun _ h => h) t x Ax r fun _ _ h => h
theorem SR.ext (R : SR g S H σ Ts A) (e : Ext H H1) : SR g S H1 σ Ts A where
  rep := fun i => by
    rcases R.rep i with h | ⟨x, h1, h2⟩
    · exact .inl h
    · exact .inr ⟨x, h1, h2.ext e⟩
  nd := R.nd
  dj := R.dj
  ns := R.ns
  len := R.len
  st := ⟨fun a h => let ⟨o, q, n⟩ := R.st.st a h; ⟨o, e a o q, n⟩, R.tb.ext e⟩
theorem Po.ext (e : Ext H H1) : Po S H A S H1 A := ⟨fun a o h _ => fix_of (e a o h), fun _ h => h, fun _ h => .inl h, fun i a h => .inl ⟨i, h⟩⟩
theorem Stb.ext (e : Ext H H1) : Stb eff H Ts A H1 Ts A := fun j _ => ⟨rfl, rfl, fun a _ o h => e a o h⟩
theorem SR.fresh (R : SR g S H σ Ts A) {a : Addr} (h : H a = none) : ¬ S a ∧ ∀ i, a ∉ A i :=
  ⟨(fun z => by obtain ⟨o, q⟩ := R.st a z; rw [h] at q; cases q), fun i z => mut_ne (R.cells i a z) h⟩
theorem Ow.of_new (R : SR g S H σ Ts A) {t : T} {z : V} {Az : List Addr} (n : New g S H H1 t z Az) : Ow bo H A S A Az :=
  ⟨fun a ha => (R.fresh (n.new a ha)).1, fun i _ a ha => (R.fresh (n.new a ha)).2 i, fun _ => n.nd, fun a ha => .inr (n.new a ha)⟩
theorem New.atom {t : T} {z : V} (r : Rp g S H t z []) : New g S H H t z [] := ⟨Ext.refl, r, List.nodup_nil, fun _ h => nomatch h⟩
abbrev RC := List V → Hp → VK → Prop
def OpT (g : Gc) (r : R2) (f : T → T → Option T) : Prop := ∀ S H a b x y Ax Ay t Q, Rp g S H a x Ax → Rp g S H b y Ay → f a b = some t → (∀ z H' Az, New g S H H' t z Az → Q z H') → r x y H Q
def UnT (g : Gc) (r : V → Hp → VK → Prop) (f : T → Option T) : Prop := ∀ S H a x Ax t Q, Rp g S H a x Ax → f a = some t → (∀ z H' Az, New g S H H' t z Az → Q z H') → r x H Q
def CallT (g : Gc) (r : RC) (f : List T → Option T) : Prop := ∀ S H ts xs Ax t Q, RpL g S H ts xs Ax → f ts = some t → (∀ z H' Az, New g S H H' t z Az → Q z H') → r xs H Q
theorem tm_two {fa : M T} {fb : M T} {R : V → V → Hp → Prop} {a b : T} (d : ∀ j ∈ bo, j ∉ eff2) (SR0 : SR g S H σ Ts A) (ea : fa Ts = some (a, Ts1)) (eb : fb Ts1 = some (b, Ts2))
    (h : ∀ x y H' S' A' Ax Ay, SR g S' H' σ Ts2 A' → Rp g S' H' a x Ax → Rp g S' H' b y Ay → Ow bo H A S' A' Ax → Ow (bo ++ bo2) H A S' A' (Ax ++ Ay) → Po S H A S' H' A' → Stb (eff1 ++ eff2) H Ts A H' Ts2 A' → R x y H') :
    TM g fa eff1 bo σ H fun x H1 => TM g fb eff2 bo2 σ H1 fun y H2 => R x y H2 := by
  refine ⟨S, Ts, A, a, Ts1, SR0, ea, fun x H1 S1 A1 Ax R1 r1 o1 p1 s1 => ⟨S1, Ts1, A1, b, Ts2, R1, eb, fun y H2 S2 A2 Ay R2 r2 o2 p2 s2 => ?_⟩⟩
  have hc := Rp.cells _ _ _ r1
  have o1' := o1.held R1 R2 hc p2 s2 d
  exact h x y H2 S2 A2 Ax Ay R2 (r1.held R1 o1 p2 s2 d) r2 o1' (Ow.app p1 hc o1 o1' o2) (p1.trans SR0 p2) (s1.trans s2)
end
section
variable {g : Gc} {X : Cx} {a b c : Expr} {fa fb fc : M T} {e1 e2 e3 b1 b2 b3 : List Nat} {pos : Pos} {r : R2} {f : T → T → Option T}
def m2 (f : T → T → Option T) (fa fb : M T) : M T := bnd fa fun a => bnd fb fun b => lft (f a b)
def m1 (f : T → Option T) (fa : M T) : M T := bnd fa fun a => lft (f a)
theorem tm_op2 {fa fb : M T} (hop : OpT g r f) (d : ∀ j ∈ b1, j ∉ e2) (σ : L2.St) (H : Hp) (Q : VK) (h : TM g (m2 f fa fb) (e1 ++ e2) [] σ H Q) : tOp r (TM g fa e1 b1) (TM g fb e2 b2) σ H Q := by
  obtain ⟨S, Ts, A, t, Ts', R, e, k⟩ := h
  obtain ⟨ta, Ts1, ea, e⟩ := bnd_some e
  obtain ⟨tb, Ts2, eb, e⟩ := bnd_some e
  obtain ⟨ef, rfl⟩ := lft_some e
  refine tm_two d R ea eb fun x y H' S' A' Ax Ay R' rx ry _ _ p s => ?_
  refine hop S' H' ta tb x y Ax Ay t Q rx ry ef fun z H2 Az n => ?_
  have R2 := R'.ext n.ext
  have o : Ow [] H' A' S' A' Az := Ow.of_new R' n
  refine k z H2 S' A' Az R2 n.rep ⟨o.ns, o.dj, o.nd, o.back p⟩ (p.trans R (Po.ext n.ext)) ?_
  have := s.trans (Stb.ext (eff := []) (Ts := Ts') (A := A') n.ext)
  rw [List.append_nil] at this
  exact this
theorem tm_un1 {fa : M T} {r : V → Hp → VK → Prop} {f : T → Option T} (hop : UnT g r f) (σ : L2.St) (H : Hp) (Q : VK) (h : TM g (m1 f fa) e1 [] σ H Q) : tUn r (TM g fa e1 b1) σ H Q := by
  obtain ⟨S, Ts, A, t, Ts', R, e, k⟩ := h
  obtain ⟨ta, Ts1, ea, e⟩ := bnd_some e
  obtain ⟨ef, rfl⟩ := lft_some e
  refine ⟨S, Ts, A, ta, Ts', R, ea, fun x H' S' A' Ax R' rx o1 p s => ?_⟩
  refine hop S' H' ta x Ax t Q rx ef fun z H2 Az n => ?_
  have o : Ow [] H' A' S' A' Az := Ow.of_new R' n
  refine k z H2 S' A' Az (R'.ext n.ext) n.rep ⟨o.ns, o.dj, o.nd, o.back p⟩ (p.trans R (Po.ext n.ext)) ?_
  have := s.trans (Stb.ext (eff := []) (Ts := Ts') (A := A') n.ext)
  rw [List.append_nil] at this
  exact this
theorem tm_bin {op : Operator} (ho : OpR X (binaryOp op) r) (hop : OpT g r f) (ha : PEm g X a fa e1 b1) (hb : PEm g X b fb e2 b2) (d : ∀ j ∈ b1, j ∉ e2 := by decide) : PEm g X (.BinOp a op b pos) (m2 f fa fb) (e1 ++ e2) [] :=
  PE.imp (pe_op ho ha hb) (tm_op2 hop d)
theorem tm_un {op : UnaryOp} {r : V → Hp → VK → Prop} {f : T → Option T} (ho : UnR X (unaryOp op) r) (hop : UnT g r f) (ha : PEm g X a fa e1 b1) : PEm g X (.UnaryOp op a pos) (m1 f fa) e1 [] :=
  PE.imp (pe_un ho ha) (tm_un1 hop)
def asB (fa : M T) : M Bool := bnd fa fun t => lft (match t with
  | .bl b => some b
  | _ => none)
theorem asB_some {fa : M T} {s s' : List T} {k : Bool} (h : asB fa s = some (k, s')) : fa s = some (.bl k, s') := by
  obtain ⟨t, s1, e1, e2⟩ := bnd_some h
  obtain ⟨e3, rfl⟩ := lft_some e2
  cases t with
  | bl q => injection e3 with e3; rw [e1, e3]
  | _ => cases e3
theorem tmt_of {t : TE} {fa : M T} (h : ∀ σ H Q, TM g fa e1 b1 σ H Q → t σ H Q) (σ : L2.St) (H : Hp) (Q : Bool → Hp → Prop) (q : TMt g (asB fa) e1 σ H Q) : tTest t σ H Q := by
  obtain ⟨S, Ts, A, k, Ts', R, e, w⟩ := q
  refine h σ H _ ⟨S, Ts, A, .bl k, Ts', R, asB_some e, fun x H' S' A' Ax R' rx o p s => ?_⟩
  exact ⟨k, rx.1, w H' S' A' R' p s⟩
theorem tmt_cmp {op : CmpOp} (ho : OpR X (compareOp op) r) (hop : OpT g r f) (ha : PEm g X a fa e1 b1) (hb : PEm g X b fb e2 b2) (d : ∀ j ∈ b1, j ∉ e2 := by decide) (hm : behindInMarks op b = false := by rfl) : PTm g X (.Compare a [op] [b] pos) (asB (m2 f fa fb)) (e1 ++ e2) :=
  PT.imp (pt_cmpR ho ha hb hm) (tmt_of (b1 := []) (tm_op2 hop d))
end
section
variable {g : Gc} {X : Cx} {pos : Pos}
def mC (t : T) : M T := ret t
def mRd (i : Nat) : M T := fun Ts => match slot Ts i with
  | .dead => none
  | t => some (t, Ts)
def mIm (fa : M T) : M T := bnd fa fun t => lft (if t.imm then some t else none)
def mFz (i : Nat) : M T := fun Ts => match slot Ts i with
  | .dead => none
  | t => if t.imm then some (t, Ts) else some (t.fz, Ts.set i t.fz)
def mMv (i : Nat) : M T := fun Ts => match slot Ts i with
  | .dead => none
  | t => if t.imm then some (t, Ts) else some (t, Ts.set i .dead)
theorem tm_c {v : V} {t : T} {e : Expr} (h : PE X e (tC v)) (r : ∀ S H, Rp g S H t v []) : PEm g X e (mC t) [] [] :=
  PE.imp h fun σ H Q ⟨S, Ts, A, t', Ts', R, e, k⟩ => by
    have e : some (t, Ts) = some (t', Ts') := e
    injection e with e
    injection e with e1 e2
    subst e1; subst e2
    exact k v H S A [] R (r S H) Ow.nil Po.refl Stb.refl
theorem tm_int {i : Int} {j : Nat} : PEm g X (.Constant (.int i) j pos) (mC (.int i)) [] [] := tm_c pe_int fun _ _ => ⟨rfl, rfl⟩
theorem tm_str {x : Str} {j : Nat} : PEm g X (.Constant (.str x) j pos) (mC (.str x)) [] [] := tm_c pe_str fun _ _ => ⟨rfl, rfl⟩
theorem tm_bl {b : Bool} {j : Nat} : PEm g X (.Constant (.bool b) j pos) (mC (.bl b)) [] [] := tm_c pe_bl fun _ _ => ⟨rfl, rfl⟩
theorem tm_non {j : Nat} : PEm g X (.Constant .none j pos) (mC .non) [] [] := tm_c pe_non fun _ _ => ⟨rfl, rfl⟩
theorem mRd_some {i : Nat} {Ts Ts' : List T} {t : T} (h : mRd i Ts = some (t, Ts')) : slot Ts i = t ∧ t ≠ .dead ∧ Ts' = Ts := by
  unfold mRd at h
  cases e : slot Ts i <;> rw [e] at h <;> first | (cases h; done) | (injection h with h; injection h with h1 h2; subst h1; subst h2; exact ⟨rfl, (fun z => nomatch z), rfl⟩)
theorem SR.at {S : Addr → Prop} {H : Hp} {σ : L2.St} {Ts : List T} {A : Nat → List Addr} {i : Nat} {t : T} (R : SR g S H σ Ts A) (e : slot Ts i = t) (n : t ≠ .dead) : ∃ x, σ[i]? = some (some x) ∧ Rp g S H t x (A i) := by
  rcases R.rep i with ⟨h, _⟩ | ⟨x, h1, h2⟩
  · exact absurd (e.symm.trans h) n
  · rw [e] at h2
    refine ⟨x, ?_, h2⟩
    rw [List.getD_eq_getElem?_getD] at h1
    cases q : σ[i]? with
    | none => rw [q] at h1; cases h1
    | some o => rw [q] at h1; exact congrArg some h1
theorem tm_rd {i : Nat} {e : Expr} (h : PE X e (tVar i)) : PEm g X e (mRd i) [] [i] :=
  PE.imp h fun σ H Q ⟨S, Ts, A, t, Ts', R, e, k⟩ => by
    obtain ⟨e1, n, rfl⟩ := mRd_some e
    obtain ⟨x, hx, rx⟩ := R.at e1 n
    refine ⟨x, hx, k x H S A (A i) R rx ⟨R.ns i, fun j hj a ha => R.dj i j (fun z => hj (by rw [z]; exact List.mem_singleton.mpr rfl)) a ha, (fun z => nomatch z), fun a ha => .inl ⟨i, ha⟩⟩ Po.refl Stb.refl⟩
theorem tm_im {e : Expr} {fa : M T} {e1 b1 : List Nat} (h : PEm g X e fa e1 b1) : PEm g X e (mIm fa) e1 [] :=
  PE.imp h fun σ H Q ⟨S, Ts, A, t, Ts', R, e, k⟩ => by
    obtain ⟨t', Ts1, ea, e⟩ := bnd_some e
    obtain ⟨ef, rfl⟩ := lft_some e
    split at ef
    · rename_i hi
      injection ef with ef
      subst ef
      refine ⟨S, Ts, A, t', Ts', R, ea, fun x H' S' A' Ax R' rx o p s => ?_⟩
      have en := Rp.imm_nil _ _ _ rx hi
      subst en
      exact k x H' S' A' [] R' rx Ow.nil p s
    · cases ef
theorem SR.frz {S : Addr → Prop} {H : Hp} {σ : L2.St} {Ts : List T} {A : Nat → List Addr} {i : Nat} {t : T} (R : SR g S H σ Ts A) (e : slot Ts i = t) (n : t ≠ .dead) :
    SR g (fun a => S a ∨ a ∈ A i) H σ (Ts.set i t.fz) (fun j => if j = i then [] else A j) ∧ Po S H A (fun a => S a ∨ a ∈ A i) H (fun j => if j = i then [] else A j) ∧ Stb [i] H Ts A H (Ts.set i t.fz) (fun j => if j = i then [] else A j) := by
  obtain ⟨x, hx, rx⟩ := R.at e n
  have il : i < Ts.length := by
    rw [R.len]
    exact (List.getElem?_eq_some_iff.mp hx).1
  have hset : ∀ j, j ≠ i → slot (Ts.set i t.fz) j = slot Ts j := fun j hj => by
    unfold slot
    rw [List.getD_eq_getElem?_getD, List.getD_eq_getElem?_getD, List.getElem?_set_ne (Ne.symm hj)]
  have hself : slot (Ts.set i t.fz) i = t.fz := by
    unfold slot
    rw [List.getD_eq_getElem?_getD, List.getElem?_set_self il]; rfl
  refine ⟨⟨fun j => ?_, fun j => ?_, fun j k hjk a ha => ?_, fun j a ha => ?_, by rw [List.length_set]; exact R.len, ⟨fun a h => ?_, R.tb⟩⟩, ⟨fun _ _ h _ => fix_of h, fun a h => .inl h, fun a h => h.elim .inl fun z => .inr (.inl ⟨i, z⟩), fun j a h => ?_⟩, fun j hj => ?_⟩
  · by_cases hj : j = i
    · subst hj
      rw [hself, if_pos rfl]
      refine .inr ⟨x, ?_, Rp.fz (fun _ h => .inl h) t x _ rx fun a ha => .inr ha⟩
      rw [List.getD_eq_getElem?_getD, hx]; rfl
    · rw [hset j hj, if_neg hj]
      rcases R.rep j with h | ⟨y, h1, h2⟩
      · exact .inl h
      · exact .inr ⟨y, h1, Rp.keep (M := fun _ => False) (fun a o h _ => h) (fun _ h => h.elim) (fun _ _ h => h) (fun _ h => .inl h) _ _ _ h2 fun _ _ h => h⟩
  · split
    · exact List.nodup_nil
    · exact R.nd j
  · split at ha
    · exact nomatch ha
    · split
      · exact fun z => nomatch z
      · exact R.dj j k hjk a ha
  · split at ha
    · exact nomatch ha
    · rename_i hj
      rintro (h | h)
      · exact R.ns j a ha h
      · exact R.dj j i hj a ha h
  · rcases h with h | h
    · exact R.st.st a h
    · have := R.cells i a h
      cases q : H a with
      | none => rw [q] at this; exact this.elim
      | some o => exact ⟨o, rfl, mut_tbl (by rw [q] at this; exact this)⟩
  · split at h
    · exact nomatch h
    · exact .inl ⟨j, h⟩
  · have hj : j ≠ i := fun z => hj (by rw [z]; exact List.mem_singleton.mpr rfl)
    exact ⟨hset j hj, if_neg hj, fun _ _ _ h => h⟩
end
end MI
namespace MI
open PySem L2
section
variable {g : Gc} {S S1 S2 : Addr → Prop} {H H1 H2 : Hp} {A A1 A2 : Nat → List Addr} {σ : L2.St} {Ts Ts1 Ts2 : List T} {eff eff1 eff2 bo bo2 : List Nat} {Ax Ay : List Addr}
theorem RpL.at : ∀ (ts : List T) (xs : List V) (A : List Addr), RpL g S H ts xs A → ∀ (i : Nat) (t : T), ts[i]? = some t → ∃ x B, xs[i]? = some x ∧ Rp g S H t x B ∧ B.Sublist A
  | [], _, _, h, i, t, e => by simp at e
  | t0 :: ts, xs, A, h, i, t, e => by
    obtain ⟨y, ys, A1, A2, e1, e2, r1, r2⟩ := h
    subst e1; subst e2
    cases i with
    | zero =>
      simp at e; subst e
      exact ⟨y, A1, rfl, r1, List.sublist_append_left _ _⟩
    | succ i =>
      obtain ⟨x, B, h1, h2, h3⟩ := RpL.at ts ys A2 r2 i t (by simpa using e)
      exact ⟨x, B, by simpa using h1, h2, h3.trans (List.sublist_append_right _ _)⟩
theorem Ow.part {B : List Addr} (o : Ow bo H A S2 A2 Ax) (h : B.Sublist Ax) : Ow bo H A S2 A2 B :=
  ⟨fun a ha => o.ns a (h.subset ha), fun i hi a ha => o.dj i hi a (h.subset ha), fun e => (o.nd e).sublist h, fun a ha => o.new a (h.subset ha)⟩
theorem RpL.imm_one {ts : List T} {xs : List V} (r : RpL g S H ts xs Ax) (hi : immL ts = true) : RpL g S H ts xs [] := by
  have e := RpL.imm_nil _ _ _ r hi
  rw [← e]; exact r
theorem Ow.rebase (p : Po S H A S1 H1 A1) (o : Ow bo H1 A1 S2 A2 Ay) : Ow bo H A S2 A2 Ay := ⟨o.ns, o.dj, o.nd, o.back p⟩
theorem SR.mv {i : Nat} {t : T} (R : SR g S H σ Ts A) (e : slot Ts i = t) (n : t ≠ .dead) :
    SR g S H σ (Ts.set i .dead) (fun j => if j = i then [] else A j) ∧ Po S H A S H (fun j => if j = i then [] else A j) ∧ Stb [i] H Ts A H (Ts.set i .dead) (fun j => if j = i then [] else A j) ∧ Ow [] H A S (fun j => if j = i then [] else A j) (A i) := by
  obtain ⟨x, hx, rx⟩ := R.at e n
  have il : i < Ts.length := by
    rw [R.len]
    exact (List.getElem?_eq_some_iff.mp hx).1
  have hset : ∀ j, j ≠ i → slot (Ts.set i .dead) j = slot Ts j := fun j hj => by
    unfold slot
    rw [List.getD_eq_getElem?_getD, List.getD_eq_getElem?_getD, List.getElem?_set_ne (Ne.symm hj)]
  have hself : slot (Ts.set i .dead) i = .dead := by
    unfold slot
    rw [List.getD_eq_getElem?_getD, List.getElem?_set_self il]; rfl
  refine ⟨⟨fun j => ?_, fun j => ?_, fun j k hjk a ha => ?_, fun j a ha => ?_, by rw [List.length_set]; exact R.len, R.st⟩, ⟨fun _ _ h _ => fix_of h, fun a h => h, fun a h => .inl h, fun j a h => ?_⟩, fun j hj => ?_, ⟨R.ns i, fun j _ a ha => ?_, fun _ => R.nd i, fun a ha => .inl ⟨i, ha⟩⟩⟩
  · by_cases hj : j = i
    · subst hj
      rw [hself, if_pos rfl]
      exact .inl ⟨rfl, rfl⟩
    · rw [hset j hj, if_neg hj]
      exact R.rep j
  · split
    · exact List.nodup_nil
    · exact R.nd j
  · split at ha
    · exact nomatch ha
    · split
      · exact fun z => nomatch z
      · exact R.dj j k hjk a ha
  · split at ha
    · exact nomatch ha
    · exact R.ns j a ha
  · split at h
    · exact nomatch h
    · exact .inl ⟨j, h⟩
  · have hj : j ≠ i := fun z => hj (by rw [z]; exact List.mem_singleton.mpr rfl)
    exact ⟨hset j hj, if_neg hj, fun _ _ _ h => h⟩
  · split
    · exact fun z => nomatch z
    · rename_i hj
      exact R.dj i j (Ne.symm hj) a ha
end
section
variable {g : Gc} {X : Cx} {a b c e : Expr} {es : List Expr} {fa fb fc : M T} {fs : M (List T)} {e1 e2 e3 b1 b2 b3 : List Nat} {pos p2 : Pos} {r : R2} {f : T → T → Option T}
def mNil : M (List T) := ret []
def mCons (fa : M T) (fs : M (List T)) : M (List T) := bnd fa fun a => bnd fs fun as => ret (a :: as)
def kids : T → Option (List T)
  | .nd .tup ts => some ts
  | .nd (.lst _) ts => some ts
  | .nd .scr ts => some ts
  | _ => none
def kidsI (t : T) : Option (List T) := match kids t with
  | some ts => if immL ts then some ts else none
  | none => none
def mStar (fa : M T) (fs : M (List T)) : M (List T) := bnd fa fun a => bnd (lft (kidsI a)) fun ks => bnd fs fun as => ret (ks ++ as)
theorem tms_nil : PAm g X [] mNil [] [] :=
  PA.imp pa_nil fun σ H Q ⟨S, Ts, A, ts, Ts', R, e, k⟩ => by
    have e : some (([] : List T), Ts) = some (ts, Ts') := e
    injection e with e
    injection e with h1 h2
    subst h1; subst h2
    exact k [] H S A [] R ⟨rfl, rfl⟩ Ow.nil Po.refl Stb.refl
theorem tms_cons_r (d : ∀ j ∈ b1, j ∉ e2) (σ : L2.St) (H : Hp) (Q : List V → Hp → Prop) (h : TMs g (mCons fa fs) (e1 ++ e2) (b1 ++ b2) σ H Q) : tCons (TM g fa e1 b1) (TMs g fs e2 b2) σ H Q := by
  obtain ⟨S, Ts, A, ts, Ts', R, e, k⟩ := h
  obtain ⟨ta, Ts1, ea, e⟩ := bnd_some e
  obtain ⟨tb, Ts2, eb, e⟩ := bnd_some e
  have e : some (ta :: tb, Ts2) = some (ts, Ts') := e
  injection e with e
  injection e with h1 h2
  subst h1; subst h2
  refine ⟨S, Ts, A, ta, Ts1, R, ea, fun x H1 S1 A1 Ax R1 r1 o1 p1 s1 => ⟨S1, Ts1, A1, tb, Ts2, R1, eb, fun ys H2 S2 A2 Ay R2 r2 o2 p2 s2 => ?_⟩⟩
  have hc := Rp.cells _ _ _ r1
  have o1' := o1.held R1 R2 hc p2 s2 d
  exact k (x :: ys) H2 S2 A2 (Ax ++ Ay) R2 ⟨x, ys, Ax, Ay, rfl, rfl, r1.held R1 o1 p2 s2 d, r2⟩ (Ow.app p1 hc o1 o1' o2) (p1.trans R p2) (s1.trans s2)
theorem tms_cons (ha : PEm g X e fa e1 b1) (hs : PAm g X es fs e2 b2) (d : ∀ j ∈ b1, j ∉ e2 := by decide) (hst : starEach (e :: es) X.env = (false, eval e X.env) :: starEach es X.env := by rfl) : PAm g X (e :: es) (mCons fa fs) (e1 ++ e2) (b1 ++ b2) :=
  PA.imp (pa_cons ha hs hst) (tms_cons_r d)
def mTup (fs : M (List T)) : M T := bnd fs fun ts => lft (if ts.length ≤ sizeLine then some (.nd .tup ts) else none)
def mLst (fs : M (List T)) : M T := bnd fs fun ts => lft (if ts.length ≤ sizeLine then some (.nd (.lst true) ts) else none)
section
variable {S : Addr → Prop} {H : Hp} {A : Nat → List Addr} {σ : L2.St} {Ts : List T}
theorem upd_ext {p : Addr} {o : HO} (hp : H p = none) (no : ∀ ps, o ≠ .tbl ps := by intro _ z; cases z) : Ext H (upd H p o) := Ext.upd hp no
end
theorem tm_tup {k : Nat} (hs : PAm g X es fs e1 []) : PEm g X (.Tuple es k pos) (mTup fs) e1 [] :=
  PE.imp (pe_tup hs) fun σ H Q ⟨S, Ts, A, t, Ts', R, e, k⟩ => by
    obtain ⟨ts, Ts1, ea, e⟩ := bnd_some e
    obtain ⟨ef, rfl⟩ := lft_some e
    split at ef
    · rename_i hz
      injection ef with ef; subst ef
      refine ⟨S, Ts, A, ts, Ts', R, ea, fun xs H1 S1 A1 Ax R1 r1 o1 p1 s1 => ⟨by rw [← RpL.length _ _ _ r1]; exact hz, fun p hp => ?_⟩⟩
      have ex := upd_ext (o := .tup xs) hp
      have s2 := s1.trans (Stb.ext (eff := []) (Ts := Ts') (A := A1) ex)
      rw [List.append_nil] at s2
      exact k _ _ S1 A1 Ax (R1.ext ex) ⟨p, xs, Ax, rfl, .inl upd_same, rfl, .inr (.inl rfl), r1.ext ex⟩ o1 (p1.trans R (Po.ext ex)) s2
    · cases ef
theorem tm_lst (hs : PAm g X es fs e1 []) : PEm g X (.List es pos) (mLst fs) e1 [] :=
  PE.imp (pe_lst hs) fun σ H Q ⟨S, Ts, A, t, Ts', R, e, k⟩ => by
    obtain ⟨ts, Ts1, ea, e⟩ := bnd_some e
    obtain ⟨ef, rfl⟩ := lft_some e
    split at ef
    · rename_i hz
      injection ef with ef; subst ef
      refine ⟨S, Ts, A, ts, Ts', R, ea, fun xs H1 S1 A1 Ax R1 r1 o1 p1 s1 => ⟨by rw [← RpL.length _ _ _ r1]; exact hz, fun p hp => ?_⟩⟩
      have ex := upd_ext (o := .lst xs) hp
      have s2 := s1.trans (Stb.ext (eff := []) (Ts := Ts') (A := A1) ex)
      rw [List.append_nil] at s2
      have fr := R1.fresh hp
      have hc := RpL.cells _ _ _ r1
      have bk : (∃ j, p ∈ A j) ∨ noT (H p) = none := by
        cases e : H p with
        | none => exact .inr rfl
        | some ob =>
          by_cases hj : ∃ j, p ∈ A j
          · exact .inl hj
          · exact .inr (e ▸ fix_back hp e (p1.keep p ob e fun i hi => hj ⟨i, hi⟩))
      refine k _ _ S1 A1 (p :: Ax) (R1.ext ex) ⟨p, xs, Ax, rfl, upd_same, rfl, .inl rfl, r1.ext ex⟩ ⟨fun a ha => ?_, fun i hi a ha => ?_, fun e => List.nodup_cons.mpr ⟨fun z => mut_ne (hc p z) hp, o1.nd e⟩, fun a ha => ?_⟩ (p1.trans R (Po.ext ex)) s2
      · rcases List.mem_cons.mp ha with rfl | ha
        · exact fr.1
        · exact o1.ns a ha
      · rcases List.mem_cons.mp ha with rfl | ha
        · exact fr.2 i
        · exact o1.dj i hi a ha
      · rcases List.mem_cons.mp ha with rfl | ha
        · exact bk
        · exact o1.new a ha
    · cases ef
def mF (f : List T → Option T) (fs : M (List T)) : M T := bnd fs fun ts => lft (f ts)
theorem tm_cb_r {f : List T → Option T} {r : RC} (hf : CallT g r f) (σ : L2.St) (H : Hp) (Q : VK) (h : TM g (mF f fs) e1 [] σ H Q) : tCB r (TMs g fs e1 b1) σ H Q := by
  obtain ⟨S, Ts, A, t, Ts', R, e, k⟩ := h
  obtain ⟨ta, Ts1, ea, e⟩ := bnd_some e
  obtain ⟨ef, rfl⟩ := lft_some e
  refine ⟨S, Ts, A, ta, Ts', R, ea, fun x H' S' A' Ax R' rx o1 p s => ?_⟩
  refine hf S' H' ta x Ax t Q rx ef fun z H2 Az n => ?_
  have o : Ow [] H' A' S' A' Az := Ow.of_new R' n
  have s2 := s.trans (Stb.ext (eff := []) (Ts := Ts') (A := A') n.ext)
  rw [List.append_nil] at s2
  exact k z H2 S' A' Az (R'.ext n.ext) n.rep (o.rebase p) (p.trans R (Po.ext n.ext)) s2
theorem tm_callB {x : Str} {id : String} {r : RC} {f : List T → Option T} (hc : CallR X (.builtin id) r) (hf : CallT g r f) (hg : Gl X x) (hm : X.mg x = none) (hv : bootBuiltins x = some (.builtin id)) (ha : PAm g X (e :: es) fs e1 b1) (hn : x ≠ "__name__" := by decide) (hdb : (x == ("__debug__" : Str)) = false := by decide)
    (he : starEach (e :: es) X.env = (false, eval e X.env) :: starEach es X.env := by rfl) (hpl : (backTo pos (starEach es X.env)).any (·.1) = false := by rfl) : PEm g X (.Call (.Name x p2) (e :: es) [] pos) (mF f fs) e1 [] :=
  PE.imp (pe_callB hc hg hm hv ha hn hdb he hpl) (tm_cb_r hf)
theorem tm_callTy {x : Str} {id : String} {r : RC} {f : List T → Option T} (hc : CallR X (.type id) r) (hf : CallT g r f) (hg : Gl X x) (hm : X.mg x = none) (hv : bootBuiltins x = some (.type id)) (ha : PAm g X (e :: es) fs e1 b1) (hn : x ≠ "__name__" := by decide) (hdb : (x == ("__debug__" : Str)) = false := by decide)
    (he : starEach (e :: es) X.env = (false, eval e X.env) :: starEach es X.env := by rfl) (hpl : (backTo pos (starEach es X.env)).any (·.1) = false := by rfl) : PEm g X (.Call (.Name x p2) (e :: es) [] pos) (mF f fs) e1 [] :=
  PE.imp (pe_callTy hc hg hm hv ha hn hdb he hpl) (tm_cb_r hf)
def OpP (g : Gc) (r : R2) (f : T → T → Option T) : Prop := ∀ S H a b x y Ax Ay t Q, Rp g S H a x Ax → Rp g S H b y Ay → f a b = some t → (∀ z B, Rp g S H t z B → B.Sublist Ax → Q z H) → r x y H Q
theorem tm_ix {r : R2} {f : T → T → Option T} (hr : IxR X r) (hf : OpP g r f) (ha : PEm g X a fa e1 b1) (hb : PEm g X b fb e2 b2) (d : ∀ j ∈ b1, j ∉ e2 := by decide) (hs : PlainIx b := by exact fun _ _ => rfl) : PEm g X (.Subscript a b pos) (m2 f fa fb) (e1 ++ e2) b1 :=
  PE.imp (pe_ix hr ha hb hs) fun σ H Q h => by
    obtain ⟨S, Ts, A, t, Ts', R, e, k⟩ := h
    obtain ⟨ta, Ts1, ea, e⟩ := bnd_some e
    obtain ⟨tb, Ts2, eb, e⟩ := bnd_some e
    obtain ⟨ef, rfl⟩ := lft_some e
    refine tm_two (bo2 := b2) d R ea eb fun x y H' S' A' Ax Ay R' rx ry ox _ p s => ?_
    exact hf S' H' ta tb x y Ax Ay t Q rx ry ef fun z B rz hB => k z H' S' A' B R' rz (ox.part hB) p s
def mAnd (fa fb : M Bool) : M Bool := bnd fa fun a => if a then fb else ret false
def mOr (fa fb : M Bool) : M Bool := bnd fa fun a => if a then ret true else fb
def mNot (fa : M Bool) : M Bool := bnd fa fun a => ret (!a)
def PWm (g : Gc) (X : Cx) (e : Expr) (f : M Bool) (eff : List Nat) : Prop := PW X e (TMt g f eff)
theorem PW.imp {X : Cx} {e : Expr} {t t' : TT} (h : PW X e t) (i : ∀ σ H Q, t' σ H Q → t σ H Q) : PW X e t' := ⟨fun wh pins s σ H Q I q => h.run wh pins s σ H Q I (i σ H Q q)⟩
variable {ta tb : M Bool} {rest : List Expr}
theorem tmt_seq {tb : Bool → M Bool} {R : Bool → TT} (hR : ∀ b σ H Q, TMt g (tb b) e2 σ H Q → R b σ H Q) (σ : L2.St) (H : Hp) (Q : Bool → Hp → Prop) (h : TMt g (bnd ta tb) (e1 ++ e2) σ H Q) : TMt g ta e1 σ H fun b H1 => R b σ H1 Q := by
  obtain ⟨S, Ts, A, t, Ts', R0, e, k⟩ := h
  obtain ⟨b, Ts1, ea, eb⟩ := bnd_some e
  refine ⟨S, Ts, A, b, Ts1, R0, ea, fun H1 S1 A1 R1 p1 s1 => hR b σ H1 Q ⟨S1, Ts1, A1, t, Ts', R1, eb, fun H2 S2 A2 R2 p2 s2 => k H2 S2 A2 R2 (p1.trans R0 p2) (s1.trans s2)⟩⟩
theorem tmt_ret {b : Bool} {σ : L2.St} {H : Hp} {Q : Bool → Hp → Prop} {eff : List Nat} (h : TMt g (ret b) eff σ H Q) : Q b H := by
  obtain ⟨S, Ts, A, t, Ts', R0, e, k⟩ := h
  have e : some (b, Ts) = some (t, Ts') := e
  injection e with e
  injection e with h1 h2
  subst h1; subst h2
  exact k H S A R0 Po.refl Stb.refl
theorem tmt_or1 (ha : PTm g X a ta e1) : PWm g X (.BoolOp .Or [a] pos) ta e1 := pw_or1 ha
theorem tmt_or (ha : PTm g X a ta e1) (hb : PWm g X (.BoolOp .Or (b :: rest) pos) tb e2) : PWm g X (.BoolOp .Or (a :: b :: rest) pos) (mOr ta tb) (e1 ++ e2) :=
  PW.imp (pw_or ha hb) (tmt_seq (R := fun c => fun σ H Q => if c = true then Q true H else TMt g tb e2 σ H Q) fun c σ H Q h => by
    cases c with
    | true => exact iteT (tmt_ret h)
    | false => exact iteF h)
theorem tmt_w (h : PWm g X a ta e1) : PTm g X a ta e1 := PW.pt h
def tru : T → Option Bool
  | .non => some false
  | .bl b => some b
  | .int i => some (i != 0)
  | .str s => if s.length ≤ sizeLine then some ((s.length : Int) != 0) else none
  | .nd .tup ts => some (!ts.isEmpty)
  | .nd (.lst _) ts => some (!ts.isEmpty)
  | .nd (.dK true ks) _ => some (!ks.isEmpty)
  | _ => none
def mTru (fa : M T) : M Bool := bnd fa fun a => lft (tru a)
theorem isEmpty_len {α β : Type} {a : List α} {b : List β} (h : a.length = b.length) : a.isEmpty = b.isEmpty := by
  cases a <;> cases b <;> first | rfl | cases h
theorem tru_ok {S : Addr → Prop} {H : Hp} {t : T} {x : V} {Ax : List Addr} {k : Bool} (r : Rp g S H t x Ax) (e : tru t = some k) : TruV g.K x H k := by
  cases t with
  | dead => cases e
  | non => injection e with e; subst e; rw [r.1]; rfl
  | bl b => injection e with e; subst e; rw [r.1]; rfl
  | int i => injection e with e; subst e; rw [r.1]; rfl
  | str s =>
    have e : (if s.length ≤ sizeLine then some ((s.length : Int) != 0) else none) = some k := e
    split at e
    · rename_i h
      injection e with e
      rw [r.1]
      exact ⟨h, e.symm⟩
    · cases e
  | nd kk ts =>
    obtain ⟨a, xs, B, ex, at_, eA, c, rl⟩ := r
    have hl := RpL.length _ _ _ rl
    rw [ex]
    cases kk with
    | tup =>
      have e : some (!ts.isEmpty) = some k := e
      injection e with e
      exact .inr (.inl ⟨xs, At.sqT at_, by rw [← e, isEmpty_len hl]⟩)
    | lst o =>
      have e : some (!ts.isEmpty) = some k := e
      injection e with e
      exact .inl ⟨xs, at_.sqL, by rw [← e, isEmpty_len hl]⟩
    | dK o ks =>
      cases o with
      | false => cases e
      | true =>
      have e : some (!ks.isEmpty) = some k := e
      injection e with e
      refine .inr (.inr ⟨_, at_.1.2 rfl, ?_⟩)
      rw [← e]
      congr 1
      exact isEmpty_len (by rw [List.length_zip, ← at_.2.1, Nat.min_self])
    | dT o ks => cases e
    | ins o c fs => cases e
    | exc c fs => cases e
    | scr => cases e
theorem tmt_tru (hK : g.K = X.K) (ha : PEm g X a fa e1 b1) (he : ∀ whole, isTrue a X.env whole = (do let v ← whole; standAt a.pos; holding [v] (truthy v)) := by intro _; rfl) : PTm g X a (mTru fa) e1 :=
  PT.imp (pt_truth ha he) fun σ H Q h => by
    obtain ⟨S, Ts, A, t, Ts', R0, e, k⟩ := h
    obtain ⟨ta, Ts1, ea, eb⟩ := bnd_some e
    obtain ⟨ek, rfl⟩ := lft_some eb
    exact ⟨S, Ts, A, ta, Ts', R0, ea, fun x H' S' A' Ax R' rx o p s => ⟨t, hK ▸ tru_ok rx ek, k H' S' A' R' p s⟩⟩
def mIf (c : M Bool) (fa fb : M T) : M T := bnd c fun b => if b then fa else fb
theorem tm_if {fc : M Bool} (hc : PTm g X c fc e1) (ha : PEm g X a fa e2 b2) (hb : PEm g X b fb e3 b3) : PEm g X (.IfExp c a b pos) (mIf fc fa fb) (e1 ++ (e2 ++ e3)) (b2 ++ b3) :=
  PE.imp (pe_ifExp hc ha hb) fun σ H Q h => by
    obtain ⟨S, Ts, A, t, Ts', R0, e, k⟩ := h
    obtain ⟨b, Ts1, ea, eb⟩ := bnd_some e
    refine ⟨S, Ts, A, b, Ts1, R0, ea, fun H1 S1 A1 R1 p1 s1 => ?_⟩
    have go : ∀ (f : M T) (ef bf : List Nat), (∀ j ∈ ef, j ∈ e2 ++ e3) → (∀ j ∈ bf, j ∈ b2 ++ b3) → (b2 ++ b3 = [] → bf = []) → f Ts1 = some (t, Ts') → TM g f ef bf σ H1 Q := fun f ef bf hef hbf hn eq =>
      ⟨S1, Ts1, A1, t, Ts', R1, eq, fun x H2 S2 A2 Ax R2 rx o p s => k x H2 S2 A2 Ax R2 rx ((o.rebase p1).mono hbf hn) (p1.trans R0 p) ((s1.trans s).mono fun j hj => (List.mem_append.mp hj).elim (List.mem_append_left _) fun z => List.mem_append_right _ (hef j z))⟩
    cases b with
    | true => exact iteT (go fa e2 b2 (fun j => List.mem_append_left _) (fun j => List.mem_append_left _) (fun z => (List.append_eq_nil_iff.mp z).1) eb)
    | false => exact iteF (go fb e3 b3 (fun j => List.mem_append_right _) (fun j => List.mem_append_right _) (fun z => (List.append_eq_nil_iff.mp z).2) eb)
end
end MI
namespace MI
open PySem L2
inductive Fl where
  | nx | rt (t : T) | bk | ct
def FlE (g : Gc) (D : Ends) (H : Hp) (A : Nat → List Addr) (fl : Fl) (σ' : L2.St) (H' : Hp) (S' : Addr → Prop) (A' : Nat → List Addr) : Prop := match fl with
  | .nx => D.nx σ' H'
  | .bk => D.bk σ' H'
  | .ct => D.ct σ' H'
  | .rt t => ∀ x Ax, Rp g S' H' t x Ax → Ow [] H A S' A' Ax → D.rt x H'
def TSm (g : Gc) (f : M Fl) (asg eff : List Nat) : TS := fun D σ H => ∃ S Ts A fl Ts', SR g S H σ Ts A ∧ f Ts = some (fl, Ts') ∧
  ∀ σ' H' S' A', (∀ i, i ∉ asg → σ'[i]? = σ[i]?) → SR g S' H' σ' Ts' A' → Po S H A S' H' A' → Stb eff H Ts A H' Ts' A' → FlE g D H A fl σ' H' S' A'
def PSm (g : Gc) (X : Cx) (st : Stmt) (f : M Fl) (asg eff : List Nat) : Prop := PS X st (TSm g f asg eff)
def PSsm (g : Gc) (X : Cx) (st : List Stmt) (f : M Fl) (asg eff : List Nat) : Prop := PSs X st (TSm g f asg eff)
def mSeq (f1 f2 : M Fl) : M Fl := bnd f1 fun fl => match fl with
  | .nx => f2
  | o => ret o
section
variable {g : Gc} {X : Cx} {st : Stmt} {rest : List Stmt} {f1 f2 : M Fl} {a1 a2 e1 e2 e3 b1 b2 : List Nat} {pos : Pos} {fa fb : M T} {e : Expr}
theorem FlE.rebase {D : Ends} {S S1 : Addr → Prop} {H H1 : Hp} {A A1 : Nat → List Addr} {fl : Fl} {σ' : L2.St} {H' : Hp} {S' : Addr → Prop} {A' : Nat → List Addr} (p : Po S H A S1 H1 A1) (h : FlE g D H A fl σ' H' S' A') : FlE g D H1 A1 fl σ' H' S' A' := by
  cases fl with
  | rt t => exact fun x Ax r o => h x Ax r (o.rebase p)
  | nx => exact h
  | bk => exact h
  | ct => exact h
theorem ts_seq (D : Ends) (σ : L2.St) (H : Hp) (h : TSm g (mSeq f1 f2) (a1 ++ a2) (e1 ++ e2) D σ H) : tSeq (TSm g f1 a1 e1) (TSm g f2 a2 e2) D σ H := by
  obtain ⟨S, Ts, A, fl, Ts', R, e, k⟩ := h
  obtain ⟨fl1, Ts1, q1, q2⟩ := bnd_some e
  refine ⟨S, Ts, A, fl1, Ts1, R, q1, fun σ1 H1 S1 A1 hσ R1 p1 s1 => ?_⟩
  have same : ∀ o : Fl, fl1 = o → o ≠ .nx → FlE g D H A o σ1 H1 S1 A1 := fun o eo hn => by
    subst eo
    have q3 : some (fl1, Ts1) = some (fl, Ts') := by cases fl1 <;> first | exact absurd rfl hn | exact q2
    injection q3 with q3
    injection q3 with h1 h2
    subst h1; subst h2
    exact k σ1 H1 S1 A1 (fun i hi => hσ i fun z => hi (List.mem_append_left _ z)) R1 p1 (s1.mono fun j hj => List.mem_append_left _ hj)
  cases fl1 with
  | nx =>
    refine ⟨S1, Ts1, A1, fl, Ts', R1, q2, fun σ2 H2 S2 A2 hσ2 R2 p2 s2 => ?_⟩
    exact (k σ2 H2 S2 A2 (fun i hi => (hσ2 i fun z => hi (List.mem_append_right _ z)).trans (hσ i fun z => hi (List.mem_append_left _ z))) R2 (p1.trans R p2) (s1.trans s2)).rebase p1
  | rt t => exact same _ rfl (fun z => nomatch z)
  | bk => exact same _ rfl (fun z => nomatch z)
  | ct => exact same _ rfl (fun z => nomatch z)
theorem tss_cons (h1 : PSm g X st f1 a1 e1) (h2 : PSsm g X rest f2 a2 e2) : PSsm g X (st :: rest) (mSeq f1 f2) (a1 ++ a2) (e1 ++ e2) := PSs.imp (pss_cons h1 h2) ts_seq
theorem tss_one (h1 : PSm g X st f1 a1 e1) : PSsm g X [st] f1 a1 e1 := pss_one h1
theorem tss_nil : PSsm g X [] (ret .nx) [] [] := PSs.imp pss_nil fun D σ H ⟨S, Ts, A, fl, Ts', R, e, k⟩ => by
  have e : some (Fl.nx, Ts) = some (fl, Ts') := e
  injection e with e
  injection e with h1 h2
  subst h1; subst h2
  exact k σ H S A (fun _ _ => rfl) R Po.refl Stb.refl
def mRet (fa : M T) : M Fl := bnd fa fun t => ret (.rt t)
theorem ts_ret (he : PEm g X e fa e1 []) : PSm g X (.Return (some e) pos) (mRet fa) [] e1 := PS.imp (ps_ret he) fun D σ H ⟨S, Ts, A, fl, Ts', R, q, k⟩ => by
  obtain ⟨t, Ts1, q1, q2⟩ := bnd_some q
  have q3 : some (Fl.rt t, Ts1) = some (fl, Ts') := q2
  injection q3 with q3
  injection q3 with h1 h2
  subst h1; subst h2
  exact ⟨S, Ts, A, t, Ts1, R, q1, fun x H' S' A' Ax R' rx o p s => k σ H' S' A' (fun _ _ => rfl) R' p s x Ax rx o⟩
def mDrop (fa : M T) : M Fl := bnd fa fun _ => ret .nx
theorem ts_expr (he : PEm g X e fa e1 b1) (hs : swapsWith e none pos.line X.env = pure false := by rfl) : PSm g X (.Expr e pos) (mDrop fa) [] e1 := PS.imp (ps_expr he hs) fun D σ H ⟨S, Ts, A, fl, Ts', R, q, k⟩ => by
  obtain ⟨t, Ts1, q1, q2⟩ := bnd_some q
  have q3 : some (Fl.nx, Ts1) = some (fl, Ts') := q2
  injection q3 with q3
  injection q3 with h1 h2
  subst h1; subst h2
  exact ⟨S, Ts, A, t, Ts1, R, q1, fun x H' S' A' Ax R' rx o p s => k σ H' S' A' (fun _ _ => rfl) R' p s⟩
def mIfS (c : M Bool) (f1 f2 : M Fl) : M Fl := bnd c fun b => if b then f1 else f2
theorem ts_if {c : Expr} {fc : M Bool} {s1 s2 : List Stmt} (hc : PTm g X c fc e1) (h1 : PSsm g X s1 f1 a1 e2) (h2 : PSsm g X s2 f2 a2 e3) : PSm g X (.If c s1 s2 pos) (mIfS fc f1 f2) (a1 ++ a2) (e1 ++ (e2 ++ e3)) :=
  PS.imp (ps_if hc h1 h2) fun D σ H ⟨S, Ts, A, fl, Ts', R, q, k⟩ => by
    obtain ⟨b, Ts1, q1, q2⟩ := bnd_some q
    refine ⟨S, Ts, A, b, Ts1, R, q1, fun H1 S1 A1 R1 p1 s1 => ?_⟩
    have go : ∀ (f : M Fl) (ag ef : List Nat), (∀ j ∈ ef, j ∈ e2 ++ e3) → (∀ j ∈ ag, j ∈ a1 ++ a2) → f Ts1 = some (fl, Ts') → TSm g f ag ef D σ H1 := fun f ag ef hef hag eq =>
      ⟨S1, Ts1, A1, fl, Ts', R1, eq, fun σ2 H2 S2 A2 hσ R2 p s => (k σ2 H2 S2 A2 (fun i hi => hσ i fun z => hi (hag i z)) R2 (p1.trans R p) ((s1.trans s).mono fun j hj => (List.mem_append.mp hj).elim (List.mem_append_left _) fun z => List.mem_append_right _ (hef j z))).rebase p1⟩
    cases b with
    | true => exact iteT (go f1 a1 e2 (fun j => List.mem_append_left _) (fun j => List.mem_append_left _) q2)
    | false => exact iteF (go f2 a2 e3 (fun j => List.mem_append_right _) (fun j => List.mem_append_right _) q2)
def TGm (g : Gc) (m : T → M Unit) (asg : List Nat) : TG := fun v σ H Q => ∃ S Ts A t Av Ts', SR g S H σ Ts A ∧ Rp g S H t v Av ∧ Av.Nodup ∧ (∀ a ∈ Av, ¬ S a ∧ ∀ i, a ∉ A i) ∧ m t Ts = some ((), Ts') ∧
  ∀ σ' A', (σ'.length = σ.length ∧ ∀ i, i ∉ asg → σ'[i]? = σ[i]?) → SR g S H σ' Ts' A' → (∀ i, ∀ a ∈ A' i, (∃ j, a ∈ A j) ∨ a ∈ Av) → (∀ j, j ∉ asg → slot Ts' j = slot Ts j ∧ A' j = A j) → Q σ' H
def TGsm (g : Gc) (m : List T → M Unit) (asg : List Nat) : TGs := fun vs σ H Q => ∃ S Ts A ts Av Ts', SR g S H σ Ts A ∧ RpL g S H ts vs Av ∧ Av.Nodup ∧ (∀ a ∈ Av, ¬ S a ∧ ∀ i, a ∉ A i) ∧ m ts Ts = some ((), Ts') ∧
  ∀ σ' A', (σ'.length = σ.length ∧ ∀ i, i ∉ asg → σ'[i]? = σ[i]?) → SR g S H σ' Ts' A' → (∀ i, ∀ a ∈ A' i, (∃ j, a ∈ A j) ∨ a ∈ Av) → (∀ j, j ∉ asg → slot Ts' j = slot Ts j ∧ A' j = A j) → Q σ' H
def PGm (g : Gc) (X : Cx) (tg : Expr) (m : T → M Unit) (asg : List Nat) : Prop := PG X tg (TGm g m asg)
def PGsm (g : Gc) (X : Cx) (tg : List Expr) (m : List T → M Unit) (asg : List Nat) : Prop := PGs X tg (TGsm g m asg)
theorem PG.imp {X : Cx} {tg : Expr} {t t' : TG} (h : PG X tg t) (i : ∀ v σ H Q, t' v σ H Q → t v σ H Q) : PG X tg t' := ⟨fun pins s σ H v u Q I r q => h.run pins s σ H v u Q I r (i v σ H Q q)⟩
theorem PGs.imp {X : Cx} {tg : List Expr} {t t' : TGs} (h : PGs X tg t) (i : ∀ v σ H Q, t' v σ H Q → t v σ H Q) : PGs X tg t' := ⟨fun pins s σ H v u Q I r q => h.run pins s σ H v u Q I r (i v σ H Q q)⟩
def mPut (i : Nat) (t : T) : M Unit := fun Ts => if i < Ts.length then some ((), Ts.set i t) else none
theorem SR.put {S : Addr → Prop} {H : Hp} {σ : L2.St} {Ts : List T} {A : Nat → List Addr} {i : Nat} {t : T} {v : V} {Av : List Addr} (R : SR g S H σ Ts A) (hi : i < Ts.length) (r : Rp g S H t v Av) (nd : Av.Nodup) (dj : ∀ a ∈ Av, ¬ S a ∧ ∀ i, a ∉ A i) :
    SR g S H (σ.set i (some v)) (Ts.set i t) (fun j => if j = i then Av else A j) where
  rep := fun j => by
    by_cases hj : j = i
    · subst hj
      rw [if_pos rfl]
      refine .inr ⟨v, ?_, ?_⟩
      · rw [List.getD_eq_getElem?_getD, List.getElem?_set_self (by rw [← R.len]; exact hi)]; rfl
      · unfold slot
        rw [List.getD_eq_getElem?_getD, List.getElem?_set_self hi]
        exact r
    · rw [if_neg hj]
      have h := R.rep j
      unfold slot at h ⊢
      rw [List.getD_eq_getElem?_getD, List.getD_eq_getElem?_getD] at h ⊢
      rw [List.getElem?_set_ne (Ne.symm hj), List.getElem?_set_ne (Ne.symm hj)]
      exact h
  nd := fun j => by
    split
    · exact nd
    · exact R.nd j
  dj := fun j k hjk a ha => by
    split at ha
    · rename_i h1
      split
      · rename_i h2
        exact absurd (h1.trans h2.symm) hjk
      · exact (dj a ha).2 k
    · split
      · exact fun z => (dj a z).2 j ha
      · exact R.dj j k hjk a ha
  ns := fun j a ha => by
    split at ha
    · exact (dj a ha).1
    · exact R.ns j a ha
  len := by rw [List.length_set, List.length_set]; exact R.len
  st := R.st
theorem slot_set_ne {Ts : List T} {i j : Nat} {t : T} (h : j ≠ i) : slot (Ts.set i t) j = slot Ts j := by
  unfold slot
  rw [List.getD_eq_getElem?_getD, List.getD_eq_getElem?_getD, List.getElem?_set_ne (Ne.symm h)]
theorem slot_set_eq {Ts : List T} {i : Nat} {t : T} (h : i < Ts.length) : slot (Ts.set i t) i = t := by
  unfold slot
  rw [List.getD_eq_getElem?_getD, List.getElem?_set_self h]; rfl
theorem tg_name {i : Nat} {tg : Expr} (h : PG X tg (gName i)) : PGm g X tg (mPut i) [i] := PG.imp h fun v σ H Q ⟨S, Ts, A, t, Av, Ts', R, r, nd, dj, q, k⟩ => by
  unfold mPut at q
  split at q
  · rename_i hi
    injection q with q
    injection q with _ q
    subst q
    refine k _ _ ⟨List.length_set .., fun j hj => ?_⟩ (R.put hi r nd dj) (fun j a ha => ?_) fun j hj => ?_
    · rw [List.getElem?_set_ne]
      exact fun z => hj (by rw [z]; exact List.mem_singleton.mpr rfl)
    · split at ha
      · exact .inr ha
      · exact .inl ⟨j, ha⟩
    · have hj : j ≠ i := fun z => hj (by rw [z]; exact List.mem_singleton.mpr rfl)
      exact ⟨slot_set_ne hj, if_neg hj⟩
  · cases q
def mGnil (ts : List T) : M Unit := match ts with
  | [] => ret ()
  | _ => fun _ => none
def mGcons (m : T → M Unit) (ms : List T → M Unit) (ts : List T) : M Unit := match ts with
  | t :: ts => bnd (m t) fun _ => ms ts
  | [] => fun _ => none
theorem tgs_nil : PGsm g X [] mGnil [] := PGs.imp pgs_nil fun v σ H Q ⟨S, Ts, A, ts, Av, Ts', R, r, nd, dj, q, k⟩ => by
  cases ts with
  | nil =>
    have q : some ((), Ts) = some ((), Ts') := q
    injection q with q
    injection q with _ q
    subst q
    exact ⟨r.1, k σ A ⟨rfl, fun _ _ => rfl⟩ R (fun i a h => .inl ⟨i, h⟩) fun j _ => ⟨rfl, rfl⟩⟩
  | cons t ts => cases q
theorem tgs_cons {tg : Expr} {tgs : List Expr} {m : T → M Unit} {ms : List T → M Unit} (h1 : PGm g X tg m a1) (h2 : PGsm g X tgs ms a2) (hs : (assignEach (tg :: tgs) X.env).map (·.2) = assign tg X.env :: (assignEach tgs X.env).map (·.2) := by rfl) : PGsm g X (tg :: tgs) (mGcons m ms) (a1 ++ a2) :=
  PGs.imp (pgs_cons h1 h2 hs) fun vs σ H Q ⟨S, Ts, A, ts, Av, Ts', R, r, nd, dj, q, k⟩ => by
    cases ts with
    | nil => cases q
    | cons t ts =>
      obtain ⟨_, Ts1, q1, q2⟩ := bnd_some q
      obtain ⟨y, ys, A1, A2, e1, e2, r1, r2⟩ := r
      subst e2
      obtain ⟨nd1, nd2, nd3⟩ := List.nodup_append.mp nd
      refine ⟨y, ys, e1, S, Ts, A, t, A1, Ts1, R, r1, nd1, fun a ha => dj a (List.mem_append_left _ ha), q1, fun σ1 B1 hσ1 R1 n1 s1 => ?_⟩
      refine ⟨S, Ts1, B1, ts, A2, Ts', R1, r2, nd2, fun a ha => ⟨(dj a (List.mem_append_right _ ha)).1, fun i hi => ?_⟩, q2, fun σ2 B2 hσ2 R2 n2 s2 => ?_⟩
      · rcases n1 i a hi with ⟨j, hj⟩ | h
        · exact (dj a (List.mem_append_right _ ha)).2 j hj
        · exact nd3 a h a ha rfl
      · refine k σ2 B2 ⟨hσ2.1.trans hσ1.1, fun i hi => (hσ2.2 i fun z => hi (List.mem_append_right _ z)).trans (hσ1.2 i fun z => hi (List.mem_append_left _ z))⟩ R2 (fun i a ha => ?_) fun j hj => ?_
        · rcases n2 i a ha with ⟨j, hj⟩ | h
          · rcases n1 j a hj with h | h
            · exact .inl h
            · exact .inr (List.mem_append_left _ h)
          · exact .inr (List.mem_append_right _ h)
        · obtain ⟨x1, x2⟩ := s1 j fun z => hj (List.mem_append_left _ z)
          obtain ⟨y1, y2⟩ := s2 j fun z => hj (List.mem_append_right _ z)
          exact ⟨y1.trans x1, y2.trans x2⟩
def mUnT (n : Nat) (ms : List T → M Unit) (t : T) : M Unit := match t with
  | .nd .tup ts => if ts.length = n then ms ts else fun _ => none
  | _ => fun _ => none
def mUnL (n : Nat) (ms : List T → M Unit) (t : T) : M Unit := match t with
  | .nd (.lst _) ts => if ts.length = n then ms ts else fun _ => none
  | _ => fun _ => none
theorem tg_tup {tgs : List Expr} {ms : List T → M Unit} {n k : Nat} (hK : g.K = X.K) (hc : X.calm = true) (h : PGsm g X tgs ms a1) (hn : (assignEach tgs X.env).length = n := by rfl) (hst : (assignEach tgs X.env).findIdx? (·.1) = none := by rfl) : PGm g X (.Tuple tgs k pos) (mUnT n ms) a1 :=
  PG.imp (pg_tup hc h hn hst) fun v σ H Q ⟨S, Ts, A, t, Av, Ts', R, r, nd, dj, q, k⟩ => by
    unfold mUnT at q
    split at q
    · split at q
      · rename_i hl
        obtain ⟨a, xs, B, e, at_, eA, c, rl⟩ := r
        have eA : Av = B := eA
        subst eA
        exact ⟨a, xs, e, hK ▸ At.sqT at_, by rw [← hl, RpL.length _ _ _ rl], S, Ts, A, _, Av, Ts', R, rl, nd, dj, q, k⟩
      · cases q
    · cases q
theorem tg_unl {tgs : List Expr} {ms : List T → M Unit} {n k : Nat} (hK : g.K = X.K) (hc : X.calm = true) (h : PGsm g X tgs ms a1) (hn : (assignEach tgs X.env).length = n := by rfl) (hst : (assignEach tgs X.env).findIdx? (·.1) = none := by rfl) : PGm g X (.Tuple tgs k pos) (mUnL n ms) a1 :=
  PG.imp (pg_unl hc h hn hst) fun v σ H Q ⟨S, Ts, A, t, Av, Ts', R, r, nd, dj, q, k⟩ => by
    unfold mUnL at q
    split at q
    · rename_i o ts
      split at q
      · rename_i hl
        obtain ⟨a, xs, B, e, at_, eA, c, rl⟩ := r
        have sq : SqL X.K H a xs := hK ▸ at_.sqL
        have sub : B.Sublist Av := by
          rw [eA]
          split
          · exact List.sublist_cons_self _ _
          · exact List.Sublist.refl _
        refine ⟨a, xs, e, sq, by rw [← hl, RpL.length _ _ _ rl], S, Ts, A, _, B, Ts', R, rl, nd.sublist sub, fun b hb => dj b (sub.subset hb), q, fun σ' A' h1 h2 h3 h4 => k σ' A' h1 h2 (fun i b hb => ?_) h4⟩
        rcases h3 i b hb with h | h
        · exact .inl h
        · exact .inr (sub.subset h)
      · cases q
    · cases q
def mAsg (fa : M T) (m : T → M Unit) : M Fl := bnd fa fun t => bnd (m t) fun _ => ret .nx
theorem asg_r {m : T → M Unit} (D : Ends) (σ : L2.St) (H : Hp) (h : TSm g (mAsg fa m) a1 (e1 ++ a1) D σ H) : tAsg (TM g fa e1 []) (TGm g m a1) D σ H := by
  obtain ⟨S, Ts, A, fl, Ts', R, q, k⟩ := h
  obtain ⟨t, Ts1, q1, q2⟩ := bnd_some q
  obtain ⟨_, Ts2, q3, q4⟩ := bnd_some q2
  have q5 : some (Fl.nx, Ts2) = some (fl, Ts') := q4
  injection q5 with q5
  injection q5 with h1 h2
  subst h1; subst h2
  refine ⟨S, Ts, A, t, Ts1, R, q1, fun x H1 S1 A1 Ax R1 rx o p s => ⟨S1, Ts1, A1, t, Ax, Ts2, R1, rx, o.nd rfl, fun a ha => ⟨o.ns a ha, fun i => o.dj i (fun z => nomatch z) a ha⟩, q3, fun σ' A' hσ R' n s' => ?_⟩⟩
  refine k σ' H1 S1 A' hσ.2 R' ⟨p.keep, p.sub, p.snew, fun i a ha => ?_⟩ fun j hj => ?_
  · rcases n i a ha with ⟨j, hj⟩ | h
    · exact p.anew j a hj
    · exact o.new a h
  · obtain ⟨x1, x2, x3⟩ := s j fun z => hj (List.mem_append_left _ z)
    obtain ⟨y1, y2⟩ := s' j fun z => hj (List.mem_append_right _ z)
    exact ⟨y1.trans x1, y2.trans x2, x3⟩
theorem ts_asg {tg : Expr} {m : T → M Unit} (he : PEm g X e fa e1 []) (hg : PGm g X tg m a1) (hs : swapsWithSole [tg] e pos.line X.env = pure false := by rfl) (hw : swappedStores [tg] e X.env = pure none := by rfl)
    (h1 : (assignEach [tg] X.env).map (·.2) = [assign tg X.env] := by rfl) : PSm g X (.Assign [tg] e pos) (mAsg fa m) a1 (e1 ++ a1) := PS.imp (ps_asg he hg hs hw h1) asg_r
def mSet (i : Nat) (fa : M T) : M Fl := mAsg fa (mPut i)
theorem TM.mono {bo : List Nat} {σ : L2.St} {H : Hp} {Q Q' : VK} (h : TM g fa e1 bo σ H Q) (k : ∀ x H', Q x H' → Q' x H') : TM g fa e1 bo σ H Q' := by
  obtain ⟨S, Ts, A, t, Ts', R, e, w⟩ := h
  exact ⟨S, Ts, A, t, Ts', R, e, fun x H' S' A' Ax a b c d f => k x H' (w x H' S' A' Ax a b c d f)⟩
def mPar (i j : Nat) (fs : M (List T)) : M Fl := bnd fs fun ts => bnd (mGcons (mPut i) (mGcons (mPut j) mGnil) ts) fun _ => ret .nx
end
end MI
namespace MI
open PySem PySem.Spec PyProof.Rows L2
structure PoF (S : Addr → Prop) (H : Hp) (A : List Addr) (S' : Addr → Prop) (H' : Hp) (B : List Addr) : Prop where
  keep : ∀ a o, H a = some o → a ∉ A → fixO H' a o
  sub : ∀ a, S a → S' a
  snew : ∀ a, S' a → S a ∨ a ∈ A ∨ noT (H a) = none
  anew : ∀ a ∈ B, a ∈ A ∨ noT (H a) = none
abbrev Cal := List T → Option (T × List T)
def spT (g : Gc) (io : List Nat) (c : Cal) : Sp := fun vs H Q _ => ∃ (S : Addr → Prop) (ts : List T) (A : List Addr) (r : T) (outs : List T),
  RpL g S H ts vs A ∧ A.Nodup ∧ (∀ a ∈ A, ¬ S a) ∧ StT g S H ∧ c ts = some (r, outs) ∧
  ∀ x H' S' Ar Ao, Rp g S' H' r x Ar → RpL g S' H' outs (io.map fun i => vs.getD i .non) Ao → (Ao ++ Ar).Nodup → (∀ a ∈ Ao ++ Ar, ¬ S' a) → StT g S' H' → PoF S H A S' H' (Ao ++ Ar) → Q x H'
def runB (np n : Nat) (io : List Nat) (f : M Fl) : Cal := fun ts => if ts.length = np then (match f (ts ++ List.replicate (n - np) .dead) with
  | some (.rt r, Ts') => some (r, io.map (slot Ts'))
  | some (.nx, Ts') => some (.non, io.map (slot Ts'))
  | _ => none) else none
section
variable {g : Gc} {S S1 S2 : Addr → Prop} {H H1 H2 : Hp} {σ : L2.St}
theorem RpL.slots : ∀ (ts : List T) (vs : List V) (A : List Addr), RpL g S H ts vs A → A.Nodup → ∃ A0 : Nat → List Addr, (∀ i, (slot ts i = .dead ∧ A0 i = []) ∨ ∃ x, vs[i]? = some x ∧ Rp g S H (slot ts i) x (A0 i)) ∧ (∀ i, (A0 i).Nodup) ∧ (∀ i j, i ≠ j → ∀ a ∈ A0 i, a ∉ A0 j) ∧ (∀ i, ∀ a ∈ A0 i, a ∈ A)
  | [], _, _, _, _ => ⟨fun _ => [], fun i => .inl ⟨by unfold slot; simp, rfl⟩, fun _ => List.nodup_nil, (fun _ _ _ _ h => nomatch h), fun _ _ h => nomatch h⟩
  | t :: ts, vs, A, h, nd => by
    obtain ⟨y, ys, A1, A2, e1, e2, r1, r2⟩ := h
    subst e2
    obtain ⟨nd1, nd2, nd3⟩ := List.nodup_append.mp nd
    obtain ⟨A0, h1, h2, h3, h4⟩ := RpL.slots ts ys A2 r2 nd2
    refine ⟨fun i => match i with | 0 => A1 | i + 1 => A0 i, fun i => ?_, fun i => ?_, fun i j hij a ha => ?_, fun i a ha => ?_⟩
    · cases i with
      | zero => exact .inr ⟨y, by rw [e1]; rfl, r1⟩
      | succ i =>
        rcases h1 i with ⟨q1, q2⟩ | ⟨x, q1, q2⟩
        · exact .inl ⟨q1, q2⟩
        · exact .inr ⟨x, by rw [e1]; simpa using q1, q2⟩
    · cases i with
      | zero => exact nd1
      | succ i => exact h2 i
    · cases i with
      | zero =>
        cases j with
        | zero => exact absurd rfl hij
        | succ j => exact fun z => nd3 a ha a (h4 j a z) rfl
      | succ i =>
        cases j with
        | zero => exact fun z => nd3 a z a (h4 i a ha) rfl
        | succ j => exact h3 i j (fun z => hij (by rw [z])) a ha
    · cases i with
      | zero => exact List.mem_append_left _ ha
      | succ i => exact List.mem_append_right _ (h4 i a ha)
theorem slot_app {ts : List T} {n i : Nat} : slot (ts ++ List.replicate n .dead) i = slot ts i := by
  unfold slot
  rw [List.getD_eq_getElem?_getD, List.getD_eq_getElem?_getD, List.getElem?_append]
  split
  · rfl
  · rename_i h
    rw [List.getElem?_replicate]
    have e : ts[i]? = none := List.getElem?_eq_none_iff.mpr (by omega)
    rw [e]
    split <;> rfl
theorem SR.start {N : List Str} {ts : List T} {vs : List V} {A : List Addr} (r : RpL g S H ts vs A) (nd : A.Nodup) (ns : ∀ a ∈ A, ¬ S a) (st : StT g S H) :
    ∃ A0, SR g S H (start N vs) (ts ++ List.replicate (N.length - ts.length) .dead) A0 ∧ ∀ i, ∀ a ∈ A0 i, a ∈ A := by
  obtain ⟨A0, h1, h2, h3, h4⟩ := RpL.slots ts vs A r nd
  have hl := RpL.length _ _ _ r
  refine ⟨A0, ⟨fun i => ?_, h2, h3, fun i a ha => ns a (h4 i a ha), ?_, st⟩, h4⟩
  · rw [slot_app]
    rcases h1 i with h | ⟨x, q1, q2⟩
    · exact .inl h
    · refine .inr ⟨x, ?_, q2⟩
      unfold L2.start
      have hi : i < vs.length := (List.getElem?_eq_some_iff.mp q1).1
      rw [List.getD_eq_getElem?_getD, List.getElem?_append_left (by simpa using hi), List.getElem?_map, q1]; rfl
  · unfold L2.start
    rw [List.length_append, List.length_append, List.length_map, List.length_replicate, List.length_replicate, hl]
theorem RpL.outs {Ts' : List T} {A' : Nat → List Addr} {σ' : L2.St} (R : SR g S H σ' Ts' A') : ∀ (io : List Nat) (vs : List V), io.Nodup → (∀ i ∈ io, σ'[i]? = some (some (vs.getD i .non))) →
    ∃ Ao, RpL g S H (io.map (slot Ts')) (io.map fun i => vs.getD i .non) Ao ∧ Ao.Nodup ∧ (∀ a ∈ Ao, ∃ i ∈ io, a ∈ A' i)
  | [], _, _, _ => ⟨[], ⟨rfl, rfl⟩, List.nodup_nil, fun _ h => nomatch h⟩
  | i :: io, vs, nd, h => by
    obtain ⟨n1, n2⟩ := List.nodup_cons.mp nd
    obtain ⟨Ao, r, nd', hm⟩ := RpL.outs R io vs n2 fun j hj => h j (List.mem_cons_of_mem _ hj)
    have hi := h i List.mem_cons_self
    have r1 : Rp g S H (slot Ts' i) (vs.getD i .non) (A' i) := by
      rcases R.rep i with ⟨e1, e2⟩ | ⟨x, e1, e2⟩
      · rw [e1, e2]; exact rfl
      · rw [List.getD_eq_getElem?_getD, hi] at e1
        have e1 : some (vs.getD i .non) = some x := e1
        injection e1 with e1
        rw [e1]; exact e2
    refine ⟨A' i ++ Ao, ⟨_, _, A' i, Ao, rfl, rfl, r1, r⟩, List.nodup_append.mpr ⟨R.nd i, nd', fun a ha b hb e => ?_⟩, fun a ha => ?_⟩
    · subst e
      obtain ⟨j, hj, hA⟩ := hm a hb
      exact R.dj i j (by rintro rfl; exact n1 hj) a ha hA
    · rcases List.mem_append.mp ha with h | h
      · exact ⟨i, List.mem_cons_self, h⟩
      · obtain ⟨j, hj, hA⟩ := hm a h
        exact ⟨j, List.mem_cons_of_mem _ hj, hA⟩
end
def RpC (g : Gc) (S : Addr → Prop) (H : Hp) (σ : L2.St) : List (Option Nat) → List T → List V → List Addr → List Addr → Prop
  | [], ts, xs, Al, Ab => ts = [] ∧ xs = [] ∧ Al = [] ∧ Ab = []
  | none :: ln, ts, xs, Al, Ab => ∃ t ts' x xs' B Ab', ts = t :: ts' ∧ xs = x :: xs' ∧ Ab = B ++ Ab' ∧ Rp g S H t x B ∧ RpC g S H σ ln ts' xs' Al Ab'
  | some s :: ln, ts, xs, Al, Ab => ∃ t ts' x xs' B Al', ts = t :: ts' ∧ xs = x :: xs' ∧ Al = B ++ Al' ∧ Rp g S H t x B ∧ σ[s]? = some (some x) ∧ RpC g S H σ ln ts' xs' Al' Ab
def TMc (g : Gc) (f : M (List T)) (eff bo : List Nat) (ln : List (Option Nat)) : TA := fun σ H Q => ∃ S Ts A ts Ts', SR g S H σ Ts A ∧ f Ts = some (ts, Ts') ∧
  ∀ xs H' S' A' Al Ab, SR g S' H' σ Ts' A' → RpC g S' H' σ ln ts xs Al Ab → Ow [] H A S' A' Al → Ow bo H A S' A' Ab → (∀ a ∈ Al, a ∉ Ab) → Po S H A S' H' A' → Stb eff H Ts A H' Ts' A' → Q xs H'
def PAc (g : Gc) (X : Cx) (es : List Expr) (f : M (List T)) (eff bo : List Nat) (ln : List (Option Nat)) : Prop := PA X es (TMc g f eff bo ln)
def mLn (s : Nat) : M T := fun Ts => match slot Ts s with
  | .dead => none
  | t => some (t, Ts.set s .dead)
def lentIx : Nat → List (Option Nat) → List Nat
  | _, [] => []
  | n, none :: ln => lentIx (n + 1) ln
  | n, some _ :: ln => n :: lentIx (n + 1) ln
def fzA : List (Option Nat) → List T → List T
  | none :: ln, t :: ts => t.fz :: fzA ln ts
  | some _ :: ln, t :: ts => t :: fzA ln ts
  | _, _ => []
def putO : List (Option Nat) → List T → M Unit
  | [], _ => ret ()
  | none :: ln, os => putO ln os
  | some s :: ln, o :: os => fun Ts => if s < Ts.length then putO ln os (Ts.set s o) else none
  | some _ :: _, [] => fun _ => none
section
variable {g : Gc} {X : Cx} {e : Expr} {es : List Expr} {fa : M T} {fs : M (List T)} {e1 e2 b1 b2 : List Nat} {ln : List (Option Nat)} {pos p2 : Pos}
theorem tmc_nil : PAc g X [] mNil [] [] [] :=
  PA.imp pa_nil fun σ H Q ⟨S, Ts, A, ts, Ts', R, q, k⟩ => by
    have q : some (([] : List T), Ts) = some (ts, Ts') := q
    injection q with q
    injection q with h1 h2
    subst h1; subst h2
    exact k [] H S A [] [] R ⟨rfl, rfl, rfl, rfl⟩ Ow.nil Ow.nil (fun _ h => nomatch h) Po.refl Stb.refl
theorem tmc_arg (ha : PEm g X e fa e1 b1) (hs : PAc g X es fs e2 b2 ln) (d : ∀ j ∈ b1, j ∉ e2 := by decide) (hst : starEach (e :: es) X.env = (false, eval e X.env) :: starEach es X.env := by rfl) : PAc g X (e :: es) (mCons fa fs) (e1 ++ e2) (b1 ++ b2) (none :: ln) :=
  PA.imp (pa_cons ha hs hst) fun σ H Q ⟨S, Ts, A, ts, Ts', R, q, k⟩ => by
    obtain ⟨ta, Ts1, ea, q1⟩ := bnd_some q
    obtain ⟨tb, Ts2, eb, q2⟩ := bnd_some q1
    have q3 : some (ta :: tb, Ts2) = some (ts, Ts') := q2
    injection q3 with q3
    injection q3 with h1 h2
    subst h1; subst h2
    refine ⟨S, Ts, A, ta, Ts1, R, ea, fun x H1 S1 A1 Ax R1 r1 o1 p1 s1 => ⟨S1, Ts1, A1, tb, Ts2, R1, eb, fun ys H2 S2 A2 Al Ab R2 r2 ol ob dj p2 s2 => ?_⟩⟩
    have hc := Rp.cells _ _ _ r1
    have o1' := o1.held R1 R2 hc p2 s2 d
    refine k (x :: ys) H2 S2 A2 Al (Ax ++ Ab) R2 ⟨ta, tb, x, ys, Ax, Ab, rfl, rfl, rfl, r1.held R1 o1 p2 s2 d, r2⟩ (ol.rebase p1) (Ow.app p1 hc o1 o1' ob) (fun a hl hx => ?_) (p1.trans R p2) (s1.trans s2)
    rcases List.mem_append.mp hx with hx | hx
    · rcases ol.new a hl with ⟨j, hj⟩ | hn
      · have hb : j ∈ b1 := Classical.byContradiction fun z => o1.dj j z a hx hj
        have e := (s2 j (d j hb)).2.1
        exact ol.dj j (fun z => nomatch z) a hl (by rw [e]; exact hj)
      · exact mut_ne (hc a hx) hn
    · exact dj a hl hx
theorem tmc_lend {s : Nat} (ha : PE X e (tVar s)) (hs : PAc g X es fs e2 b2 ln) (hst : starEach (e :: es) X.env = (false, eval e X.env) :: starEach es X.env := by rfl) : PAc g X (e :: es) (mCons (mLn s) fs) ([s] ++ e2) b2 (some s :: ln) :=
  PA.imp (pa_cons ha hs hst) fun σ H Q ⟨S, Ts, A, ts, Ts', R, q, k⟩ => by
    obtain ⟨ta, Ts1, ea, q1⟩ := bnd_some q
    obtain ⟨tb, Ts2, eb, q2⟩ := bnd_some q1
    have q3 : some (ta :: tb, Ts2) = some (ts, Ts') := q2
    injection q3 with q3
    injection q3 with h1 h2
    subst h1; subst h2
    have key : ∃ u, slot Ts s = u ∧ u ≠ .dead ∧ some (u, Ts.set s .dead) = some (ta, Ts1) := by
      unfold mLn at ea
      cases q : slot Ts s <;> rw [q] at ea <;> first | (cases ea; done) | exact ⟨_, rfl, (fun z => nomatch z), ea⟩
    obtain ⟨u, e1, n, e2'⟩ := key
    injection e2' with e2'
    injection e2' with h1 h2
    subst h1; subst h2
    obtain ⟨x, hx, rx⟩ := R.at e1 n
    obtain ⟨R1, p1, s1, o1⟩ := R.mv e1 n
    refine ⟨x, hx, S, Ts.set s .dead, _, tb, Ts2, R1, eb, fun ys H2 S2 A2 Al Ab R2 r2 ol ob dj p2 s2 => ?_⟩
    have hc := Rp.cells _ _ _ rx
    have o1' := o1.held R1 R2 hc p2 s2 (fun _ z => nomatch z)
    have ap := Ow.app p1 hc o1 o1' ol
    refine k (x :: ys) H2 S2 A2 (A s ++ Al) Ab R2 ⟨u, tb, x, ys, A s, Al, rfl, rfl, rfl, rx.held R1 o1 p2 s2 (fun _ z => nomatch z), hx, r2⟩ ap (ob.rebase p1) (fun a hl hx => ?_) (p1.trans R p2) (s1.trans s2)
    rcases List.mem_append.mp hl with hl | hl
    · rcases ob.new a hx with ⟨j, hj⟩ | hn
      · exact o1.dj j (fun z => nomatch z) a hl hj
      · exact mut_ne (hc a hl) hn
    · exact dj a hl hx
end
section
variable {g : Gc} {S S1 S2 : Addr → Prop} {H H1 H2 : Hp} {σ : L2.St}
theorem RpC.call : ∀ (ln : List (Option Nat)) (ts : List T) (xs : List V) (Al Ab : List Addr), RpC g S H σ ln ts xs Al Ab → (∀ a, S a → S2 a) → (∀ a ∈ Ab, S2 a) → RpL g S2 H (fzA ln ts) xs Al
  | [], _, _, _, _, h, _, _ => by obtain ⟨h1, h2, h3, h4⟩ := h; subst h1 h2 h3; exact ⟨rfl, rfl⟩
  | none :: ln, _, _, Al, _, h, hs, hb => by
    obtain ⟨t, ts', x, xs', B, Ab', e1, e2, e3, r, h⟩ := h
    subst e1 e2 e3
    exact ⟨x, xs', [], Al, rfl, rfl, Rp.fz hs t x B r fun a ha => hb a (List.mem_append_left _ ha), RpC.call ln ts' xs' Al Ab' h hs fun a ha => hb a (List.mem_append_right _ ha)⟩
  | some s :: ln, _, _, _, Ab, h, hs, hb => by
    obtain ⟨t, ts', x, xs', B, Al', e1, e2, e3, r, _, h⟩ := h
    subst e1 e2 e3
    exact ⟨x, xs', B, Al', rfl, rfl, Rp.keep (M := fun _ => False) (fun a o h _ => h) (fun _ h => h.elim) (fun _ _ h => h) hs t x B r (fun _ _ h => h), RpC.call ln ts' xs' Al' Ab h hs hb⟩
theorem RpC.bcells : ∀ (ln : List (Option Nat)) (ts : List T) (xs : List V) (Al Ab : List Addr), RpC g S H σ ln ts xs Al Ab → ∀ a ∈ Ab, ∃ o, H a = some o ∧ ∀ ps, o ≠ .tbl ps
  | [], _, _, _, _, h, a, ha => by rw [h.2.2.2] at ha; exact nomatch ha
  | none :: ln, _, _, Al, _, h, a, ha => by
    obtain ⟨t, ts', x, xs', B, Ab', e1, e2, e3, r, h⟩ := h
    rw [e3] at ha
    rcases List.mem_append.mp ha with ha | ha
    · have m := Rp.cells _ _ _ r a ha
      cases e : H a with
      | none => rw [e] at m; exact m.elim
      | some o => exact ⟨o, rfl, mut_tbl (by rw [e] at m; exact m)⟩
    · exact RpC.bcells ln ts' xs' Al Ab' h a ha
  | some s :: ln, _, _, _, Ab, h, a, ha => by
    obtain ⟨t, ts', x, xs', B, Al', e1, e2, e3, r, _, h⟩ := h
    exact RpC.bcells ln ts' xs' Al' Ab h a ha
theorem RpC.lent : ∀ (ln : List (Option Nat)) (ts : List T) (xs : List V) (Al Ab : List Addr) (n : Nat) (ys : List V), RpC g S H σ ln ts xs Al Ab → ys.length = n →
    ∃ zs : List V, (lentIx n ln).map (fun i => (ys ++ xs).getD i .non) = zs ∧ zs.length = (ln.filterMap id).length ∧ ∀ (k : Nat) (s : Nat), (ln.filterMap id)[k]? = some s → ∃ x, zs[k]? = some x ∧ σ[s]? = some (some x)
  | [], _, _, _, _, n, ys, h, _ => ⟨[], rfl, rfl, fun k s e => by simp at e⟩
  | none :: ln, _, _, Al, _, n, ys, h, hn => by
    obtain ⟨t, ts', x, xs', B, Ab', e1, e2, e3, r, h⟩ := h
    subst e2
    obtain ⟨zs, h1, h2, h3⟩ := RpC.lent ln ts' xs' Al Ab' (n + 1) (ys ++ [x]) h (by simp [hn])
    refine ⟨zs, ?_, h2, h3⟩
    rw [← h1]
    show (lentIx (n + 1) ln).map _ = _
    rw [show ys ++ [x] ++ xs' = ys ++ x :: xs' by simp]
  | some s :: ln, _, _, _, Ab, n, ys, h, hn => by
    obtain ⟨t, ts', x, xs', B, Al', e1, e2, e3, r, hs, h⟩ := h
    subst e2
    obtain ⟨zs, h1, h2, h3⟩ := RpC.lent ln ts' xs' Al' Ab (n + 1) (ys ++ [x]) h (by simp [hn])
    refine ⟨x :: zs, ?_, by simp [h2], fun k s' e => ?_⟩
    · show _ :: (lentIx (n + 1) ln).map _ = _
      rw [← h1]
      congr 1
      · show (ys ++ x :: xs').getD n V.non = x
        rw [List.getD_eq_getElem?_getD, List.getElem?_append_right (by omega), ← hn]; simp
      · rw [show ys ++ [x] ++ xs' = ys ++ x :: xs' by simp]
    · cases k with
      | zero =>
        have e : s = s' := by simpa using e
        subst e
        exact ⟨x, rfl, hs⟩
      | succ k =>
        obtain ⟨y, q1, q2⟩ := h3 k s' (by simpa using e)
        exact ⟨y, by simpa using q1, q2⟩
theorem SR.putO : ∀ (ln : List (Option Nat)) (outs : List T) (zs : List V) (Ao : List Addr) (Ts Ts' : List T) (A : Nat → List Addr), SR g S H σ Ts A → RpL g S H outs zs Ao → Ao.Nodup → (∀ a ∈ Ao, ¬ S a ∧ ∀ i, a ∉ A i) →
    (∀ (k : Nat) (s : Nat), (ln.filterMap id)[k]? = some s → ∃ x, zs[k]? = some x ∧ σ[s]? = some (some x)) → MI.putO ln outs Ts = some ((), Ts') →
    ∃ A', SR g S H σ Ts' A' ∧ (∀ i, ∀ a ∈ A' i, (∃ j, a ∈ A j) ∨ a ∈ Ao) ∧ (∀ j, j ∉ ln.filterMap id → slot Ts' j = slot Ts j ∧ A' j = A j)
  | [], outs, zs, Ao, Ts, Ts', A, R, r, nd, dj, hz, q => by
    have q : some ((), Ts) = some ((), Ts') := q
    injection q with q
    injection q with _ q
    subst q
    exact ⟨A, R, fun i a h => .inl ⟨i, h⟩, fun j _ => ⟨rfl, rfl⟩⟩
  | none :: ln, outs, zs, Ao, Ts, Ts', A, R, r, nd, dj, hz, q => SR.putO ln outs zs Ao Ts Ts' A R r nd dj hz q
  | some s :: ln, [], zs, Ao, Ts, Ts', A, R, r, nd, dj, hz, q => nomatch q
  | some s :: ln, o :: outs, zs, Ao, Ts, Ts', A, R, r, nd, dj, hz, q => by
    obtain ⟨y, ys, A1, A2, e1, e2, r1, r2⟩ := r
    subst e1; subst e2
    obtain ⟨nd1, nd2, nd3⟩ := List.nodup_append.mp nd
    have q : (if s < Ts.length then MI.putO ln outs (Ts.set s o) else none) = some ((), Ts') := q
    split at q
    · rename_i hs
      obtain ⟨x, z1, z2⟩ := hz 0 s (by simp)
      have z1 : y = x := by simpa using z1
      subst z1
      have eσ : σ.set s (some y) = σ := List.ext_getElem? fun j => by
        by_cases hj : s = j
        · subst hj
          rw [List.getElem?_set_self (by rw [← R.len]; exact hs), z2]
        · rw [List.getElem?_set_ne hj]
      have R1 := R.put hs r1 nd1 fun a ha => dj a (List.mem_append_left _ ha)
      rw [eσ] at R1
      obtain ⟨A', R', h1, h2⟩ := SR.putO ln outs ys A2 (Ts.set s o) Ts' _ R1 r2 nd2 (fun a ha => ⟨(dj a (List.mem_append_right _ ha)).1, fun i hi => by
        split at hi
        · exact nd3 a hi a ha rfl
        · exact (dj a (List.mem_append_right _ ha)).2 i hi⟩) (fun k s' e => by
          obtain ⟨x, w1, w2⟩ := hz (k + 1) s' (by simpa using e)
          exact ⟨x, by simpa using w1, w2⟩) q
      refine ⟨A', R', fun i a ha => ?_, fun j hj => ?_⟩
      · rcases h1 i a ha with ⟨j, hj⟩ | h
        · split at hj
          · exact .inr (List.mem_append_left _ hj)
          · exact .inl ⟨j, hj⟩
        · exact .inr (List.mem_append_right _ h)
      · have hj1 : j ≠ s := fun z => hj (by simp [z])
        have hj2 : j ∉ ln.filterMap id := fun z => hj (by simp only [List.filterMap_cons, id]; exact List.mem_cons_of_mem _ z)
        obtain ⟨w1, w2⟩ := h2 j hj2
        exact ⟨w1.trans (slot_set_ne hj1), w2.trans (if_neg hj1)⟩
    · cases q
end
def mCall (c : Cal) (ln : List (Option Nat)) (fs : M (List T)) : M T := bnd fs fun ts => bnd (lft (c (fzA ln ts))) fun p => bnd (putO ln p.2) fun _ => ret p.1
mutual
def T.nofz : T → Bool
  | .nd k ts => (k.isTup || k.own) && nofzL ts
  | _ => true
def nofzL : List T → Bool
  | [] => true
  | t :: ts => t.nofz && nofzL ts
end
def mCallP (c : Cal) (ln : List (Option Nat)) (fs : M (List T)) : M T := bnd fs fun ts => bnd (lft (c (fzA ln ts))) fun p => if p.1.nofz && nofzL p.2 then bnd (putO ln p.2) fun _ => ret p.1 else fun _ => none
section
variable {g : Gc} {S S1 S2 : Addr → Prop} {H H1 H2 : Hp} {σ : L2.St}
end
section
variable {g : Gc} {X : Cx} {e : Expr} {es : List Expr} {fa : M T} {fs : M (List T)} {e1 e2 b1 b2 : List Nat} {ln : List (Option Nat)} {pos p2 : Pos} {c : Cal} {io : List Nat}
theorem call_post {S S1 S' S2 : Addr → Prop} {H H1 H' : Hp} {σ : L2.St} {Ts Ts1 Ts2 : List T} {A A1 : Nat → List Addr} {Al Ab Ar Ao : List Addr} {r : T} {outs : List T} {x : V} {zs : List V} {Q : VK}
    (R : SR g S H σ Ts A) (R1 : SR g S1 H1 σ Ts1 A1) (hcl : ∀ a ∈ Al, Mut (H1 a)) (ol : Ow [] H A S1 A1 Al) (ob : Ow b1 H A S1 A1 Ab) (p : Po S H A S1 H1 A1) (s : Stb e1 H Ts A H1 Ts1 A1)
    (pf : PoF (fun a => S1 a ∨ a ∈ Ab) H1 Al S' H' (Ao ++ Ar)) (hS2 : ∀ a, S2 a → S' a) (hS1 : ∀ a, S1 a → S2 a) (hb : ∀ a, S2 a → a ∈ Ab → b1 = []) (rx : Rp g S2 H' r x Ar) (ro : RpL g S2 H' outs zs Ao) (nd : (Ao ++ Ar).Nodup) (ns : ∀ a ∈ Ao ++ Ar, ¬ S' a) (st : StT g S' H')
    (hz : ∀ (k : Nat) (s : Nat), (ln.filterMap id)[k]? = some s → ∃ x, zs[k]? = some x ∧ σ[s]? = some (some x)) (q : putO ln outs Ts1 = some ((), Ts2)) (hl : ∀ s ∈ ln.filterMap id, s ∈ e1)
    (k : ∀ x H' S' A' Ax, SR g S' H' σ Ts2 A' → Rp g S' H' r x Ax → Ow [] H A S' A' Ax → Po S H A S' H' A' → Stb e1 H Ts A H' Ts2 A' → Q x H') : Q x H' := by
  have njl : ∀ i, ∀ a ∈ A1 i, a ∉ Al := fun i a ha z => ol.dj i (fun z => nomatch z) a z ha
  have kpA : ∀ i, ∀ a ∈ A1 i, ∀ o, H1 a = some o → H' a = some o := fun i a ha o eo => fix_at (pf.keep a o eo (njl i a ha)) (mut_tbl (eo ▸ R1.cells i a ha))
  have ns1 : ∀ i, ∀ a ∈ A1 i, ¬ S2 a := fun i a ha z => by
    rcases pf.snew a (hS2 a z) with (h | h) | h | h
    · exact R1.ns i a ha h
    · have e := hb a z h
      exact ob.dj i (by rw [e]; exact fun z => nomatch z) a h ha
    · exact njl i a ha h
    · exact mut_ne (R1.cells i a ha) h
  have R2 : SR g S2 H' σ Ts1 A1 := ⟨fun i => by
      rcases R1.rep i with h | ⟨y, h1, h2⟩
      · exact .inl h
      · exact .inr ⟨y, h1, Rp.keepF (M := fun a => a ∈ Al) (fun a o eo n => pf.keep a o eo n) hcl (fun a h z => ol.ns a z h) hS1 _ _ _ h2 fun a ha => njl i a ha⟩,
    R1.nd, R1.dj, ns1, R1.len, ⟨fun a h => st.st a (hS2 a h), st.tb⟩⟩
  obtain ⟨ndo, ndr, ndd⟩ := List.nodup_append.mp nd
  have off : ∀ a ∈ Ao ++ Ar, ∀ i, a ∉ A1 i := fun a ha i hi => by
    rcases pf.anew a ha with h | h
    · exact njl i a hi h
    · exact mut_ne (R1.cells i a hi) h
  obtain ⟨A', R', h1, h2⟩ := R2.putO ln outs zs Ao Ts1 Ts2 A1 ro ndo (fun a ha => ⟨fun z => ns a (List.mem_append_left _ ha) (hS2 a z), off a (List.mem_append_left _ ha)⟩) hz q
  have back : ∀ a, noT (H1 a) = none → (∃ j, a ∈ A j) ∨ noT (H a) = none := fun a hn => by
    cases e : H a with
    | none => exact .inr rfl
    | some ob =>
      by_cases hj : ∃ j, a ∈ A j
      · exact .inl hj
      · exact .inr (e ▸ fix_back hn e (p.keep a ob e fun i hi => hj ⟨i, hi⟩))
  have nw : ∀ a ∈ Ao ++ Ar, (∃ j, a ∈ A j) ∨ noT (H a) = none := fun a ha => by
    rcases pf.anew a ha with h | h
    · exact ol.new a h
    · exact back a h
  refine k x H' S2 A' Ar R' rx ⟨fun a ha z => ns a (List.mem_append_right _ ha) (hS2 a z), fun i _ a ha hi => ?_, fun _ => ndr, fun a ha => nw a (List.mem_append_right _ ha)⟩ ⟨fun a o eo na => ?_, fun a h => hS1 a (p.sub a h), fun a h => ?_, fun i a ha => ?_⟩ fun j hj => ?_
  · rcases h1 i a hi with ⟨j, hj⟩ | h
    · exact off a (List.mem_append_right _ ha) j hj
    · exact ndd a h a ha rfl
  · refine fix_trans (p.keep a o eo na) fun eu nt => pf.keep a o eu fun z => ?_
    rcases ol.new a z with ⟨j, hj⟩ | h
    · exact na j hj
    · obtain ⟨ps, w⟩ := noT_at h eo
      exact nt ps w
  · rcases pf.snew a (hS2 a h) with (h | h) | h | h
    · exact p.snew a h
    · exact .inr (ob.new a h)
    · exact .inr (ol.new a h)
    · exact .inr (back a h)
  · rcases h1 i a ha with ⟨j, hj⟩ | h
    · exact p.anew j a hj
    · exact nw a (List.mem_append_left _ h)
  · obtain ⟨x1, x2, x3⟩ := s j hj
    obtain ⟨y1, y2⟩ := h2 j fun z => hj (hl j z)
    exact ⟨y1.trans x1, y2.trans x2, fun a ha o eo => kpA j a (by rw [x2]; exact ha) o (x3 a ha o eo)⟩
theorem call_r (hb : b1 = []) (hio : io = lentIx 0 ln) (hl : ∀ s ∈ ln.filterMap id, s ∈ e1) (σ : L2.St) (H : Hp) (Q : VK) (h : TM g (mCall c ln fs) e1 [] σ H Q) : tCall (spT g io c) [] E0 (TMc g fs e1 b1 ln) σ H Q := by
  obtain ⟨S, Ts, A, r, Ts', R, q, k⟩ := h
  obtain ⟨ts, Ts1, q1, q2⟩ := bnd_some q
  obtain ⟨⟨r', outs⟩, Ts1', q3, q4⟩ := bnd_some q2
  obtain ⟨q5, e5⟩ := lft_some q3
  subst e5
  obtain ⟨_, Ts2, q6, q7⟩ := bnd_some q4
  have q7 : some (r', Ts2) = some (r, Ts') := q7
  injection q7 with q7
  injection q7 with h1 h2
  subst h1; subst h2
  refine ⟨S, Ts, A, ts, Ts1', R, q1, fun xs H1 S1 A1 Al Ab R1 rc ol ob dj p s => ?_⟩
  have hcl : ∀ a ∈ Al, Mut (H1 a) := by
    have z := RpC.call (S2 := fun a => S1 a ∨ a ∈ Ab) ln ts xs Al Ab rc (fun _ h => .inl h) (fun _ h => .inr h)
    exact RpL.cells _ _ _ z
  have hob : ∀ a ∈ Ab, ∃ o, H1 a = some o ∧ ∀ ps, o ≠ .tbl ps := RpC.bcells ln ts xs Al Ab rc
  show spT g io c (xs ++ []) H1 Q E0
  rw [List.append_nil]
  refine ⟨fun a => S1 a ∨ a ∈ Ab, fzA ln ts, Al, r', outs, RpC.call ln ts xs Al Ab rc (fun _ h => .inl h) (fun _ h => .inr h), ol.nd rfl, fun a ha => ?_, ⟨fun a h => h.elim (R1.st.st a) (hob a), R1.tb⟩, q5, fun x H' S' Ar Ao rx ro nd ns st pf => ?_⟩
  · rintro (h | h)
    · exact ol.ns a ha h
    · exact dj a ha h
  · obtain ⟨zs, z1, z2, z3⟩ := RpC.lent ln ts xs Al Ab 0 [] rc rfl
    rw [List.nil_append] at z1
    rw [hio, z1] at ro
    exact call_post R R1 hcl ol ob p s pf (fun _ h => h) (fun a h => pf.sub a (.inl h)) (fun _ _ _ => hb) rx ro nd ns st z3 q6 hl k
end
end MI
namespace MI
open PySem PySem.Spec PyProof.Rows L2
def ItOk (g : Gc) (bo : List Nat) (H : Hp) (A : Nat → List Addr) (S1 : Addr → Prop) (H1 : Hp) (A1 : Nat → List Addr) (J : It) (items : List T) : Prop := ∃ (ts : List T) (xs : List V) (Ax : List Addr), RpL g S1 H1 ts xs Ax ∧ Ow bo H A S1 A1 Ax ∧
  Walk J items.length (fun H2 => ∃ S2, RpL g S2 H2 ts xs Ax) (fun i H2 x H3 => Ext H2 H3 ∧ ∀ S2, RpL g S2 H2 ts xs Ax → ∃ t, items[i]? = some t ∧ Rp g S2 H3 t x [])
def TIm (g : Gc) (mi : M (List T)) (eff bo : List Nat) : TI := fun σ H R => ∃ S Ts A items Ts', SR g S H σ Ts A ∧ mi Ts = some (items, Ts') ∧
  ∀ J H1 S1 A1, SR g S1 H1 σ Ts' A1 → ItOk g bo H A S1 H1 A1 J items → Po S H A S1 H1 A1 → Stb eff H Ts A H1 Ts' A1 → R J H1
def PIm (g : Gc) (X : Cx) (tg iter : Expr) (mi : M (List T)) (eff bo : List Nat) : Prop := PI X tg iter (TIm g mi eff bo)
theorem PI.imp {X : Cx} {tg e : Expr} {t t' : TI} (h : PI X tg e t) (i : ∀ σ H R, t' σ H R → t σ H R) : PI X tg e t' := ⟨fun pins s σ H R I q => h.run pins s σ H R I (i σ H R q)⟩
def loopM (m : T → M Unit) (f : M Fl) : List T → M Fl
  | [] => ret .nx
  | t :: ts => bnd (m t) fun _ => bnd f fun fl => match fl with
    | .rt r => ret (.rt r)
    | .bk => ret .nx
    | _ => loopM m f ts
def mFor (mi : M (List T)) (m : T → M Unit) (f : M Fl) : M Fl := bnd mi fun items => loopM m f items
section
variable {g : Gc} {S S1 S2 : Addr → Prop} {H H1 H2 : Hp} {A A1 A2 : Nat → List Addr} {σ σ2 : L2.St} {Ts Ts1 Ts2 : List T} {eff bo : List Nat} {Ax : List Addr}
theorem Ow.bound {a1 : List Nat} (R2 : SR g S1 H1 σ2 Ts2 A2) (o : Ow bo H A S1 A1 Ax) (n : ∀ i, ∀ a ∈ A2 i, (∃ j, a ∈ A1 j) ∨ a ∈ ([] : List Addr)) (s : ∀ j, j ∉ a1 → A2 j = A1 j) (d : ∀ j ∈ bo, j ∉ a1) : Ow bo H A S1 A2 Ax :=
  ⟨o.ns, fun i hi a ha h => by
    rcases n i a h with ⟨j, hj⟩ | h
    · have hb : j ∈ bo := Classical.byContradiction fun z => o.dj j z a ha hj
      exact R2.dj i j (by rintro rfl; exact hi hb) a h (by rw [s j (d j hb)]; exact hj)
    · exact (nomatch h), o.nd, o.new⟩
theorem Po.bound {a1 : List Nat} (p : Po S H A S1 H1 A1) (n : ∀ i, ∀ a ∈ A2 i, (∃ j, a ∈ A1 j) ∨ a ∈ ([] : List Addr)) : Po S H A S1 H1 A2 :=
  ⟨p.keep, p.sub, p.snew, fun i a h => by
    rcases n i a h with ⟨j, hj⟩ | h
    · exact p.anew j a hj
    · exact nomatch h⟩
end
section
variable {g : Gc} {X : Cx} {tg iter : Expr} {body : List Stmt} {mi : M (List T)} {m : T → M Unit} {f : M Fl} {a1 a2 e1 e2 b1 : List Nat} {pos : Pos}
theorem for_r (d : ∀ j ∈ b1, j ∉ a1 ++ e2) (D : Ends) (σ : L2.St) (H : Hp) (h : TSm g (mFor mi m f) (a1 ++ a2) (e1 ++ (a1 ++ e2)) D σ H) : tFor (TIm g mi e1 b1) (TGm g m a1) (TSm g f a2 e2) D σ H := by
  obtain ⟨S, Ts, A, fl, Ts', R, q, k⟩ := h
  obtain ⟨items, Ts1, q1, q2⟩ := bnd_some q
  refine ⟨S, Ts, A, items, Ts1, R, q1, fun J H1 S1 A1 R1 it p1 s1 => ?_⟩
  obtain ⟨cs, cx, Ax, rc, oc, wk⟩ := it
  refine for_it wk (fun i σ' H' => ∃ S' Tsi A', SR g S' H' σ' Tsi A' ∧ loopM m f (items.drop i) Tsi = some (fl, Ts') ∧ (∀ j, j ∉ a1 ++ a2 → σ'[j]? = σ[j]?) ∧ Po S1 H1 A1 S' H' A' ∧ Stb (a1 ++ e2) H1 Ts1 A1 H' Tsi A' ∧ RpL g S' H' cs cx Ax ∧ Ow b1 H A S' A' Ax)
    ⟨S1, Ts1, A1, R1, q2, fun _ _ => rfl, Po.refl, Stb.refl, rc, oc⟩ (fun i σ' H' _ ⟨S', _, _, _, _, _, _, _, r, _⟩ => ⟨S', r⟩) ?_ ?_
  · rintro i x σ' H' H2 hi ⟨S', Tsi, A', Ri, qi, hσ, pi, si, ri, oi⟩ ⟨ex, hy⟩
    obtain ⟨t, ht, rt⟩ := hy S' ri
    have ed : items.drop i = t :: items.drop (i + 1) := by
      obtain ⟨h1, h2⟩ := List.getElem?_eq_some_iff.mp ht
      rw [← h2]; exact List.drop_eq_getElem_cons h1
    rw [ed] at qi
    obtain ⟨_, Tsa, qa, qb⟩ := bnd_some qi
    obtain ⟨fl', Tsb, qc, qd⟩ := bnd_some qb
    have Ri2 := Ri.ext ex
    refine ⟨S', Tsi, A', t, [], Tsa, Ri2, rt, List.nodup_nil, (fun _ h => nomatch h), qa, fun σ2 A2 hσ2 R2 n2 s2 => ?_⟩
    have oi2 : Ow b1 H A S' A2 Ax := oi.bound (a1 := a1) R2 n2 (fun j hj => (s2 j hj).2) fun j hj z => d j hj (List.mem_append_left _ z)
    have pi2 : Po S1 H1 A1 S' H2 A2 := (pi.trans R1 (Po.ext ex)).bound (a1 := a1) n2
    have hcx : ∀ a ∈ Ax, Mut (H2 a) := RpL.cells _ _ _ (ri.ext ex)
    refine ⟨S', Tsa, A2, fl', Tsb, R2, qc, fun σ3 H3 S3 A3 hσ3 R3 p3 s3 => ?_⟩
    have hσ' : ∀ j, j ∉ a1 ++ a2 → σ3[j]? = σ[j]? := fun j hj => (hσ3 j fun z => hj (List.mem_append_right _ z)).trans ((hσ2.2 j fun z => hj (List.mem_append_left _ z)).trans (hσ j hj))
    have p4 : Po S1 H1 A1 S3 H3 A3 := pi2.trans R1 p3
    have s4 : Stb (a1 ++ e2) H1 Ts1 A1 H3 Tsb A3 := fun j hj => by
      obtain ⟨x1, x2, x3⟩ := si j hj
      obtain ⟨y1, y2⟩ := s2 j fun z => hj (List.mem_append_left _ z)
      obtain ⟨z1, z2, z3⟩ := s3 j fun z => hj (List.mem_append_right _ z)
      exact ⟨z1.trans (y1.trans x1), z2.trans (y2.trans x2), fun a ha o eo => z3 a (by rw [y2, x2]; exact ha) o (ex a o (x3 a ha o eo))⟩
    have d2 : ∀ j ∈ b1, j ∉ e2 := fun j hj z => d j hj (List.mem_append_right _ z)
    have fin : ∀ fl'' : Fl, some (fl'', Tsb) = some (fl, Ts') → FlE g D H A fl'' σ3 H3 S3 A3 := fun fl'' eq => by
      injection eq with eq
      injection eq with h1 h2
      subst h1; subst h2
      exact k σ3 H3 S3 A3 hσ' R3 (p1.trans R p4) (s1.trans s4)
    have nxt : loopM m f (items.drop (i + 1)) Tsb = some (fl, Ts') → ∃ S' Tsi A', SR g S' H3 σ3 Tsi A' ∧ loopM m f (items.drop (i + 1)) Tsi = some (fl, Ts') ∧ (∀ j, j ∉ a1 ++ a2 → σ3[j]? = σ[j]?) ∧ Po S1 H1 A1 S' H3 A' ∧ Stb (a1 ++ e2) H1 Ts1 A1 H3 Tsi A' ∧ RpL g S' H3 cs cx Ax ∧ Ow b1 H A S' A' Ax := fun qn =>
      ⟨S3, Tsb, A3, R3, qn, hσ', p4, s4, RpL.held R2 (ri.ext ex) oi2 p3 s3 d2, oi2.held R2 R3 hcx p3 s3 d2⟩
    cases fl' with
    | nx => exact nxt qd
    | ct => exact nxt qd
    | bk => exact fin .nx qd
    | rt r => exact (fin (.rt r) qd).rebase (p1.trans R pi2)
  · rintro σ' H' ⟨S', Tsi, A', Ri, qi, hσ, pi, si, ri, oi⟩
    rw [List.drop_length] at qi
    have qi : some (Fl.nx, Tsi) = some (fl, Ts') := qi
    injection qi with qi
    injection qi with h1 h2
    subst h1; subst h2
    exact k σ' H' S' A' hσ Ri (p1.trans R pi) (s1.trans si)
theorem ts_for (hp : PassesOwn (model X.prog X.w) X.A X.env X.xe) (hc : X.calm = true) (hi : PIm g X tg iter mi e1 b1) (hg : PGm g X tg m a1) (hb : PSsm g X body f a2 e2) (d : ∀ j ∈ b1, j ∉ a1 ++ e2 := by decide) (hs : ∀ x, foldedSetIterable iter X.env x = pure x := by intro _; rfl) : PSm g X (.For tg iter body [] pos) (mFor mi m f) (a1 ++ a2) (e1 ++ (a1 ++ e2)) := PS.imp (ps_for hp hc hi hg hb hs) (for_r d)
end
end MI
namespace MI
open PySem PySem.Spec PyProof.Rows L2
section
variable {g : Gc} {X : Cx} {c : Expr} {body : List Stmt} {fc : M Bool} {f : M Fl} {a1 e1 e2 : List Nat} {pos : Pos}
end
def wipeT (Ts : List T) : List Nat → List T
  | [] => Ts
  | i :: vs => wipeT (Ts.set i .dead) vs
def hidOk : T → Bool
  | .dead => true
  | t => t.imm
def rest (Ts1 : List T) : List T → List Nat → List T
  | Ts2, [] => Ts2
  | Ts2, i :: vs => rest Ts1 (Ts2.set i (slot Ts1 i)) vs
def lcM (m : T → M Unit) (tt : M Bool) (te : M T) (vs : List Nat) : List T → List T → M (List T)
  | [], acc => ret acc
  | t :: ts, acc => bnd (m t) fun _ => bnd tt fun b => if b then bnd te fun r => if acc.length < sizeLine then (fun Ts => lcM m tt te vs ts (acc ++ [r]) (wipeT Ts vs)) else fun _ => none else fun Ts => lcM m tt te vs ts acc (wipeT Ts vs)
def mLc (mi : M (List T)) (m : T → M Unit) (tt : M Bool) (te : M T) (vs : List Nat) : M T := bnd mi fun items => fun Ts => if vs.all (fun i => hidOk (slot Ts i)) then (match lcM m tt te vs items [] (wipeT Ts vs) with
  | some (acc, Ts2) => some (.nd (.lst true) acc, rest Ts Ts2 vs)
  | none => none) else none
section
variable {g : Gc} {S S1 S2 : Addr → Prop} {H H1 H2 : Hp} {A A1 A2 : Nat → List Addr} {σ σ2 : L2.St} {Ts Ts1 Ts2 : List T} {eff bo : List Nat} {Ax : List Addr}
theorem wipeT_len : ∀ (vs : List Nat) (Ts : List T), (wipeT Ts vs).length = Ts.length
  | [], _ => rfl
  | i :: vs, Ts => by rw [wipeT, wipeT_len vs, List.length_set]
theorem wipeT_in : ∀ (vs : List Nat) (Ts : List T) (i : Nat), i ∈ vs ∨ slot Ts i = .dead → slot (wipeT Ts vs) i = .dead
  | [], Ts, i, h => h.elim (fun z => nomatch z) id
  | j :: vs, Ts, i, h => by
    refine wipeT_in vs (Ts.set j .dead) i ?_
    by_cases hj : i = j
    · subst hj
      refine .inr ?_
      by_cases hl : i < Ts.length
      · exact slot_set_eq hl
      · unfold slot
        rw [List.getD_eq_getElem?_getD, List.getElem?_eq_none_iff.mpr (by rw [List.length_set]; omega)]; rfl
    · rcases h with h | h
      · rcases List.mem_cons.mp h with h | h
        · exact absurd h hj
        · exact .inl h
      · exact .inr (by rw [slot_set_ne hj]; exact h)
theorem wipeT_out : ∀ (vs : List Nat) (Ts : List T) (i : Nat), i ∉ vs → slot (wipeT Ts vs) i = slot Ts i
  | [], _, _, _ => rfl
  | j :: vs, Ts, i, h => by
    rw [wipeT, wipeT_out vs (Ts.set j .dead) i fun z => h (List.mem_cons_of_mem _ z), slot_set_ne fun z => h (by rw [z]; exact List.mem_cons_self)]
theorem rest_len : ∀ (vs : List Nat) (Ts2 : List T), (rest Ts1 Ts2 vs).length = Ts2.length
  | [], _ => rfl
  | i :: vs, Ts2 => by rw [rest, rest_len vs, List.length_set]
theorem rest_out : ∀ (vs : List Nat) (Ts2 : List T) (i : Nat), i ∉ vs → slot (rest Ts1 Ts2 vs) i = slot Ts2 i
  | [], _, _, _ => rfl
  | j :: vs, Ts2, i, h => by
    rw [rest, rest_out vs (Ts2.set j (slot Ts1 j)) i fun z => h (List.mem_cons_of_mem _ z), slot_set_ne fun z => h (by rw [z]; exact List.mem_cons_self)]
theorem rest_in : ∀ (vs : List Nat) (Ts2 : List T) (i : Nat), i ∈ vs → Ts1.length = Ts2.length → slot (rest Ts1 Ts2 vs) i = slot Ts1 i
  | [], _, _, h, _ => nomatch h
  | j :: vs, Ts2, i, h, hl => by
    rw [rest]
    by_cases hv : i ∈ vs
    · exact rest_in vs (Ts2.set j (slot Ts1 j)) i hv (by rw [List.length_set]; exact hl)
    · rw [rest_out vs _ i hv]
      have e : i = j := (List.mem_cons.mp h).elim id fun z => absurd z hv
      subst e
      by_cases hi : i < Ts2.length
      · exact slot_set_eq hi
      · unfold slot
        rw [List.getD_eq_getElem?_getD, List.getElem?_eq_none_iff.mpr (by rw [List.length_set]; omega), List.getD_eq_getElem?_getD, List.getElem?_eq_none_iff.mpr (by omega)]
theorem hid_nil (R : SR g S H σ Ts A) {i : Nat} (h : hidOk (slot Ts i) = true) : A i = [] := by
  rcases R.rep i with ⟨_, e⟩ | ⟨x, _, r⟩
  · exact e
  · cases q : slot Ts i with
    | dead => rw [q] at r; exact r
    | non => rw [q] at r; exact r.2
    | bl b => rw [q] at r; exact r.2
    | int b => rw [q] at r; exact r.2
    | str b => rw [q] at r; exact r.2
    | nd k ts => rw [q] at r h; exact Rp.imm_nil _ _ _ r h
theorem wipe_getD {σ : L2.St} {i : Nat} {vs : List Nat} (h : i ∉ vs) : (wipe σ vs).getD i none = σ.getD i none := by
  rw [List.getD_eq_getElem?_getD, List.getD_eq_getElem?_getD, wipe_out h]
theorem SR.wiped (R : SR g S H σ Ts A) (vs : List Nat) (h : ∀ i ∈ vs, hidOk (slot Ts i) = true) : SR g S H (wipe σ vs) (wipeT Ts vs) A where
  rep := fun i => by
    by_cases hi : i ∈ vs
    · exact .inl ⟨wipeT_in vs Ts i (.inl hi), hid_nil R (h i hi)⟩
    · rw [wipeT_out vs Ts i hi, wipe_getD hi]
      exact R.rep i
  nd := R.nd
  dj := R.dj
  ns := R.ns
  len := by rw [wipeT_len, wipe_length]; exact R.len
  st := R.st
theorem SR.turned {vs : List Nat} (R : SR g S H σ2 Ts A) (e : wipe σ2 vs = wipe σ vs) (h : ∀ i ∈ vs, A i = []) : SR g S H (wipe σ vs) (wipeT Ts vs) A where
  rep := fun i => by
    by_cases hi : i ∈ vs
    · exact .inl ⟨wipeT_in vs Ts i (.inl hi), h i hi⟩
    · rw [wipeT_out vs Ts i hi, ← e, wipe_getD hi]
      exact R.rep i
  nd := R.nd
  dj := R.dj
  ns := R.ns
  len := by rw [wipeT_len, ← e, wipe_length]; exact R.len
  st := R.st
theorem SR.rested {vs : List Nat} (R1 : SR g S1 H1 σ Ts1 A1) (p : Po S1 H1 A1 S2 H2 A2) (R2 : SR g S2 H2 (wipe σ vs) Ts2 A2) (h : ∀ i ∈ vs, hidOk (slot Ts1 i) = true) (hd : ∀ i ∈ vs, A2 i = []) : SR g S2 H2 σ (rest Ts1 Ts2 vs) A2 where
  rep := fun i => by
    by_cases hi : i ∈ vs
    · have hl : Ts1.length = Ts2.length := by rw [R1.len, R2.len, wipe_length]
      rw [rest_in vs Ts2 i hi hl, hd i hi]
      have e := hid_nil R1 (h i hi)
      rcases R1.rep i with ⟨h1, _⟩ | ⟨x, h1, h2⟩
      · exact .inl ⟨h1, rfl⟩
      · rw [e] at h2
        exact .inr ⟨x, h1, Rp.keepF (M := fun a => ∃ j, a ∈ A1 j) (fun a o eo n => p.keep a o eo fun j hj => n ⟨j, hj⟩) (fun a ⟨j, hj⟩ => R1.cells j a hj) (fun a hs ⟨j, hj⟩ => R1.ns j a hj hs) p.sub _ _ _ h2 (fun _ z => nomatch z)⟩
    · rw [rest_out vs Ts2 i hi, ← wipe_getD hi]
      exact R2.rep i
  nd := R2.nd
  dj := R2.dj
  ns := R2.ns
  len := by rw [rest_len, R2.len, wipe_length]
  st := R2.st
theorem SR.grow {Da : Addr} {o o' : HO} (R : SR g S H σ Ts A) (hD : H Da = some o) (hm : Mut (some o)) (hn : ∀ i, Da ∉ A i) (hs : ¬ S Da) (hx : ∀ P, o ≠ .ext P := by intro _ z; cases z) (hy : ∀ ps, o' ≠ .tbl ps := by intro _ z; cases z) : SR g S (upd H Da o') σ Ts A where
  rep := fun i => by
    rcases R.rep i with h | ⟨x, h1, h2⟩
    · exact .inl h
    · exact .inr ⟨x, h1, Rp.keep (M := fun a => a = Da) (fun a ob eo n => by rw [upd_ne n]; exact eo) (fun a e => by rw [e, hD]; exact hm) (fun a h e => hs (by rw [← e]; exact h)) (fun _ h => h) _ _ _ h2 fun a ha e => hn i (by rw [← e]; exact ha)⟩
  nd := R.nd
  dj := R.dj
  ns := R.ns
  len := R.len
  st := ⟨fun a h => by
    have ne : a ≠ Da := fun e => hs (by rw [← e]; exact h)
    rw [upd_ne ne]
    exact R.st.st a h, tabs_upd R.tb hD (mut_tbl hm) hx hy⟩
end
section
variable {g : Gc} {S S1 S2 : Addr → Prop} {H H1 H2 : Hp} {A A1 A2 : Nat → List Addr} {σ σ2 : L2.St} {Ts Ts1 Ts2 : List T} {eff bo : List Nat} {Ax : List Addr} {Da : Addr} {o : HO}
theorem Po.grown (p : Po S1 H1 A1 S2 H2 A2) (h : H1 Da = none) : Po S1 H1 A1 S2 (upd H2 Da o) A2 :=
  ⟨fun a ob e n => fix_upd (ne_of_none e h) (p.keep a ob e n), p.sub, p.snew, p.anew⟩
theorem Stb.grown (s : Stb eff H1 Ts1 A1 H2 Ts2 A2) (h : H1 Da = none) : Stb eff H1 Ts1 A1 (upd H2 Da o) Ts2 A2 := fun j hj =>
  let ⟨x, y, z⟩ := s j hj
  ⟨x, y, fun a ha ob e => by rw [upd_ne (ne_of_none e h)]; exact z a ha ob e⟩
theorem RpL.grown {ts : List T} {xs : List V} {o' : HO} (r : RpL g S H ts xs Ax) (hD : H Da = some o') (hm : Mut (some o')) (hs : ¬ S Da) (hn : Da ∉ Ax) : RpL g S (upd H Da o) ts xs Ax :=
  RpL.keep (M := fun a => a = Da) (fun a ob eo n => by rw [upd_ne n]; exact eo) (fun a e => by rw [e, hD]; exact hm) (fun a h e => hs (by rw [← e]; exact h)) (fun _ h => h) _ _ _ r fun a ha e => hn (by rw [← e]; exact ha)
theorem wipe_in {i : Nat} {σ : L2.St} (hl : i < σ.length) : ∀ {vs : List Nat}, i ∈ vs → (wipe σ vs)[i]? = some none
  | [], h => nomatch h
  | v :: vs, h => by
    unfold wipe
    by_cases hv : v = i
    · subst hv
      exact List.getElem?_set_self (by rw [wipe_length]; exact hl)
    · rw [List.getElem?_set_ne hv]
      exact wipe_in hl ((List.mem_cons.mp h).elim (fun z => absurd z.symm hv) id)
end
section
variable {g : Gc} {X : Cx} {tg iter elt : Expr} {mi : M (List T)} {m : T → M Unit} {tt : M Bool} {te : M T} {a1 e1 e2 e3 b1 : List Nat} {vs : List Nat} {pos : Pos}
theorem lc_r (d : ∀ j ∈ b1, j ∉ a1 ++ (e2 ++ e3)) (dv : ∀ j ∈ a1, j ∈ vs) (dh : ∀ j ∈ vs, j ∉ e2 ++ e3) (σ : L2.St) (H : Hp) (Q : VK) (h : TM g (mLc mi m tt te vs) (e1 ++ (e2 ++ e3)) [] σ H Q) : tLc (TIm g mi e1 b1) (TGm g m a1) (TMt g tt e2) (TM g te e3 []) vs σ H Q := by
  obtain ⟨S, Ts, A, t, Ts', R, q, k⟩ := h
  obtain ⟨items, Ts1, q1, q2⟩ := bnd_some q
  split at q2
  · rename_i hh
    have hh : ∀ i ∈ vs, hidOk (slot Ts1 i) = true := fun i hi => List.all_eq_true.mp hh i hi
    cases q3 : lcM m tt te vs items [] (wipeT Ts1 vs) with
    | none => rw [q3] at q2; cases q2
    | some pr =>
      obtain ⟨accF, TsF⟩ := pr
      rw [q3] at q2
      have q2 : some (T.nd (.lst true) accF, rest Ts1 TsF vs) = some (t, Ts') := q2
      injection q2 with q2
      injection q2 with h1 h2
      subst h1; subst h2
      refine ⟨S, Ts, A, items, Ts1, R, q1, fun J H1 S1 A1 R1 it p1 s1 Da hDa => ?_⟩
      obtain ⟨cs, cx, Ax, rc, oc, wk⟩ := it
      have ex0 := upd_ext (o := .lst []) hDa
      have fr := R1.fresh hDa
      have bkD : (∃ j, Da ∈ A j) ∨ noT (H Da) = none := by
        cases e : H Da with
        | none => exact .inr rfl
        | some ob =>
          by_cases hj : ∃ j, Da ∈ A j
          · exact .inl hj
          · exact .inr (e ▸ fix_back hDa e (p1.keep Da ob e fun i hi => hj ⟨i, hi⟩))
      refine lc_it wk (fun i H' => ∃ S' Tsi A' acc Aa, SR g S' H' (wipe σ vs) Tsi A' ∧ (∀ j ∈ vs, A' j = []) ∧ lcM m tt te vs (items.drop i) acc Tsi = some (accF, TsF) ∧ Po S1 H1 A1 S' H' A' ∧ Stb (vs ++ (e2 ++ e3)) H1 Ts1 A1 H' Tsi A' ∧ RpL g S' H' cs cx Ax ∧ Ow b1 H A S' A' Ax ∧ Rp g S' H' (.nd (.lst true) acc) (.ref Da) Aa ∧ Ow [] H A S' A' Aa ∧ (∀ a ∈ Ax, a ≠ Da))
        ⟨S1, wipeT Ts1 vs, A1, [], [Da], (R1.ext ex0).wiped vs hh, fun j hj => hid_nil R1 (hh j hj), q3, Po.ext ex0, ?_, rc.ext ex0, oc, ⟨Da, [], [], rfl, upd_same, rfl, .inl rfl, rfl, rfl⟩, ⟨?_, ?_, fun _ => List.nodup_cons.mpr ⟨(fun z => nomatch z), List.nodup_nil⟩, ?_⟩, ?_⟩ (fun i H' _ ⟨S', _, _, _, _, _, _, _, _, _, r, _⟩ => ⟨S', r⟩) ?_ ?_
      · exact fun j hj => ⟨wipeT_out vs Ts1 j fun z => hj (List.mem_append_left _ z), rfl, fun a _ o eo => ex0 a o eo⟩
      · intro a ha
        rw [List.mem_singleton.mp ha]; exact fr.1
      · intro i _ a ha
        rw [List.mem_singleton.mp ha]; exact fr.2 i
      · intro a ha
        rw [List.mem_singleton.mp ha]; exact bkD
      · intro a ha e
        subst e
        exact mut_ne (RpL.cells _ _ _ rc a ha) hDa
      · rintro i x H' H2 hi ⟨S', Tsi, A', acc, Aa, Ri, hv, qi, pi, si, ri, oi, ra, oa, nx⟩ ⟨ex, hy⟩
        obtain ⟨t, ht, rt⟩ := hy S' ri
        have ed : items.drop i = t :: items.drop (i + 1) := by
          obtain ⟨h1, h2⟩ := List.getElem?_eq_some_iff.mp ht
          rw [← h2]; exact List.drop_eq_getElem_cons h1
        rw [ed] at qi
        obtain ⟨_, Tsa, qa, qb⟩ := bnd_some qi
        obtain ⟨b, Tsb, qc, qd⟩ := bnd_some qb
        have Ri2 := Ri.ext ex
        refine ⟨S', Tsi, A', t, [], Tsa, Ri2, rt, List.nodup_nil, (fun _ h => nomatch h), qa, fun σ2 A2 hσ2 R2 n2 s2 => ?_⟩
        have ew : wipe σ2 vs = wipe σ vs := by
          have len2 : σ2.length = σ.length := by rw [hσ2.1, wipe_length]
          refine List.ext_getElem? fun j => ?_
          by_cases hj : j ∈ vs
          · by_cases hl : j < σ.length
            · rw [wipe_in (by omega) hj, wipe_in hl hj]
            · rw [List.getElem?_eq_none_iff.mpr (by rw [wipe_length]; omega), List.getElem?_eq_none_iff.mpr (by rw [wipe_length]; omega)]
          · rw [wipe_out hj, hσ2.2 j fun z => hj (dv j z)]
        have hAv : ∀ j ∈ vs, A2 j = [] := fun j hj => by
          cases e : A2 j with
          | nil => rfl
          | cons a l =>
            have ha : a ∈ A2 j := by rw [e]; exact List.mem_cons_self
            rcases n2 j a ha with ⟨j', hj'⟩ | h
            · have hjv : j' ∉ vs := fun z => by rw [hv j' z] at hj'; exact nomatch hj'
              have e2 := (s2 j' fun z => hjv (dv j' z)).2
              exact absurd (by rw [e2]; exact hj') (R2.dj j j' (by rintro rfl; exact hjv hj) a ha)
            · exact nomatch h
        have oi2 : Ow b1 H A S' A2 Ax := oi.bound (a1 := a1) R2 n2 (fun j hj => (s2 j hj).2) fun j hj z => d j hj (List.mem_append_left _ z)
        have oa2 : Ow [] H A S' A2 Aa := oa.bound (a1 := a1) R2 n2 (fun j hj => (s2 j hj).2) fun j hj => nomatch hj
        have pi2 : Po S1 H1 A1 S' H2 A2 := (pi.trans R1 (Po.ext ex)).bound (a1 := a1) n2
        have hcx : ∀ a ∈ Ax, Mut (H2 a) := RpL.cells _ _ _ (ri.ext ex)
        have hca : ∀ a ∈ Aa, Mut (H2 a) := Rp.cells _ _ _ (ra.ext ex)
        refine ⟨ew, S', Tsa, A2, b, Tsb, R2, qc, fun H3 S3 A3 R3 p3 s3 => ?_⟩
        have d2 : ∀ j ∈ b1, j ∉ e2 := fun j hj z => d j hj (List.mem_append_right _ (List.mem_append_left _ z))
        have d3 : ∀ j ∈ b1, j ∉ e3 := fun j hj z => d j hj (List.mem_append_right _ (List.mem_append_right _ z))
        have hA3 : ∀ j ∈ vs, A3 j = [] := fun j hj => ((s3 j fun z => dh j hj (List.mem_append_left _ z)).2.1).trans (hAv j hj)
        have ra3 := (ra.ext ex).held R2 oa2 p3 s3 (fun _ z => nomatch z)
        have oa3 := oa2.held R2 R3 hca p3 s3 (fun _ z => nomatch z)
        have ri3 := RpL.held R2 (ri.ext ex) oi2 p3 s3 d2
        have oi3 := oi2.held R2 R3 hcx p3 s3 d2
        have p4 := pi2.trans R1 p3
        have s4 : Stb (vs ++ (e2 ++ e3)) H1 Ts1 A1 H3 Tsb A3 := fun j hj => by
          have hjv : j ∉ vs := fun z => hj (List.mem_append_left _ z)
          obtain ⟨x1, x2, x3⟩ := si j hj
          obtain ⟨y1, y2⟩ := s2 j fun z => hjv (dv j z)
          obtain ⟨z1, z2, z3⟩ := s3 j fun z => hj (List.mem_append_right _ (List.mem_append_left _ z))
          exact ⟨z1.trans (y1.trans x1), z2.trans (y2.trans x2), fun a ha o eo => z3 a (by rw [y2, x2]; exact ha) o (ex a o (x3 a ha o eo))⟩
        cases b with
        | false =>
          refine iteF ⟨S3, wipeT Tsb vs, A3, acc, Aa, R3.turned ew hA3, hA3, qd, p4, fun j hj => ?_, ri3, oi3, ra3, oa3, nx⟩
          obtain ⟨x1, x2, x3⟩ := s4 j hj
          exact ⟨(wipeT_out vs Tsb j fun z => hj (List.mem_append_left _ z)).trans x1, x2, x3⟩
        | true =>
          obtain ⟨r, Tsc, qe, qf⟩ := bnd_some qd
          split at qf
          · rename_i hz
            refine iteT ⟨S3, Tsb, A3, r, Tsc, R3, qe, fun y H4 S4 A4 Ay R4 ry oy p5 s5 => ?_⟩
            have hca3 : ∀ a ∈ Aa, Mut (H3 a) := Rp.cells _ _ _ ra3
            have ra4 := ra3.held R3 oa3 p5 s5 (fun _ z => nomatch z)
            have oa4 := oa3.held R3 R4 hca3 p5 s5 (fun _ z => nomatch z)
            have ri4 := RpL.held R3 ri3 oi3 p5 s5 d3
            have oi4 := oi3.held R3 R4 (RpL.cells _ _ _ ri3) p5 s5 d3
            have oap := Ow.app (p1.trans R p4) hca3 oa3 oa4 oy
            obtain ⟨a, accV, B, e1, at_, eA, _, rl⟩ := ra4
            injection e1 with e1
            subst e1
            have at_ : H4 Da = some (.lst accV) := at_
            have eA : Aa = Da :: B := eA
            subst eA
            have ndp : (Da :: B ++ Ay).Nodup := oap.nd rfl
            obtain ⟨n1, n2'⟩ := List.nodup_cons.mp ndp
            have nDB : Da ∉ B := fun z => n1 (List.mem_append_left _ z)
            have nDy : Da ∉ Ay := fun z => n1 (List.mem_append_right _ z)
            have nS : ¬ S4 Da := oa4.ns Da List.mem_cons_self
            have nA : ∀ i, Da ∉ A4 i := fun i => oa4.dj i (fun z => nomatch z) Da List.mem_cons_self
            refine ⟨accV, at_, by rw [← RpL.length _ _ _ rl]; exact hz, ?_⟩
            have hA4 : ∀ j ∈ vs, A4 j = [] := fun j hj => ((s5 j fun z => dh j hj (List.mem_append_right _ z)).2.1).trans (hA3 j hj)
            have Rg := R4.grow (o' := .lst (accV ++ [y])) at_ trivial nA nS
            have ry2 : RpL g S4 (upd H4 Da (.lst (accV ++ [y]))) [r] [y] Ay := RpL.grown (RpL.one ry) at_ trivial nS nDy
            have rl2 := RpL.grown (o := .lst (accV ++ [y])) rl at_ trivial nS nDB
            refine ⟨S4, wipeT Tsc vs, A4, acc ++ [r], Da :: (B ++ Ay), Rg.turned ew hA4, hA4, qf, (p4.trans R1 p5).grown hDa, fun j hj => ?_, RpL.grown ri4 at_ trivial nS fun z => nx Da z rfl, oi4, ⟨Da, accV ++ [y], B ++ Ay, rfl, upd_same, rfl, .inl rfl, RpL.append _ _ _ _ _ _ rl2 ry2⟩, oap, nx⟩
            have sg := (s4.trans s5).grown (o := .lst (accV ++ [y])) hDa j fun z => hj ((List.mem_append.mp z).elim id fun z => List.mem_append_right _ (List.mem_append_right _ z))
            obtain ⟨x1, x2, x3⟩ := sg
            exact ⟨(wipeT_out vs Tsc j fun z => hj (List.mem_append_left _ z)).trans x1, x2, x3⟩
          · cases qf
      · rintro H' ⟨S', Tsi, A', acc, Aa, Ri, hv, qi, pi, si, ri, oi, ra, oa, nx⟩
        rw [List.drop_length] at qi
        have qi : some (acc, Tsi) = some (accF, TsF) := qi
        injection qi with qi
        injection qi with h1 h2
        subst h1; subst h2
        refine k (.ref Da) H' S' A' Aa (R1.rested pi Ri hh hv) ra oa (p1.trans R pi) fun j hj => ?_
        obtain ⟨x1, x2, x3⟩ := s1 j fun z => hj (List.mem_append_left _ z)
        by_cases hjv : j ∈ vs
        · have hl : Ts1.length = Tsi.length := by rw [R1.len, Ri.len, wipe_length]
          refine ⟨(rest_in vs Tsi j hjv hl).trans x1, ?_, fun a ha o eo => ?_⟩
          · rw [hv j hjv, ← x2, hid_nil R1 (hh j hjv)]
          · rw [← x2, hid_nil R1 (hh j hjv)] at ha
            exact nomatch ha
        · obtain ⟨y1, y2, y3⟩ := si j fun z => (List.mem_append.mp z).elim hjv fun z => hj (List.mem_append_right _ z)
          exact ⟨(rest_out vs Tsi j hjv).trans (y1.trans x1), y2.trans x2, fun a ha o eo => y3 a (by rw [x2]; exact ha) o (x3 a ha o eo)⟩
  · cases q2
end
end MI
namespace MI
open PySem PySem.Spec PyProof.Rows L2
def PTsm (g : Gc) (X : Cx) (ifs : List Expr) (f : M Bool) (eff : List Nat) : Prop := PTs X ifs (TMt g f eff)
section
variable {g : Gc} {X : Cx} {tg iter elt c : Expr} {ifs : List Expr} {mi : M (List T)} {m : T → M Unit} {tt : M Bool} {te : M T} {a1 e1 e2 e3 b1 : List Nat} {vs : List Nat} {pos spos py : Pos}
theorem tmts_nil : PTsm g X [] (ret true) [] := ⟨fun pins s σ H Q I h => pts_nil.run pins s σ H Q I (tmt_ret h)⟩
theorem tmts_one (h : PTm g X c tt e1) : PTsm g X [c] tt e1 := pts_one h
theorem tm_lc {scope : Scope} {own : List (Str × Nat)} (hc : X.calm = true) (hN : X.N.Nodup) (hi : PIm g X tg iter mi e1 b1) (ok : BlkOk X.N X.env.scope scope own)
    (hg : ∀ (s : Shared) (H : Hp) (C : Addr) (cl : List (Str × Addr)) (fp : List Addr), PGm g (X.blk s H scope (compEnvC scope cl C X.env) fp) tg m a1) (ht : ∀ (s : Shared) (H : Hp) (C : Addr) (cl : List (Str × Addr)) (fp : List Addr), PTsm g (X.blk s H scope (compEnvC scope cl C X.env) fp) ifs tt e2)
    (he : ∀ (s : Shared) (H : Hp) (C : Addr) (cl : List (Str × Addr)) (fp : List Addr), PEm g (X.blk s H scope (compEnvC scope cl C X.env) fp) elt te e3 [])
    (d : ∀ j ∈ b1, j ∉ a1 ++ (e2 ++ e3) := by decide) (dv : ∀ j ∈ a1, j ∈ own.map (·.2) := by decide) (dh : ∀ j ∈ own.map (·.2), j ∉ e2 ++ e3 := by decide) (hs : ∀ x, foldedSetIterable iter X.env x = pure x := by intro _; rfl) :
    PEm g X (.ListComp elt [⟨tg, iter, ifs, 0⟩] scope pos) (mLc mi m tt te (own.map (·.2))) (e1 ++ (e2 ++ e3)) [] := PE.imp (pe_lc hc hN hi ok hg ht he hs) (lc_r d dv dh)
end
theorem PI.or {X : Cx} {tg e : Expr} {t t' : TI} (h : PI X tg e t) (h' : PI X tg e t') : PI X tg e (fun σ H R => t σ H R ∨ t' σ H R) := ⟨fun pins s σ H R I q => q.elim (h.run pins s σ H R I) (h'.run pins s σ H R I)⟩
def mIter (fa : M T) : M (List T) := bnd fa fun t => lft (kidsI t)
theorem RpL.atI {g : Gc} {S : Addr → Prop} {H : Hp} {ts : List T} {xs : List V} (r : RpL g S H ts xs []) {i : Nat} {x : V} (hx : xs[i]? = some x) : ∃ t, ts[i]? = some t ∧ Rp g S H t x [] := by
  have hl := RpL.length _ _ _ r
  have hi : i < ts.length := by rw [hl]; exact (List.getElem?_eq_some_iff.mp hx).1
  obtain ⟨y, B, h1, h2, h3⟩ := RpL.at _ _ _ r i ts[i] (by simp [hi])
  rw [hx] at h1
  injection h1 with h1
  subst h1
  have e := List.sublist_nil.mp h3
  subst e
  exact ⟨_, by simp [hi], h2⟩
theorem At.sqAny {g : Gc} {S : Addr → Prop} {H : Hp} {k : Kd} {a : Addr} {xs : List V} (hk : k = .scr ∨ ∃ o, k = .lst o) (h : At g S H k a xs) : SqL g.K H a xs := by
  rcases hk with rfl | ⟨o, rfl⟩
  · exact h.sqS
  · exact h.sqL
section
variable {g : Gc} {X : Cx} {tg e e' : Expr} {es : List Expr} {fa fb : M T} {fs : M (List T)} {e1 e2 b1 b2 : List Nat} {pos p2 : Pos}
theorem kidsI_tup {t : T} {ks : List T} (h : kidsI t = some ks) : immL ks = true ∧ (t = .nd .tup ks ∨ ∃ k, t = .nd k ks ∧ (k = .scr ∨ ∃ o, k = .lst o)) := by
  unfold kidsI at h
  cases t with
  | nd k ts =>
    cases k with
    | tup =>
      have h : (if immL ts then some ts else none) = some ks := h
      split at h
      · rename_i hi
        injection h with h
        subst h
        exact ⟨hi, .inl rfl⟩
      · cases h
    | lst o =>
      have h : (if immL ts then some ts else none) = some ks := h
      split at h
      · rename_i hi
        injection h with h
        subst h
        exact ⟨hi, .inr ⟨_, rfl, .inr ⟨o, rfl⟩⟩⟩
      · cases h
    | scr =>
      have h : (if immL ts then some ts else none) = some ks := h
      split at h
      · rename_i hi
        injection h with h
        subst h
        exact ⟨hi, .inr ⟨_, rfl, .inl rfl⟩⟩
      · cases h
    | dK o ks => cases h
    | dT o ks => cases h
    | ins o c fs => cases h
    | exc c fs => cases h
  | dead => cases h
  | non => cases h
  | bl b => cases h
  | int b => cases h
  | str b => cases h
theorem it_seq (hK : g.K = X.K) (ha : PEm g X e fa e1 b1) : PIm g X tg e (mIter fa) e1 b1 :=
  PI.imp (PI.or (pi_list ha) (pi_tup ha)) fun σ H Rr ⟨S, Ts, A, items, Ts', R, q, k⟩ => by
    obtain ⟨t, Ts1, q1, q2⟩ := bnd_some q
    obtain ⟨q3, q4⟩ := lft_some q2
    subst q4
    obtain ⟨hi, et⟩ := kidsI_tup q3
    rcases et with et | ⟨kk, et, hkk⟩
    · subst et
      refine .inr ⟨S, Ts, A, _, Ts', R, q1, fun x H1 S1 A1 Ax R1 rx ox p s => ?_⟩
      obtain ⟨a, xs, B, ex, at_, eA, _, rl⟩ := id rx
      have at_ : SqT g.K H1 a xs := At.sqT at_
      rw [hK] at at_
      refine ⟨a, ex, ⟨xs, at_⟩, k _ H1 S1 A1 R1 ⟨[.nd .tup items], [x], Ax, RpL.one rx, ox, ?_⟩ p s⟩
      subst ex
      have hl := RpL.length _ _ _ rl
      have en := RpL.imm_nil _ _ _ rl hi
      have look : ∀ H2, (∃ S2, RpL g S2 H2 [.nd .tup items] [.ref a] Ax) → ∃ ys, SqT X.K H2 a ys ∧ ys.length = items.length := fun H2 ⟨S2, y, ys, A1, A2, e1, _, r1, _⟩ => by
        injection e1 with e1 _
        subst e1
        obtain ⟨a', zs, B', ex', at', _, _, rl'⟩ := r1
        injection ex' with ex'
        subst ex'
        exact ⟨zs, hK ▸ At.sqT at', (RpL.length _ _ _ rl').symm⟩
      refine ⟨fun i H2 hlt hG => ?_, fun H2 hG => ?_, fun i H2 x H3 hlt hG y => ⟨by rw [y.1]; exact Ext.refl, fun S2 r2 => ?_⟩⟩
      · obtain ⟨ys, h1, h2⟩ := look H2 hG
        exact ⟨ys, ys[i], h1, by simp [h2, hlt]⟩
      · obtain ⟨ys, h1, h2⟩ := look H2 hG
        exact ⟨ys, h1, Nat.le_of_eq h2⟩
      · obtain ⟨y0, ys, A1', A2', e1', _, r1, _⟩ := r2
        injection e1' with e1' _
        subst e1'
        obtain ⟨a', zs, B', ex', at', _, _, rl'⟩ := r1
        injection ex' with ex'
        subst ex'
        have rn := rl'.imm_one hi
        have at' : SqT g.K H2 a zs := At.sqT at'
        obtain ⟨t, h1, h2⟩ := RpL.atI rn (y.2 zs (hK ▸ at'))
        exact ⟨t, h1, by rw [y.1]; exact h2⟩
    · subst et
      refine .inl ⟨S, Ts, A, _, Ts', R, q1, fun x H1 S1 A1 Ax R1 rx ox p s => ?_⟩
      obtain ⟨a, xs, B, ex, at_, eA, _, rl⟩ := id rx
      have sq := At.sqAny hkk at_
      rw [hK] at sq
      refine ⟨a, ex, ⟨xs, sq⟩, k _ H1 S1 A1 R1 ⟨[.nd kk items], [x], Ax, RpL.one rx, ox, ?_⟩ p s⟩
      subst ex
      have look : ∀ H2, (∃ S2, RpL g S2 H2 [.nd kk items] [.ref a] Ax) → ∃ ys, SqL X.K H2 a ys ∧ ys.length = items.length := fun H2 ⟨S2, y, ys, A1, A2, e1, _, r1, _⟩ => by
        injection e1 with e1 _
        subst e1
        obtain ⟨a', zs, B', ex', at', _, _, rl'⟩ := r1
        injection ex' with ex'
        subst ex'
        exact ⟨zs, hK ▸ At.sqAny hkk at', (RpL.length _ _ _ rl').symm⟩
      refine ⟨fun i H2 hlt hG => ?_, fun H2 hG => ?_, fun i H2 x H3 hlt hG y => ⟨by rw [y.1]; exact Ext.refl, fun S2 r2 => ?_⟩⟩
      · obtain ⟨ys, h1, h2⟩ := look H2 hG
        exact ⟨ys, ys[i], h1, by simp [h2, hlt]⟩
      · obtain ⟨ys, h1, h2⟩ := look H2 hG
        exact ⟨ys, h1, Nat.le_of_eq h2⟩
      · obtain ⟨y0, ys, A1', A2', e1', _, r1, _⟩ := r2
        injection e1' with e1' _
        subst e1'
        obtain ⟨a', zs, B', ex', at', _, _, rl'⟩ := r1
        injection ex' with ex'
        subst ex'
        have rn := rl'.imm_one hi
        obtain ⟨t, h1, h2⟩ := RpL.atI rn (y.2 zs (hK ▸ At.sqAny hkk at'))
        exact ⟨t, h1, by rw [y.1]; exact h2⟩
def rangeT (lo hi : Int) : List T := (List.range (hi - lo).toNat).map fun i => .int (lo + (i : Nat))
def rng1 : List T → Option (List T)
  | [.int n] => if -(2 ^ 62) ≤ n ∧ n < 2 ^ 62 then some (rangeT 0 n) else none
  | _ => none
def mRng (f : List T → Option (List T)) (fs : M (List T)) : M (List T) := bnd fs fun ts => lft (f ts)
theorem rangeT_len (lo hi : Int) : (rangeT lo hi).length = (hi - lo).toNat := by unfold rangeT; rw [List.length_map, List.length_range]
theorem it_rng_ok {S : Addr → Prop} {H H1 : Hp} {A A1 : Nat → List Addr} {S1 : Addr → Prop} {lo hi : Int} {n : Nat} (hn : n = (hi - lo).toNat) : ItOk g [] H A S1 H1 A1 (Itr lo n) (rangeT lo hi) := by
  refine ⟨[], [], [], ⟨rfl, rfl⟩, Ow.nil, fun i H2 hlt _ => ?_, fun H2 _ => ?_, fun i H2 x H3 hlt _ y => ⟨by rw [y.1]; exact Ext.refl, fun S2 _ => ⟨.int (lo + i), ?_, y.2, rfl⟩⟩⟩
  · rw [rangeT_len, ← hn] at hlt; exact hlt
  · show n ≤ (rangeT lo hi).length
    rw [rangeT_len, ← hn]; exact Nat.le_refl _
  · rw [rangeT_len] at hlt
    unfold rangeT
    rw [List.getElem?_map, List.getElem?_range hlt]; rfl
theorem it_range1 (hg : Gl X "range") (hm : X.mg "range" = none) (ha : PAm g X [e] fs e1 b1) (hs : starEach [e] X.env = [(false, eval e X.env)] := by rfl) : PIm g X tg (.Call (.Name "range" p2) [e] [] pos) (mRng rng1 fs) e1 [] :=
  PI.imp (pi_range1 hg hm ha hs) fun σ H Rr ⟨S, Ts, A, items, Ts', R, q, k⟩ => by
    obtain ⟨ts, Ts1, q1, q2⟩ := bnd_some q
    obtain ⟨q3, q4⟩ := lft_some q2
    subst q4
    refine ⟨S, Ts, A, ts, Ts', R, q1, fun xs H1 S1 A1 Ax R1 rx ox p s => ?_⟩
    unfold rng1 at q3
    split at q3
    · split at q3
      · rename_i h
        injection q3 with q3
        subst q3
        obtain ⟨y, ys, B1, B2, e1', _, r1, r2⟩ := rx
        rw [r1.1, r2.1] at e1'
        exact ⟨_, e1', h.1, h.2, k _ H1 S1 A1 R1 (it_rng_ok (S := S) (by omega)) p s⟩
      · cases q3
    · cases q3
def signsT (x : Str) : List T := x.cps.toList.map fun c => .str ⟨#[c]⟩
def mSigns (fa : M T) : M (List T) := bnd fa fun t => lft (match t with
  | .str x => some (signsT x)
  | _ => none)
theorem it_str (ha : PEm g X e fa e1 b1) : PIm g X tg e (mSigns fa) e1 [] :=
  PI.imp (pi_str ha) fun σ H Rr ⟨S, Ts, A, items, Ts', R, q, k⟩ => by
    obtain ⟨t, Ts1, q1, q2⟩ := bnd_some q
    obtain ⟨q3, q4⟩ := lft_some q2
    subst q4
    refine ⟨S, Ts, A, t, Ts', R, q1, fun x H1 S1 A1 Ax R1 rx ox p s => ?_⟩
    cases t with
    | str z =>
      injection q3 with q3
      subst q3
      have hz : (signsT z).length = z.cps.size := by unfold signsT; simp
      refine ⟨z, rx.1, k _ H1 S1 A1 R1 ⟨[], [], [], ⟨rfl, rfl⟩, Ow.nil, fun i H2 hlt _ => ?_, fun H2 _ => ?_, fun i H2 x H3 hlt _ y => ⟨by rw [y.1]; exact Ext.refl, fun S2 _ => ?_⟩⟩ p s⟩
      · rw [hz] at hlt; exact hlt
      · show z.cps.size ≤ (signsT z).length
        rw [hz]; exact Nat.le_refl _
      · obtain ⟨c, h1, h2⟩ := y.2
        refine ⟨.str ⟨#[c]⟩, ?_, h2, rfl⟩
        unfold signsT
        rw [List.getElem?_map, Array.getElem?_toList, h1]; rfl
    | _ => cases q3
end
end MI
namespace MI
open PySem PySem.Spec PyProof.Rows L2
abbrev tupIt (l : Addr) : Obj := { cls := .type "tuple_iterator", data := .fields #[.ref l, .int 0 0] }
abbrev enumO (it : Addr) : Obj := { cls := .type "enumerate", data := .fields #[.none, .bool false, .ref it, rawInt 0, .none, .none] }
theorem enum_new {v : Value} {o : Obj} {G : Heap → Prop} (B : Begins v o G) : Meets (Builtin.«enumerate.__new__» ⟨[.type "enumerate", v], []⟩) (fun _ R s => G s.heap ∧ R (.ok (.ret (.ref (s.heap.push o).objs.size))) { s with heap := (s.heap.push o).push (enumO s.heap.objs.size) }) :=
  .of_wp fun prog w A R s ⟨g, r⟩ => by
    obtain ⟨hp, gs, dr, tk, os⟩ := s
    have sub := sub_enumerate
    have begin_ : ∀ {A' : Around} {E : Value → Shared → Prop} {Q : Value → Shared → Prop}, Q (.ref hp.objs.size) ⟨hp.push o, gs, dr, tk, os⟩ → wpAny (model prog w) A' (pyIter v) Q E ⟨hp, gs, dr, tk, os⟩ := fun q => B.iter prog w _ _ _ _ g q
    wp_walk using begin_
    refine wpAny_stack_any fun st => wpAny_pure ?_
    split
    · rename_i c _ _ _ _ _
      cases (c == Value.type "enumerate") <;> (wp_walk using begin_; exact ⟨_, rfl, r⟩)
    · wp_walk using begin_
      exact ⟨_, rfl, r⟩
def IteT (K : PySem.W.Frag) (a : Addr) : It where
  go i H := ∃ (xs : List V) (x : V), SqT K H a xs ∧ xs[i]? = some x
  yld i H v H' := ∃ T x, v = .ref T ∧ H T = none ∧ H' = upd H T (.tup [.int (i : Nat), x]) ∧ ∀ xs, SqT K H a xs → xs[i]? = some x
  stop i H := ∃ xs : List V, SqT K H a xs ∧ xs.length = i
def EnAt (a e it : Addr) (i : Nat) (h : Heap) : Prop := (∃ old, IsEnum h e it (0 + (i : Int)) old) ∧ h.IsTupleIter it a i
section
variable {P : Program} {w : World} {K : PySem.W.Frag} {elts : List Expr} {kk : Nat} {tpos : Pos} {a e it : Addr}
theorem EnAt.lt {i : Nat} {h : Heap} (x : EnAt a e it i h) : ∀ b ∈ [e, it], b < h.objs.size := fun b hb => by
  obtain ⟨⟨_, g⟩, _, g', _⟩ := x
  rcases List.mem_cons.mp hb with rfl | hb
  · exact Heap.lt_size g
  · rw [List.mem_singleton.mp hb]; exact Heap.lt_size g'
theorem turn_enumT (ne : e ≠ it) (na : a ≠ it) (nb : a ≠ e) : Turn P w K (.Tuple elts kk tpos) (IteT K a) [e, it] e (EnAt a e it) where
  mem := List.mem_cons_self
  obj i h x b hb := by
    obtain ⟨⟨_, g⟩, o, g', _, d⟩ := x
    rcases List.mem_cons.mp hb with rfl | hb
    · exact ⟨_, g, fun _ z => nomatch z⟩
    · rw [List.mem_singleton.mp hb]; exact ⟨o, g', fun _ z => by rw [d] at z; cases z⟩
  keep i h h' x k := ⟨x.1.imp fun _ g => k e (by simp) _ g, x.2.at fun o g => k it (by simp) o g⟩
  self A i s Q E x q := x.1.elim fun _ g => wpAny_pyIter_enum g q
  item X eP ew eK calm i pins s σ H E I foot x go := by
    subst eP; subst ew; subst eK
    obtain ⟨xs, y, sq, at_⟩ := go
    obtain ⟨its, rel, tup, _⟩ := I.tuple sq
    obtain ⟨u, at_u, rel_u⟩ := rel.get at_
    have W := WalksT.enumFrom (prog := X.prog) (w := X.w) (A := X.A) 0 (Draws.tuple (A := X.A.in1) (I.ok.hd calm) it a na its.toArray) e ne (by simp [ne, nb.symm]) (by simp)
    refine W.item i s _ _ (by simpa using (List.getElem?_eq_some_iff.mp at_u).1) ⟨x.1, x.2, tup⟩ fun T vals h' tk has fresh isT mid same => ⟨.ref T, rfl, W.go elts kk tpos i T { s with heap := h', toks := tk } _ _ mid fun h2 x2 same2 => ?_⟩
    obtain ⟨t, v, at_v, rfl⟩ := has
    have ev : v = u := Option.some.inj (at_v.symm.trans (by simpa using at_u))
    subst ev
    have isT2 := isT.at fun o g => same2 T o (W.apart i T h' mid) g
    have new : ObjOk X.prog X.w (upd H T (.tup [.int (i : Nat), y])) h2 T (.tup [.int (i : Nat), y]) := ⟨by show 2 ≤ sizeLine; decide, [.int (0 + (i : Int)) t, v], .cons ⟨t, by simp⟩ (.cons rel_u .nil), isT2⟩
    refine ⟨.ref T, _, I.turnedNew (t' := tk) (ch := [e, it]) (fun b o nb g => same2 b o nb (same b o nb g)) foot fresh new, rfl, ⟨T, y, rfl, I.hok.fresh fresh, rfl, fun ys sq' => by rw [I.tuple_inj sq' sq]; exact at_⟩, ⟨x2.1, x2.2.1⟩, fun b hb => ?_⟩
    rw [upd_ne (Nat.ne_of_lt (Nat.lt_of_lt_of_le (x.lt b hb) fresh))]
    exact (foot b hb).1
  done X eP ew eK calm i pins s σ H E I foot x stop := by
    subst eP; subst ew; subst eK
    obtain ⟨xs, sq, rfl⟩ := stop
    obtain ⟨its, rel, tup, _⟩ := I.tuple sq
    have W := WalksT.enumFrom (prog := X.prog) (w := X.w) (A := X.A) 0 (Draws.tuple (A := X.A.in1) (I.ok.hd calm) it a na its.toArray) e ne (by simp [ne, nb.symm]) (by simp)
    have len : xs.length = its.toArray.size := by rw [List.size_toArray]; exact rel.length
    rw [len] at x
    exact W.done s _ _ ⟨x.1, x.2, tup⟩ fun h' tk same => ⟨rfl, I.turnedL (t' := tk) same foot⟩
end
def iEnumT (K : PySem.W.Frag) (ta : TA) : TI := fun σ H R => ta σ H fun vs H1 => ∃ a xs, vs = [.ref a] ∧ SqT K H1 a xs ∧ R (IteT K a) H1
theorem pi_enumT {X : Cx} {e : Expr} {ta : TA} {p pos tpos : Pos} {elts : List Expr} {kk : Nat} (hg : Gl X "enumerate") (hm : X.mg "enumerate" = none) (ha : PA X [e] ta) (hs : starEach [e] X.env = [(false, eval e X.env)] := by rfl) :
    PI X (.Tuple elts kk tpos) (.Call (.Name "enumerate" p) [e] [] pos) (iEnumT X.K ta) where
  run pins s σ H R I h := Call_ (ld_blt I hg hm boot_enumerate (PyProof.Rows.callWith_type1 (thn (ha.run pos pins s σ H _ I h) fun us s1 b => by
    obtain ⟨vs, H1, J, rel, a, xs, rfl, sq, q⟩ := b
    obtain ⟨u, rfl, eu⟩ := vals1 rel
    have eu : u = Value.ref a := eu
    subst eu
    obtain ⟨its, _, tup, _⟩ := J.tuple sq
    have la : a < s1.heap.objs.size := tup.elim fun _ r => Heap.lt_size r.1
    have sz : (s1.heap.push (tupIt a)).objs.size = s1.heap.objs.size + 1 := Heap.size_push ..
    have all : ∀ b o, s1.heap.get? b = some o → ((s1.heap.push (tupIt a)).push (enumO s1.heap.objs.size)).get? b = some o := fun b o g => Heap.get?_push_of_some _ (Heap.get?_push_of_some _ g)
    have isE : ((s1.heap.push (tupIt a)).push (enumO s1.heap.objs.size)).get? (s1.heap.objs.size + 1) = some (enumO s1.heap.objs.size) := by rw [← sz]; exact Heap.get?_push_size _ rfl
    refine callType_new F.called_enumerate (by decide) (F.typeCall_enumerate_1 _) (F.newCall_enumerate_1 _) (fun obj => F.args_object_init_2 obj _) F.entry_enumerate_new (enum_new (begins_tuple a its.toArray)) ⟨tup, ?_⟩
    show _ ∧ _
    rw [sz]
    refine ⟨⟨_, isE, rfl⟩, wpAny_pyIter_enum (e := s1.heap.objs.size + 1) isE ⟨s1.heap.objs.size + 1, [s1.heap.objs.size + 1, s1.heap.objs.size], EnAt a (s1.heap.objs.size + 1) s1.heap.objs.size, IteT X.K a, H1, rfl, J.kept (t' := s1.toks) all, turn_enumT (Nat.succ_ne_self _) (Nat.ne_of_lt la) (Nat.ne_of_lt (Nat.lt_succ_of_lt la)), ⟨⟨.none, isE⟩, _, Heap.get?_push_of_some _ (Heap.get?_push_size _ rfl), rfl, rfl⟩, fun b hb => ?_, q⟩⟩
    have le : s1.heap.objs.size ≤ b := by
      rcases List.mem_cons.mp hb with rfl | hb
      · exact Nat.le_add_right _ 1
      · rw [List.mem_singleton.mp hb]; exact Nat.le.refl
    exact J.fpOk le (J.hok.fresh le)) hs rfl))
def enumT (ks : List T) : List T := ks.mapIdx fun i t => .nd .tup [.int (i : Nat), t]
def enumF : List T → Option (List T)
  | [t] => (kidsI t).map enumT
  | _ => none
section
variable {g : Gc} {X : Cx} {e e' : Expr} {fs : M (List T)} {e1 b1 : List Nat} {pos p2 tpos : Pos} {elts : List Expr} {kk : Nat}
theorem pair_rep {S : Addr → Prop} {H2 H3 : Hp} {p : Addr} {x y : V} {s t : T} (hp : H2 p = none) (eH : H3 = upd H2 p (.tup [x, y])) (rx : Rp g S H2 s x []) (ry : Rp g S H2 t y []) : Ext H2 H3 ∧ Rp g S H3 (.nd .tup [s, t]) (.ref p) [] := by
  subst eH
  have ex := upd_ext (o := .tup [x, y]) hp
  exact ⟨ex, p, [x, y], [], rfl, .inl upd_same, rfl, .inr (.inr rfl), x, [y], [], [], rfl, rfl, rx.ext ex, y, [], [], [], rfl, rfl, ry.ext ex, rfl, rfl⟩
theorem it_enum (hK : g.K = X.K) (hg : Gl X "enumerate") (hm : X.mg "enumerate" = none) (ha : PAm g X [e] fs e1 b1) (hs : starEach [e] X.env = [(false, eval e X.env)] := by rfl) : PIm g X (.Tuple elts kk tpos) (.Call (.Name "enumerate" p2) [e] [] pos) (mRng enumF fs) e1 b1 :=
  PI.imp (PI.or (pi_enum hg hm ha hs) (pi_enumT hg hm ha hs)) fun σ H Rr ⟨S, Ts, A, items, Ts', R, q, k⟩ => by
    obtain ⟨ts, Ts1, q1, q2⟩ := bnd_some q
    obtain ⟨q3, q4⟩ := lft_some q2
    subst q4
    unfold enumF at q3
    split at q3
    · rename_i t
      cases hk : kidsI t with
      | none => rw [hk] at q3; cases q3
      | some ks =>
        rw [hk] at q3
        have q3 : enumT ks = items := by injection q3
        subst q3
        have hlen : (enumT ks).length = ks.length := by unfold enumT; simp
        have hget : ∀ (i : Nat) (u : T), ks[i]? = some u → (enumT ks)[i]? = some (.nd .tup [.int (i : Nat), u]) := fun i u h => by unfold enumT; rw [List.getElem?_mapIdx, h]; rfl
        obtain ⟨hi, et⟩ := kidsI_tup hk
        rcases et with et | ⟨kk', et, hkk⟩
        · subst et
          refine .inr ⟨S, Ts, A, _, Ts', R, q1, fun xs H1 S1 A1 Ax R1 rx ox p s => ?_⟩
          obtain ⟨y, ys, B1, B2, ey, eB, r1, r2⟩ := id rx
          obtain ⟨a, zs, B, ex, at_, eA, _, rl⟩ := r1
          have at_ : SqT g.K H1 a zs := At.sqT at_
          rw [hK] at at_
          have exs : xs = [.ref a] := by rw [ey, ex, r2.1]
          refine ⟨a, zs, exs, at_, k _ H1 S1 A1 R1 ⟨[.nd .tup ks], xs, Ax, rx, ox, ?_⟩ p s⟩
          subst exs
          have look : ∀ H2 S2, RpL g S2 H2 [.nd .tup ks] [.ref a] Ax → ∃ ys, SqT X.K H2 a ys ∧ ys.length = ks.length ∧ RpL g S2 H2 ks ys [] := fun H2 S2 ⟨y, ys, A1, A2, e1, _, r1, _⟩ => by
            injection e1 with e1 _
            subst e1
            obtain ⟨a', zs, B', ex', at', _, _, rl'⟩ := r1
            injection ex' with ex'
            subst ex'
            exact ⟨zs, hK ▸ At.sqT at', (RpL.length _ _ _ rl').symm, rl'.imm_one hi⟩
          refine ⟨fun i H2 hlt ⟨S2, hG⟩ => ?_, fun H2 ⟨S2, hG⟩ => ?_, fun i H2 x H3 hlt ⟨S2, hG⟩ yd => ?_⟩
          · obtain ⟨ys, h1, h2, _⟩ := look H2 S2 hG
            exact ⟨ys, ys[i]'(by rw [h2, ← hlen]; exact hlt), h1, by simp⟩
          · obtain ⟨ys, h1, h2, _⟩ := look H2 S2 hG
            exact ⟨ys, h1, h2.trans hlen.symm⟩
          · obtain ⟨T, z, ex, hT, eH, hz⟩ := yd
            subst ex
            obtain ⟨ys, h1, h2, h3⟩ := look H2 S2 hG
            refine ⟨by rw [eH]; exact upd_ext hT, fun S3 hG3 => ?_⟩
            obtain ⟨ys', h1', h2', h3'⟩ := look H2 S3 hG3
            obtain ⟨u, hu, ru⟩ := RpL.atI h3' (hz ys' h1')
            exact ⟨_, hget i u hu, (pair_rep (s := .int (i : Nat)) hT eH ⟨rfl, rfl⟩ ru).2⟩
        · subst et
          refine .inl ⟨S, Ts, A, _, Ts', R, q1, fun xs H1 S1 A1 Ax R1 rx ox p s => ?_⟩
          obtain ⟨y, ys, B1, B2, ey, eB, r1, r2⟩ := id rx
          obtain ⟨a, zs, B, ex, at_, eA, _, rl⟩ := r1
          have at_ := At.sqAny hkk at_
          rw [hK] at at_
          have exs : xs = [.ref a] := by rw [ey, ex, r2.1]
          refine ⟨a, zs, exs, at_, k _ H1 S1 A1 R1 ⟨[.nd kk' ks], xs, Ax, rx, ox, ?_⟩ p s⟩
          subst exs
          have look : ∀ H2 S2, RpL g S2 H2 [.nd kk' ks] [.ref a] Ax → ∃ ys, SqL X.K H2 a ys ∧ ys.length = ks.length ∧ RpL g S2 H2 ks ys [] := fun H2 S2 ⟨y, ys, A1, A2, e1, _, r1, _⟩ => by
            injection e1 with e1 _
            subst e1
            obtain ⟨a', zs, B', ex', at', _, _, rl'⟩ := r1
            injection ex' with ex'
            subst ex'
            exact ⟨zs, hK ▸ At.sqAny hkk at', (RpL.length _ _ _ rl').symm, rl'.imm_one hi⟩
          refine ⟨fun i H2 hlt ⟨S2, hG⟩ => ?_, fun H2 ⟨S2, hG⟩ => ?_, fun i H2 x H3 hlt ⟨S2, hG⟩ yd => ?_⟩
          · obtain ⟨ys, h1, h2, _⟩ := look H2 S2 hG
            exact ⟨ys, ys[i]'(by rw [h2, ← hlen]; exact hlt), h1, by simp⟩
          · obtain ⟨ys, h1, h2, _⟩ := look H2 S2 hG
            exact ⟨ys, h1, Nat.le_of_eq (h2.trans hlen.symm)⟩
          · obtain ⟨T, z, ex, hT, eH, hz⟩ := yd
            subst ex
            refine ⟨by rw [eH]; exact upd_ext hT, fun S3 hG3 => ?_⟩
            obtain ⟨ys', h1', h2', h3'⟩ := look H2 S3 hG3
            obtain ⟨u, hu, ru⟩ := RpL.atI h3' (hz ys' h1')
            exact ⟨_, hget i u hu, (pair_rep (s := .int (i : Nat)) hT eH ⟨rfl, rfl⟩ ru).2⟩
    · cases q3
end
end MI
namespace MI
open PySem PySem.Spec PyProof.Rows L2
def subT : List Nat → T → Option T
  | [], t => some t
  | j :: p, .nd _ ts => match ts[j]? with
    | some u => subT p u
    | none => none
  | _ :: _, _ => none
def setT : List Nat → T → T → T
  | [], _, n => n
  | j :: p, .nd k ts, n => .nd k (ts.set j (setT p (ts.getD j .dead) n))
  | _ :: _, t, _ => t
def Pl (g : Gc) (S : Addr → Prop) (H : Hp) : List Nat → T → V → List Addr → V → T → List Addr → Prop
  | [], t, x, A, y, u, B => y = x ∧ u = t ∧ B = A ∧ Rp g S H t x A
  | j :: p, .nd k ts, x, A, y, u, B => ∃ a xs B1 B2 B3 z t', x = .ref a ∧ At g S H k a xs ∧ A = (if k.own then a :: (B1 ++ (B2 ++ B3)) else B1 ++ (B2 ++ B3)) ∧ (k.own = true ∨ k.isTup = true ∨ B1 ++ (B2 ++ B3) = []) ∧ xs[j]? = some z ∧ ts[j]? = some t' ∧ ts.length = xs.length ∧
      RpL g S H (ts.take j) (xs.take j) B1 ∧ RpL g S H (ts.drop (j + 1)) (xs.drop (j + 1)) B3 ∧ Pl g S H p t' z B2 y u B
  | _ :: _, _, _, _, _, _, _ => False
section
variable {g : Gc} {S S' : Addr → Prop} {H H' : Hp} {M : Addr → Prop}
theorem RpL.split : ∀ (ts : List T) (xs : List V) (A : List Addr), RpL g S H ts xs A → ∀ (j : Nat) (u : T), ts[j]? = some u → ∃ z B1 B2 B3, xs[j]? = some z ∧ A = B1 ++ (B2 ++ B3) ∧ Rp g S H u z B2 ∧ RpL g S H (ts.take j) (xs.take j) B1 ∧ RpL g S H (ts.drop (j + 1)) (xs.drop (j + 1)) B3
  | [], _, _, _, j, u, e => by simp at e
  | t :: ts, xs, A, h, j, u, e => by
    obtain ⟨y, ys, A1, A2, e1, e2, r1, r2⟩ := h
    subst e1; subst e2
    cases j with
    | zero =>
      have e : t = u := by simpa using e
      subst e
      exact ⟨y, [], A1, A2, rfl, rfl, r1, ⟨rfl, rfl⟩, by simpa using r2⟩
    | succ j =>
      obtain ⟨z, B1, B2, B3, h1, h2, h3, h4, h5⟩ := RpL.split ts ys A2 r2 j u (by simpa using e)
      exact ⟨z, A1 ++ B1, B2, B3, by simpa using h1, by rw [h2]; simp, h3, ⟨y, ys.take j, A1, B1, by simp, rfl, r1, h4⟩, by simpa using h5⟩
theorem RpL.join {ts : List T} {xs : List V} {j : Nat} {u' : T} {z : V} {B1 B2 B3 : List Addr} (hj : j < ts.length) (hx : xs[j]? = some z) (hl : ts.length = xs.length) (h1 : RpL g S H (ts.take j) (xs.take j) B1) (h2 : Rp g S H u' z B2) (h3 : RpL g S H (ts.drop (j + 1)) (xs.drop (j + 1)) B3) : RpL g S H (ts.set j u') xs (B1 ++ (B2 ++ B3)) := by
  have e1 : ts.set j u' = ts.take j ++ (u' :: ts.drop (j + 1)) := by
    rw [List.set_eq_take_append_cons_drop, if_pos hj]
  have e2 : xs = xs.take j ++ (z :: xs.drop (j + 1)) := by
    have hj2 : j < xs.length := by omega
    have ez : xs[j] = z := by
      have := List.getElem?_eq_some_iff.mp hx
      exact this.2
    have e := (List.take_append_drop j xs).symm
    rw [List.drop_eq_getElem_cons hj2, ez] at e
    exact e
  rw [e1, e2]
  have e3 : (xs.take j ++ (z :: xs.drop (j + 1))).take j = xs.take j := by rw [← e2]
  exact RpL.append _ _ _ _ _ _ h1 ⟨z, xs.drop (j + 1), B2, B3, rfl, rfl, h2, h3⟩
theorem Pl.keepF (kp : ∀ a o, H a = some o → ¬ M a → fixO H' a o) (hm : ∀ a, M a → Mut (H a)) (hS : ∀ a, S a → ¬ M a) (hs : ∀ a, S a → S' a) :
    ∀ (p : List Nat) (t : T) (x : V) (A : List Addr) (y : V) (u : T) (B : List Addr), Pl g S H p t x A y u B → (∀ a ∈ A, ¬ M a) → Pl g S' H' p t x A y u B
  | [], t, x, A, _, _, _, h, hA => ⟨h.1, h.2.1, h.2.2.1, Rp.keepF kp hm hS hs t x A h.2.2.2 hA⟩
  | j :: p, .nd k ts, x, A, y, u, B, h, hA => by
    obtain ⟨a, xs, B1, B2, B3, z, t', ex, at_, eA, c, hz, ht, hl, r1, r3, h⟩ := h
    have hB : ∀ b ∈ B1 ++ (B2 ++ B3), ¬ M b := fun b hb => hA b (by
      rw [eA]
      split
      · exact List.mem_cons_of_mem _ hb
      · exact hb)
    refine ⟨a, xs, B1, B2, B3, z, t', ex, at_.keepF kp hm hS hs fun ho => hA a (by rw [eA, if_pos ho]; exact List.mem_cons_self), eA, c, hz, ht, hl, RpL.keepF kp hm hS hs _ _ _ r1 fun b hb => hB b (List.mem_append_left _ hb),
      RpL.keepF kp hm hS hs _ _ _ r3 fun b hb => hB b (List.mem_append_right _ (List.mem_append_right _ hb)), Pl.keepF kp hm hS hs p t' z B2 y u B h fun b hb => hB b (List.mem_append_right _ (List.mem_append_left _ hb))⟩
  | _ :: _, .dead, _, _, _, _, _, h, _ => h
  | _ :: _, .non, _, _, _, _, _, h, _ => h
  | _ :: _, .bl _, _, _, _, _, _, h, _ => h
  | _ :: _, .int _, _, _, _, _, _, h, _ => h
  | _ :: _, .str _, _, _, _, _, _, h, _ => h
theorem Pl.rep : ∀ (p : List Nat) (t : T) (x : V) (A : List Addr) (y : V) (u : T) (B : List Addr), Pl g S H p t x A y u B → Rp g S H u y B ∧ B.Sublist A ∧ subT p t = some u
  | [], t, x, A, _, _, _, h => by
    obtain ⟨h1, h2, h3, h4⟩ := h
    subst h1 h2 h3
    exact ⟨h4, List.Sublist.refl _, rfl⟩
  | j :: p, .nd k ts, x, A, y, u, B, h => by
    obtain ⟨a, xs, B1, B2, B3, z, t', ex, at_, eA, c, hz, ht, hl, r1, r3, h⟩ := h
    obtain ⟨h1, h2, h3⟩ := Pl.rep p t' z B2 y u B h
    refine ⟨h1, ?_, by rw [subT, ht]; exact h3⟩
    have h4 : B.Sublist (B1 ++ (B2 ++ B3)) := h2.trans ((List.sublist_append_left _ _).trans (List.sublist_append_right _ _))
    rw [eA]
    split
    · exact h4.trans (List.sublist_cons_self _ _)
    · exact h4
  | _ :: _, .dead, _, _, _, _, _, h => h.elim
  | _ :: _, .non, _, _, _, _, _, h => h.elim
  | _ :: _, .bl _, _, _, _, _, _, h => h.elim
  | _ :: _, .int _, _, _, _, _, _, h => h.elim
  | _ :: _, .str _, _, _, _, _, _, h => h.elim
theorem Pl.node {a : Addr} {o' : HO} {k k' : Kd} {ts ts' : List T} {N : List Addr} (ho : k.own = true) (ho' : k'.own = true) (hm : Mut (H a)) :
    ∀ (p : List Nat) (t : T) (x : V) (A : List Addr) (B : List Addr), Pl g S H p t x A (.ref a) (.nd k ts) B → A.Nodup → (∀ b ∈ A, ¬ S b) → (∀ b ∈ N, b ∉ A) →
      (∀ xs B0, At g S H k a xs → RpL g S H ts xs B0 → B = a :: B0 → ∃ xs' B', At g S (upd H a o') k' a xs' ∧ RpL g S (upd H a o') ts' xs' B' ∧ B'.Nodup ∧ ∀ b ∈ B', b ∈ B0 ∨ b ∈ N) →
      a ∈ A ∧ ∃ A', Rp g S (upd H a o') (setT p t (.nd k' ts')) x A' ∧ A'.Nodup ∧ ∀ b ∈ A', b ∈ A ∨ b ∈ N
  | [], t, x, A, B, h, nd, ns, hN, new => by
    obtain ⟨h1, h2, h3, h4⟩ := h
    subst h1 h2 h3
    obtain ⟨a', xs, B0, ex, at_, eA, c, rl⟩ := h4
    injection ex with ex
    subst ex
    rw [if_pos ho] at eA
    subst eA
    obtain ⟨xs', B', n1, n2, n3, n4⟩ := new xs B0 at_ rl rfl
    refine ⟨List.mem_cons_self, a :: B', ⟨a, xs', B', rfl, n1, by rw [if_pos ho'], .inl ho', n2⟩, List.nodup_cons.mpr ⟨fun z => ?_, n3⟩, fun b hb => ?_⟩
    · rcases n4 a z with h | h
      · exact (List.nodup_cons.mp nd).1 h
      · exact hN a h List.mem_cons_self
    · rcases List.mem_cons.mp hb with rfl | hb
      · exact .inl List.mem_cons_self
      · rcases n4 b hb with h | h
        · exact .inl (List.mem_cons_of_mem _ h)
        · exact .inr h
  | j :: p, .nd k0 ts0, x, A, B, h, nd, ns, hN, new => by
    obtain ⟨a0, xs, B1, B2, B3, z, t', ex, at_, eA, c, hz, ht, hl, r1, r3, h⟩ := h
    have hsub : (B1 ++ (B2 ++ B3)).Sublist A := by
      rw [eA]
      split
      · exact List.sublist_cons_self _ _
      · exact List.Sublist.refl _
    have nd0 := nd.sublist hsub
    obtain ⟨nB1, nB23, d1⟩ := List.nodup_append.mp nd0
    obtain ⟨nB2, nB3, d2⟩ := List.nodup_append.mp nB23
    have in0 : ∀ b ∈ B2, b ∈ A := fun b hb => hsub.subset (List.mem_append_right _ (List.mem_append_left _ hb))
    obtain ⟨ha, A2', rn, ndn, hn⟩ := Pl.node ho ho' hm p t' z B2 B h nB2 (fun b hb => ns b (in0 b hb)) (fun b hb z => hN b hb (in0 b z)) new
    have haA := in0 a ha
    have nS : ¬ S a := ns a haA
    have kp : ∀ b o, H b = some o → ¬ (b = a) → upd H a o' b = some o := fun b o e n => by rw [upd_ne n]; exact e
    have hm' : ∀ b, b = a → Mut (H b) := fun b e => by rw [e]; exact hm
    have hS' : ∀ b, S b → ¬ (b = a) := fun b h e => nS (by rw [← e]; exact h)
    have r1' := RpL.keep (M := fun b => b = a) kp hm' hS' (fun _ h => h) _ _ _ r1 fun b hb e => d1 b hb a (List.mem_append_left _ ha) e
    have r3' := RpL.keep (M := fun b => b = a) kp hm' hS' (fun _ h => h) _ _ _ r3 fun b hb e => d2 a ha b hb e.symm
    have at' : At g S (upd H a o') k0 a0 xs := at_.keep (M := fun b => b = a) kp hm' hS' (fun _ h => h) fun ho0 e => by
      rw [eA, if_pos ho0, e] at nd
      exact (List.nodup_cons.mp nd).1 (List.mem_append_right _ (List.mem_append_left _ ha))
    have hj : j < ts0.length := (List.getElem?_eq_some_iff.mp ht).1
    have eg : ts0.getD j .dead = t' := by rw [List.getD_eq_getElem?_getD, ht]; rfl
    have rj := RpL.join hj hz hl r1' rn r3'
    have ndj : (B1 ++ (A2' ++ B3)).Nodup := by
      refine List.nodup_append.mpr ⟨nB1, List.nodup_append.mpr ⟨ndn, nB3, fun b hb b' hb' e => ?_⟩, fun b hb b' hb' e => ?_⟩
      · subst e
        rcases hn b hb with h | h
        · exact d2 b h b hb' rfl
        · exact hN b h (hsub.subset (List.mem_append_right _ (List.mem_append_right _ hb')))
      · subst e
        rcases List.mem_append.mp hb' with hb' | hb'
        · rcases hn b hb' with h | h
          · exact d1 b hb b (List.mem_append_left _ h) rfl
          · exact hN b h (hsub.subset (List.mem_append_left _ hb))
        · exact d1 b hb b (List.mem_append_right _ hb') rfl
    have hjn : ∀ b ∈ B1 ++ (A2' ++ B3), b ∈ B1 ++ (B2 ++ B3) ∨ b ∈ N := fun b hb => by
      rcases List.mem_append.mp hb with hb | hb
      · exact .inl (List.mem_append_left _ hb)
      · rcases List.mem_append.mp hb with hb | hb
        · rcases hn b hb with h | h
          · exact .inl (List.mem_append_right _ (List.mem_append_left _ h))
          · exact .inr h
        · exact .inl (List.mem_append_right _ (List.mem_append_right _ hb))
    refine ⟨haA, if k0.own then a0 :: (B1 ++ (A2' ++ B3)) else B1 ++ (A2' ++ B3), ⟨a0, xs, B1 ++ (A2' ++ B3), ex, at', rfl, ?_, by rw [eg]; exact rj⟩, ?_, fun b hb => ?_⟩
    · rcases c with c | c | c
      · exact .inl c
      · exact .inr (.inl c)
      · rw [c] at hsub
        have : B2 = [] := by
          have := List.append_eq_nil_iff.mp c
          exact (List.append_eq_nil_iff.mp this.2).1
        rw [this] at ha
        exact nomatch ha
    · split
      · rename_i h0
        refine List.nodup_cons.mpr ⟨fun z => ?_, ndj⟩
        have na : a0 ∉ B1 ++ (B2 ++ B3) := by
          rw [eA, if_pos h0] at nd
          exact (List.nodup_cons.mp nd).1
        rcases hjn a0 z with h | h
        · exact na h
        · exact hN a0 h (by rw [eA, if_pos h0]; exact List.mem_cons_self)
      · exact ndj
    · split at hb
      · rename_i h0
        rcases List.mem_cons.mp hb with rfl | hb
        · exact .inl (by rw [eA, if_pos h0]; exact List.mem_cons_self)
        · exact (hjn b hb).imp (fun z => hsub.subset z) id
      · exact (hjn b hb).imp (fun z => hsub.subset z) id
  | _ :: _, .dead, _, _, _, h, _, _, _, _ => h.elim
  | _ :: _, .non, _, _, _, h, _, _, _, _ => h.elim
  | _ :: _, .bl _, _, _, _, h, _, _, _, _ => h.elim
  | _ :: _, .int _, _, _, _, h, _, _, _, _ => h.elim
  | _ :: _, .str _, _, _, _, h, _, _, _, _ => h.elim
end
end MI
namespace MI
open PySem PySem.Spec PyProof.Rows L2
def T.ownNd : T → Bool
  | .nd k _ => k.own
  | _ => false
section
variable {g : Gc} {S S1 S2 : Addr → Prop} {H H1 H2 : Hp} {A A1 A2 : Nat → List Addr} {σ σ2 : L2.St} {Ts Ts1 Ts2 : List T} {eff bo : List Nat} {Ax : List Addr}
theorem SR.node {i : Nat} {x0 : V} {p : List Nat} {a : Addr} {n n' : T} {B Bn N : List Addr} {o' : HO} (R : SR g S H σ Ts A) (hx : σ[i]? = some (some x0)) (pl : Pl g S H p (slot Ts i) x0 (A i) (.ref a) n B) (ho : n.ownNd = true) (ho' : n'.ownNd = true)
    (hN : ∀ b ∈ N, ¬ S b ∧ ∀ j, b ∉ A j) (rn : Rp g S (upd H a o') n' (.ref a) (a :: Bn)) (nd : (a :: Bn).Nodup) (hB : ∀ b ∈ Bn, b ∈ B ∨ b ∈ N) :
    ∃ A', SR g S (upd H a o') σ (Ts.set i (setT p (slot Ts i) n')) A' ∧ (∀ j, j ≠ i → A' j = A j) ∧ (∀ b ∈ A' i, b ∈ A i ∨ b ∈ N) ∧ a ∈ A i := by
  cases n with
  | nd k ts =>
    cases n' with
    | nd k' ts' =>
      have hrep := Pl.rep _ _ _ _ _ _ _ pl
      have hm : Mut (H a) := by
        obtain ⟨a', xs, B0, ex, at_, _⟩ := hrep.1
        injection ex with ex
        subst ex
        exact at_.own_mut ho
      have hob : ∃ o, H a = some o ∧ (∀ ps, o ≠ .tbl ps) ∧ ∀ P, o ≠ .ext P := by
        obtain ⟨a', xs, B0, ex, at_, _⟩ := hrep.1
        injection ex with ex
        subst ex
        exact at_.own_ob ho
      have hno : ∀ ps, o' ≠ .tbl ps := by
        obtain ⟨a', xs, B0, ex, at_, _⟩ := rn
        injection ex with ex
        subst ex
        obtain ⟨o, h1, h2, _⟩ := at_.own_ob ho'
        rw [upd_same] at h1
        rw [Option.some.inj h1]
        exact h2
      obtain ⟨ha, A2, r2, nd2, h2⟩ := Pl.node (o' := o') (N := N) ho ho' hm p _ _ _ _ pl (R.nd i) (R.ns i) (fun b hb => (hN b hb).2 i) fun xs B0 at_ rl eB => by
        obtain ⟨a', xs', B', ex, at', eA, _, rl'⟩ := rn
        injection ex with ex
        subst ex
        have ho' : k'.own = true := ho'
        rw [if_pos ho'] at eA
        injection eA with _ eA
        subst eA
        refine ⟨xs', Bn, at', rl', (List.nodup_cons.mp nd).2, fun b hb => ?_⟩
        rcases hB b hb with h | h
        · rw [eB] at h
          rcases List.mem_cons.mp h with e | h
          · exact absurd (by rw [← e]; exact hb) (List.nodup_cons.mp nd).1
          · exact .inl h
        · exact .inr h
      have il : i < Ts.length := by rw [R.len]; exact (List.getElem?_eq_some_iff.mp hx).1
      have nS : ¬ S a := R.ns i a ha
      refine ⟨fun j => if j = i then A2 else A j, ⟨fun j => ?_, fun j => ?_, fun j l hjl b hb => ?_, fun j b hb => ?_, by rw [List.length_set]; exact R.len, ⟨fun b h => ?_, let ⟨o, h1, h2, h3⟩ := hob; tabs_upd R.tb h1 h2 h3 hno⟩⟩, fun j hj => if_neg hj, fun b hb => ?_, ha⟩
      · by_cases hj : j = i
        · subst hj
          rw [if_pos rfl, slot_set_eq il]
          exact .inr ⟨x0, by rw [List.getD_eq_getElem?_getD, hx]; rfl, r2⟩
        · rw [if_neg hj, slot_set_ne hj]
          rcases R.rep j with h | ⟨y, h1, h2⟩
          · exact .inl h
          · exact .inr ⟨y, h1, Rp.keep (M := fun b => b = a) (fun b o eo n => by rw [upd_ne n]; exact eo) (fun b e => by rw [e]; exact hm) (fun b h e => nS (by rw [← e]; exact h)) (fun _ h => h) _ _ _ h2 fun b hb e => R.dj i j (Ne.symm hj) a ha (by rw [← e]; exact hb)⟩
      · split
        · exact nd2
        · exact R.nd j
      · have hoff : ∀ b ∈ A2, ∀ l, l ≠ i → b ∉ A l := fun b hb l hl z => by
          rcases h2 b hb with h | h
          · exact R.dj i l (Ne.symm hl) b h z
          · exact (hN b h).2 l z
        split at hb
        · rename_i hj
          split
          · rename_i hl
            exact absurd (hj.trans hl.symm) hjl
          · rename_i hl
            exact hoff b hb l hl
        · rename_i hj
          split
          · exact fun z => hoff b z j hj hb
          · exact R.dj j l hjl b hb
      · split at hb
        · rcases h2 b hb with h | h
          · exact R.ns i b h
          · exact (hN b h).1
        · exact R.ns j b hb
      · have ne : b ≠ a := fun e => nS (by rw [← e]; exact h)
        rw [upd_ne ne]
        exact R.st.st b h
      · have hb : b ∈ A2 := by
          have e : (if i = i then A2 else A i) = A2 := if_pos rfl
          rw [← e]; exact hb
        exact h2 b hb
    | _ => cases ho'
  | _ => cases ho
theorem Po.wrote {i : Nat} {a : Addr} {o' : HO} {N : List Addr} (ha : a ∈ A1 i) (p : Po S H A S1 H1 A1) (hN : ∀ b ∈ N, (∃ j, b ∈ A j) ∨ noT (H b) = none) (h1 : ∀ j, j ≠ i → A2 j = A1 j) (h2 : ∀ b ∈ A2 i, b ∈ A1 i ∨ b ∈ N) : Po S H A S1 (upd H1 a o') A2 :=
  ⟨fun b o e n => fix_by fun nt => by
    have ne : b ≠ a := fun z => by
      rcases p.anew i a ha with ⟨j, hj⟩ | hn
      · exact n j (by rw [z]; exact hj)
      · rw [z] at e
        obtain ⟨ps, w⟩ := noT_at hn e
        exact nt ps w
    exact fix_upd ne (p.keep b o e n), p.sub, p.snew, fun j b hb => by
    by_cases hj : j = i
    · subst hj
      rcases h2 b hb with h | h
      · exact p.anew j b h
      · exact hN b h
    · rw [h1 j hj] at hb
      exact p.anew j b hb⟩
theorem Stb.wrote {i : Nat} {a : Addr} {o' : HO} {t : T} (R1 : SR g S1 H1 σ Ts1 A1) (ha : a ∈ A1 i) (s : Stb eff H Ts A H1 Ts1 A1) (h1 : ∀ j, j ≠ i → A2 j = A1 j) : Stb (eff ++ [i]) H Ts A (upd H1 a o') (Ts1.set i t) A2 := fun j hj => by
  have hji : j ≠ i := fun z => hj (by simp [z])
  obtain ⟨x1, x2, x3⟩ := s j fun z => hj (List.mem_append_left _ z)
  refine ⟨(slot_set_ne hji).trans x1, (h1 j hji).trans x2, fun b hb o e => ?_⟩
  have ne : b ≠ a := fun z => R1.dj i j (Ne.symm hji) a ha (by rw [x2, ← z]; exact hb)
  rw [upd_ne ne]
  exact x3 b hb o e
end
def TL (g : Gc) (mp : M (List Nat)) (eff : List Nat) (i : Nat) : TE := fun σ H Q => ∃ S Ts A p Ts', SR g S H σ Ts A ∧ mp Ts = some (p, Ts') ∧
  ∀ x H' S' A' x0 u B, SR g S' H' σ Ts' A' → σ[i]? = some (some x0) → Pl g S' H' p (slot Ts' i) x0 (A' i) x u B → Po S H A S' H' A' → Stb eff H Ts A H' Ts' A' → Q x H'
def PLm (g : Gc) (X : Cx) (e : Expr) (mp : M (List Nat)) (eff : List Nat) (i : Nat) : Prop := PE X e (TL g mp eff i)
def mHere (i : Nat) : M (List Nat) := fun Ts => match slot Ts i with
  | .dead => none
  | _ => some ([], Ts)
def stepL (n : T) (k : T) : Option Nat := match n, k with
  | .nd (.lst _) ts, .int j => ixN ts.length j
  | _, _ => none
def stepF (c f : Str) (n : T) : Option Nat := match n with
  | .nd (.ins _ c' fs) _ => if c' = c then fs.findIdx? (fun x => x = f) else none
  | _ => none
def mStepL (i : Nat) (mp : M (List Nat)) (fk : M T) : M (List Nat) := bnd mp fun p => bnd fk fun k => fun Ts => match subT p (slot Ts i) with
  | some n => (match stepL n k with
    | some j => some (p ++ [j], Ts)
    | none => none)
  | none => none
def mStepF (i : Nat) (c f : Str) (mp : M (List Nat)) : M (List Nat) := bnd mp fun p => fun Ts => match subT p (slot Ts i) with
  | some n => (match stepF c f n with
    | some j => some (p ++ [j], Ts)
    | none => none)
  | none => none
section
variable {g : Gc} {X : Cx} {e o b : Expr} {es : List Expr} {mp : M (List Nat)} {fa fb fk : M T} {fs : M (List T)} {e1 e2 e3 b1 b2 : List Nat} {i : Nat} {pos p2 : Pos}
theorem pl_name (h : PE X e (tVar i)) : PLm g X e (mHere i) [] i := PE.imp h fun σ H Q ⟨S, Ts, A, p, Ts', R, q, k⟩ => by
  have key : slot Ts i ≠ .dead ∧ some (([] : List Nat), Ts) = some (p, Ts') := by
    unfold mHere at q
    cases e : slot Ts i <;> rw [e] at q <;> first | (cases q; done) | exact ⟨(fun z => nomatch z), q⟩
  obtain ⟨n, q⟩ := key
  injection q with q
  injection q with h1 h2
  subst h1; subst h2
  obtain ⟨x, hx, rx⟩ := R.at rfl n
  exact ⟨x, hx, k x H S A x _ _ R hx ⟨rfl, rfl, rfl, rx⟩ Po.refl Stb.refl⟩
theorem pl_held {S1 S2 : Addr → Prop} {H1 H2 : Hp} {σ : L2.St} {Ts1 Ts2 : List T} {A1 A2 : Nat → List Addr} {p : List Nat} {x0 x : V} {u : T} {B : List Addr} (R1 : SR g S1 H1 σ Ts1 A1) (pl : Pl g S1 H1 p (slot Ts1 i) x0 (A1 i) x u B) (p2 : Po S1 H1 A1 S2 H2 A2) (s2 : Stb e2 H1 Ts1 A1 H2 Ts2 A2) (d : i ∉ e2) : Pl g S2 H2 p (slot Ts2 i) x0 (A2 i) x u B := by
  obtain ⟨s1, s3, s4⟩ := s2 i d
  rw [s1, s3]
  refine Pl.keepF (M := fun a => ∃ j, j ∈ e2 ∧ a ∈ A1 j) (fun a ob eo n => ?_) (fun a ⟨j, _, hj⟩ => R1.cells j a hj) (fun a hs ⟨j, _, hj⟩ => R1.ns j a hj hs) p2.sub _ _ _ _ _ _ _ pl fun a ha ⟨j, hj, hA⟩ => ?_
  · by_cases h : ∃ j, a ∈ A1 j
    · obtain ⟨j, hj⟩ := h
      by_cases he : j ∈ e2
      · exact absurd ⟨j, he, hj⟩ n
      · exact fix_of ((s2 j he).2.2 a hj ob eo)
    · exact p2.keep a ob eo fun j hj => h ⟨j, hj⟩
  · exact R1.dj i j (fun z => d (by rw [z]; exact hj)) a ha hA
def MutT (g : Gc) (r : V → List V → Hp → VK → Prop) (f : T → List T → Option (T × T)) : Prop := ∀ S H a n B0 args xs Ag res n' Q, Rp g S H n (.ref a) (a :: B0) → n.ownNd = true → RpL g S H args xs Ag → (a :: (B0 ++ Ag)).Nodup → ¬ S a → f n args = some (res, n') →
  (∀ z o' Bn, Rp g S (upd H a o') n' (.ref a) (a :: Bn) → n'.ownNd = true → Rp g S (upd H a o') res z [] → (a :: Bn).Nodup → (∀ b ∈ Bn, b ∈ B0 ∨ b ∈ Ag) → Q z (upd H a o')) → r (.ref a) xs H Q
def chk (i : Nat) (p : List Nat) (ck : T → Bool) : M Unit := fun Ts => match subT p (slot Ts i) with
  | some n => if ck n then some ((), Ts) else none
  | none => none
def mMut (i : Nat) (mp : M (List Nat)) (ck : T → Bool) (fs : M (List T)) (f : T → List T → Option (T × T)) : M T := bnd mp fun p => bnd (chk i p ck) fun _ => bnd fs fun ts => fun Ts => match subT p (slot Ts i) with
  | some n => if n.ownNd then (match f n ts with
    | some (res, n') => some (res, Ts.set i (setT p (slot Ts i) n'))
    | none => none) else none
  | none => none
theorem chk_some {p : List Nat} {ck : T → Bool} {Ts Ts' : List T} (h : chk i p ck Ts = some ((), Ts')) : Ts' = Ts ∧ ∀ n, subT p (slot Ts i) = some n → ck n = true := by
  unfold chk at h
  cases hn : subT p (slot Ts i) with
  | none => rw [hn] at h; cases h
  | some n =>
    rw [hn] at h
    have h : (if ck n then some ((), Ts) else none) = some ((), Ts') := h
    split at h
    · rename_i hc
      injection h with h
      injection h with _ h
      exact ⟨h.symm, fun m e => by injection e with e; rw [← e]; exact hc⟩
    · cases h
theorem mut_fin {S S1 : Addr → Prop} {H H1 : Hp} {σ : L2.St} {Ts Ts1 : List T} {A A1 : Nat → List Addr} {p : List Nat} {x0 x : V} {n res n' : T} {B : List Addr} {args : List T} {xs : List V} {Ag : List Addr} {r : V → List V → Hp → VK → Prop} {f : T → List T → Option (T × T)} {Q : VK}
    (hf : MutT g r f) (R : SR g S H σ Ts A) (R1 : SR g S1 H1 σ Ts1 A1) (hx : σ[i]? = some (some x0)) (pl : Pl g S1 H1 p (slot Ts1 i) x0 (A1 i) x n B) (ra : RpL g S1 H1 args xs Ag) (oa : Ow [] H A S1 A1 Ag) (p1 : Po S H A S1 H1 A1) (s1 : Stb e1 H Ts A H1 Ts1 A1) (ho : n.ownNd = true) (ef : f n args = some (res, n'))
    (k : ∀ x H' S' A' Ax, SR g S' H' σ (Ts1.set i (setT p (slot Ts1 i) n')) A' → Rp g S' H' res x Ax → Ow [] H A S' A' Ax → Po S H A S' H' A' → Stb (e1 ++ [i]) H Ts A H' (Ts1.set i (setT p (slot Ts1 i) n')) A' → Q x H') : r x xs H1 Q := by
  obtain ⟨rn, sub, _⟩ := Pl.rep _ _ _ _ _ _ _ pl
  cases n with
  | nd kk ts =>
    obtain ⟨a, xs0, B0, ex, at_, eA, c, rl⟩ := id rn
    have ho2 : kk.own = true := ho
    rw [if_pos ho2] at eA
    subst ex eA
    have ndB : (a :: B0).Nodup := (R1.nd i).sublist sub
    have inA : ∀ b ∈ a :: B0, b ∈ A1 i := fun b hb => sub.subset hb
    have ndall : (a :: (B0 ++ Ag)).Nodup := by
      have : ((a :: B0) ++ Ag).Nodup := List.nodup_append.mpr ⟨ndB, oa.nd rfl, fun b hb b' hb' e => by
        subst e
        exact oa.dj i (fun z => nomatch z) b hb' (inA b hb)⟩
      exact this
    refine hf S1 H1 a _ B0 args xs Ag res n' Q rn ho ra ndall (R1.ns i a (inA a List.mem_cons_self)) ef fun z o' Bn rn' hn' rz ndn hz => ?_
    obtain ⟨A', R', h1, h2, ha⟩ := R1.node (N := Ag) (o' := o') hx pl ho hn' (fun b hb => ⟨oa.ns b hb, fun j => oa.dj j (fun z => nomatch z) b hb⟩) rn' ndn fun b hb => by
      rcases hz b hb with h | h
      · exact .inl (List.mem_cons_of_mem _ h)
      · exact .inr h
    exact k z _ S1 A' [] R' rz Ow.nil (p1.wrote ha oa.new h1 h2) (s1.wrote R1 ha h1)
  | _ => cases ho
theorem mMut_some {ck : T → Bool} {f : T → List T → Option (T × T)} {Ts Ts' : List T} {res : T} (h : mMut i mp ck fs f Ts = some (res, Ts')) : ∃ p Ts1 args Ts2 n n', mp Ts = some (p, Ts1) ∧ (∀ n, subT p (slot Ts1 i) = some n → ck n = true) ∧ fs Ts1 = some (args, Ts2) ∧ subT p (slot Ts2 i) = some n ∧ n.ownNd = true ∧ f n args = some (res, n') ∧ Ts' = Ts2.set i (setT p (slot Ts2 i) n') := by
  obtain ⟨p, Ts1, q1, q2⟩ := bnd_some h
  obtain ⟨_, Ts1', qc, q2'⟩ := bnd_some q2
  obtain ⟨ec, hck⟩ := chk_some qc
  subst ec
  obtain ⟨args, Ts2, q3, q4⟩ := bnd_some q2'
  cases hn : subT p (slot Ts2 i) with
  | none => rw [hn] at q4; cases q4
  | some n =>
    rw [hn] at q4
    have q4 : (if n.ownNd then (match f n args with | some (res, n') => some (res, Ts2.set i (setT p (slot Ts2 i) n')) | none => none) else none) = some (res, Ts') := q4
    split at q4
    · rename_i ho
      cases hf : f n args with
      | none => rw [hf] at q4; cases q4
      | some pr =>
        obtain ⟨r0, n'⟩ := pr
        rw [hf] at q4
        have q4 : some (r0, Ts2.set i (setT p (slot Ts2 i) n')) = some (res, Ts') := q4
        injection q4 with q4
        injection q4 with h1 h2
        subst h1; subst h2
        exact ⟨p, Ts1', args, Ts2, n, n', q1, hck, q3, hn, ho, hf, rfl⟩
    · cases q4
theorem mut_r {r : V → List V → Hp → VK → Prop} {f : T → List T → Option (T × T)} {ck : T → Bool} {ty : String} (hf : MutT g r f) (d : i ∉ e2) (hty : ∀ S H n x B, Rp g S H n x B → ck n = true → tyV X.K ty x H) (σ : L2.St) (H : Hp) (Q : VK) (h : TM g (mMut i mp ck fs f) ((e1 ++ e2) ++ [i]) [] σ H Q) :
    tBM X.K ty r (TL g mp e1 i) (TMs g fs e2 []) σ H Q := by
  obtain ⟨S, Ts, A, res, Ts', R, q, k⟩ := h
  obtain ⟨p, Ts1, args, Ts2, n, n', q1, hck, q3, hn, ho, ef, eT⟩ := mMut_some q
  subst eT
  refine ⟨S, Ts, A, p, Ts1, R, q1, fun x H1 S1 A1 x0 u B R1 hx pl p1 s1 => ⟨?_, S1, Ts1, A1, args, Ts2, R1, q3, fun xs H2 S2 A2 Ag R2 ra oa p2 s2 => ?_⟩⟩
  · obtain ⟨r1, _, r3⟩ := Pl.rep _ _ _ _ _ _ _ pl
    exact hty S1 H1 u x B r1 (hck u r3)
  · have pl2 := pl_held R1 pl p2 s2 d
    have hu : u = n := by
      have := (Pl.rep _ _ _ _ _ _ _ pl2).2.2
      rw [hn] at this
      injection this with this
      exact this.symm
    subst hu
    exact mut_fin (e1 := e1 ++ e2) hf R R2 hx pl2 ra (oa.rebase p1) (p1.trans R p2) (s1.trans s2) ho ef k
def isLst : T → Bool
  | .nd (.lst _) _ => true
  | _ => false
theorem isLst_ty (hK : g.K = X.K) (S : Addr → Prop) (H : Hp) (n : T) (x : V) (B : List Addr) (r : Rp g S H n x B) (h : isLst n = true) : tyV X.K "list" x H := by
  unfold isLst at h
  split at h
  · obtain ⟨a, xs, B0, ex, at_, _⟩ := r
    subst ex
    exact .inl ⟨rfl, xs, hK ▸ at_.sqL⟩
  · cases h
theorem tm_mutL {name : Str} {id : String} {apos cpos : Pos} {r : V → List V → Hp → VK → Prop} {f : T → List T → Option (T × T)} (hK : g.K = X.K) (slot : Slot "list" name id) (hty : typeOf (.builtin id) = pure (.type "method_descriptor")) (hm : MtR X id r) (hf : MutT g r f) (ho : PLm g X o mp e1 i) (ha : PAm g X (e :: es) fs e2 [])
    (d : i ∉ e2 := by decide) (hbase : attributeBase o name X.env (eval o X.env) = eval o X.env := by rfl)
    (hfew : ((backTo cpos (starEach (e :: es) X.env)).all (fun x => !x.1) && (backToKw cpos (keywordEach [] X.env)).all (fun x => x.1.isSome)
      && decide ((e :: es).length + ([] : List Keyword).length + (if ([] : List Keyword).isEmpty then 0 else 1) < 30)) = true := by rfl)
    (hline : (apos.endLine == cpos.line) = true := by rfl) (hs : starEach (e :: es) X.env = (false, eval e X.env) :: starEach es X.env := by rfl) (hplain : (backTo cpos (starEach es X.env)).any (·.1) = false := by rfl) :
    PEm g X (.Call (.Attribute o name apos) (e :: es) [] cpos) (mMut i mp isLst fs f) ((e1 ++ e2) ++ [i]) [] :=
  PE.imp (pe_bm PySem.F.plainAttrs_list slot hty hm ho ha hbase hfew hline hs hplain) (mut_r hf d (isLst_ty hK))
end
end MI
namespace MI
open PySem PySem.Spec PyProof.Rows L2
section
variable {X : Cx}
end
def fAppend : T → List T → Option (T × T)
  | .nd (.lst true) ts, [v] => if ts.length < sizeLine then some (.non, .nd (.lst true) (ts ++ [v])) else none
  | _, _ => none
def fExtend : T → List T → Option (T × T)
  | .nd (.lst true) ts, [.nd (.lst true) us] => if ts.length + us.length ≤ sizeLine then some (.non, .nd (.lst true) (ts ++ us)) else none
  | .nd (.lst true) ts, [.nd .tup us] => if ts.length + us.length ≤ sizeLine then some (.non, .nd (.lst true) (ts ++ us)) else none
  | .nd (.lst true) ts, [.nd (.lst false) us] => if ts.length + us.length ≤ sizeLine then some (.non, .nd (.lst true) (ts ++ us)) else none
  | _, _ => none
section
variable {g : Gc} {S : Addr → Prop} {H : Hp}
theorem own_lst {a : Addr} {ts : List T} {B0 : List Addr} (r : Rp g S H (.nd (.lst true) ts) (.ref a) (a :: B0)) : ∃ xs, H a = some (.lst xs) ∧ RpL g S H ts xs B0 := by
  obtain ⟨a', xs, B, e, at_, eA, c, rl⟩ := r
  injection e with e
  subst e
  have eA : a :: B0 = a :: B := eA
  injection eA with _ eA
  subst eA
  exact ⟨xs, at_, rl⟩
theorem RpL.off {a : Addr} {o' : HO} {ts : List T} {xs ys : List V} {B : List Addr} (r : RpL g S H ts xs B) (ha : H a = some (.lst ys)) (hs : ¬ S a) (hn : a ∉ B) : RpL g S (upd H a o') ts xs B := RpL.grown r ha trivial hs hn
theorem Rp.off {a : Addr} {o' : HO} {t : T} {x : V} {ys : List V} {B : List Addr} (r : Rp g S H t x B) (ha : H a = some (.lst ys)) (hs : ¬ S a) (hn : a ∉ B) : Rp g S (upd H a o') t x B := by
  obtain ⟨y, zs, A1, A2, e1, e2, r1, r2⟩ := RpL.grown (o := o') (RpL.one r) ha trivial hs hn
  injection e1 with e1 e3
  subst e1
  have : A2 = [] := r2.2
  subst this
  rw [List.append_nil] at e2
  subst e2
  exact r1
theorem new_lst {a : Addr} {ts : List T} {xs : List V} {B : List Addr} (r : RpL g S (upd H a (.lst xs)) ts xs B) : Rp g S (upd H a (.lst xs)) (.nd (.lst true) ts) (.ref a) (a :: B) := ⟨a, xs, B, rfl, upd_same, rfl, .inl rfl, r⟩
theorem mut_append : MutT g rAppend fAppend := by
  intro S H a n B0 args xs Ag res n' Q rn ho ra nd ns ef k
  unfold fAppend at ef
  split at ef
  · split at ef
    · rename_i ts v hz
      injection ef with ef
      injection ef with h1 h2
      subst h1; subst h2
      obtain ⟨ys, hH, rl⟩ := own_lst rn
      obtain ⟨y, zs, A1, A2, e1, e2, r1, r2⟩ := ra
      obtain ⟨rfl, rfl⟩ := r2
      subst e1
      rw [List.append_nil] at e2
      subst e2
      obtain ⟨n1, n2⟩ := List.nodup_cons.mp nd
      have nB : a ∉ B0 := fun z => n1 (List.mem_append_left _ z)
      have nG : a ∉ Ag := fun z => n1 (List.mem_append_right _ z)
      refine ⟨a, ys, y, rfl, rfl, hH, by rw [← RpL.length _ _ _ rl]; exact hz, k .non _ (B0 ++ Ag) ?_ rfl ⟨rfl, rfl⟩ nd fun b hb => List.mem_append.mp hb⟩
      exact new_lst (RpL.append _ _ _ _ _ _ (rl.off hH ns nB) (RpL.one (r1.off hH ns nG)))
    · cases ef
  · cases ef
theorem RpL.take : ∀ (j : Nat) (ts : List T) (xs : List V) (A : List Addr), RpL g S H ts xs A → ∃ B, RpL g S H (ts.take j) (xs.take j) B ∧ B.Sublist A
  | 0, _, _, _, _ => ⟨[], ⟨rfl, rfl⟩, List.nil_sublist _⟩
  | _ + 1, [], _, _, h => ⟨[], ⟨by rw [h.1]; rfl, rfl⟩, List.nil_sublist _⟩
  | j + 1, t :: ts, xs, A, h => by
    obtain ⟨y, ys, A1, A2, e1, e2, r1, r2⟩ := h
    subst e1; subst e2
    obtain ⟨B, h1, h2⟩ := RpL.take j ts ys A2 r2
    exact ⟨A1 ++ B, ⟨y, ys.take j, A1, B, rfl, rfl, r1, h1⟩, List.Sublist.append (List.Sublist.refl _) h2⟩
theorem Rp.imm_one {t : T} {x : V} {A : List Addr} (r : Rp g S H t x A) (hi : t.imm = true) : Rp g S H t x [] := by
  have e := Rp.imm_nil _ _ _ r hi
  rw [← e]; exact r
end
end MI
namespace MI
open PySem L2
section
variable {g : Gc}
def oe2 (f f' : T → T → Option T) (a b : T) : Option T := match f a b with
  | some t => some t
  | none => f' a b
theorem OpT.or {r r' : R2} {f f' : T → T → Option T} (h : OpT g r f) (h' : OpT g r' f') : OpT g (fun x y H Q => r x y H Q ∨ r' x y H Q) (oe2 f f') := fun S H a b x y Ax Ay t Q ra rb e k => by
  unfold oe2 at e
  cases q : f a b with
  | some u => rw [q] at e; injection e with e; subst e; exact .inl (h S H a b x y Ax Ay u Q ra rb q k)
  | none => rw [q] at e; exact .inr (h' S H a b x y Ax Ay t Q ra rb e k)
def oeC (f f' : List T → Option T) (a : List T) : Option T := match f a with
  | some t => some t
  | none => f' a
theorem CallT.or {r r' : RC} {f f' : List T → Option T} (h : CallT g r f) (h' : CallT g r' f') : CallT g (fun x H Q => r x H Q ∨ r' x H Q) (oeC f f') := fun S H ts xs Ax t Q ra e k => by
  unfold oeC at e
  cases q : f ts with
  | some u => rw [q] at e; injection e with e; subst e; exact .inl (h S H ts xs Ax u Q ra q k)
  | none => rw [q] at e; exact .inr (h' S H ts xs Ax t Q ra e k)
theorem OpP.or {r r' : R2} {f f' : T → T → Option T} (h : OpP g r f) (h' : OpP g r' f') : OpP g (fun x y H Q => r x y H Q ∨ r' x y H Q) (oe2 f f') := fun S H a b x y Ax Ay t Q ra rb e k => by
  unfold oe2 at e
  cases q : f a b with
  | some u => rw [q] at e; injection e with e; subst e; exact .inl (h S H a b x y Ax Ay u Q ra rb q k)
  | none => rw [q] at e; exact .inr (h' S H a b x y Ax Ay t Q ra rb e k)
def fII (h : Int → Int → Option Int) (a b : T) : Option T := match a, b with
  | .int i, .int j => (match h i j with
    | some k => some (.int k)
    | none => none)
  | _, _ => none
def fIB (h : Int → Int → Bool) (a b : T) : Option T := match a, b with
  | .int i, .int j => some (.bl (h i j))
  | _, _ => none
theorem opt_fII {C : Int → Int → Prop} {h : Int → Int → Option Int} {k : Int → Int → Int} (hC : ∀ i j r, h i j = some r → C i j ∧ r = k i j) : OpT g (rI C fun i j => .int (k i j)) (fII h) := fun S H a b x y Ax Ay t Q ra rb e q => by
  unfold fII at e
  split at e
  · rename_i i j
    split at e
    · rename_i r hr
      injection e with e; subst e
      obtain ⟨c, rfl⟩ := hC i j r hr
      exact ⟨i, j, ra.1, rb.1, c, q _ H [] (New.atom ⟨rfl, rfl⟩)⟩
    · cases e
  · cases e
theorem opt_fII0 {h : Int → Int → Option Int} {k : Int → Int → Int} (hC : ∀ i j r, h i j = some r → r = k i j) : OpT g (rI0 fun i j => .int (k i j)) (fII h) := fun S H a b x y Ax Ay t Q ra rb e q => by
  unfold fII at e
  split at e
  · rename_i i j
    split at e
    · rename_i r hr
      injection e with e; subst e
      have c := hC i j r hr
      subst c
      exact ⟨i, j, ra.1, rb.1, q _ H [] (New.atom ⟨rfl, rfl⟩)⟩
    · cases e
  · cases e
theorem opt_fIB {h : Int → Int → Bool} : OpT g (rI0 fun i j => .bl (h i j)) (fIB h) := fun S H a b x y Ax Ay t Q ra rb e q => by
  unfold fIB at e
  split at e
  · rename_i i j
    injection e with e; subst e
    exact ⟨i, j, ra.1, rb.1, q _ H [] (New.atom ⟨rfl, rfl⟩)⟩
  · cases e
def iAdd (i j : Int) : Option Int := some (i + j)
def iSub (i j : Int) : Option Int := some (i - j)
def iXor (i j : Int) : Option Int := some (Builtin.bitXor i j)
def iMul (i j : Int) : Option Int := if i.natAbs.log2 + j.natAbs.log2 < 1000000 then some (i * j) else none
def iDiv (i j : Int) : Option Int := if 0 < j ∧ j.natAbs.log2 < 9000 then some (i / j) else none
def iMod (i j : Int) : Option Int := if 0 < j then some (i % j) else none
def iPow (i j : Int) : Option Int := if 0 ≤ j ∧ j ≤ 1000 ∧ i.natAbs ≤ 1000000 then some (i ^ j.toNat) else none
theorem opt_iAdd : OpT g (rI0 fun i j => .int (i + j)) (fII iAdd) := opt_fII0 (k := fun i j => i + j) fun i j r h => by injection h with h; exact h.symm
theorem opt_iMul : OpT g (rI CMulW fun i j => .int (i * j)) (fII iMul) := opt_fII (k := fun i j => i * j) fun i j r h => by
  unfold iMul at h
  split at h
  · rename_i c; injection h with h; exact ⟨c, h.symm⟩
  · cases h
theorem opt_iDiv : OpT g (rI CDivW fun i j => .int (i / j)) (fII iDiv) := opt_fII (k := fun i j => i / j) fun i j r h => by
  unfold iDiv at h
  split at h
  · rename_i c; injection h with h; exact ⟨c, h.symm⟩
  · cases h
theorem opt_iMod : OpT g (rI (fun _ j => 0 < j) fun i j => .int (i % j)) (fII iMod) := opt_fII (k := fun i j => i % j) fun i j r h => by
  unfold iMod at h
  split at h
  · rename_i c; injection h with h; exact ⟨c, h.symm⟩
  · cases h
theorem cpow {i j : Int} (h : 0 ≤ j ∧ j ≤ 1000 ∧ i.natAbs ≤ 1000000) : CPow i j := ⟨h.1, by omega, by have := h.2.2; omega⟩
theorem opt_iPow : OpT g (rI CPow fun i j => .int (i ^ j.toNat)) (fII iPow) := opt_fII (k := fun i j => i ^ j.toNat) fun i j r h => by
  unfold iPow at h
  split at h
  · rename_i c; injection h with h; exact ⟨cpow c, h.symm⟩
  · cases h
def fNeg (a : T) : Option T := match a with
  | .int i => some (.int (-i))
  | _ => none
theorem unt_neg : UnT g (rU fun i => .int (-i)) fNeg := fun S H a x Ax t Q ra e q => by
  unfold fNeg at e
  split at e
  · rename_i i
    injection e with e; subst e
    exact ⟨i, ra.1, q _ H [] (New.atom ⟨rfl, rfl⟩)⟩
  · cases e
def fAddS (a b : T) : Option T := match a, b with
  | .str i, .str j => if i.length + j.length ≤ sizeLine then some (.str (i ++ j)) else none
  | _, _ => none
theorem opt_addS : OpT g (fun x y H Q => ∃ i j, x = .str i ∧ y = .str j ∧ i.length + j.length ≤ sizeLine ∧ Q (.str (i ++ j)) H) fAddS := fun S H a b x y Ax Ay t Q ra rb e q => by
  unfold fAddS at e
  split at e
  · rename_i i j
    split at e
    · rename_i h
      injection e with e; subst e
      exact ⟨i, j, ra.1, rb.1, h, q _ H [] (New.atom ⟨rfl, rfl⟩)⟩
    · cases e
  · cases e
theorem New.node {S : Addr → Prop} {H : Hp} {p : Addr} {xs : List V} {ts : List T} (hp : H p = none) (r : RpL g S H ts xs []) : New g S H (upd H p (.lst xs)) (.nd (.lst true) ts) (.ref p) [p] where
  ext := upd_ext hp
  rep := ⟨p, xs, [], rfl, upd_same, rfl, .inl rfl, r.ext (upd_ext hp)⟩
  nd := List.nodup_cons.mpr ⟨(fun z => nomatch z), List.nodup_nil⟩
  new := fun a ha => by rw [List.mem_singleton.mp ha]; exact hp
theorem New.tupl {S : Addr → Prop} {H : Hp} {p : Addr} {xs : List V} {ts : List T} (hp : H p = none) (r : RpL g S H ts xs []) : New g S H (upd H p (.tup xs)) (.nd .tup ts) (.ref p) [] where
  ext := upd_ext hp
  rep := ⟨p, xs, [], rfl, .inl upd_same, rfl, .inr (.inl rfl), r.ext (upd_ext hp)⟩
  nd := List.nodup_nil
  new := fun a ha => nomatch ha
def kT (t : T) : Option (List T) := match t with
  | .nd .tup ts => if immL ts then some ts else none
  | _ => none
theorem kT_rep {S : Addr → Prop} {H : Hp} {t : T} {ks : List T} {x : V} {Ax : List Addr} (hk : kT t = some ks) (r : Rp g S H t x Ax) : ∃ p xs, x = .ref p ∧ At g S H .tup p xs ∧ RpL g S H ks xs [] := by
  unfold kT at hk
  split at hk
  · split at hk
    · rename_i hi
      injection hk with hk; subst hk
      obtain ⟨a, xs, B, e, at_, eA, c, r⟩ := r
      exact ⟨a, xs, e, at_, r.imm_one hi⟩
    · cases hk
  · cases hk
end
end MI
namespace MI
open PySem L2
section
variable {g : Gc}
def kLe (t : T) : Option (List T) := match t with
  | .nd (.lst _) ts => if immL ts then some ts else none
  | _ => none
theorem kLe_rep {S : Addr → Prop} {H : Hp} {t : T} {ks : List T} {x : V} {Ax : List Addr} (hk : kLe t = some ks) (r : Rp g S H t x Ax) : ∃ p xs, x = .ref p ∧ H p = some (.lst xs) ∧ RpL g S H ks xs [] := by
  unfold kLe at hk
  split at hk
  · split at hk
    · rename_i hi
      injection hk with hk; subst hk
      obtain ⟨a, xs, B, e, at_, eA, c, r⟩ := r
      exact ⟨a, xs, e, at_.lst, r.imm_one hi⟩
    · cases hk
  · cases hk
def fAddL (a b : T) : Option T := match kLe a, kLe b with
  | some xs, some ys => if xs.length + ys.length ≤ sizeLine then some (.nd (.lst true) (xs ++ ys)) else none
  | _, _ => none
theorem opt_addL : OpT g rCat fAddL := fun S H a b x y Ax Ay t Q ra rb e q => by
  unfold fAddL at e
  split at e
  · rename_i us ws ea eb
    split at e
    · rename_i h
      injection e with e; subst e
      obtain ⟨p, xs, e1, h1, r1⟩ := kLe_rep ea ra
      obtain ⟨p2, ys, e2, h2, r2⟩ := kLe_rep eb rb
      refine ⟨p, p2, xs, ys, e1, e2, h1, h2, by rw [← RpL.length _ _ _ r1, ← RpL.length _ _ _ r2]; exact h, fun l hl => ?_⟩
      exact q _ _ [l] (New.node hl (RpL.append _ _ _ _ _ _ r1 r2))
    · cases e
  · cases e
def fAddT (a b : T) : Option T := match kT a, kT b with
  | some xs, some ys => if xs.length + ys.length ≤ sizeLine then some (.nd .tup (xs ++ ys)) else none
  | _, _ => none
theorem opt_addT : OpT g (rCatA g.K) fAddT := fun S H a b x y Ax Ay t Q ra rb e q => by
  unfold fAddT at e
  split at e
  · rename_i us ws ea eb
    split at e
    · rename_i h
      injection e with e; subst e
      obtain ⟨p, xs, e1, h1, r1⟩ := kT_rep ea ra
      obtain ⟨p2, ys, e2, h2, r2⟩ := kT_rep eb rb
      have r12 := RpL.append _ _ _ _ _ _ r1 r2
      refine ⟨p, p2, xs, ys, e1, e2, At.sqT h1, At.sqT h2, by rw [← RpL.length _ _ _ r1, ← RpL.length _ _ _ r2]; exact h, fun z => ?_, fun _ z => ?_, fun _ _ l hl => ?_⟩
      · subst z
        exact q _ H [] (New.atom ⟨p2, ys, [], rfl, h2, rfl, .inr (.inl rfl), r12⟩)
      · subst z
        rw [List.append_nil] at r12
        exact q _ H [] (New.atom ⟨p, xs, [], rfl, h1, rfl, .inr (.inl rfl), r12⟩)
      · exact q _ _ [] (New.tupl hl r12)
    · cases e
  · cases e
def fMulL (a b : T) : Option T := match kLe a, b with
  | some xs, .int k => if k ≤ 1000000 ∧ -1000000 ≤ k ∧ xs.length * k.toNat ≤ sizeLine then some (.nd (.lst true) (List.replicate k.toNat xs).flatten) else none
  | _, _ => none
theorem RpL.rep {S : Addr → Prop} {H : Hp} {ts : List T} {xs : List V} (r : RpL g S H ts xs []) : ∀ n : Nat, RpL g S H (List.replicate n ts).flatten (List.replicate n xs).flatten []
  | 0 => ⟨rfl, rfl⟩
  | n + 1 => by
    rw [List.replicate_succ, List.replicate_succ, List.flatten_cons, List.flatten_cons]
    exact RpL.append _ _ [] _ _ [] r (RpL.rep r n)
theorem opt_mulL : OpT g rRep fMulL := fun S H a b x y Ax Ay t Q ra rb e q => by
  unfold fMulL at e
  split at e
  · rename_i us k ea
    split at e
    · rename_i h
      injection e with e; subst e
      obtain ⟨p, xs, e1, h1, r1⟩ := kLe_rep ea ra
      refine ⟨p, k, xs, e1, rb.1, h1, by omega, by omega, by rw [← RpL.length _ _ _ r1]; exact h.2.2, fun l hl => ?_⟩
      exact q _ _ [l] (New.node hl (r1.rep _))
    · cases e
  · cases e
def okS (x : Str) : Bool := x.cps.toList.all (fun c => Nat.blt c 0x110000)
theorem okS_ok {x : Str} (h : okS x = true) : PySem.PyData.strOk x = true := by
  unfold okS at h
  unfold PySem.PyData.strOk
  rw [← Array.all_toList]
  rw [List.all_eq_true] at h ⊢
  intro c hc
  have := h c hc
  exact decide_eq_true (Nat.blt_eq.mp this)
def Kd.seq : Kd → Bool
  | .tup => true
  | .scr => true
  | .lst _ => true
  | _ => false
mutual
def okD : Nat → T → Bool
  | _, .dead => false
  | _, .non => true
  | _, .bl _ => true
  | _, .int _ => true
  | _, .str s => okS s
  | n, .nd k ts => k.seq && (match n with
    | 0 => false
    | n + 1 => okDL n ts)
def okDL : Nat → List T → Bool
  | _, [] => true
  | n, t :: ts => okD n t && okDL n ts
end
mutual
def toD : T → PyData
  | .dead => .none
  | .non => .none
  | .bl b => .bool b
  | .int i => .int i
  | .str s => .str s
  | .nd k ts => if k.isTup then .tuple (toDL ts) else .list (toDL ts)
def toDL : List T → List PyData
  | [] => []
  | t :: ts => toD t :: toDL ts
end
def eqT : T → T → Bool := fun a b => PyData.eqv (toD a) (toD b)
mutual
theorem okD_ok {S : Addr → Prop} {H : Hp} : ∀ (t : T) (n : Nat) (x : V) (A : List Addr), okD n t = true → Rp g S H t x A → Dp g.K H x (toD t) ∧ (toD t).canLay0 = true ∧ (toD t).depth ≤ n
  | .dead, n, x, A, h, r => by rw [okD] at h; cases h
  | .non, n, x, A, h, r => by rw [r.1]; exact ⟨.non, rfl, Nat.zero_le _⟩
  | .bl b, n, x, A, h, r => by rw [r.1]; exact ⟨.bl b, rfl, Nat.zero_le _⟩
  | .int i, n, x, A, h, r => by rw [r.1]; exact ⟨.int i, rfl, Nat.zero_le _⟩
  | .str s, n, x, A, h, r => by
    rw [okD] at h
    rw [r.1]
    exact ⟨.str s, by unfold toD PyData.canLay0; exact okS_ok h, Nat.zero_le _⟩
  | .nd k ts, n, x, A, h, r => by
    obtain ⟨a, xs, B, e, at_, eA, c, rl⟩ := r
    unfold okD at h
    obtain ⟨hk, hn⟩ := Bool.and_eq_true_iff.mp h
    cases n with
    | zero => cases hn
    | succ n =>
      obtain ⟨d1, d2, d3⟩ := okDL_ok ts n xs B hn rl
      rw [e]
      unfold toD
      cases k with
      | tup =>
        rw [if_pos (show Kd.tup.isTup = true from rfl)]
        exact ⟨.tup (At.sqT at_) d1, by unfold PyData.canLay0; exact d2, by unfold PyData.depth; omega⟩
      | scr =>
        rw [if_neg (show ¬ Kd.scr.isTup = true from fun z => nomatch z)]
        exact ⟨.lst at_.sqS d1, by unfold PyData.canLay0; exact d2, by unfold PyData.depth; omega⟩
      | lst o =>
        rw [if_neg (show ¬ (Kd.lst o).isTup = true from fun z => nomatch z)]
        exact ⟨.lst at_.sqL d1, by unfold PyData.canLay0; exact d2, by unfold PyData.depth; omega⟩
      | dK o ks => cases hk
      | dT o ks => cases hk
      | ins o c fs => cases hk
      | exc c fs => cases hk
theorem okDL_ok {S : Addr → Prop} {H : Hp} : ∀ (ts : List T) (n : Nat) (xs : List V) (A : List Addr), okDL n ts = true → RpL g S H ts xs A → DpAll g.K H xs (toDL ts) ∧ PyData.canLayAll0 (toDL ts) = true ∧ PyData.depthAll (toDL ts) ≤ n
  | [], n, xs, A, h, r => by rw [r.1]; exact ⟨.nil, rfl, Nat.zero_le _⟩
  | t :: ts, n, xs, A, h, r => by
    rw [okDL] at h
    obtain ⟨h1, h2⟩ := Bool.and_eq_true_iff.mp h
    obtain ⟨y, ys, A1, A2, e1, e2, r1, r2⟩ := r
    obtain ⟨a1, a2, a3⟩ := okD_ok t n y A1 h1 r1
    obtain ⟨b1, b2, b3⟩ := okDL_ok ts n ys A2 h2 r2
    rw [e1]
    unfold toDL
    exact ⟨.cons a1 b1, by unfold PyData.canLayAll0; rw [a2, b2]; rfl, by unfold PyData.depthAll; omega⟩
end
theorem okD_sh {S : Addr → Prop} {H : Hp} {t : T} {x : V} {A : List Addr} (h : okD 60 t = true) (r : Rp g S H t x A) : Dp g.K H x (toD t) ∧ SeqAt.shaped (toD t) = true := by
  obtain ⟨a, b, c⟩ := okD_ok t 60 x A h r
  exact ⟨a, by unfold SeqAt.shaped; rw [b, decide_eq_true (by omega)]; rfl⟩
def fEq (a b : T) : Option T := if okD 60 a && okD 60 b then some (.bl (eqT a b)) else none
def fNe (a b : T) : Option T := if okD 60 a && okD 60 b then some (.bl (!eqT a b)) else none
theorem opt_ne : OpT g (rNeD g.K) fNe := fun S H a b x y Ax Ay t Q ra rb e q => by
  unfold fNe at e
  split at e
  · rename_i h
    obtain ⟨h1, h2⟩ := Bool.and_eq_true_iff.mp h
    injection e with e; subst e
    obtain ⟨a1, a2⟩ := okD_sh h1 ra
    obtain ⟨b1, b2⟩ := okD_sh h2 rb
    exact ⟨_, _, a1, b1, a2, b2, q _ H [] (New.atom ⟨rfl, rfl⟩)⟩
  · cases e
def T.isNon : T → Bool
  | .non => true
  | _ => false
def fIsN (neg : Bool) (a b : T) : Option T := match a, b with
  | .dead, _ => none
  | a, .non => some (.bl (if neg then !a.isNon else a.isNon))
  | _, _ => none
def fIsB (neg : Bool) (a b : T) : Option T := match a, b with
  | .bl p, .bl r => some (.bl (if neg then !decide (p = r) else decide (p = r)))
  | _, _ => none
def fSB (h : Str → Str → Bool) (a b : T) : Option T := match a, b with
  | .str i, .str j => some (.bl (h i j))
  | _, _ => none
theorem opt_fSB {h : Str → Str → Bool} : OpT g (fun x y H Q => ∃ i j, x = .str i ∧ y = .str j ∧ Q (.bl (h i j)) H) (fSB h) := fun S H a b x y Ax Ay t Q ra rb e q => by
  unfold fSB at e
  split at e
  · injection e with e; subst e
    exact ⟨_, _, ra.1, rb.1, q _ H [] (New.atom ⟨rfl, rfl⟩)⟩
  · cases e
def mFrz (fa : M T) : M T := bnd fa fun t => ret t.fz
theorem tm_frz {X : Cx} {e : Expr} {fa : M T} {e1 : List Nat} (h : PEm g X e fa e1 []) : PEm g X e (mFrz fa) e1 [] :=
  PE.imp h fun σ H Q ⟨S, Ts, A, t, Ts', R, e, k⟩ => by
    obtain ⟨t', Ts1, ea, e⟩ := bnd_some e
    have e : some (t'.fz, Ts1) = some (t, Ts') := e
    injection e with e
    injection e with h1 h2
    subst h1; subst h2
    refine ⟨S, Ts, A, t', Ts1, R, ea, fun x H' S' A' Ax R' rx o p s => ?_⟩
    have up : ∀ {u : T} {y : V} {B : List Addr}, Rp g S' H' u y B → Rp g (fun a => S' a ∨ a ∈ Ax) H' u y B := fun r => Rp.keep (M := fun _ => False) (fun a o h _ => h) (fun _ h => h.elim) (fun _ _ h => h) (fun _ h => .inl h) _ _ _ r fun _ _ h => h
    refine k x H' (fun a => S' a ∨ a ∈ Ax) A' [] ⟨fun i => ?_, R'.nd, R'.dj, fun i a ha => ?_, R'.len, ⟨fun a h => ?_, R'.tb⟩⟩ (Rp.fz (fun _ h => .inl h) t' x Ax rx fun a ha => .inr ha) Ow.nil ⟨p.keep, fun a h => .inl (p.sub a h), fun a h => ?_, p.anew⟩ s
    · rcases R'.rep i with h | ⟨y, h1, h2⟩
      · exact .inl h
      · exact .inr ⟨y, h1, up h2⟩
    · rintro (h | h)
      · exact R'.ns i a ha h
      · exact o.dj i (fun z => nomatch z) a h ha
    · rcases h with h | h
      · exact R'.st.st a h
      · have m := Rp.cells _ _ _ rx a h
        cases q : H' a with
        | none => rw [q] at m; exact m.elim
        | some ob => exact ⟨ob, rfl, mut_tbl (by rw [q] at m; exact m)⟩
    · rcases h with h | h
      · exact p.snew a h
      · exact .inr (o.new a h)
end
end MI
namespace MI
open PySem L2
section
variable {g : Gc} {X : Cx} {a b c : Expr} {rest : List Expr} {fa fb fc : M T} {e1 e2 e3 b1 b2 b3 : List Nat} {pos p2 p3 : Pos}
def bOf (t : T) : Option Bool := match t with
  | .bl b => some b
  | _ => none
def mAndV (fa fb : M T) : M T := bnd fa fun t => bnd (lft (bOf t)) fun c => if c then fb else ret (.bl false)
def mOrV (fa fb : M T) : M T := bnd fa fun t => bnd (lft (bOf t)) fun c => if c then ret (.bl true) else fb
def mNotV (fa : M T) : M T := bnd fa fun t => bnd (lft (bOf t)) fun c => ret (.bl (!c))
theorem ret_some {α : Type} {x y : α} {s s' : List T} (h : ret x s = some (y, s')) : x = y ∧ s = s' := by
  have h : some (x, s) = some (y, s') := h
  injection h with h
  injection h with h1 h2
  exact ⟨h1, h2⟩
def mChain (f f' : T → T → Option T) (fa fb fc : M T) : M T := bnd fa fun a => bnd fb fun b => bnd (lft (f a b)) fun z => bnd (lft (bOf z)) fun k => if k then bnd fc fun c => lft (f' b c) else ret (.bl false)
inductive Bt where
  | int | bool | str | tuple | list | dict
def Bt.nm : Bt → String
  | .int => "int"
  | .bool => "bool"
  | .str => "str"
  | .tuple => "tuple"
  | .list => "list"
  | .dict => "dict"
def isB (c : Bt) (t : T) : Option T := match t with
  | .non => some (.bl false)
  | .bl _ => some (.bl (match c with
    | .bool => true
    | .int => true
    | _ => false))
  | .int _ => some (.bl (match c with
    | .int => true
    | _ => false))
  | .str _ => some (.bl (match c with
    | .str => true
    | _ => false))
  | .nd .tup _ => some (.bl (match c with
    | .tuple => true
    | _ => false))
  | .nd .scr _ => some (.bl (match c with
    | .list => true
    | _ => false))
  | .nd (.lst _) _ => some (.bl (match c with
    | .list => true
    | _ => false))
  | .nd (.dK true _) _ => some (.bl (match c with
    | .dict => true
    | _ => false))
  | .nd (.dT true _) _ => some (.bl (match c with
    | .dict => true
    | _ => false))
  | _ => none
end
end MI
namespace MI
open PySem PyProof.Rows L2
def GA (A : Around) : Prop := A.guards = some []
theorem GA.deeper {A : Around} (h : GA A) (env : Env) : GA (A.deeper env) := h
theorem GA.in1 {A : Around} (h : GA A) : GA A.in1 := h
theorem GA.make {A : Around} (h : GA A) (C : Addr) (us : List Value) (kw : List (Str × Value)) : GA (A.under (.builtin "type.__call__" ⟨.ref C :: us, kw⟩)) := by
  unfold GA at h ⊢
  simp [Around.under, pushGuards, Code.guards, Code.isGuard, guardIds, h]
structure FnG (P : Program) (w : World) (K : PySem.W.Frag) (mg : Str → Option Value) (base : Heap) (CX : CXT) (k : Nat) (f : Addr) (fd : FuncData) (ps : List Str) (sp : Sp) : Prop where
  lenG : ∀ ys G R Z, sp ys G R Z → ys.length = ps.length
  runG : ∀ (B : Around) (out : List Env) (z : Shared) (G : Hp) (args : Args) (us : List Value) (ys : List V) (R : VK) (Z : XK), GA B → Room k B → Env0 P w K mg base B out z G → BindsTo z fd args (ps.zip us) → Vals ys us → sp ys G R Z →
    codeAny (model P w) B (.call (.ref f) args) (CR CX out P w G z R Z) z
theorem FnG.monoG {P : Program} {w : World} {K : PySem.W.Frag} {mg : Str → Option Value} {base : Heap} {CX : CXT} {j k : Nat} {f : Addr} {fd : FuncData} {ps : List Str} {sp : Sp} (F : FnG P w K mg base CX j f fd ps sp) (h : j ≤ k) :
    FnG P w K mg base CX k f fd ps sp := ⟨F.lenG, fun B out z G args us ys R Z hG hr => F.runG B out z G args us ys R Z hG (hr.mono h)⟩
theorem kept_par {N ps : List Str} {scope : Scope} (S : FnScope N ps scope) {n : Addr} {us : List Value} : ∀ y ∈ ps.zip us, scope.names.lookup y.1 = some .local ∨ (scope.names.lookup y.1 = some .cell ∧ ((cellsFrom n scope.names []).lookup y.1).isSome = true) :=
  fun y hy => (S.par y.1 (List.of_mem_zip hy).1).imp id fun c => ⟨c, PySem.W.cellsFrom_some _ _ _ (.inl c)⟩
theorem ends_call {X : Cx} {R : VK} {σ : L2.St} {G : Hp} {z z' : Shared} {out : List Env} (os : ∀ {σ' : L2.St} {G' : Hp} {v : V} {u : Value}, Inv X [] σ' G' z' → RelV v u → R v G' → CE out X.prog X.w G z R u z') :
    ∀ fl : Flow, SP X [] { nx := fun _ G' => R .non G', rt := R } fl z' → (match fl with
    | .ret u => CE out X.prog X.w G z R u z'
    | .next => CE out X.prog X.w G z R .none z'
    | _ => False)
  | .ret _, ⟨_, _, _, J, rel, q⟩ => os J rel q
  | .next, ⟨_, _, J, q⟩ => os (v := .non) J rfl q
  | .brk, ⟨_, _, _, q⟩ => q
  | .cont, ⟨_, _, _, q⟩ => q
theorem FunD.okG {P : Program} {w : World} {K : PySem.W.Frag} {mg : Str → Option Value} {base : Heap} {x qual : Str} {params : Arguments} {body : List Stmt} {scope : Scope} {dvs : List V} {kws : List (Str × V)} {f : Addr} {fd : FuncData}
    {CX : CXT} {N ps : List Str} {k : Nat} {sp : Sp} (F : FunD K x qual params body scope dvs kws f fd) (S : FnScope N ps scope) (len : ∀ ys G R Z, sp ys G R Z → ys.length = ps.length)
    (hb : ∀ (cdv : Value) (B : Around) (out : List Env) (z : Shared) (G : Hp) (ys : List V) (R : VK) (Z : XK), GA (B.deeper (envOfC qual scope z.heap.objs.size f cdv)) → Room k (B.deeper (envOfC qual scope z.heap.objs.size f cdv)) → sp ys G R Z →
      ∃ t, PSs (cxOf CX P w K mg base N qual scope f cdv B out z G Z) body t ∧ t { nx := fun _ G' => R .non G', rt := R } (start N ys) G) : FnG P w K mg base CX (k + 1) f fd ps sp where
  lenG := len
  runG B out z G args us ys R Z guard room e0 bind rel says := by
    obtain ⟨_, _, _, _, _, _, _, cdv, _, _, rfl, at_, code, _⟩ := F.ex
    have there : base.StaysIn z.heap := fun b o e => (e0.bs b o e).1
    have kin := e0.mod.kin.keeps there
    refine codeAny_call_function room.depth (kin _ _ at_) rfl S.co S.gen rfl (PySem.W.codeRec_of kin code) (bind _ _ _ _ (wpAny_newFunctionEnv_cells S.kind (kept_par S) ?_))
    rintro _ rfl z1 made
    refine ⟨(e0.mod.nolimit.keeps there).keeps made.toInCall.keep, codeAny_func ?_⟩
    obtain ⟨t, walk, q⟩ := hb cdv B out z G ys R Z (guard.deeper _) (room.deeper _) says
    refine wpAny_mono (walk.run [] z1 (start N ys) G _ (inv_start S room.hd e0 (len _ _ _ _ says) rel made) q) (fun fl z' sp' => ?_) fun _ _ x => x
    have fin := ends_call (σ := start N ys) (G := G) (z := z) (out := out) (fun J rel q => ⟨_, _, J.os, J.bare, J.base, J.hok, rel, q⟩) fl sp'
    cases fl <;> first | exact fin | exact fin.elim
section
variable {X : Cx} {CX : CXT} {k : Nat} {f C : Addr} {fd : FuncData} {ps : List Str} {sp : Sp} {E : XK} {x m : Str} {p pos apos : Pos} {e o : Expr} {es : List Expr} {ta : TE} {t : TA}
def Behind (X : Cx) (pins : List (Addr × Obj)) (σ : L2.St) (Q : VK) (r : Result) (s' : Shared) : Prop := match r with
  | .ok (.ret u) => EP X pins σ Q u s'
  | .ok _ => False
  | .error e => X.xe e s'
theorem behind {pins : List (Addr × Obj)} {σ : L2.St} {H : Hp} {s : Shared} {Q : VK} (hx : Passes CX X E) (I : Inv X pins σ H s) : ∀ (r : Result) (s' : Shared), CR CX X.stack X.prog X.w H s Q E r s' → Behind X pins σ Q r s'
  | .ok (.ret _), _, c => I.after c
  | .error e, s', c => hx pins σ H s e s' I c
  | .ok .next, _, c => c.elim
  | .ok .brk, _, c => c.elim
  | .ok .cont, _, c => c.elim
theorem Behind.call {pins : List (Addr × Obj)} {σ : L2.St} {Q : VK} {s : Shared} {f : Value} {us : List Value} {kw : List (Str × Value)} (h : codeAny (model X.prog X.w) X.A (.call f ⟨us, kw⟩) (Behind X pins σ Q) s) : wpAny (model X.prog X.w) X.A (call f us kw) (EP X pins σ Q) X.xe s :=
  wpAny_call (codeAny_mono h fun r s' b => by
    match r, b with
    | .ok (.ret _), b => exact b
    | .error _, b => exact b
    | .ok .next, b => exact b.elim
    | .ok .brk, b => exact b.elim
    | .ok .cont, b => exact b.elim)
theorem run_g {pins : List (Addr × Obj)} {σ : L2.St} {H : Hp} {s : Shared} {Q : VK} {us us2 : List Value} {vs2 : List V} {kw : List (Str × Value)} (F : FnG X.prog X.w X.K X.mg X.base CX k f fd ps sp) (hG : GA X.A) (hr : Room k X.A) (hx : Passes CX X E)
    (I : Inv X pins σ H s) (hb : us2.length = ps.length → BindsTo s fd ⟨us, kw⟩ (ps.zip us2)) (r2 : Vals vs2 us2) (h : sp vs2 H Q E) : wpAny (model X.prog X.w) X.A (call (.ref f) us kw) (EP X pins σ Q) X.xe s :=
  Behind.call (codeAny_mono (F.runG X.A X.stack s H ⟨us, kw⟩ us2 vs2 Q E hG hr I.env0 (hb (r2.length ▸ F.lenG _ _ _ _ h)) r2 h) (behind hx I))
theorem FnG.callR (F : FnG X.prog X.w X.K X.mg X.base CX k f fd ps sp) (hG : GA X.A) (hr : Room k X.A) (hx : Passes CX X E) (hb : Binds X.K fd ps []) : CallR X (.ref f) (fun vs H Q => sp vs H Q E) :=
  fun _ s _ _ _ us _ I r h => run_g F hG hr hx I (fun n => by simpa using hb s us I.kIn (by simpa using n)) r h
theorem pe_callG (F : FnG X.prog X.w X.K X.mg X.base CX k f fd ps sp) (hG : GA X.A) (hr : Room k X.A) (hg : Gl X x) (hm : X.mg x = some (.ref f)) (hk : PySem.W.keepIn X.K (.ref f) = true) (hb : Binds X.K fd ps []) (hx : Passes CX X E)
    (ha : PA X (e :: es) t) (hdb : (x == ("__debug__" : Str)) = false := by decide) (he : starEach (e :: es) X.env = (false, eval e X.env) :: starEach es X.env := by rfl) (hpl : (backTo pos (starEach es X.env)).any (·.1) = false := by rfl) :
    PE X (.Call (.Name x p) (e :: es) [] pos) (tCall sp [] E t) where
  run pins s σ H Q I h := wpAny_Call_Name_kw (ld_glob I hg hm (PySem.W.callWith_K (h₀ := X.base) I.ok.mod.kin hk
    (thn (ha.run pos pins s σ H _ I h) fun us _ b => let ⟨ys, _, J, rel, q⟩ := b; ⟨J.kIn, F.callR hG hr hx hb pins _ σ _ ys us Q J rel (by simpa using q)⟩) he hpl) hdb)
end
end MI
namespace MI
open PySem PySem.Spec PyProof.Rows L2
section
variable {g : Gc} {P : Program} {w : World} {K : PySem.W.Frag} {mg : Str → Option Value} {base : Heap} {x qual : Str} {params : Arguments} {body : List Stmt} {scope : Scope} {dvs : List V} {kws : List (Str × V)} {f : Addr} {fd : FuncData}
theorem fn_g {N ps : List Str} {k : Nat} {io : List Nat} {m : M Fl} (F : FunD K x qual params body scope dvs kws f fd) (S : FnScope N ps scope) (hio1 : io.Nodup)
    (hbody : ∀ (cdv : Value) (A : Around) (outer : List Env) (s : Shared) (H : Hp) (E : XK), GA (A.deeper (envOfC qual scope s.heap.objs.size f cdv)) → Room k (A.deeper (envOfC qual scope s.heap.objs.size f cdv)) → ∃ asg eff, PSsm g (cxOf CX0 P w K mg base N qual scope f cdv A outer s H E).nox body m asg eff ∧ ∀ i ∈ io, i ∉ asg ∧ i < ps.length) :
    FnG P w K mg base CX0 (k + 1) f fd ps (spT g io (runB ps.length N.length io m)) := by
  refine FunD.okG F S (fun vs H Q E h => ?_) fun cdv A outer s H vs Q E hG hr h => ?_
  · obtain ⟨S0, ts, A, r, outs, rl, _, _, _, e, _⟩ := h
    unfold runB at e
    split at e
    · rename_i hl
      rw [← RpL.length _ _ _ rl, hl]
    · cases e
  · obtain ⟨asg, eff, hbd, hio2⟩ := hbody cdv A outer s H E hG hr
    have hio := And.intro hio1 hio2
    refine ⟨_, hbd.nox, ?_⟩
    obtain ⟨S0, ts, A, r, outs, rl, nd, ns, st, e, k⟩ := h
    have hl0 := RpL.length _ _ _ rl
    unfold runB at e
    split at e
    · rename_i hl
      obtain ⟨A0, R, sub⟩ := SR.start (N := N) rl nd ns st
      rw [hl] at R
      cases q : m (ts ++ List.replicate (N.length - ps.length) .dead) with
      | none => rw [q] at e; cases e
      | some p =>
        obtain ⟨fl, Ts'⟩ := p
        rw [q] at e
        refine ⟨S0, _, A0, fl, Ts', R, q, fun σ' H' S' A' hσ R' p s' => ?_⟩
        have fin : ∀ (t : T) (x : V) (Ax : List Addr), some (t, io.map (slot Ts')) = some (r, outs) → Rp g S' H' t x Ax → Ow [] H A0 S' A' Ax → Q x H' := fun t x Ax e1 rx o => by
          injection e1 with e1
          injection e1 with h1 h2
          subst h1; subst h2
          have hat : ∀ i ∈ io, σ'[i]? = some (some (vs.getD i .non)) := fun i hi => by
            rw [hσ i (hio.2 i hi).1]
            have hi2 : i < vs.length := by have := (hio.2 i hi).2; omega
            unfold L2.start
            rw [List.getElem?_append_left (by simpa using hi2), List.getElem?_map, List.getD_eq_getElem?_getD, List.getElem?_eq_getElem hi2]; rfl
          obtain ⟨Ao, ro, ndo, hm⟩ := RpL.outs R' io vs hio.1 hat
          have nw : ∀ a ∈ Ao ++ Ax, a ∈ A ∨ noT (H a) = none := fun a ha => by
            have c : (∃ j, a ∈ A0 j) ∨ noT (H a) = none := by
              rcases List.mem_append.mp ha with h | h
              · obtain ⟨i, _, hA⟩ := hm a h
                exact p.anew i a hA
              · exact o.new a h
            rcases c with ⟨j, hj⟩ | h
            · exact .inl (sub j a hj)
            · exact .inr h
          refine k x H' S' Ax Ao rx ro (List.nodup_append.mpr ⟨ndo, o.nd rfl, fun a ha b hb e => ?_⟩) (fun a ha => ?_) R'.st ⟨fun a ob ea na => p.keep a ob ea fun i hi => na (sub i a hi), p.sub, fun a ha => ?_, nw⟩
          · subst e
            obtain ⟨i, _, hA⟩ := hm a ha
            exact o.dj i (fun z => nomatch z) a hb hA
          · rcases List.mem_append.mp ha with h | h
            · obtain ⟨i, _, hA⟩ := hm a h
              exact R'.ns i a hA
            · exact o.ns a h
          · rcases p.snew a ha with h | ⟨i, hi⟩ | h
            · exact .inl h
            · exact .inr (.inl (sub i a hi))
            · exact .inr (.inr h)
        cases fl with
        | rt t => exact fun x Ax rx o => fin t x Ax e rx o
        | nx => exact fin .non .non [] e ⟨rfl, rfl⟩ Ow.nil
        | bk => cases e
        | ct => cases e
    · cases e
end
section
variable {g : Gc} {X : Cx} {k : Nat} {f C : Addr} {fd : FuncData} {ps : List Str} {x m : Str} {p pos apos : Pos} {e o : Expr} {es : List Expr} {fs : M (List T)} {fa : M T} {e1 e2 b1 b2 : List Nat} {io : List Nat} {c : Cal} {ln : List (Option Nat)}
theorem TMc.nil {σ : L2.St} {H : Hp} {Q : List V → Hp → Prop} (h : TMc g mNil [] [] [] σ H Q) : tNil σ H Q := by
  obtain ⟨S, Ts, A, ts, Ts', R, e, k⟩ := h
  obtain ⟨rfl, rfl⟩ := (show [] = ts ∧ Ts = Ts' from by
    have e : some ([], Ts) = some (ts, Ts') := e
    injection e with e
    injection e with h1 h2
    exact ⟨h1, h2⟩)
  exact k [] H S A [] [] R ⟨rfl, rfl, rfl, rfl⟩ Ow.nil Ow.nil (fun _ z => nomatch z) Po.refl Stb.refl
theorem tm_call (F : FnG X.prog X.w X.K X.mg X.base CX0 k f fd ps (spT g io c)) (hG : GA X.A) (hr : Room k X.A) (hg : Gl X x) (hm : X.mg x = some (.ref f)) (hk : PySem.W.keepIn X.K (.ref f) = true) (hb : Binds X.K fd ps []) (ha : PAc g X (e :: es) fs e1 [] ln)
    (hio : io = lentIx 0 ln := by rfl) (hl : ∀ s ∈ ln.filterMap id, s ∈ e1 := by decide) (hdb : (x == ("__debug__" : Str)) = false := by decide) (he : starEach (e :: es) X.env = (false, eval e X.env) :: starEach es X.env := by rfl) (hpl : (backTo pos (starEach es X.env)).any (·.1) = false := by rfl) :
    PEm g X (.Call (.Name x p) (e :: es) [] pos) (mCall c ln fs) e1 [] := PE.imp (pe_callG F hG hr hg hm hk hb (E := E0) pass0 ha hdb he hpl) (call_r rfl hio hl)
end
end MI
namespace MI
open PySem PySem.Spec PyProof.Rows L2
section
variable {g : Gc} {X : Cx}
def oneOf (a b : Str) (i : Nat) : Str := if i = 0 then a else b
theorem two_at {a b : Str} {t u : Tok} {i : Nat} {v : Value} (h : (#[Value.str a t, Value.str b u] : Array Value)[i]? = some v) : ∃ k, v = .str (oneOf a b i) k := by
  match i, h with
  | 0, h => exact ⟨t, (Option.some.inj h).symm⟩
  | 1, h => exact ⟨u, (Option.some.inj h).symm⟩
  | i + 2, h => simp at h
theorem best2 {P : Program} {w : World} {A : Around} {E : Value → Shared → Prop} {s : Shared} {a b : Str} {t u : Tok} {id : String} {op : CmpOp} {bt : Str → Str → Bool} {Q : Value → Shared → Prop} (calm : A.handled = none)
    (byWalk : ∀ {a b : Value} {Q : Value → Shared → Prop}, wpAny (model P w) A.in1 (pyIter (.ref s.heap.objs.size)) (fun it s₂ => ∃ I fp wr n PP St bt, it = .ref I ∧ Walks P w A.in1 I fp wr n PP St ∧ St 0 s₂.heap ∧ (∀ b ∈ fp, b < s₂.heap.objs.size) ∧ 0 < n ∧ CmpOf P w A.in1 op PP bt ∧
      ∀ v h' tk, PP (argBest bt (n - 1)) v → (∀ b o, b ∉ wr → s₂.heap.get? b = some o → h'.get? b = some o) → Q v { s₂ with heap := h', toks := tk }) E { s with heap := s.heap.push { cls := .type "tuple", data := .seq #[a, b] } } → wpAny (model P w) A (call (.builtin id) [a, b]) Q E s)
    (cmp : ∀ (x y : Str) (t u : Tok) (A : Around) (s : Shared) (Q : Value → Shared → Prop) (E : Value → Shared → Prop), Q (.bool (bt x y)) s → wpAny (model P w) A (richCompare op (.str x t) (.str y u)) Q E s)
    (fin : ∀ h' tk, (∀ c o, s.heap.get? c = some o → h'.get? c = some o) → Q (if bt b a then .str b u else .str a t) { s with heap := h', toks := tk }) : wpAny (model P w) A (call (.builtin id) [.str a t, .str b u]) Q E s := by
  have tup : (s.heap.push { cls := .type "tuple", data := .seq #[.str a t, .str b u] }).IsTuple s.heap.objs.size #[.str a t, .str b u] := ⟨_, Heap.get?_push_size _ rfl, rfl, _, rfl⟩
  have next : (s.heap.push { cls := .type "tuple", data := .seq #[Value.str a t, Value.str b u] }).objs.size = s.heap.objs.size + 1 := Heap.size_push ..
  refine byWalk (wpAny_pyIter_tuple tup ⟨_, _, _, _, _, _, fun i j => bt (oneOf a b i) (oneOf a b j), rfl, Walks.tuple (A := A.in1) calm _ s.heap.objs.size (next ▸ Nat.ne_of_lt Nat.le.refl) #[.str a t, .str b u], ⟨⟨_, Heap.get?_push_size _ rfl, rfl, rfl⟩, tup.push _⟩, ?low, Nat.zero_lt_two, ?order, ?end_⟩)
  case low =>
    intro c hc
    rw [Heap.size_push, next]
    rcases List.mem_cons.mp hc with e | hc
    · rw [e, next]; exact Nat.le.refl
    · rw [List.mem_singleton.mp hc]; exact Nat.le_add_right _ 1
  case order =>
    intro i j vi vj s' Q' E' hi hj q
    obtain ⟨_, rfl⟩ := two_at hi
    obtain ⟨_, rfl⟩ := two_at hj
    exact cmp _ _ _ _ _ _ _ _ q
  case end_ =>
    intro v h' tk at_ keep
    have all : ∀ c o, s.heap.get? c = some o → h'.get? c = some o := fun c o g => keep c o (fun m => Nat.lt_irrefl _ (Nat.lt_of_succ_lt (next ▸ (List.mem_singleton.mp m) ▸ Heap.lt_size g))) (Heap.get?_push_of_some _ (Heap.get?_push_of_some _ g))
    have ev : (if bt b a then Value.str b u else Value.str a t) = v := by
      have at_ : (#[Value.str a t, Value.str b u] : Array Value)[argBest (fun i j => bt (oneOf a b i) (oneOf a b j)) 1]? = some v := at_
      cases c : bt b a with
      | true =>
        rw [show argBest (fun i j => bt (oneOf a b i) (oneOf a b j)) 1 = 1 from by simp [argBest, oneOf, c]] at at_
        exact Option.some.inj at_
      | false =>
        rw [show argBest (fun i j => bt (oneOf a b i) (oneOf a b j)) 1 = 0 from by simp [argBest, oneOf, c]] at at_
        exact Option.some.inj at_
    rw [← ev]
    exact fin h' tk all
def ltS (x y : Str) : Bool := decide (x.cps.toList < y.cps.toList)
theorem call_min2S (hc : X.calm = true) : CallR X (.builtin "min") (fun xs H Q => ∃ i j, xs = [.str i, .str j] ∧ Q (.str (if ltS j i then j else i)) H) := by
  intro pins s σ H xs us Q I r h
  obtain ⟨i, j, rfl, q⟩ := h
  obtain ⟨u, w', rfl, ⟨t, rfl⟩, ⟨t', rfl⟩⟩ := vals2 r
  refine best2 (op := .Lt) (bt := ltS) (I.ok.hd hc) (fun h => call_min_two h) (fun x y t u A s Q E q => PySem.P.lt_str q) fun h' tk k => ⟨_, H, I.kept k, ?_, q⟩
  by_cases hj : ltS j i = true
  · rw [if_pos hj, if_pos hj]; exact ⟨_, rfl⟩
  · rw [if_neg hj, if_neg hj]; exact ⟨_, rfl⟩
theorem call_max2S (hc : X.calm = true) : CallR X (.builtin "max") (fun xs H Q => ∃ i j, xs = [.str i, .str j] ∧ Q (.str (if ltS i j then j else i)) H) := by
  intro pins s σ H xs us Q I r h
  obtain ⟨i, j, rfl, q⟩ := h
  obtain ⟨u, w', rfl, ⟨t, rfl⟩, ⟨t', rfl⟩⟩ := vals2 r
  refine best2 (op := .Gt) (bt := fun x y => ltS y x) (I.ok.hd hc) (fun h => call_max_two h) (fun x y t u A s Q E q => PySem.P.gt_str q) fun h' tk k => ⟨_, H, I.kept k, ?_, q⟩
  by_cases hj : ltS i j = true
  · rw [if_pos hj, if_pos hj]; exact ⟨_, rfl⟩
  · rw [if_neg hj, if_neg hj]; exact ⟨_, rfl⟩
def rRepr (K : PySem.W.Frag) : RC := fun xs H Q => ∃ x d, xs = [x] ∧ Dp K H x d ∧ PyData.showable d = true ∧ PyData.hasDict d = false ∧ d.depth ≤ 60 ∧ d.shown.length ≤ sizeLine ∧ Q (.str d.shown) H
theorem call_reprD (hG : GA X.A) (hu : X.A.units + 64 < cLine) : CallR X (.builtin "repr") (rRepr X.K) := by
  intro pins s σ H xs us Q I r h
  obtain ⟨x, d, rfl, hd, hs, hn, hz, hl, q⟩ := h
  obtain ⟨u, rfl, r1⟩ := vals1 r
  obtain ⟨as, rd⟩ := Dp.reads I d x u hd r1
  cases rd with
  | none => exact PySem.P.repr_of_none ⟨.str _, H, I.tok _, ⟨_, rfl⟩, q⟩
  | bool b => exact PySem.P.repr_of_bool ⟨.str _, H, I.tok _, ⟨_, rfl⟩, q⟩
  | int i t => exact PySem.P.repr_of_int (by simpa [PyData.showable] using hs) ⟨.str _, H, I.tok _, ⟨_, rfl⟩, q⟩
  | str y t => exact PySem.P.repr_of_str ⟨.str _, H, I.tok _, ⟨_, rfl⟩, q⟩ hl
  | list h1 h2 h3 h4 => exact repr_of_reads' (.list h1 h2 h3 h4) hs (fun z => by rw [hn] at z; cases z) hG (by omega) (fun _ _ e => e) (fun h' u tk k => ⟨.str _, H, I.kept k, ⟨_, rfl⟩, q⟩) hl
  | tuple h1 h2 h3 h4 => exact repr_of_reads' (.tuple h1 h2 h3 h4) hs (fun z => by rw [hn] at z; cases z) hG (by omega) (fun _ _ e => e) (fun h' u tk k => ⟨.str _, H, I.kept k, ⟨_, rfl⟩, q⟩) hl
  | dict => cases hn
end
end MI
namespace MI
open PySem PySem.Spec PyProof.Rows L2
section
variable {g : Gc} {X : Cx}
theorem RpL.get1 {S : Addr → Prop} {H : Hp} {t : T} {xs : List V} {A : List Addr} (r : RpL g S H [t] xs A) : ∃ x B, xs = [x] ∧ Rp g S H t x B := by
  obtain ⟨y, ys, A1, A2, e1, e2, r1, r2⟩ := r
  exact ⟨y, A1, by rw [e1, r2.1], r1⟩
theorem RpL.get2 {S : Addr → Prop} {H : Hp} {t u : T} {xs : List V} {A : List Addr} (r : RpL g S H [t, u] xs A) : ∃ x y B C, xs = [x, y] ∧ Rp g S H t x B ∧ Rp g S H u y C := by
  obtain ⟨y, ys, A1, A2, e1, e2, r1, r2⟩ := r
  obtain ⟨z, B, e3, r3⟩ := r2.get1
  exact ⟨y, z, A1, B, by rw [e1, e3], r1, r3⟩
def c1 (f : T → Option T) (ts : List T) : Option T := match ts with
  | [t] => f t
  | _ => none
def c2 (f : T → T → Option T) (ts : List T) : Option T := match ts with
  | [t, u] => f t u
  | _ => none
theorem callT1 {r : RC} {f : T → Option T} (h : ∀ S H t x A u Q, Rp g S H t x A → f t = some u → (∀ z H' Az, New g S H H' u z Az → Q z H') → r [x] H Q) : CallT g r (c1 f) := fun S H ts xs Ax t Q ra e k => by
  unfold c1 at e
  split at e
  · obtain ⟨x, B, e1, r1⟩ := ra.get1
    rw [e1]
    exact h S H _ x B t Q r1 e k
  · cases e
theorem callT2 {r : RC} {f : T → T → Option T} (h : ∀ S H t t' x x' A A' u Q, Rp g S H t x A → Rp g S H t' x' A' → f t t' = some u → (∀ z H' Az, New g S H H' u z Az → Q z H') → r [x, x'] H Q) : CallT g r (c2 f) := fun S H ts xs Ax t Q ra e k => by
  unfold c2 at e
  split at e
  · obtain ⟨x, y, B, C, e1, r1, r2⟩ := ra.get2
    rw [e1]
    exact h S H _ _ x y B C t Q r1 r2 e k
  · cases e
def fLen (t : T) : Option T := match t with
  | .str s => if s.length ≤ sizeLine then some (.int s.length) else none
  | .nd .tup ts => some (.int ts.length)
  | .nd .scr ts => some (.int ts.length)
  | .nd (.lst _) ts => some (.int ts.length)
  | _ => none
theorem ct_len : CallT g (fun xs H Q => ∃ x n, xs = [x] ∧ LenV g.K x H n ∧ Q (.int n) H) (c1 fLen) := callT1 fun S H t x A u Q r e k => by
  unfold fLen at e
  split at e
  · split at e
    · rename_i h
      injection e with e; subst e
      exact ⟨x, _, rfl, by rw [r.1]; exact ⟨h, rfl⟩, k _ H [] (New.atom ⟨rfl, rfl⟩)⟩
    · cases e
  · injection e with e; subst e
    obtain ⟨a, xs, B, ex, at_, eA, c, rl⟩ := r
    exact ⟨x, _, rfl, by rw [ex]; exact .inr ⟨xs, At.sqT at_, RpL.length _ _ _ rl⟩, k _ H [] (New.atom ⟨rfl, rfl⟩)⟩
  · injection e with e; subst e
    obtain ⟨a, xs, B, ex, at_, eA, c, rl⟩ := r
    exact ⟨x, _, rfl, by rw [ex]; exact .inl ⟨xs, at_.sqS, RpL.length _ _ _ rl⟩, k _ H [] (New.atom ⟨rfl, rfl⟩)⟩
  · injection e with e; subst e
    obtain ⟨a, xs, B, ex, at_, eA, c, rl⟩ := r
    exact ⟨x, _, rfl, by rw [ex]; exact .inl ⟨xs, at_.sqL, RpL.length _ _ _ rl⟩, k _ H [] (New.atom ⟨rfl, rfl⟩)⟩
  · cases e
def fAbs (t : T) : Option T := match t with
  | .int i => some (.int (if i < 0 then -i else i))
  | _ => none
theorem ct_abs : CallT g (fun xs H Q => ∃ i, xs = [.int i] ∧ Q (.int (if i < 0 then -i else i)) H) (c1 fAbs) := callT1 fun S H t x A u Q r e k => by
  unfold fAbs at e
  split at e
  · injection e with e; subst e
    exact ⟨_, by rw [r.1], k _ H [] (New.atom ⟨rfl, rfl⟩)⟩
  · cases e
def fInt (t : T) : Option T := match t with
  | .int i => some (.int i)
  | .bl b => some (.int (if b then 1 else 0))
  | _ => none
theorem ct_int : CallT g (fun xs H Q => (∃ i, xs = [.int i] ∧ Q (.int i) H) ∨ ∃ k, xs = [.bl k] ∧ Q (.int (if k then 1 else 0)) H) (c1 fInt) := callT1 fun S H t x A u Q r e k => by
  unfold fInt at e
  split at e
  · injection e with e; subst e
    exact .inl ⟨_, by rw [r.1], k _ H [] (New.atom ⟨rfl, rfl⟩)⟩
  · injection e with e; subst e
    exact .inr ⟨_, by rw [r.1], k _ H [] (New.atom ⟨rfl, rfl⟩)⟩
  · cases e
def fMin (t u : T) : Option T := match t, u with
  | .int i, .int j => some (.int (if j < i then j else i))
  | .str i, .str j => some (.str (if ltS j i then j else i))
  | _, _ => none
def fMax (t u : T) : Option T := match t, u with
  | .int i, .int j => some (.int (if j > i then j else i))
  | .str i, .str j => some (.str (if ltS i j then j else i))
  | _, _ => none
theorem ct_min : CallT g (fun xs H Q => (∃ i j, xs = [.int i, .int j] ∧ Q (.int (if j < i then j else i)) H) ∨ (∃ i j, xs = [.str i, .str j] ∧ Q (.str (if ltS j i then j else i)) H)) (c2 fMin) := callT2 fun S H t t' x x' A A' u Q r r' e k => by
  unfold fMin at e
  split at e
  · injection e with e; subst e
    exact .inl ⟨_, _, by rw [r.1, r'.1], k _ H [] (New.atom ⟨rfl, rfl⟩)⟩
  · injection e with e; subst e
    exact .inr ⟨_, _, by rw [r.1, r'.1], k _ H [] (New.atom ⟨rfl, rfl⟩)⟩
  · cases e
theorem ct_max : CallT g (fun xs H Q => (∃ i j, xs = [.int i, .int j] ∧ Q (.int (if j > i then j else i)) H) ∨ (∃ i j, xs = [.str i, .str j] ∧ Q (.str (if ltS i j then j else i)) H)) (c2 fMax) := callT2 fun S H t t' x x' A A' u Q r r' e k => by
  unfold fMax at e
  split at e
  · injection e with e; subst e
    exact .inl ⟨_, _, by rw [r.1, r'.1], k _ H [] (New.atom ⟨rfl, rfl⟩)⟩
  · injection e with e; subst e
    exact .inr ⟨_, _, by rw [r.1, r'.1], k _ H [] (New.atom ⟨rfl, rfl⟩)⟩
  · cases e
def fDivmod (t u : T) : Option T := match t, u with
  | .int i, .int j => if 0 < j ∧ j < 1073741824 then some (.nd .tup [.int (i / j), .int (i % j)]) else none
  | _, _ => none
theorem ct_divmod : CallT g (fun xs H Q => ∃ i j, xs = [.int i, .int j] ∧ CDiv i j ∧ ∀ p, H p = none → Q (.ref p) (upd H p (.tup [.int (i / j), .int (i % j)]))) (c2 fDivmod) := callT2 fun S H t t' x x' A A' u Q r r' e k => by
  unfold fDivmod at e
  split at e
  · split at e
    · rename_i h
      injection e with e; subst e
      refine ⟨_, _, by rw [r.1, r'.1], h, fun p hp => k _ _ [] (New.tupl hp ?_)⟩
      exact ⟨_, _, [], [], rfl, rfl, ⟨rfl, rfl⟩, _, _, [], [], rfl, rfl, ⟨rfl, rfl⟩, rfl, rfl⟩
    · cases e
  · cases e
def boolsOf : List T → Option (List Bool)
  | [] => some []
  | .bl b :: ts => (boolsOf ts).map (b :: ·)
  | _ :: _ => none
theorem boolsOf_ok {S : Addr → Prop} {H : Hp} : ∀ (ts : List T) (bs : List Bool) (xs : List V) (A : List Addr), boolsOf ts = some bs → RpL g S H ts xs A → xs = bs.map V.bl
  | [], bs, xs, A, h, r => by injection h with h; subst h; exact r.1
  | t :: ts, bs, xs, A, h, r => by
    obtain ⟨y, ys, A1, A2, e1, e2, r1, r2⟩ := r
    cases t with
    | bl b =>
      have h : (boolsOf ts).map (b :: ·) = some bs := h
      cases q : boolsOf ts with
      | none => rw [q] at h; cases h
      | some cs =>
        rw [q] at h
        injection h with h
        rw [e1, boolsOf_ok ts cs ys A2 q r2, ← h, r1.1]; rfl
    | _ => cases h
def kA (t : T) : Option (List T) := match t with
  | .nd (.lst _) ts => some ts
  | .nd .scr ts => some ts
  | _ => none
theorem kA_rep {S : Addr → Prop} {H : Hp} {t : T} {ks : List T} {x : V} {Ax : List Addr} (hk : kA t = some ks) (r : Rp g S H t x Ax) : ∃ p xs B, x = .ref p ∧ SqL g.K H p xs ∧ RpL g S H ks xs B := by
  unfold kA at hk
  split at hk
  · injection hk with hk; subst hk
    obtain ⟨a, xs, B, e, at_, eA, c, r⟩ := r
    exact ⟨a, xs, B, e, at_.sqL, r⟩
  · injection hk with hk; subst hk
    obtain ⟨a, xs, B, e, at_, eA, c, r⟩ := r
    exact ⟨a, xs, B, e, at_.sqS, r⟩
  · cases hk
def fBools (h : List Bool → Bool) (t : T) : Option T := (kA t).bind fun ts => (boolsOf ts).bind fun bs => some (.bl (h bs))
theorem ct_bools {h : List Bool → Bool} : CallT g (fun vs H Q => ∃ (a : Addr) (bs : List Bool), vs = [V.ref a] ∧ SqL g.K H a (bs.map V.bl) ∧ Q (.bl (h bs)) H) (c1 (fBools h)) := callT1 fun S H t x A u Q r e k => by
  unfold fBools at e
  obtain ⟨ts, e1, e2⟩ := Option.bind_eq_some_iff.mp e
  obtain ⟨bs, e3, e4⟩ := Option.bind_eq_some_iff.mp e2
  injection e4 with e4; subst e4
  obtain ⟨p, xs, B, ex, sq, rl⟩ := kA_rep e1 r
  exact ⟨p, bs, by rw [ex], boolsOf_ok _ _ _ _ e3 rl ▸ sq, k _ H [] (New.atom ⟨rfl, rfl⟩)⟩
def fList (t : T) : Option T := (kidsI t).map fun ts => .nd (.lst true) ts
def fTuple (t : T) : Option T := (kidsI t).map fun ts => .nd .tup ts
mutual
def shwT : T → Bool
  | .int i => Nat.blt i.natAbs.log2 1920
  | .nd _ ts => shwL ts
  | _ => true
def shwL : List T → Bool
  | [] => true
  | t :: ts => shwT t && shwL ts
end
mutual
theorem shwT_ok : ∀ t : T, shwT t = true → PyData.showable (toD t) = true ∧ PyData.hasDict (toD t) = false
  | .dead, _ => ⟨rfl, rfl⟩
  | .non, _ => ⟨rfl, rfl⟩
  | .bl _, _ => ⟨rfl, rfl⟩
  | .str _, _ => ⟨rfl, rfl⟩
  | .int i, h => by
    unfold shwT at h
    exact ⟨by unfold toD PyData.showable; exact decide_eq_true (Nat.blt_eq.mp h), rfl⟩
  | .nd k ts, h => by
    unfold shwT at h
    obtain ⟨h1, h2⟩ := shwL_ok ts h
    unfold toD
    split
    · exact ⟨by unfold PyData.showable; exact h1, by unfold PyData.hasDict; exact h2⟩
    · exact ⟨by unfold PyData.showable; exact h1, by unfold PyData.hasDict; exact h2⟩
theorem shwL_ok : ∀ ts : List T, shwL ts = true → PyData.showableAll (toDL ts) = true ∧ PyData.hasDictAll (toDL ts) = false
  | [], _ => ⟨rfl, rfl⟩
  | t :: ts, h => by
    unfold shwL at h
    obtain ⟨h1, h2⟩ := Bool.and_eq_true_iff.mp h
    obtain ⟨a1, a2⟩ := shwT_ok t h1
    obtain ⟨b1, b2⟩ := shwL_ok ts h2
    unfold toDL
    exact ⟨by unfold PyData.showableAll; rw [a1, b1]; rfl, by unfold PyData.hasDictAll; rw [a2, b2]; rfl⟩
end
def reprT (t : T) : Str := (toD t).shown
def fRepr (t : T) : Option T := if okD 60 t && shwT t && Nat.ble (reprT t).length sizeLine then some (.str (reprT t)) else none
theorem ct_repr : CallT g (rRepr g.K) (c1 fRepr) := callT1 fun S H t x A u Q r e k => by
  unfold fRepr at e
  split at e
  · rename_i h
    obtain ⟨h12, h3⟩ := Bool.and_eq_true_iff.mp h
    obtain ⟨h1, h2⟩ := Bool.and_eq_true_iff.mp h12
    injection e with e; subst e
    obtain ⟨a, b, c⟩ := okD_ok t 60 x A h1 r
    obtain ⟨s1, s2⟩ := shwT_ok t h2
    exact ⟨x, toD t, rfl, a, s1, s2, c, Nat.ble_eq.mp h3, k _ H [] (New.atom ⟨rfl, rfl⟩)⟩
  · cases e
def fIxS (a b : T) : Option T := match kids a, b with
  | some ts, .int i => atI ts i
  | _, _ => none
theorem atI_rep {S : Addr → Prop} {H : Hp} {ts : List T} {xs : List V} {A : List Addr} {i : Int} {t : T} (r : RpL g S H ts xs A) (h : atI ts i = some t) : ∃ x B, atI xs i = some x ∧ Rp g S H t x B ∧ B.Sublist A := by
  unfold atI at h ⊢
  rw [RpL.length _ _ _ r] at h
  cases q : ixN xs.length i with
  | none => rw [q] at h; cases h
  | some j =>
    rw [q] at h
    obtain ⟨x, B, h1, h2, h3⟩ := RpL.at ts xs A r j t h
    exact ⟨x, B, h1, h2, h3⟩
theorem opp_ix : OpP g (fun x y H Q => rIxL g.K x y H Q ∨ rIxT g.K x y H Q) fIxS := fun S H a b x y Ax Ay t Q ra rb e q => by
  unfold fIxS at e
  split at e
  · rename_i ts i ek
    unfold kids at ek
    split at ek
    · injection ek with ek; subst ek
      obtain ⟨p, xs, B, ex, at_, eA, c, r⟩ := ra
      obtain ⟨z, C, h1, h2, h3⟩ := atI_rep r e
      exact .inr ⟨p, xs, i, z, ex, rb.1, At.sqT at_, h1, q z C h2 (h3.trans (by rw [eA]; exact List.Sublist.refl _))⟩
    · injection ek with ek; subst ek
      obtain ⟨p, xs, B, ex, at_, eA, c, r⟩ := ra
      obtain ⟨z, C, h1, h2, h3⟩ := atI_rep r e
      exact .inl ⟨p, xs, i, z, ex, rb.1, at_.sqL, h1, q z C h2 (h3.trans (by rw [eA]; split <;> first | exact List.sublist_cons_self _ _ | exact List.Sublist.refl _))⟩
    · injection ek with ek; subst ek
      obtain ⟨p, xs, B, ex, at_, eA, c, r⟩ := ra
      obtain ⟨z, C, h1, h2, h3⟩ := atI_rep r e
      exact .inl ⟨p, xs, i, z, ex, rb.1, at_.sqS, h1, q z C h2 (h3.trans (by rw [eA]; exact List.Sublist.refl _))⟩
    · cases ek
  · cases e
theorem ixr_seq : IxR X (fun x y H Q => rIxL X.K x y H Q ∨ rIxT X.K x y H Q) := ix_list.or ix_tup
def fIxT (a b : T) : Option T := match a, b with
  | .str z, .int i => if z.length ≤ sizeLine then (atI z.cps.toList i).map fun c => .str ⟨#[c]⟩ else none
  | _, _ => none
theorem opp_ixs : OpP g rIxS fIxT := fun S H a b x y Ax Ay t Q ra rb e q => by
  unfold fIxT at e
  split at e
  · split at e
    · rename_i h
      obtain ⟨c, e1, e2⟩ := Option.map_eq_some_iff.mp e
      subst e2
      exact ⟨_, _, c, ra.1, rb.1, h, e1, q _ [] ⟨rfl, rfl⟩ (List.nil_sublist _)⟩
    · cases e
  · cases e
end
end MI
namespace MI
open PySem PySem.Spec PyProof.Rows L2
section
variable {g : Gc} {X : Cx} {a b c : Expr} {fa fb : M T} {e1 e2 e3 b1 b2 : List Nat} {pos p2 : Pos}
def TMo (g : Gc) (f : M (Option Int)) (eff : List Nat) : TO := fun σ H Q => ∃ S Ts A o Ts', SR g S H σ Ts A ∧ f Ts = some (o, Ts') ∧
  ∀ H' S' A', SR g S' H' σ Ts' A' → Po S H A S' H' A' → Stb eff H Ts A H' Ts' A' → Q o H'
def POm (g : Gc) (X : Cx) (e : Option Expr) (f : M (Option Int)) (eff : List Nat) : Prop := PO X e (TMo g f eff)
theorem PO.imp {X : Cx} {e : Option Expr} {t t' : TO} (h : PO X e t) (i : ∀ σ H Q, t' σ H Q → t σ H Q) : PO X e t' := ⟨fun pins s σ H Q I q => h.run pins s σ H Q I (i σ H Q q)⟩
def mNoP : M (Option Int) := ret none
def iOf (t : T) : Option Int := match t with
  | .int i => some i
  | _ => none
def mPt (fa : M T) : M (Option Int) := bnd fa fun t => bnd (lft (iOf t)) fun i => ret (some i)
theorem tmo_none : POm g X none mNoP [] := PO.imp po_none fun σ H Q ⟨S, Ts, A, o, Ts', R, e, k⟩ => by
  obtain ⟨rfl, rfl⟩ := ret_some e
  exact k H S A R Po.refl Stb.refl
theorem tmo_some (ha : PEm g X a fa e1 b1) : POm g X (some a) (mPt fa) e1 := PO.imp (po_some ha) fun σ H Q ⟨S, Ts, A, o, Ts', R, e, k⟩ => by
  obtain ⟨t, Ts1, q1, q2⟩ := bnd_some e
  obtain ⟨i, Ts2, q3, q4⟩ := bnd_some q2
  obtain ⟨q5, q6⟩ := lft_some q3
  obtain ⟨q7, q8⟩ := ret_some q4
  subst q6; subst q7; subst q8
  refine ⟨S, Ts, A, t, _, R, q1, fun x H' S' A' Ax R' rx o p s => ⟨i, ?_, k H' S' A' R' p s⟩⟩
  unfold iOf at q5
  split at q5
  · injection q5 with q5; rw [← q5]; exact rx.1
  · cases q5
def SlT (g : Gc) (r : V → Option Int → Option Int → Hp → VK → Prop) (f : T → Option Int → Option Int → Option T) : Prop := ∀ S H a x Ax lo hi t Q, Rp g S H a x Ax → f a lo hi = some t → (∀ z H' Az, New g S H H' t z Az → Q z H') → r x lo hi H Q
def cutT {α : Type} (xs : List α) (lo hi : Option Int) : List α := (xs.drop (HT.sIx xs.length 0 lo)).take (HT.sIx xs.length xs.length hi - HT.sIx xs.length 0 lo)
def fCut (a : T) (lo hi : Option Int) : Option T := match a with
  | .nd .tup ts => if immL ts then some (.nd .tup (cutT ts lo hi)) else none
  | .nd (.lst _) ts => if immL ts then some (.nd (.lst true) (cutT ts lo hi)) else none
  | .nd .scr ts => if immL ts then some (.nd (.lst true) (cutT ts lo hi)) else none
  | .str z => if z.length ≤ sizeLine then some (.str (cutS z lo hi)) else none
  | _ => none
theorem RpL.drop {S : Addr → Prop} {H : Hp} : ∀ (n : Nat) (ts : List T) (xs : List V), RpL g S H ts xs [] → RpL g S H (ts.drop n) (xs.drop n) []
  | 0, ts, xs, r => r
  | n + 1, [], xs, r => by rw [r.1]; exact ⟨rfl, rfl⟩
  | n + 1, t :: ts, xs, r => by
    obtain ⟨y, ys, A1, A2, h1, h2, r1, r2⟩ := r
    obtain ⟨rfl, rfl⟩ := List.append_eq_nil_iff.mp h2.symm
    rw [h1]
    exact RpL.drop n ts ys r2
theorem RpL.take0 {S : Addr → Prop} {H : Hp} : ∀ (n : Nat) (ts : List T) (xs : List V), RpL g S H ts xs [] → RpL g S H (ts.take n) (xs.take n) []
  | 0, ts, xs, r => ⟨rfl, rfl⟩
  | n + 1, [], xs, r => by rw [r.1]; exact ⟨rfl, rfl⟩
  | n + 1, t :: ts, xs, r => by
    obtain ⟨y, ys, A1, A2, h1, h2, r1, r2⟩ := r
    obtain ⟨rfl, rfl⟩ := List.append_eq_nil_iff.mp h2.symm
    rw [h1]
    exact ⟨y, ys.take n, [], [], rfl, rfl, r1, RpL.take0 n ts ys r2⟩
theorem RpL.cut {S : Addr → Prop} {H : Hp} {ts : List T} {xs : List V} {lo hi : Option Int} (r : RpL g S H ts xs []) : RpL g S H (cutT ts lo hi) (cutV xs lo hi) [] := by
  unfold cutT cutV
  rw [RpL.length _ _ _ r]
  exact RpL.take0 _ _ _ (RpL.drop _ _ _ r)
def rCut (K : PySem.W.Frag) : V → Option Int → Option Int → Hp → VK → Prop := fun x lo hi H Q => rSlL K x lo hi H Q ∨ (rSlA K x lo hi H Q ∨ rSlS x lo hi H Q)
theorem sl_cut : SlR X (rCut X.K) := sl_list.or (sl_tupA.or sl_str)
theorem slt_cut : SlT g (rCut g.K) fCut := fun S H a x Ax lo hi t Q ra e q => by
  unfold fCut at e
  split at e
  · split at e
    · rename_i hi'
      injection e with e; subst e
      obtain ⟨p, xs, B, ex, at_, eA, c, r⟩ := ra
      have r0 := r.imm_one hi'
      refine .inr (.inl ⟨p, xs, ex, At.sqT at_, fun hw => ?_, fun hw l hl => q _ _ [] (New.tupl hl r0.cut)⟩)
      have e0 : cutV xs lo hi = xs := by
        unfold cutV
        rw [hw.1, hw.2, List.drop_zero, Nat.sub_zero, List.take_length]
      have rc := r0.cut (lo := lo) (hi := hi)
      rw [e0] at rc
      exact q _ H [] (New.atom ⟨p, xs, [], rfl, at_, rfl, .inr (.inl rfl), rc⟩)
    · cases e
  · split at e
    · rename_i hi'
      injection e with e; subst e
      obtain ⟨p, xs, B, ex, at_, eA, c, r⟩ := ra
      exact .inl ⟨p, xs, ex, at_.sqL, fun l hl => q _ _ [l] (New.node hl (r.imm_one hi').cut)⟩
    · cases e
  · split at e
    · rename_i hi'
      injection e with e; subst e
      obtain ⟨p, xs, B, ex, at_, eA, c, r⟩ := ra
      exact .inl ⟨p, xs, ex, at_.sqS, fun l hl => q _ _ [l] (New.node hl (r.imm_one hi').cut)⟩
    · cases e
  · split at e
    · rename_i h
      injection e with e; subst e
      exact .inr (.inr ⟨_, ra.1, h, q _ H [] (New.atom ⟨rfl, rfl⟩)⟩)
    · cases e
  · cases e
def mSl (f : T → Option Int → Option Int → Option T) (fa : M T) (fl fh : M (Option Int)) : M T := bnd fa fun t => bnd fl fun l => bnd fh fun h => lft (f t l h)
theorem tm_slice {lo hi : Option Expr} {fl fh : M (Option Int)} {r : V → Option Int → Option Int → Hp → VK → Prop} {f : T → Option Int → Option Int → Option T} (hr : SlR X r) (hf : SlT g r f) (ha : PEm g X a fa e1 b1) (hl : POm g X lo fl e2) (hh : POm g X hi fh e3) (d : ∀ j ∈ b1, j ∉ e2 ++ e3 := by decide) :
    PEm g X (.Subscript a (.Slice lo hi none p2) pos) (mSl f fa fl fh) (e1 ++ (e2 ++ e3)) [] := PE.imp (pe_slice hr ha hl hh) fun σ H Q h => by
  obtain ⟨S, Ts, A, t, Ts', R, q0, k⟩ := h
  obtain ⟨ta, Ts1, ea, q1⟩ := bnd_some q0
  obtain ⟨l, Ts2, el, q2⟩ := bnd_some q1
  obtain ⟨hh', Ts3, eh, q3⟩ := bnd_some q2
  obtain ⟨ef, eT⟩ := lft_some q3
  subst eT
  refine ⟨S, Ts, A, ta, Ts1, R, ea, fun x H1 S1 A1 Ax R1 r1 o1 p1 s1 => ⟨S1, Ts1, A1, l, Ts2, R1, el, fun H2 S2 A2 R2 p2 s2 => ⟨S2, Ts2, A2, hh', _, R2, eh, fun H3 S3 A3 R3 p3 s3 => ?_⟩⟩⟩
  have p23 := p2.trans R1 p3
  have s23 := s2.trans s3
  have r3 := r1.held R1 o1 p23 s23 d
  refine hf S3 H3 ta x Ax l hh' t Q r3 ef fun z H4 Az n => ?_
  have o : Ow [] H3 A3 S3 A3 Az := Ow.of_new R3 n
  have p4 := p1.trans R p23
  have s5 := (s1.trans s23).trans (Stb.ext (eff := []) (Ts := Ts') (A := A3) n.ext)
  rw [List.append_nil] at s5
  exact k z H4 S3 A3 Az (R3.ext n.ext) n.rep (o.rebase p4) (p4.trans R (Po.ext n.ext)) s5
theorem tm_glob {x : Str} {v : V} {u : Value} {t : T} (hg : Gl X x) (hm : X.mg x = some u) (r : RelV v u) (hr : ∀ S H, Rp g S H t v []) (hd : (x == ("__debug__" : Str)) = false := by decide) : PEm g X (.Name x pos) (mC t) [] [] := tm_c (pe_glob hg hm r hd) hr
inductive Wr (K : PySem.W.Frag) : T → V → Prop where
  | non : Wr K .non .non
  | bl (b : Bool) : Wr K (.bl b) (.bl b)
  | int (i : Int) : Wr K (.int i) (.int i)
  | str (s : Str) : Wr K (.str s) (.str s)
theorem SR.puts {S : Addr → Prop} {H : Hp} {σ : L2.St} {Ts Ts' : List T} {A : Nat → List Addr} {i : Nat} {t : T} {v : V} {Av : List Addr} (R : SR g S H σ Ts A) (q : mPut i t Ts = some ((), Ts')) (r : Rp g S H t v Av) (nd : Av.Nodup) (dj : ∀ a ∈ Av, ¬ S a ∧ ∀ i, a ∉ A i) :
    ∃ A', SR g S H (σ.set i (some v)) Ts' A' ∧ (∀ k, ∀ a ∈ A' k, (∃ j, a ∈ A j) ∨ a ∈ Av) ∧ ∀ j, j ≠ i → slot Ts' j = slot Ts j ∧ A' j = A j := by
  unfold mPut at q
  split at q
  · rename_i hi
    injection q with q
    injection q with _ q
    subst q
    refine ⟨_, R.put hi r nd dj, fun k a ha => ?_, fun j hj => ⟨slot_set_ne hj, if_neg hj⟩⟩
    split at ha
    · exact .inr ha
    · exact .inl ⟨k, ha⟩
  · cases q
end
end MI
namespace MI
open PySem PySem.Spec PyProof.Rows L2
section
variable {g : Gc} {X : Cx} {o b : Expr} {fa fk : M T} {mp : M (List Nat)} {e1 e2 e3 b1 b3 : List Nat} {pos p2 : Pos} {i : Nat}
def rSt : V → List V → Hp → VK → Prop := fun x xs H Q => ∃ iv v, xs = [iv, v] ∧ rSetL x iv v H fun H' => Q .non H'
def fSt (n : T) (args : List T) : Option (T × T) := match n, args with
  | .nd (.lst true) ts, [.int k, v] => (match ixN ts.length k with
    | some j => some (.non, .nd (.lst true) (ts.set j v))
    | none => none)
  | _, _ => none
theorem ixN_lt {n : Nat} {k : Int} {j : Nat} (h : ixN n k = some j) : j < n := by
  unfold ixN at h
  grind
theorem mut_st : MutT g rSt fSt := fun S H a n B0 args xs Ag res n' Q rn ho ra nd nS ef k => by
  unfold fSt at ef
  split at ef
  · rename_i ts kk v
    split at ef
    · rename_i j hj
      injection ef with ef
      injection ef with h1 h2
      subst h1; subst h2
      obtain ⟨a', xs0, B, ex, at_, eA, c, rl⟩ := rn
      injection ex with ex
      subst ex
      have eA : a :: B0 = a :: B := eA
      injection eA with _ eA
      subst eA
      have at_ : H a = some (.lst xs0) := at_
      have hl := RpL.length _ _ _ rl
      have hjl := ixN_lt hj
      obtain ⟨z, B1, B2, B3, hz, eB, rz, r1, r3⟩ := RpL.split ts xs0 B0 rl j ts[j] (by simp [hjl])
      obtain ⟨iv, ys, C1, C2, y1, y2, w1, w2⟩ := ra
      obtain ⟨vv, C, z1, w3⟩ := w2.get1
      subst z1
      have hC : RpL g S H [v] [vv] C2 := w2
      have w3 : Rp g S H v vv C2 := by
        obtain ⟨q, qs, D1, D2, d1, d2, d3, d4⟩ := hC
        injection d1 with d1 d5
        subst d1
        rw [d2, d4.2, List.append_nil]; exact d3
      have eC : C1 = [] := w1.2
      subst eC
      rw [List.nil_append] at y2
      subst y2
      refine ⟨iv, vv, y1, a, xs0, kk, j, rfl, w1.1, at_, by rw [← hl]; exact hj, ?_⟩
      obtain ⟨na, nd2⟩ := List.nodup_cons.mp nd
      have kp : ∀ {ts : List T} {xs : List V} {D : List Addr}, RpL g S H ts xs D → (∀ b ∈ D, b ≠ a) → RpL g S (upd H a (.lst (xs0.set j vv))) ts xs D := fun r hD => RpL.keep (M := fun b => b = a) (fun b o e n => by rw [upd_ne n]; exact e) (fun b e => by rw [e, at_]; trivial) (fun b hb e => nS (e ▸ hb)) (fun _ h => h) _ _ _ r hD
      have kp1 : ∀ {t : T} {x : V} {D : List Addr}, Rp g S H t x D → (∀ b ∈ D, b ≠ a) → Rp g S (upd H a (.lst (xs0.set j vv))) t x D := fun r hD => Rp.keep (M := fun b => b = a) (fun b o e n => by rw [upd_ne n]; exact e) (fun b e => by rw [e, at_]; trivial) (fun b hb e => nS (e ▸ hb)) (fun _ h => h) _ _ _ r hD
      have nB : ∀ b ∈ B0, b ≠ a := fun b hb e => na (List.mem_append_left _ (e ▸ hb))
      have nC : ∀ b ∈ Ag, b ≠ a := fun b hb e => na (List.mem_append_right _ (e ▸ hb))
      have hjx : j < xs0.length := by rw [← hl]; exact hjl
      have rj : RpL g S (upd H a (.lst (xs0.set j vv))) (ts.set j v) (xs0.set j vv) (B1 ++ (Ag ++ B3)) := by
        refine RpL.join hjl (by simp [hjx]) (by rw [List.length_set]; exact hl) ?_ (kp1 w3 nC) ?_
        · have : (xs0.set j vv).take j = xs0.take j := by rw [List.take_set_of_le (Nat.le_refl _)]
          rw [this]
          exact kp r1 fun b hb => nB b (by rw [eB]; exact List.mem_append_left _ hb)
        · have : (xs0.set j vv).drop (j + 1) = xs0.drop (j + 1) := by rw [List.drop_set_of_lt (Nat.lt_succ_self _)]
          rw [this]
          exact kp r3 fun b hb => nB b (by rw [eB]; exact List.mem_append_right _ (List.mem_append_right _ hb))
      have inB : ∀ b ∈ B1 ++ (Ag ++ B3), b ∈ B0 ∨ b ∈ Ag := fun b hb => by
        rcases List.mem_append.mp hb with h | h
        · exact .inl (by rw [eB]; exact List.mem_append_left _ h)
        · rcases List.mem_append.mp h with h | h
          · exact .inr h
          · exact .inl (by rw [eB]; exact List.mem_append_right _ (List.mem_append_right _ h))
      refine k .non (.lst (xs0.set j vv)) (B1 ++ (Ag ++ B3)) ⟨a, _, _, rfl, upd_same, rfl, .inl rfl, rj⟩ rfl ⟨rfl, rfl⟩ (List.nodup_cons.mpr ⟨fun h => ?_, ?_⟩) inB
      · rcases inB a h with h | h
        · exact nB a h rfl
        · exact nC a h rfl
      · obtain ⟨n1, n2, n3⟩ := List.nodup_append.mp nd2
        rw [eB] at n1 n3
        obtain ⟨m1, m2, m3⟩ := List.nodup_append.mp n1
        obtain ⟨_, l2, l3⟩ := List.nodup_append.mp m2
        refine List.nodup_append.mpr ⟨m1, List.nodup_append.mpr ⟨n2, l2, fun x hx y hy e => ?_⟩, fun x hx y hy e => ?_⟩
        · exact n3 y (List.mem_append_right _ (List.mem_append_right _ hy)) x hx e.symm
        · rcases List.mem_append.mp hy with h | h
          · exact n3 x (List.mem_append_left _ hx) y h e
          · exact m3 x hx y (List.mem_append_right _ h) e
    · cases ef
  · cases ef
def wr (i : Nat) (p : List Nat) (k v : T) : M Fl := fun Ts => match subT p (slot Ts i) with
  | some n => if n.ownNd then (match fSt n [k, v] with
    | some (_, n') => some (.nx, Ts.set i (setT p (slot Ts i) n'))
    | none => none) else none
  | none => none
def mSetI (i : Nat) (mp : M (List Nat)) (fk fa : M T) : M Fl := bnd fa fun v => bnd mp fun p => bnd fk fun k => wr i p k v
theorem wr_some {p : List Nat} {k v : T} {Ts Ts' : List T} {fl : Fl} (h : wr i p k v Ts = some (fl, Ts')) : ∃ n r n', subT p (slot Ts i) = some n ∧ n.ownNd = true ∧ fSt n [k, v] = some (r, n') ∧ fl = .nx ∧ Ts' = Ts.set i (setT p (slot Ts i) n') := by
  unfold wr at h
  split at h
  · rename_i n hn
    split at h
    · rename_i ho
      split at h
      · rename_i r n' hf
        injection h with h
        injection h with h1 h2
        exact ⟨n, r, n', hn, ho, hf, h1.symm, h2.symm⟩
      · cases h
    · cases h
  · cases h
theorem setI_r (d : i ∉ e3) (D : Ends) (σ : L2.St) (H : Hp) (h : TSm g (mSetI i mp fk fa) [] ((e1 ++ (e2 ++ e3)) ++ [i]) D σ H) : tAsg (TM g fa e1 []) (gSub (TL g mp e2 i) (TM g fk e3 b3) rSetL) D σ H := by
  obtain ⟨S, Ts, A, fl, Ts', R, q, k⟩ := h
  obtain ⟨v, Ts1, q1, q2⟩ := bnd_some q
  obtain ⟨p, Ts2, q3, q4⟩ := bnd_some q2
  obtain ⟨kk, Ts3, q5, q6⟩ := bnd_some q4
  obtain ⟨n, r0, n', hn, ho, hf, h1, h2⟩ := wr_some q6
  subst h1; subst h2
  refine ⟨S, Ts, A, v, Ts1, R, q1, fun x H1 S1 A1 Ax R1 rx o1 p1 s1 => ⟨S1, Ts1, A1, p, Ts2, R1, q3, fun y H2 S2 A2 x0 u B R2 hx pl p2 s2 => ⟨S2, Ts2, A2, kk, Ts3, R2, q5, fun z H3 S3 A3 Az R3 rz oz p3 s3 => ?_⟩⟩⟩
  have pl3 := pl_held R2 pl p3 s3 d
  have hu : u = n := by
    have := (Pl.rep _ _ _ _ _ _ _ pl3).2.2
    rw [hn] at this
    injection this with this
    exact this.symm
  subst hu
  have p23 := p2.trans R1 p3
  have s23 := s2.trans s3
  have hc := Rp.cells _ _ _ rx
  have rx3 := rx.held R1 o1 p23 s23 fun j hj => nomatch hj
  have ox3 := o1.held R1 R3 hc p23 s23 fun j hj => nomatch hj
  have kk0 : Az = [] ∧ Rp g S3 H3 kk z [] := by
    unfold fSt at hf
    split at hf
    · rename_i heq
      injection heq with heq _
      subst heq
      exact ⟨rz.2, ⟨rz.1, rfl⟩⟩
    · cases hf
  have ra : RpL g S3 H3 [kk, v] [z, x] Ax := ⟨z, [x], [], Ax, rfl, rfl, kk0.2, RpL.one rx3⟩
  have fin := mut_fin (Q := fun x' H' => D.nx σ H') mut_st R R3 hx pl3 ra ox3 (p1.trans R p23) (s1.trans s23) ho hf fun x' H' S' A' Ax' R' rx' o' p' s' => k σ H' S' A' (fun _ _ => rfl) R' p' s'
  obtain ⟨iv, vv, e, w⟩ := fin
  injection e with e1' e2'
  injection e2' with e3' _
  subst e1'; subst e3'
  exact w
theorem ts_setI (ha : PEm g X b fa e1 []) (hp : PLm g X o mp e2 i) {k : Expr} (hk : PEm g X k fk e3 b3) (d : i ∉ e3 := by decide)
    (hset : ∀ v, assign (.Subscript o k p2) X.env v = (do let ov ← holding [v] (eval o X.env); let iv ← holding [v, ov] (eval k X.env); standAt p2; holding [v, ov, iv] (setItem ov iv v); release [v, ov, iv] []) := by intro _; rfl)
    (hs : swapsWithSole [.Subscript o k p2] b pos.line X.env = pure false := by rfl) (hw : swappedStores [.Subscript o k p2] b X.env = pure none := by rfl) (h1 : (assignEach [.Subscript o k p2] X.env).map (·.2) = [assign (.Subscript o k p2) X.env] := by rfl) :
    PSm g X (.Assign [.Subscript o k p2] b pos) (mSetI i mp fk fa) [] ((e1 ++ (e2 ++ e3)) ++ [i]) := PS.imp (ps_asg ha (pg_sub hp hk set_list hset) hs hw h1) (setI_r d)
def mSetP (i : Nat) (mp : M (List Nat)) (fk : M T) (j : Nat) (fa : M T) : M Fl := bnd fa fun t => match t with
  | .nd .tup [v, w] => if v.imm && w.imm then (bnd mp fun p => bnd fk fun k => bnd (wr i p k v) fun _ => bnd (mPut j w) fun _ => ret .nx) else fun _ => none
  | _ => fun _ => none
theorem setP_r {j : Nat} (d : i ∉ e3) (hK : g.K = X.K) (D : Ends) (σ : L2.St) (H : Hp) (h : TSm g (mSetP i mp fk j fa) [j] (e1 ++ ((e2 ++ e3) ++ [i]) ++ [j]) D σ H) : tAsg (TM g fa e1 []) (gTup X.K 2 (gCons (gSub (TL g mp e2 i) (TM g fk e3 b3) rSetL) (gCons (gName j) gNil))) D σ H := by
  obtain ⟨S, Ts, A, fl, Ts', R, q, k⟩ := h
  obtain ⟨t, Ts1, q1, q2⟩ := bnd_some q
  split at q2
  · rename_i v w
    split at q2
    · rename_i him
      obtain ⟨hv, hw⟩ := Bool.and_eq_true_iff.mp him
      obtain ⟨p, Ts2, q3, q4⟩ := bnd_some q2
      obtain ⟨kk, Ts3, q5, q6⟩ := bnd_some q4
      obtain ⟨fl0, Ts4, q7, q8⟩ := bnd_some q6
      obtain ⟨_, Ts5, q9, q10⟩ := bnd_some q8
      obtain ⟨h1, h2⟩ := ret_some q10
      subst h1; subst h2
      obtain ⟨n, r0, n', hn, ho, hf, _, h2⟩ := wr_some q7
      subst h2
      refine ⟨S, Ts, A, _, Ts1, R, q1, fun x H1 S1 A1 Ax R1 rx o1 p1 s1 => ?_⟩
      obtain ⟨a, xs, B, ex, at_, eA, c, rl⟩ := rx
      obtain ⟨x1, ys, B1, B2, y1, y2, r1, r2⟩ := rl
      obtain ⟨x2, zs, B3, B4, z1, z2, r3, r4⟩ := r2
      obtain ⟨w1, w2⟩ := r4
      subst w1; subst w2; subst z1; subst y1
      have i1 := Rp.imm_nil _ _ _ r1 hv
      have i2 := Rp.imm_nil _ _ _ r3 hw
      subst i1; subst i2
      refine ⟨a, [x1, x2], ex, hK ▸ At.sqT at_, rfl, x1, [x2], rfl, S1, Ts1, A1, p, Ts2, R1, q3, fun y H2 S2 A2 x0 u B R2 hx pl p2 s2 => ⟨S2, Ts2, A2, kk, Ts3, R2, q5, fun z H3 S3 A3 Az R3 rz oz p3 s3 => ?_⟩⟩
      have pl3 := pl_held R2 pl p3 s3 d
      have hu : u = n := by
        have := (Pl.rep _ _ _ _ _ _ _ pl3).2.2
        rw [hn] at this
        injection this with this
        exact this.symm
      subst hu
      have p23 := p2.trans R1 p3
      have s23 := s2.trans s3
      have rx3 : Rp g S3 H3 v x1 [] := Rp.held (bo := []) (H := H) (A := A) R1 r1 Ow.nil p23 s23 fun j hj => nomatch hj
      have kk0 : Rp g S3 H3 kk z [] := by
        unfold fSt at hf
        split at hf
        · rename_i heq
          injection heq with heq _
          subst heq
          exact ⟨rz.1, rfl⟩
        · cases hf
      have ra : RpL g S3 H3 [kk, v] [z, x1] [] := ⟨z, [x1], [], [], rfl, rfl, kk0, RpL.one rx3⟩
      have fin := mut_fin (Q := fun x' H' => ∃ v' r', [x2] = v' :: r' ∧ gName j v' σ H' fun σ' H'' => gNil r' σ' H'' D.nx) mut_st R1 R3 hx pl3 ra Ow.nil p23 s23 ho hf fun x' H' S' A' Ax' R' rx' o' p' s' => by
        refine ⟨x2, [], rfl, ?_⟩
        have rw4 : Rp g S' H' w x2 [] := Rp.held (bo := []) (H := H) (A := A) R1 r3 Ow.nil p' s' fun j hj => nomatch hj
        obtain ⟨A5, R5, n5, st5⟩ := R'.puts q9 rw4 List.nodup_nil fun _ z => nomatch z
        have pp := p1.trans R p'
        have ss := s1.trans s'
        refine ⟨rfl, k _ H' S' A5 (fun m hm => ?_) R5 ⟨pp.keep, pp.sub, pp.snew, fun m a ha => ?_⟩ fun m hm => ?_⟩
        · rw [List.getElem?_set_ne (fun h => hm (by simp [h]))]
        · rcases n5 m a ha with ⟨j', hj⟩ | h
          · exact pp.anew j' a hj
          · exact nomatch h
        · have m2 : m ≠ j := fun h => hm (by simp [h])
          obtain ⟨x1', x2', x3'⟩ := ss m fun h => hm (List.mem_append_left _ h)
          obtain ⟨u1, u2⟩ := st5 m m2
          exact ⟨u1.trans x1', u2.trans x2', x3'⟩
      obtain ⟨iv, vv, e, w⟩ := fin
      injection e with e1' e2'
      injection e2' with e3' _
      subst e1'; subst e3'
      exact w
    · cases q2
  · cases q2
end
end MI
namespace MI
open PySem PySem.Spec PyProof.Rows L2
section
variable {g : Gc} {X : Cx} {o b : Expr} {fa fk : M T} {mp : M (List Nat)} {e1 e2 e3 b1 b3 : List Nat} {pos p2 p3 p4 : Pos} {i j l : Nat}
theorem ts_setP {kk : Nat} {x : Str} {k : Expr} (hK : g.K = X.K) (hc : X.calm = true) (ha : PEm g X b fa e1 []) (hp : PLm g X o mp e2 i) (hk : PEm g X k fk e3 b3) (hx : PG X (.Name x p3) (gName j)) (d : i ∉ e3 := by decide)
    (hset : ∀ v, assign (.Subscript o k p2) X.env v = (do let ov ← holding [v] (eval o X.env); let iv ← holding [v, ov] (eval k X.env); standAt p2; holding [v, ov, iv] (setItem ov iv v); release [v, ov, iv] []) := by intro _; rfl)
    (hg1 : (assignEach [.Subscript o k p2, .Name x p3] X.env).map (·.2) = assign (.Subscript o k p2) X.env :: (assignEach [.Name x p3] X.env).map (·.2) := by rfl) (hg2 : (assignEach [.Name x p3] X.env).map (·.2) = assign (.Name x p3) X.env :: (assignEach [] X.env).map (·.2) := by rfl)
    (hn : (assignEach [.Subscript o k p2, .Name x p3] X.env).length = 2 := by rfl) (hst : (assignEach [.Subscript o k p2, .Name x p3] X.env).findIdx? (·.1) = none := by rfl)
    (hs : swapsWithSole [.Tuple [.Subscript o k p2, .Name x p3] kk p4] b pos.line X.env = pure false := by rfl) (hw : swappedStores [.Tuple [.Subscript o k p2, .Name x p3] kk p4] b X.env = pure none := by rfl) (h1 : (assignEach [.Tuple [.Subscript o k p2, .Name x p3] kk p4] X.env).map (·.2) = [assign (.Tuple [.Subscript o k p2, .Name x p3] kk p4) X.env] := by rfl) :
    PSm g X (.Assign [.Tuple [.Subscript o k p2, .Name x p3] kk p4] b pos) (mSetP i mp fk j fa) [j] (e1 ++ ((e2 ++ e3) ++ [i]) ++ [j]) :=
  PS.imp (ps_asg ha (pg_tup hc (pgs_cons (pg_sub hp hk set_list hset) (pgs_cons hx pgs_nil hg2) hg1) hn hst) hs hw h1) (setP_r d hK)
def mAug (i : Nat) (f : T → T → Option T) (fa : M T) : M Fl := bnd (mRd i) fun x => bnd fa fun y => bnd (lft (f x y)) fun z => bnd (mPut i z) fun _ => ret .nx
def mPar3 (i j l : Nat) (fs : M (List T)) : M Fl := bnd fs fun ts => bnd (mGcons (mPut i) (mGcons (mPut j) (mGcons (mPut l) mGnil)) ts) fun _ => ret .nx
end
end MI
namespace MI
open PySem PySem.Spec PyProof.Rows L2
section
variable {g : Gc} {X : Cx} {o e : Expr} {es : List Expr} {fa : M T} {fs : M (List T)} {mp : M (List Nat)} {e1 e2 b1 b2 : List Nat} {pos p2 p3 apos : Pos} {i : Nat} {cls f : Str} {ln : List (Option Nat)} {io : List Nat} {c : Cal} {k : Nat} {ps : List Str} {fd : FuncData} {fad : Addr}
def fFld (cls f : Str) (t : T) : Option T := match t with
  | .nd (.ins _ c fs) ts => if c = cls then (match fs.findIdx? (fun x => x = f) with
    | some j => ts[j]?
    | none => none) else none
  | _ => none
def isIns (cls m : Str) (t : T) : Option T := match t with
  | .nd (.ins _ c fs) ts => if c = cls ∧ fs.findIdx? (fun x => x = m) = none then some t else none
  | _ => none
def mIns (cls m : Str) (fa : M T) : M T := bnd fa fun t => lft (isIns cls m t)
end
end MI
namespace MI
open PySem PySem.Spec PyProof.Rows L2
section
variable {g : Gc} {X : Cx} {o e : Expr} {es : List Expr} {fa : M T} {fs : M (List T)} {mp : M (List Nat)} {e1 e2 b1 b2 : List Nat} {pos p2 p3 apos : Pos} {i : Nat} {cls f : Str} {ln : List (Option Nat)} {io : List Nat} {c : Cal} {k : Nat} {ps : List Str} {fd : FuncData} {fad : Addr}
def putN (f : Str) (v : T) : List Str → List T → List Str × List T
  | h :: fs, t :: ts => if h = f then (h :: fs, v :: ts) else (h :: (putN f v fs ts).1, t :: (putN f v fs ts).2)
  | _, _ => ([f], [v])
def fFl (cls f : Str) (n : T) (args : List T) : Option (T × T) := match n, args with
  | .nd (.ins true c fs) ts, [v] => if c = cls ∧ fs.length < 1000 then some (.non, .nd (.ins true c (putN f v fs ts).1) (putN f v fs ts).2) else none
  | _, _ => none
def wrF (i : Nat) (p : List Nat) (cls f : Str) (v : T) : M Fl := fun Ts => match subT p (slot Ts i) with
  | some n => if n.ownNd then (match fFl cls f n [v] with
    | some (_, n') => some (.nx, Ts.set i (setT p (slot Ts i) n'))
    | none => none) else none
  | none => none
def mSetF (i : Nat) (mp : M (List Nat)) (cls f : Str) (fa : M T) : M Fl := bnd fa fun v => bnd mp fun p => wrF i p cls f v
def allN (ln : List (Option Nat)) : Bool := ln.all Option.isNone
def mMake (c : Cal) (cls : Str) (ln : List (Option Nat)) (fs : M (List T)) : M T := bnd fs fun ts => bnd (lft (c (.nd (.ins true cls []) [] :: fzA ln ts))) fun p => match p with
  | (.non, [s]) => ret s
  | _ => fun _ => none
theorem RpC.none : ∀ (ln : List (Option Nat)) {S : Addr → Prop} {H : Hp} {σ : L2.St} {ts : List T} {xs : List V} {Al Ab : List Addr}, allN ln = true → RpC g S H σ ln ts xs Al Ab → Al = []
  | [], _, _, _, _, _, _, _, _, r => r.2.2.1
  | Option.none :: ln, _, _, _, _, _, _, _, h, r => by
    obtain ⟨t, ts', x, xs', B, Ab', _, _, _, _, r⟩ := r
    exact RpC.none ln (by simpa [allN] using h) r
  | some s :: ln, _, _, _, _, _, _, _, h, r => by simp [allN] at h
end
end MI
namespace MI
open PySem PySem.Spec PyProof.Rows L2
structure Hd where
  cs : List T
  cx : List V
  ax : List Addr
  bo : List Nat
def LI (g : Gc) (H : Hp) (A : Nat → List Addr) (S1 : Addr → Prop) (H1 : Hp) (A1 : Nat → List Addr) (Ts1 : List T) (E : List Nat) (hs : List Hd) (Da : Addr) (hid : List Nat) (σw : L2.St) (P : List T → List T → Prop) (H' : Hp) : Prop :=
  ∃ S' Tsi A' acc Aa, SR g S' H' σw Tsi A' ∧ (∀ j ∈ hid, A' j = []) ∧ P acc Tsi ∧ Po S1 H1 A1 S' H' A' ∧ Stb E H1 Ts1 A1 H' Tsi A' ∧ (∀ h ∈ hs, RpL g S' H' h.cs h.cx h.ax ∧ Ow h.bo H A S' A' h.ax ∧ ∀ a ∈ h.ax, a ≠ Da) ∧ Rp g S' H' (.nd (.lst true) acc) (.ref Da) Aa ∧ Ow [] H A S' A' Aa
section
variable {g : Gc} {m m1 : T → M Unit} {tt : M Bool} {te : M T} {mi mi1 : M (List T)} {a1 a2 e1 e2 e3 b1 b2 : List Nat} {vs vs1 hid E : List Nat} {S S1 : Addr → Prop} {H H1 : Hp} {A A1 : Nat → List Addr} {Ts Ts1 : List T} {hs : List Hd} {Da : Addr} {σ σ0 : L2.St}
theorem wipe_same {σ2 σ : L2.St} {vs a : List Nat} (hl : σ2.length = σ.length) (h : ∀ j, j ∉ a → σ2[j]? = (wipe σ vs)[j]?) (dv : ∀ j ∈ a, j ∈ vs) : wipe σ2 vs = wipe σ vs := by
  refine List.ext_getElem? fun j => ?_
  by_cases hj : j ∈ vs
  · by_cases hl2 : j < σ.length
    · rw [wipe_in (by omega) hj, wipe_in hl2 hj]
    · rw [List.getElem?_eq_none_iff.mpr (by rw [wipe_length]; omega), List.getElem?_eq_none_iff.mpr (by rw [wipe_length]; omega)]
  · rw [wipe_out hj, h j fun z => hj (dv j z)]
theorem LI.put {P : List T → List T → Prop} {Q : L2.St → Hp → Prop} {H' H2 : Hp} {t : T} {x : V} (R : SR g S H σ0 Ts A) (dv : ∀ j ∈ a1, j ∈ vs) (hv : ∀ j ∈ vs, j ∈ hid) (hE : ∀ j ∈ hid, j ∈ E) (d : ∀ h ∈ hs, ∀ j ∈ h.bo, j ∉ a1) (R1 : SR g S1 H1 σ0 Ts1 A1)
    (h : LI g H A S1 H1 A1 Ts1 E hs Da hid (wipe σ vs) (fun acc Ti => ∃ Ta, m t Ti = some ((), Ta) ∧ P acc Ta) H') (ex : Ext H' H2) (hy : ∀ S2, (∀ h ∈ hs, RpL g S2 H' h.cs h.cx h.ax) → Rp g S2 H2 t x [])
    (k : ∀ σ2, wipe σ2 vs = wipe σ vs → LI g H A S1 H1 A1 Ts1 E hs Da hid σ2 P H2 → Q σ2 H2) : TGm g m a1 x (wipe σ vs) H2 Q := by
  obtain ⟨S', Tsi, A', acc, Aa, Ri, hA, ⟨Ta, qa, qP⟩, pi, si, hd, ra, oa⟩ := h
  have rt := hy S' fun h hh => (hd h hh).1
  have Ri2 := Ri.ext ex
  refine ⟨S', Tsi, A', t, [], Ta, Ri2, rt, List.nodup_nil, (fun _ h => nomatch h), qa, fun σ2 A2 hσ2 R2 n2 s2 => ?_⟩
  have ew : wipe σ2 vs = wipe σ vs := wipe_same (by rw [hσ2.1, wipe_length]) hσ2.2 dv
  have hAv : ∀ j ∈ hid, A2 j = [] := fun j hj => by
    cases e : A2 j with
    | nil => rfl
    | cons a l =>
      have ha : a ∈ A2 j := by rw [e]; exact List.mem_cons_self
      rcases n2 j a ha with ⟨j', hj'⟩ | h
      · have hjv : j' ∉ hid := fun z => by rw [hA j' z] at hj'; exact nomatch hj'
        have e2 := (s2 j' fun z => hjv (hv j' (dv j' z))).2
        exact absurd (by rw [e2]; exact hj') (R2.dj j j' (by rintro rfl; exact hjv hj) a ha)
      · exact nomatch h
  have oa2 : Ow [] H A S' A2 Aa := oa.bound (a1 := a1) R2 n2 (fun j hj => (s2 j hj).2) fun j hj => nomatch hj
  refine k σ2 ew ⟨S', Ta, A2, acc, Aa, R2, hAv, qP, (pi.trans R1 (Po.ext ex)).bound (a1 := a1) n2, fun j hj => ?_, fun h hh => ⟨(hd h hh).1.ext ex, (hd h hh).2.1.bound (a1 := a1) R2 n2 (fun j hj => (s2 j hj).2) (d h hh), (hd h hh).2.2⟩, ra.ext ex, oa2⟩
  have hja : j ∉ a1 := fun z => hj (hE j (hv j (dv j z)))
  obtain ⟨x1, x2, x3⟩ := si j hj
  obtain ⟨y1, y2⟩ := s2 j hja
  exact ⟨y1.trans x1, y2.trans x2, fun a ha o eo => ex a o (x3 a ha o eo)⟩
theorem LI.test {P : List T → List T → Prop} {Q : Bool → Hp → Prop} {H2 : Hp} (dh : ∀ j ∈ hid, j ∉ e2) (hE : ∀ j ∈ e2, j ∈ E) (d : ∀ h ∈ hs, ∀ j ∈ h.bo, j ∉ e2) (R1 : SR g S1 H1 σ0 Ts1 A1)
    (h : LI g H A S1 H1 A1 Ts1 E hs Da hid σ (fun acc Ti => ∃ b Ta, tt Ti = some (b, Ta) ∧ P acc Ti) H2)
    (k : ∀ b H3, LI g H A S1 H1 A1 Ts1 E hs Da hid σ (fun acc Ta => ∃ Ti, tt Ti = some (b, Ta) ∧ P acc Ti) H3 → Q b H3) : TMt g tt e2 σ H2 Q := by
  obtain ⟨S', Tsi, A', acc, Aa, Ri, hA, ⟨b, Ta, qa, qP⟩, pi, si, hd, ra, oa⟩ := h
  refine ⟨S', Tsi, A', b, Ta, Ri, qa, fun H3 S3 A3 R3 p3 s3 => ?_⟩
  have hca := Rp.cells _ _ _ ra
  refine k b H3 ⟨S3, Ta, A3, acc, Aa, R3, fun j hj => ((s3 j (dh j hj)).2.1).trans (hA j hj), ⟨Tsi, qa, qP⟩, pi.trans R1 p3, fun j hj => ?_, fun h hh => ⟨RpL.held Ri (hd h hh).1 (hd h hh).2.1 p3 s3 (d h hh), (hd h hh).2.1.held Ri R3 (RpL.cells _ _ _ (hd h hh).1) p3 s3 (d h hh), (hd h hh).2.2⟩, ra.held Ri oa p3 s3 (fun _ z => nomatch z), oa.held Ri R3 hca p3 s3 (fun _ z => nomatch z)⟩
  obtain ⟨x1, x2, x3⟩ := si j hj
  obtain ⟨z1, z2, z3⟩ := s3 j fun z => hj (hE j z)
  exact ⟨z1.trans x1, z2.trans x2, fun a ha o eo => z3 a (by rw [x2]; exact ha) o (x3 a ha o eo)⟩
theorem LI.elt {P : List T → List T → Prop} {H2 : Hp} {Q : Hp → Prop} (R : SR g S H σ0 Ts A) (p1 : Po S H A S1 H1 A1) (hDa : H1 Da = none) (dh : ∀ j ∈ hid, j ∉ e3) (hE : ∀ j ∈ e3, j ∈ E) (d : ∀ h ∈ hs, ∀ j ∈ h.bo, j ∉ e3) (R1 : SR g S1 H1 σ0 Ts1 A1)
    (h : LI g H A S1 H1 A1 Ts1 E hs Da hid σ (fun acc Ti => ∃ r Ta, te Ti = some (r, Ta) ∧ acc.length < sizeLine ∧ P (acc ++ [r]) Ta) H2)
    (k : ∀ H3, LI g H A S1 H1 A1 Ts1 E hs Da hid σ P H3 → Q H3) : TM g te e3 [] σ H2 fun y H4 => ∃ acc, H4 Da = some (.lst acc) ∧ acc.length < sizeLine ∧ Q (upd H4 Da (.lst (acc ++ [y]))) := by
  obtain ⟨S', Tsi, A', acc, Aa, Ri, hA, ⟨r, Ta, qa, hz, qP⟩, pi, si, hd, ra, oa⟩ := h
  refine ⟨S', Tsi, A', r, Ta, Ri, qa, fun y H4 S4 A4 Ay R4 ry oy p5 s5 => ?_⟩
  have hca : ∀ a ∈ Aa, Mut (H2 a) := Rp.cells _ _ _ ra
  have ra4 := ra.held Ri oa p5 s5 (fun _ z => nomatch z)
  have oa4 := oa.held Ri R4 hca p5 s5 (fun _ z => nomatch z)
  have oap := Ow.app (p1.trans R pi) hca oa oa4 oy
  obtain ⟨a, accV, B, e1, at_, eA, _, rl⟩ := ra4
  injection e1 with e1
  subst e1
  have at_ : H4 Da = some (.lst accV) := at_
  have eA : Aa = Da :: B := eA
  subst eA
  have ndp : (Da :: B ++ Ay).Nodup := oap.nd rfl
  obtain ⟨n1, n2'⟩ := List.nodup_cons.mp ndp
  have nDB : Da ∉ B := fun z => n1 (List.mem_append_left _ z)
  have nDy : Da ∉ Ay := fun z => n1 (List.mem_append_right _ z)
  have nS : ¬ S4 Da := oa4.ns Da List.mem_cons_self
  have nA : ∀ i, Da ∉ A4 i := fun i => oa4.dj i (fun z => nomatch z) Da List.mem_cons_self
  refine ⟨accV, at_, by rw [← RpL.length _ _ _ rl]; exact hz, k _ ?_⟩
  have hA4 : ∀ j ∈ hid, A4 j = [] := fun j hj => ((s5 j (dh j hj)).2.1).trans (hA j hj)
  have Rg := R4.grow (o' := .lst (accV ++ [y])) at_ trivial nA nS
  have ry2 : RpL g S4 (upd H4 Da (.lst (accV ++ [y]))) [r] [y] Ay := RpL.grown (RpL.one ry) at_ trivial nS nDy
  have rl2 := RpL.grown (o := .lst (accV ++ [y])) rl at_ trivial nS nDB
  refine ⟨S4, Ta, A4, acc ++ [r], Da :: (B ++ Ay), Rg, hA4, qP, (pi.trans R1 p5).grown hDa, fun j hj => ?_, fun h hh => ⟨RpL.grown (RpL.held Ri (hd h hh).1 (hd h hh).2.1 p5 s5 (d h hh)) at_ trivial nS fun z => (hd h hh).2.2 Da z rfl, (hd h hh).2.1.held Ri R4 (RpL.cells _ _ _ (hd h hh).1) p5 s5 (d h hh), (hd h hh).2.2⟩, ⟨Da, accV ++ [y], B ++ Ay, rfl, upd_same, rfl, .inl rfl, RpL.append _ _ _ _ _ _ rl2 ry2⟩, oap⟩
  have sg := (si.trans s5).grown (o := .lst (accV ++ [y])) hDa j fun z => hj ((List.mem_append.mp z).elim id fun z => hE j z)
  exact sg
theorem LI.imp {P P' : List T → List T → Prop} {H' : Hp} (h : LI g H A S1 H1 A1 Ts1 E hs Da hid σ P H') (i : ∀ acc Ti, P acc Ti → P' acc Ti) : LI g H A S1 H1 A1 Ts1 E hs Da hid σ P' H' := by
  obtain ⟨S', Tsi, A', acc, Aa, Ri, hA, qP, w⟩ := h
  exact ⟨S', Tsi, A', acc, Aa, Ri, hA, i _ _ qP, w⟩
theorem LI.wiped {P : List T → List T → Prop} {H' : Hp} {σ2 : L2.St} (ew : wipe σ2 vs = wipe σ vs) (hv : ∀ j ∈ vs, j ∈ hid) (hE : ∀ j ∈ hid, j ∈ E) (h : LI g H A S1 H1 A1 Ts1 E hs Da hid σ2 (fun acc Ti => P acc (wipeT Ti vs)) H') : LI g H A S1 H1 A1 Ts1 E hs Da hid (wipe σ vs) P H' := by
  obtain ⟨S', Tsi, A', acc, Aa, Ri, hA, qP, pi, si, w⟩ := h
  refine ⟨S', wipeT Tsi vs, A', acc, Aa, Ri.turned ew fun j hj => hA j (hv j hj), hA, qP, pi, fun j hj => ?_, w⟩
  obtain ⟨x1, x2, x3⟩ := si j hj
  exact ⟨(wipeT_out vs Tsi j fun z => hj (hE j (hv j z))).trans x1, x2, x3⟩
theorem LI.step {F : List T × List T} {t : T} {ts : List T} {x : V} {H' H2 : Hp} (R : SR g S H σ0 Ts A) (p1 : Po S H A S1 H1 A1) (hDa : H1 Da = none) (dv : ∀ j ∈ a1, j ∈ vs) (hv : ∀ j ∈ vs, j ∈ hid) (hE : ∀ j ∈ hid, j ∈ E) (hE2 : ∀ j ∈ e2 ++ e3, j ∈ E) (d : ∀ h ∈ hs, ∀ j ∈ h.bo, j ∉ a1 ++ (e2 ++ e3)) (dh : ∀ j ∈ hid, j ∉ e2 ++ e3) (R1 : SR g S1 H1 σ0 Ts1 A1)
    (h : LI g H A S1 H1 A1 Ts1 E hs Da hid (wipe σ vs) (fun acc Ti => lcM m tt te vs (t :: ts) acc Ti = some F) H') (ex : Ext H' H2) (hy : ∀ S2, (∀ h ∈ hs, RpL g S2 H' h.cs h.cx h.ax) → Rp g S2 H2 t x []) :
    TGm g m a1 x (wipe σ vs) H2 fun σ2 H2 => wipe σ2 vs = wipe σ vs ∧ TMt g tt e2 σ2 H2 fun b H3 => if b = true then TM g te e3 [] σ2 H3 fun y H4 => ∃ acc, H4 Da = some (.lst acc) ∧ acc.length < sizeLine ∧ LI g H A S1 H1 A1 Ts1 E hs Da hid (wipe σ vs) (fun acc Ti => lcM m tt te vs ts acc Ti = some F) (upd H4 Da (.lst (acc ++ [y]))) else LI g H A S1 H1 A1 Ts1 E hs Da hid (wipe σ vs) (fun acc Ti => lcM m tt te vs ts acc Ti = some F) H3 := by
  refine LI.put (P := fun acc Ta => ∃ b Tb, tt Ta = some (b, Tb) ∧ (if b then bnd te fun r => if acc.length < sizeLine then (fun Ts => lcM m tt te vs ts (acc ++ [r]) (wipeT Ts vs)) else fun _ => none else fun Ts => lcM m tt te vs ts acc (wipeT Ts vs)) Tb = some F) R dv hv hE (fun h hh j hj z => d h hh j hj (List.mem_append_left _ z)) R1 (h.imp fun acc Ti q => ?_) ex hy fun σ2 ew l2 => ⟨ew, ?_⟩
  · obtain ⟨_, Ta, qa, qb⟩ := bnd_some q
    obtain ⟨b, Tb, qc, qd⟩ := bnd_some qb
    exact ⟨Ta, qa, b, Tb, qc, qd⟩
  refine LI.test (P := fun acc Ta => ∀ b Tb, tt Ta = some (b, Tb) → (if b then bnd te fun r => if acc.length < sizeLine then (fun Ts => lcM m tt te vs ts (acc ++ [r]) (wipeT Ts vs)) else fun _ => none else fun Ts => lcM m tt te vs ts acc (wipeT Ts vs)) Tb = some F) (fun j hj z => dh j hj (List.mem_append_left _ z)) (fun j z => hE2 j (List.mem_append_left _ z)) (fun h hh j hj z => d h hh j hj (List.mem_append_right _ (List.mem_append_left _ z))) R1 (l2.imp fun acc Ta q => ?_) fun b H3 l3 => ?_
  · obtain ⟨b, Tb, q1, q2⟩ := q
    exact ⟨b, Tb, q1, fun b' Tb' q1' => by rw [q1] at q1'; injection q1' with q1'; injection q1' with w1 w2; subst w1; subst w2; exact q2⟩
  cases b with
  | false =>
    refine iteF (LI.wiped ew hv hE (l3.imp fun acc Tb q => ?_))
    obtain ⟨Ta, q1, q2⟩ := q
    exact q2 false Tb q1
  | true =>
    refine iteT (LI.elt (P := fun acc Ti => lcM m tt te vs ts acc (wipeT Ti vs) = some F) R p1 hDa (fun j hj z => dh j hj (List.mem_append_right _ z)) (fun j z => hE2 j (List.mem_append_right _ z)) (fun h hh j hj z => d h hh j hj (List.mem_append_right _ (List.mem_append_right _ z))) R1 (l3.imp fun acc Tb q => ?_) fun H4 l4 => LI.wiped ew hv hE l4)
    obtain ⟨Ta, q1, q2⟩ := q
    have q3 := q2 true Tb q1
    obtain ⟨r, Tc, q4, q5⟩ := bnd_some q3
    split at q5
    · rename_i hz
      exact ⟨r, Tc, q4, hz, q5⟩
    · cases q5
def lc2M (m : T → M Unit) (mi1 : M (List T)) (m1 : T → M Unit) (tt1 : M Bool) (te : M T) (vs vs1 : List Nat) : List T → List T → M (List T)
  | [], acc => ret acc
  | t :: ts, acc => bnd (m t) fun _ => bnd mi1 fun items => fun Ts => match lcM m1 tt1 te vs1 items acc (wipeT Ts vs1) with
    | some (acc', Ts') => lc2M m mi1 m1 tt1 te vs vs1 ts acc' (wipeT Ts' vs)
    | none => none
def mLc2 (mi : M (List T)) (m : T → M Unit) (mi1 : M (List T)) (m1 : T → M Unit) (tt1 : M Bool) (te : M T) (vs vs1 : List Nat) : M T := bnd mi fun items => fun Ts => if vs.all (fun i => hidOk (slot Ts i)) then (match lc2M m mi1 m1 tt1 te vs vs1 items [] (wipeT Ts vs) with
  | some (acc, Ts2) => some (.nd (.lst true) acc, rest Ts Ts2 vs)
  | none => none) else none
end
end MI
namespace MI
open PySem PySem.Spec PyProof.Rows L2
section
variable {g : Gc} {X : Cx} {e e' tg iter tg1 iter1 elt : Expr} {ifs1 : List Expr} {fs : M (List T)} {m m1 : T → M Unit} {tt : M Bool} {te : M T} {mi mi1 : M (List T)} {a1 a2 e1 e2 e3 e4 b1 b2 : List Nat} {pos p2 tpos spos py : Pos} {elts : List Expr} {kk : Nat}
def zipT (xs ys : List T) : List T := (xs.zip ys).map fun p => .nd .tup [p.1, p.2]
end
end MI
namespace MI
open PySem PySem.Spec PyProof.Rows L2
section
variable {K : Type} [DecidableEq K]
end
section
variable {prog : Program} {w : World} {A : Around} {R : Result → Shared → Prop} {I S : Addr} {fp wr : List Addr} {G : Array GenState → Array GenState → Prop} {n : Nat} {P : Nat → Value → Prop} {St : Nat → Shared → Prop} {K : Type} [DecidableEq K]
end
section
variable {prog : Program} {w : World} {A : Around} {E : Value → Shared → Prop} {s : Shared}
end
section
variable {g : Gc} {X : Cx} {a : Expr} {fa : M T} {e1 b1 : List Nat} {p p2 q pos : Pos}
end
end MI
namespace MI
open PySem PySem.Spec PyProof.Rows L2
def KwB (K : PySem.W.Frag) (fd : FuncData) (ps : List Str) (n : Nat) : Prop := ∀ (s : Shared) (us ws : List Value), K.In s.heap → us.length = n → (us ++ ws).length = ps.length → BindsTo s fd ⟨us, (ps.drop n).zip ws⟩ (ps.zip (us ++ ws))
theorem FunD.kwb {K : PySem.W.Frag} {x qual : Str} {params : Arguments} {body : List Stmt} {scope : Scope} {kws : List (Str × V)} {f : Addr} {fd : FuncData} {ps : List Str} {n : Nat} (F : FunD K x qual params body scope [] kws f fd)
    (h : ∀ (kV doc pm : Value) (an : Option Addr) (cdv ct : Value) (us ws : List Value), us.length = n → (us ++ ws).length = ps.length → bindArgs (PySem.W.fnOf x qual params body scope .none kV doc pm an cdv ct) ⟨us, (ps.drop n).zip ws⟩ = pure (ps.zip (us ++ ws))) : KwB K fd ps n := by
  obtain ⟨oc, od, dV, kV, doc, pm, an, cdv, ct, osl, rfl, lk, hcd, hD, hK⟩ := F.ex
  rcases hD with ⟨_, rfl⟩ | ⟨e, _⟩
  · exact fun s us ws _ h1 h2 => .of_eq (h kV doc pm an cdv ct us ws h1 h2)
  · exact absurd rfl e
section
variable {X : Cx} {CX : CXT} {k : Nat} {f C : Addr} {fd : FuncData} {ps ks : List Str} {sp : Sp} {E : XK} {x m : Str} {p pos apos : Pos} {o : Expr} {kws : List Keyword} {ta : TE} {tk : TA}
end
section
variable {g : Gc} {X : Cx} {k : Nat} {f : Str} {fd : FuncData} {fad : Addr} {ps : List Str} {x m cls : Str} {p pos apos kpos : Pos} {e o : Expr} {kws : List Keyword} {fs : M (List T)} {fa : M T} {e1 e2 b1 b2 : List Nat} {io : List Nat} {c : Cal} {ln : List (Option Nat)} {nm : Option Str}
def PKc (g : Gc) (X : Cx) (ks : List Keyword) (f : M (List T)) (eff bo : List Nat) (ln : List (Option Nat)) : Prop := PK X ks (TMc g f eff bo ln)
theorem PK.imp {X : Cx} {ks : List Keyword} {t t' : TA} (h : PK X ks t) (i : ∀ σ H Q, t' σ H Q → t σ H Q) : PK X ks t' := ⟨fun pos pins s σ H Q I q => h.run pos pins s σ H Q I (i σ H Q q)⟩
theorem tkc_nil : PKc g X [] mNil [] [] [] := PK.imp pk_nil fun σ H Q h => TMc.nil h
theorem tkc_arg (ha : PEm g X e fa e1 b1) (hs : PKc g X kws fs e2 b2 ln) (d : ∀ j ∈ b1, j ∉ e2 := by decide) : PKc g X (⟨nm, e, kpos⟩ :: kws) (mCons fa fs) (e1 ++ e2) (b1 ++ b2) (none :: ln) :=
  PK.imp (pk_cons ha hs) fun σ H Q ⟨S, Ts, A, ts, Ts', R, q, k⟩ => by
    obtain ⟨ta, Ts1, ea, q1⟩ := bnd_some q
    obtain ⟨tb, Ts2, eb, q2⟩ := bnd_some q1
    obtain ⟨h1, h2⟩ := ret_some q2
    subst h1; subst h2
    refine ⟨S, Ts, A, ta, Ts1, R, ea, fun x H1 S1 A1 Ax R1 r1 o1 p1 s1 => ⟨S1, Ts1, A1, tb, Ts2, R1, eb, fun ys H2 S2 A2 Al Ab R2 r2 ol ob dj p2 s2 => ?_⟩⟩
    have hc := Rp.cells _ _ _ r1
    have o1' := o1.held R1 R2 hc p2 s2 d
    refine k (x :: ys) H2 S2 A2 Al (Ax ++ Ab) R2 ⟨ta, tb, x, ys, Ax, Ab, rfl, rfl, rfl, r1.held R1 o1 p2 s2 d, r2⟩ (ol.rebase p1) (Ow.app p1 hc o1 o1' ob) (fun a hl hx => ?_) (p1.trans R p2) (s1.trans s2)
    rcases List.mem_append.mp hx with hx | hx
    · rcases ol.new a hl with ⟨j, hj⟩ | hn
      · have hb : j ∈ b1 := Classical.byContradiction fun z => o1.dj j z a hx hj
        have e := (s2 j (d j hb)).2.1
        exact ol.dj j (fun z => nomatch z) a hl (by rw [e]; exact hj)
      · exact mut_ne (hc a hx) hn
    · exact dj a hl hx
end
end MI
namespace MI
open PySem PySem.Spec PyProof.Rows L2
section
end
section
variable {g : Gc} {X : Cx}
end
end MI
namespace MI
open PySem PySem.Spec PyProof.Rows L2
section
variable {g : Gc} {X : Cx} {a b e o : Expr} {fa fb fc : M T} {e1 e2 e3 b1 b2 b3 : List Nat} {pos p2 p3 : Pos} {k : Nat} {x : Str}
structure IsiC (K : PySem.W.Frag) (cl : Str → Addr) (c : Str) (own : List Str) : Prop where
  ty : ∀ n ∈ (["NoneType", "bool", "int", "str", "tuple", "list", "dict"] : List String), PySem.W.kitOne K (.type n) (.ref (cl c)) = some false
  ow : ∀ d ∈ own, PySem.W.kitOne K (.ref (cl d)) (.ref (cl c)) = some (decide (d = c))
  cls : ∀ d ∈ own, Cls K (cl d) ∧ PySem.W.findIn K (.ref (cl d)) "__class__" = some (some (.builtin "object.__class__")) ∧ PySem.W.mroIn K (cl d) (.type "object") = some true
  hn : PySem.W.specialIn K (.builtin "object.__class__") "__get__" = some (some (.builtin "getset_descriptor.__get__"))
  htk : PySem.W.takesIn K (.builtin "object.__class__") = some true
def keyOf (t : T) : Option Key := match t with
  | .int i => some (.inl i)
  | .str s => some (.inr s)
  | _ => none
def kT' : Key → T
  | .inl i => .int i
  | .inr s => .str s
theorem keyOf_rep {S : Addr → Prop} {H : Hp} {t : T} {q : Key} {y : V} {A : List Addr} (h : keyOf t = some q) (r : Rp g S H t y A) : y = kV q ∧ A = [] := by
  unfold keyOf at h
  split at h
  · injection h with h; subst h; exact r
  · injection h with h; subst h; exact r
  · cases h
def kIx (ks : List Key) (q : Key) : Option Nat := ks.findIdx? fun z => decide (z = q)
theorem valV_ix {q : Key} : ∀ {ks : List Key} {xs : List V}, ks.length = xs.length → valV (ks.zip xs) q = (kIx ks q).bind fun j => xs[j]?
  | [], [], _ => rfl
  | [], _ :: _, h => by simp at h
  | _ :: _, [], h => by simp at h
  | z :: ks, x :: xs, h => by
    have ih := valV_ix (q := q) (ks := ks) (xs := xs) (by simpa using h)
    unfold kIx at ih ⊢
    by_cases e : z = q
    · rw [List.zip_cons_cons, valV_pos e]
      simp [List.findIdx?_cons, e]
    · have e1 : valV ((z, x) :: ks.zip xs) q = valV (ks.zip xs) q := by simp [valV, List.find?_cons, e]
      rw [List.zip_cons_cons, e1, ih]
      simp only [List.findIdx?_cons, e, decide_false, Bool.false_eq_true, if_false, Option.bind_map]
      cases ks.findIdx? (fun z => decide (z = q)) <;> simp
def fIxK (a b : T) : Option T := match a with
  | .nd (.dK _ ks) ts => (keyOf b).bind fun q => (kIx ks q).bind fun j => ts[j]?
  | _ => none
theorem dGetR {H : Hp} {a : Addr} {kvs : List (Key × V)} {k : Key} (e : Rd H a (.dK kvs)) : DGet H a (kV k) (valV kvs k) := .inl ⟨kvs, k, e, rfl, rfl⟩
theorem ix_dct (hu : X.A.units + 1 < cLine) : IxR X (fun x y H Q => ∃ a v, x = .ref a ∧ DGet H a y (some v) ∧ Q v H) := by
  intro value slice pins s σ H x y v u Q I rx ry h hs
  obtain ⟨a, w, ex, g, q⟩ := h
  subst ex
  obtain rfl : v = Value.ref a := rx
  have hT := dict_typeIs I g
  unfold subscriptTail
  refine wpAny_bind ?_
  rw [getitemInPython_of_ne hT.not_modules]
  refine wpAny_bind (wpAny_specialOf hT PySem.F.slot_dict_getitem.lookup ?_)
  have fin : wpAny (model X.prog X.w) X.A (subscripted slice false (.ref a) u) (fun r s₃ => wpAny (model X.prog X.w) X.A (letTemporaryGo value (.ref a) r >>= fun _ => pure r) (EP X pins σ Q) X.xe s₃) X.xe s := by
    rw [hs]
    exact wpAny_operating (wpAny_mono (d_getItem (Q := EP X pins σ Q) hu I g ry fun w' s' I' rw' => ⟨w, H, I', rw', q⟩) (fun r s₃ h₃ => wpAny_bind (wpAny_letTemporaryGo (wpAny_pure h₃))) fun _ _ x => x)
  first
    | exact wpAny_pure (wpAny_bind fin)
    | exact wpAny_bind (wpAny_pure (wpAny_bind fin))
    | exact wpAny_bind fin
theorem RpL.part {S : Addr → Prop} {H : Hp} : ∀ (ts : List T) (xs : List V) (A : List Addr), RpL g S H ts xs A → ∀ (j : Nat) (t : T), ts[j]? = some t → ∃ x B, xs[j]? = some x ∧ Rp g S H t x B ∧ B.Sublist A
  | [], _, _, h, j, t, e => by simp at e
  | t0 :: ts, xs, A, h, j, t, e => by
    obtain ⟨y, ys, A1, A2, e1, e2, r1, r2⟩ := h
    subst e1; subst e2
    cases j with
    | zero => simp at e; subst e; exact ⟨y, A1, rfl, r1, List.sublist_append_left _ _⟩
    | succ j =>
      obtain ⟨x, B, h1, h2, h3⟩ := RpL.part ts ys A2 r2 j t (by simpa using e)
      exact ⟨x, B, by simpa using h1, h2, h3.trans (List.sublist_append_right _ _)⟩
theorem opp_ixK : OpP g (fun x y H Q => ∃ a v, x = .ref a ∧ DGet H a y (some v) ∧ Q v H) fIxK := fun S H a b x y Ax Ay t Q ra rb e q => by
  unfold fIxK at e
  split at e
  · rename_i o ks ts
    obtain ⟨qk, e1, e2⟩ := Option.bind_eq_some_iff.mp e
    obtain ⟨j, e3, e4⟩ := Option.bind_eq_some_iff.mp e2
    obtain ⟨p, xs, B, ex, at_, eA, c, r⟩ := ra
    obtain ⟨z, C, h1, h2, h3⟩ := RpL.part _ _ _ r j t e4
    obtain ⟨ey, _⟩ := keyOf_rep e1 rb
    subst ey
    have hg : DGet H p (kV qk) (some z) := by
      have := dGetR (k := qk) at_.1.1
      rw [valV_ix at_.2.1, e3] at this
      simpa [h1] using this
    exact ⟨p, z, ex, hg, q z C h2 (h3.trans (by rw [eA]; split <;> first | exact List.sublist_cons_self _ _ | exact List.Sublist.refl _))⟩
  · cases e
def m3 (f : T → T → T → Option T) (fa fb fc : M T) : M T := bnd fa fun a => bnd fb fun b => bnd fc fun c => lft (f a b c)
end
end MI
namespace MI
open PySem PySem.Spec PyProof.Rows L2
section
variable {g : Gc} {X : Cx} {o b : Expr} {fa fk : M T} {mp : M (List Nat)} {e1 e2 e3 b1 b3 : List Nat} {pos p2 : Pos} {i k : Nat}
end
end MI
namespace MI
open PySem PySem.Spec PyProof.Rows L2
section
variable {g : Gc} {X : Cx} {tg iter : Expr} {mi : M (List T)} {m : T → M Unit} {tt : M Bool} {tk tv : M T} {a1 e1 e2 e3 e4 b1 : List Nat} {vs : List Nat} {pos : Pos}
end
end MI
namespace MI
open PySem PySem.Spec PyProof.Rows L2
section
variable {g : Gc} {S S' : Addr → Prop} {H H' : Hp} {M : Addr → Prop}
end
section
variable {g : Gc} {S : Addr → Prop} {H : Hp} {σ : L2.St} {Ts : List T} {A : Nat → List Addr} {i : Nat} {d : Addr} {od : Obj} {u : HO}
def A0 (A : Nat → List Addr) (i : Nat) : Nat → List Addr := fun j => if j = i then [] else A j
theorem A0_ne {j : Nat} (h : j ≠ i) : A0 A i j = A j := if_neg h
theorem A0_eq : A0 A i i = [] := if_pos rfl
theorem A0_mem {j : Nat} {a : Addr} (h : a ∈ A0 A i j) : j ≠ i ∧ a ∈ A j := by
  by_cases e : j = i
  · subst e; rw [A0_eq] at h; exact nomatch h
  · rw [A0_ne e] at h; exact ⟨e, h⟩
theorem SR.lock (R : SR g S H σ Ts A) (hd : d ∈ A i) (hH : H d = some u) (mu : Mut (some u)) (hx : ∀ P, u ≠ .ext P := by intro _ z; cases z) : SR g S (upd H d (.frz od u)) σ (Ts.set i .dead) (A0 A i) where
  rep := fun j => by
    by_cases hj : j = i
    · subst hj
      refine .inl ⟨?_, A0_eq⟩
      by_cases hl : j < Ts.length
      · exact slot_set_eq hl
      · unfold slot
        rw [List.getD_eq_getElem?_getD, List.getElem?_eq_none_iff.mpr (by rw [List.length_set]; omega)]; rfl
    · rw [slot_set_ne hj, A0_ne hj]
      rcases R.rep j with h | ⟨x, h1, h2⟩
      · exact .inl h
      · exact .inr ⟨x, h1, Rp.keep (M := fun a => a = d) (fun a o e n => by rw [upd_ne n]; exact e) (fun a e => by rw [e, hH]; exact mu) (fun a hs e => R.ns i d hd (e ▸ hs)) (fun _ h => h) _ _ _ h2 fun a ha e => R.dj j i hj a ha (e ▸ hd)⟩
  nd := fun j => by
    by_cases hj : j = i
    · subst hj; rw [A0_eq]; exact List.nodup_nil
    · rw [A0_ne hj]; exact R.nd j
  dj := fun j k hjk a ha hb => R.dj j k hjk a (A0_mem ha).2 (A0_mem hb).2
  ns := fun j a ha => R.ns j a (A0_mem ha).2
  len := by rw [List.length_set]; exact R.len
  st := ⟨fun a h => by
    have ne : a ≠ d := fun e => R.ns i d hd (e ▸ h)
    rw [upd_ne ne]; exact R.st.st a h, tabs_upd R.tb hH (mut_tbl mu) hx (fun _ z => nomatch z)⟩
end
end MI
namespace MI
open PySem PySem.Spec PyProof.Rows L2
inductive Wd where
  | keys | vals | items
section
variable {g : Gc}
end
section
variable {g : Gc} {X : Cx} {tg iter : Expr} {m : T → M Unit} {tt : M Bool} {tk tv : M T} {a1 e2 e3 e4 : List Nat} {vs : List Nat} {pos : Pos} {i : Nat} {fld : Option (Str × Str)} {w : Wd}
end
end MI
namespace MI
open PySem PySem.Spec PyProof.Rows L2
section
variable {g : Gc} {X : Cx} {tg iter e o a : Expr} {m : T → M Unit} {tt : M Bool} {tk tv fa fb : M T} {a1 e1 e2 e3 e4 b1 b2 : List Nat} {vs : List Nat} {pos p2 p3 apos cpos : Pos} {i k : Nat} {fld : Option (Str × Str)} {w : Wd} {x : Str}
theorem tm_dct0 : PEm g X (.Dict [] [] pos) (mC (.nd (.dK true []) [])) [] [] := PE.imp pe_dnewK fun σ H Q ⟨S, Ts, A, t, Ts', R, q, k⟩ => by
  obtain ⟨rfl, rfl⟩ := ret_some q
  intro p hp
  have ex := upd_ext (o := .dK []) hp
  have fr := R.fresh hp
  exact k (.ref p) _ S A [p] (R.ext ex) ⟨p, [], [], rfl, ⟨⟨.inl upd_same, fun _ => upd_same⟩, rfl, fun z => nomatch z⟩, rfl, .inl rfl, rfl, rfl⟩ ⟨fun a ha => by rw [List.mem_singleton.mp ha]; exact fr.1, fun j _ a ha => by rw [List.mem_singleton.mp ha]; exact fr.2 j, fun _ => List.nodup_cons.mpr ⟨(fun z => nomatch z), List.nodup_nil⟩, fun a ha => by rw [List.mem_singleton.mp ha]; exact .inr hp⟩ (Po.ext ex) (Stb.ext ex)
def mDisp1 (fk fv : M T) : M T := bnd fk fun k => bnd fv fun v => lft ((keyOf k).bind fun q => if v.imm then some (.nd (.dK true [q]) [v]) else none)
theorem x_disp1 {kx vx : Expr} (hk : PEm g X kx fa e1 b1) (hv : PEm g X vx fb e2 b2) (d : ∀ j ∈ b1, j ∉ e2 := by decide) : PEm g X (.Dict [some kx] [vx] pos) (mDisp1 fa fb) (e1 ++ e2) [] := PE.imp (pe_disp (pps_cons hk hv pps_nil) rfl rfl (by simp) (by simp)) fun σ H Q ⟨S, Ts, A, t, Ts', R, q, k⟩ => by
  obtain ⟨kt, Ts1, q1, q2⟩ := bnd_some q
  obtain ⟨vt, Ts2, q3, q4⟩ := bnd_some q2
  obtain ⟨q5, eT⟩ := lft_some q4
  subst eT
  obtain ⟨qk, e3, e4⟩ := Option.bind_eq_some_iff.mp q5
  split at e4
  · rename_i hi
    injection e4 with e4
    subst e4
    intro p hp
    have ex := upd_ext (o := .dK []) hp
    have fr := R.fresh hp
    refine ⟨S, Ts, A, kt, Ts1, R.ext ex, q1, fun x H1 S1 A1 Ax R1 rx ox p1 s1 => ⟨S1, Ts1, A1, vt, Ts', R1, q3, fun y H2 S2 A2 Ay R2 ry oy p2 s2 => ?_⟩⟩
    have p12 := p1.trans (R.ext ex) p2
    have eH2 : H2 p = some (.dK []) := p12.keep p _ upd_same fr.2
    obtain ⟨ek, _⟩ := keyOf_rep e3 rx
    have eA := Rp.imm_nil _ _ _ ry hi
    subst eA
    have nS : ¬ S2 p := fun h => by
      rcases p12.snew p h with h | ⟨j, hj⟩ | hn
      · exact fr.1 h
      · exact fr.2 j hj
      · rw [upd_same] at hn; cases hn
    have nA : ∀ j, p ∉ A2 j := fun j h => by
      rcases p12.anew j p h with ⟨j', hj'⟩ | hn
      · exact fr.2 j' hj'
      · rw [upd_same] at hn; cases hn
    refine ⟨eH2, [(qk, y)], by rw [ek]; rfl, by simp, ?_⟩
    have em : mergeK [] [(qk, y)] = ([qk].zip [y]) := rfl
    rw [em]
    have Rg := R2.grow (o' := .dK ([qk].zip [y])) eH2 trivial nA nS
    have ry2 : RpL g S2 (upd H2 p (.dK ([qk].zip [y]))) [vt] [y] [] := RpL.grown (RpL.one ry) eH2 trivial nS (fun z => nomatch z)
    have back : ∀ a, noT (upd H p (.dK []) a) = none → noT (H a) = none := fun a hn => by
      by_cases ea : a = p
      · subst ea; rw [upd_same] at hn; cases hn
      · rw [upd_ne ea] at hn; exact hn
    refine k (.ref p) _ S2 A2 [p] Rg ⟨p, [y], [], rfl, ⟨⟨.inl upd_same, fun _ => upd_same⟩, rfl, fun z => nomatch z⟩, rfl, .inl rfl, ry2⟩ ⟨fun a ha => by rw [List.mem_singleton.mp ha]; exact nS, fun j _ a ha => by rw [List.mem_singleton.mp ha]; exact nA j, fun _ => List.nodup_cons.mpr ⟨(fun z => nomatch z), List.nodup_nil⟩, fun a ha => by rw [List.mem_singleton.mp ha]; exact .inr hp⟩ ⟨fun a ob e n => ?_, p12.sub, fun a h => ?_, fun j a h => ?_⟩ fun j hj => ?_
    · exact fix_upd (ne_of_none e hp) (p12.keep a ob (ex a ob e) n)
    · rcases p12.snew a h with h | h | hn
      · exact .inl h
      · exact .inr (.inl h)
      · exact .inr (.inr (back a hn))
    · rcases p12.anew j a h with h | hn
      · exact .inl h
      · exact .inr (back a hn)
    · obtain ⟨y1, y2, y3⟩ := (s1.trans s2) j hj
      exact ⟨y1, y2, fun a ha ob e => by rw [upd_ne (ne_of_none e hp)]; exact y3 a ha ob (ex a ob e)⟩
  · cases e4
def fListK (t : T) : Option T := match t with
  | .nd (.dK _ ks) _ => some (.nd (.lst true) (ks.map kT'))
  | _ => none
end
end MI
namespace MI
open PySem PySem.Spec PyProof.Rows L2
section
variable {g : Gc} {X : Cx}
end
end MI
namespace MI
open PySem PySem.Spec PyProof.Rows L2
def fewTimes (l : Addr) (k : Int) (s : Shared) (R : Value → Shared → Prop) : Prop := if k = 1 then R (.ref l) s else R (.ref s.heap.objs.size) { s with heap := s.heap.push { cls := .type "tuple", data := .seq #[] } }
theorem few_times {l : Addr} {its : Array Value} {n : Nat} {dd : Option Addr} {sl : Array (Option Value)} {k : Int} {u : Tok} (some_ : its.isEmpty = false) (low : -1000 ≤ k) (high : k ≤ 1) :
    Meets (Builtin.«tuple.__mul__» ⟨[.ref l, .int k u], []⟩) (fun _ R s => s.heap.get? l = some { cls := .type "tuple", dict := dd, data := .seq its n, slots := sl } ∧ fewTimes l k s fun v z => R (.ok (.ret v)) z) :=
  .of_wp fun prog w A R s ⟨at_, r⟩ => by
    obtain ⟨hp, gs, dr, tk, os⟩ := s
    have index := AutoSeq1.idx_int
    have fits : (decide (k < -(2 ^ 63)) || decide (k ≥ 2 ^ 63)) = false := by simp; omega
    by_cases one : k = 1
    · subst one
      have same : (its.isEmpty || (1 : Int) == 1) = true := by simp
      rw [fewTimes, if_pos rfl] at r
      wp_walk using wpAny_loadPart' at_
      exact ⟨_, rfl, r⟩
    · have other : (its.isEmpty || k == 1) = false := by simp [some_, one]
      have never : (decide (k ≤ 0) || its.isEmpty) = true := by simp; omega
      rw [fewTimes, if_neg one] at r
      wp_walk using wpAny_loadPart' at_
      simp only [fits, other, never, Bool.false_eq_true, if_false, if_true]
      wp_walk using wpAny_loadPart' at_
      simp only [fits, other, never, Bool.false_eq_true, if_false, if_true]
      wp_walk using wpAny_loadPart' at_
      exact ⟨_, rfl, r⟩
section
variable {g : Gc} {X : Cx}
def rRepU (K : PySem.W.Frag) : R2 := fun x y H Q => ∃ l k xs, x = .ref l ∧ y = .int k ∧ SqT K H l xs ∧ xs ≠ [] ∧ xs.length ≤ 1000 ∧ ((k = 1 ∧ Q (.ref l) H) ∨ (k ≤ 0 ∧ -1000 ≤ k ∧ ∀ p, H p = none → Q (.ref p) (upd H p (.tup []))))
theorem op_repU : OpR X (binaryOp .Mult) (rRepU X.K) := fun pins s σ H x y v u Q I rx ry h => by
  obtain ⟨l, k, xs, rfl, rfl, sq, some_, _, q⟩ := h
  have ev : v = Value.ref l := rx
  subst ev
  obtain ⟨t, rfl⟩ := ry
  obtain ⟨its, rel, tup, _⟩ := I.tuple sq
  obtain ⟨o, at_, cls, n, data⟩ := tup
  obtain ⟨c, dd, dt, sl⟩ := o
  have cls : c = .type "tuple" := cls
  have data : dt = .seq its.toArray n := data
  subst cls; subst data
  have isT : s.TypeIs (.ref l) "tuple" := ⟨_, at_, rfl⟩
  have isI : ∀ z : Shared, z.TypeIs (.int k t) "int" := fun z => typeIs_int z k t
  have full : its.toArray.isEmpty = false := by
    cases its with
    | nil => exact absurd (List.eq_nil_of_length_eq_zero rel.length) some_
    | cons _ _ => rfl
  have bounds : -1000 ≤ k ∧ k ≤ 1 := by rcases q with ⟨e, _⟩ | ⟨a, b, _⟩ <;> omega
  have done : fewTimes l k s (EP X pins σ Q) := by
    unfold fewTimes
    rcases q with ⟨e, q⟩ | ⟨a, _, q⟩
    · rw [if_pos e]; exact ⟨.ref l, H, I, rfl, q⟩
    · rw [if_neg (by omega)]
      exact ⟨.ref _, _, I.laid (t' := s.toks) (o := .tup []) (fun _ _ g => Heap.get?_push_of_some _ g) Nat.le.refl ⟨by simp, [], .nil, IsTup.new _ _⟩, rfl, q _ (I.hok.fresh Nat.le.refl)⟩
  exact wpAny_binaryOp_repeat_ref (by decide) isT isI noFill_tuple_mul F.fills_int_mul F.slot_int_rmul repeat_tuple F.slot_int_index.lookup (call_meets F.slot_int_rmul (isI s) F.entry_int_rmul (F.args_int_rmul_2 _ _) (int_rmul_tuple k t l its.toArray n dd sl)
    ⟨at_, rfl, isT, call_meets F.slot_tuple_mul isT F.entry_tuple_mul (F.args_tuple_mul_2 _ _) (few_times full bounds.1 bounds.2) ⟨at_, done⟩⟩)
def fMulT (a b : T) : Option T := match a, b with
  | .nd .tup ts, .int k => if immL ts && (decide (-1000 ≤ k) && (decide (k ≤ 1000) && (decide (ts.length ≤ 1000) && !ts.isEmpty))) then some (.nd .tup (List.replicate k.toNat ts).flatten) else none
  | _, _ => none
theorem opt_mulT : OpT g (fun x y H Q => rRepT g.K x y H Q ∨ rRepU g.K x y H Q) fMulT := fun S H a b x y Ax Ay t Q ra rb e q => by
  unfold fMulT at e
  split at e
  · rename_i ts k
    split at e
    · rename_i h
      injection e with e; subst e
      simp only [Bool.and_eq_true, decide_eq_true_eq, Bool.not_eq_true', List.isEmpty_eq_false_iff] at h
      obtain ⟨hi, h1, h2, h3, h4⟩ := h
      obtain ⟨p, xs, B, e1, at_, eA, c, r⟩ := ra
      have eB := RpL.imm_nil _ _ _ r hi
      subst eB
      have hl := RpL.length _ _ _ r
      have hne : xs ≠ [] := fun z => h4 (by
        rw [z] at hl
        exact List.eq_nil_of_length_eq_zero hl)
      by_cases hk : 2 ≤ k
      · exact .inl ⟨p, k, xs, e1, rb.1, At.sqT at_, hne, hk, h2, by omega, fun l hl => q _ _ [] (New.tupl hl (r.rep _))⟩
      · refine .inr ⟨p, k, xs, e1, rb.1, At.sqT at_, hne, by omega, ?_⟩
        by_cases hk1 : k = 1
        · subst hk1
          refine .inl ⟨rfl, q _ H [] (New.atom ?_)⟩
          have ef : (List.replicate (1 : Int).toNat ts).flatten = ts := by simp
          rw [ef]
          exact ⟨p, xs, [], rfl, at_, rfl, .inr (.inl rfl), r⟩
        · have ek : k.toNat = 0 := by omega
          refine .inr ⟨by omega, h1, fun l hl => ?_⟩
          have ef : (List.replicate k.toNat ts).flatten = [] := by rw [ek]; rfl
          rw [ef] at q
          exact q _ _ [] (New.tupl hl ⟨rfl, rfl⟩)
    · cases e
  · cases e
end
end MI
namespace MI
open PySem PySem.Spec PyProof.Rows L2
section
variable {g : Gc} {X : Cx} {e e' e'' : Expr} {fs : M (List T)} {e1 b1 : List Nat} {pos p2 tpos : Pos} {elts : List Expr} {kk : Nat}
end
end MI
namespace MI
open PySem PySem.Spec PyProof.Rows L2
section
variable {X : Cx} {CX : CXT} {k : Nat} {f C : Addr} {fd : FuncData} {ps ks : List Str} {π : List Nat} {sp : Sp} {E : XK} {x m : Str} {p pos apos : Pos} {o : Expr} {kws : List Keyword} {ta : TE} {tk : TA}
end
section
variable {g : Gc} {X : Cx} {k : Nat} {f : Str} {fd : FuncData} {fad : Addr} {ps ks : List Str} {π : List Nat} {x m cls : Str} {p pos apos kpos : Pos} {e o : Expr} {kws : List Keyword} {fs : M (List T)} {fa : M T} {e1 e2 b1 b2 : List Nat} {io : List Nat} {c : Cal} {ln : List (Option Nat)} {nm : Option Str}
theorem RpC.imm {S : Addr → Prop} {H : Hp} {σ : L2.St} : ∀ (ln : List (Option Nat)) (ts : List T) (xs : List V) (Al Ab : List Addr), allN ln = true → immL ts = true → RpC g S H σ ln ts xs Al Ab → Al = [] ∧ Ab = [] ∧ RpL g S H ts xs []
  | [], _, _, _, _, _, _, h => by obtain ⟨h1, h2, h3, h4⟩ := h; subst h1 h2 h3 h4; exact ⟨rfl, rfl, rfl, rfl⟩
  | Option.none :: ln, _, _, Al, _, hn, hi, h => by
    obtain ⟨t, ts', x, xs', B, Ab', e1, e2, e3, r, h⟩ := h
    subst e1 e2 e3
    rw [immL, Bool.and_eq_true] at hi
    obtain ⟨h1, h2, h3⟩ := RpC.imm ln ts' xs' Al Ab' hn hi.2 h
    have eB := Rp.imm_nil _ _ _ r hi.1
    subst h1 h2 eB
    exact ⟨rfl, rfl, x, xs', [], [], rfl, rfl, r, h3⟩
  | Option.some s :: ln, _, _, _, _, hn, _, _ => by cases hn
end
end MI
namespace MI
open PySem PySem.Spec PyProof.Rows L2
section
variable {g : Gc} {S : Addr → Prop} {H : Hp}
end
end MI
namespace MI
open PySem PySem.Spec PyProof.Rows L2
section
variable {g : Gc} {X : Cx} {a b c e o : Expr} {es rest : List Expr} {fa fb fc : M T} {fs : M (List T)} {e1 e2 e3 b1 b2 b3 a1 a2 : List Nat} {pos p2 p3 py : Pos} {x y z : Str} {k : Nat}
theorem nv (i : Nat) (hN : X.N[i]? = some x := by rfl) (hv : Vis X.env.scope x := by first | exact .inl rfl | exact .inr (.inl rfl) | exact .inr (.inr rfl)) (hd : (x == ("__debug__" : Str)) = false := by decide) (hcd : (x == ("__classdict__" : Str)) = false := by decide) : PE X (.Name x pos) (tVar i) := pe_var hN hv hd hcd
theorem v (i : Nat) (hN : X.N[i]? = some x := by rfl) (hv : Vis X.env.scope x := by first | exact .inl rfl | exact .inr (.inl rfl) | exact .inr (.inr rfl)) (hd : (x == ("__debug__" : Str)) = false := by decide) (hcd : (x == ("__classdict__" : Str)) = false := by decide) : PEm g X (.Name x pos) (mRd i) [] [i] := tm_rd (pe_var hN hv hd hcd)
theorem vi (i : Nat) (hN : X.N[i]? = some x := by rfl) (hv : Vis X.env.scope x := by first | exact .inl rfl | exact .inr (.inl rfl) | exact .inr (.inr rfl)) (hd : (x == ("__debug__" : Str)) = false := by decide) (hcd : (x == ("__classdict__" : Str)) = false := by decide) : PEm g X (.Name x pos) (mIm (mRd i)) [] [] := tm_im (tm_rd (pe_var hN hv hd hcd))
theorem hv (i : Nat) (hN : X.N[i]? = some x := by rfl) (hv : Vis X.env.scope x := by first | exact .inl rfl | exact .inr (.inl rfl) | exact .inr (.inr rfl)) (hd : (x == ("__debug__" : Str)) = false := by decide) (hcd : (x == ("__classdict__" : Str)) = false := by decide) : PLm g X (.Name x pos) (mHere i) [] i := pl_name (pe_var hN hv hd hcd)
theorem gI {i : Int} (h : ∃ t, X.mg x = some (.int i t)) (hg : Gl X x := by rfl) (hd : (x == ("__debug__" : Str)) = false := by decide) : PEm g X (.Name x pos) (mC (.int i)) [] [] := by
  obtain ⟨t, h⟩ := h
  exact tm_glob hg h (v := .int i) ⟨t, rfl⟩ (fun _ _ => ⟨rfl, rfl⟩) hd
def fAdd : T → T → Option T := oe2 (fII iAdd) (oe2 fAddS (oe2 fAddL fAddT))
def fMul : T → T → Option T := oe2 (fII iMul) (oe2 fMulL fMulT)
theorem x_add (ha : PEm g X a fa e1 b1) (hb : PEm g X b fb e2 b2) (hK : g.K = X.K := by rfl) (d : ∀ j ∈ b1, j ∉ e2 := by decide) : PEm g X (.BinOp a .Add b pos) (m2 fAdd fa fb) (e1 ++ e2) [] := tm_bin (op_add.or (op_add_str.or (op_cat.or op_catA))) (opt_iAdd.or (opt_addS.or (opt_addL.or (hK ▸ opt_addT)))) ha hb d
theorem x_mul (ha : PEm g X a fa e1 b1) (hb : PEm g X b fb e2 b2) (hK : g.K = X.K := by rfl) (d : ∀ j ∈ b1, j ∉ e2 := by decide) : PEm g X (.BinOp a .Mult b pos) (m2 fMul fa fb) (e1 ++ e2) [] := tm_bin (op_mulW.or (op_rep.or (op_repT.or op_repU))) (opt_iMul.or (opt_mulL.or (hK ▸ opt_mulT))) ha hb d
theorem x_div (ha : PEm g X a fa e1 b1) (hb : PEm g X b fb e2 b2) (d : ∀ j ∈ b1, j ∉ e2 := by decide) : PEm g X (.BinOp a .FloorDiv b pos) (m2 (fII iDiv) fa fb) (e1 ++ e2) [] := tm_bin op_fdivW opt_iDiv ha hb d
theorem x_mod (ha : PEm g X a fa e1 b1) (hb : PEm g X b fb e2 b2) (d : ∀ j ∈ b1, j ∉ e2 := by decide) : PEm g X (.BinOp a .Mod b pos) (m2 (fII iMod) fa fb) (e1 ++ e2) [] := tm_bin op_mod opt_iMod ha hb d
theorem x_pow (ha : PEm g X a fa e1 b1) (hb : PEm g X b fb e2 b2) (d : ∀ j ∈ b1, j ∉ e2 := by decide) : PEm g X (.BinOp a .Pow b pos) (m2 (fII iPow) fa fb) (e1 ++ e2) [] := tm_bin op_pow opt_iPow ha hb d
theorem x_neg (ha : PEm g X a fa e1 b1) : PEm g X (.UnaryOp .USub a pos) (m1 fNeg fa) e1 [] := tm_un un_neg unt_neg ha
def iLt (i j : Int) : Bool := decide (i < j)
def iLe (i j : Int) : Bool := decide (i ≤ j)
def iGt (i j : Int) : Bool := decide (j < i)
def iGe (i j : Int) : Bool := decide (j ≤ i)
def fLt : T → T → Option T := oe2 (fIB iLt) (fSB ltS)
def fLe : T → T → Option T := oe2 (fIB iLe) (fSB fun i j => !ltS j i)
def fGt : T → T → Option T := oe2 (fIB iGt) (fSB fun i j => ltS j i)
def fGe : T → T → Option T := oe2 (fIB iGe) (fSB fun i j => !ltS i j)
def fIs : T → T → Option T := oe2 (fIsN false) (fIsB false)
def fIsNot : T → T → Option T := oe2 (fIsN true) (fIsB true)
structure Cm (g : Gc) (X : Cx) (op : CmpOp) (f : T → T → Option T) : Prop where
  ex : ∃ r : R2, OpR X (compareOp op) r ∧ OpT g r f
theorem cLt : Cm g X .Lt fLt := ⟨_, op_lt.or op_lt_str, (opt_fIB (h := iLt)).or (opt_fSB (h := ltS))⟩
theorem cGt : Cm g X .Gt fGt := ⟨_, op_gt.or op_gt_str, (opt_fIB (h := iGt)).or (opt_fSB (h := fun i j => ltS j i))⟩
theorem cGe : Cm g X .GtE fGe := ⟨_, op_ge.or op_ge_str, (opt_fIB (h := iGe)).or (opt_fSB (h := fun i j => !ltS i j))⟩
theorem cNe (hr : Room k X.A) (hK : g.K = X.K := by rfl) : Cm g X .NotEq fNe := ⟨_, op_neD (by have := hr.un; omega), hK ▸ opt_ne⟩
theorem t_cmp {op : CmpOp} {f : T → T → Option T} (h : Cm g X op f) (ha : PEm g X a fa e1 b1) (hb : PEm g X b fb e2 b2) (d : ∀ j ∈ b1, j ∉ e2 := by decide) (hm : behindInMarks op b = false := by rfl) : PTm g X (.Compare a [op] [b] pos) (asB (m2 f fa fb)) (e1 ++ e2) := by
  obtain ⟨r, h1, h2⟩ := h.ex
  exact tmt_cmp h1 h2 ha hb d hm
theorem b_len (hm : X.mg "len" = none) (ha : PAm g X (e :: es) fs e1 b1) (hK : g.K = X.K := by rfl) (hg : Gl X "len" := by rfl) (he : starEach (e :: es) X.env = (false, eval e X.env) :: starEach es X.env := by rfl) (hpl : (backTo pos (starEach es X.env)).any (·.1) = false := by rfl) : PEm g X (.Call (.Name "len" p2) (e :: es) [] pos) (mF (c1 fLen) fs) e1 [] := tm_callB call_len (hK ▸ ct_len) hg hm boot_len ha (by decide) (by decide) he hpl
theorem b_abs (hm : X.mg "abs" = none) (ha : PAm g X (e :: es) fs e1 b1) (hg : Gl X "abs" := by rfl) (he : starEach (e :: es) X.env = (false, eval e X.env) :: starEach es X.env := by rfl) (hpl : (backTo pos (starEach es X.env)).any (·.1) = false := by rfl) : PEm g X (.Call (.Name "abs" p2) (e :: es) [] pos) (mF (c1 fAbs) fs) e1 [] := tm_callB call_abs ct_abs hg hm boot_abs ha (by decide) (by decide) he hpl
theorem b_min (hc : X.calm = true) (hm : X.mg "min" = none) (ha : PAm g X (e :: es) fs e1 b1) (hg : Gl X "min" := by rfl) (he : starEach (e :: es) X.env = (false, eval e X.env) :: starEach es X.env := by rfl) (hpl : (backTo pos (starEach es X.env)).any (·.1) = false := by rfl) : PEm g X (.Call (.Name "min" p2) (e :: es) [] pos) (mF (c2 fMin) fs) e1 [] := tm_callB ((call_min2 hc).or (call_min2S hc)) ct_min hg hm boot_min ha (by decide) (by decide) he hpl
theorem b_max (hc : X.calm = true) (hm : X.mg "max" = none) (ha : PAm g X (e :: es) fs e1 b1) (hg : Gl X "max" := by rfl) (he : starEach (e :: es) X.env = (false, eval e X.env) :: starEach es X.env := by rfl) (hpl : (backTo pos (starEach es X.env)).any (·.1) = false := by rfl) : PEm g X (.Call (.Name "max" p2) (e :: es) [] pos) (mF (c2 fMax) fs) e1 [] := tm_callB ((call_max2 hc).or (call_max2S hc)) ct_max hg hm boot_max ha (by decide) (by decide) he hpl
theorem b_divmod (hm : X.mg "divmod" = none) (ha : PAm g X (e :: es) fs e1 b1) (hg : Gl X "divmod" := by rfl) (he : starEach (e :: es) X.env = (false, eval e X.env) :: starEach es X.env := by rfl) (hpl : (backTo pos (starEach es X.env)).any (·.1) = false := by rfl) : PEm g X (.Call (.Name "divmod" p2) (e :: es) [] pos) (mF (c2 fDivmod) fs) e1 [] := tm_callB call_divmod ct_divmod hg hm boot_divmod ha (by decide) (by decide) he hpl
theorem b_all (hc : X.calm = true) (hm : X.mg "all" = none) (ha : PAm g X (e :: es) fs e1 b1) (hK : g.K = X.K := by rfl) (hg : Gl X "all" := by rfl) (he : starEach (e :: es) X.env = (false, eval e X.env) :: starEach es X.env := by rfl) (hpl : (backTo pos (starEach es X.env)).any (·.1) = false := by rfl) : PEm g X (.Call (.Name "all" p2) (e :: es) [] pos) (mF (c1 (fBools fun bs => bs.all id)) fs) e1 [] := tm_callB (cr_all hc) (hK ▸ ct_bools) hg hm boot_all ha (by decide) (by decide) he hpl
theorem b_repr (hG : GA X.A) (hr : Room k X.A) (hm : X.mg "repr" = none) (ha : PAm g X (e :: es) fs e1 b1) (hK : g.K = X.K := by rfl) (hg : Gl X "repr" := by rfl) (he : starEach (e :: es) X.env = (false, eval e X.env) :: starEach es X.env := by rfl) (hpl : (backTo pos (starEach es X.env)).any (·.1) = false := by rfl) : PEm g X (.Call (.Name "repr" p2) (e :: es) [] pos) (mF (c1 fRepr) fs) e1 [] := tm_callB (call_reprD hG (by have := hr.un; omega)) (hK ▸ ct_repr) hg hm boot_repr ha (by decide) (by decide) he hpl
theorem b_int (hm : X.mg "int" = none) (ha : PAm g X (e :: es) fs e1 b1) (hg : Gl X "int" := by rfl) (he : starEach (e :: es) X.env = (false, eval e X.env) :: starEach es X.env := by rfl) (hpl : (backTo pos (starEach es X.env)).any (·.1) = false := by rfl) : PEm g X (.Call (.Name "int" p2) (e :: es) [] pos) (mF (c1 fInt) fs) e1 [] := tm_callTy call_int1 ct_int hg hm boot_int ha (by decide) (by decide) he hpl
def fListU (t : T) : Option T := match fList t with
  | some r => some r
  | none => fListK t
def fIx : T → T → Option T := oe2 fIxS (oe2 fIxT fIxK)
theorem x_ix (hr : Room k X.A) (ha : PEm g X a fa e1 b1) (hb : PEm g X b fb e2 b2) (hK : g.K = X.K := by rfl) (d : ∀ j ∈ b1, j ∉ e2 := by decide) (hs : PlainIx b := by exact fun _ _ => rfl) : PEm g X (.Subscript a b pos) (m2 fIx fa fb) (e1 ++ e2) b1 := tm_ix (ixr_seq.or (ix_str.or (ix_dct (by have := hr.un; omega)))) (OpP.or (hK ▸ opp_ix) (OpP.or opp_ixs opp_ixK)) ha hb d hs
theorem x_cut {lo hi : Option Expr} {fl fh : M (Option Int)} (ha : PEm g X a fa e1 b1) (hl : POm g X lo fl e2) (hh : POm g X hi fh e3) (hK : g.K = X.K := by rfl) (d : ∀ j ∈ b1, j ∉ e2 ++ e3 := by decide) : PEm g X (.Subscript a (.Slice lo hi none p2) pos) (mSl fCut fa fl fh) (e1 ++ (e2 ++ e3)) [] := tm_slice sl_cut (hK ▸ slt_cut) ha hl hh d
theorem gN (i : Nat) (hN : X.N.Nodup) (hi : X.N[i]? = some x := by rfl) (hx : Loc X.env.scope x := by first | exact .inl rfl | exact .inr rfl) (hf : X.fn x = true ∨ X.env.scope.names.lookup x = some .local := by first | exact .inl rfl | exact .inr rfl) : PGm g X (.Name x pos) (mPut i) [i] := tg_name (pg_name hN hi hx hf)
theorem s_set (i : Nat) (ha : PEm g X e fa e1 []) (hN : X.N.Nodup) (hi : X.N[i]? = some x := by rfl) (hx : Loc X.env.scope x := by first | exact .inl rfl | exact .inr rfl) (hf : X.fn x = true ∨ X.env.scope.names.lookup x = some .local := by first | exact .inl rfl | exact .inr rfl)
    (hs : swapsWithSole [.Name x p2] e pos.line X.env = pure false := by rfl) (hw : swappedStores [.Name x p2] e X.env = pure none := by rfl) (h1 : (assignEach [.Name x p2] X.env).map (·.2) = [assign (.Name x p2) X.env] := by rfl) : PSm g X (.Assign [.Name x p2] e pos) (mSet i fa) [i] (e1 ++ [i]) := ts_asg ha (gN i hN hi hx hf) hs hw h1
theorem PG.or {tg : Expr} {t t' : TG} (h : PG X tg t) (h' : PG X tg t') : PG X tg (fun w σ H Q => t w σ H Q ∨ t' w σ H Q) := ⟨fun pins s σ H w u Q I r q => q.elim (h.run pins s σ H w u Q I r) (h'.run pins s σ H w u Q I r)⟩
def mUn (n : Nat) (ms : List T → M Unit) (t : T) : M Unit := match t with
  | .nd .tup ts => if ts.length = n then ms ts else fun _ => none
  | .nd (.lst _) ts => if ts.length = n then ms ts else fun _ => none
  | _ => fun _ => none
theorem tg_un {tgs : List Expr} {ms : List T → M Unit} {n k : Nat} (hK : g.K = X.K) (hc : X.calm = true) (h : PGsm g X tgs ms a1) (hn : (assignEach tgs X.env).length = n := by rfl) (hst : (assignEach tgs X.env).findIdx? (·.1) = none := by rfl) : PGm g X (.Tuple tgs k pos) (mUn n ms) a1 :=
  PG.imp (PG.or (tg_tup (k := k) (pos := pos) hK hc h hn hst) (tg_unl hK hc h hn hst)) fun w σ H Q ⟨S, Ts, A, t, Av, Ts', R, r, nd, dj, q, kk⟩ => by
    unfold mUn at q
    split at q
    · exact .inl ⟨S, Ts, A, _, Av, Ts', R, r, nd, dj, q, kk⟩
    · exact .inr ⟨S, Ts, A, _, Av, Ts', R, r, nd, dj, q, kk⟩
    · cases q
def mItA (fa : M T) : M (List T) := bnd fa fun t => match t with
  | .str x => lft (if x.length ≤ sizeLine then some (signsT x) else none)
  | t => lft (kidsI t)
theorem it_any {tg : Expr} (hK : g.K = X.K) (ha : PEm g X e fa e1 b1) : PIm g X tg e (mItA fa) e1 b1 := PI.imp (PI.or (it_seq (tg := tg) hK ha) (it_str (tg := tg) ha)) fun σ H Rr ⟨S, Ts, A, items, Ts', R, q, k⟩ => by
  obtain ⟨t, Ts1, q1, q2⟩ := bnd_some q
  have left : (∀ z, t ≠ .str z) → TIm g (mIter fa) e1 b1 σ H Rr := fun hn => by
    refine ⟨S, Ts, A, items, Ts', R, ?_, k⟩
    unfold mIter bnd
    rw [q1]
    cases t with
    | str z => exact absurd rfl (hn z)
    | _ => exact q2
  cases t with
  | str z =>
    right
    have q2 : lft (if z.length ≤ sizeLine then some (signsT z) else none) Ts1 = some (items, Ts') := q2
    obtain ⟨q3, q4⟩ := lft_some q2
    split at q3
    · refine ⟨S, Ts, A, items, Ts', R, ?_, fun J H1 S1 A1 R1 it p s => k J H1 S1 A1 R1 ?_ p s⟩
      · unfold mSigns bnd
        rw [q1, q4]
        show lft (some (signsT z)) Ts1 = _
        rw [q3]; rfl
      · obtain ⟨ts, xs, Ax, r, o, w⟩ := it
        exact ⟨ts, xs, Ax, r, o.mono (fun i h => nomatch h) (fun _ => rfl), w⟩
    · cases q3
  | _ => exact .inl (left fun z h => nomatch h)
section
variable {mp : M (List Nat)} {i : Nat}
theorem l_append (ho : PLm g X o mp e1 i) (ha : PEm g X e fa e2 []) (d : i ∉ e2 := by decide) (hK : g.K = X.K := by rfl) (hbase : attributeBase o "append" X.env (eval o X.env) = eval o X.env := by rfl)
    (hfew : ((backTo pos (starEach [e] X.env)).all (fun x => !x.1) && (backToKw pos (keywordEach [] X.env)).all (fun x => x.1.isSome) && decide ([e].length + ([] : List Keyword).length + (if ([] : List Keyword).isEmpty then 0 else 1) < 30)) = true := by rfl)
    (hline : (p2.endLine == pos.line) = true := by rfl) (hs : starEach [e] X.env = (false, eval e X.env) :: starEach [] X.env := by rfl) (hplain : (backTo pos (starEach [] X.env)).any (·.1) = false := by rfl) : PEm g X (.Call (.Attribute o "append" p2) [e] [] pos) (mMut i mp isLst (mCons fa mNil) fAppend) ((e1 ++ (e2 ++ [])) ++ [i]) [] :=
  tm_mutL hK PySem.F.slot_list_append PySem.F.type_list_append mt_append mut_append ho (tms_cons ha tms_nil (by intro j hj; exact nomatch hj) hs) (by simpa using d) hbase hfew hline hs hplain
end
section
variable {mp : M (List Nat)} {i : Nat}
end
def blkB (N : List Str) (sc scope : Scope) (own : List (Str × Nat)) : Bool :=
  decide (scope.kind = .function) && (scope.names.all (fun y => decide (scope.names.lookup y.1 = some y.2)) && (own.all (fun p => decide (N[p.2]? = some p.1)) &&
    (scope.names.all (fun y => if y.2 = .free then (decide (sc.names.lookup y.1 = some .cell) || decide (sc.names.lookup y.1 = some .free)) else true) && scope.names.all (fun y => if y.2 = .local ∨ y.2 = .cell then (own.any (fun p => decide (p.1 = y.1)) || !(N.any fun n => decide (n = y.1))) else true))))
theorem blk_of {N : List Str} {sc scope : Scope} {own : List (Str × Nat)} (h : blkB N sc scope own = true) : BlkOk N sc scope own := by
  unfold blkB at h
  simp only [Bool.and_eq_true, decide_eq_true_eq, List.all_eq_true] at h
  obtain ⟨h1, h2, h3, h4, h5⟩ := h
  refine ⟨h1, h2, h3, fun y hy e => ?_, fun y hy e => ?_⟩
  · have := h4 y hy
    rw [if_pos e, Bool.or_eq_true, decide_eq_true_eq, decide_eq_true_eq] at this
    exact this
  · have := h5 y hy
    rw [if_pos e, Bool.or_eq_true] at this
    rcases this with h | h
    · left
      obtain ⟨p, hp, he⟩ := List.any_eq_true.mp h
      exact List.mem_map.mpr ⟨p, hp, of_decide_eq_true he⟩
    · right
      intro hm
      have : N.any (fun n => decide (n = y.1)) = true := List.any_eq_true.mpr ⟨y.1, hm, decide_eq_true rfl⟩
      rw [this] at h
      cases h
section
variable {tg iter elt tg1 iter1 : Expr} {ifs ifs1 : List Expr} {mi mi1 : M (List T)} {m m1' : T → M Unit} {tt : M Bool} {te : M T} {e4 : List Nat} {scope : Scope} {spos : Pos}
theorem x_lc (own : List (Str × Nat)) (hc : X.calm = true) (hN : X.N.Nodup) (ok : BlkOk X.N X.env.scope scope own) (hi : PIm g X tg iter mi e1 b1)
    (hg : ∀ (s : Shared) (H : Hp) (C : Addr) (cl : List (Str × Addr)) (fp : List Addr), PGm g (X.blk s H scope (compEnvC scope cl C X.env) fp) tg m a1) (ht : ∀ (s : Shared) (H : Hp) (C : Addr) (cl : List (Str × Addr)) (fp : List Addr), PTsm g (X.blk s H scope (compEnvC scope cl C X.env) fp) ifs tt e2)
    (he : ∀ (s : Shared) (H : Hp) (C : Addr) (cl : List (Str × Addr)) (fp : List Addr), PEm g (X.blk s H scope (compEnvC scope cl C X.env) fp) elt te e3 [])
    (d : ∀ j ∈ b1, j ∉ a1 ++ (e2 ++ e3) := by decide) (dv : ∀ j ∈ a1, j ∈ own.map (·.2) := by decide) (dh : ∀ j ∈ own.map (·.2), j ∉ e2 ++ e3 := by decide) (hs : ∀ x, foldedSetIterable iter X.env x = pure x := by intro _; rfl) :
    PEm g X (.ListComp elt [⟨tg, iter, ifs, 0⟩] scope pos) (mLc mi m tt te (own.map (·.2))) (e1 ++ (e2 ++ e3)) [] := tm_lc hc hN hi ok hg ht he d dv dh hs
end
theorem passNox {X : Cx} : PassesOwn (model X.nox.prog X.nox.w) X.nox.A X.nox.env X.nox.xe := fun _ _ h => h.elim
end
end MI
namespace MI
open PySem PySem.Spec PyProof.Rows L2
section
variable {g : Gc} {X : Cx} {k : Nat} {f : Addr} {fd : FuncData} {ps : List Str} {x : Str} {p pos : Pos} {e : Expr} {fa : M T} {e1 : List Nat} {c : Cal}
def mGive (c : Cal) (fa : M T) : M T := bnd fa fun t => bnd (lft (c [t])) fun p => ret p.1
theorem tm_give (F : FnG X.prog X.w X.K X.mg X.base CX0 k f fd ps (spT g [0] c)) (hG : GA X.A) (hr : Room k X.A) (hg : Gl X x) (hm : X.mg x = some (.ref f)) (hk : PySem.W.keepIn X.K (.ref f) = true) (hb : Binds X.K fd ps []) (ha : PEm g X e fa e1 [])
    (hdb : (x == ("__debug__" : Str)) = false := by decide) (he : starEach [e] X.env = (false, eval e X.env) :: starEach [] X.env := by rfl) (hpl : (backTo pos (starEach [] X.env)).any (·.1) = false := by rfl) :
    PEm g X (.Call (.Name x p) [e] [] pos) (mGive c fa) e1 [] := PE.imp (pe_callG F hG hr hg hm hk hb (E := E0) pass0 (pa_cons ha pa_nil he) hdb he hpl) fun σ H Q h => by
  obtain ⟨S, Ts, A, r, Ts', R, q, kk⟩ := h
  obtain ⟨t, Ts1, q1, q2⟩ := bnd_some q
  obtain ⟨⟨r', outs⟩, Ts2, q3, q4⟩ := bnd_some q2
  obtain ⟨q5, e5⟩ := lft_some q3
  subst e5
  obtain ⟨h1, h2⟩ := ret_some q4
  have h1 : r' = r := h1
  subst h1; subst h2
  refine ⟨S, Ts, A, t, _, R, q1, fun x' H1 S1 A1 Ax R1 rx o p s => ?_⟩
  show spT g [0] c ([x'] ++ []) H1 Q E0
  refine ⟨S1, [t], Ax, r', outs, RpL.one rx, o.nd rfl, o.ns, R1.st, q5, fun y H' S' Ar Ao ry ro nd ns st pf => ?_⟩
  have pf' : PoF (fun a => S1 a ∨ a ∈ ([] : List Addr)) H1 Ax S' H' ([] ++ Ar) := ⟨pf.keep, fun a h => h.elim (pf.sub a) fun z => (nomatch z), fun a h => (pf.snew a h).elim (fun z => .inl (.inl z)) .inr, fun a h => pf.anew a (List.mem_append_right _ h)⟩
  exact call_post (ln := []) (outs := []) (zs := []) (Ao := []) (Ab := []) (b1 := []) (S2 := S') (Ts2 := Ts2) R R1 (Rp.cells _ _ _ rx) o Ow.nil p s pf' (fun _ h => h) (fun a h => pf.sub a h) (fun _ _ z => nomatch z) ry ⟨rfl, rfl⟩ (List.nodup_append.mp nd).2.1 (fun a ha => ns a (List.mem_append_right _ ha)) st (fun k s e => by simp at e) rfl (fun s hs => by simp at hs) kk
end
section
variable {g : Gc} {X : Cx} {a b : Expr} {fa fb : M T} {e1 e2 b1 b2 : List Nat} {p p2 pos pos2 : Pos}
end
end MI
namespace MI
open PySem PySem.Spec PyProof.Rows L2 He
theorem lookG_eq {fa : List (PySem.W.Frag → Bool)} {fn : List He5.DefA} {q : Addr → Option Obj} {z : Shared} (h : ∀ a, q a = z.heap.get? a) : lookG fa fn q = (hookM fa fn).obs z := congrArg (lookG fa fn) (funext h)
theorem run_two {α β γ δ : Type} {o : Option α} {f : α → β} {g : α → γ} {h : α → δ} {b : β} {c : γ} {d : δ} (h1 : o.map (fun s => (f s, g s)) = some (b, c)) (h2 : o.map h = some d) : o.map (fun s => (f s, g s, h s)) = some (b, c, d) := by
  cases o with
  | none => cases h1
  | some s =>
    have e1 : (f s, g s) = (b, c) := Option.some.inj h1
    have e2 : h s = d := Option.some.inj h2
    rw [Option.map_some, e2, (Prod.mk.inj e1).1, (Prod.mk.inj e1).2]
theorem SaysM.fact {fa : List (PySem.W.Frag → Bool)} {fn : List He5.DefA} {K : PySem.W.Frag} (c : SaysM fa fn K) (i : Nat) {f : PySem.W.Frag → Bool} (h : fa[i]? = some f := by rfl) : f K = true := List.all_eq_true.mp c.facts f (List.mem_of_getElem? h)
end MI
namespace MI
open PySem PySem.Spec PyProof.Rows L2 He
def scrH (K : PySem.W.Frag) (a : Addr) (ob : Obj) (xs : List V) : Hp := fun b => if b = a ∧ K.lookup b = none then some (.frz ob (.lst xs)) else none
section
variable {K : PySem.W.Frag} {a b : Addr} {ob : Obj} {xs : List V}
theorem scrH_inv {u : HO} (h : scrH K a ob xs b = some u) : b = a ∧ K.lookup a = none ∧ u = .frz ob (.lst xs) := by
  by_cases c : b = a ∧ K.lookup b = none
  · rw [scrH, if_pos c] at h
    cases h
    exact ⟨c.1, c.1 ▸ c.2, rfl⟩
  · rw [scrH, if_neg c] at h; cases h
theorem scrH_only : Only (scrH K a ob xs) := fun b => by
  cases e : scrH K a ob xs b with
  | none => exact .inl rfl
  | some u => exact .inr ⟨ob, xs, by rw [(scrH_inv e).2.2]⟩
theorem scrH_off {h : Heap} {o' : Obj} (ha : h.get? a = some ob) (hb : h.get? b = some o') (ne : o' ≠ ob) : scrH K a ob xs b = none := by
  cases e : scrH K a ob xs b with
  | none => rfl
  | some u =>
    obtain ⟨rfl, _⟩ := scrH_inv e
    exact absurd (Option.some.inj (hb.symm.trans ha)) ne
theorem scrH_K {h : Heap} (k : K.In h) (e : ∃ o', K.lookup b = some o') : scrH K a ob xs b = none := by
  obtain ⟨o', e⟩ := e
  exact if_neg fun c => by rw [c.2] at e; cases e
end
structure Scr (h : Heap) (a : Addr) (vs : List Value) (ns : List Int) : Prop where
  get : h.get? a = some { cls := .type "list", data := .seq vs.toArray }
  nums : IntsAre vs ns
  few : ns.length ≤ sizeLine
abbrev Scr.obj (vs : List Value) : Obj := { cls := .type "list", data := .seq vs.toArray }
section
variable {P : Program} {w : World} {K : PySem.W.Frag} {h : Heap} {a : Addr} {vs : List Value} {ns : List Int}
theorem Scr.sq (x : Scr h a vs ns) (k : K.In h) : SqL K (scrH K a (Scr.obj vs) (ns.map V.int)) a (ns.map V.int) := by
  cases e : K.lookup a with
  | none => exact Or.inl (Or.inr ⟨Scr.obj vs, if_pos ⟨rfl, e⟩⟩)
  | some o =>
    have eo : o = Scr.obj vs := Option.some.inj ((k a o e).symm.trans x.get)
    subst eo
    have r := vals_ints x.nums
    have n := x.few
    have m := r.length
    rw [List.length_map] at m
    exact Or.inr ⟨_, vs.toArray, _, e, rfl, rfl, rfl, by simp; omega, by simpa using r⟩
theorem Scr.ok (x : Scr h a vs ns) : HOk P w (scrH K a (Scr.obj vs) (ns.map V.int)) h := fun b u e => by
  obtain ⟨rfl, _, rfl⟩ := scrH_inv e
  exact ⟨x.get, by simpa using x.few, vs, _, vals_ints x.nums, x.get⟩
theorem Scr.spc (x : Scr h a vs ns) {b : Addr} {m : Str → Option Value} (n : h.Ns b m) : (hidT h (scrH K a (Scr.obj vs) (ns.map V.int))).Ns b m := by
  obtain ⟨o, es, ep, e, d, r⟩ := n
  refine ⟨o, es, ep, hidT_get e (scrH_off x.get e ?_), d, r⟩
  rintro rfl
  cases d
theorem Scr.kin (k : K.In h) : K.In (hidT h (scrH K a (Scr.obj vs) (ns.map V.int))) := fun b o e => hidT_get (k b o e) (scrH_K k ⟨o, e⟩)
end
theorem scr_call {P : Program} {w : World} {K : PySem.W.Frag} {mg mb : Str → Option Value} {CX : CXT} {k : Nat} {fa a : Addr} {fd : FuncData} {x : Str} {sp : Sp} {z : Shared} {vs : List Value} {ns : List Int}
    (kin : K.In z.heap) (glob : z.heap.Ns mainGlobals mg) (blt : z.heap.Ns builtinsNs mb) (bltOk : ∀ y : Str, y ≠ "__name__" → mb y = bootBuiltins y) (lim : z.heap.NoLimit) (noGen : z.gens = #[]) (scr : Scr z.heap a vs ns) (room : Room k callerA)
    (F : ∀ base : Heap, K.In base → base.Ns mainGlobals mg → FnG P w K mg base CX k fa fd [x] sp) (bind : ∀ (s : Shared) (u : Value), BindsTo s fd ⟨[u], []⟩ [(x, u)])
    (says : ∀ H : Hp, Only H → SqL K H a (ns.map V.int) → sp [.ref a] H (fun v _ => v = .bl true) fun _ _ _ => False) (calm : ∀ H e s', CX [] H z (fun _ _ _ => False) e s' → False) :
    codeAny (model P w) callerA (.call (.ref fa) ⟨[.ref a], []⟩) (fun r s' => r = .ok (.ret (.bool true)) ∧ OldK z.heap s'.heap ∧ s'.os = z.os ∧ AllBare s'.gens) z := by
  have noFr : ∀ b : Addr, b ∉ frs ([] : List Env) := fun b hb => nomatch hb
  have room0 : Env0 P w K mg (hidT z.heap (scrH K a (Scr.obj vs) (ns.map V.int))) callerA [] z (scrH K a (Scr.obj vs) (ns.map V.int)) :=
    ⟨rfl, ⟨Scr.kin kin, scr.spc glob, ⟨mb, scr.spc blt, bltOk⟩, lim.elim fun mc l => ⟨mc, scr.spc l.1, l.2⟩⟩, fun b o e => of_hidT e, Nat.le_of_eq (hidT_size _ _), trivial, fun b hb => absurd hb (noFr b), scr.ok, .of_eq noGen⟩
  refine codeAny_mono ((F _ (Scr.kin kin) (scr.spc glob)).runG callerA [] z _ ⟨[.ref a], []⟩ [.ref a] [.ref a] _ _ rfl room room0 (bind z (.ref a)) (.cons rfl .nil) (says _ scrH_only (scr.sq kin))) ?_
  intro r s' post
  match r, post with
  | .error e, post => exact (calm _ e s' post).elim
  | .ok (.ret u), ⟨v, H', os, bare, un, ok', rel, tr⟩ =>
    have tr : v = V.bl true := tr
    subst tr
    have eu : u = Value.bool true := rel
    subst eu
    refine ⟨rfl, OldK.of_keep ?_, os, bare⟩
    intro b o e
    by_cases t : scrH K a (Scr.obj vs) (ns.map V.int) b = none
    · exact un.keep b o e t (noFr b) (by simp)
    · obtain ⟨u, t⟩ := Option.ne_none_iff_exists'.mp t
      have tu := (scrH_inv t).2.2
      subst tu
      have here : o = Scr.obj vs := Option.some.inj (e.symm.trans (scr.ok (P := P) (w := w) b _ t).1)
      rw [here]
      exact (ok' b _ (un.frzs b _ _ t)).1
  | .ok .next, post => exact post.elim
  | .ok .brk, post => exact post.elim
  | .ok .cont, post => exact post.elim
theorem walk_ofG {l : PySem.W.OpenLaw} {n k : Nat} {q : Program} {loose : List Str} {XP : (Str → Option Value) → Heap → Prop} {YP : World → Heap → Prop} {d : DefRec} {CX : CXT} {x : Str}
    (most : l.most = some n) (line : n ≤ sizeLine) (nodef : d.params.defaults = []) (room : Room k callerA)
    (F : ∀ (w : World) (mg : Str → Option Value) (fa : Addr) (h : Heap), YP w h → h.Ns mainGlobals mg → mg d.name = some (.ref fa) → ∃ (K : PySem.W.Frag) (fd : FuncData) (sp : Sp), K.In h ∧ (∀ (s : Shared) (u : Value), BindsTo s fd ⟨[u], []⟩ [(x, u)]) ∧
      (∀ (H : Hp) (a : Addr) (ns : List Int), ns.length ≤ n → Only H → SqL K H a (ns.map V.int) → sp [.ref a] H (fun v _ => v = .bl true) fun _ _ _ => False) ∧ ∀ base : Heap, K.In base → base.Ns mainGlobals mg → FnG l.prog w K mg base CX k fa fd [x] sp)
    (calm : ∀ (H : Hp) (s : Shared) (e : Value) (s' : Shared), CX [] H s (fun _ _ _ => False) e s' → False) : PySem.W.WalkO q loose XP YP l.row.toRowW d [] (fun f vs => PySem.call f vs) :=
  Att.attach_call most nodef fun w _ s₁ mg _ fa _ _ _ _ a _ ns top y _ _ _ name ob nums few noGen =>
    let ⟨_, _, _, kin, bind, says, fn⟩ := F w mg fa _ y top.T.g name
    scr_call kin top.T.g top.T.b top.T.builtins top.T.nolimit noGen ⟨ob, nums, Nat.le_trans few line⟩ room fn bind (fun H only sq => says H a ns few only sq) fun H e s' => calm H s₁ e s'
theorem ints_rep {g : Gc} {S : Addr → Prop} {H : Hp} : ∀ ns : List Int, RpL g S H (ns.map T.int) (ns.map V.int) []
  | [] => ⟨rfl, rfl⟩
  | n :: ns => ⟨_, _, [], [], rfl, rfl, ⟨rfl, rfl⟩, ints_rep ns⟩
theorem tbO_only {g : Gc} {H : Hp} (h : g.tab = []) (o : Only H) : TbO g H := ⟨fun p hp => by rw [h] at hp; cases hp⟩
theorem sp_start {g : Gc} {c : Cal} {ns : List Int} {a : Addr} {H : Hp} {E : XK} (h : c [.nd .scr (ns.map T.int)] = some (.bl true, [])) (hS : SqL g.K H a (ns.map V.int)) (hT : TbO g H) : spT g [] c [.ref a] H (fun v _ => v = .bl true) E := by
  refine ⟨fun b => b = a ∧ ∃ o, H b = some o ∧ ∀ ps, o ≠ .tbl ps, [.nd .scr (ns.map T.int)], [], .bl true, [], RpL.one ⟨a, _, [], rfl, ?_, rfl, .inr (.inr rfl), ints_rep ns⟩, List.nodup_nil, (fun _ z => nomatch z), ⟨fun b hb => hb.2, hT⟩, h, fun x H' S' Ar Ao rx _ _ _ _ _ => rx.1⟩
  rcases hS with hS | hS
  · refine .inl ⟨hS, rfl, ?_⟩
    rcases hS with e | ⟨o, e⟩
    · exact ⟨_, e, fun _ z => nomatch z⟩
    · exact ⟨_, e, fun _ z => nomatch z⟩
  · exact .inr hS
end MI
namespace MI
open PySem PySem.Spec PyProof.Rows L2
section
variable {g : Gc} {X : Cx} {e : Expr} {es : List Expr} {fs : M (List T)} {e2 b2 : List Nat} {ln : List (Option Nat)}
end
end MI
namespace MI
open PySem PySem.Spec PyProof.Rows L2
section
variable {g : Gc} {X : Cx} {o e : Expr} {fa fb : M T} {fs : M (List T)} {e1 e2 b1 b2 : List Nat} {apos cpos pos p p1 p2 p3 pos2 : Pos} {k : Nat}
end
end MI
namespace MI
open PySem PySem.Spec PyProof.Rows L2
section
variable {g : Gc} {X : Cx} {fa fb : M T} {e1 e2 e3 : List Nat} {pos : Pos}
abbrev KT := List (Key × T)
def TPr (g : Gc) (fp : M KT) (eff : List Nat) : L2.St → Hp → (List (V × V) → Hp → Prop) → Prop := fun σ H Q => ∃ S Ts A ps Ts', SR g S H σ Ts A ∧ fp Ts = some (ps, Ts') ∧
  ∀ (kvs : List (Key × V)) H' S' A', SR g S' H' σ Ts' A' → kvs.map Prod.fst = ps.map Prod.fst → RpL g S' H' (ps.map Prod.snd) (kvs.map Prod.snd) [] → Po S H A S' H' A' → Stb eff H Ts A H' Ts' A' → Q (kvs.map fun kv => (kV kv.1, kv.2)) H'
structure PPm (g : Gc) (X : Cx) (pos : Pos) (keys : List (Option Expr)) (values : List Expr) (fp : M KT) (eff : List Nat) : Prop where
  ex : ∃ trs, PPs X pos keys values trs ∧ ∀ σ H Q, TPr g fp eff σ H Q → tPairs trs σ H Q
end
end MI
namespace MI
open PySem PySem.Spec PyProof.Rows L2
theorem FnG.none {P : Program} {w : World} {K : PySem.W.Frag} {mg : Str → Option Value} {base : Heap} {CX : CXT} {k : Nat} {f : Addr} {fd : FuncData} {ps : List Str} {g : Gc} {io : List Nat} : FnG P w K mg base CX k f fd ps (spT g io fun _ => Option.none) :=
  ⟨fun _ _ _ _ ⟨_, _, _, _, _, _, _, _, _, e, _⟩ => (nomatch e), fun _ _ _ _ _ _ _ _ _ _ _ _ _ _ ⟨_, _, _, _, _, _, _, _, _, e, _⟩ => (nomatch e)⟩
end MI
namespace MI
open PySem PySem.Spec PyProof.Rows L2
section
variable {prog : Program} {w : World} {A : Around} {E : Value → Shared → Prop} {s : Shared} {t sl : Addr} {its : List Value} {vl vu vs : Value}
end
section
variable {g : Gc} {X : Cx} {e : Expr} {fa : M T} {e1 b1 : List Nat} {pos p1 p2 p3 : Pos}
end
end MI
namespace MI
open PySem PySem.Spec PyProof.Rows L2
section
variable {prog : Program} {w : World} {A : Around} {E : Value → Shared → Prop} {s : Shared}
end
section
variable {X : Cx}
end
section
variable {g : Gc} {X : Cx} {e : Expr} {fa : M T} {e1 b1 : List Nat} {pos pos2 p p2 : Pos}
end
end MI
namespace MI
open PySem PySem.Spec PyProof.Rows L2
section
variable {g : Gc} {S : Addr → Prop} {H : Hp} {σ : L2.St} {Ts : List T} {A : Nat → List Addr} {i : Nat} {d : Addr} {od : Obj} {u : HO}
end
section
variable {g : Gc} {X : Cx} {tg iter : Expr} {body : List Stmt} {i : Nat} {fld : Option (Str × Str)} {w : Wd} {m : T → M Unit} {f : M Fl} {a1 a2 e2 : List Nat} {pos : Pos}
end
section
variable {g : Gc} {X : Cx} {tg e : Expr} {fa : M T} {e1 b1 : List Nat} {pos p2 : Pos}
end
section
variable {g : Gc} {S : Addr → Prop} {H : Hp}
end
section
variable {g : Gc} {X : Cx} {o e : Expr} {mp : M (List Nat)} {fa : M T} {e1 e2 : List Nat} {i : Nat} {p2 pos : Pos}
end
end MI
namespace MI
open PySem PySem.Spec PyProof.Rows L2
section
variable {prog : Program} {w : World} {A : Around} {E : Value → Shared → Prop} {s : Shared} {z TI TO i1 i2 : Addr} {fp1 fp2 : List Addr} {n1 n2 i : Nat} {P1 P2 : Nat → Value → Prop} {St1 St2 : Nat → Heap → Prop}
end
structure ZipNew (h : Heap) (z TI TO i1 i2 : Addr) (St1 St2 : Nat → Heap → Prop) : Prop where
  zip : IsZip h z TI TO .none
  its : IsTupOf2 h TI (.ref i1) (.ref i2)
  own : ∃ a b, IsTupOf2 h TO a b
  st1 : St1 0 h
  st2 : St2 0 h
structure ZipOn (h : Heap) (d z TI TO i1 i2 : Addr) (St1 St2 : Nat → Heap → Prop) (i : Nat) : Prop where
  its : IsTupOf2 h TI (.ref i1) (.ref i2)
  st1 : St1 i h
  st2 : St2 i h
  zip : (IsZip h z TI TO .none ∧ ∃ a b, IsTupOf2 h TO a b) ∨ ∃ T f oT, IsZipHeld h z TI TO T f ∧ h.get? T = some oT ∧ T ≠ z ∧ T ≠ i1 ∧ T ≠ i2 ∧ T ≠ d
section
variable {prog : Program} {w : World} {z TI TO i1 i2 : Addr} {fp1 fp2 : List Addr} {n : Nat} {P1 P2 : Nat → Value → Prop} {St1 St2 : Nat → Heap → Prop}
end
end MI
namespace MI
open PySem PySem.Spec PyProof.Rows L2
section
variable {K : Type} [DecidableEq K]
end
structure Src (prog : Program) (w : World) (a : Addr) (its : List Value) (s : Shared) where
  o : Obj
  G : Heap → Prop
  B : Begins (.ref a) o G
  g : G s.heap
  St : Addr → Nat → Heap → Prop
  draws : ∀ (it : Addr) (A : Around), a ≠ it → A.handled = none → Draws prog w A it [it, a] its.length (fun i v => its[i]? = some v) (St it)
  live : ∀ it i h, St it i h → ∀ b ∈ [it, a], ∃ o, h.get? b = some o
  new : ∀ it h, h.get? it = some o → (∀ c ob, s.heap.get? c = some ob → h.get? c = some ob) → St it 0 h
  lt : a < s.heap.objs.size
section
variable {X : Cx} {e e' : Expr} {ta : TA} {p p2 q pos : Pos}
end
end MI
namespace MI
open PySem PySem.Spec PyProof.Rows L2
section
variable {g : Gc} {S : Addr → Prop} {H : Hp}
end
section
variable {g : Gc} {X : Cx} {e e' : Expr} {fs : M (List T)} {e1 b1 : List Nat} {p p2 q pos : Pos} {k : Nat}
end
end MI
namespace MI
open PySem PySem.Spec PyProof.Rows L2
section
variable {X : Cx} {y : Str} {py : Pos} {i : Nat}
end
section
variable {g : Gc} {X : Cx} {tg iter kx vx : Expr} {ifs : List Expr} {mi : M (List T)} {m : T → M Unit} {tt : M Bool} {tk tv : M T} {a1 e1 e2 e3 e4 b1 : List Nat} {pos spos py : Pos} {y : Str} {scope : Scope}
end
end MI
namespace MI
open PySem PySem.Spec PyProof.Rows L2
section
variable {g : Gc} {P : Program} {w : World} {K : PySem.W.Frag} {mg : Str → Option Value} {base : Heap} {x qual : Str} {params : Arguments} {scope : Scope} {dvs : List V} {kws : List (Str × V)} {f : Addr} {fd : FuncData}
end
section
variable {g : Gc} {X : Cx} {e1 e2 b2 : List Nat} {fa fb : M T} {cls : Str} {c : List T → Option (List T)}
end
end MI
namespace MI
open PySem PySem.Spec PyProof.Rows L2 He
section
variable {g : Gc} {X : Cx} {C : Addr} {W : WX} {st : Stmt} {rest s1 s2 : List Stmt} {m : M Fl} {f : M Unit} {fc : M Bool} {a1 a2 e1 e2 : List Nat} {pos : Pos} {c : Expr}
end
section
variable {g : Gc} {P : Program} {w : World} {K : PySem.W.Frag} {mg : Str → Option Value} {base : Heap} {x qual : Str} {params : Arguments} {body : List Stmt} {scope : Scope} {dvs : List V} {kws : List (Str × V)} {fa C : Addr} {fd : FuncData}
end
section
variable {g : Gc} {X : Cx} {f C : Addr} {k : Nat} {fd : FuncData} {ps : List Str} {cx : List T → Bool} {W : WX} {x : Str} {p pos spos : Pos} {e tg : Expr} {es : List Expr} {fs : M (List T)} {eff bo : List Nat}
end
section
variable {g : Gc} {X : Cx} {C : Addr} {c : Value} {x : Str} {body suite : List Stmt} {b0 : Stmt} {np pos pos' : Pos} {m h : M Fl} {fx : M Unit} {a1 a2 a3 e1 e2 e3 : List Nat}
end
end MI
namespace MI
open PySem PySem.Spec PyProof.Rows L2 He
section
variable {g : Gc} {X : Cx} {x : Str} {pos : Pos} {ns : List Int}
theorem gTup (h : X.mg x = some (.ref (ga X.K x)) ∧ KTup X.K (ga X.K x) (ns.map V.int)) (hK : g.K = X.K := by rfl) (hg : Gl X x := by rfl) (hd : (x == ("__debug__" : Str)) = false := by decide) : PEm g X (.Name x pos) (mC (.nd .tup (ns.map T.int))) [] [] := by
  refine tm_glob hg h.1 (v := .ref (ga X.K x)) rfl (fun S H => ?_) hd
  have r : ∀ ns : List Int, RpL g S H (ns.map T.int) (ns.map V.int) [] := fun ns => by
    induction ns with
    | nil => exact ⟨rfl, rfl⟩
    | cons n ns ih => exact ⟨.int n, ns.map V.int, [], [], rfl, rfl, ⟨rfl, rfl⟩, ih⟩
  exact ⟨ga X.K x, ns.map V.int, [], rfl, .inr (hK ▸ h.2), rfl, .inr (.inr rfl), r ns⟩
end
end MI
namespace MI
open PySem PySem.Spec PyProof.Rows L2
section
variable {g : Gc} {S : Addr → Prop} {H : Hp}
end
section
variable {g : Gc} {X : Cx}
end
end MI
namespace MI
open PySem PySem.Spec PyProof.Rows L2
section
variable {g : Gc} {S1 : Addr → Prop} {H1 : Hp} {A1 : Nat → List Addr} {Ts1 : List T} {σ : L2.St} {m : T → M Unit} {tt : M Bool} {te : M T} {a1 e2 e3 : List Nat} {vs : List Nat} {i0 : Nat} {d : Addr} {od : Obj} {ks : List (List Key)} {xs : List V} {wi : TI}
end
section
variable {g : Gc} {S : Addr → Prop} {H H' : Hp} {d : Addr} {kvs : List (List Key × V)}
end
section
variable {g : Gc} {X : Cx} {σ : L2.St} {tg iter elt : Expr} {m : T → M Unit} {tt : M Bool} {te : M T} {a1 e2 e3 : List Nat} {vs : List Nat} {i : Nat} {wi : TI} {pos : Pos}
end
section
variable {g : Gc} {X : Cx} {o b : Expr} {fa fk : M T} {mp : M (List Nat)} {e1 e2 e3 b1 b3 : List Nat} {pos p2 : Pos} {i k : Nat}
end
end MI
namespace MI
open PySem PySem.Spec PyProof.Rows L2
section
variable {g : Gc} {S1 : Addr → Prop} {H1 : Hp} {A1 : Nat → List Addr} {Ts1 : List T} {σ : L2.St} {m : T → M Unit} {f : M Fl} {a1 a2 e2 : List Nat} {i0 : Nat} {d : Addr} {od : Obj} {ks : List (List Key)} {xs : List V} {wi : TI}
end
section
variable {g : Gc} {X : Cx} {σ : L2.St} {tg iter : Expr} {m : T → M Unit} {f : M Fl} {a1 a2 e2 : List Nat} {i : Nat} {wi : TI} {pos : Pos} {body : List Stmt}
end
end MI
namespace MI
open PySem PySem.Spec PyProof.Rows L2 He
theorem excE_ok {c : Str} {K : PySem.W.Frag} (h : excE c K = true) : ExcC K (ga K c) := by
  obtain ⟨h1, h⟩ := ba h
  obtain ⟨h2, h⟩ := ba h
  obtain ⟨h3, h⟩ := ba h
  obtain ⟨h4, h⟩ := ba h
  obtain ⟨h5, h⟩ := ba h
  obtain ⟨h6, h⟩ := ba h
  obtain ⟨h7, h8⟩ := ba h
  refine ⟨eqO_ok h1, ?_, of_decide_eq_true h3, h4, eqO_ok h5, eqO_ok h6, of_decide_eq_true h7, of_decide_eq_true h8⟩
  split at h2
  · rename_i e
    exact e
  · cases h2
section
variable {X : Cx} {C a : Addr} {oe : Obj} {pn : List (Addr × Obj)} {n x z : Str} {i : Nat} {p p2 p3 pos : Pos} {e1 e2 e3 : Expr}
end
section
variable {g : Gc} {X : Cx} {C : Addr} {c : Value} {x n : Str} {i : Nat} {s : Str} {body : List Stmt} {e : Expr} {np pos pos' rp : Pos} {m : M Fl} {fx : M Unit} {a1 a2 e1 e2 : List Nat}
end
end MI
namespace MI
open PySem PySem.Spec PyProof.Rows L2
section
variable {prog : Program} {w : World} {A : Around} {E : Value → Shared → Prop} {s : Shared}
end
section
variable {X : Cx} {g : Gc}
end
end MI
namespace MI
open PySem PySem.Spec PyProof.Rows L2
abbrev Sp := Sum Int Str
def spW : Sp → Str
  | .inl _ => "datum"
  | .inr _ => "sum"
section
variable {prog : Program} {w : World} {A : Around} {E : Value → Shared → Prop} {s : Shared}
def leafIs (u : Value) : Sp → Prop
  | .inl n => ∃ t, u = .int n t
  | .inr z => ∃ t, u = .str z t
def SpAt (h : Heap) (v : Value) (k : Sp) : Prop := ∃ a o t u n, v = .ref a ∧ h.get? a = some o ∧ o.cls = .type "tuple" ∧ o.data = .seq #[.str (spW k) t, u] n ∧ leafIs u k
theorem SpAt.keeps {h h' : Heap} {v : Value} {k : Sp} (p : SpAt h v k) (keep : ∀ b o, h.get? b = some o → o.cls = .type "tuple" → h'.get? b = some o) : SpAt h' v k :=
  p.elim fun a p => p.elim fun o p => p.elim fun t p => p.elim fun u p => p.elim fun n p => ⟨a, o, t, u, n, p.1, keep a o p.2.1 p.2.2.1, p.2.2⟩
end
section
variable {X : Cx} {pins : List (Addr × Obj)} {σ : L2.St} {H : Hp} {s : Shared}
open Classical in
noncomputable def spAtK (h : Heap) (v : Value) : Sp := if q : ∃ k, SpAt h v k then q.choose else .inl 0
end
section
variable {g : Gc} {S : Addr → Prop} {H : Hp}
end
section
variable {X : Cx} {g : Gc}
end
end MI
namespace MI
open PySem PySem.Spec PyProof.Rows L2
section
variable {g : Gc} {X : Cx} {k : Nat}
section
variable {fa fb fc : M T} {e1 e2 e3 b1 b2 b3 : List Nat}
end
end
end MI
namespace MI
open PySem PySem.Spec PyProof.Rows L2
section
variable {g : Gc} {X : Cx} {k : Nat}
variable {e : Expr} {es : List Expr} {fs : M (List T)} {e1 b1 : List Nat} {pos p2 : Pos}
end
end MI
namespace MI
open PySem PySem.Spec PyProof.Rows L2
section
variable {g : Gc} {X : Cx} {e : Expr} {fa : M T} {e1 b1 : List Nat} {pos p1 p2 p3 : Pos}
end
end MI
namespace MI
open PySem PySem.Spec PyProof.Rows L2
section
variable {prog : Program} {w : World} {A : Around} {E : Value → Shared → Prop} {s : Shared}
end
section
variable {g : Gc} {X : Cx} {a : Expr} {fa : M T} {e1 b1 : List Nat} {p p2 q pos : Pos}
end
end MI
namespace MI
open PySem PySem.Spec PyProof.Rows L2
section
variable {prog : Program} {w : World} {A : Around} {E : Value → Shared → Prop} {s : Shared}
end
section
variable {X : Cx} {g : Gc}
end
end MI
namespace MI
open PySem PySem.Spec PyProof.Rows L2
section
variable {X : Cx} {pins : List (Addr × Obj)} {σ : L2.St} {H : Hp} {s : Shared}
end
section
variable {g : Gc} {X : Cx} {k : Nat}
variable {e : Expr} {es : List Expr} {fs : M (List T)} {e1 b1 : List Nat} {pos p2 : Pos}
end
end MI
namespace MI
open PySem PySem.Spec PyProof.Rows L2
def signs (z : Str) : List Str := z.cps.toList.map fun c => ⟨#[c]⟩
section
variable {g : Gc} {X : Cx} {e : Expr} {es : List Expr} {fs : M (List T)} {e1 b1 : List Nat} {pos p2 : Pos}
end
end MI
namespace MI
open PySem PySem.Spec PyProof.Rows L2
section
variable {g : Gc} {X : Cx} {e : Expr} {es : List Expr} {fs : M (List T)} {e1 b1 : List Nat} {pos p2 : Pos}
end
end MI
namespace MI
open PySem PySem.Spec PyProof.Rows L2
section
variable {P : Program} {w : World} {K : Type} [DecidableEq K] {knd : KeyKind P w K}
structure Laid (knd : KeyKind P w K) (rows : Array (Int × Value)) (tb : SetTable) : Prop where
  el : ElemsOf knd rows.toList
  few : rows.size < scanBound
  fit : tb.fits rows.size = true
  ris : Ris tb.place.toList
  led : w.params.followText "set-order" = true ∨ tb.led = true
structure SetW (knd : KeyKind P w K) (h : Heap) (a : Addr) (mem : K → Bool) (n : Nat) : Prop where
  ex : ∃ o rows ep tb, h.get? a = some o ∧ o.ExactSet ∧ o.data = .set rows ep tb ∧ Laid knd rows tb ∧ (∀ k, mem k = true ↔ ∃ r ∈ rows.toList, knd.is k r.2 = true) ∧ rows.size = n
theorem SetW.stays {h h' : Heap} {a : Addr} {mem : K → Bool} {n : Nat} (W : SetW knd h a mem n) (k : ∀ o, h.get? a = some o → h'.get? a = some o) : SetW knd h' a mem n :=
  ⟨let ⟨o, rows, ep, tb, h1, r⟩ := W.ex; ⟨o, rows, ep, tb, k o h1, r⟩⟩
theorem Laid.again {rows : Array (Int × Value)} {tb : SetTable} (L : Laid knd rows tb) (n : Nat) : Laid knd (relayAll tb rows n).1 (relayAll tb rows n).2.1 ∧ (relayAll tb rows n).1.toList.Perm rows.toList := by
  have pm := relayAll_perm tb rows n
  have sz : (relayAll tb rows n).1.size = rows.size := by rw [← Array.length_toList, pm.length_eq, Array.length_toList]
  exact ⟨⟨L.el.perm pm, sz ▸ L.few, relayAll_fits tb rows n, relayAll_ris tb rows n, L.led.imp id fun z => (relayAll_led tb rows n).trans z⟩, pm⟩
theorem Laid.more {rows : Array (Int × Value)} {tb : SetTable} (L : Laid knd rows tb) {k : K} {x : Value} (hk : knd.is k x = true) (hx : x.scannable = true) (room : rows.size + 1 < scanBound) :
    Laid knd (layNew tb rows (knd.hash k) x).1 (layNew tb rows (knd.hash k) x).2.1 ∧ (layNew tb rows (knd.hash k) x).1.toList.Perm (rows.toList ++ [(knd.hash k, x)]) := by
  have pm := layNew_perm tb rows (knd.hash k) x
  rw [Array.toList_push] at pm
  have sz : (layNew tb rows (knd.hash k) x).1.size = rows.size + 1 := by rw [← Array.length_toList, pm.length_eq, List.length_append, Array.length_toList]; rfl
  exact ⟨⟨(L.el.push hk hx).perm pm, sz ▸ room, layNew_fits tb rows _ x, layNew_ris tb rows _ x L.ris, L.led.imp id fun z => (layNew_led tb rows _ x).trans z⟩, pm⟩
theorem Laid.off {rows : Array (Int × Value)} {tb : SetTable} (L : Laid knd rows tb) : Laid knd rows { tb with plain := false } := ⟨L.el, L.few, SetTable.fits_plain_off L.fit, L.ris, L.led⟩
variable {A : Around} {E : Value → Shared → Prop} {s : Shared} {a : Addr}
end
section
variable {P : Program} {w : World} {K : Type} [DecidableEq K] {knd : KeyKind P w K} {A : Around} {E : Value → Shared → Prop} {s : Shared} {a : Addr}
end
section
variable {prog : Program} {w : World} {A : Around} {R : Result → Shared → Prop} {I S : Addr} {fp wr : List Addr} {G : Array GenState → Array GenState → Prop} {n : Nat} {P : Nat → Value → Prop} {St : Nat → Shared → Prop} {K : Type} [DecidableEq K]
end
section
variable {prog : Program} {w : World} {A : Around} {E : Value → Shared → Prop} {s : Shared}
end
section
variable {prog : Program} {w : World} {A : Around} {E : Value → Shared → Prop} {s : Shared} {a : Addr}
end
section
variable {g : Gc} {X : Cx} {a b : Expr} {fa fb : M T} {e1 b1 e2 b2 : List Nat} {p p2 q pos : Pos}
end
section
variable {g : Gc} {X : Cx} {a b : Expr} {fa fb : M T} {e1 b1 e2 b2 : List Nat} {p3 pos : Pos}
end
section
variable {g : Gc} {S1 : Addr → Prop} {H1 : Hp} {A1 : Nat → List Addr} {Ts1 : List T} {σ : L2.St} {m : T → M Unit} {tt : M Bool} {te : M T} {a1 e2 e3 : List Nat} {vs : List Nat} {i0 : Nat} {d : Addr} {od : Obj} {ks : List (List Key)} {xs : List V} {wi : TI}
end
section
variable {g : Gc} {X : Cx} {tg iter elt : Expr} {m : T → M Unit} {tt : M Bool} {te : M T} {a1 e2 e3 : List Nat} {vs : List Nat} {i : Nat} {wi : TI} {pos : Pos}
end
end MI
namespace MI
open PySem PySem.Spec PyProof.Rows L2
section
variable {P : Program} {w : World} {A : Around} {E : Value → Shared → Prop} {s : Shared}
abbrev isK (P : Program) (w : World) (h : Heap) (k : List Key) (b : Addr) : Prop := IsTupleKey (mixKind P w) h k b
abbrev hashK (P : Program) (w : World) (k : List Key) : Int := tupleKeyHash (mixKind P w) k
end
def rowK (P : Program) (w : World) (p : Addr × List Key) : Int × Value := (hashK P w p.2, .ref p.1)
structure KSet (P : Program) (w : World) (h : Heap) (a : Addr) (L : List (Addr × List Key)) (rows : Array (Int × Value)) (ep : Nat) (tb : SetTable) : Prop where
  ob : ∃ o, h.get? a = some o ∧ o.ExactSet ∧ o.data = .set rows ep tb
  eq : rows.toList = L.map (rowK P w)
  tab : TabOk tb (L.map fun p => hashK P w p.2)
  nd : (L.map (·.2)).Nodup
  tup : ∀ p ∈ L, isK P w h p.2 p.1
  led : w.params.followText "set-order" = true ∨ tb.led = true
  few : L.length ≤ 8
  room : L.length * 5 < tb.mask * 3
section
variable {P : Program} {w : World} {A : Around} {E : Value → Shared → Prop} {s : Shared} {a : Addr} {L : List (Addr × List Key)} {rows : Array (Int × Value)} {ep : Nat} {tb : SetTable}
theorem KSet.count (R : KSet P w s.heap a L rows ep tb) : rows.size = L.length := by
  rw [← Array.length_toList, R.eq, List.length_map]
theorem KSet.fits (R : KSet P w s.heap a L rows ep tb) : tb.fits rows.size = true := by
  have h1 := R.tab.sz
  have h2 := R.count
  have h3 := R.few
  have h4 := R.room
  rw [List.length_map] at h1
  unfold SetTable.fits SetTable.fill
  rw [R.tab.dm, Bool.and_eq_true, beq_iff_eq, decide_eq_true_eq]
  show tb.place.size = rows.size ∧ tb.place.size + 0 ≤ tb.mask
  omega
theorem KSet.row (R : KSet P w s.heap a L rows ep tb) {i : Nat} {p : Addr × List Key} (h : L[i]? = some p) : rows[i]? = some (hashK P w p.2, .ref p.1) := by
  rw [← Array.getElem?_toList, R.eq, List.getElem?_map, h]; rfl
theorem KSet.place (R : KSet P w s.heap a L rows ep tb) {i j : Nat} (h : tb.place.toList[i]? = some j) : ∃ p, L[i]? = some p := by
  have h1 : i < tb.place.toList.length := (List.getElem?_eq_some_iff.mp h).1
  have h2 := R.tab.sz
  rw [List.length_map] at h2
  rw [Array.length_toList] at h1
  exact ⟨L[i]'(by omega), List.getElem?_eq_getElem _⟩
abbrev stand (P : Program) (w : World) (m : Nat) (k : List Key) (c : Nat) : SetTable.Probe := nth m (runAt m (SetTable.bits (hashK P w k) % (m + 1)) (SetTable.bits (hashK P w k))) c
end
section
variable {P : Program} {w : World} {A : Around} {E : Value → Shared → Prop} {s : Shared} {a : Addr} {L : List (Addr × List Key)} {rows : Array (Int × Value)} {ep : Nat} {tb : SetTable}
end
section
variable {P : Program} {w : World} {h h' : Heap} {a : Addr} {L : List (Addr × List Key)} {rows : Array (Int × Value)} {ep : Nat} {tb : SetTable}
theorem isK_keep {k : List Key} {b : Addr} (x : isK P w h k b) (e : ∀ o, h.get? b = some o → h'.get? b = some o) : isK P w h' k b :=
  let ⟨o, items, n, h1, r⟩ := x; ⟨o, items, n, e o h1, r⟩
theorem KSet.stays (R : KSet P w h a L rows ep tb) (e : ∀ o, h.get? a = some o → h'.get? a = some o) (t : ∀ p ∈ L, ∀ o, h.get? p.1 = some o → h'.get? p.1 = some o) : KSet P w h' a L rows ep tb :=
  { R with ob := let ⟨o, h1, r⟩ := R.ob; ⟨o, e o h1, r⟩, tup := fun p hp => isK_keep (R.tup p hp) (t p hp) }
theorem KSet.ne (R : KSet P w h a L rows ep tb) {k : List Key} {b : Addr} (x : isK P w h k b) : b ≠ a := fun z => by
  obtain ⟨o, h1, _, h3⟩ := R.ob
  obtain ⟨o', items, n, g1, _, g3, _⟩ := x
  rw [z, h1] at g1
  injection g1 with g1
  rw [← g1, h3] at g3
  cases g3
end
section
variable {prog : Program} {w : World} {A : Around} {R : Result → Shared → Prop} {I S : Addr} {fp wr : List Addr} {G : Array GenState → Array GenState → Prop} {n : Nat} {P : Nat → Value → Prop} {St : Nat → Shared → Prop}
end
section
variable {prog : Program} {w : World} {A : Around} {E : Value → Shared → Prop} {s : Shared}
end
end MI
namespace MI
open PySem PySem.Spec PyProof.Rows L2
section
variable {P : Program} {w : World} {A : Around} {E : Value → Shared → Prop} {s : Shared} {a b : Addr} {L M : List (Addr × List Key)} {rows rows2 : Array (Int × Value)} {ep ep2 : Nat} {tb tb2 : SetTable}
end
section
variable {g : Gc} {X : Cx} {a b : Expr} {fa fb : M T} {e1 b1 e2 b2 : List Nat} {p1 p2 q1 q2 pos : Pos} {k : Nat}
section
variable {S : Addr → Prop} {H : Hp}
end
end
end MI
namespace MI
open PySem PySem.Spec PyProof.Rows L2 He
def spS (fl : Str) (C : Addr) : L2.Sp := fun vs H Q _ => ∃ (a : Addr) (v : V), vs = [.ref a, v] ∧ H a = some (exo a C none) ∧ ∀ d, H d = none → d ≠ a → Q .non (upd (upd H d (exd d [(fl, v)])) a (exo a C (some d)))
section
variable {P : Program} {w : World} {K : PySem.W.Frag} {mg : Str → Option Value} {base : Heap} {x qual : Str} {params : Arguments} {body : List Stmt} {scope : Scope} {dvs : List V} {kws : List (Str × V)} {fa C : Addr} {fd : FuncData} {CX : CXT}
end
theorem iniB_ok {c fl : Str} {K : PySem.W.Frag} (h : iniB c fl K = true) : PySem.W.findIn K (.ref (ga K c)) "__init__" = some (some (.ref (ma K (ga K c) "__init__"))) ∧ PySem.W.typeIn K (.ref (ma K (ga K c) "__init__")) = some (.type "function") ∧ PySem.W.findIn K (.ref (ga K c)) fl = some none ∧ XfC K (ga K c) := by
  obtain ⟨h1, h⟩ := ba h
  obtain ⟨h2, h⟩ := ba h
  obtain ⟨h3, h4⟩ := ba h
  refine ⟨eqO_ok h1, ?_, eqO_ok h3, xfB_ok h4⟩
  split at h2
  · rename_i t e
    rw [e, of_decide_eq_true h2]
  · cases h2
def TXF (g : Gc) (fl : Str) (f : M T) (asg eff : List Nat) (C : Addr) (W : WX) : TS := fun _ σ H => ∃ S Ts A t Ts', SR g S H σ Ts A ∧ f Ts = some (t, Ts') ∧
  ∀ σ' H' S' A' v dd, (∀ i, i ∉ asg → σ'[i]? = σ[i]?) → SR g S' H' σ' Ts' A' → Po S H A S' H' A' → Stb eff H Ts A H' Ts' A' → Rp g S' H' t v [] → H' dd = some (.xd [(fl, v)]) → W (.ref C) (some dd) σ' H'
section
variable {g : Gc} {fl : Str} {X : Cx} {C : Addr} {W : WX} {st : Stmt} {rest s1 s2 : List Stmt} {m : M Fl} {f : M T} {fc : M Bool} {a1 a2 e1 e2 : List Nat} {pos : Pos} {c : Expr}
end
section
variable {g : Gc} {fl : Str} {P : Program} {w : World} {K : PySem.W.Frag} {mg : Str → Option Value} {base : Heap} {x qual : Str} {params : Arguments} {body : List Stmt} {scope : Scope} {dvs : List V} {kws : List (Str × V)} {fa C : Addr} {fd : FuncData}
end
section
variable {g : Gc} {fl : Str} {X : Cx} {f C : Addr} {k : Nat} {fd : FuncData} {ps : List Str} {sp : L2.Sp} {cx : List T → Option T} {W : WX} {x : Str} {p pos spos : Pos} {e tg : Expr} {es : List Expr} {fs : M (List T)} {eff bo : List Nat} {ta : TA}
theorem SR.more {S S2 : Addr → Prop} {H H2 : Hp} {σ : L2.St} {Ts : List T} {A : Nat → List Addr} (R : SR g S H σ Ts A) (ext : ∀ a o, H a = some o → fixO H2 a o) (sub : ∀ a, S a → S2 a) (new : ∀ a, S2 a → S a ∨ noT (H a) = none) (st : StT g S2 H2) : SR g S2 H2 σ Ts A where
  rep := fun i => (R.rep i).imp id fun ⟨x, e, r⟩ => ⟨x, e, Rp.keepF (M := fun _ => False) (fun a o h _ => ext a o h) (fun _ z => z.elim) (fun _ _ z => z) sub _ _ _ r fun _ _ z => z⟩
  nd := R.nd
  dj := R.dj
  ns := fun i a ha h => (new a h).elim (R.ns i a ha) fun n => mut_ne (R.cells i a ha) n
  len := R.len
  st := st
end
end MI
namespace MI
open PySem PySem.Spec PyProof.Rows L2 He
abbrev Bes := L2.St → (Addr → Prop) → Hp → Prop
structure Keeps (g : Gc) (P : Bes) : Prop where
  po : ∀ {σ : L2.St} {S : Addr → Prop} {H : Hp} {Ts : List T} {A : Nat → List Addr} {S' : Addr → Prop} {H' : Hp} {A' : Nat → List Addr}, SR g S H σ Ts A → Po S H A S' H' A' → P σ S H → P σ S' H'
structure Pay (g : Gc) (i : Nat) (a dd : Addr) (fl : Str) (t : T) (v : V) (σ : L2.St) (S : Addr → Prop) (H : Hp) : Prop where
  sl : σ[i]? = some (some (.ref a))
  xd : H dd = some (.xd [(fl, v)])
  rp : Rp g S H t v []
def TMP (g : Gc) (P : Bes) (f : M T) (eff bo : List Nat) : TE := fun σ H Q => ∃ S Ts A t Ts', SR g S H σ Ts A ∧ P σ S H ∧ f Ts = some (t, Ts') ∧
  ∀ x H' S' A' Ax, SR g S' H' σ Ts' A' → Rp g S' H' t x Ax → Ow bo H A S' A' Ax → Po S H A S' H' A' → Stb eff H Ts A H' Ts' A' → Q x H'
def TMPs (g : Gc) (P : Bes) (f : M (List T)) (eff bo : List Nat) : TA := fun σ H Q => ∃ S Ts A ts Ts', SR g S H σ Ts A ∧ P σ S H ∧ f Ts = some (ts, Ts') ∧
  ∀ xs H' S' A' Ax, SR g S' H' σ Ts' A' → RpL g S' H' ts xs Ax → Ow bo H A S' A' Ax → Po S H A S' H' A' → Stb eff H Ts A H' Ts' A' → Q xs H'
section
variable {g : Gc} {P : Bes} {X : Cx} {e a b : Expr} {es : List Expr} {f fa fb : M T} {fs : M (List T)} {e1 e2 b1 b2 : List Nat} {pos p2 : Pos}
theorem TMPs.to {σ : L2.St} {H : Hp} {f' : List T → Option T} {Q : VK} (h : TMP g P (mF f' fs) e1 [] σ H Q) : ∃ S Ts A t ts Ts', SR g S H σ Ts A ∧ P σ S H ∧ fs Ts = some (ts, Ts') ∧ f' ts = some t ∧
    ∀ x H' S' A' Ax, SR g S' H' σ Ts' A' → Rp g S' H' t x Ax → Ow [] H A S' A' Ax → Po S H A S' H' A' → Stb e1 H Ts A H' Ts' A' → Q x H' := by
  obtain ⟨S, Ts, A, t, Ts', R, pp, e, k⟩ := h
  obtain ⟨ts, Ts1, ea, e⟩ := bnd_some e
  obtain ⟨ef, rfl⟩ := lft_some e
  exact ⟨S, Ts, A, t, ts, Ts', R, pp, ea, ef, k⟩
end
section
variable {g : Gc} {X : Cx} {C a dd : Addr} {oe : Obj} {pn : List (Addr × Obj)} {n fl : Str} {i : Nat} {t : T} {v : V} {p pos : Pos}
end
section
variable {g : Gc} {S : Addr → Prop} {H : Hp} {σ : L2.St} {Ts : List T} {A : Nat → List Addr}
def wipe (A : Nat → List Addr) (i : Nat) : Nat → List Addr := fun j => if j = i then [] else A j
theorem wipe_mem {A : Nat → List Addr} {i j : Nat} {a : Addr} (h : a ∈ wipe A i j) : j ≠ i ∧ a ∈ A j := by
  unfold wipe at h
  split at h
  · cases h
  · rename_i ne
    exact ⟨ne, h⟩
theorem SR.wipe {i : Nat} (R : SR g S H σ Ts A) (o : Option V) (hi : i < Ts.length) : SR g S H (σ.set i o) (Ts.set i .dead) (MI.wipe A i) where
  rep := fun j => by
    by_cases e : j = i
    · subst e
      exact .inl ⟨by rw [slot_set_eq hi], by unfold MI.wipe; rw [if_pos rfl]⟩
    · have z := R.rep j
      unfold MI.wipe
      rw [slot_set_ne e, if_neg e]
      have w : (σ.set i o).getD j none = σ.getD j none := by
        rw [List.getD_eq_getElem?_getD, List.getD_eq_getElem?_getD, List.getElem?_set_ne (fun z => e z.symm)]
      rw [w]
      exact z
  nd := fun j => by
    unfold MI.wipe
    split
    · exact List.nodup_nil
    · exact R.nd j
  dj := fun j k ne a ha hk => R.dj j k ne a (wipe_mem ha).2 (wipe_mem hk).2
  ns := fun j a ha => R.ns j a (wipe_mem ha).2
  len := by rw [List.length_set, List.length_set, R.len]
  st := R.st
theorem Po.wipe {i : Nat} : Po S H A S H (MI.wipe A i) := ⟨fun _ _ e _ => fix_of e, fun _ h => h, fun _ h => .inl h, fun j a h => .inl ⟨j, (wipe_mem h).2⟩⟩
theorem Stb.wipe {i : Nat} : Stb [i] H Ts A H (Ts.set i .dead) (MI.wipe A i) := fun j hj => by
  have e : j ≠ i := fun z => hj (by rw [z]; exact List.mem_cons_self)
  exact ⟨slot_set_ne e, by unfold MI.wipe; rw [if_neg e], fun _ _ _ e => e⟩
end
section
variable {g : Gc} {X : Cx} {C : Addr} {c : Value} {x n fl : Str} {i : Nat} {body : List Stmt} {e : Expr} {np pos pos' rp : Pos} {m : M Fl} {fx : M T} {h : T → M T} {a1 a2 e1 e2 e3 : List Nat}
end
end MI
namespace MI
open PySem PySem.Spec PyProof.Rows L2 He
end MI
namespace MI
open PySem PySem.Spec PyProof.Rows L2
section
variable {prog : Program} {w : World} {A : Around} {E : Value → Shared → Prop} {s : Shared}
end
section
variable {g : Gc} {X : Cx} {a : Expr} {fa : M T} {e1 b1 : List Nat} {p p2 q pos : Pos} {k : Nat}
end
end MI
namespace MI
open PySem PySem.Spec PyProof.Rows L2 He
inductive Oc where
  | val (t : T) | exc (c : Str) (o : Option T)
def Thing (g : Gc) (fo : Str → Str) (c : Str) (o : Option T) (d : Option Addr) (S : Addr → Prop) (H : Hp) : Prop := match o with
  | some t => ∃ (dd : Addr) (v : V), d = some dd ∧ H dd = some (.xd [(fo c, v)]) ∧ Rp g S H t v []
  | none => d = none
section
variable {g : Gc} {fo : Str → Str} {X : Cx} {e : Expr} {f : M T} {th th1 th2 : M Oc} {e1 e2 b1 : List Nat} {E : XK}
end
section
variable {g : Gc} {fo : Str → Str} {hM : Oc → Option T} {S S1 S2 : Addr → Prop} {H H1 H2 : Hp} {A A1 : Nat → List Addr} {σ : L2.St} {Ts Ts1 : List T} {eff : List Nat} {Ax Ar : List Addr} {r : T} {x : V}
end
section
variable {X : Cx} {pins : List (Addr × Obj)} {σ : L2.St} {H HZ : Hp} {s z : Shared} {B : Around} {out : List Env} {E : XK} {Q : VK} {scope : Scope} {params : Arguments} {body : Expr} {f c' : Addr} {pm ctv : Value} {t : TE}
end
section
variable {X : Cx} {pins : List (Addr × Obj)} {σ : L2.St} {H : Hp} {s : Shared} {CXg : CXT} {Eg E : XK} {Ng : List Str} {qg a : Str} {sg scope : Scope} {g f c' : Addr} {cdg pm ctv : Value} {params : Arguments} {body : Expr} {k i : Nat} {pn : List (Addr × Obj)} {xe : Value → Shared → Prop} {W : WX} {t : TE} {p1 p2 : Pos}
end
section
variable {X : Cx} {T : List (Addr × Str)} {TT : (XK → Hp → VK → Prop) → Hp → VK → Prop} {x a : Str} {g c P : Addr} {k : Nat} {pg params : Arguments} {bg : List Stmt} {sg scope : Scope} {fd : FuncData} {Ng : List Str} {body : Expr} {t : XK → TE} {p lpos pos : Pos}
end
theorem PoF.same {S : Addr → Prop} {H : Hp} {A : List Addr} : PoF S H A S H A := ⟨fun _ _ e _ => fix_of e, fun _ h => h, fun _ h => .inl h, fun _ h => .inl h⟩
end MI
namespace MI
open PySem PySem.Spec PyProof.Rows L2 He
structure TabOk (tf : List Defn) (h : Heap) (K : PySem.W.Frag) : Prop where
  hd : ∀ p ∈ tf, PySem.W.codeHdIn K (cT K p).1 (cT K p).2 = true
  out : ∀ p ∈ tf, K.lookup (cT K p).2 = none
  nil : ∀ p ∈ tf, h.get? (cT K p).2 = some { cls := .none, data := .fields #[] }
section
variable {P : Program} {w : World} {K : PySem.W.Frag} {h : Heap} {tb : List Addr} {a b : Addr} {vs : List Value} {ns : List Int}
end
section
variable {g : Gc} {P : Program} {w : World} {K : PySem.W.Frag} {mg : Str → Option Value} {base : Heap} {x qual : Str} {params : Arguments} {body : List Stmt} {scope : Scope} {dvs : List V} {kws : List (Str × V)} {f : Addr} {fd : FuncData}
end
end MI
namespace MI
open PySem PySem.Spec PyProof.Rows L2
abbrev nth (ns : List Int) (i : Nat) : Int := ns.getD i 0
section
variable {g : Gc} {X : Cx} {e : Expr} {es : List Expr} {fs : M (List T)} {e1 b1 : List Nat} {pos p2 : Pos}
end
end MI
namespace MI
open PySem PySem.Spec PyProof.Rows L2 He
section
variable {X : Cx} {pins : List (Addr × Obj)} {σ : L2.St} {H : Hp} {cls : Value} {d : Option Addr} {a : Addr} {B : Heap} {sI s : Shared}
structure Down (X : Cx) (pins : List (Addr × Obj)) (σ : L2.St) (H : Hp) (cls : Value) (d : Option Addr) (a : Addr) (B : Heap) (sI s : Shared) : Prop where
  inv : Inv X pins σ H sI
  ground : ∀ b o, sI.heap.get? b = some o → b ∉ frs X.stack → B.get? b = some o
  up : sI.heap.UpToSlots s.heap
  fly : HandSPX.FlyingZ B (X.env :: X.outer) a (Zc cls d) s.heap
  free : H a = none
  os : s.os = sI.os
  bare : AllBare s.gens
theorem Down.here (D : Down X pins σ H cls d a B sI s) : Inv X pins σ H s := D.inv.landed D.ground D.fly.1 D.up D.os D.bare
theorem Down.to (D : Down X pins σ H cls d a B sI s) {h : Heap} (f : HandSPX.FlyingZ B (X.env :: X.outer) a (Zc cls d) h) (u : s.heap.UpToSlots h) : Down X pins σ H cls d a B sI { s with heap := h } :=
  ⟨D.inv, D.ground, D.up.trans u, f, D.free, D.os, D.bare⟩
theorem Down.beside (D : Down X pins σ H cls d a B sI s) (o : Obj) : Down X pins σ H cls d a B sI { s with heap := s.heap.push o } := by
  have k : s.heap.StaysIn (s.heap.push o) := fun b u e => Heap.get?_push_of_some _ e
  obtain ⟨f1, f2, f3, oe, vs, T, oT, ts, g1, g2, g3, g4, g5, g6, g7, g8⟩ := D.fly
  exact D.to ⟨fun b u e => k b u (f1 b u e), f2, Heap.FunFrames.of_keeps (fun b u e _ => ⟨u, k b u e, rfl⟩) f3, oe, vs, T, oT, ts, k _ _ g1, g2, g3, g4, g5, g6, k _ _ g7, g8⟩ (Heap.UpToSlots.of_keeps k)
theorem Down.suite (D : Down X pins σ H cls d a B sI s) (hf : X.env.frame = some X.env.locals) : ∃ oe, s.heap.get? a = some oe ∧ Zc cls d oe ∧ (∃ vs, oe.data = .fields vs) ∧ Inv (X.suite a ((a, oe) :: (X.pn ++ pins))) [] σ H s := by
  obtain ⟨oe, vs, e, z, dv⟩ := D.fly.there
  have out : a ∉ frs (X.env :: X.outer) := fun m => by
    obtain ⟨_, o', e', no⟩ := D.fly.2.2.1.mem m
    cases e.symm.trans e'
    exact no vs dv
  refine ⟨oe, e, z, ⟨vs, dv⟩, D.here.suite e dv D.free (fun q => out ?_) fun m => out ?_⟩
  · exact List.mem_filterMap.mpr ⟨X.env, List.mem_cons_self, by rw [hf, q]⟩
  · obtain ⟨v, hv, q⟩ := List.mem_filterMap.mp m
    exact List.mem_filterMap.mpr ⟨v, List.mem_cons_of_mem _ hv, q⟩
theorem Down.kind (D : Down X pins σ H cls d a B sI s) : PySem.W.Looks (model X.prog X.w) s.heap (typeOf (.ref a)) cls := by
  obtain ⟨oe, vs, e, z, _⟩ := D.fly.there
  exact fun A Q E s' k q => wpAny_typeOf_ref (k _ _ e) (by rw [z.1]; exact q)
end
abbrev WE := Ends → Value → Option Addr → L2.St → Hp → Prop
section
variable {X : Cx} {hds : List ExceptHandler} {w : WE} {n x x1 x2 x3 : Str} {c c1 c2 c3 : Value} {i k : Nat} {t : Expr} {f : Value → Option Bool} {body suite : List Stmt} {b₀ : Stmt} {h₀ : ExceptHandler} {p p1 p2 p3 pos : Pos} {ts : Addr → Value → Option Addr → TS} {tb : WX → TS}
end
section
variable {X : Cx} {C a dd : Addr} {oe : Obj} {pn : List (Addr × Obj)} {n x x1 x2 : Str} {i k : Nat} {b : Bool} {p p2 p3 p4 p5 pos : Pos}
theorem kit_of (F : ExcC X.K C) {od : Option Obj} : PySem.W.KitX X.K (.ref a) (.ref C) (fun h => PySem.W.InstAt h a oe C od) :=
  PySem.W.kitx_exc (by obtain ⟨cd, h, _⟩ := PySem.W.any_some F.hd; rw [h]; rfl) F.hg F.hk F.hs F.ha F.hn F.ht F.hm
end
section
variable {Y : Cx} {a dd : Addr} {i : Nat} {e1 e2 e3 r1 r2 : Expr} {t1 t2 : TE} {p q p1 p2 pos : Pos}
end
def empty (len : Nat) (m : M T) : Option T := (m (List.replicate len .dead)).map (·.1)
theorem SR.none {g : Gc} {S : Addr → Prop} {H : Hp} {σ : L2.St} {len : Nat} (hl : σ.length = len) (st : StT g S H) : SR g S H σ (List.replicate len .dead) (fun _ => []) where
  rep := fun i => .inl ⟨by unfold slot; simp [List.getElem?_replicate]; split <;> rfl, rfl⟩
  nd := fun _ => List.nodup_nil
  dj := fun _ _ _ _ h => nomatch h
  ns := fun _ _ h => nomatch h
  len := by rw [List.length_replicate, hl]
  st := st
theorem PoF.of {g : Gc} {S S2 : Addr → Prop} {H H2 : Hp} {A2 : Nat → List Addr} {B Ax : List Addr} (p : Po S H (fun _ => []) S2 H2 A2) (o : Ow [] H (fun _ => []) S2 A2 Ax) : PoF S H B S2 H2 Ax :=
  ⟨fun a ob e _ => p.keep a ob e (fun _ z => (nomatch z)), p.sub, fun a h => (p.snew a h).imp id (fun z => z.elim (fun ⟨_, z⟩ => (nomatch z)) Or.inr), fun a h => (o.new a h).elim (fun ⟨_, z⟩ => (nomatch z)) Or.inr⟩
end MI
namespace MI
open PySem PySem.Spec PyProof.Rows L2 He
def rReprE : RC := fun xs H Q => ∃ a, xs = [.ref a] ∧ Rd H a (.dK []) ∧ Q (.str (PyData.shown (.dict []))) H
section
variable {X : Cx} {g : Gc} {P : Bes} {e : Expr} {es : List Expr} {fs : M (List T)} {e1 b1 : List Nat} {k : Nat} {pos p2 : Pos}
theorem call_reprE (hG : GA X.A) (hu : X.A.units + 64 < cLine) : CallR X (.builtin "repr") rReprE := by
  intro pins s σ H xs us Q I r h
  obtain ⟨a, rfl, ha, q⟩ := h
  obtain ⟨u, rfl, r1⟩ := vals1 r
  obtain rfl : u = .ref a := r1
  obtain ⟨_, ns, vs, kv, o, ds, ep, h1, h2, h3, _, h5, _⟩ := (show ObjOk X.prog X.w H s.heap a (.dK []) from rd_of I.hok ha)
  have hv : vs = [] := by cases kv; rfl
  subst hv
  have hd : ds.toList = [] := by
    generalize ds.toList = l at h5
    cases h5
    rfl
  have rd : Reads s.heap (.ref a) (.dict []) (a :: [] ++ []) := .dict h1 h2.1 h3 (by rw [hd]; exact .nil) (by rw [hd]; exact .nil)
  refine repr_of_reads' rd rfl (fun _ m => ?_) hG (by show X.A.units + (_ + 1) < cLine; simp [PyData.depth, PyData.depthKv]; omega) (fun _ _ e => e) (fun h' u tk k => ⟨.str _, H, I.kept k, ⟨_, rfl⟩, q⟩) (by decide +kernel)
  have : sysModules = a := by simpa using m
  rw [this] at ns
  simp at ns
def fReprX (t : T) : Option T := match t with
  | .nd (.dK _ []) [] => some (.str (PyData.shown (.dict [])))
  | t => fRepr t
theorem ct_reprX : CallT g (fun xs H Q => rRepr g.K xs H Q ∨ rReprE xs H Q) (c1 fReprX) := fun S H ts xs Ax t Q ra e k => by
  unfold c1 at e
  split at e
  · unfold fReprX at e
    split at e
    · injection e with e; subst e
      obtain ⟨x, B, e1, r1⟩ := ra.get1
      obtain ⟨a, ys, C, rfl, ⟨⟨h1, _⟩, _, _⟩, _, _, rl⟩ := r1
      rw [e1]
      have : ys = [] := by cases ys with | nil => rfl | cons _ _ => exact absurd (RpL.length _ _ _ rl) (by simp)
      subst this
      exact .inr ⟨a, rfl, h1, k _ H [] (New.atom ⟨rfl, rfl⟩)⟩
    · exact .inl (ct_repr S H _ xs Ax t Q ra e k)
  · cases e
end
end MI
namespace MI
open PySem PySem.Spec PyProof.Rows L2
section
variable {g : Gc} {X : Cx} {o e : Expr} {fa fb : M T} {fs : M (List T)} {e1 e2 b1 b2 : List Nat} {apos pos p p1 p2 : Pos} {k : Nat}
inductive PJm (g : Gc) (X : Cx) : List Expr → List (M T) → List Nat → Prop where
  | nil : PJm g X [] [] []
  | cons {e : Expr} {f : M T} {es : List Expr} {fs : List (M T)} {e1 b1 e2 : List Nat} (h : PEm g X e f e1 b1) (r : PJm g X es fs e2) : PJm g X (e :: es) (f :: fs) (e1 ++ e2)
end
end MI
namespace MI
open PySem PySem.Spec PyProof.Rows L2
section
variable {g : Gc} {X : Cx} {CX : CXT} {o e : Expr} {fa : M T} {e1 b1 : List Nat} {p2 pos : Pos} {k : Nat} {C f : Addr} {fd : FuncData} {ps : List Str} {sp : L2.Sp} {E : XK} {c : Cal} {cls : Str}
end
end MI
namespace MI
open PySem PySem.Spec PyProof.Rows L2 He
structure Stat (K : PySem.W.Frag) (C : Addr) (m : Str) (f : Addr) : Prop where
  rd : ClX.CRead K C (.type "type")
  at_ : ∃ p, PySem.W.findCls K (.ref C) (.type "type") m = some (.get (.builtin "staticmethod.__get__") (.ref p) .none (.ref C)) ∧ ∃ rest, PySem.W.recIn K p "staticmethod" = some (.ref f :: rest)
section
variable {g : Gc} {X : Cx} {CX : CXT} {o e : Expr} {es : List Expr} {fs : M (List T)} {e1 b1 : List Nat} {pos apos p : Pos} {k : Nat} {C f : Addr} {fd : FuncData} {ps : List Str} {sp : L2.Sp} {E : XK} {c : Cal} {m cl : Str} {ta : TE} {t tk : TA} {io : List Nat} {ln : List (Option Nat)} {kws : List Keyword}
end
end MI
namespace MI
open PySem PySem.Spec PyProof.Rows L2 He
section
open PySem.W
variable {prog : Program} {w : World} {A : Around} {E : Value → Shared → Prop} {s : Shared} {K : PySem.W.Frag} {x C f : Addr} {ox : Obj} {od : Option Obj} {b tb : Value}
end
section
variable {g : Gc} {X : Cx} {a b : Expr} {fa fb : M T} {fs : M (List T)} {e1 e2 b1 b2 : List Nat} {pos : Pos} {k : Nat} {C f : Addr} {fd : FuncData} {ps : List Str} {sp : L2.Sp} {E : XK} {c : Cal} {cls : Str}
structure OwnEq (K : PySem.W.Frag) (C f : Addr) : Prop where
  eq : Meth K C "__eq__" f
  ne : PySem.W.findIn K (.ref C) "__ne__" = some (some (.builtin "object.__ne__"))
  ob : PySem.W.mroIn K C (.type "object") = some true
  st : PySem.W.notFirst K C (.type "str") = true
section
variable {pins : List (Addr × Obj)} {s : Shared} {σ : L2.St} {H : Hp} {x y : V} {u v : Value} {Q : VK}
end
end
end MI
namespace MI
open PySem PySem.Spec PyProof.Rows L2
section
variable {prog : Program} {w : World} {A : Around} {E : Value → Shared → Prop} {s : Shared} {K : PySem.W.Frag} {x f C : Addr} {ox : Obj} {od : Option Obj}
end
section
variable {g : Gc} {X : Cx} {CX : CXT} {o e : Expr} {fa : M T} {e1 b1 : List Nat} {p2 pos : Pos} {k : Nat} {C f : Addr} {fd : FuncData} {ps : List Str} {sp : L2.Sp} {E : XK} {c : Cal} {cls : Str}
end
section
variable {X : Cx}
end
section
variable {g : Gc} {X : Cx} {a : Expr} {fa : M T} {e1 b1 : List Nat} {cls : Str}
end
end MI
namespace MI
open PySem PySem.Spec PyProof.Rows L2 He
section
variable {g : Gc} {fl : Str} {X : Cx} {C : Addr} {W : WX} {sts : List Stmt} {f f1 f2 : M T} {a1 a2 e1 e2 : List Nat} {t u : TS}
theorem TXF.more {D : Ends} {σ : L2.St} {H : Hp} (ha : ∀ i ∈ a1, i ∈ a2) (he : ∀ i ∈ e1, i ∈ e2) {Ts : List T} {S : Addr → Prop} {A : Nat → List Addr} {r : T × List T} (R : SR g S H σ Ts A) (q : f Ts = some r)
    (k : ∀ σ' H' S' A' v dd, (∀ i, i ∉ a2 → σ'[i]? = σ[i]?) → SR g S' H' σ' r.2 A' → Po S H A S' H' A' → Stb e2 H Ts A H' r.2 A' → Rp g S' H' r.1 v [] → H' dd = some (.xd [(fl, v)]) → W (.ref C) (some dd) σ' H') : TXF g fl f a1 e1 C W D σ H :=
  ⟨S, Ts, A, r.1, r.2, R, q, fun σ' H' S' A' v dd hσ R' p s rp xd => k σ' H' S' A' v dd (fun i hi => hσ i fun z => hi (ha i z)) R' p (s.mono he) rp xd⟩
end
section
variable {g : Gc} {fl : Str} {X : Cx} {C : Addr} {W : WX} {tg iter : Expr} {body : List Stmt} {mi : M (List T)} {m : T → M Unit} {f : M Fl} {fx : M T} {a1 a2 a3 e1 e2 e3 b1 : List Nat} {pos : Pos}
end
end MI
namespace MI
open PySem PySem.Spec PyProof.Rows L2 He
def HasE (i : Nat) (a : Addr) (d : Option Addr) (σ : L2.St) (H : Hp) : Prop := σ[i]? = some (some (.ref a)) ∧ ∀ dd, d = some dd → ∃ fs, H dd = some (.xd fs)
section
variable {X : Cx} {C a : Addr} {d : Option Addr} {oe : Obj} {n x fl : Str} {i : Nat} {b : Bool} {c : Value} {p p2 p3 pos : Pos} {pins : List (Addr × Obj)} {σ : L2.St} {H : Hp} {s : Shared}
end
def Held (g : Gc) (fo : Str → Str) (i : Nat) (a : Addr) (c : Str) (d : Option Addr) (o : Option T) : Bes := fun σ S H => σ[i]? = some (some (.ref a)) ∧ Thing g fo c o d S H
section
variable {g : Gc} {fo : Str → Str} {i : Nat} {a : Addr} {c : Str} {d : Option Addr} {o : Option T} {σ σ' : L2.St} {S S' : Addr → Prop} {H H' : Hp} {Ts : List T} {A A' : Nat → List Addr}
theorem Held.has (h : Held g fo i a c d o σ S H) : HasE i a d σ H := ⟨h.1, fun dd e => by
  cases o with
  | none => exact nomatch h.2.symm.trans e
  | some t =>
    obtain ⟨d', v, ed, xd, _⟩ := h.2
    obtain rfl : d' = dd := Option.some.inj (ed.symm.trans e)
    exact ⟨_, xd⟩⟩
end
section
variable {g : Gc} {fo : Str → Str} {X : Cx} {i : Nat} {a : Addr} {c : Str} {d : Option Addr} {o : Option T} {e : Expr} {b : Bool} {P : Bes}
end
section
variable {g : Gc} {P : Bes} {X : Cx} {st : Stmt} {rest s1 s2 : List Stmt} {f f1 f2 : M Fl} {fa : M T} {fs : M (List T)} {e c a b : Expr} {a1 a2 e1 e2 b1 : List Nat} {pos p p2 : Pos} {x y : Str} {i j : Nat}
end
end MI
namespace MI
open PySem PySem.Spec PyProof.Rows L2 He
section
variable {g : Gc} {fo : Str → Str} {X : Cx} {i : Nat} {a : Addr} {c : Str} {d : Option Addr} {o : Option T} {r : T} {sts : List Stmt} {m : M Fl} {asg eff : List Nat} {len : Nat}
end
structure FnE (P : Program) (w : World) (K : PySem.W.Frag) (mg : Str → Option Value) (base : Heap) (k : Nat) (f : Addr) (fd : FuncData) (n : Str) (g : Gc) (fo : Str → Str) (c : Str) (hs : Option T → Option T) : Prop where
  run : ∀ (A : Around) (outer : List Env) (s : Shared) (H : Hp) (Q : VK) (a : Addr) (oe : Obj) (d : Option Addr) (o : Option T) (r : T) (S : Addr → Prop), GA A → L2H.RoomH k A → L2H.PinOk outer H s (a, oe) → Zc (.ref (g.cl c)) d oe → (∃ vs, oe.data = .fields vs) →
    Env0 P w K mg base A outer s H → BindsTo s fd ⟨[.ref a], []⟩ ([n].zip [.ref a]) → Thing g fo c o d S H → StT g S H → hs o = some r →
    (∀ x H' S' Ax, Rp g S' H' r x Ax → Ax.Nodup → (∀ a ∈ Ax, ¬ S' a) → StT g S' H' → PoF S H [] S' H' Ax → Q x H') →
    codeAny (model P w) A (.call (.ref f) ⟨[.ref a], []⟩) (CR CX0 outer P w H s Q E0) s
theorem FnE.mono {P : Program} {w : World} {K : PySem.W.Frag} {mg : Str → Option Value} {base : Heap} {j k : Nat} {f : Addr} {fd : FuncData} {n : Str} {g : Gc} {fo : Str → Str} {c : Str} {hs : Option T → Option T} (F : FnE P w K mg base j f fd n g fo c hs) (h : j ≤ k) : FnE P w K mg base k f fd n g fo c hs :=
  ⟨fun A outer s H Q a oe d o r S hG hr => F.run A outer s H Q a oe d o r S hG (hr.mono h)⟩
section
variable {P : Program} {w : World} {K : PySem.W.Frag} {mg : Str → Option Value} {base : Heap} {x qual n c : Str} {params : Arguments} {body : List Stmt} {scope : Scope} {f : Addr} {fd : FuncData} {N : List Str} {k : Nat} {g : Gc} {fo : Str → Str} {hs : Option T → Option T}
end
section
variable {g : Gc} {fo : Str → Str} {X : Cx} {i k : Nat} {a f : Addr} {oe : Obj} {c x n nm : Str} {d : Option Addr} {o : Option T} {r : T} {fd : FuncData} {hs : Option T → Option T} {q p2 pos p1 : Pos}
end
section
variable {g : Gc} {fo : Str → Str} {X : Cx} {i : Nat} {n : Str} {t : Expr} {f : Value → Option Bool} {b₀ : Stmt} {suite : List Stmt} {hds : List ExceptHandler} {w : WE} {pos : Pos} {hE : Str → Option T → Option T}
end
section
variable {gc : Gc} {fo : Str → Str} {X : Cx} {Ng : List Str} {x a y q : Str} {sg : Scope} {g : Addr} {cdg : Value} {j len : Nat} {h₀ : ExceptHandler} {hds : List ExceptHandler} {hE : Str → Option T → Option T} {m3 : M T} {e3 : Expr} {e3e : List Nat} {p1 p2 p3 p4 p8 p10 : Pos}
end
end MI
namespace MI
open PySem PySem.Spec PyProof.Rows L2 He
section
variable {X : Cx} {k : Nat} {f C : Addr} {fd : FuncData} {ps ks : List Str} {π : List Nat} {sp : L2.Sp} {W : WX} {x m : Str} {p pos apos : Pos} {o e : Expr} {es : List Expr} {kws : List Keyword} {ta : TE} {t tz : TA}
end
section
variable {g : Gc} {fl : Str} {X : Cx} {k : Nat} {f : Addr} {fd : FuncData} {ps ks : List Str} {π : List Nat} {W : WX} {C : Addr} {cx : List T → Option T} {x m cls : Str} {p pos apos spos : Pos} {o e tg : Expr} {es : List Expr} {kws : List Keyword} {fs : M (List T)} {fa fx : M T} {e1 e2 b1 bo eff : List Nat} {ln : List (Option Nat)}
end
end MI
namespace MI
open PySem PySem.Spec PyProof.Rows L2 He
structure OexA (K : PySem.W.Frag) (C : Addr) (fl : Str) (bmB : List Value) (newId : String) : Prop where
  new_ : PySem.W.excInitIn K C bmB newId = true
  over : PySem.W.excOver K C bmB = true
  sa : PySem.W.findIn K (.ref C) "__setattr__" = some (some (.builtin "object.__setattr__"))
  tak : PySem.W.takerIn K C fl = some none
  hd : PySem.W.hasDictIn K C = true
  exC : PySem.W.subIn K (.ref C) (.type "BaseException") = some true
  tyC : PySem.W.typeIn K (.ref C) = some (.type "type")
  kC : PySem.W.keepIn K (.ref C) = true
section
variable {X : Cx} {pins : List (Addr × Obj)} {σ : L2.St} {H : Hp} {s : Shared} {a C : Addr} {f : Str} {y : V} {u : Value} {Q : Unit → Shared → Prop} {E : Value → Shared → Prop} {A : Around} {B newId : String} {bmB : List Value}
theorem ost_any (SF : StoreFacts B bmB "object.__setattr__" "object") (T : OexA X.K C f bmB newId) (I : Inv X pins σ H s) (e : H a = some (exo a C none)) (ry : RelV y u)
    (h : ∀ dx s', H dx = none → dx ≠ a → Inv X pins σ (upd (upd H dx (exd dx [(f, y)])) a (exo a C (some dx))) s' → Q () s') : wpAny (model X.prog X.w) A (setAttr (.ref a) f u) Q E s := by
  obtain ⟨t1, ho⟩ := exo_at I.hok e
  have na : H s.heap.objs.size = none := I.hok.fresh Nat.le.refl
  have ne : s.heap.objs.size ≠ a := fun z => by rw [z, e] at na; cases na
  obtain ⟨cd, hc, hd'⟩ := PySem.W.any_some T.hd
  refine PySem.W.set_plain I.kIn (ox := PySem.W.excObj C t1 none .none) (od := none) ⟨ho, rfl, rfl, trivial⟩ T.sa ?_
  refine PySem.W.osa_openX (od := none) SF I.kIn ⟨ho, rfl, rfl, trivial⟩ T.over T.tak fun b => ?_
  refine wpAny_bind (wpAny_pure (wpAny_bind (PySem.W.instanceDict_exc ho (PySem.W.looks_clsIn I.kIn hc) hd' ?_)))
  have J1 : Inv X pins σ (upd H s.heap.objs.size (exd s.heap.objs.size [])) { s with heap := s.heap.push { cls := .type "dict", data := .dict #[] } } :=
    I.laid (t' := s.toks) (fun b o q => Heap.get?_push_of_some _ q) Nat.le.refl (exd_ok (mA := fun _ => none) (Heap.Ns1.of_empty ⟨_, #[], _, Heap.get?_push_size _ rfl, rfl, fun e he => absurd he (by simp), fun _ => rfl⟩) fun _ => True.intro)
  have o2 : (s.heap.push { cls := .type "dict", data := .dict #[] }).get? a = some (PySem.W.excObj C t1 none .none) := Heap.get?_push_of_some _ ho
  have g2 := Heap.get?_update_self (fun o : Obj => { o with dict := some s.heap.objs.size }) o2 rfl
  have J2 : Inv X pins σ (upd (upd H s.heap.objs.size (exd s.heap.objs.size [])) a (exo a C (some s.heap.objs.size))) { s with heap := (s.heap.push { cls := .type "dict", data := .dict #[] }).update a fun o => { o with dict := some s.heap.objs.size } } :=
    J1.write (t' := s.toks) (x := a) (e := a) (by rw [upd_ne (Ne.symm ne), e]; exact True.intro) (.inl rfl) (fun b o nb q => (Heap.get?_update_other _ _ (Ne.symm nb)).trans q) ⟨_, g2⟩ (exo_ok g2)
  have at_ : (upd (upd H s.heap.objs.size (exd s.heap.objs.size [])) a (exo a C (some s.heap.objs.size))) s.heap.objs.size = some (exd s.heap.objs.size []) := by rw [upd_ne ne, upd_same]
  obtain ⟨mA, ns, rel⟩ := exd_at J2.hok at_
  have none_ : ∀ g, mA g = none := fun g => by
    have := rel g
    cases q : mA g with
    | none => rfl
    | some u => rw [q] at this; exact this.elim
  obtain ⟨hp, gn, dr, tk, os⟩ := s
  refine PySem.OEX.store_in_old ns (within_of rel) (by simp) fun h' tk' hn sb => ?_
  have J3 := J2.write (t' := tk') (x := hp.objs.size) (e := hp.objs.size) (o := exd hp.objs.size [(f, y)]) (by rw [at_]; exact True.intro) (.inl rfl) (fun b o nb q => (sb.2 b nb).trans q)
    (by obtain ⟨o, _, _, e', _⟩ := hn; exact ⟨o, e'⟩) (exd_ok hn (relO_put (fs := []) ry rel))
  refine h hp.objs.size _ na ne ?_
  have eH : upd (upd (upd H hp.objs.size (exd hp.objs.size [])) a (exo a C (some hp.objs.size))) hp.objs.size (exd hp.objs.size [(f, y)]) = upd (upd H hp.objs.size (exd hp.objs.size [(f, y)])) a (exo a C (some hp.objs.size)) := by
    funext b
    unfold upd
    by_cases h1 : b = hp.objs.size
    · subst h1
      rw [if_pos rfl, if_neg ne, if_pos rfl]
    · rw [if_neg h1]
      split
      · rfl
      · first | rfl | rw [if_neg h1, if_neg h1]
  rw [eH] at J3
  exact J3
theorem ps_ostA {o e : Expr} {to te : TE} {p' pos : Pos} (SF : StoreFacts B bmB "object.__setattr__" "object") (T : OexA X.K C f bmB newId) (ho : PE X o to) (he : PE X e te) (hs : swapsWith e (some (.Attribute o f p')) pos.line X.env = pure false := by rfl) :
    PS X (.Assign [.Attribute o f p'] e pos) (fun D σ H => te σ H fun y H1 => to σ H1 fun x H2 => ∃ a : Addr, x = .ref a ∧ H2 a = some (exo a C none) ∧ ∀ dx, H2 dx = none → dx ≠ a → D.nx σ (upd (upd H2 dx (exd dx [(f, y)])) a (exo a C (some dx)))) := by
  refine ⟨fun pins s σ H D I h => plainObj_wpAny_Assign_Attribute (thn (he.run pins s σ H _ I h) fun v s1 b1 => ?_) hs⟩
  obtain ⟨y, H1, I1, r1, q1⟩ := b1
  refine thn (ho.run pins s1 σ H1 _ I1 q1) fun u s2 b2 => ?_
  obtain ⟨x, H2, I2, r2, a, ex, ea, q⟩ := b2
  subst ex
  obtain rfl : u = Value.ref a := r2
  exact ost_any SF T I2 ea r1 fun dx s' n ne J => ⟨σ, _, J, q dx n ne⟩
end
section
variable {P : Program} {w : World} {K : PySem.W.Frag} {mg : Str → Option Value} {base : Heap} {x qual : Str} {params : Arguments} {body : List Stmt} {scope : Scope} {dvs : List V} {kws : List (Str × V)} {fa C : Addr} {fd : FuncData} {CX : CXT} {B newId : String} {bmB : List Value}
theorem fn_initA {s0 s1 fl : Str} {k : Nat} {p1 p2 p3 p4 : Pos} (F : FunD K x qual params body scope dvs kws fa fd) (S : FnScope [s0, s1] [s0, s1] scope) (SF : StoreFacts B bmB "object.__setattr__" "object") (T : OexA K C fl bmB newId)
    (hb : body = [.Assign [.Attribute (.Name s0 p1) fl p2] (.Name s1 p3) p4]) (v0 : Vis scope s0) (v1 : Vis scope s1)
    (d0 : (s0 == ("__debug__" : Str)) = false := by decide) (d1 : (s1 == ("__debug__" : Str)) = false := by decide) (c0 : (s0 == ("__classdict__" : Str)) = false := by decide) (c1 : (s1 == ("__classdict__" : Str)) = false := by decide) :
    FnOk P w K mg base CX (k + 1) fa fd [s0, s1] (spS fl C) :=
  FunD.ok F S (fun vs H Q E ⟨a, v, e, _⟩ => by rw [e]; rfl) fun cdv A outer s H vs Q E hr ⟨a, v, e, ha, q⟩ => by
    subst e; subst hb
    exact ⟨_, pss_one (ps_ostA (X := cxOf CX P w K mg base [s0, s1] qual scope fa cdv A outer s H E) SF T (pe_var (i := 0) rfl v0 d0 c0) (pe_var (i := 1) rfl v1 d1 c1)), v, rfl, .ref a, rfl, a, rfl, ha, fun d hn hne => q d hn hne⟩
end
section
variable {X : Cx} {e : Expr} {ta : TA} {p pos : Pos} {B newId initId : String} {bmB : List Value} {W : WX}
end
section
variable {g : Gc} {fl : Str} {X : Cx} {C : Addr} {W : WX} {e : Expr} {pos : Pos} {fs : M (List T)} {e1 b1 : List Nat}
end
theorem oexA_ok {c fl : Str} {bmB : List Value} {newId : String} {K : PySem.W.Frag} (h : oexA c fl bmB newId K = true) : OexA K (ga K c) fl bmB newId := by
  obtain ⟨h1, h⟩ := ba h
  obtain ⟨h2, h⟩ := ba h
  obtain ⟨h3, h⟩ := ba h
  obtain ⟨h4, h⟩ := ba h
  obtain ⟨h5, h⟩ := ba h
  obtain ⟨h6, h⟩ := ba h
  obtain ⟨h7, h8⟩ := ba h
  refine ⟨h1, h2, eqO_ok h3, ?_, h5, of_decide_eq_true h6, ?_, h8⟩
  · split at h4
    · rename_i e
      exact e
    · cases h4
  · split at h7
    · rename_i t e
      rw [e, of_decide_eq_true h7]
    · cases h7
end MI
namespace MI
open PySem PySem.Spec PyProof.Rows L2 He
def tExV (C : Addr) (fl : Str) (ta : TA) : TE := fun σ H Q => ta σ H fun vs H1 => ∃ y, vs = [y] ∧ ∀ a d, H1 a = none → H1 d = none → d ≠ a → Q (.ref a) (upd (upd H1 d (exd d [(fl, y)])) a (exo a C (some d)))
section
variable {X : Cx} {e : Expr} {ta : TA} {x fl : Str} {p pos : Pos} {B newId initId : String} {bmB : List Value} {C fI : Addr} {k : Nat} {fd : FuncData} {ps : List Str} {kws : List Keyword}
theorem exv_heap {H1 : Hp} {a d C : Addr} {o : HO} (n : d ≠ a) : upd (upd (upd H1 a (exo a C none)) d o) a (exo a C (some d)) = upd (upd H1 d o) a (exo a C (some d)) := by
  funext b
  by_cases ea : b = a
  · rw [ea, upd_same, upd_same]
  · rw [upd_ne ea, upd_ne ea]
    by_cases ed : b = d
    · rw [ed, upd_same, upd_same]
    · rw [upd_ne ed, upd_ne ed, upd_ne ea]
theorem exv_run {pins : List (Addr × Obj)} {σ : L2.St} {H1 : Hp} {hp : Heap} {gn : Array GenState} {dr : Drawn} {tk : Nat} {os : OsState} {tp us ws : List Value} {kw : List (Str × Value)} {y : V} {Q : VK} (F : FnOk X.prog X.w X.K X.mg X.base CX0 k fI fd ps (spS fl C)) (hr : Room (k + 1) X.A)
    (hb : ∀ (s : Shared) (a : Addr), X.K.In s.heap → BindsTo s fd ⟨.ref a :: us, kw⟩ (ps.zip (.ref a :: ws))) (I1 : Inv X pins σ H1 ⟨hp, gn, dr, tk, os⟩) (rel : Vals [y] ws)
    (says : ∀ a d, H1 a = none → H1 d = none → d ≠ a → Q (.ref a) (upd (upd H1 d (exd d [(fl, y)])) a (exo a C (some d)))) :
    codeAny (model X.prog X.w) (X.A.under (.builtin "type.__call__" ⟨.ref C :: us, kw⟩)) (.call (.ref fI) ⟨.ref (hp.objs.size + 1) :: us, kw⟩) (PySem.W.InitBack (hp.objs.size + 1) fun r s' => match r with
      | .ok (.ret v) => EP X pins σ Q v s'
      | .ok _ => False
      | .error e => X.xe e s') ⟨(hp.push (PySem.W.kdv_tup tp)).push (PySem.HandSPX.excO C hp.objs.size), gn, dr, tk, os⟩ := by
  have up : hp.objs.size ≤ hp.objs.size + 1 := Nat.le_succ _
  have na : H1 (hp.objs.size + 1) = none := I1.hok.fresh up
  have stay : ∀ b o, hp.get? b = some o → ((hp.push (PySem.W.kdv_tup tp)).push (PySem.HandSPX.excO C hp.objs.size)).get? b = some o := fun b o z => Heap.get?_push_of_some _ (Heap.get?_push_of_some _ z)
  have I2 : Inv X pins σ (upd H1 (hp.objs.size + 1) (exo (hp.objs.size + 1) C none)) ⟨(hp.push (PySem.W.kdv_tup tp)).push (PySem.HandSPX.excO C hp.objs.size), gn, dr, tk, os⟩ :=
    I1.laid (t' := tk) (a := hp.objs.size + 1) stay up (exo_ok (by heap_get))
  refine codeAny_mono (F.run _ X.stack _ _ ⟨Value.ref (hp.objs.size + 1) :: us, kw⟩ (Value.ref (hp.objs.size + 1) :: ws) (V.ref (hp.objs.size + 1) :: [y]) (fun v H2 => v = .non ∧ Q (.ref (hp.objs.size + 1)) H2) (fun _ _ _ => False) (hr.make C us kw) (I2.env0.make C us kw)
    (hb _ _ I2.kIn) (.cons rfl rel) ⟨hp.objs.size + 1, y, rfl, upd_same, fun d nd ne => ⟨rfl, ?_⟩⟩) fun r s' c => ?_
  · rw [exv_heap ne]
    exact says _ d na (by rw [← nd, upd_ne ne]) ne
  · match r, c with
    | .ok (.ret u), c =>
      obtain ⟨v, H', I3, rv, ev, q⟩ := I2.after c
      subst ev
      exact ⟨rv, ⟨V.ref (hp.objs.size + 1), H', I3, rfl, q⟩⟩
    | .error _, c => exact False.elim c
    | .ok .next, c => exact False.elim c
    | .ok .brk, c => exact False.elim c
    | .ok .cont, c => exact False.elim c
theorem pe_exv (FB : ExcBaseFacts B newId initId bmB) (T : OexA X.K C fl bmB newId) (iC : PySem.W.findIn X.K (.ref C) "__init__" = some (some (.ref fI))) (tI : PySem.W.typeIn X.K (.ref fI) = some (.type "function"))
    (F : FnOk X.prog X.w X.K X.mg X.base CX0 k fI fd ps (spS fl C)) (hr : Room (k + 1) X.A) (hb : Binds X.K fd ps []) (hl : ps.length = 2) (hm : X.mg x = some (.ref C)) (ha : PA X [e] ta) (hg : Gl X x := by rfl)
    (hdb : (x == ("__debug__" : Str)) = false := by decide) (he : starEach [e] X.env = (false, eval e X.env) :: starEach [] X.env := by rfl) (hpl : (backTo pos (starEach [] X.env)).any (·.1) = false := by rfl) :
    PE X (.Call (.Name x p) [e] [] pos) (tExV C fl ta) := ⟨fun pins s σ H Q I h => by
  refine wpAny_Call_Name_kw (ld_glob I hg hm (PySem.W.callWith_K (h₀ := X.base) I.ok.mod.kin T.kC (thn (ha.run pos pins s σ H _ I h) fun us s1 b => ?_) he hpl) hdb)
  obtain ⟨vs, H1, I1, rel, y, ev, says⟩ := b
  subst ev
  obtain ⟨nm, N, qn, bs, bm, hdct, sn, sub, ab, col, dd, k0, k1, k2, k3, k5, hC, hT⟩ := PySem.W.excInit_of I1.kIn T.new_
  obtain ⟨hp, gn, dr, tk, os⟩ := s1
  have ul : us.length = 1 := rel.length.symm
  refine ⟨I1.kIn, wpAny_call (PySem.HandSPX.call_own FB hT hC (PySem.W.looks_findIn I1.kIn iC) (fun self => PySem.W.bind_fn I1.kIn self tI) (by rw [List.nil_append, ul, sizeLine_eq]; omega) (codeAny_mono (exv_run F hr (fun s a ki => ?_) I1 rel says) fun r s' c => ?_))⟩
  · have z := hb s (.ref a :: us) ki (by rw [List.append_nil, List.length_cons, ul, hl])
    rw [List.append_nil] at z
    exact z
  · match r, c with
    | .ok (.ret _), c => exact c
    | .error _, c => exact c
    | .ok .next, c => exact c
    | .ok .brk, c => exact c
    | .ok .cont, c => exact c⟩
theorem pe_exvK (FB : ExcBaseFacts B newId initId bmB) (T : OexA X.K C fl bmB newId) (iC : PySem.W.findIn X.K (.ref C) "__init__" = some (some (.ref fI))) (tI : PySem.W.typeIn X.K (.ref fI) = some (.type "function"))
    (F : FnOk X.prog X.w X.K X.mg X.base CX0 k fI fd ps (spS fl C)) (hr : Room (k + 1) X.A) (hb : KwB X.K fd ps 1) (hl : ps.length = 2) (hm : X.mg x = some (.ref C)) (hkw : PK X kws ta) (hg : Gl X x := by rfl)
    (hall : (backToKw pos (keywordEach kws X.env)).all (·.1.isSome) = true := by rfl) (hks : (backToKw pos (keywordEach kws X.env)).filterMap (·.1) = ps.drop 1 := by rfl) (hdb : (x == ("__debug__" : Str)) = false := by decide)
    (hpl : ((backTo pos (starEach [] X.env)).any (·.1) || (backToKw pos (keywordEach kws X.env)).any (·.1.isNone)) = false := by rfl) :
    PE X (.Call (.Name x p) [] kws pos) (tExV C fl ta) := ⟨fun pins s σ H Q I h => by
  refine wpAny_Call_Name_kw (ld_glob I hg hm ?_ hdb)
  refine PySem.W.callWith_KW0 (h₀ := X.base) I.ok.mod.kin T.kC hall (thn (hkw.run pos pins s σ H _ I h) fun ws s1 b => ?_) hpl
  obtain ⟨vs, H1, I1, rel, y, ev, says⟩ := b
  subst ev
  rw [hks]
  obtain ⟨nm, N, qn, bs, bm, hdct, sn, sub, ab, col, dd, k0, k1, k2, k3, k5, hC, hT⟩ := PySem.W.excInit_of I1.kIn T.new_
  obtain ⟨hp, gn, dr, tk, os⟩ := s1
  have ul : ws.length = 1 := rel.length.symm
  refine ⟨I1.kIn, wpAny_call (kx_make FB hT hC (PySem.W.looks_findIn I1.kIn iC) (fun self => PySem.W.bind_fn I1.kIn self tI) (codeAny_mono (exv_run (us := []) F hr (fun s a ki => ?_) I1 rel says) fun r s' c => ?_))⟩
  · exact hb s [.ref a] ws ki rfl (by rw [List.length_append, ul, hl]; rfl)
  · match r, c with
    | .ok (.ret _), c => exact c
    | .error _, c => exact c
    | .ok .next, c => exact c
    | .ok .brk, c => exact c
    | .ok .cont, c => exact c⟩
theorem pe_exv0 (F : ExcBaseFacts B newId initId bmB) (q : PySem.W.excIn X.K C bmB newId = true) (gC : X.mg x = some (.ref C)) (kC : PySem.W.keepIn X.K (.ref C) = true) (hg : Gl X x := by rfl)
    (hdb : (x == ("__debug__" : Str)) = false := by decide) : PE X (.Call (.Name x p) [] [] pos) (fun σ H Q => ∀ a, H a = none → Q (.ref a) (upd H a (exo a C none))) := ⟨fun pins s σ H Q I h =>
  wpAny_Call_Name_kw (ld_glob I hg gC (PySem.W.callWith_K0 I.kIn kC (by
    obtain ⟨_, _, _, _, _, _, _, _, _, _, _, _, _, _, _, _, _, hC, hN, hni, T⟩ := exc_obj I.kIn q
    exact wpAny_call_exc_subT F T hC hN hni (fun h' a hm => by
      have n : H a = none := I.hok.gone hm.new
      obtain ⟨t, ht, _⟩ := hm.there
      exact ⟨.ref a, upd H a (exo a C none), I.laidN hm.keeps hm.new n (exo_ok ht), rfl, h a n⟩) (by show 0 ≤ sizeLine; omega))) hdb)⟩
end
section
variable {X : Cx}
theorem exo_inst {pins : List (Addr × Obj)} {σ : L2.St} {H : Hp} {s : Shared} {a C : Addr} {d : Option Addr} (I : Inv X pins σ H s) (e : H a = some (exo a C d)) (hd : ∀ dx, d = some dx → ∃ kvs, H dx = some (exd dx kvs)) : ∃ oe od, PySem.W.InstAt s.heap a oe C od ∧ ∀ dx kvs, d = some dx → H dx = some (exd dx kvs) → ∃ od', od = some od' ∧ ∀ f, ∃ mf, PySem.W.lookIn f od' = some mf ∧ RelO (kvs.lookup f) mf := by
  obtain ⟨t1, ho⟩ := exo_at I.hok e
  cases d with
  | none => exact ⟨_, none, ⟨ho, rfl, rfl, trivial⟩, fun dx kvs z => nomatch z⟩
  | some dx =>
    obtain ⟨kvs, hx⟩ := hd dx rfl
    obtain ⟨mA, hns, hr⟩ := exd_at I.hok hx
    obtain ⟨od, hod, hl⟩ := lookIn_ns hns
    refine ⟨_, some od, ⟨ho, rfl, rfl, hod⟩, fun dx' kvs' z hx' => ?_⟩
    obtain rfl : dx = dx' := Option.some.inj z
    obtain ⟨mB, hnB, hrB⟩ := exd_at I.hok hx'
    obtain ⟨od2, hod2, hl2⟩ := lookIn_ns hnB
    obtain rfl : od = od2 := Option.some.inj (hod.symm.trans hod2)
    exact ⟨od, rfl, fun f => ⟨mB f, hl2 f, hrB f⟩⟩
def rIsV (K : PySem.W.Frag) : List V → Hp → VK → Prop := fun xs H Q => ∃ (a C : Addr) (d : Option Addr) (c : V) (cv : Value) (b : Bool), xs = [.ref a, c] ∧ H a = some (exo a C d) ∧ (∀ dx, d = some dx → ∃ kvs, H dx = some (exd dx kvs)) ∧ ExcC K C ∧ (∀ u, RelV c u → u = cv) ∧ PySem.W.kitOne K (.ref C) cv = some b ∧ Q (.bl b) H
theorem call_isV : CallR X (.builtin "isinstance") (rIsV X.K) := fun pins s σ H xs us Q I r h => by
  obtain ⟨a, C, d, c, cv, b, rfl, e, hd, F, hcv, hk, q⟩ := h
  obtain ⟨u1, u2, rfl, ra, rc⟩ := vals2 r
  obtain rfl : u1 = Value.ref a := ra
  obtain rfl := hcv _ rc
  obtain ⟨oe, od, A, _⟩ := exo_inst I e hd
  exact PySem.W.kia_one (kit_of F) I.kIn A hk (fun z => nomatch z) fun tk => ⟨.bl b, H, I.kept (t' := tk) fun _ _ z => z, rfl, q⟩
theorem pe_xfV {e : Expr} {te : TE} {f : Str} {pos : Pos} (he : PE X e te) (hb : attributeBase e f X.env (eval e X.env) = eval e X.env := by rfl) :
    PE X (.Attribute e f pos) (fun σ H Q => te σ H fun x H1 => ∃ (a C dx : Addr) (kvs : List (Str × V)) (v : V), x = .ref a ∧ H1 a = some (exo a C (some dx)) ∧ H1 dx = some (exd dx kvs) ∧ XfC X.K C ∧ PySem.W.findIn X.K (.ref C) f = some none ∧ kvs.lookup f = some v ∧ Q v H1) := ⟨fun pins s σ H Q I h => by
  refine attr_of hb (thn (he.run pins s σ H _ I h) fun u s1 ⟨x, H1, J, rx, a, C, dx, kvs, v, ex, e1, e2, F, no, l, q⟩ => ?_)
  subst ex
  obtain rfl : u = Value.ref a := rx
  obtain ⟨oe, od, A, hh⟩ := exo_inst J e1 fun dx' z => by
    cases z
    exact ⟨kvs, e2⟩
  obtain ⟨od', rfl, hf⟩ := hh dx kvs rfl e2
  obtain ⟨mf, hl, hr⟩ := hf f
  rw [l] at hr
  obtain ⟨w, hw, rw_⟩ := RelO.some_of (v := v) (o := mf) hr
  exact HandSPX.exc_get J.kIn A F.ga F.gg F.exC (PySem.W.findObj_own F.hdC no rfl (by rw [hl, hw])) (handed_of rw_) ⟨v, H1, J.tok _, rw_, q⟩⟩
end
section
variable {g : Gc} {S : Addr → Prop} {H H1 : Hp} {σ : L2.St} {Ts : List T} {A : Nat → List Addr} {D : Addr → Prop}
theorem SR.moreS (R : SR g S H σ Ts A) (hD : ∀ a, D a → (∃ o, H a = some o ∧ ∀ ps, o ≠ .tbl ps) ∧ ∀ i, a ∉ A i) : SR g (fun a => S a ∨ D a) H σ Ts A where
  rep := fun i => (R.rep i).imp (fun h => h) fun ⟨x, e, r⟩ => ⟨x, e, Rp.keep (M := fun _ => False) (fun a o h _ => h) (fun _ h => h.elim) (fun _ _ h => h) (fun _ h => .inl h) _ _ _ r fun _ _ h => h⟩
  nd := R.nd
  dj := R.dj
  ns := fun i a ha h => h.elim (R.ns i a ha) fun d => (hD a d).2 i ha
  len := R.len
  st := ⟨fun a h => h.elim (R.st.st a) fun d => (hD a d).1, R.st.tb⟩
theorem SR.notInS {a : Addr} (R : SR g S H σ Ts A) (n : H a = Option.none) (i : Nat) : a ∉ A i := fun h => by
  have m := R.cells i a h
  rw [n] at m
  exact m
end
def mExV (c fl : Str) (fs : M (List T)) : M T := bnd fs fun ts => match ts with
  | [t] => if t.imm then ret (.nd (.exc c [fl]) [t]) else fun _ => none
  | _ => fun _ => none
def mExN (c : Str) : M T := ret (.nd (.exc c []) [])
def fIsX (mk tb : List Str) (t : T) : Option T := match t with
  | .nd (.exc c _) _ => if mk.contains c then some (.bl (tb.contains c)) else none
  | _ => none
def fFldX (mk : List Str) (fl : Str) (t : T) : Option T := match t with
  | .nd (.exc c [f]) [v] => if f = fl ∧ mk.contains c then some v else none
  | _ => none
section
variable {g : Gc} {X : Cx} {a e : Expr} {fa : M T} {fs : M (List T)} {e1 b1 : List Nat} {x c fl : Str} {p p2 p3 pos : Pos} {B newId initId : String} {bmB : List Value} {fI : Addr} {k : Nat} {fd : FuncData} {ps : List Str} {kws : List Keyword}
theorem RpC.rpl {S : Addr → Prop} {H : Hp} {σ : L2.St} : ∀ (ln : List (Option Nat)) {ts : List T} {xs : List V} {Al Ab : List Addr}, allN ln = true → RpC g S H σ ln ts xs Al Ab → RpL g S H ts xs Ab
  | [], _, _, _, _, _, r => by
    obtain ⟨rfl, rfl, rfl, rfl⟩ := r
    exact ⟨rfl, rfl⟩
  | Option.none :: ln, _, _, _, _, h, r => by
    obtain ⟨t, ts', x, xs', B, Ab', rfl, rfl, rfl, r1, r2⟩ := r
    exact ⟨x, xs', B, Ab', rfl, rfl, r1, RpC.rpl ln (by simpa [allN] using h) r2⟩
  | some _ :: _, _, _, _, _, h, _ => by simp [allN] at h
theorem exv_in {σ : L2.St} {H H1 : Hp} {Q : VK} {S S1 : Addr → Prop} {Ts Ts1 Ts' : List T} {A A1 : Nat → List Addr} {ts : List T} {xs : List V} {Ax : List Addr} {t : T}
    (q2 : (match ts with
      | [t] => if t.imm then ret (.nd (.exc c [fl]) [t]) else fun _ => none
      | _ => fun _ => none : M T) Ts1 = some (t, Ts'))
    (kk : ∀ x H' S' A' Ax, SR g S' H' σ Ts' A' → Rp g S' H' t x Ax → Ow [] H A S' A' Ax → Po S H A S' H' A' → Stb e1 H Ts A H' Ts' A' → Q x H') (R1 : SR g S1 H1 σ Ts1 A1) (rl : RpL g S1 H1 ts xs Ax) (p1 : Po S H A S1 H1 A1) (s1 : Stb e1 H Ts A H1 Ts1 A1) :
    ∃ y, xs = [y] ∧ ∀ a d, H1 a = none → H1 d = none → d ≠ a → Q (.ref a) (upd (upd H1 d (exd d [(fl, y)])) a (exo a (g.cl c) (some d))) := by
  split at q2
  · rename_i t0
    split at q2
    · rename_i im
      have q2 : some (T.nd (.exc c [fl]) [t0], Ts1) = some (t, Ts') := q2
      injection q2 with q2
      injection q2 with z1 z2
      subst z1; subst z2
      obtain ⟨y, ys, B1, B2, ex, eB, r1, r2⟩ := rl
      obtain ⟨rfl, rfl⟩ := r2
      subst ex
      have rn : B1 = [] := Rp.imm_nil _ _ _ r1 im
      subst rn
      refine ⟨y, rfl, fun a d na nd ne => ?_⟩
      have na' : (upd H1 d (exd d [(fl, y)])) a = none := by rw [upd_ne (Ne.symm ne)]; exact na
      have ext : Ext H1 (upd (upd H1 d (exd d [(fl, y)])) a (exo a (g.cl c) (some d))) := (upd_ext nd (by intro _ z; cases z)).trans (upd_ext na' (by intro _ z; cases z))
      have at_a : (upd (upd H1 d (exd d [(fl, y)])) a (exo a (g.cl c) (some d))) a = some (exo a (g.cl c) (some d)) := upd_same
      have at_d : (upd (upd H1 d (exd d [(fl, y)])) a (exo a (g.cl c) (some d))) d = some (exd d [(fl, y)]) := by rw [upd_ne ne, upd_same]
      refine kk (.ref a) _ (fun b => S1 b ∨ (b = a ∨ b = d)) A1 [] ((R1.ext ext).moreS fun b hb => ?_) ⟨a, [y], [], rfl, ⟨⟨some d, at_a, .inr ⟨d, rfl, at_d, .inr (.inr rfl)⟩⟩, rfl, .inr (.inl rfl)⟩, rfl, .inr (.inr rfl), y, [], [], [], rfl, rfl, ?_, rfl, rfl⟩ Ow.nil ⟨fun b o h n => ?_, fun b h => .inl (p1.sub b h), fun b h => ?_, p1.anew⟩ ((s1.trans (Stb.ext (eff := []) (Ts := Ts1) (A := A1) ext)).mono fun j hj => by simpa using hj)
      · rcases hb with rfl | rfl
        · exact ⟨⟨_, at_a, (fun _ z => nomatch z)⟩, R1.notInS na⟩
        · exact ⟨⟨_, at_d, (fun _ z => nomatch z)⟩, R1.notInS nd⟩
      · exact Rp.keep (M := fun _ => False) (fun a o h _ => h) (fun _ h => h.elim) (fun _ _ h => h) (fun _ h => .inl h) _ _ _ (r1.ext ext) fun _ _ h => h
      · exact fix_trans (p1.keep b o h n) fun eu nt => fix_of (ext b o eu)
      · have fresh : ∀ z, H1 z = none → (∃ i, z ∈ A i) ∨ noT (H z) = none := fun z hz => by
          cases ez : H z with
          | none => exact .inr rfl
          | some o =>
            by_cases hj : ∃ j, z ∈ A j
            · exact .inl hj
            · exact .inr (ez ▸ fix_back (noT_none hz) ez (p1.keep z o ez fun i hi => hj ⟨i, hi⟩))
        rcases h with h | rfl | rfl
        · exact p1.snew b h
        · exact .inr (fresh _ na)
        · exact .inr (fresh _ nd)
    · cases q2
  · cases q2
theorem exv_r {σ : L2.St} {H : Hp} {Q : VK} (h : TM g (mExV c fl fs) e1 [] σ H Q) : tExV (g.cl c) fl (TMs g fs e1 b1) σ H Q := by
  obtain ⟨S, Ts, A, t, Ts', R, q, kk⟩ := h
  obtain ⟨ts, Ts1, q1, q2⟩ := bnd_some q
  exact ⟨S, Ts, A, ts, Ts1, R, q1, fun xs H1 S1 A1 Ax R1 rl _ p1 s1 => exv_in q2 kk R1 rl p1 s1⟩
theorem exv_rK {σ : L2.St} {H : Hp} {Q : VK} {ln : List (Option Nat)} (hn : allN ln = true) (h : TM g (mExV c fl fs) e1 [] σ H Q) : tExV (g.cl c) fl (TMc g fs e1 b1 ln) σ H Q := by
  obtain ⟨S, Ts, A, t, Ts', R, q, kk⟩ := h
  obtain ⟨ts, Ts1, q1, q2⟩ := bnd_some q
  exact ⟨S, Ts, A, ts, Ts1, R, q1, fun xs H1 S1 A1 Al Ab R1 rc _ _ _ p1 s1 => exv_in q2 kk R1 (RpC.rpl ln hn rc) p1 s1⟩
theorem tm_exV (FB : ExcBaseFacts B newId initId bmB) (T : OexA X.K (g.cl c) fl bmB newId) (iC : PySem.W.findIn X.K (.ref (g.cl c)) "__init__" = some (some (.ref fI))) (tI : PySem.W.typeIn X.K (.ref fI) = some (.type "function"))
    (F : FnOk X.prog X.w X.K X.mg X.base CX0 k fI fd ps (spS fl (g.cl c))) (hr : Room (k + 1) X.A) (hb : Binds X.K fd ps []) (hm : X.mg c = some (.ref (g.cl c))) (ha : PAm g X [e] fs e1 b1) (hl : ps.length = 2 := by rfl) (hg : Gl X c := by rfl)
    (hdb : (c == ("__debug__" : Str)) = false := by decide) (he : starEach [e] X.env = (false, eval e X.env) :: starEach [] X.env := by rfl) (hpl : (backTo pos (starEach [] X.env)).any (·.1) = false := by rfl) :
    PEm g X (.Call (.Name c p) [e] [] pos) (mExV c fl fs) e1 [] := PE.imp (pe_exv FB T iC tI F hr hb hl hm ha hg hdb he hpl) fun σ H Q h => exv_r h
theorem tm_exVK (FB : ExcBaseFacts B newId initId bmB) (T : OexA X.K (g.cl c) fl bmB newId) (iC : PySem.W.findIn X.K (.ref (g.cl c)) "__init__" = some (some (.ref fI))) (tI : PySem.W.typeIn X.K (.ref fI) = some (.type "function"))
    (F : FnOk X.prog X.w X.K X.mg X.base CX0 k fI fd ps (spS fl (g.cl c))) (hr : Room (k + 1) X.A) (hb : KwB X.K fd ps 1) (hm : X.mg c = some (.ref (g.cl c))) {ln : List (Option Nat)} (ha : PKc g X kws fs e1 b1 ln) (hn : allN ln = true := by rfl) (hl : ps.length = 2 := by rfl) (hg : Gl X c := by rfl)
    (hall : (backToKw pos (keywordEach kws X.env)).all (·.1.isSome) = true := by rfl) (hks : (backToKw pos (keywordEach kws X.env)).filterMap (·.1) = ps.drop 1 := by rfl) (hdb : (c == ("__debug__" : Str)) = false := by decide)
    (hpl : ((backTo pos (starEach [] X.env)).any (·.1) || (backToKw pos (keywordEach kws X.env)).any (·.1.isNone)) = false := by rfl) :
    PEm g X (.Call (.Name c p) [] kws pos) (mExV c fl fs) e1 [] := PE.imp (pe_exvK FB T iC tI F hr hb hl hm ha hg hall hks hdb hpl) fun σ H Q h => exv_rK hn h
theorem tm_exN (FB : ExcBaseFacts B newId initId bmB) (q : PySem.W.excIn X.K (g.cl c) bmB newId = true) (kC : PySem.W.keepIn X.K (.ref (g.cl c)) = true) (hm : X.mg c = some (.ref (g.cl c))) (hg : Gl X c := by rfl) (hdb : (c == ("__debug__" : Str)) = false := by decide) :
    PEm g X (.Call (.Name c p) [] [] pos) (mExN c) [] [] := PE.imp (pe_exv0 FB q hm kC hg hdb) fun σ H Q ⟨S, Ts, A, t, Ts', R, q, k⟩ => by
  have q : some (T.nd (.exc c []) [], Ts) = some (t, Ts') := q
  injection q with q
  injection q with z1 z2
  subst z1; subst z2
  intro a na
  have ext : Ext H (upd H a (exo a (g.cl c) none)) := upd_ext na (by intro _ z; cases z)
  refine k (.ref a) _ (fun b => S b ∨ b = a) A [] ((R.ext ext).moreS fun b hb => ?_) ⟨a, [], [], rfl, ⟨⟨none, upd_same, .inl ⟨rfl, rfl⟩⟩, rfl, .inr rfl⟩, rfl, .inr (.inr rfl), rfl, rfl⟩ Ow.nil ⟨fun b o h _ => fix_of (ext b o h), fun b h => .inl h, fun b h => ?_, fun i b h => .inl ⟨i, h⟩⟩ (Stb.ext ext)
  · rw [hb]
    exact ⟨⟨_, upd_same, (fun _ z => nomatch z)⟩, R.notInS na⟩
  · rcases h with h | rfl
    · exact .inl h
    · exact .inr (.inr (noT_none na))
end
section
variable {g : Gc} {X : Cx} {a o : Expr} {fa : M T} {e1 b1 : List Nat} {x f : Str} {p2 p3 pos : Pos} {mk tb : List Str} {cV : V} {cv : Value}
theorem tm_isX (hm : X.mg "isinstance" = none) (hx : PE X (.Name x p3) (tC cV)) (hcv : ∀ u, RelV cV u → u = cv) (F : ∀ c ∈ mk, ExcC X.K (g.cl c) ∧ PySem.W.kitOne X.K (.ref (g.cl c)) cv = some (tb.contains c)) (ha : PEm g X a fa e1 b1) (hg : Gl X "isinstance" := by rfl)
    (he : starEach [a, .Name x p3] X.env = (false, eval a X.env) :: starEach [.Name x p3] X.env := by rfl) (he2 : starEach [.Name x p3] X.env = (false, eval (.Name x p3) X.env) :: starEach [] X.env := by rfl) (hpl : (backTo pos (starEach [.Name x p3] X.env)).any (·.1) = false := by rfl) :
    PEm g X (.Call (.Name "isinstance" p2) [a, .Name x p3] [] pos) (m1 (fIsX mk tb) fa) e1 [] :=
  PE.imp (pe_callB call_isV hg hm PyProof.Rows.boot_isinstance (pa_cons ha (pa_cons hx pa_nil he2) he) (by decide) (by decide) he hpl) fun σ H Q ⟨S, Ts, A, t, Ts', R, e, kk⟩ => by
    obtain ⟨ta, Ts1, ea, e⟩ := bnd_some e
    obtain ⟨ef, rfl⟩ := lft_some e
    refine ⟨S, Ts, A, ta, Ts', R, ea, fun y H' S' A' Ax R' ry _ p s => ?_⟩
    unfold fIsX at ef
    split at ef
    · rename_i c fs ts
      split at ef
      · rename_i hc
        injection ef with ef
        subst ef
        obtain ⟨a', xs, B, ex, ⟨⟨d, e1, e2⟩, _, _⟩, _, _, _⟩ := ry
        obtain ⟨f1, f2⟩ := F c (List.contains_iff_mem.mp hc)
        refine ⟨a', _, d, cV, cv, _, by rw [ex], e1, fun dx z => ?_, f1, hcv, f2, kk _ H' S' A' [] R' ⟨rfl, rfl⟩ Ow.nil p s⟩
        rcases e2 with ⟨_, e2⟩ | ⟨dx', e2, e3, _⟩
        · rw [e2] at z; cases z
        · rw [e2] at z
          obtain rfl : dx' = dx := Option.some.inj z
          exact ⟨_, e3⟩
      · cases ef
    · cases ef
theorem tm_fldX (F : ∀ c ∈ mk, XfC X.K (g.cl c) ∧ PySem.W.findIn X.K (.ref (g.cl c)) f = some none) (ho : PEm g X o fa e1 b1) (hb : attributeBase o f X.env (eval o X.env) = eval o X.env := by rfl) : PEm g X (.Attribute o f pos) (m1 (fFldX mk f) fa) e1 b1 :=
  PE.imp (pe_xfV ho hb) fun σ H Q ⟨S, Ts, A, t, Ts', R, e, kk⟩ => by
    obtain ⟨ta, Ts1, ea, e⟩ := bnd_some e
    obtain ⟨ef, rfl⟩ := lft_some e
    refine ⟨S, Ts, A, ta, Ts', R, ea, fun y H' S' A' Ax R' ry ow p s => ?_⟩
    unfold fFldX at ef
    split at ef
    · rename_i c f' v
      split at ef
      · rename_i hc
        obtain ⟨rfl, hc⟩ := hc
        injection ef with ef
        subst ef
        obtain ⟨a', xs, B, ex, ⟨⟨d, e1, e2⟩, hl, _⟩, eA, cc, rl⟩ := ry
        obtain ⟨f1, f2⟩ := F c (List.contains_iff_mem.mp hc)
        obtain ⟨w, ws, B1, B2, ew, eB, r1, r2⟩ := rl
        obtain ⟨rfl, rfl⟩ := r2
        subst ew
        have eA : Ax = B := eA
        have eB1 : B = B1 := by rw [eB, List.append_nil]
        subst eA; subst eB1
        rcases e2 with ⟨z, _⟩ | ⟨dx, rfl, e3, _⟩
        · cases z
        · exact ⟨a', _, dx, _, w, ex, e1, e3, f1, f2, by simp [List.lookup], kk w H' S' A' _ R' r1 ow p s⟩
      · cases ef
    · cases ef
end
theorem isX_ok {mk tb : List Str} {d : Str} {K : PySem.W.Frag} (h0 : excsB mk K = true) (h : isXB mk tb d K = true) : ∀ c ∈ mk, ExcC K (ga K c) ∧ PySem.W.kitOne K (.ref (ga K c)) (.ref (ga K d)) = some (tb.contains c) := fun c hc =>
  ⟨excE_ok (List.all_eq_true.mp h0 c hc), of_decide_eq_true (List.all_eq_true.mp h c hc)⟩
theorem isXt_ok {mk tb : List Str} {t : String} {K : PySem.W.Frag} (h0 : excsB mk K = true) (h : isXtB mk tb t K = true) : ∀ c ∈ mk, ExcC K (ga K c) ∧ PySem.W.kitOne K (.ref (ga K c)) (.type t) = some (tb.contains c) := fun c hc =>
  ⟨excE_ok (List.all_eq_true.mp h0 c hc), of_decide_eq_true (List.all_eq_true.mp h c hc)⟩
theorem fldX_ok {mk : List Str} {f : Str} {K : PySem.W.Frag} (h : fldXB mk f K = true) : ∀ c ∈ mk, XfC K (ga K c) ∧ PySem.W.findIn K (.ref (ga K c)) f = some none := fun c hc =>
  let z := iniB_ok (List.all_eq_true.mp h c hc)
  ⟨z.2.2.2, z.2.2.1⟩
end MI
namespace MI
open PySem PySem.Spec PyProof.Rows L2 He
def rReprV : RC := fun xs H Q => ∃ (a : Addr) (s : Str) (i : Int), xs = [.ref a] ∧ Rd H a (.dK [(.inr s, .int i)]) ∧ (PyData.dict [(.str s, .int i)]).showable = true ∧ (PyData.shown (.dict [(.str s, .int i)])).length ≤ sizeLine ∧ Q (.str (PyData.shown (.dict [(.str s, .int i)]))) H
section
variable {X : Cx} {g : Gc} {e : Expr} {es : List Expr} {fs : M (List T)} {e1 b1 : List Nat} {k : Nat} {pos p2 : Pos}
theorem call_reprV (hG : GA X.A) (hu : X.A.units + 64 < cLine) : CallR X (.builtin "repr") rReprV := by
  intro pins s σ H xs us Q I r h
  obtain ⟨a, x, i, rfl, ha, sh, hl, q⟩ := h
  obtain ⟨u, rfl, r1⟩ := vals1 r
  obtain rfl : u = .ref a := r1
  obtain ⟨_, ns, vs, kv, o, ds, ep, h1, h2, h3, _, h5, _⟩ := (show ObjOk X.prog X.w H s.heap a (.dK [(.inr x, .int i)]) from rd_of I.hok ha)
  generalize hl5 : ds.toList = l at h5
  cases vs with
  | nil => cases kv
  | cons bp bs =>
    obtain ⟨bk, bv⟩ := bp
    cases kv with
    | cons z kv =>
    obtain ⟨zk, zv⟩ := z
    dsimp only at zk zv
    subst zk
    cases kv
    cases l with
    | nil => cases h5
    | cons el ls =>
    cases h5 with
    | cons z1 z2 h6 =>
      cases h6
      obtain ⟨t', rfl⟩ : ∃ t', bv = .int i t' := zv
      rcases keyIs_shape (show keyIs (.inr x) el.key = true from z1) with ⟨j, t, ej, _⟩ | ⟨y, t, ey, ek⟩
      · cases ej
      · obtain rfl : x = y := by injection ey
        have rd : Reads s.heap (.ref a) (.dict [(.str x, .int i)]) (a :: ([] ++ []) ++ ([] ++ [])) := .dict h1 h2.1 h3 (by rw [hl5]; simp only [List.map_cons, List.map_nil, ek]; exact .cons (.str x t) .nil) (by rw [hl5]; simp only [List.map_cons, List.map_nil, z2]; exact .cons (.int i t') .nil)
        refine repr_of_reads' rd sh (fun _ m => ?_) hG (by show X.A.units + (_ + 1) < cLine; simp [PyData.depth, PyData.depthKv]; omega) (fun _ _ e => e) (fun h' u tk k => ⟨.str _, H, I.kept k, ⟨_, rfl⟩, q⟩) hl
        have : sysModules = a := by simpa using m
        rw [this] at ns
        simp at ns
def fReprV (t : T) : Option T := match t with
  | .nd (.dK _ [.inr s]) [.int i] => if (PyData.dict [(.str s, .int i)]).showable && Nat.ble (PyData.shown (.dict [(.str s, .int i)])).length sizeLine then some (.str (PyData.shown (.dict [(.str s, .int i)]))) else none
  | t => fReprX t
theorem ct_reprV : CallT g (fun xs H Q => (rRepr g.K xs H Q ∨ rReprE xs H Q) ∨ rReprV xs H Q) (c1 fReprV) := fun S H ts xs Ax t Q ra e k => by
  unfold c1 at e
  split at e
  · unfold fReprV at e
    split at e
    · split at e
      · rename_i hc
        injection e with e; subst e
        obtain ⟨h1, h2⟩ := Bool.and_eq_true_iff.mp hc
        obtain ⟨x, B, e1, r1⟩ := ra.get1
        obtain ⟨a, ys, C, rfl, ⟨⟨hr, _⟩, _, _⟩, _, _, rl⟩ := r1
        obtain ⟨y, zs, B1, B2, ey, _, r2, r3⟩ := rl
        obtain ⟨rfl, _⟩ := r3
        obtain ⟨rfl, _⟩ := r2
        subst ey
        rw [e1]
        exact .inr ⟨a, _, _, rfl, hr, h1, Nat.ble_eq.mp h2, k _ H [] (New.atom ⟨rfl, rfl⟩)⟩
      · cases e
    · exact .inl (ct_reprX S H _ xs Ax t Q ra e k)
  · cases e
theorem b_reprV (hG : GA X.A) (hr : Room k X.A) (hm : X.mg "repr" = none) (ha : PAm g X (e :: es) fs e1 b1) (hK : g.K = X.K := by rfl) (hg : Gl X "repr" := by rfl) (he : starEach (e :: es) X.env = (false, eval e X.env) :: starEach es X.env := by rfl) (hpl : (backTo pos (starEach es X.env)).any (·.1) = false := by rfl) :
    PEm g X (.Call (.Name "repr" p2) (e :: es) [] pos) (mF (c1 fReprV) fs) e1 [] := tm_callB (CallR.or (CallR.or (call_reprD hG (by have := hr.un; omega)) (call_reprE hG (by have := hr.un; omega))) (call_reprV hG (by have := hr.un; omega))) (hK ▸ ct_reprV) hg hm boot_repr ha (by decide) (by decide) he hpl
end
end MI
namespace MI
open PySem PySem.Spec PyProof.Rows L2 He
abbrev tbs (K : PySem.W.Frag) : List (Addr × Str) := []
abbrev GG (K : PySem.W.Frag) : Gc := ⟨K, ga K, tbs K⟩
theorem ob_eq (s : PySem.W.SharedT) : ob s = hk.obs s.abs := lookG_eq (HandSHeadRun.getT_eq s)
theorem run_parts {α : Type} {o : Option α} {fa : List (PySem.W.Frag → Bool)} {fn : List He5.DefA} {K : α → PySem.W.Frag} (n : Nat) (h1 : o.map (fun x => fa.all (· (K x))) = some true) (h2 : o.map (fun x => He5.obsA [] (fn.take n) (K x)) = some (He5.valA (fn.take n)))
    (h3 : o.map (fun x => He5.obsA [] (fn.drop n) (K x)) = some (He5.valA (fn.drop n))) : o.map (fun x => lookM fa fn (K x)) = some (true, He5.valA fn) := by
  cases o with
  | none => cases h1
  | some x =>
    have e1 : fa.all (· (K x)) = true := Option.some.inj h1
    have e2 := Prod.mk.inj (Option.some.inj h2)
    have e3 := Prod.mk.inj (Option.some.inj h3)
    have e4 : (fn.all fun d => d.ok (K x)) = true := by
      rw [← List.take_append_drop n fn, List.all_append]
      have a2 : ((([] : List Fa).all fun f => f.ok (K x)) && (fn.take n).all fun d => d.ok (K x)) = true := e2.1
      have a3 : ((([] : List Fa).all fun f => f.ok (K x)) && (fn.drop n).all fun d => d.ok (K x)) = true := e3.1
      rw [(ba a2).2, (ba a3).2]
      rfl
    have e5 : (fn.map fun d => He5.fnA (K x) (d.at_ (K x))) = fn.map He5.DefA.val := by
      rw [← List.take_append_drop n fn, List.map_append, List.map_append]
      exact congr (congrArg HAppend.hAppend e2.2) e3.2
    rw [Option.map_some]
    refine congrArg some (Prod.ext e1 (Prod.ext ?_ e5))
    show ((([] : List Fa).all fun f => f.ok (K x)) && fn.all fun d => d.ok (K x)) = true
    rw [e4]
    rfl
theorem all_parts {α : Type} {o : Option α} {K : α → PySem.W.Frag} {l : List (PySem.W.Frag → Bool)} (m : Nat) (h1 : o.map (fun x => (l.take m).all (· (K x))) = some true) (h2 : o.map (fun x => (l.drop m).all (· (K x))) = some true) : o.map (fun x => l.all (· (K x))) = some true := by
  cases o with
  | none => cases h1
  | some x =>
    have e1 : (l.take m).all (· (K x)) = true := Option.some.inj h1
    have e2 : (l.drop m).all (· (K x)) = true := Option.some.inj h2
    show some (l.all (· (K x))) = some true
    rw [← List.take_append_drop m l, List.all_append, e1, e2]
    rfl
theorem all_none {α : Type} {o : Option α} {b : Bool} {K : α → PySem.W.Frag} {l l0 : List (PySem.W.Frag → Bool)} (h : o.map (fun x => l0.all (· (K x))) = some b) (e : l = []) : o.map (fun x => l.all (· (K x))) = some true := by
  subst e
  cases o with
  | none => cases h
  | some x => rfl
theorem run2a (w : World) (os : OsState) : (HandSHeadRun.endF (HandSHeadRun.stepQ (HandSHeadRun.denQ HandSHeadRun.tabQ) R.prog w) 10000 R.prog w os).map (fun x => fa.all (· (partG (HandSHeadRun.getT x)))) = some true := (all_parts 15 (run2a0 w os) (all_parts (l := fa.drop 15) 15 (run2a1 w os) (all_parts (l := fa.drop 30) 15 (run2a2 w os) (all_parts (l := fa.drop 45) 15 (run2a3 w os) (all_parts (l := fa.drop 60) 15 (run2a4 w os) (all_parts (l := fa.drop 75) 15 (run2a5 w os) (all_parts (l := fa.drop 90) 15 (run2a6 w os) (all_parts (l := fa.drop 105) 15 (run2a7 w os) (all_parts (l := fa.drop 120) 15 (run2a8 w os) (all_none (run2a0 w os) rfl))))))))))
theorem run2 (w : World) (os : OsState) : (HandSHeadRun.endF (HandSHeadRun.stepQ (HandSHeadRun.denQ HandSHeadRun.tabQ) R.prog w) 10000 R.prog w os).map (fun x => ob x) = some (hk.val w) := run_parts 4 (run2a w os) (run2b w os) (run2c w os)
theorem run (w : World) : HandSHeadRun.RunEq R qv hk ob 10000 names w := fun os => run_two (run1 w os) (run2 w os)
section
variable {w : World} {K : PySem.W.Frag} {mg : Str → Option Value} {base h : Heap}
theorem fI_InvalidText (c : SaysM fa fn K) (KX : K.In h) (Gm : h.Ns mainGlobals mg) : ∃ fd, (∀ base : Heap, FnOk PGFr w K mg base CX0 1 (ma K (ga K "InvalidText") "__init__") fd ["self", "given"] (spS "given" (ga K "InvalidText"))) ∧ Binds K fd ["self", "given"] [] ∧ KwB K fd ["self", "given"] 1 := by
  obtain ⟨fd, FD⟩ := c.defs.def_ 8
  refine ⟨fd, fun base => fn_initA FD ⟨rfl, rfl, rfl, by decide +kernel, rfl, by decide +kernel, by decide +kernel⟩ PySem.F.store_ValueError (oexA_ok (c.fact 0)) (by rfl) (.inl rfl) (.inl rfl), FunD.bindsN FD fun kV doc pm an cdv ct us hl => match us, hl with | [_, _], _ => rfl, FunD.kwb FD fun kV doc pm an cdv ct us ws hl hl2 => match us, ws, hl, hl2 with | [_], [_], _, _ => rfl⟩
theorem fI_InvalidName (c : SaysM fa fn K) (KX : K.In h) (Gm : h.Ns mainGlobals mg) : ∃ fd, (∀ base : Heap, FnOk PGFr w K mg base CX0 1 (ma K (ga K "InvalidName") "__init__") fd ["self", "given"] (spS "given" (ga K "InvalidName"))) ∧ Binds K fd ["self", "given"] [] ∧ KwB K fd ["self", "given"] 1 := by
  obtain ⟨fd, FD⟩ := c.defs.def_ 9
  refine ⟨fd, fun base => fn_initA FD ⟨rfl, rfl, rfl, by decide +kernel, rfl, by decide +kernel, by decide +kernel⟩ PySem.F.store_ValueError (oexA_ok (c.fact 1)) (by rfl) (.inl rfl) (.inl rfl), FunD.bindsN FD fun kV doc pm an cdv ct us hl => match us, hl with | [_, _], _ => rfl, FunD.kwb FD fun kV doc pm an cdv ct us ws hl hl2 => match us, ws, hl, hl2 with | [_], [_], _, _ => rfl⟩
theorem fI_InvalidKind (c : SaysM fa fn K) (KX : K.In h) (Gm : h.Ns mainGlobals mg) : ∃ fd, (∀ base : Heap, FnOk PGFr w K mg base CX0 1 (ma K (ga K "InvalidKind") "__init__") fd ["self", "given"] (spS "given" (ga K "InvalidKind"))) ∧ Binds K fd ["self", "given"] [] ∧ KwB K fd ["self", "given"] 1 := by
  obtain ⟨fd, FD⟩ := c.defs.def_ 10
  refine ⟨fd, fun base => fn_initA FD ⟨rfl, rfl, rfl, by decide +kernel, rfl, by decide +kernel, by decide +kernel⟩ PySem.F.store_ValueError (oexA_ok (c.fact 2)) (by rfl) (.inl rfl) (.inl rfl), FunD.bindsN FD fun kV doc pm an cdv ct us hl => match us, hl with | [_, _], _ => rfl, FunD.kwb FD fun kV doc pm an cdv ct us ws hl hl2 => match us, ws, hl, hl2 with | [_], [_], _, _ => rfl⟩
theorem fI_InvalidWish (c : SaysM fa fn K) (KX : K.In h) (Gm : h.Ns mainGlobals mg) : ∃ fd, (∀ base : Heap, FnOk PGFr w K mg base CX0 1 (ma K (ga K "InvalidWish") "__init__") fd ["self", "given"] (spS "given" (ga K "InvalidWish"))) ∧ Binds K fd ["self", "given"] [] ∧ KwB K fd ["self", "given"] 1 := by
  obtain ⟨fd, FD⟩ := c.defs.def_ 11
  refine ⟨fd, fun base => fn_initA FD ⟨rfl, rfl, rfl, by decide +kernel, rfl, by decide +kernel, by decide +kernel⟩ PySem.F.store_ValueError (oexA_ok (c.fact 3)) (by rfl) (.inl rfl) (.inl rfl), FunD.bindsN FD fun kV doc pm an cdv ct us hl => match us, hl with | [_, _], _ => rfl, FunD.kwb FD fun kV doc pm an cdv ct us ws hl hl2 => match us, ws, hl, hl2 with | [_], [_], _, _ => rfl⟩
theorem fI_InvalidIndex (c : SaysM fa fn K) (KX : K.In h) (Gm : h.Ns mainGlobals mg) : ∃ fd, (∀ base : Heap, FnOk PGFr w K mg base CX0 1 (ma K (ga K "InvalidIndex") "__init__") fd ["self", "given"] (spS "given" (ga K "InvalidIndex"))) ∧ Binds K fd ["self", "given"] [] ∧ KwB K fd ["self", "given"] 1 := by
  obtain ⟨fd, FD⟩ := c.defs.def_ 12
  refine ⟨fd, fun base => fn_initA FD ⟨rfl, rfl, rfl, by decide +kernel, rfl, by decide +kernel, by decide +kernel⟩ PySem.F.store_ValueError (oexA_ok (c.fact 4)) (by rfl) (.inl rfl) (.inl rfl), FunD.bindsN FD fun kV doc pm an cdv ct us hl => match us, hl with | [_, _], _ => rfl, FunD.kwb FD fun kV doc pm an cdv ct us ws hl hl2 => match us, ws, hl, hl2 with | [_], [_], _, _ => rfl⟩
theorem fI_InvalidNumber (c : SaysM fa fn K) (KX : K.In h) (Gm : h.Ns mainGlobals mg) : ∃ fd, (∀ base : Heap, FnOk PGFr w K mg base CX0 1 (ma K (ga K "InvalidNumber") "__init__") fd ["self", "given"] (spS "given" (ga K "InvalidNumber"))) ∧ Binds K fd ["self", "given"] [] ∧ KwB K fd ["self", "given"] 1 := by
  obtain ⟨fd, FD⟩ := c.defs.def_ 13
  refine ⟨fd, fun base => fn_initA FD ⟨rfl, rfl, rfl, by decide +kernel, rfl, by decide +kernel, by decide +kernel⟩ PySem.F.store_ValueError (oexA_ok (c.fact 5)) (by rfl) (.inl rfl) (.inl rfl), FunD.bindsN FD fun kV doc pm an cdv ct us hl => match us, hl with | [_, _], _ => rfl, FunD.kwb FD fun kV doc pm an cdv ct us ws hl hl2 => match us, ws, hl, hl2 with | [_], [_], _, _ => rfl⟩
theorem fI_InvalidLine (c : SaysM fa fn K) (KX : K.In h) (Gm : h.Ns mainGlobals mg) : ∃ fd, (∀ base : Heap, FnOk PGFr w K mg base CX0 1 (ma K (ga K "InvalidLine") "__init__") fd ["self", "given"] (spS "given" (ga K "InvalidLine"))) ∧ Binds K fd ["self", "given"] [] ∧ KwB K fd ["self", "given"] 1 := by
  obtain ⟨fd, FD⟩ := c.defs.def_ 14
  refine ⟨fd, fun base => fn_initA FD ⟨rfl, rfl, rfl, by decide +kernel, rfl, by decide +kernel, by decide +kernel⟩ PySem.F.store_ValueError (oexA_ok (c.fact 6)) (by rfl) (.inl rfl) (.inl rfl), FunD.bindsN FD fun kV doc pm an cdv ct us hl => match us, hl with | [_, _], _ => rfl, FunD.kwb FD fun kV doc pm an cdv ct us ws hl hl2 => match us, ws, hl, hl2 with | [_], [_], _, _ => rfl⟩
theorem fI_NotATable (c : SaysM fa fn K) (KX : K.In h) (Gm : h.Ns mainGlobals mg) : ∃ fd, (∀ base : Heap, FnOk PGFr w K mg base CX0 1 (ma K (ga K "NotATable") "__init__") fd ["self", "given"] (spS "given" (ga K "NotATable"))) ∧ Binds K fd ["self", "given"] [] ∧ KwB K fd ["self", "given"] 1 := by
  obtain ⟨fd, FD⟩ := c.defs.def_ 15
  refine ⟨fd, fun base => fn_initA FD ⟨rfl, rfl, rfl, by decide +kernel, rfl, by decide +kernel, by decide +kernel⟩ PySem.F.store_ValueError (oexA_ok (c.fact 7)) (by rfl) (.inl rfl) (.inl rfl), FunD.bindsN FD fun kV doc pm an cdv ct us hl => match us, hl with | [_, _], _ => rfl, FunD.kwb FD fun kV doc pm an cdv ct us ws hl hl2 => match us, ws, hl, hl2 with | [_], [_], _, _ => rfl⟩
theorem fI_InvalidColumns (c : SaysM fa fn K) (KX : K.In h) (Gm : h.Ns mainGlobals mg) : ∃ fd, (∀ base : Heap, FnOk PGFr w K mg base CX0 1 (ma K (ga K "InvalidColumns") "__init__") fd ["self", "index"] (spS "index" (ga K "InvalidColumns"))) ∧ Binds K fd ["self", "index"] [] ∧ KwB K fd ["self", "index"] 1 := by
  obtain ⟨fd, FD⟩ := c.defs.def_ 16
  refine ⟨fd, fun base => fn_initA FD ⟨rfl, rfl, rfl, by decide +kernel, rfl, by decide +kernel, by decide +kernel⟩ PySem.F.store_ValueError (oexA_ok (c.fact 8)) (by rfl) (.inl rfl) (.inl rfl), FunD.bindsN FD fun kV doc pm an cdv ct us hl => match us, hl with | [_, _], _ => rfl, FunD.kwb FD fun kV doc pm an cdv ct us ws hl hl2 => match us, ws, hl, hl2 with | [_], [_], _, _ => rfl⟩
theorem fI_InvalidValues (c : SaysM fa fn K) (KX : K.In h) (Gm : h.Ns mainGlobals mg) : ∃ fd, (∀ base : Heap, FnOk PGFr w K mg base CX0 1 (ma K (ga K "InvalidValues") "__init__") fd ["self", "index"] (spS "index" (ga K "InvalidValues"))) ∧ Binds K fd ["self", "index"] [] ∧ KwB K fd ["self", "index"] 1 := by
  obtain ⟨fd, FD⟩ := c.defs.def_ 17
  refine ⟨fd, fun base => fn_initA FD ⟨rfl, rfl, rfl, by decide +kernel, rfl, by decide +kernel, by decide +kernel⟩ PySem.F.store_ValueError (oexA_ok (c.fact 9)) (by rfl) (.inl rfl) (.inl rfl), FunD.bindsN FD fun kV doc pm an cdv ct us hl => match us, hl with | [_, _], _ => rfl, FunD.kwb FD fun kV doc pm an cdv ct us ws hl hl2 => match us, ws, hl, hl2 with | [_], [_], _, _ => rfl⟩
theorem fI_InvalidCells (c : SaysM fa fn K) (KX : K.In h) (Gm : h.Ns mainGlobals mg) : ∃ fd, (∀ base : Heap, FnOk PGFr w K mg base CX0 1 (ma K (ga K "InvalidCells") "__init__") fd ["self", "index"] (spS "index" (ga K "InvalidCells"))) ∧ Binds K fd ["self", "index"] [] ∧ KwB K fd ["self", "index"] 1 := by
  obtain ⟨fd, FD⟩ := c.defs.def_ 18
  refine ⟨fd, fun base => fn_initA FD ⟨rfl, rfl, rfl, by decide +kernel, rfl, by decide +kernel, by decide +kernel⟩ PySem.F.store_ValueError (oexA_ok (c.fact 10)) (by rfl) (.inl rfl) (.inl rfl), FunD.bindsN FD fun kV doc pm an cdv ct us hl => match us, hl with | [_, _], _ => rfl, FunD.kwb FD fun kV doc pm an cdv ct us ws hl hl2 => match us, ws, hl, hl2 with | [_], [_], _, _ => rfl⟩
theorem fI_InvalidLost (c : SaysM fa fn K) (KX : K.In h) (Gm : h.Ns mainGlobals mg) : ∃ fd, (∀ base : Heap, FnOk PGFr w K mg base CX0 1 (ma K (ga K "InvalidLost") "__init__") fd ["self", "index"] (spS "index" (ga K "InvalidLost"))) ∧ Binds K fd ["self", "index"] [] ∧ KwB K fd ["self", "index"] 1 := by
  obtain ⟨fd, FD⟩ := c.defs.def_ 19
  refine ⟨fd, fun base => fn_initA FD ⟨rfl, rfl, rfl, by decide +kernel, rfl, by decide +kernel, by decide +kernel⟩ PySem.F.store_ValueError (oexA_ok (c.fact 11)) (by rfl) (.inl rfl) (.inl rfl), FunD.bindsN FD fun kV doc pm an cdv ct us hl => match us, hl with | [_, _], _ => rfl, FunD.kwb FD fun kV doc pm an cdv ct us ws hl hl2 => match us, ws, hl, hl2 with | [_], [_], _, _ => rfl⟩
theorem fI_InvalidNames (c : SaysM fa fn K) (KX : K.In h) (Gm : h.Ns mainGlobals mg) : ∃ fd, (∀ base : Heap, FnOk PGFr w K mg base CX0 1 (ma K (ga K "InvalidNames") "__init__") fd ["self", "index"] (spS "index" (ga K "InvalidNames"))) ∧ Binds K fd ["self", "index"] [] ∧ KwB K fd ["self", "index"] 1 := by
  obtain ⟨fd, FD⟩ := c.defs.def_ 20
  refine ⟨fd, fun base => fn_initA FD ⟨rfl, rfl, rfl, by decide +kernel, rfl, by decide +kernel, by decide +kernel⟩ PySem.F.store_ValueError (oexA_ok (c.fact 12)) (by rfl) (.inl rfl) (.inl rfl), FunD.bindsN FD fun kV doc pm an cdv ct us hl => match us, hl with | [_, _], _ => rfl, FunD.kwb FD fun kV doc pm an cdv ct us ws hl hl2 => match us, ws, hl, hl2 with | [_], [_], _, _ => rfl⟩
theorem fI_InvalidRounds (c : SaysM fa fn K) (KX : K.In h) (Gm : h.Ns mainGlobals mg) : ∃ fd, (∀ base : Heap, FnOk PGFr w K mg base CX0 1 (ma K (ga K "InvalidRounds") "__init__") fd ["self", "index"] (spS "index" (ga K "InvalidRounds"))) ∧ Binds K fd ["self", "index"] [] ∧ KwB K fd ["self", "index"] 1 := by
  obtain ⟨fd, FD⟩ := c.defs.def_ 21
  refine ⟨fd, fun base => fn_initA FD ⟨rfl, rfl, rfl, by decide +kernel, rfl, by decide +kernel, by decide +kernel⟩ PySem.F.store_ValueError (oexA_ok (c.fact 13)) (by rfl) (.inl rfl) (.inl rfl), FunD.bindsN FD fun kV doc pm an cdv ct us hl => match us, hl with | [_, _], _ => rfl, FunD.kwb FD fun kV doc pm an cdv ct us ws hl hl2 => match us, ws, hl, hl2 with | [_], [_], _, _ => rfl⟩
theorem fI_InvalidDeeds (c : SaysM fa fn K) (KX : K.In h) (Gm : h.Ns mainGlobals mg) : ∃ fd, (∀ base : Heap, FnOk PGFr w K mg base CX0 1 (ma K (ga K "InvalidDeeds") "__init__") fd ["self", "index"] (spS "index" (ga K "InvalidDeeds"))) ∧ Binds K fd ["self", "index"] [] ∧ KwB K fd ["self", "index"] 1 := by
  obtain ⟨fd, FD⟩ := c.defs.def_ 22
  refine ⟨fd, fun base => fn_initA FD ⟨rfl, rfl, rfl, by decide +kernel, rfl, by decide +kernel, by decide +kernel⟩ PySem.F.store_ValueError (oexA_ok (c.fact 14)) (by rfl) (.inl rfl) (.inl rfl), FunD.bindsN FD fun kV doc pm an cdv ct us hl => match us, hl with | [_, _], _ => rfl, FunD.kwb FD fun kV doc pm an cdv ct us ws hl hl2 => match us, ws, hl, hl2 with | [_], [_], _, _ => rfl⟩
theorem fI_UnknownName (c : SaysM fa fn K) (KX : K.In h) (Gm : h.Ns mainGlobals mg) : ∃ fd, (∀ base : Heap, FnOk PGFr w K mg base CX0 1 (ma K (ga K "UnknownName") "__init__") fd ["self", "given"] (spS "given" (ga K "UnknownName"))) ∧ Binds K fd ["self", "given"] [] ∧ KwB K fd ["self", "given"] 1 := by
  obtain ⟨fd, FD⟩ := c.defs.def_ 23
  refine ⟨fd, fun base => fn_initA FD ⟨rfl, rfl, rfl, by decide +kernel, rfl, by decide +kernel, by decide +kernel⟩ PySem.F.store_LookupError (oexA_ok (c.fact 15)) (by rfl) (.inl rfl) (.inl rfl), FunD.bindsN FD fun kV doc pm an cdv ct us hl => match us, hl with | [_, _], _ => rfl, FunD.kwb FD fun kV doc pm an cdv ct us ws hl hl2 => match us, ws, hl, hl2 with | [_], [_], _, _ => rfl⟩
theorem fI_NotLost (c : SaysM fa fn K) (KX : K.In h) (Gm : h.Ns mainGlobals mg) : ∃ fd, (∀ base : Heap, FnOk PGFr w K mg base CX0 1 (ma K (ga K "NotLost") "__init__") fd ["self", "given"] (spS "given" (ga K "NotLost"))) ∧ Binds K fd ["self", "given"] [] ∧ KwB K fd ["self", "given"] 1 := by
  obtain ⟨fd, FD⟩ := c.defs.def_ 24
  refine ⟨fd, fun base => fn_initA FD ⟨rfl, rfl, rfl, by decide +kernel, rfl, by decide +kernel, by decide +kernel⟩ PySem.F.store_LookupError (oexA_ok (c.fact 16)) (by rfl) (.inl rfl) (.inl rfl), FunD.bindsN FD fun kV doc pm an cdv ct us hl => match us, hl with | [_, _], _ => rfl, FunD.kwb FD fun kV doc pm an cdv ct us ws hl hl2 => match us, ws, hl, hl2 with | [_], [_], _, _ => rfl⟩
theorem fI_NotBack (c : SaysM fa fn K) (KX : K.In h) (Gm : h.Ns mainGlobals mg) : ∃ fd, (∀ base : Heap, FnOk PGFr w K mg base CX0 1 (ma K (ga K "NotBack") "__init__") fd ["self", "given"] (spS "given" (ga K "NotBack"))) ∧ Binds K fd ["self", "given"] [] ∧ KwB K fd ["self", "given"] 1 := by
  obtain ⟨fd, FD⟩ := c.defs.def_ 25
  refine ⟨fd, fun base => fn_initA FD ⟨rfl, rfl, rfl, by decide +kernel, rfl, by decide +kernel, by decide +kernel⟩ PySem.F.store_ArithmeticError (oexA_ok (c.fact 17)) (by rfl) (.inl rfl) (.inl rfl), FunD.bindsN FD fun kV doc pm an cdv ct us hl => match us, hl with | [_, _], _ => rfl, FunD.kwb FD fun kV doc pm an cdv ct us ws hl hl2 => match us, ws, hl, hl2 with | [_], [_], _, _ => rfl⟩
theorem fI_NotReady (c : SaysM fa fn K) (KX : K.In h) (Gm : h.Ns mainGlobals mg) : ∃ fd, (∀ base : Heap, FnOk PGFr w K mg base CX0 1 (ma K (ga K "NotReady") "__init__") fd ["self", "given"] (spS "given" (ga K "NotReady"))) ∧ Binds K fd ["self", "given"] [] ∧ KwB K fd ["self", "given"] 1 := by
  obtain ⟨fd, FD⟩ := c.defs.def_ 26
  refine ⟨fd, fun base => fn_initA FD ⟨rfl, rfl, rfl, by decide +kernel, rfl, by decide +kernel, by decide +kernel⟩ PySem.F.store_ArithmeticError (oexA_ok (c.fact 18)) (by rfl) (.inl rfl) (.inl rfl), FunD.bindsN FD fun kV doc pm an cdv ct us hl => match us, hl with | [_, _], _ => rfl, FunD.kwb FD fun kV doc pm an cdv ct us ws hl hl2 => match us, ws, hl, hl2 with | [_], [_], _, _ => rfl⟩
theorem fI_Broken (c : SaysM fa fn K) (KX : K.In h) (Gm : h.Ns mainGlobals mg) : ∃ fd, (∀ base : Heap, FnOk PGFr w K mg base CX0 1 (ma K (ga K "Broken") "__init__") fd ["self", "index"] (spS "index" (ga K "Broken"))) ∧ Binds K fd ["self", "index"] [] ∧ KwB K fd ["self", "index"] 1 := by
  obtain ⟨fd, FD⟩ := c.defs.def_ 27
  refine ⟨fd, fun base => fn_initA FD ⟨rfl, rfl, rfl, by decide +kernel, rfl, by decide +kernel, by decide +kernel⟩ PySem.F.store_ArithmeticError (oexA_ok (c.fact 19)) (by rfl) (.inl rfl) (.inl rfl), FunD.bindsN FD fun kV doc pm an cdv ct us hl => match us, hl with | [_, _], _ => rfl, FunD.kwb FD fun kV doc pm an cdv ct us ws hl hl2 => match us, ws, hl, hl2 with | [_], [_], _, _ => rfl⟩
theorem fI_InUse (c : SaysM fa fn K) (KX : K.In h) (Gm : h.Ns mainGlobals mg) : ∃ fd, (∀ base : Heap, FnOk PGFr w K mg base CX0 1 (ma K (ga K "InUse") "__init__") fd ["self", "index"] (spS "index" (ga K "InUse"))) ∧ Binds K fd ["self", "index"] [] ∧ KwB K fd ["self", "index"] 1 := by
  obtain ⟨fd, FD⟩ := c.defs.def_ 28
  refine ⟨fd, fun base => fn_initA FD ⟨rfl, rfl, rfl, by decide +kernel, rfl, by decide +kernel, by decide +kernel⟩ PySem.F.store_ArithmeticError (oexA_ok (c.fact 20)) (by rfl) (.inl rfl) (.inl rfl), FunD.bindsN FD fun kV doc pm an cdv ct us hl => match us, hl with | [_, _], _ => rfl, FunD.kwb FD fun kV doc pm an cdv ct us ws hl hl2 => match us, ws, hl, hl2 with | [_], [_], _, _ => rfl⟩
def N__law_sorts : List Str := ["_law_e", "_law_k", "_law_found", "_law_above"]
def m__law_sorts : M Fl := (mSeq (mSet 2 (mLst (mCons (m1 (fIsX ["NotRight", "NothingToUndo", "WrongValue", "WrongName", "NoAnswer", "InvalidText", "InvalidName", "InvalidIndex", "InvalidNumber", "InvalidColumns", "InvalidValues", "InvalidCells", "InvalidLost", "InvalidNames", "InvalidRounds", "InvalidKind", "InvalidWish", "InvalidLine", "NotATable", "InvalidDeeds", "UnknownName", "NotLost", "NotBack", "NotReady", "Broken", "InUse"] ["InvalidText"]) (mRd 0)) (mCons (m1 (fIsX ["NotRight", "NothingToUndo", "WrongValue", "WrongName", "NoAnswer", "InvalidText", "InvalidName", "InvalidIndex", "InvalidNumber", "InvalidColumns", "InvalidValues", "InvalidCells", "InvalidLost", "InvalidNames", "InvalidRounds", "InvalidKind", "InvalidWish", "InvalidLine", "NotATable", "InvalidDeeds", "UnknownName", "NotLost", "NotBack", "NotReady", "Broken", "InUse"] ["InvalidName"]) (mRd 0)) (mCons (m1 (fIsX ["NotRight", "NothingToUndo", "WrongValue", "WrongName", "NoAnswer", "InvalidText", "InvalidName", "InvalidIndex", "InvalidNumber", "InvalidColumns", "InvalidValues", "InvalidCells", "InvalidLost", "InvalidNames", "InvalidRounds", "InvalidKind", "InvalidWish", "InvalidLine", "NotATable", "InvalidDeeds", "UnknownName", "NotLost", "NotBack", "NotReady", "Broken", "InUse"] ["InvalidKind"]) (mRd 0)) mNil))))) (mSeq (mSet 2 (m2 fAdd (mRd 2) (mLst (mCons (m1 (fIsX ["NotRight", "NothingToUndo", "WrongValue", "WrongName", "NoAnswer", "InvalidText", "InvalidName", "InvalidIndex", "InvalidNumber", "InvalidColumns", "InvalidValues", "InvalidCells", "InvalidLost", "InvalidNames", "InvalidRounds", "InvalidKind", "InvalidWish", "InvalidLine", "NotATable", "InvalidDeeds", "UnknownName", "NotLost", "NotBack", "NotReady", "Broken", "InUse"] ["InvalidWish"]) (mRd 0)) (mCons (m1 (fIsX ["NotRight", "NothingToUndo", "WrongValue", "WrongName", "NoAnswer", "InvalidText", "InvalidName", "InvalidIndex", "InvalidNumber", "InvalidColumns", "InvalidValues", "InvalidCells", "InvalidLost", "InvalidNames", "InvalidRounds", "InvalidKind", "InvalidWish", "InvalidLine", "NotATable", "InvalidDeeds", "UnknownName", "NotLost", "NotBack", "NotReady", "Broken", "InUse"] ["InvalidIndex"]) (mRd 0)) (mCons (m1 (fIsX ["NotRight", "NothingToUndo", "WrongValue", "WrongName", "NoAnswer", "InvalidText", "InvalidName", "InvalidIndex", "InvalidNumber", "InvalidColumns", "InvalidValues", "InvalidCells", "InvalidLost", "InvalidNames", "InvalidRounds", "InvalidKind", "InvalidWish", "InvalidLine", "NotATable", "InvalidDeeds", "UnknownName", "NotLost", "NotBack", "NotReady", "Broken", "InUse"] ["InvalidNumber"]) (mRd 0)) mNil)))))) (mSeq (mSet 2 (m2 fAdd (mRd 2) (mLst (mCons (m1 (fIsX ["NotRight", "NothingToUndo", "WrongValue", "WrongName", "NoAnswer", "InvalidText", "InvalidName", "InvalidIndex", "InvalidNumber", "InvalidColumns", "InvalidValues", "InvalidCells", "InvalidLost", "InvalidNames", "InvalidRounds", "InvalidKind", "InvalidWish", "InvalidLine", "NotATable", "InvalidDeeds", "UnknownName", "NotLost", "NotBack", "NotReady", "Broken", "InUse"] ["InvalidLine"]) (mRd 0)) (mCons (m1 (fIsX ["NotRight", "NothingToUndo", "WrongValue", "WrongName", "NoAnswer", "InvalidText", "InvalidName", "InvalidIndex", "InvalidNumber", "InvalidColumns", "InvalidValues", "InvalidCells", "InvalidLost", "InvalidNames", "InvalidRounds", "InvalidKind", "InvalidWish", "InvalidLine", "NotATable", "InvalidDeeds", "UnknownName", "NotLost", "NotBack", "NotReady", "Broken", "InUse"] ["NotATable"]) (mRd 0)) (mCons (m1 (fIsX ["NotRight", "NothingToUndo", "WrongValue", "WrongName", "NoAnswer", "InvalidText", "InvalidName", "InvalidIndex", "InvalidNumber", "InvalidColumns", "InvalidValues", "InvalidCells", "InvalidLost", "InvalidNames", "InvalidRounds", "InvalidKind", "InvalidWish", "InvalidLine", "NotATable", "InvalidDeeds", "UnknownName", "NotLost", "NotBack", "NotReady", "Broken", "InUse"] ["InvalidColumns"]) (mRd 0)) mNil)))))) (mSeq (mSet 2 (m2 fAdd (mRd 2) (mLst (mCons (m1 (fIsX ["NotRight", "NothingToUndo", "WrongValue", "WrongName", "NoAnswer", "InvalidText", "InvalidName", "InvalidIndex", "InvalidNumber", "InvalidColumns", "InvalidValues", "InvalidCells", "InvalidLost", "InvalidNames", "InvalidRounds", "InvalidKind", "InvalidWish", "InvalidLine", "NotATable", "InvalidDeeds", "UnknownName", "NotLost", "NotBack", "NotReady", "Broken", "InUse"] ["InvalidValues"]) (mRd 0)) (mCons (m1 (fIsX ["NotRight", "NothingToUndo", "WrongValue", "WrongName", "NoAnswer", "InvalidText", "InvalidName", "InvalidIndex", "InvalidNumber", "InvalidColumns", "InvalidValues", "InvalidCells", "InvalidLost", "InvalidNames", "InvalidRounds", "InvalidKind", "InvalidWish", "InvalidLine", "NotATable", "InvalidDeeds", "UnknownName", "NotLost", "NotBack", "NotReady", "Broken", "InUse"] ["InvalidCells"]) (mRd 0)) (mCons (m1 (fIsX ["NotRight", "NothingToUndo", "WrongValue", "WrongName", "NoAnswer", "InvalidText", "InvalidName", "InvalidIndex", "InvalidNumber", "InvalidColumns", "InvalidValues", "InvalidCells", "InvalidLost", "InvalidNames", "InvalidRounds", "InvalidKind", "InvalidWish", "InvalidLine", "NotATable", "InvalidDeeds", "UnknownName", "NotLost", "NotBack", "NotReady", "Broken", "InUse"] ["InvalidLost"]) (mRd 0)) mNil)))))) (mSeq (mSet 2 (m2 fAdd (mRd 2) (mLst (mCons (m1 (fIsX ["NotRight", "NothingToUndo", "WrongValue", "WrongName", "NoAnswer", "InvalidText", "InvalidName", "InvalidIndex", "InvalidNumber", "InvalidColumns", "InvalidValues", "InvalidCells", "InvalidLost", "InvalidNames", "InvalidRounds", "InvalidKind", "InvalidWish", "InvalidLine", "NotATable", "InvalidDeeds", "UnknownName", "NotLost", "NotBack", "NotReady", "Broken", "InUse"] ["InvalidNames"]) (mRd 0)) (mCons (m1 (fIsX ["NotRight", "NothingToUndo", "WrongValue", "WrongName", "NoAnswer", "InvalidText", "InvalidName", "InvalidIndex", "InvalidNumber", "InvalidColumns", "InvalidValues", "InvalidCells", "InvalidLost", "InvalidNames", "InvalidRounds", "InvalidKind", "InvalidWish", "InvalidLine", "NotATable", "InvalidDeeds", "UnknownName", "NotLost", "NotBack", "NotReady", "Broken", "InUse"] ["InvalidRounds"]) (mRd 0)) (mCons (m1 (fIsX ["NotRight", "NothingToUndo", "WrongValue", "WrongName", "NoAnswer", "InvalidText", "InvalidName", "InvalidIndex", "InvalidNumber", "InvalidColumns", "InvalidValues", "InvalidCells", "InvalidLost", "InvalidNames", "InvalidRounds", "InvalidKind", "InvalidWish", "InvalidLine", "NotATable", "InvalidDeeds", "UnknownName", "NotLost", "NotBack", "NotReady", "Broken", "InUse"] ["InvalidDeeds"]) (mRd 0)) mNil)))))) (mSeq (mSet 2 (m2 fAdd (mRd 2) (mLst (mCons (m1 (fIsX ["NotRight", "NothingToUndo", "WrongValue", "WrongName", "NoAnswer", "InvalidText", "InvalidName", "InvalidIndex", "InvalidNumber", "InvalidColumns", "InvalidValues", "InvalidCells", "InvalidLost", "InvalidNames", "InvalidRounds", "InvalidKind", "InvalidWish", "InvalidLine", "NotATable", "InvalidDeeds", "UnknownName", "NotLost", "NotBack", "NotReady", "Broken", "InUse"] ["UnknownName"]) (mRd 0)) (mCons (m1 (fIsX ["NotRight", "NothingToUndo", "WrongValue", "WrongName", "NoAnswer", "InvalidText", "InvalidName", "InvalidIndex", "InvalidNumber", "InvalidColumns", "InvalidValues", "InvalidCells", "InvalidLost", "InvalidNames", "InvalidRounds", "InvalidKind", "InvalidWish", "InvalidLine", "NotATable", "InvalidDeeds", "UnknownName", "NotLost", "NotBack", "NotReady", "Broken", "InUse"] ["NotLost"]) (mRd 0)) (mCons (m1 (fIsX ["NotRight", "NothingToUndo", "WrongValue", "WrongName", "NoAnswer", "InvalidText", "InvalidName", "InvalidIndex", "InvalidNumber", "InvalidColumns", "InvalidValues", "InvalidCells", "InvalidLost", "InvalidNames", "InvalidRounds", "InvalidKind", "InvalidWish", "InvalidLine", "NotATable", "InvalidDeeds", "UnknownName", "NotLost", "NotBack", "NotReady", "Broken", "InUse"] ["NotRight"]) (mRd 0)) mNil)))))) (mSeq (mSet 2 (m2 fAdd (mRd 2) (mLst (mCons (m1 (fIsX ["NotRight", "NothingToUndo", "WrongValue", "WrongName", "NoAnswer", "InvalidText", "InvalidName", "InvalidIndex", "InvalidNumber", "InvalidColumns", "InvalidValues", "InvalidCells", "InvalidLost", "InvalidNames", "InvalidRounds", "InvalidKind", "InvalidWish", "InvalidLine", "NotATable", "InvalidDeeds", "UnknownName", "NotLost", "NotBack", "NotReady", "Broken", "InUse"] ["NotBack"]) (mRd 0)) (mCons (m1 (fIsX ["NotRight", "NothingToUndo", "WrongValue", "WrongName", "NoAnswer", "InvalidText", "InvalidName", "InvalidIndex", "InvalidNumber", "InvalidColumns", "InvalidValues", "InvalidCells", "InvalidLost", "InvalidNames", "InvalidRounds", "InvalidKind", "InvalidWish", "InvalidLine", "NotATable", "InvalidDeeds", "UnknownName", "NotLost", "NotBack", "NotReady", "Broken", "InUse"] ["NotReady"]) (mRd 0)) (mCons (m1 (fIsX ["NotRight", "NothingToUndo", "WrongValue", "WrongName", "NoAnswer", "InvalidText", "InvalidName", "InvalidIndex", "InvalidNumber", "InvalidColumns", "InvalidValues", "InvalidCells", "InvalidLost", "InvalidNames", "InvalidRounds", "InvalidKind", "InvalidWish", "InvalidLine", "NotATable", "InvalidDeeds", "UnknownName", "NotLost", "NotBack", "NotReady", "Broken", "InUse"] ["Broken"]) (mRd 0)) (mCons (m1 (fIsX ["NotRight", "NothingToUndo", "WrongValue", "WrongName", "NoAnswer", "InvalidText", "InvalidName", "InvalidIndex", "InvalidNumber", "InvalidColumns", "InvalidValues", "InvalidCells", "InvalidLost", "InvalidNames", "InvalidRounds", "InvalidKind", "InvalidWish", "InvalidLine", "NotATable", "InvalidDeeds", "UnknownName", "NotLost", "NotBack", "NotReady", "Broken", "InUse"] ["InUse"]) (mRd 0)) mNil))))))) (mSeq (mDrop (mMut 2 (mHere 2) isLst (mCons (m1 (fIsX ["NotRight", "NothingToUndo", "WrongValue", "WrongName", "NoAnswer", "InvalidText", "InvalidName", "InvalidIndex", "InvalidNumber", "InvalidColumns", "InvalidValues", "InvalidCells", "InvalidLost", "InvalidNames", "InvalidRounds", "InvalidKind", "InvalidWish", "InvalidLine", "NotATable", "InvalidDeeds", "UnknownName", "NotLost", "NotBack", "NotReady", "Broken", "InUse"] ["NothingToUndo"]) (mRd 0)) mNil) fAppend)) (mSeq (mSet 3 (mFrz (mLst (mCons (m1 (fIsX ["NotRight", "NothingToUndo", "WrongValue", "WrongName", "NoAnswer", "InvalidText", "InvalidName", "InvalidIndex", "InvalidNumber", "InvalidColumns", "InvalidValues", "InvalidCells", "InvalidLost", "InvalidNames", "InvalidRounds", "InvalidKind", "InvalidWish", "InvalidLine", "NotATable", "InvalidDeeds", "UnknownName", "NotLost", "NotBack", "NotReady", "Broken", "InUse"] ["WrongValue", "InvalidText", "InvalidName", "InvalidIndex", "InvalidNumber", "InvalidColumns", "InvalidValues", "InvalidCells", "InvalidLost", "InvalidNames", "InvalidRounds", "InvalidKind", "InvalidWish", "InvalidLine", "NotATable", "InvalidDeeds"]) (mRd 0)) (mCons (m1 (fIsX ["NotRight", "NothingToUndo", "WrongValue", "WrongName", "NoAnswer", "InvalidText", "InvalidName", "InvalidIndex", "InvalidNumber", "InvalidColumns", "InvalidValues", "InvalidCells", "InvalidLost", "InvalidNames", "InvalidRounds", "InvalidKind", "InvalidWish", "InvalidLine", "NotATable", "InvalidDeeds", "UnknownName", "NotLost", "NotBack", "NotReady", "Broken", "InUse"] ["WrongName", "UnknownName", "NotLost"]) (mRd 0)) (mCons (m1 (fIsX ["NotRight", "NothingToUndo", "WrongValue", "WrongName", "NoAnswer", "InvalidText", "InvalidName", "InvalidIndex", "InvalidNumber", "InvalidColumns", "InvalidValues", "InvalidCells", "InvalidLost", "InvalidNames", "InvalidRounds", "InvalidKind", "InvalidWish", "InvalidLine", "NotATable", "InvalidDeeds", "UnknownName", "NotLost", "NotBack", "NotReady", "Broken", "InUse"] ["NotRight", "NothingToUndo", "NoAnswer", "NotBack", "NotReady", "Broken", "InUse"]) (mRd 0)) mNil)))))) (mSeq (mSet 3 (mFrz (m2 fAdd (mRd 3) (mLst (mCons (m1 (fIsX ["NotRight", "NothingToUndo", "WrongValue", "WrongName", "NoAnswer", "InvalidText", "InvalidName", "InvalidIndex", "InvalidNumber", "InvalidColumns", "InvalidValues", "InvalidCells", "InvalidLost", "InvalidNames", "InvalidRounds", "InvalidKind", "InvalidWish", "InvalidLine", "NotATable", "InvalidDeeds", "UnknownName", "NotLost", "NotBack", "NotReady", "Broken", "InUse"] ["WrongValue", "InvalidText", "InvalidName", "InvalidIndex", "InvalidNumber", "InvalidColumns", "InvalidValues", "InvalidCells", "InvalidLost", "InvalidNames", "InvalidRounds", "InvalidKind", "InvalidWish", "InvalidLine", "NotATable", "InvalidDeeds"]) (mRd 0)) (mCons (m1 (fIsX ["NotRight", "NothingToUndo", "WrongValue", "WrongName", "NoAnswer", "InvalidText", "InvalidName", "InvalidIndex", "InvalidNumber", "InvalidColumns", "InvalidValues", "InvalidCells", "InvalidLost", "InvalidNames", "InvalidRounds", "InvalidKind", "InvalidWish", "InvalidLine", "NotATable", "InvalidDeeds", "UnknownName", "NotLost", "NotBack", "NotReady", "Broken", "InUse"] ["WrongName", "UnknownName", "NotLost"]) (mRd 0)) (mCons (m1 (fIsX ["NotRight", "NothingToUndo", "WrongValue", "WrongName", "NoAnswer", "InvalidText", "InvalidName", "InvalidIndex", "InvalidNumber", "InvalidColumns", "InvalidValues", "InvalidCells", "InvalidLost", "InvalidNames", "InvalidRounds", "InvalidKind", "InvalidWish", "InvalidLine", "NotATable", "InvalidDeeds", "UnknownName", "NotLost", "NotBack", "NotReady", "Broken", "InUse"] ["NotRight", "NothingToUndo", "NoAnswer", "NotBack", "NotReady", "Broken", "InUse"]) (mRd 0)) mNil))))))) (mRet (m2 fAdd (mLc (mRng rng1 (mCons (mC (.int 23)) mNil)) (mPut 1) (mTru (m2 fIx (mRd 2) (mRd 1))) (mIm (mRd 1)) [1]) (mLc (mRng rng1 (mCons (mC (.int 6)) mNil)) (mPut 1) (mTru (m2 fIx (mRd 3) (mRd 1))) (mFrz (m2 fAdd (mC (.int 50)) (mRd 1))) [1])))))))))))))
def c__law_sorts : Cal := runB 1 4 [] m__law_sorts
theorem f__law_sorts (c : SaysM fa fn K) (KX : K.In h) (Gm : h.Ns mainGlobals mg) : ∃ fd, (∀ base : Heap, FnG PGFr w K mg base CX0 2 (ga K "_law_sorts") fd ["_law_e"] (spT (GG K) [] c__law_sorts)) ∧ Binds K fd ["_law_e"] [] ∧ KwB K fd ["_law_e"] 0 ∧ FunD K "_law_sorts" "_law_sorts" (defArgs (top 39)) (defBody (top 39)) (defScope (top 39)) [] [] (ga K "_law_sorts") fd := by
  obtain ⟨fd, FD⟩ := c.defs.def_ 0
  have h_free_isinstance := free_ok KX Gm (c.fact 21)
  have h_glo_InvalidKind := glo_ok KX Gm (c.fact 22)
  have h_excs_all := (c.fact 23)
  have h_isx_InvalidKind := (c.fact 24)
  have h_glo_InvalidName := glo_ok KX Gm (c.fact 25)
  have h_isx_InvalidName := (c.fact 26)
  have h_glo_InvalidText := glo_ok KX Gm (c.fact 27)
  have h_isx_InvalidText := (c.fact 28)
  have h_glo_InvalidNumber := glo_ok KX Gm (c.fact 29)
  have h_isx_InvalidNumber := (c.fact 30)
  have h_glo_InvalidIndex := glo_ok KX Gm (c.fact 31)
  have h_isx_InvalidIndex := (c.fact 32)
  have h_glo_InvalidWish := glo_ok KX Gm (c.fact 33)
  have h_isx_InvalidWish := (c.fact 34)
  have h_glo_InvalidColumns := glo_ok KX Gm (c.fact 35)
  have h_isx_InvalidColumns := (c.fact 36)
  have h_glo_NotATable := glo_ok KX Gm (c.fact 37)
  have h_isx_NotATable := (c.fact 38)
  have h_glo_InvalidLine := glo_ok KX Gm (c.fact 39)
  have h_isx_InvalidLine := (c.fact 40)
  have h_glo_InvalidLost := glo_ok KX Gm (c.fact 41)
  have h_isx_InvalidLost := (c.fact 42)
  have h_glo_InvalidCells := glo_ok KX Gm (c.fact 43)
  have h_isx_InvalidCells := (c.fact 44)
  have h_glo_InvalidValues := glo_ok KX Gm (c.fact 45)
  have h_isx_InvalidValues := (c.fact 46)
  have h_glo_InvalidDeeds := glo_ok KX Gm (c.fact 47)
  have h_isx_InvalidDeeds := (c.fact 48)
  have h_glo_InvalidRounds := glo_ok KX Gm (c.fact 49)
  have h_isx_InvalidRounds := (c.fact 50)
  have h_glo_InvalidNames := glo_ok KX Gm (c.fact 51)
  have h_isx_InvalidNames := (c.fact 52)
  have h_glo_NotRight := glo_ok KX Gm (c.fact 53)
  have h_isx_NotRight := (c.fact 54)
  have h_glo_NotLost := glo_ok KX Gm (c.fact 55)
  have h_isx_NotLost := (c.fact 56)
  have h_glo_UnknownName := glo_ok KX Gm (c.fact 57)
  have h_isx_UnknownName := (c.fact 58)
  have h_glo_InUse := glo_ok KX Gm (c.fact 59)
  have h_isx_InUse := (c.fact 60)
  have h_glo_Broken := glo_ok KX Gm (c.fact 61)
  have h_isx_Broken := (c.fact 62)
  have h_glo_NotReady := glo_ok KX Gm (c.fact 63)
  have h_isx_NotReady := (c.fact 64)
  have h_glo_NotBack := glo_ok KX Gm (c.fact 65)
  have h_isx_NotBack := (c.fact 66)
  have h_glo_NothingToUndo := glo_ok KX Gm (c.fact 67)
  have h_isx_NothingToUndo := (c.fact 68)
  have h_glo_NoAnswer := glo_ok KX Gm (c.fact 69)
  have h_isx_NoAnswer := (c.fact 70)
  have h_glo_WrongName := glo_ok KX Gm (c.fact 71)
  have h_isx_WrongName := (c.fact 72)
  have h_glo_WrongValue := glo_ok KX Gm (c.fact 73)
  have h_isx_WrongValue := (c.fact 74)
  have h_free_ArithmeticError := free_ok KX Gm (c.fact 75)
  have h_isxt_ArithmeticError := (c.fact 76)
  have h_free_LookupError := free_ok KX Gm (c.fact 77)
  have h_isxt_LookupError := (c.fact 78)
  have h_free_ValueError := free_ok KX Gm (c.fact 79)
  have h_isxt_ValueError := (c.fact 80)
  have h_free_range := free_ok KX Gm (c.fact 81)
  refine ⟨fd, fun base => ?bd0, FunD.bindsN FD fun kV doc pm an cdv ct us hl => ?b1, FunD.kwb FD fun kV doc pm an cdv ct us ws hl hl2 => ?b2, FD⟩
  case bd0 =>
    refine fn_g (N := N__law_sorts) (m := m__law_sorts) FD ⟨rfl, rfl, rfl, by decide +kernel, rfl, by decide +kernel, by decide +kernel⟩ (by decide) ?_
    intro cdv A outer s H E hG hr
    have hN : (cxOf CX0 PGFr w K mg base N__law_sorts "_law_sorts" (defScope (top 39)) (ga K "_law_sorts") cdv A outer s H E).nox.N.Nodup := (by decide : N__law_sorts.Nodup)
    exact ⟨_, _, (tss_cons (s_set 2 (tm_lst (tms_cons (tm_isX (g := (GG K)) (cV := .ref (ga K "InvalidText")) h_free_isinstance (by exact pe_glob rfl h_glo_InvalidText rfl) (fun _ r => by cases r; rfl) (isX_ok h_excs_all h_isx_InvalidText) (v 0)) (tms_cons (tm_isX (g := (GG K)) (cV := .ref (ga K "InvalidName")) h_free_isinstance (by exact pe_glob rfl h_glo_InvalidName rfl) (fun _ r => by cases r; rfl) (isX_ok h_excs_all h_isx_InvalidName) (v 0)) (tms_cons (tm_isX (g := (GG K)) (cV := .ref (ga K "InvalidKind")) h_free_isinstance (by exact pe_glob rfl h_glo_InvalidKind rfl) (fun _ r => by cases r; rfl) (isX_ok h_excs_all h_isx_InvalidKind) (v 0)) tms_nil)))) hN) (tss_cons (s_set 2 (x_add (v 2) (tm_lst (tms_cons (tm_isX (g := (GG K)) (cV := .ref (ga K "InvalidWish")) h_free_isinstance (by exact pe_glob rfl h_glo_InvalidWish rfl) (fun _ r => by cases r; rfl) (isX_ok h_excs_all h_isx_InvalidWish) (v 0)) (tms_cons (tm_isX (g := (GG K)) (cV := .ref (ga K "InvalidIndex")) h_free_isinstance (by exact pe_glob rfl h_glo_InvalidIndex rfl) (fun _ r => by cases r; rfl) (isX_ok h_excs_all h_isx_InvalidIndex) (v 0)) (tms_cons (tm_isX (g := (GG K)) (cV := .ref (ga K "InvalidNumber")) h_free_isinstance (by exact pe_glob rfl h_glo_InvalidNumber rfl) (fun _ r => by cases r; rfl) (isX_ok h_excs_all h_isx_InvalidNumber) (v 0)) tms_nil))))) hN) (tss_cons (s_set 2 (x_add (v 2) (tm_lst (tms_cons (tm_isX (g := (GG K)) (cV := .ref (ga K "InvalidLine")) h_free_isinstance (by exact pe_glob rfl h_glo_InvalidLine rfl) (fun _ r => by cases r; rfl) (isX_ok h_excs_all h_isx_InvalidLine) (v 0)) (tms_cons (tm_isX (g := (GG K)) (cV := .ref (ga K "NotATable")) h_free_isinstance (by exact pe_glob rfl h_glo_NotATable rfl) (fun _ r => by cases r; rfl) (isX_ok h_excs_all h_isx_NotATable) (v 0)) (tms_cons (tm_isX (g := (GG K)) (cV := .ref (ga K "InvalidColumns")) h_free_isinstance (by exact pe_glob rfl h_glo_InvalidColumns rfl) (fun _ r => by cases r; rfl) (isX_ok h_excs_all h_isx_InvalidColumns) (v 0)) tms_nil))))) hN) (tss_cons (s_set 2 (x_add (v 2) (tm_lst (tms_cons (tm_isX (g := (GG K)) (cV := .ref (ga K "InvalidValues")) h_free_isinstance (by exact pe_glob rfl h_glo_InvalidValues rfl) (fun _ r => by cases r; rfl) (isX_ok h_excs_all h_isx_InvalidValues) (v 0)) (tms_cons (tm_isX (g := (GG K)) (cV := .ref (ga K "InvalidCells")) h_free_isinstance (by exact pe_glob rfl h_glo_InvalidCells rfl) (fun _ r => by cases r; rfl) (isX_ok h_excs_all h_isx_InvalidCells) (v 0)) (tms_cons (tm_isX (g := (GG K)) (cV := .ref (ga K "InvalidLost")) h_free_isinstance (by exact pe_glob rfl h_glo_InvalidLost rfl) (fun _ r => by cases r; rfl) (isX_ok h_excs_all h_isx_InvalidLost) (v 0)) tms_nil))))) hN) (tss_cons (s_set 2 (x_add (v 2) (tm_lst (tms_cons (tm_isX (g := (GG K)) (cV := .ref (ga K "InvalidNames")) h_free_isinstance (by exact pe_glob rfl h_glo_InvalidNames rfl) (fun _ r => by cases r; rfl) (isX_ok h_excs_all h_isx_InvalidNames) (v 0)) (tms_cons (tm_isX (g := (GG K)) (cV := .ref (ga K "InvalidRounds")) h_free_isinstance (by exact pe_glob rfl h_glo_InvalidRounds rfl) (fun _ r => by cases r; rfl) (isX_ok h_excs_all h_isx_InvalidRounds) (v 0)) (tms_cons (tm_isX (g := (GG K)) (cV := .ref (ga K "InvalidDeeds")) h_free_isinstance (by exact pe_glob rfl h_glo_InvalidDeeds rfl) (fun _ r => by cases r; rfl) (isX_ok h_excs_all h_isx_InvalidDeeds) (v 0)) tms_nil))))) hN) (tss_cons (s_set 2 (x_add (v 2) (tm_lst (tms_cons (tm_isX (g := (GG K)) (cV := .ref (ga K "UnknownName")) h_free_isinstance (by exact pe_glob rfl h_glo_UnknownName rfl) (fun _ r => by cases r; rfl) (isX_ok h_excs_all h_isx_UnknownName) (v 0)) (tms_cons (tm_isX (g := (GG K)) (cV := .ref (ga K "NotLost")) h_free_isinstance (by exact pe_glob rfl h_glo_NotLost rfl) (fun _ r => by cases r; rfl) (isX_ok h_excs_all h_isx_NotLost) (v 0)) (tms_cons (tm_isX (g := (GG K)) (cV := .ref (ga K "NotRight")) h_free_isinstance (by exact pe_glob rfl h_glo_NotRight rfl) (fun _ r => by cases r; rfl) (isX_ok h_excs_all h_isx_NotRight) (v 0)) tms_nil))))) hN) (tss_cons (s_set 2 (x_add (v 2) (tm_lst (tms_cons (tm_isX (g := (GG K)) (cV := .ref (ga K "NotBack")) h_free_isinstance (by exact pe_glob rfl h_glo_NotBack rfl) (fun _ r => by cases r; rfl) (isX_ok h_excs_all h_isx_NotBack) (v 0)) (tms_cons (tm_isX (g := (GG K)) (cV := .ref (ga K "NotReady")) h_free_isinstance (by exact pe_glob rfl h_glo_NotReady rfl) (fun _ r => by cases r; rfl) (isX_ok h_excs_all h_isx_NotReady) (v 0)) (tms_cons (tm_isX (g := (GG K)) (cV := .ref (ga K "Broken")) h_free_isinstance (by exact pe_glob rfl h_glo_Broken rfl) (fun _ r => by cases r; rfl) (isX_ok h_excs_all h_isx_Broken) (v 0)) (tms_cons (tm_isX (g := (GG K)) (cV := .ref (ga K "InUse")) h_free_isinstance (by exact pe_glob rfl h_glo_InUse rfl) (fun _ r => by cases r; rfl) (isX_ok h_excs_all h_isx_InUse) (v 0)) tms_nil)))))) hN) (tss_cons (ts_expr (l_append (hv 2) (tm_isX (g := (GG K)) (cV := .ref (ga K "NothingToUndo")) h_free_isinstance (by exact pe_glob rfl h_glo_NothingToUndo rfl) (fun _ r => by cases r; rfl) (isX_ok h_excs_all h_isx_NothingToUndo) (v 0)))) (tss_cons (s_set 3 (tm_frz (tm_lst (tms_cons (tm_isX (g := (GG K)) (cV := .ref (ga K "WrongValue")) h_free_isinstance (by exact pe_glob rfl h_glo_WrongValue rfl) (fun _ r => by cases r; rfl) (isX_ok h_excs_all h_isx_WrongValue) (v 0)) (tms_cons (tm_isX (g := (GG K)) (cV := .ref (ga K "WrongName")) h_free_isinstance (by exact pe_glob rfl h_glo_WrongName rfl) (fun _ r => by cases r; rfl) (isX_ok h_excs_all h_isx_WrongName) (v 0)) (tms_cons (tm_isX (g := (GG K)) (cV := .ref (ga K "NoAnswer")) h_free_isinstance (by exact pe_glob rfl h_glo_NoAnswer rfl) (fun _ r => by cases r; rfl) (isX_ok h_excs_all h_isx_NoAnswer) (v 0)) tms_nil))))) hN) (tss_cons (s_set 3 (tm_frz (x_add (v 3) (tm_lst (tms_cons (tm_isX (g := (GG K)) (cV := .ty "ValueError") h_free_isinstance (by exact pe_bltn rfl h_free_ValueError rfl rfl) (fun _ r => by cases r; rfl) (isXt_ok h_excs_all h_isxt_ValueError) (v 0)) (tms_cons (tm_isX (g := (GG K)) (cV := .ty "LookupError") h_free_isinstance (by exact pe_bltn rfl h_free_LookupError rfl rfl) (fun _ r => by cases r; rfl) (isXt_ok h_excs_all h_isxt_LookupError) (v 0)) (tms_cons (tm_isX (g := (GG K)) (cV := .ty "ArithmeticError") h_free_isinstance (by exact pe_bltn rfl h_free_ArithmeticError rfl rfl) (fun _ r => by cases r; rfl) (isXt_ok h_excs_all h_isxt_ArithmeticError) (v 0)) tms_nil)))))) hN) (tss_one (ts_ret (x_add (x_lc [("_law_k", 1)] rfl hN (blk_of (by kernel_rfl)) (it_range1 (by rfl) h_free_range (tms_cons tm_int tms_nil)) (fun _ _ _ _ _ => (gN 1 hN)) (fun _ _ _ _ _ => (tmts_one (tmt_tru rfl (x_ix hr (v 2) (v 1))))) (fun _ _ _ _ _ => (vi 1))) (x_lc [("_law_k", 1)] rfl hN (blk_of (by kernel_rfl)) (it_range1 (by rfl) h_free_range (tms_cons tm_int tms_nil)) (fun _ _ _ _ _ => (gN 1 hN)) (fun _ _ _ _ _ => (tmts_one (tmt_tru rfl (x_ix hr (v 3) (v 1))))) (fun _ _ _ _ _ => (tm_frz (x_add tm_int (v 1)))))))))))))))))), by decide⟩
  case b1 => exact match us, hl with | [_], _ => rfl
  case b2 => exact match us, ws, hl, hl2 with | [], [_], _, _ => rfl
def N__law_dip : List Str := ["_law_jar_here", "_law_top", "_law_digit"]
def m__law_dip : M Fl := (mSeq (mSetI 0 (mHere 0) (mC (.int 2)) (mFrz (m2 fAdd (m2 fIx (mRd 0) (mC (.int 2))) (mC (.int 1))))) (mSeq (mIfS (asB (m2 fGt (m2 fIx (mRd 0) (mC (.int 0))) (mC (.int 0)))) (mSeq (mSetP 0 (mHere 0) (mC (.int 0)) 2 (mF (c2 fDivmod) (mCons (m2 fIx (mRd 0) (mC (.int 0))) (mCons (mRd 1) mNil)))) (mRet (mIm (mRd 2)))) (ret .nx)) (mSeq (mSetI 0 (mHere 0) (mC (.int 1)) (m2 (fII iMod) (mF (c1 fInt) (mCons (m2 fAdd (m2 fMul (m2 fIx (mRd 0) (mC (.int 1))) (mC (.int 48271))) (m2 fMul (mC (.int 30011)) (m2 fIx (mRd 0) (mC (.int 2))))) mNil)) (mC (.int 2147483399)))) (mRet (m2 (fII iMod) (mF (c1 fInt) (mCons (m2 (fII iDiv) (m2 fIx (mRd 0) (mC (.int 1))) (mC (.int 512))) mNil)) (mRd 1))))))
def c__law_dip : Cal := runB 2 3 [0] m__law_dip
theorem f__law_dip (c : SaysM fa fn K) (KX : K.In h) (Gm : h.Ns mainGlobals mg) : ∃ fd, (∀ base : Heap, FnG PGFr w K mg base CX0 2 (ga K "_law_dip") fd ["_law_jar_here", "_law_top"] (spT (GG K) [0] c__law_dip)) ∧ Binds K fd ["_law_jar_here", "_law_top"] [] ∧ KwB K fd ["_law_jar_here", "_law_top"] 0 ∧ FunD K "_law_dip" "_law_dip" (defArgs (top 36)) (defBody (top 36)) (defScope (top 36)) [] [] (ga K "_law_dip") fd := by
  obtain ⟨fd, FD⟩ := c.defs.def_ 1
  have h_free_divmod := free_ok KX Gm (c.fact 82)
  have h_free_int := free_ok KX Gm (c.fact 83)
  refine ⟨fd, fun base => ?bd0, FunD.bindsN FD fun kV doc pm an cdv ct us hl => ?b1, FunD.kwb FD fun kV doc pm an cdv ct us ws hl hl2 => ?b2, FD⟩
  case bd0 =>
    refine fn_g (N := N__law_dip) (m := m__law_dip) FD ⟨rfl, rfl, rfl, by decide +kernel, rfl, by decide +kernel, by decide +kernel⟩ (by decide) ?_
    intro cdv A outer s H E hG hr
    have hN : (cxOf CX0 PGFr w K mg base N__law_dip "_law_dip" (defScope (top 36)) (ga K "_law_dip") cdv A outer s H E).nox.N.Nodup := (by decide : N__law_dip.Nodup)
    exact ⟨_, _, (tss_cons (ts_setI (tm_frz (x_add (x_ix hr (v 0) tm_int) tm_int)) (hv 0) tm_int) (tss_cons (ts_if (t_cmp cGt (x_ix hr (v 0) tm_int) tm_int) (tss_cons (ts_setP rfl rfl (b_divmod h_free_divmod (tms_cons (x_ix hr (v 0) tm_int) (tms_cons (v 1) tms_nil))) (hv 0) tm_int (pg_name hN rfl (.inl rfl) (.inl rfl))) (tss_one (ts_ret (vi 2)))) tss_nil) (tss_cons (ts_setI (x_mod (b_int h_free_int (tms_cons (x_add (x_mul (x_ix hr (v 0) tm_int) tm_int) (x_mul tm_int (x_ix hr (v 0) tm_int))) tms_nil)) tm_int) (hv 0) tm_int) (tss_one (ts_ret (x_mod (b_int h_free_int (tms_cons (x_div (x_ix hr (v 0) tm_int) tm_int) tms_nil)) (v 1))))))), by decide⟩
  case b1 => exact match us, hl with | [_, _], _ => rfl
  case b2 => exact match us, ws, hl, hl2 with | [], [_, _], _, _ => rfl
def N__law_one_of : List Str := ["_law_jar_here", "_law_some"]
def m__law_one_of : M Fl := (mRet (mIm (m2 fIx (mRd 1) (mCall c__law_dip [(some 0), none] (mCons (mLn 0) (mCons (mF (c1 fLen) (mCons (mRd 1) mNil)) mNil))))))
def c__law_one_of : Cal := runB 2 2 [0] m__law_one_of
theorem f__law_one_of (c : SaysM fa fn K) (KX : K.In h) (Gm : h.Ns mainGlobals mg) : ∃ fd, (∀ base : Heap, FnG PGFr w K mg base CX0 4 (ga K "_law_one_of") fd ["_law_jar_here", "_law_some"] (spT (GG K) [0] c__law_one_of)) ∧ Binds K fd ["_law_jar_here", "_law_some"] [] ∧ KwB K fd ["_law_jar_here", "_law_some"] 0 ∧ FunD K "_law_one_of" "_law_one_of" (defArgs (top 37)) (defBody (top 37)) (defScope (top 37)) [] [] (ga K "_law_one_of") fd := by
  obtain ⟨fd, FD⟩ := c.defs.def_ 2
  have h_free_len := free_ok KX Gm (c.fact 84)
  obtain ⟨fd__law_dip, F__law_dip, b__law_dip, w__law_dip, d__law_dip⟩ := f__law_dip (w := w) c KX Gm
  have k__law_dip := d__law_dip.kp
  have g__law_dip := glo_ok KX Gm (c.fact 85)
  refine ⟨fd, fun base => ?bd0, FunD.bindsN FD fun kV doc pm an cdv ct us hl => ?b1, FunD.kwb FD fun kV doc pm an cdv ct us ws hl hl2 => ?b2, FD⟩
  case bd0 =>
    have F__law_dip := F__law_dip base
    refine fn_g (N := N__law_one_of) (m := m__law_one_of) FD ⟨rfl, rfl, rfl, by decide +kernel, rfl, by decide +kernel, by decide +kernel⟩ (by decide) ?_
    intro cdv A outer s H E hG hr
    have hN : (cxOf CX0 PGFr w K mg base N__law_one_of "_law_one_of" (defScope (top 37)) (ga K "_law_one_of") cdv A outer s H E).nox.N.Nodup := (by decide : N__law_one_of.Nodup)
    exact ⟨_, _, (tss_one (ts_ret (tm_im (x_ix hr (v 1) (tm_call (F__law_dip.monoG (by decide)) hG hr (by rfl) g__law_dip k__law_dip b__law_dip (tmc_lend (nv 0) (tmc_arg (b_len h_free_len (tms_cons (v 1) tms_nil)) tmc_nil))))))), by decide⟩
  case b1 => exact match us, hl with | [_, _], _ => rfl
  case b2 => exact match us, ws, hl, hl2 with | [], [_, _], _, _ => rfl
def N__law_given_errors : List Str := ["_law_thing", "_law_found"]
def m__law_given_errors : M Fl := (mSeq (mSet 1 (mLst (mCons (mFrz (mLst (mCons (mFrz (mExV "InvalidText" "given" (mCons (mIm (mRd 0)) mNil))) (mCons (mFrz (mExV "InvalidText" "given" (mCons (mIm (mRd 0)) mNil))) mNil)))) (mCons (mFrz (mLst (mCons (mFrz (mExV "InvalidName" "given" (mCons (mIm (mRd 0)) mNil))) (mCons (mFrz (mExV "InvalidName" "given" (mCons (mIm (mRd 0)) mNil))) mNil)))) mNil)))) (mSeq (mSet 1 (m2 fAdd (mRd 1) (mLst (mCons (mFrz (mLst (mCons (mFrz (mExV "InvalidKind" "given" (mCons (mIm (mRd 0)) mNil))) (mCons (mFrz (mExV "InvalidKind" "given" (mCons (mIm (mRd 0)) mNil))) mNil)))) (mCons (mFrz (mLst (mCons (mFrz (mExV "InvalidWish" "given" (mCons (mIm (mRd 0)) mNil))) (mCons (mFrz (mExV "InvalidWish" "given" (mCons (mIm (mRd 0)) mNil))) mNil)))) mNil))))) (mSeq (mDrop (mMut 1 (mHere 1) isLst (mCons (mFrz (mLst (mCons (mFrz (mExV "InvalidIndex" "given" (mCons (mIm (mRd 0)) mNil))) (mCons (mFrz (mExV "InvalidIndex" "given" (mCons (mIm (mRd 0)) mNil))) mNil)))) mNil) fAppend)) (mSeq (mDrop (mMut 1 (mHere 1) isLst (mCons (mFrz (mLst (mCons (mFrz (mExV "InvalidNumber" "given" (mCons (mIm (mRd 0)) mNil))) (mCons (mFrz (mExV "InvalidNumber" "given" (mCons (mIm (mRd 0)) mNil))) mNil)))) mNil) fAppend)) (mRet (m2 fAdd (mRd 1) (mLst (mCons (mFrz (mLst (mCons (mFrz (mExV "InvalidLine" "given" (mCons (mIm (mRd 0)) mNil))) (mCons (mFrz (mExV "InvalidLine" "given" (mCons (mIm (mRd 0)) mNil))) mNil)))) (mCons (mFrz (mLst (mCons (mFrz (mExV "NotATable" "given" (mCons (mIm (mRd 0)) mNil))) (mCons (mFrz (mExV "NotATable" "given" (mCons (mIm (mRd 0)) mNil))) mNil)))) mNil)))))))))
def c__law_given_errors : Cal := runB 1 2 [] m__law_given_errors
theorem f__law_given_errors (c : SaysM fa fn K) (KX : K.In h) (Gm : h.Ns mainGlobals mg) : ∃ fd, (∀ base : Heap, FnG PGFr w K mg base CX0 3 (ga K "_law_given_errors") fd ["_law_thing"] (spT (GG K) [] c__law_given_errors)) ∧ Binds K fd ["_law_thing"] [] ∧ KwB K fd ["_law_thing"] 0 ∧ FunD K "_law_given_errors" "_law_given_errors" (defArgs (top 40)) (defBody (top 40)) (defScope (top 40)) [] [] (ga K "_law_given_errors") fd := by
  obtain ⟨fd, FD⟩ := c.defs.def_ 3
  have h_glo_InvalidName := glo_ok KX Gm (c.fact 25)
  have h_ini_InvalidName_given := iniB_ok (c.fact 86)
  have h_oexa_InvalidName_given_ValueError := (c.fact 1)
  have h_glo_InvalidText := glo_ok KX Gm (c.fact 27)
  have h_ini_InvalidText_given := iniB_ok (c.fact 87)
  have h_oexa_InvalidText_given_ValueError := (c.fact 0)
  have h_glo_InvalidWish := glo_ok KX Gm (c.fact 33)
  have h_ini_InvalidWish_given := iniB_ok (c.fact 88)
  have h_oexa_InvalidWish_given_ValueError := (c.fact 3)
  have h_glo_InvalidKind := glo_ok KX Gm (c.fact 22)
  have h_ini_InvalidKind_given := iniB_ok (c.fact 89)
  have h_oexa_InvalidKind_given_ValueError := (c.fact 2)
  have h_glo_InvalidIndex := glo_ok KX Gm (c.fact 31)
  have h_ini_InvalidIndex_given := iniB_ok (c.fact 90)
  have h_oexa_InvalidIndex_given_ValueError := (c.fact 4)
  have h_glo_InvalidNumber := glo_ok KX Gm (c.fact 29)
  have h_ini_InvalidNumber_given := iniB_ok (c.fact 91)
  have h_oexa_InvalidNumber_given_ValueError := (c.fact 5)
  have h_glo_NotATable := glo_ok KX Gm (c.fact 37)
  have h_ini_NotATable_given := iniB_ok (c.fact 92)
  have h_oexa_NotATable_given_ValueError := (c.fact 7)
  have h_glo_InvalidLine := glo_ok KX Gm (c.fact 39)
  have h_ini_InvalidLine_given := iniB_ok (c.fact 93)
  have h_oexa_InvalidLine_given_ValueError := (c.fact 6)
  obtain ⟨fdI_InvalidName, FI_InvalidName, bI_InvalidName, wI_InvalidName⟩ := fI_InvalidName (w := w) c KX Gm
  obtain ⟨fdI_InvalidText, FI_InvalidText, bI_InvalidText, wI_InvalidText⟩ := fI_InvalidText (w := w) c KX Gm
  obtain ⟨fdI_InvalidWish, FI_InvalidWish, bI_InvalidWish, wI_InvalidWish⟩ := fI_InvalidWish (w := w) c KX Gm
  obtain ⟨fdI_InvalidKind, FI_InvalidKind, bI_InvalidKind, wI_InvalidKind⟩ := fI_InvalidKind (w := w) c KX Gm
  obtain ⟨fdI_InvalidIndex, FI_InvalidIndex, bI_InvalidIndex, wI_InvalidIndex⟩ := fI_InvalidIndex (w := w) c KX Gm
  obtain ⟨fdI_InvalidNumber, FI_InvalidNumber, bI_InvalidNumber, wI_InvalidNumber⟩ := fI_InvalidNumber (w := w) c KX Gm
  obtain ⟨fdI_NotATable, FI_NotATable, bI_NotATable, wI_NotATable⟩ := fI_NotATable (w := w) c KX Gm
  obtain ⟨fdI_InvalidLine, FI_InvalidLine, bI_InvalidLine, wI_InvalidLine⟩ := fI_InvalidLine (w := w) c KX Gm
  refine ⟨fd, fun base => ?bd0, FunD.bindsN FD fun kV doc pm an cdv ct us hl => ?b1, FunD.kwb FD fun kV doc pm an cdv ct us ws hl hl2 => ?b2, FD⟩
  case bd0 =>
    have FI_InvalidName := FI_InvalidName base
    have FI_InvalidText := FI_InvalidText base
    have FI_InvalidWish := FI_InvalidWish base
    have FI_InvalidKind := FI_InvalidKind base
    have FI_InvalidIndex := FI_InvalidIndex base
    have FI_InvalidNumber := FI_InvalidNumber base
    have FI_NotATable := FI_NotATable base
    have FI_InvalidLine := FI_InvalidLine base
    refine fn_g (N := N__law_given_errors) (m := m__law_given_errors) FD ⟨rfl, rfl, rfl, by decide +kernel, rfl, by decide +kernel, by decide +kernel⟩ (by decide) ?_
    intro cdv A outer s H E hG hr
    have hN : (cxOf CX0 PGFr w K mg base N__law_given_errors "_law_given_errors" (defScope (top 40)) (ga K "_law_given_errors") cdv A outer s H E).nox.N.Nodup := (by decide : N__law_given_errors.Nodup)
    exact ⟨_, _, (tss_cons (s_set 1 (tm_lst (tms_cons (tm_frz (tm_lst (tms_cons (tm_frz (tm_exV PySem.F.excBase_ValueError (oexA_ok h_oexa_InvalidText_given_ValueError) h_ini_InvalidText_given.1 h_ini_InvalidText_given.2.1 FI_InvalidText (hr.mono (by decide)) bI_InvalidText h_glo_InvalidText (tms_cons (vi 0) tms_nil))) (tms_cons (tm_frz (tm_exVK PySem.F.excBase_ValueError (oexA_ok h_oexa_InvalidText_given_ValueError) h_ini_InvalidText_given.1 h_ini_InvalidText_given.2.1 FI_InvalidText (hr.mono (by decide)) wI_InvalidText h_glo_InvalidText (tkc_arg (vi 0) tkc_nil))) tms_nil)))) (tms_cons (tm_frz (tm_lst (tms_cons (tm_frz (tm_exV PySem.F.excBase_ValueError (oexA_ok h_oexa_InvalidName_given_ValueError) h_ini_InvalidName_given.1 h_ini_InvalidName_given.2.1 FI_InvalidName (hr.mono (by decide)) bI_InvalidName h_glo_InvalidName (tms_cons (vi 0) tms_nil))) (tms_cons (tm_frz (tm_exVK PySem.F.excBase_ValueError (oexA_ok h_oexa_InvalidName_given_ValueError) h_ini_InvalidName_given.1 h_ini_InvalidName_given.2.1 FI_InvalidName (hr.mono (by decide)) wI_InvalidName h_glo_InvalidName (tkc_arg (vi 0) tkc_nil))) tms_nil)))) tms_nil))) hN) (tss_cons (s_set 1 (x_add (v 1) (tm_lst (tms_cons (tm_frz (tm_lst (tms_cons (tm_frz (tm_exV PySem.F.excBase_ValueError (oexA_ok h_oexa_InvalidKind_given_ValueError) h_ini_InvalidKind_given.1 h_ini_InvalidKind_given.2.1 FI_InvalidKind (hr.mono (by decide)) bI_InvalidKind h_glo_InvalidKind (tms_cons (vi 0) tms_nil))) (tms_cons (tm_frz (tm_exVK PySem.F.excBase_ValueError (oexA_ok h_oexa_InvalidKind_given_ValueError) h_ini_InvalidKind_given.1 h_ini_InvalidKind_given.2.1 FI_InvalidKind (hr.mono (by decide)) wI_InvalidKind h_glo_InvalidKind (tkc_arg (vi 0) tkc_nil))) tms_nil)))) (tms_cons (tm_frz (tm_lst (tms_cons (tm_frz (tm_exV PySem.F.excBase_ValueError (oexA_ok h_oexa_InvalidWish_given_ValueError) h_ini_InvalidWish_given.1 h_ini_InvalidWish_given.2.1 FI_InvalidWish (hr.mono (by decide)) bI_InvalidWish h_glo_InvalidWish (tms_cons (vi 0) tms_nil))) (tms_cons (tm_frz (tm_exVK PySem.F.excBase_ValueError (oexA_ok h_oexa_InvalidWish_given_ValueError) h_ini_InvalidWish_given.1 h_ini_InvalidWish_given.2.1 FI_InvalidWish (hr.mono (by decide)) wI_InvalidWish h_glo_InvalidWish (tkc_arg (vi 0) tkc_nil))) tms_nil)))) tms_nil)))) hN) (tss_cons (ts_expr (l_append (hv 1) (tm_frz (tm_lst (tms_cons (tm_frz (tm_exV PySem.F.excBase_ValueError (oexA_ok h_oexa_InvalidIndex_given_ValueError) h_ini_InvalidIndex_given.1 h_ini_InvalidIndex_given.2.1 FI_InvalidIndex (hr.mono (by decide)) bI_InvalidIndex h_glo_InvalidIndex (tms_cons (vi 0) tms_nil))) (tms_cons (tm_frz (tm_exVK PySem.F.excBase_ValueError (oexA_ok h_oexa_InvalidIndex_given_ValueError) h_ini_InvalidIndex_given.1 h_ini_InvalidIndex_given.2.1 FI_InvalidIndex (hr.mono (by decide)) wI_InvalidIndex h_glo_InvalidIndex (tkc_arg (vi 0) tkc_nil))) tms_nil)))))) (tss_cons (ts_expr (l_append (hv 1) (tm_frz (tm_lst (tms_cons (tm_frz (tm_exV PySem.F.excBase_ValueError (oexA_ok h_oexa_InvalidNumber_given_ValueError) h_ini_InvalidNumber_given.1 h_ini_InvalidNumber_given.2.1 FI_InvalidNumber (hr.mono (by decide)) bI_InvalidNumber h_glo_InvalidNumber (tms_cons (vi 0) tms_nil))) (tms_cons (tm_frz (tm_exVK PySem.F.excBase_ValueError (oexA_ok h_oexa_InvalidNumber_given_ValueError) h_ini_InvalidNumber_given.1 h_ini_InvalidNumber_given.2.1 FI_InvalidNumber (hr.mono (by decide)) wI_InvalidNumber h_glo_InvalidNumber (tkc_arg (vi 0) tkc_nil))) tms_nil)))))) (tss_one (ts_ret (x_add (v 1) (tm_lst (tms_cons (tm_frz (tm_lst (tms_cons (tm_frz (tm_exV PySem.F.excBase_ValueError (oexA_ok h_oexa_InvalidLine_given_ValueError) h_ini_InvalidLine_given.1 h_ini_InvalidLine_given.2.1 FI_InvalidLine (hr.mono (by decide)) bI_InvalidLine h_glo_InvalidLine (tms_cons (vi 0) tms_nil))) (tms_cons (tm_frz (tm_exVK PySem.F.excBase_ValueError (oexA_ok h_oexa_InvalidLine_given_ValueError) h_ini_InvalidLine_given.1 h_ini_InvalidLine_given.2.1 FI_InvalidLine (hr.mono (by decide)) wI_InvalidLine h_glo_InvalidLine (tkc_arg (vi 0) tkc_nil))) tms_nil)))) (tms_cons (tm_frz (tm_lst (tms_cons (tm_frz (tm_exV PySem.F.excBase_ValueError (oexA_ok h_oexa_NotATable_given_ValueError) h_ini_NotATable_given.1 h_ini_NotATable_given.2.1 FI_NotATable (hr.mono (by decide)) bI_NotATable h_glo_NotATable (tms_cons (vi 0) tms_nil))) (tms_cons (tm_frz (tm_exVK PySem.F.excBase_ValueError (oexA_ok h_oexa_NotATable_given_ValueError) h_ini_NotATable_given.1 h_ini_NotATable_given.2.1 FI_NotATable (hr.mono (by decide)) wI_NotATable h_glo_NotATable (tkc_arg (vi 0) tkc_nil))) tms_nil)))) tms_nil)))))))))), by decide⟩
  case b1 => exact match us, hl with | [_], _ => rfl
  case b2 => exact match us, ws, hl, hl2 with | [], [_], _, _ => rfl
def N__law_index_errors : List Str := ["_law_thing", "_law_found"]
def m__law_index_errors : M Fl := (mSeq (mSet 1 (mLst (mCons (mFrz (mLst (mCons (mFrz (mExV "InvalidColumns" "index" (mCons (mIm (mRd 0)) mNil))) (mCons (mFrz (mExV "InvalidColumns" "index" (mCons (mIm (mRd 0)) mNil))) mNil)))) mNil))) (mSeq (mDrop (mMut 1 (mHere 1) isLst (mCons (mFrz (mLst (mCons (mFrz (mExV "InvalidValues" "index" (mCons (mIm (mRd 0)) mNil))) (mCons (mFrz (mExV "InvalidValues" "index" (mCons (mIm (mRd 0)) mNil))) mNil)))) mNil) fAppend)) (mSeq (mDrop (mMut 1 (mHere 1) isLst (mCons (mFrz (mLst (mCons (mFrz (mExV "InvalidCells" "index" (mCons (mIm (mRd 0)) mNil))) (mCons (mFrz (mExV "InvalidCells" "index" (mCons (mIm (mRd 0)) mNil))) mNil)))) mNil) fAppend)) (mSeq (mDrop (mMut 1 (mHere 1) isLst (mCons (mFrz (mLst (mCons (mFrz (mExV "InvalidLost" "index" (mCons (mIm (mRd 0)) mNil))) (mCons (mFrz (mExV "InvalidLost" "index" (mCons (mIm (mRd 0)) mNil))) mNil)))) mNil) fAppend)) (mSeq (mDrop (mMut 1 (mHere 1) isLst (mCons (mFrz (mLst (mCons (mFrz (mExV "InvalidNames" "index" (mCons (mIm (mRd 0)) mNil))) (mCons (mFrz (mExV "InvalidNames" "index" (mCons (mIm (mRd 0)) mNil))) mNil)))) mNil) fAppend)) (mSeq (mDrop (mMut 1 (mHere 1) isLst (mCons (mFrz (mLst (mCons (mFrz (mExV "InvalidRounds" "index" (mCons (mIm (mRd 0)) mNil))) (mCons (mFrz (mExV "InvalidRounds" "index" (mCons (mIm (mRd 0)) mNil))) mNil)))) mNil) fAppend)) (mRet (m2 fAdd (mRd 1) (mLst (mCons (mFrz (mLst (mCons (mFrz (mExV "InvalidDeeds" "index" (mCons (mIm (mRd 0)) mNil))) (mCons (mFrz (mExV "InvalidDeeds" "index" (mCons (mIm (mRd 0)) mNil))) mNil)))) mNil))))))))))
def c__law_index_errors : Cal := runB 1 2 [] m__law_index_errors
theorem f__law_index_errors (c : SaysM fa fn K) (KX : K.In h) (Gm : h.Ns mainGlobals mg) : ∃ fd, (∀ base : Heap, FnG PGFr w K mg base CX0 3 (ga K "_law_index_errors") fd ["_law_thing"] (spT (GG K) [] c__law_index_errors)) ∧ Binds K fd ["_law_thing"] [] ∧ KwB K fd ["_law_thing"] 0 ∧ FunD K "_law_index_errors" "_law_index_errors" (defArgs (top 41)) (defBody (top 41)) (defScope (top 41)) [] [] (ga K "_law_index_errors") fd := by
  obtain ⟨fd, FD⟩ := c.defs.def_ 4
  have h_glo_InvalidColumns := glo_ok KX Gm (c.fact 35)
  have h_ini_InvalidColumns_index := iniB_ok (c.fact 94)
  have h_oexa_InvalidColumns_index_ValueError := (c.fact 8)
  have h_glo_InvalidValues := glo_ok KX Gm (c.fact 45)
  have h_ini_InvalidValues_index := iniB_ok (c.fact 95)
  have h_oexa_InvalidValues_index_ValueError := (c.fact 9)
  have h_glo_InvalidCells := glo_ok KX Gm (c.fact 43)
  have h_ini_InvalidCells_index := iniB_ok (c.fact 96)
  have h_oexa_InvalidCells_index_ValueError := (c.fact 10)
  have h_glo_InvalidLost := glo_ok KX Gm (c.fact 41)
  have h_ini_InvalidLost_index := iniB_ok (c.fact 97)
  have h_oexa_InvalidLost_index_ValueError := (c.fact 11)
  have h_glo_InvalidNames := glo_ok KX Gm (c.fact 51)
  have h_ini_InvalidNames_index := iniB_ok (c.fact 98)
  have h_oexa_InvalidNames_index_ValueError := (c.fact 12)
  have h_glo_InvalidRounds := glo_ok KX Gm (c.fact 49)
  have h_ini_InvalidRounds_index := iniB_ok (c.fact 99)
  have h_oexa_InvalidRounds_index_ValueError := (c.fact 13)
  have h_glo_InvalidDeeds := glo_ok KX Gm (c.fact 47)
  have h_ini_InvalidDeeds_index := iniB_ok (c.fact 100)
  have h_oexa_InvalidDeeds_index_ValueError := (c.fact 14)
  obtain ⟨fdI_InvalidColumns, FI_InvalidColumns, bI_InvalidColumns, wI_InvalidColumns⟩ := fI_InvalidColumns (w := w) c KX Gm
  obtain ⟨fdI_InvalidValues, FI_InvalidValues, bI_InvalidValues, wI_InvalidValues⟩ := fI_InvalidValues (w := w) c KX Gm
  obtain ⟨fdI_InvalidCells, FI_InvalidCells, bI_InvalidCells, wI_InvalidCells⟩ := fI_InvalidCells (w := w) c KX Gm
  obtain ⟨fdI_InvalidLost, FI_InvalidLost, bI_InvalidLost, wI_InvalidLost⟩ := fI_InvalidLost (w := w) c KX Gm
  obtain ⟨fdI_InvalidNames, FI_InvalidNames, bI_InvalidNames, wI_InvalidNames⟩ := fI_InvalidNames (w := w) c KX Gm
  obtain ⟨fdI_InvalidRounds, FI_InvalidRounds, bI_InvalidRounds, wI_InvalidRounds⟩ := fI_InvalidRounds (w := w) c KX Gm
  obtain ⟨fdI_InvalidDeeds, FI_InvalidDeeds, bI_InvalidDeeds, wI_InvalidDeeds⟩ := fI_InvalidDeeds (w := w) c KX Gm
  refine ⟨fd, fun base => ?bd0, FunD.bindsN FD fun kV doc pm an cdv ct us hl => ?b1, FunD.kwb FD fun kV doc pm an cdv ct us ws hl hl2 => ?b2, FD⟩
  case bd0 =>
    have FI_InvalidColumns := FI_InvalidColumns base
    have FI_InvalidValues := FI_InvalidValues base
    have FI_InvalidCells := FI_InvalidCells base
    have FI_InvalidLost := FI_InvalidLost base
    have FI_InvalidNames := FI_InvalidNames base
    have FI_InvalidRounds := FI_InvalidRounds base
    have FI_InvalidDeeds := FI_InvalidDeeds base
    refine fn_g (N := N__law_index_errors) (m := m__law_index_errors) FD ⟨rfl, rfl, rfl, by decide +kernel, rfl, by decide +kernel, by decide +kernel⟩ (by decide) ?_
    intro cdv A outer s H E hG hr
    have hN : (cxOf CX0 PGFr w K mg base N__law_index_errors "_law_index_errors" (defScope (top 41)) (ga K "_law_index_errors") cdv A outer s H E).nox.N.Nodup := (by decide : N__law_index_errors.Nodup)
    exact ⟨_, _, (tss_cons (s_set 1 (tm_lst (tms_cons (tm_frz (tm_lst (tms_cons (tm_frz (tm_exV PySem.F.excBase_ValueError (oexA_ok h_oexa_InvalidColumns_index_ValueError) h_ini_InvalidColumns_index.1 h_ini_InvalidColumns_index.2.1 FI_InvalidColumns (hr.mono (by decide)) bI_InvalidColumns h_glo_InvalidColumns (tms_cons (vi 0) tms_nil))) (tms_cons (tm_frz (tm_exVK PySem.F.excBase_ValueError (oexA_ok h_oexa_InvalidColumns_index_ValueError) h_ini_InvalidColumns_index.1 h_ini_InvalidColumns_index.2.1 FI_InvalidColumns (hr.mono (by decide)) wI_InvalidColumns h_glo_InvalidColumns (tkc_arg (vi 0) tkc_nil))) tms_nil)))) tms_nil)) hN) (tss_cons (ts_expr (l_append (hv 1) (tm_frz (tm_lst (tms_cons (tm_frz (tm_exV PySem.F.excBase_ValueError (oexA_ok h_oexa_InvalidValues_index_ValueError) h_ini_InvalidValues_index.1 h_ini_InvalidValues_index.2.1 FI_InvalidValues (hr.mono (by decide)) bI_InvalidValues h_glo_InvalidValues (tms_cons (vi 0) tms_nil))) (tms_cons (tm_frz (tm_exVK PySem.F.excBase_ValueError (oexA_ok h_oexa_InvalidValues_index_ValueError) h_ini_InvalidValues_index.1 h_ini_InvalidValues_index.2.1 FI_InvalidValues (hr.mono (by decide)) wI_InvalidValues h_glo_InvalidValues (tkc_arg (vi 0) tkc_nil))) tms_nil)))))) (tss_cons (ts_expr (l_append (hv 1) (tm_frz (tm_lst (tms_cons (tm_frz (tm_exV PySem.F.excBase_ValueError (oexA_ok h_oexa_InvalidCells_index_ValueError) h_ini_InvalidCells_index.1 h_ini_InvalidCells_index.2.1 FI_InvalidCells (hr.mono (by decide)) bI_InvalidCells h_glo_InvalidCells (tms_cons (vi 0) tms_nil))) (tms_cons (tm_frz (tm_exVK PySem.F.excBase_ValueError (oexA_ok h_oexa_InvalidCells_index_ValueError) h_ini_InvalidCells_index.1 h_ini_InvalidCells_index.2.1 FI_InvalidCells (hr.mono (by decide)) wI_InvalidCells h_glo_InvalidCells (tkc_arg (vi 0) tkc_nil))) tms_nil)))))) (tss_cons (ts_expr (l_append (hv 1) (tm_frz (tm_lst (tms_cons (tm_frz (tm_exV PySem.F.excBase_ValueError (oexA_ok h_oexa_InvalidLost_index_ValueError) h_ini_InvalidLost_index.1 h_ini_InvalidLost_index.2.1 FI_InvalidLost (hr.mono (by decide)) bI_InvalidLost h_glo_InvalidLost (tms_cons (vi 0) tms_nil))) (tms_cons (tm_frz (tm_exVK PySem.F.excBase_ValueError (oexA_ok h_oexa_InvalidLost_index_ValueError) h_ini_InvalidLost_index.1 h_ini_InvalidLost_index.2.1 FI_InvalidLost (hr.mono (by decide)) wI_InvalidLost h_glo_InvalidLost (tkc_arg (vi 0) tkc_nil))) tms_nil)))))) (tss_cons (ts_expr (l_append (hv 1) (tm_frz (tm_lst (tms_cons (tm_frz (tm_exV PySem.F.excBase_ValueError (oexA_ok h_oexa_InvalidNames_index_ValueError) h_ini_InvalidNames_index.1 h_ini_InvalidNames_index.2.1 FI_InvalidNames (hr.mono (by decide)) bI_InvalidNames h_glo_InvalidNames (tms_cons (vi 0) tms_nil))) (tms_cons (tm_frz (tm_exVK PySem.F.excBase_ValueError (oexA_ok h_oexa_InvalidNames_index_ValueError) h_ini_InvalidNames_index.1 h_ini_InvalidNames_index.2.1 FI_InvalidNames (hr.mono (by decide)) wI_InvalidNames h_glo_InvalidNames (tkc_arg (vi 0) tkc_nil))) tms_nil)))))) (tss_cons (ts_expr (l_append (hv 1) (tm_frz (tm_lst (tms_cons (tm_frz (tm_exV PySem.F.excBase_ValueError (oexA_ok h_oexa_InvalidRounds_index_ValueError) h_ini_InvalidRounds_index.1 h_ini_InvalidRounds_index.2.1 FI_InvalidRounds (hr.mono (by decide)) bI_InvalidRounds h_glo_InvalidRounds (tms_cons (vi 0) tms_nil))) (tms_cons (tm_frz (tm_exVK PySem.F.excBase_ValueError (oexA_ok h_oexa_InvalidRounds_index_ValueError) h_ini_InvalidRounds_index.1 h_ini_InvalidRounds_index.2.1 FI_InvalidRounds (hr.mono (by decide)) wI_InvalidRounds h_glo_InvalidRounds (tkc_arg (vi 0) tkc_nil))) tms_nil)))))) (tss_one (ts_ret (x_add (v 1) (tm_lst (tms_cons (tm_frz (tm_lst (tms_cons (tm_frz (tm_exV PySem.F.excBase_ValueError (oexA_ok h_oexa_InvalidDeeds_index_ValueError) h_ini_InvalidDeeds_index.1 h_ini_InvalidDeeds_index.2.1 FI_InvalidDeeds (hr.mono (by decide)) bI_InvalidDeeds h_glo_InvalidDeeds (tms_cons (vi 0) tms_nil))) (tms_cons (tm_frz (tm_exVK PySem.F.excBase_ValueError (oexA_ok h_oexa_InvalidDeeds_index_ValueError) h_ini_InvalidDeeds_index.1 h_ini_InvalidDeeds_index.2.1 FI_InvalidDeeds (hr.mono (by decide)) wI_InvalidDeeds h_glo_InvalidDeeds (tkc_arg (vi 0) tkc_nil))) tms_nil)))) tms_nil))))))))))), by decide⟩
  case b1 => exact match us, hl with | [_], _ => rfl
  case b2 => exact match us, ws, hl, hl2 with | [], [_], _, _ => rfl
def N__law_right_k01 : List Str := ["_law_jar_here", "_law_e", "_law_thing", "_law_at", "_law_both", "_law_pairs_here"]
def m__law_right_k01 : M Fl := (mSeq (mSet 2 (mFrz (mCall c__law_one_of [(some 0), none] (mCons (mLn 0) (mCons (mFrz (mLst (mCons (mC .non) (mCons (mC (.int 0)) (mCons (m1 fNeg (mC (.int 3))) (mCons (mC (.bl true)) (mCons (mC (.str "a")) (mCons (mC (.str "")) (mCons (mFrz (mTup mNil)) (mCons (mFrz (mTup (mCons (mC (.int 1)) (mCons (mC (.int 2)) mNil)))) (mCons (mFrz (mLst mNil)) (mCons (mFrz (mLst (mCons (mC (.int 7)) mNil))) (mCons (mFrz (mC (.nd (.dK true []) []))) (mCons (mFrz (mDisp1 (mC (.str "a")) (mC (.int 1)))) (mCons (m2 (fII iPow) (mC (.int 10)) (mC (.int 30))) (mCons (mFrz (mTup (mCons (mC (.str "sum")) (mCons (mC (.int 3)) mNil)))) mNil)))))))))))))))) mNil))))) (mSeq (mFor (mRng enumF (mCons (mCall c__law_given_errors [none] (mCons (mIm (mRd 2)) mNil)) mNil)) (mUn 2 (mGcons (mPut 3) (mGcons (mPut 4) mGnil))) (mIfS (asB (m2 fNe (mLc (mItA (mRd 4)) (mPut 1) (ret true) (mFrz (m2 fAdd (mCall c__law_sorts [none] (mCons (mIm (mRd 1)) mNil)) (mLst (mCons (mF (c1 fReprV) (mCons (m1 (fFldX ["InvalidText", "InvalidName", "InvalidIndex", "InvalidNumber", "InvalidKind", "InvalidWish", "InvalidLine", "NotATable", "UnknownName", "NotLost", "NotBack", "NotReady"] "given") (mRd 1)) mNil)) mNil)))) [1]) (m2 fMul (mLst (mCons (mFrz (mLst (mCons (mIm (mRd 3)) (mCons (mC (.int 50)) (mCons (mC (.int 53)) (mCons (mF (c1 fReprV) (mCons (mRd 2) mNil)) mNil)))))) mNil)) (mC (.int 2))))) (mRet (mC (.bl false))) (ret .nx))) (mSeq (mFor (mRng enumF (mCons (mCall c__law_index_errors [none] (mCons (mIm (mRd 2)) mNil)) mNil)) (mUn 2 (mGcons (mPut 3) (mGcons (mPut 4) mGnil))) (mIfS (asB (m2 fNe (mLc (mItA (mRd 4)) (mPut 1) (ret true) (mFrz (m2 fAdd (mCall c__law_sorts [none] (mCons (mIm (mRd 1)) mNil)) (mLst (mCons (mF (c1 fReprV) (mCons (m1 (fFldX ["InvalidColumns", "InvalidValues", "InvalidCells", "InvalidLost", "InvalidNames", "InvalidRounds", "InvalidDeeds", "Broken", "InUse"] "index") (mRd 1)) mNil)) mNil)))) [1]) (m2 fMul (mLst (mCons (mFrz (mLst (mCons (mFrz (m2 fAdd (mC (.int 8)) (mRd 3))) (mCons (mC (.int 50)) (mCons (mC (.int 53)) (mCons (mF (c1 fReprV) (mCons (mRd 2) mNil)) mNil)))))) mNil)) (mC (.int 2))))) (mRet (mC (.bl false))) (ret .nx))) (mSeq (mSet 5 (mLst (mCons (mFrz (mTup (mCons (mC (.int 15)) (mCons (mFrz (mLst (mCons (mFrz (mExV "UnknownName" "given" (mCons (mIm (mRd 2)) mNil))) (mCons (mFrz (mExV "UnknownName" "given" (mCons (mIm (mRd 2)) mNil))) mNil)))) mNil)))) mNil))) (mSeq (mDrop (mMut 5 (mHere 5) isLst (mCons (mFrz (mTup (mCons (mC (.int 16)) (mCons (mFrz (mLst (mCons (mFrz (mExV "NotLost" "given" (mCons (mIm (mRd 2)) mNil))) (mCons (mFrz (mExV "NotLost" "given" (mCons (mIm (mRd 2)) mNil))) mNil)))) mNil)))) mNil) fAppend)) (mSeq (mFor (mItA (mRd 5)) (mUn 2 (mGcons (mPut 3) (mGcons (mPut 4) mGnil))) (mIfS (asB (m2 fNe (mLc (mItA (mRd 4)) (mPut 1) (ret true) (mFrz (m2 fAdd (mCall c__law_sorts [none] (mCons (mIm (mRd 1)) mNil)) (mLst (mCons (mF (c1 fReprV) (mCons (m1 (fFldX ["InvalidText", "InvalidName", "InvalidIndex", "InvalidNumber", "InvalidKind", "InvalidWish", "InvalidLine", "NotATable", "UnknownName", "NotLost", "NotBack", "NotReady"] "given") (mRd 1)) mNil)) mNil)))) [1]) (m2 fMul (mLst (mCons (mFrz (mLst (mCons (mIm (mRd 3)) (mCons (mC (.int 51)) (mCons (mC (.int 54)) (mCons (mF (c1 fReprV) (mCons (mRd 2) mNil)) mNil)))))) mNil)) (mC (.int 2))))) (mRet (mC (.bl false))) (ret .nx))) (mSeq (mFor (mItA (mLst (mCons (mFrz (mTup (mCons (mC (.int 18)) (mCons (mFrz (mLst (mCons (mFrz (mExV "NotBack" "given" (mCons (mIm (mRd 2)) mNil))) (mCons (mFrz (mExV "NotBack" "given" (mCons (mIm (mRd 2)) mNil))) mNil)))) mNil)))) (mCons (mFrz (mTup (mCons (mC (.int 19)) (mCons (mFrz (mLst (mCons (mFrz (mExV "NotReady" "given" (mCons (mIm (mRd 2)) mNil))) (mCons (mFrz (mExV "NotReady" "given" (mCons (mIm (mRd 2)) mNil))) mNil)))) mNil)))) mNil)))) (mUn 2 (mGcons (mPut 3) (mGcons (mPut 4) mGnil))) (mIfS (asB (m2 fNe (mLc (mItA (mRd 4)) (mPut 1) (ret true) (mFrz (m2 fAdd (mCall c__law_sorts [none] (mCons (mIm (mRd 1)) mNil)) (mLst (mCons (mF (c1 fReprV) (mCons (m1 (fFldX ["InvalidText", "InvalidName", "InvalidIndex", "InvalidNumber", "InvalidKind", "InvalidWish", "InvalidLine", "NotATable", "UnknownName", "NotLost", "NotBack", "NotReady"] "given") (mRd 1)) mNil)) mNil)))) [1]) (m2 fMul (mLst (mCons (mFrz (mLst (mCons (mIm (mRd 3)) (mCons (mC (.int 52)) (mCons (mC (.int 55)) (mCons (mF (c1 fReprV) (mCons (mRd 2) mNil)) mNil)))))) mNil)) (mC (.int 2))))) (mRet (mC (.bl false))) (ret .nx))) (mSeq (mFor (mItA (mLst (mCons (mFrz (mTup (mCons (mC (.int 20)) (mCons (mFrz (mLst (mCons (mFrz (mExV "Broken" "index" (mCons (mIm (mRd 2)) mNil))) (mCons (mFrz (mExV "Broken" "index" (mCons (mIm (mRd 2)) mNil))) mNil)))) mNil)))) (mCons (mFrz (mTup (mCons (mC (.int 21)) (mCons (mFrz (mLst (mCons (mFrz (mExV "InUse" "index" (mCons (mIm (mRd 2)) mNil))) (mCons (mFrz (mExV "InUse" "index" (mCons (mIm (mRd 2)) mNil))) mNil)))) mNil)))) mNil)))) (mUn 2 (mGcons (mPut 3) (mGcons (mPut 4) mGnil))) (mIfS (asB (m2 fNe (mLc (mItA (mRd 4)) (mPut 1) (ret true) (mFrz (m2 fAdd (mCall c__law_sorts [none] (mCons (mIm (mRd 1)) mNil)) (mLst (mCons (mF (c1 fReprV) (mCons (m1 (fFldX ["InvalidColumns", "InvalidValues", "InvalidCells", "InvalidLost", "InvalidNames", "InvalidRounds", "InvalidDeeds", "Broken", "InUse"] "index") (mRd 1)) mNil)) mNil)))) [1]) (m2 fMul (mLst (mCons (mFrz (mLst (mCons (mIm (mRd 3)) (mCons (mC (.int 52)) (mCons (mC (.int 55)) (mCons (mF (c1 fReprV) (mCons (mRd 2) mNil)) mNil)))))) mNil)) (mC (.int 2))))) (mRet (mC (.bl false))) (ret .nx))) (mRet (mC (.bl true)))))))))))
def c__law_right_k01 : Cal := runB 1 6 [0] m__law_right_k01
theorem f__law_right_k01 (c : SaysM fa fn K) (KX : K.In h) (Gm : h.Ns mainGlobals mg) : ∃ fd, (∀ base : Heap, FnG PGFr w K mg base CX0 7 (ga K "_law_right") fd ["_law_jar_here"] (spT (GG K) [0] c__law_right_k01)) ∧ Binds K fd ["_law_jar_here"] [] ∧ KwB K fd ["_law_jar_here"] 0 ∧ FunD K "_law_right" "_law_right" (defArgs (top 42)) (defBody (top 42)) (defScope (top 42)) [] [] (ga K "_law_right") fd := by
  obtain ⟨fd, FD⟩ := c.defs.def_ 5
  have h_free_enumerate := free_ok KX Gm (c.fact 101)
  have h_fldx_given := (c.fact 102)
  have h_free_repr := free_ok KX Gm (c.fact 103)
  have h_fldx_index := (c.fact 104)
  have h_glo_UnknownName := glo_ok KX Gm (c.fact 57)
  have h_ini_UnknownName_given := iniB_ok (c.fact 105)
  have h_oexa_UnknownName_given_LookupError := (c.fact 15)
  have h_glo_NotLost := glo_ok KX Gm (c.fact 55)
  have h_ini_NotLost_given := iniB_ok (c.fact 106)
  have h_oexa_NotLost_given_LookupError := (c.fact 16)
  have h_glo_NotReady := glo_ok KX Gm (c.fact 63)
  have h_ini_NotReady_given := iniB_ok (c.fact 107)
  have h_oexa_NotReady_given_ArithmeticError := (c.fact 18)
  have h_glo_NotBack := glo_ok KX Gm (c.fact 65)
  have h_ini_NotBack_given := iniB_ok (c.fact 108)
  have h_oexa_NotBack_given_ArithmeticError := (c.fact 17)
  have h_glo_InUse := glo_ok KX Gm (c.fact 59)
  have h_ini_InUse_index := iniB_ok (c.fact 109)
  have h_oexa_InUse_index_ArithmeticError := (c.fact 20)
  have h_glo_Broken := glo_ok KX Gm (c.fact 61)
  have h_ini_Broken_index := iniB_ok (c.fact 110)
  have h_oexa_Broken_index_ArithmeticError := (c.fact 19)
  obtain ⟨fd__law_one_of, F__law_one_of, b__law_one_of, w__law_one_of, d__law_one_of⟩ := f__law_one_of (w := w) c KX Gm
  have k__law_one_of := d__law_one_of.kp
  have g__law_one_of := glo_ok KX Gm (c.fact 111)
  obtain ⟨fd__law_given_errors, F__law_given_errors, b__law_given_errors, w__law_given_errors, d__law_given_errors⟩ := f__law_given_errors (w := w) c KX Gm
  have k__law_given_errors := d__law_given_errors.kp
  have g__law_given_errors := glo_ok KX Gm (c.fact 112)
  obtain ⟨fd__law_sorts, F__law_sorts, b__law_sorts, w__law_sorts, d__law_sorts⟩ := f__law_sorts (w := w) c KX Gm
  have k__law_sorts := d__law_sorts.kp
  have g__law_sorts := glo_ok KX Gm (c.fact 113)
  obtain ⟨fd__law_index_errors, F__law_index_errors, b__law_index_errors, w__law_index_errors, d__law_index_errors⟩ := f__law_index_errors (w := w) c KX Gm
  have k__law_index_errors := d__law_index_errors.kp
  have g__law_index_errors := glo_ok KX Gm (c.fact 114)
  obtain ⟨fdI_UnknownName, FI_UnknownName, bI_UnknownName, wI_UnknownName⟩ := fI_UnknownName (w := w) c KX Gm
  obtain ⟨fdI_NotLost, FI_NotLost, bI_NotLost, wI_NotLost⟩ := fI_NotLost (w := w) c KX Gm
  obtain ⟨fdI_NotReady, FI_NotReady, bI_NotReady, wI_NotReady⟩ := fI_NotReady (w := w) c KX Gm
  obtain ⟨fdI_NotBack, FI_NotBack, bI_NotBack, wI_NotBack⟩ := fI_NotBack (w := w) c KX Gm
  obtain ⟨fdI_InUse, FI_InUse, bI_InUse, wI_InUse⟩ := fI_InUse (w := w) c KX Gm
  obtain ⟨fdI_Broken, FI_Broken, bI_Broken, wI_Broken⟩ := fI_Broken (w := w) c KX Gm
  refine ⟨fd, fun base => ?bd0, FunD.bindsN FD fun kV doc pm an cdv ct us hl => ?b1, FunD.kwb FD fun kV doc pm an cdv ct us ws hl hl2 => ?b2, FD⟩
  case bd0 =>
    have F__law_one_of := F__law_one_of base
    have F__law_given_errors := F__law_given_errors base
    have F__law_sorts := F__law_sorts base
    have F__law_index_errors := F__law_index_errors base
    have FI_UnknownName := FI_UnknownName base
    have FI_NotLost := FI_NotLost base
    have FI_NotReady := FI_NotReady base
    have FI_NotBack := FI_NotBack base
    have FI_InUse := FI_InUse base
    have FI_Broken := FI_Broken base
    refine fn_g (N := N__law_right_k01) (m := m__law_right_k01) FD ⟨rfl, rfl, rfl, by decide +kernel, rfl, by decide +kernel, by decide +kernel⟩ (by decide) ?_
    intro cdv A outer s H E hG hr
    have hN : (cxOf CX0 PGFr w K mg base N__law_right_k01 "_law_right" (defScope (top 42)) (ga K "_law_right") cdv A outer s H E).nox.N.Nodup := (by decide : N__law_right_k01.Nodup)
    exact ⟨_, _, (tss_cons (s_set 2 (tm_frz (tm_call (F__law_one_of.monoG (by decide)) hG hr (by rfl) g__law_one_of k__law_one_of b__law_one_of (tmc_lend (nv 0) (tmc_arg (tm_frz (tm_lst (tms_cons tm_non (tms_cons tm_int (tms_cons (x_neg tm_int) (tms_cons tm_bl (tms_cons tm_str (tms_cons tm_str (tms_cons (tm_frz (tm_tup tms_nil)) (tms_cons (tm_frz (tm_tup (tms_cons tm_int (tms_cons tm_int tms_nil)))) (tms_cons (tm_frz (tm_lst tms_nil)) (tms_cons (tm_frz (tm_lst (tms_cons tm_int tms_nil))) (tms_cons (tm_frz tm_dct0) (tms_cons (tm_frz (x_disp1 tm_str tm_int)) (tms_cons (x_pow tm_int tm_int) (tms_cons (tm_frz (tm_tup (tms_cons tm_str (tms_cons tm_int tms_nil)))) tms_nil)))))))))))))))) tmc_nil)))) hN) (tss_cons (ts_for passNox rfl (it_enum (by rfl) (by rfl) h_free_enumerate (tms_cons (tm_call (F__law_given_errors.monoG (by decide)) hG hr (by rfl) g__law_given_errors k__law_given_errors b__law_given_errors (tmc_arg (vi 2) tmc_nil)) tms_nil)) (tg_un rfl rfl (tgs_cons (gN 3 hN) (tgs_cons (gN 4 hN) tgs_nil))) (tss_one (ts_if (t_cmp (cNe hr) (x_lc [("_law_e", 1)] rfl hN (blk_of (by kernel_rfl)) (it_any rfl (v 4)) (fun _ _ _ _ _ => (gN 1 hN)) (fun _ _ _ _ _ => tmts_nil) (fun _ _ _ _ _ => (tm_frz (x_add (tm_call (F__law_sorts.monoG (by decide)) hG hr (by rfl) g__law_sorts k__law_sorts b__law_sorts (tmc_arg (vi 1) tmc_nil)) (tm_lst (tms_cons (b_reprV hG hr h_free_repr (tms_cons (tm_fldX (g := (GG K)) (fldX_ok h_fldx_given) (v 1)) tms_nil)) tms_nil)))))) (x_mul (tm_lst (tms_cons (tm_frz (tm_lst (tms_cons (vi 3) (tms_cons tm_int (tms_cons tm_int (tms_cons (b_reprV hG hr h_free_repr (tms_cons (v 2) tms_nil)) tms_nil)))))) tms_nil)) tm_int)) (tss_one (ts_ret tm_bl)) tss_nil))) (tss_cons (ts_for passNox rfl (it_enum (by rfl) (by rfl) h_free_enumerate (tms_cons (tm_call (F__law_index_errors.monoG (by decide)) hG hr (by rfl) g__law_index_errors k__law_index_errors b__law_index_errors (tmc_arg (vi 2) tmc_nil)) tms_nil)) (tg_un rfl rfl (tgs_cons (gN 3 hN) (tgs_cons (gN 4 hN) tgs_nil))) (tss_one (ts_if (t_cmp (cNe hr) (x_lc [("_law_e", 1)] rfl hN (blk_of (by kernel_rfl)) (it_any rfl (v 4)) (fun _ _ _ _ _ => (gN 1 hN)) (fun _ _ _ _ _ => tmts_nil) (fun _ _ _ _ _ => (tm_frz (x_add (tm_call (F__law_sorts.monoG (by decide)) hG hr (by rfl) g__law_sorts k__law_sorts b__law_sorts (tmc_arg (vi 1) tmc_nil)) (tm_lst (tms_cons (b_reprV hG hr h_free_repr (tms_cons (tm_fldX (g := (GG K)) (fldX_ok h_fldx_index) (v 1)) tms_nil)) tms_nil)))))) (x_mul (tm_lst (tms_cons (tm_frz (tm_lst (tms_cons (tm_frz (x_add tm_int (v 3))) (tms_cons tm_int (tms_cons tm_int (tms_cons (b_reprV hG hr h_free_repr (tms_cons (v 2) tms_nil)) tms_nil)))))) tms_nil)) tm_int)) (tss_one (ts_ret tm_bl)) tss_nil))) (tss_cons (s_set 5 (tm_lst (tms_cons (tm_frz (tm_tup (tms_cons tm_int (tms_cons (tm_frz (tm_lst (tms_cons (tm_frz (tm_exV PySem.F.excBase_LookupError (oexA_ok h_oexa_UnknownName_given_LookupError) h_ini_UnknownName_given.1 h_ini_UnknownName_given.2.1 FI_UnknownName (hr.mono (by decide)) bI_UnknownName h_glo_UnknownName (tms_cons (vi 2) tms_nil))) (tms_cons (tm_frz (tm_exVK PySem.F.excBase_LookupError (oexA_ok h_oexa_UnknownName_given_LookupError) h_ini_UnknownName_given.1 h_ini_UnknownName_given.2.1 FI_UnknownName (hr.mono (by decide)) wI_UnknownName h_glo_UnknownName (tkc_arg (vi 2) tkc_nil))) tms_nil)))) tms_nil)))) tms_nil)) hN) (tss_cons (ts_expr (l_append (hv 5) (tm_frz (tm_tup (tms_cons tm_int (tms_cons (tm_frz (tm_lst (tms_cons (tm_frz (tm_exV PySem.F.excBase_LookupError (oexA_ok h_oexa_NotLost_given_LookupError) h_ini_NotLost_given.1 h_ini_NotLost_given.2.1 FI_NotLost (hr.mono (by decide)) bI_NotLost h_glo_NotLost (tms_cons (vi 2) tms_nil))) (tms_cons (tm_frz (tm_exVK PySem.F.excBase_LookupError (oexA_ok h_oexa_NotLost_given_LookupError) h_ini_NotLost_given.1 h_ini_NotLost_given.2.1 FI_NotLost (hr.mono (by decide)) wI_NotLost h_glo_NotLost (tkc_arg (vi 2) tkc_nil))) tms_nil)))) tms_nil)))))) (tss_cons (ts_for passNox rfl (it_any rfl (v 5)) (tg_un rfl rfl (tgs_cons (gN 3 hN) (tgs_cons (gN 4 hN) tgs_nil))) (tss_one (ts_if (t_cmp (cNe hr) (x_lc [("_law_e", 1)] rfl hN (blk_of (by kernel_rfl)) (it_any rfl (v 4)) (fun _ _ _ _ _ => (gN 1 hN)) (fun _ _ _ _ _ => tmts_nil) (fun _ _ _ _ _ => (tm_frz (x_add (tm_call (F__law_sorts.monoG (by decide)) hG hr (by rfl) g__law_sorts k__law_sorts b__law_sorts (tmc_arg (vi 1) tmc_nil)) (tm_lst (tms_cons (b_reprV hG hr h_free_repr (tms_cons (tm_fldX (g := (GG K)) (fldX_ok h_fldx_given) (v 1)) tms_nil)) tms_nil)))))) (x_mul (tm_lst (tms_cons (tm_frz (tm_lst (tms_cons (vi 3) (tms_cons tm_int (tms_cons tm_int (tms_cons (b_reprV hG hr h_free_repr (tms_cons (v 2) tms_nil)) tms_nil)))))) tms_nil)) tm_int)) (tss_one (ts_ret tm_bl)) tss_nil))) (tss_cons (ts_for passNox rfl (it_any rfl (tm_lst (tms_cons (tm_frz (tm_tup (tms_cons tm_int (tms_cons (tm_frz (tm_lst (tms_cons (tm_frz (tm_exV PySem.F.excBase_ArithmeticError (oexA_ok h_oexa_NotBack_given_ArithmeticError) h_ini_NotBack_given.1 h_ini_NotBack_given.2.1 FI_NotBack (hr.mono (by decide)) bI_NotBack h_glo_NotBack (tms_cons (vi 2) tms_nil))) (tms_cons (tm_frz (tm_exVK PySem.F.excBase_ArithmeticError (oexA_ok h_oexa_NotBack_given_ArithmeticError) h_ini_NotBack_given.1 h_ini_NotBack_given.2.1 FI_NotBack (hr.mono (by decide)) wI_NotBack h_glo_NotBack (tkc_arg (vi 2) tkc_nil))) tms_nil)))) tms_nil)))) (tms_cons (tm_frz (tm_tup (tms_cons tm_int (tms_cons (tm_frz (tm_lst (tms_cons (tm_frz (tm_exV PySem.F.excBase_ArithmeticError (oexA_ok h_oexa_NotReady_given_ArithmeticError) h_ini_NotReady_given.1 h_ini_NotReady_given.2.1 FI_NotReady (hr.mono (by decide)) bI_NotReady h_glo_NotReady (tms_cons (vi 2) tms_nil))) (tms_cons (tm_frz (tm_exVK PySem.F.excBase_ArithmeticError (oexA_ok h_oexa_NotReady_given_ArithmeticError) h_ini_NotReady_given.1 h_ini_NotReady_given.2.1 FI_NotReady (hr.mono (by decide)) wI_NotReady h_glo_NotReady (tkc_arg (vi 2) tkc_nil))) tms_nil)))) tms_nil)))) tms_nil)))) (tg_un rfl rfl (tgs_cons (gN 3 hN) (tgs_cons (gN 4 hN) tgs_nil))) (tss_one (ts_if (t_cmp (cNe hr) (x_lc [("_law_e", 1)] rfl hN (blk_of (by kernel_rfl)) (it_any rfl (v 4)) (fun _ _ _ _ _ => (gN 1 hN)) (fun _ _ _ _ _ => tmts_nil) (fun _ _ _ _ _ => (tm_frz (x_add (tm_call (F__law_sorts.monoG (by decide)) hG hr (by rfl) g__law_sorts k__law_sorts b__law_sorts (tmc_arg (vi 1) tmc_nil)) (tm_lst (tms_cons (b_reprV hG hr h_free_repr (tms_cons (tm_fldX (g := (GG K)) (fldX_ok h_fldx_given) (v 1)) tms_nil)) tms_nil)))))) (x_mul (tm_lst (tms_cons (tm_frz (tm_lst (tms_cons (vi 3) (tms_cons tm_int (tms_cons tm_int (tms_cons (b_reprV hG hr h_free_repr (tms_cons (v 2) tms_nil)) tms_nil)))))) tms_nil)) tm_int)) (tss_one (ts_ret tm_bl)) tss_nil))) (tss_cons (ts_for passNox rfl (it_any rfl (tm_lst (tms_cons (tm_frz (tm_tup (tms_cons tm_int (tms_cons (tm_frz (tm_lst (tms_cons (tm_frz (tm_exV PySem.F.excBase_ArithmeticError (oexA_ok h_oexa_Broken_index_ArithmeticError) h_ini_Broken_index.1 h_ini_Broken_index.2.1 FI_Broken (hr.mono (by decide)) bI_Broken h_glo_Broken (tms_cons (vi 2) tms_nil))) (tms_cons (tm_frz (tm_exVK PySem.F.excBase_ArithmeticError (oexA_ok h_oexa_Broken_index_ArithmeticError) h_ini_Broken_index.1 h_ini_Broken_index.2.1 FI_Broken (hr.mono (by decide)) wI_Broken h_glo_Broken (tkc_arg (vi 2) tkc_nil))) tms_nil)))) tms_nil)))) (tms_cons (tm_frz (tm_tup (tms_cons tm_int (tms_cons (tm_frz (tm_lst (tms_cons (tm_frz (tm_exV PySem.F.excBase_ArithmeticError (oexA_ok h_oexa_InUse_index_ArithmeticError) h_ini_InUse_index.1 h_ini_InUse_index.2.1 FI_InUse (hr.mono (by decide)) bI_InUse h_glo_InUse (tms_cons (vi 2) tms_nil))) (tms_cons (tm_frz (tm_exVK PySem.F.excBase_ArithmeticError (oexA_ok h_oexa_InUse_index_ArithmeticError) h_ini_InUse_index.1 h_ini_InUse_index.2.1 FI_InUse (hr.mono (by decide)) wI_InUse h_glo_InUse (tkc_arg (vi 2) tkc_nil))) tms_nil)))) tms_nil)))) tms_nil)))) (tg_un rfl rfl (tgs_cons (gN 3 hN) (tgs_cons (gN 4 hN) tgs_nil))) (tss_one (ts_if (t_cmp (cNe hr) (x_lc [("_law_e", 1)] rfl hN (blk_of (by kernel_rfl)) (it_any rfl (v 4)) (fun _ _ _ _ _ => (gN 1 hN)) (fun _ _ _ _ _ => tmts_nil) (fun _ _ _ _ _ => (tm_frz (x_add (tm_call (F__law_sorts.monoG (by decide)) hG hr (by rfl) g__law_sorts k__law_sorts b__law_sorts (tmc_arg (vi 1) tmc_nil)) (tm_lst (tms_cons (b_reprV hG hr h_free_repr (tms_cons (tm_fldX (g := (GG K)) (fldX_ok h_fldx_index) (v 1)) tms_nil)) tms_nil)))))) (x_mul (tm_lst (tms_cons (tm_frz (tm_lst (tms_cons (vi 3) (tms_cons tm_int (tms_cons tm_int (tms_cons (b_reprV hG hr h_free_repr (tms_cons (v 2) tms_nil)) tms_nil)))))) tms_nil)) tm_int)) (tss_one (ts_ret tm_bl)) tss_nil))) (tss_one (ts_ret tm_bl)))))))))), by decide⟩
  case b1 => exact match us, hl with | [_], _ => rfl
  case b2 => exact match us, ws, hl, hl2 with | [], [_], _, _ => rfl
def N__law_jar : List Str := ["_law_cells", "_law_turn", "_law_cell", "_law_mixed", "_law_each"]
def m__law_jar : M Fl := (mSeq (mSet 2 (mIf (asB (m2 fLt (mRd 1) (mF (c1 fLen) (mCons (mRd 0) mNil)))) (mIm (m2 fIx (mRd 0) (mRd 1))) (mFrz (m2 fAdd (m2 fMul (mC (.int 11)) (mRd 1)) (mC (.int 4)))))) (mSeq (mSet 3 (mFrz (m2 fAdd (mC (.int 60013)) (m2 fMul (mC (.int 8009)) (mRd 1))))) (mSeq (mFor (mItA (m2 fAdd (mSl fCut (mRd 0) mNoP (mPt (mC (.int 5)))) (mLst (mCons (mIm (mRd 2)) mNil)))) (mPut 4) (mSet 3 (m2 (fII iMod) (mF (c1 fInt) (mCons (m2 fAdd (m2 fMul (mRd 3) (mC (.int 28411))) (mRd 4)) mNil)) (mC (.int 2147483087))))) (mRet (mLst (mCons (mIf (mOr (asB (m2 fLt (mRd 2) (mC (.int 0)))) (asB (m2 fGe (mRd 2) (m2 (fII iPow) (mC (.int 10)) (mC (.int 18)))))) (mF (c1 fAbs) (mCons (mRd 2) mNil)) (mC (.int 0))) (mCons (mIm (mRd 3)) (mCons (mC (.int 0)) mNil))))))))
def c__law_jar : Cal := runB 2 5 [] m__law_jar
theorem f__law_jar (c : SaysM fa fn K) (KX : K.In h) (Gm : h.Ns mainGlobals mg) : ∃ fd, (∀ base : Heap, FnG PGFr w K mg base CX0 2 (ga K "_law_jar") fd ["_law_cells", "_law_turn"] (spT (GG K) [] c__law_jar)) ∧ Binds K fd ["_law_cells", "_law_turn"] [] ∧ KwB K fd ["_law_cells", "_law_turn"] 0 ∧ FunD K "_law_jar" "_law_jar" (defArgs (top 38)) (defBody (top 38)) (defScope (top 38)) [] [] (ga K "_law_jar") fd := by
  obtain ⟨fd, FD⟩ := c.defs.def_ 6
  have h_free_len := free_ok KX Gm (c.fact 84)
  have h_free_int := free_ok KX Gm (c.fact 83)
  have h_free_abs := free_ok KX Gm (c.fact 115)
  refine ⟨fd, fun base => ?bd0, FunD.bindsN FD fun kV doc pm an cdv ct us hl => ?b1, FunD.kwb FD fun kV doc pm an cdv ct us ws hl hl2 => ?b2, FD⟩
  case bd0 =>
    refine fn_g (N := N__law_jar) (m := m__law_jar) FD ⟨rfl, rfl, rfl, by decide +kernel, rfl, by decide +kernel, by decide +kernel⟩ (by decide) ?_
    intro cdv A outer s H E hG hr
    have hN : (cxOf CX0 PGFr w K mg base N__law_jar "_law_jar" (defScope (top 38)) (ga K "_law_jar") cdv A outer s H E).nox.N.Nodup := (by decide : N__law_jar.Nodup)
    exact ⟨_, _, (tss_cons (s_set 2 (tm_if (t_cmp cLt (v 1) (b_len h_free_len (tms_cons (v 0) tms_nil))) (tm_im (x_ix hr (v 0) (v 1))) (tm_frz (x_add (x_mul tm_int (v 1)) tm_int))) hN) (tss_cons (s_set 3 (tm_frz (x_add tm_int (x_mul tm_int (v 1)))) hN) (tss_cons (ts_for passNox rfl (it_any rfl (x_add (x_cut (v 0) tmo_none (tmo_some tm_int)) (tm_lst (tms_cons (vi 2) tms_nil)))) (gN 4 hN) (tss_one (s_set 3 (x_mod (b_int h_free_int (tms_cons (x_add (x_mul (v 3) tm_int) (v 4)) tms_nil)) tm_int) hN))) (tss_one (ts_ret (tm_lst (tms_cons (tm_if (tmt_w (tmt_or (t_cmp cLt (v 2) tm_int) (tmt_or1 (t_cmp cGe (v 2) (x_pow tm_int tm_int))))) (b_abs h_free_abs (tms_cons (v 2) tms_nil)) tm_int) (tms_cons (vi 3) (tms_cons tm_int tms_nil))))))))), by decide⟩
  case b1 => exact match us, hl with | [_, _], _ => rfl
  case b2 => exact match us, ws, hl, hl2 with | [], [_, _], _, _ => rfl
def N_law_k01 : List Str := ["_law_cells", "_law_e", "_law_turn", "_law_told", "_law_bare"]
def m_law_k01 : M Fl := (mSeq (mSet 3 (mFrz (mLst (mCons (mFrz (mC (.int 8))) (mCons (mFrz (mC (.int 10))) (mCons (mFrz (mC (.int 24))) (mCons (mFrz (mC (.int 1000000000))) (mCons (mFrz (mC (.int 60))) (mCons (mFrz (mC (.int 1000000000000000000000000000000))) (mCons (mFrz (mC (.int 100000000000000000000000000000000))) (mCons (mFrz (mC (.int 14))) mNil))))))))))) (mSeq (mIfS (asB (m2 fNe (mF (c1 fRepr) (mCons (mRd 3) mNil)) (mF (c1 fRepr) (mCons (mLst (mCons (mC (.int 8)) (mCons (mC (.int 10)) (mCons (mC (.int 24)) (mCons (m2 (fII iPow) (mC (.int 10)) (mC (.int 9))) (mCons (mC (.int 60)) (mCons (m2 (fII iPow) (mC (.int 10)) (mC (.int 30))) (mCons (m2 (fII iPow) (mC (.int 10)) (mC (.int 32))) (mCons (mC (.int 14)) mNil))))))))) mNil)))) (mRet (mC (.bl false))) (ret .nx)) (mSeq (mSet 4 (mFrz (mLst (mCons (mFrz (mExN "NotRight")) (mCons (mFrz (mExN "NothingToUndo")) (mCons (mFrz (mExN "WrongValue")) (mCons (mFrz (mExN "WrongName")) (mCons (mFrz (mExN "NoAnswer")) mNil)))))))) (mSeq (mIfS (asB (m2 fNe (mLc (mItA (mRd 4)) (mPut 1) (ret true) (mFrz (mCall c__law_sorts [none] (mCons (mIm (mRd 1)) mNil))) [1]) (mLst (mCons (mFrz (mLst (mCons (mC (.int 17)) (mCons (mC (.int 52)) (mCons (mC (.int 55)) mNil))))) (mCons (mFrz (mLst (mCons (mC (.int 22)) (mCons (mC (.int 52)) (mCons (mC (.int 55)) mNil))))) (mCons (mFrz (mLst (mCons (mC (.int 50)) (mCons (mC (.int 53)) mNil)))) (mCons (mFrz (mLst (mCons (mC (.int 51)) (mCons (mC (.int 54)) mNil)))) (mCons (mFrz (mLst (mCons (mC (.int 52)) (mCons (mC (.int 55)) mNil)))) mNil)))))))) (mRet (mC (.bl false))) (ret .nx)) (mRet (mF (c1 (fBools fun bs => bs.all id)) (mCons (mLc (mRng rng1 (mCons (mF (c2 fMax) (mCons (mC (.int 2)) (mCons (mF (c2 fMin) (mCons (mF (c1 fLen) (mCons (mRd 0) mNil)) (mCons (mC (.int 6)) mNil))) mNil))) mNil)) (mPut 2) (ret true) (mFrz (mGive c__law_right_k01 (mCall c__law_jar [none, none] (mCons (mIm (mRd 0)) (mCons (mIm (mRd 2)) mNil))))) [2]) mNil)))))))
def c_law_k01 : Cal := runB 1 5 [] m_law_k01
theorem f_law_k01 (c : SaysM fa fn K) (KX : K.In h) (Gm : h.Ns mainGlobals mg) : ∃ fd, (∀ base : Heap, FnG PGFr w K mg base CX0 9 (ga K "law") fd ["_law_cells"] (spT (GG K) [] c_law_k01)) ∧ Binds K fd ["_law_cells"] [] ∧ KwB K fd ["_law_cells"] 0 ∧ FunD K "law" "law" (defArgs (top 43)) (defBody (top 43)) (defScope (top 43)) [] [] (ga K "law") fd := by
  obtain ⟨fd, FD⟩ := c.defs.def_ 7
  have h_int_MOST_PLACES_14 := int_ok KX Gm (c.fact 116)
  have h_int_MOST_SUM_100000000000000000000000000000000 := int_ok KX Gm (c.fact 117)
  have h_int_MOST_VALUE_1000000000000000000000000000000 := int_ok KX Gm (c.fact 118)
  have h_int_MOST_BITS_60 := int_ok KX Gm (c.fact 119)
  have h_int_MOST_DIAL_1000000000 := int_ok KX Gm (c.fact 120)
  have h_int_MOST_DATA_24 := int_ok KX Gm (c.fact 121)
  have h_int_MOST_SUMS_10 := int_ok KX Gm (c.fact 122)
  have h_int_MOST_COLUMNS_8 := int_ok KX Gm (c.fact 123)
  have h_free_repr := free_ok KX Gm (c.fact 103)
  have h_glo_NoAnswer := glo_ok KX Gm (c.fact 69)
  have h_exn_NoAnswer_ArithmeticError := (c.fact 124)
  have h_glo_WrongName := glo_ok KX Gm (c.fact 71)
  have h_exn_WrongName_LookupError := (c.fact 125)
  have h_glo_WrongValue := glo_ok KX Gm (c.fact 73)
  have h_exn_WrongValue_ValueError := (c.fact 126)
  have h_glo_NothingToUndo := glo_ok KX Gm (c.fact 67)
  have h_exn_NothingToUndo_ArithmeticError := (c.fact 127)
  have h_glo_NotRight := glo_ok KX Gm (c.fact 53)
  have h_exn_NotRight_ArithmeticError := (c.fact 128)
  have h_free_len := free_ok KX Gm (c.fact 84)
  have h_free_min := free_ok KX Gm (c.fact 129)
  have h_free_max := free_ok KX Gm (c.fact 130)
  have h_free_range := free_ok KX Gm (c.fact 81)
  have h_free_all := free_ok KX Gm (c.fact 131)
  obtain ⟨fd__law_sorts, F__law_sorts, b__law_sorts, w__law_sorts, d__law_sorts⟩ := f__law_sorts (w := w) c KX Gm
  have k__law_sorts := d__law_sorts.kp
  have g__law_sorts := glo_ok KX Gm (c.fact 113)
  obtain ⟨fd__law_right_k01, F__law_right_k01, b__law_right_k01, w__law_right_k01, d__law_right_k01⟩ := f__law_right_k01 (w := w) c KX Gm
  have k__law_right_k01 := d__law_right_k01.kp
  have g__law_right_k01 := glo_ok KX Gm (c.fact 132)
  obtain ⟨fd__law_jar, F__law_jar, b__law_jar, w__law_jar, d__law_jar⟩ := f__law_jar (w := w) c KX Gm
  have k__law_jar := d__law_jar.kp
  have g__law_jar := glo_ok KX Gm (c.fact 133)
  refine ⟨fd, fun base => ?bd0, FunD.bindsN FD fun kV doc pm an cdv ct us hl => ?b1, FunD.kwb FD fun kV doc pm an cdv ct us ws hl hl2 => ?b2, FD⟩
  case bd0 =>
    have F__law_sorts := F__law_sorts base
    have F__law_right_k01 := F__law_right_k01 base
    have F__law_jar := F__law_jar base
    refine fn_g (N := N_law_k01) (m := m_law_k01) FD ⟨rfl, rfl, rfl, by decide +kernel, rfl, by decide +kernel, by decide +kernel⟩ (by decide) ?_
    intro cdv A outer s H E hG hr
    have hN : (cxOf CX0 PGFr w K mg base N_law_k01 "law" (defScope (top 43)) (ga K "law") cdv A outer s H E).nox.N.Nodup := (by decide : N_law_k01.Nodup)
    exact ⟨_, _, (tss_cons (s_set 3 (tm_frz (tm_lst (tms_cons (tm_frz (gI h_int_MOST_COLUMNS_8)) (tms_cons (tm_frz (gI h_int_MOST_SUMS_10)) (tms_cons (tm_frz (gI h_int_MOST_DATA_24)) (tms_cons (tm_frz (gI h_int_MOST_DIAL_1000000000)) (tms_cons (tm_frz (gI h_int_MOST_BITS_60)) (tms_cons (tm_frz (gI h_int_MOST_VALUE_1000000000000000000000000000000)) (tms_cons (tm_frz (gI h_int_MOST_SUM_100000000000000000000000000000000)) (tms_cons (tm_frz (gI h_int_MOST_PLACES_14)) tms_nil)))))))))) hN) (tss_cons (ts_if (t_cmp (cNe hr) (b_repr hG hr h_free_repr (tms_cons (v 3) tms_nil)) (b_repr hG hr h_free_repr (tms_cons (tm_lst (tms_cons tm_int (tms_cons tm_int (tms_cons tm_int (tms_cons (x_pow tm_int tm_int) (tms_cons tm_int (tms_cons (x_pow tm_int tm_int) (tms_cons (x_pow tm_int tm_int) (tms_cons tm_int tms_nil))))))))) tms_nil))) (tss_one (ts_ret tm_bl)) tss_nil) (tss_cons (s_set 4 (tm_frz (tm_lst (tms_cons (tm_frz (tm_exN PySem.F.excBase_ArithmeticError (ba h_exn_NotRight_ArithmeticError).1 (ba h_exn_NotRight_ArithmeticError).2 h_glo_NotRight)) (tms_cons (tm_frz (tm_exN PySem.F.excBase_ArithmeticError (ba h_exn_NothingToUndo_ArithmeticError).1 (ba h_exn_NothingToUndo_ArithmeticError).2 h_glo_NothingToUndo)) (tms_cons (tm_frz (tm_exN PySem.F.excBase_ValueError (ba h_exn_WrongValue_ValueError).1 (ba h_exn_WrongValue_ValueError).2 h_glo_WrongValue)) (tms_cons (tm_frz (tm_exN PySem.F.excBase_LookupError (ba h_exn_WrongName_LookupError).1 (ba h_exn_WrongName_LookupError).2 h_glo_WrongName)) (tms_cons (tm_frz (tm_exN PySem.F.excBase_ArithmeticError (ba h_exn_NoAnswer_ArithmeticError).1 (ba h_exn_NoAnswer_ArithmeticError).2 h_glo_NoAnswer)) tms_nil))))))) hN) (tss_cons (ts_if (t_cmp (cNe hr) (x_lc [("_law_e", 1)] rfl hN (blk_of (by kernel_rfl)) (it_any rfl (v 4)) (fun _ _ _ _ _ => (gN 1 hN)) (fun _ _ _ _ _ => tmts_nil) (fun _ _ _ _ _ => (tm_frz (tm_call (F__law_sorts.monoG (by decide)) hG hr (by rfl) g__law_sorts k__law_sorts b__law_sorts (tmc_arg (vi 1) tmc_nil))))) (tm_lst (tms_cons (tm_frz (tm_lst (tms_cons tm_int (tms_cons tm_int (tms_cons tm_int tms_nil))))) (tms_cons (tm_frz (tm_lst (tms_cons tm_int (tms_cons tm_int (tms_cons tm_int tms_nil))))) (tms_cons (tm_frz (tm_lst (tms_cons tm_int (tms_cons tm_int tms_nil)))) (tms_cons (tm_frz (tm_lst (tms_cons tm_int (tms_cons tm_int tms_nil)))) (tms_cons (tm_frz (tm_lst (tms_cons tm_int (tms_cons tm_int tms_nil)))) tms_nil))))))) (tss_one (ts_ret tm_bl)) tss_nil) (tss_one (ts_ret (b_all rfl h_free_all (tms_cons (x_lc [("_law_turn", 2)] rfl hN (blk_of (by kernel_rfl)) (it_range1 (by rfl) h_free_range (tms_cons (b_max rfl h_free_max (tms_cons tm_int (tms_cons (b_min rfl h_free_min (tms_cons (b_len h_free_len (tms_cons (v 0) tms_nil)) (tms_cons tm_int tms_nil))) tms_nil))) tms_nil)) (fun _ _ _ _ _ => (gN 2 hN)) (fun _ _ _ _ _ => tmts_nil) (fun _ _ _ _ _ => (tm_frz (tm_give (F__law_right_k01.monoG (by decide)) hG hr (by rfl) g__law_right_k01 k__law_right_k01 b__law_right_k01 (tm_call (F__law_jar.monoG (by decide)) hG hr (by rfl) g__law_jar k__law_jar b__law_jar (tmc_arg (vi 0) (tmc_arg (vi 2) tmc_nil))))))) tms_nil)))))))), by decide⟩
  case b1 => exact match us, hl with | [_], _ => rfl
  case b2 => exact match us, ws, hl, hl2 with | [], [_], _, _ => rfl
end
end MI
namespace MI
open PySem L2
section
variable {α β : Type}
@[simp] theorem ex_pair {x : α} {y : β} {Q : α → β → Prop} : (∃ a b, (x = a ∧ y = b) ∧ Q a b) ↔ Q x y := ⟨fun ⟨_, _, ⟨rfl, rfl⟩, q⟩ => q, fun q => ⟨_, _, ⟨rfl, rfl⟩, q⟩⟩
@[simp] theorem ex_pair_u {x : β} {Q : Unit → β → Prop} : (∃ (a : Unit) (b : β), x = b ∧ Q a b) ↔ Q () x := ⟨fun ⟨_, _, rfl, q⟩ => q, fun q => ⟨_, _, rfl, q⟩⟩
def Ev0 (m : M α) (Ts : List T) (Q : α → List T → Prop) : Prop := ∃ a Ts', m Ts = some (a, Ts') ∧ Q a Ts'
def EvO0 (o : Option α) (Q : α → Prop) : Prop := ∃ a, o = some a ∧ Q a
@[simp] theorem EvO0_some {a : α} {Q : α → Prop} : EvO0 (some a) Q ↔ Q a := by simp [EvO0]
@[simp] theorem EvO0_none {Q : α → Prop} : EvO0 none Q ↔ False := by simp [EvO0]
theorem EvO0.eq {o : Option α} {a : α} (h : EvO0 o (· = a)) : o = some a := by
  obtain ⟨b, e, rfl⟩ := h; exact e
theorem EvO0.mono {o : Option α} {P Q : α → Prop} (h : EvO0 o P) (i : ∀ a, P a → Q a) : EvO0 o Q := let ⟨a, e, p⟩ := h; ⟨a, e, i a p⟩
theorem Ev0.mono {m : M α} {Ts : List T} {P Q : α → List T → Prop} (h : Ev0 m Ts P) (i : ∀ a Ts', P a Ts' → Q a Ts') : Ev0 m Ts Q := let ⟨a, s, e, p⟩ := h; ⟨a, s, e, i a s p⟩
@[simp] theorem EvO0_ite {c : Prop} [Decidable c] {o o' : Option α} {Q : α → Prop} : EvO0 (if c then o else o') Q ↔ if c then EvO0 o Q else EvO0 o' Q := by split <;> rfl
@[simp] theorem EvO0_bind {o : Option α} {f : α → Option β} {Q : β → Prop} : EvO0 (o.bind f) Q ↔ EvO0 o fun a => EvO0 (f a) Q := by cases o <;> simp [EvO0]
@[simp] theorem EvO0_map {o : Option α} {f : α → β} {Q : β → Prop} : EvO0 (o.map f) Q ↔ EvO0 o fun a => Q (f a) := by cases o <;> simp [EvO0]
theorem Ev0_is {m : M α} {Ts s : List T} {a : α} {Q : α → List T → Prop} (h : m Ts = some (a, s)) : Ev0 m Ts Q ↔ Q a s := ⟨fun ⟨b, s', e, q⟩ => by rw [h] at e; injection e with e; injection e with e1 e2; subst e1; subst e2; exact q, fun q => ⟨a, s, h, q⟩⟩
theorem Ev0_no {m : M α} {Ts : List T} {Q : α → List T → Prop} (h : m Ts = none) : Ev0 m Ts Q ↔ False := ⟨fun ⟨b, s', e, q⟩ => (by rw [h] at e; cases e), fun q => q.elim⟩
@[simp] theorem Ev0_bnd {x : M α} {f : α → M β} {Ts : List T} {Q : β → List T → Prop} : Ev0 (bnd x f) Ts Q ↔ Ev0 x Ts fun a Ts' => Ev0 (f a) Ts' Q := by
  constructor
  · rintro ⟨b, s2, e, q⟩
    obtain ⟨a, s1, e1, e2⟩ := bnd_some e
    exact ⟨a, s1, e1, b, s2, e2, q⟩
  · rintro ⟨a, s1, e1, b, s2, e2, q⟩
    refine ⟨b, s2, ?_, q⟩
    unfold bnd; rw [e1]; exact e2
@[simp] theorem Ev0_ret {a : α} {Ts : List T} {Q : α → List T → Prop} : Ev0 (ret a) Ts Q ↔ Q a Ts := by simp [Ev0, ret]
@[simp] theorem Ev0_lft {o : Option α} {Ts : List T} {Q : α → List T → Prop} : Ev0 (lft o) Ts Q ↔ EvO0 o fun a => Q a Ts := by
  cases o with
  | none => simp [Ev0, EvO0, lft]
  | some a => simp [Ev0, EvO0, lft]
@[simp] theorem Ev0_fail {Ts : List T} {Q : α → List T → Prop} : Ev0 (fun _ => none) Ts Q ↔ False := by simp [Ev0]
@[simp] theorem Ev0_ite {c : Prop} [Decidable c] {f g : M α} {Ts : List T} {Q : α → List T → Prop} : Ev0 (if c then f else g) Ts Q ↔ if c then Ev0 f Ts Q else Ev0 g Ts Q := by split <;> rfl
theorem Ev0.run {m : M α} {Ts Ts' : List T} {a : α} (h : Ev0 m Ts fun x s => x = a ∧ s = Ts') : m Ts = some (a, Ts') := by
  obtain ⟨b, s, e, rfl, rfl⟩ := h; exact e
end
def T.live : T → Bool
  | .dead => false
  | _ => true
@[simp] theorem live_dead : T.live .dead = false := rfl
@[simp] theorem live_non : T.live .non = true := rfl
@[simp] theorem live_bl (b : Bool) : T.live (.bl b) = true := rfl
@[simp] theorem live_int (b : Int) : T.live (.int b) = true := rfl
@[simp] theorem live_str (b : Str) : T.live (.str b) = true := rfl
@[simp] theorem live_nd (k : Kd) (ts : List T) : T.live (.nd k ts) = true := rfl
theorem live_ne {t : T} : t.live = true ↔ t ≠ .dead := by cases t <;> simp [T.live]
@[simp] theorem own_tup : Kd.own .tup = false := rfl
@[simp] theorem own_scr : Kd.own .scr = false := rfl
@[simp] theorem own_lst' (o : Bool) : Kd.own (.lst o) = o := rfl
@[simp] theorem own_dK (o : Bool) (ks : List Key) : Kd.own (.dK o ks) = o := rfl
@[simp] theorem own_dT (o : Bool) (ks : List (List Key)) : Kd.own (.dT o ks) = o := rfl
@[simp] theorem own_ins (o : Bool) (c : Str) (fs : List Str) : Kd.own (.ins o c fs) = o := rfl
@[simp] theorem kfz_tup : Kd.fz .tup = .tup := rfl
@[simp] theorem kfz_scr : Kd.fz .scr = .scr := rfl
@[simp] theorem kfz_lst (o : Bool) : Kd.fz (.lst o) = .lst false := rfl
@[simp] theorem kfz_dK (o : Bool) (ks : List Key) : Kd.fz (.dK o ks) = .dK false ks := rfl
@[simp] theorem kfz_ins (o : Bool) (c : Str) (fs : List Str) : Kd.fz (.ins o c fs) = .ins false c fs := rfl
@[simp] theorem ownNd_nd (k : Kd) (ts : List T) : T.ownNd (.nd k ts) = k.own := rfl
@[simp] theorem imm_dead : T.imm .dead = false := by rw [T.imm]
@[simp] theorem imm_non : T.imm .non = true := by rw [T.imm]
@[simp] theorem imm_bl (b : Bool) : T.imm (.bl b) = true := by rw [T.imm]
@[simp] theorem imm_int (b : Int) : T.imm (.int b) = true := by rw [T.imm]
@[simp] theorem imm_str (b : Str) : T.imm (.str b) = true := by rw [T.imm]
@[simp] theorem imm_nd (k : Kd) (ts : List T) : T.imm (.nd k ts) = (!k.own && immL ts) := by rw [T.imm]
@[simp] theorem immL_nil : immL [] = true := by rw [immL]
@[simp] theorem immL_cons (t : T) (ts : List T) : immL (t :: ts) = (t.imm && immL ts) := by rw [immL]
@[simp] theorem immL_append (ts us : List T) : immL (ts ++ us) = (immL ts && immL us) := by simp [immL_eq]
theorem immL_map {α : Type} {f : α → T} (h : ∀ a, (f a).imm = true) (xs : List α) : immL (xs.map f) = true := by
  rw [immL_eq]; simp [h]
theorem immL_all {ts : List T} : immL ts = true ↔ ∀ t ∈ ts, t.imm = true := by rw [immL_eq]; simp
@[simp] theorem immL_map_int {xs : List Int} : immL (xs.map T.int) = true := immL_map (fun _ => by simp) xs
@[simp] theorem immL_map_str {xs : List Str} : immL (xs.map T.str) = true := immL_map (fun _ => by simp) xs
@[simp] theorem immL_map_bl {xs : List Bool} : immL (xs.map T.bl) = true := immL_map (fun _ => by simp) xs
@[simp] theorem fz_dead : T.fz .dead = .dead := by rw [T.fz]
@[simp] theorem fz_non : T.fz .non = .non := by rw [T.fz]
@[simp] theorem fz_bl (b : Bool) : T.fz (.bl b) = .bl b := by rw [T.fz]
@[simp] theorem fz_int (b : Int) : T.fz (.int b) = .int b := by rw [T.fz]
@[simp] theorem fz_str (b : Str) : T.fz (.str b) = .str b := by rw [T.fz]
@[simp] theorem fz_nd (k : Kd) (ts : List T) : T.fz (.nd k ts) = .nd k.fz (fzL ts) := by rw [T.fz]
@[simp] theorem fzL_nil : fzL [] = [] := by rw [fzL]
@[simp] theorem fzL_cons (t : T) (ts : List T) : fzL (t :: ts) = t.fz :: fzL ts := by rw [fzL]
@[simp] theorem fzL_append (ts us : List T) : fzL (ts ++ us) = fzL ts ++ fzL us := by simp [fzL_eq]
theorem fzL_map {α : Type} {f : α → T} (h : ∀ a, (f a).imm = true) (xs : List α) : fzL (xs.map f) = xs.map f := fzL_imm _ (immL_map h xs)
@[simp] theorem fzL_map_int {xs : List Int} : fzL (xs.map T.int) = xs.map T.int := fzL_imm _ immL_map_int
@[simp] theorem fzL_map_str {xs : List Str} : fzL (xs.map T.str) = xs.map T.str := fzL_imm _ immL_map_str
@[simp] theorem fzL_map_bl {xs : List Bool} : fzL (xs.map T.bl) = xs.map T.bl := fzL_imm _ immL_map_bl
@[simp] theorem live_fz {t : T} : t.fz.live = t.live := by cases t <;> simp
@[simp] theorem sizeLine_val : sizeLine = 16777216 := by decide +kernel
@[simp] theorem slot_zero {t : T} {ts : List T} : slot (t :: ts) 0 = t := rfl
@[simp] theorem slot_succ {t : T} {ts : List T} {n : Nat} : slot (t :: ts) (n + 1) = slot ts n := by simp [slot]
@[simp] theorem slot_nil {n : Nat} : slot [] n = .dead := by simp [slot]
theorem slot_lt {Ts : List T} {i : Nat} (h : (slot Ts i).live = true) : i < Ts.length := by
  by_cases q : i < Ts.length
  · exact q
  · rw [slot, List.getD_eq_getElem?_getD, List.getElem?_eq_none (by omega)] at h; cases h
theorem slot_set_self {Ts : List T} {i : Nat} (h : i < Ts.length) : Ts.set i (slot Ts i) = Ts := by
  apply List.ext_getElem?
  intro j
  by_cases hj : i = j
  · subst hj
    rw [List.getElem?_set_self h, slot, List.getD_eq_getElem?_getD, List.getElem?_eq_getElem h]; rfl
  · rw [List.getElem?_set_ne hj]
section
variable {Ts : List T} {Q : T → List T → Prop} {QB : Bool → List T → Prop} {QL : List T → List T → Prop} {QF : Fl → List T → Prop} {QU : Unit → List T → Prop} {QN : List Nat → List T → Prop}
@[simp] theorem Ev0_mC {t : T} : Ev0 (mC t) Ts Q ↔ Q t Ts := by simp [mC]
@[simp] theorem Ev0_mRd {i : Nat} : Ev0 (mRd i) Ts Q ↔ (slot Ts i).live = true ∧ Q (slot Ts i) Ts := by
  unfold Ev0 mRd
  cases h : slot Ts i <;> simp
@[simp] theorem Ev0_mIm {fa : M T} : Ev0 (mIm fa) Ts Q ↔ Ev0 fa Ts fun t Ts => t.imm = true ∧ Q t Ts := by
  unfold mIm
  rw [Ev0_bnd]
  refine iff_of_eq (congrArg (Ev0 fa Ts) (funext fun t => funext fun s => propext ?_))
  rw [Ev0_lft]
  by_cases h : t.imm = true <;> simp [h, EvO0]
theorem mFz_eq {i : Nat} (h : (slot Ts i).live = true) : mFz i Ts = some ((slot Ts i).fz, Ts.set i (slot Ts i).fz) := by
  have hl := slot_lt h
  have hs := slot_set_self hl
  unfold mFz
  cases e : slot Ts i with
  | dead => rw [e] at h; cases h
  | nd k ts =>
    by_cases hi : (T.nd k ts).imm = true
    · show (if _ then _ else _) = _
      rw [if_pos hi, T.fz_imm _ hi, ← e, hs]
    · show (if _ then _ else _) = _
      rw [if_neg hi]
  | _ => rw [e] at hs; simp [hs]
@[simp] theorem Ev0_mFz {i : Nat} : Ev0 (mFz i) Ts Q ↔ (slot Ts i).live = true ∧ Q (slot Ts i).fz (Ts.set i (slot Ts i).fz) := by
  constructor
  · rintro ⟨a, s, e, q⟩
    have h : (slot Ts i).live = true := by
      cases h : slot Ts i <;> first | rfl | (unfold mFz at e; rw [h] at e; cases e)
    rw [mFz_eq h] at e
    injection e with e; injection e with e1 e2
    subst e1; subst e2
    exact ⟨h, q⟩
  · rintro ⟨h, q⟩; exact ⟨_, _, mFz_eq h, q⟩
@[simp] theorem Ev0_mMv {i : Nat} : Ev0 (mMv i) Ts Q ↔ (slot Ts i).live = true ∧ (if (slot Ts i).imm = true then Q (slot Ts i) Ts else Q (slot Ts i) (Ts.set i .dead)) := by
  unfold Ev0 mMv
  cases h : slot Ts i with
  | nd k ts => by_cases hi : (T.nd k ts).imm = true <;> simp [hi] <;> simp at hi <;> simp [hi]
  | _ => simp
@[simp] theorem Ev0_mLn {i : Nat} : Ev0 (mLn i) Ts Q ↔ (slot Ts i).live = true ∧ Q (slot Ts i) (Ts.set i .dead) := by
  unfold Ev0 mLn
  cases h : slot Ts i <;> simp
@[simp] theorem Ev0_mNil : Ev0 mNil Ts QL ↔ QL [] Ts := by simp [mNil]
@[simp] theorem Ev0_mCons {fa : M T} {fs : M (List T)} : Ev0 (mCons fa fs) Ts QL ↔ Ev0 fa Ts fun a Ts => Ev0 fs Ts fun as Ts => QL (a :: as) Ts := by simp [mCons]
@[simp] theorem Ev0_mStar {fa : M T} {fs : M (List T)} : Ev0 (mStar fa fs) Ts QL ↔ Ev0 fa Ts fun a Ts => EvO0 (kidsI a) fun ks => Ev0 fs Ts fun as Ts => QL (ks ++ as) Ts := by simp [mStar]
@[simp] theorem Ev0_mTup {fs : M (List T)} : Ev0 (mTup fs) Ts Q ↔ Ev0 fs Ts fun ts Ts => ts.length ≤ sizeLine ∧ Q (.nd .tup ts) Ts := by
  unfold mTup
  rw [Ev0_bnd]
  refine iff_of_eq (congrArg (Ev0 fs Ts) (funext fun t => funext fun s => propext ?_))
  rw [Ev0_lft]
  by_cases h : t.length ≤ sizeLine
  · simp only [h, if_true, EvO0_some, true_and]
  · simp only [h, if_false, EvO0_none, false_and]
@[simp] theorem Ev0_mLst {fs : M (List T)} : Ev0 (mLst fs) Ts Q ↔ Ev0 fs Ts fun ts Ts => ts.length ≤ sizeLine ∧ Q (.nd (.lst true) ts) Ts := by
  unfold mLst
  rw [Ev0_bnd]
  refine iff_of_eq (congrArg (Ev0 fs Ts) (funext fun t => funext fun s => propext ?_))
  rw [Ev0_lft]
  by_cases h : t.length ≤ sizeLine
  · simp only [h, if_true, EvO0_some, true_and]
  · simp only [h, if_false, EvO0_none, false_and]
@[simp] theorem Ev0_mF {f : List T → Option T} {fs : M (List T)} : Ev0 (mF f fs) Ts Q ↔ Ev0 fs Ts fun ts Ts => EvO0 (f ts) fun t => Q t Ts := by simp [mF]
@[simp] theorem Ev0_m1 {f : T → Option T} {fa : M T} : Ev0 (m1 f fa) Ts Q ↔ Ev0 fa Ts fun a Ts => EvO0 (f a) fun t => Q t Ts := by simp [m1]
@[simp] theorem Ev0_m2 {f : T → T → Option T} {fa fb : M T} : Ev0 (m2 f fa fb) Ts Q ↔ Ev0 fa Ts fun a Ts => Ev0 fb Ts fun b Ts => EvO0 (f a b) fun t => Q t Ts := by simp [m2]
@[simp] theorem Ev0_mFrz {fa : M T} : Ev0 (mFrz fa) Ts Q ↔ Ev0 fa Ts fun a Ts => Q a.fz Ts := by simp [mFrz]
@[simp] theorem Ev0_asB {fa : M T} : Ev0 (asB fa) Ts QB ↔ Ev0 fa Ts fun a Ts => EvO0 (bOf a) fun b => QB b Ts := by
  unfold asB
  rw [Ev0_bnd]
  refine iff_of_eq (congrArg (Ev0 fa Ts) (funext fun t => funext fun s => propext ?_))
  rw [Ev0_lft]
  cases t <;> simp [bOf]
@[simp] theorem Ev0_mAnd {fa fb : M Bool} : Ev0 (mAnd fa fb) Ts QB ↔ Ev0 fa Ts fun a Ts => if a = true then Ev0 fb Ts QB else QB false Ts := by simp [mAnd]
@[simp] theorem Ev0_mOr {fa fb : M Bool} : Ev0 (mOr fa fb) Ts QB ↔ Ev0 fa Ts fun a Ts => if a = true then QB true Ts else Ev0 fb Ts QB := by simp [mOr]
@[simp] theorem Ev0_mNot {fa : M Bool} : Ev0 (mNot fa) Ts QB ↔ Ev0 fa Ts fun a Ts => QB (!a) Ts := by simp [mNot]
@[simp] theorem Ev0_mTru {fa : M T} : Ev0 (mTru fa) Ts QB ↔ Ev0 fa Ts fun a Ts => EvO0 (tru a) fun b => QB b Ts := by simp [mTru]
@[simp] theorem Ev0_mIf {c : M Bool} {fa fb : M T} : Ev0 (mIf c fa fb) Ts Q ↔ Ev0 c Ts fun b Ts => if b = true then Ev0 fa Ts Q else Ev0 fb Ts Q := by simp [mIf]
@[simp] theorem Ev0_mAndV {fa fb : M T} : Ev0 (mAndV fa fb) Ts Q ↔ Ev0 fa Ts fun a Ts => EvO0 (bOf a) fun b => if b = true then Ev0 fb Ts Q else Q (.bl false) Ts := by simp [mAndV]
@[simp] theorem Ev0_mOrV {fa fb : M T} : Ev0 (mOrV fa fb) Ts Q ↔ Ev0 fa Ts fun a Ts => EvO0 (bOf a) fun b => if b = true then Q (.bl true) Ts else Ev0 fb Ts Q := by simp [mOrV]
@[simp] theorem Ev0_mNotV {fa : M T} : Ev0 (mNotV fa) Ts Q ↔ Ev0 fa Ts fun a Ts => EvO0 (bOf a) fun b => Q (.bl (!b)) Ts := by simp [mNotV]
@[simp] theorem Ev0_mChain {f f' : T → T → Option T} {fa fb fc : M T} : Ev0 (mChain f f' fa fb fc) Ts Q ↔ Ev0 fa Ts fun a Ts => Ev0 fb Ts fun b Ts => EvO0 (f a b) fun z => EvO0 (bOf z) fun k => if k = true then (Ev0 fc Ts fun c Ts => EvO0 (f' b c) fun r => Q r Ts) else Q (.bl false) Ts := by simp [mChain]
@[simp] theorem bOf_bl {b : Bool} : bOf (.bl b) = some b := rfl
@[simp] theorem tru_bl {b : Bool} : tru (.bl b) = some b := rfl
def Fl.then0 (fl : Fl) (k : Prop) (o : Fl → Prop) : Prop := match fl with
  | .nx => k
  | f => o f
@[simp] theorem then0_nx {k : Prop} {o : Fl → Prop} : Fl.then0 .nx k o = k := rfl
@[simp] theorem then0_rt {t : T} {k : Prop} {o : Fl → Prop} : Fl.then0 (.rt t) k o = o (.rt t) := rfl
@[simp] theorem then0_bk {k : Prop} {o : Fl → Prop} : Fl.then0 .bk k o = o .bk := rfl
@[simp] theorem then0_ct {k : Prop} {o : Fl → Prop} : Fl.then0 .ct k o = o .ct := rfl
@[simp] theorem Ev0_mSeq {f g : M Fl} : Ev0 (mSeq f g) Ts QF ↔ Ev0 f Ts fun fl Ts => fl.then0 (Ev0 g Ts QF) fun o => QF o Ts := by
  unfold mSeq
  rw [Ev0_bnd]
  refine iff_of_eq (congrArg (Ev0 f Ts) (funext fun t => funext fun s => propext ?_))
  cases t <;> simp
@[simp] theorem Ev0_mRet {fa : M T} : Ev0 (mRet fa) Ts QF ↔ Ev0 fa Ts fun t Ts => QF (.rt t) Ts := by simp [mRet]
@[simp] theorem Ev0_mDrop {fa : M T} : Ev0 (mDrop fa) Ts QF ↔ Ev0 fa Ts fun t Ts => QF .nx Ts := by simp [mDrop]
@[simp] theorem Ev0_mIfS {c : M Bool} {f g : M Fl} : Ev0 (mIfS c f g) Ts QF ↔ Ev0 c Ts fun b Ts => if b = true then Ev0 f Ts QF else Ev0 g Ts QF := by simp [mIfS]
@[simp] theorem Ev0_mPut {i : Nat} {t : T} : Ev0 (mPut i t) Ts QU ↔ i < Ts.length ∧ QU () (Ts.set i t) := by
  by_cases h : i < Ts.length
  · rw [Ev0_is (a := ()) (s := Ts.set i t) (by unfold mPut; rw [if_pos h])]; simp [h]
  · rw [Ev0_no (by unfold mPut; rw [if_neg h])]; simp [h]
@[simp] theorem Ev0_mGnil : Ev0 (mGnil []) Ts QU ↔ QU () Ts := by simp [mGnil]
@[simp] theorem Ev0_mGcons {m : T → M Unit} {ms : List T → M Unit} {t : T} {ts : List T} : Ev0 (mGcons m ms (t :: ts)) Ts QU ↔ Ev0 (m t) Ts fun _ Ts => Ev0 (ms ts) Ts QU := by simp [mGcons]
@[simp] theorem Ev0_mUnT {n : Nat} {ms : List T → M Unit} {ts : List T} : Ev0 (mUn n ms (.nd .tup ts)) Ts QU ↔ ts.length = n ∧ Ev0 (ms ts) Ts QU := by
  show Ev0 (if ts.length = n then ms ts else fun _ => none) Ts QU ↔ _
  by_cases h : ts.length = n <;> simp [h]
@[simp] theorem Ev0_mUnL {n : Nat} {ms : List T → M Unit} {ts : List T} {o : Bool} : Ev0 (mUn n ms (.nd (.lst o) ts)) Ts QU ↔ ts.length = n ∧ Ev0 (ms ts) Ts QU := by
  show Ev0 (if ts.length = n then ms ts else fun _ => none) Ts QU ↔ _
  by_cases h : ts.length = n <;> simp [h]
@[simp] theorem Ev0_mAsg {fa : M T} {m : T → M Unit} : Ev0 (mAsg fa m) Ts QF ↔ Ev0 fa Ts fun t Ts => Ev0 (m t) Ts fun _ Ts => QF .nx Ts := by simp [mAsg]
@[simp] theorem Ev0_mSet {fa : M T} {i : Nat} : Ev0 (mSet i fa) Ts QF ↔ Ev0 fa Ts fun t Ts => i < Ts.length ∧ QF .nx (Ts.set i t) := by simp [mSet]
@[simp] theorem Ev0_mPar {i j : Nat} {fs : M (List T)} : Ev0 (mPar i j fs) Ts QF ↔ Ev0 fs Ts fun ts Ts => Ev0 (mGcons (mPut i) (mGcons (mPut j) mGnil) ts) Ts fun _ Ts => QF .nx Ts := by simp [mPar]
@[simp] theorem Ev0_mPar3 {i j l : Nat} {fs : M (List T)} : Ev0 (mPar3 i j l fs) Ts QF ↔ Ev0 fs Ts fun ts Ts => Ev0 (mGcons (mPut i) (mGcons (mPut j) (mGcons (mPut l) mGnil)) ts) Ts fun _ Ts => QF .nx Ts := by simp [mPar3]
@[simp] theorem Ev0_mAug {i : Nat} {f : T → T → Option T} {fa : M T} : Ev0 (mAug i f fa) Ts QF ↔ Ev0 (mRd i) Ts fun x Ts => Ev0 fa Ts fun y Ts => EvO0 (f x y) fun z => i < Ts.length ∧ QF .nx (Ts.set i z) := by
  simp [mAug]
@[simp] theorem Ev0_mFor {mi : M (List T)} {m : T → M Unit} {f : M Fl} : Ev0 (mFor mi m f) Ts QF ↔ Ev0 mi Ts fun items Ts => Ev0 (loopM m f items) Ts QF := by simp [mFor]
@[simp] theorem Ev0_mRng {f : List T → Option (List T)} {fs : M (List T)} : Ev0 (mRng f fs) Ts QL ↔ Ev0 fs Ts fun ts Ts => EvO0 (f ts) fun r => QL r Ts := by simp [mRng]
@[simp] theorem Ev0_mItA {fa : M T} : Ev0 (mItA fa) Ts QL ↔ Ev0 fa Ts fun t Ts => EvO0 (match t with
  | .str x => if x.length ≤ sizeLine then some (signsT x) else none
  | t => kidsI t) fun r => QL r Ts := by
  unfold mItA
  rw [Ev0_bnd]
  refine iff_of_eq (congrArg (Ev0 fa Ts) (funext fun t => funext fun s => propext ?_))
  cases t <;> simp
@[simp] theorem kidsI_tup' {ts : List T} : kidsI (.nd .tup ts) = if immL ts = true then some ts else none := rfl
@[simp] theorem kidsI_lst' {o : Bool} {ts : List T} : kidsI (.nd (.lst o) ts) = if immL ts = true then some ts else none := rfl
@[simp] theorem kidsI_scr' {ts : List T} : kidsI (.nd .scr ts) = if immL ts = true then some ts else none := rfl
@[simp] theorem fzA_nil {ts : List T} : fzA [] ts = [] := by simp [fzA]
@[simp] theorem fzA_none {ln : List (Option Nat)} {t : T} {ts : List T} : fzA (none :: ln) (t :: ts) = t.fz :: fzA ln ts := by simp [fzA]
@[simp] theorem fzA_some {ln : List (Option Nat)} {i : Nat} {t : T} {ts : List T} : fzA (some i :: ln) (t :: ts) = t :: fzA ln ts := by simp [fzA]
@[simp] theorem Ev0_putO_nil {os : List T} : Ev0 (putO [] os) Ts QU ↔ QU () Ts := by simp [putO]
@[simp] theorem Ev0_putO_none {ln : List (Option Nat)} {os : List T} : Ev0 (putO (none :: ln) os) Ts QU ↔ Ev0 (putO ln os) Ts QU := by simp [putO]
@[simp] theorem Ev0_putO_some {ln : List (Option Nat)} {i : Nat} {o : T} {os : List T} : Ev0 (putO (some i :: ln) (o :: os)) Ts QU ↔ i < Ts.length ∧ Ev0 (putO ln os) (Ts.set i o) QU := by
  unfold Ev0
  simp only [putO]
  by_cases h : i < Ts.length <;> simp [h]
@[simp] theorem Ev0_mCall {c : Cal} {ln : List (Option Nat)} {fs : M (List T)} : Ev0 (mCall c ln fs) Ts Q ↔ Ev0 fs Ts fun ts Ts => EvO0 (c (fzA ln ts)) fun p => Ev0 (putO ln p.2) Ts fun _ Ts => Q p.1 Ts := by simp [mCall]
@[simp] theorem Ev0_mCallP {c : Cal} {ln : List (Option Nat)} {fs : M (List T)} : Ev0 (mCallP c ln fs) Ts Q ↔ Ev0 fs Ts fun ts Ts => EvO0 (c (fzA ln ts)) fun p => (p.1.nofz && nofzL p.2) = true ∧ Ev0 (putO ln p.2) Ts fun _ Ts => Q p.1 Ts := by
  unfold mCallP
  rw [Ev0_bnd]
  refine iff_of_eq (congrArg (Ev0 fs Ts) (funext fun t => funext fun s => propext ?_))
  rw [Ev0_bnd, Ev0_lft]
  refine iff_of_eq (congrArg (EvO0 _) (funext fun p => propext ?_))
  by_cases h : (p.1.nofz && nofzL p.2) = true
  · rw [if_pos h]; simp [h]
  · rw [if_neg h]; simp only [Ev0_fail, false_iff]; exact fun z => h z.1
@[simp] theorem Ev0_mGive {c : Cal} {fa : M T} : Ev0 (mGive c fa) Ts Q ↔ Ev0 fa Ts fun t Ts => EvO0 (c [t]) fun p => Q p.1 Ts := by simp [mGive]
@[simp] theorem Ev0_mMake {c : Cal} {cls : Str} {ln : List (Option Nat)} {fs : M (List T)} : Ev0 (mMake c cls ln fs) Ts Q ↔ Ev0 fs Ts fun ts Ts => EvO0 (c (.nd (.ins true cls []) [] :: fzA ln ts)) fun p => ∃ s, p = (.non, [s]) ∧ Q s Ts := by
  unfold mMake
  rw [Ev0_bnd]
  refine iff_of_eq (congrArg (Ev0 fs Ts) (funext fun t => funext fun s => propext ?_))
  rw [Ev0_bnd, Ev0_lft]
  refine iff_of_eq (congrArg (EvO0 _) (funext fun p => propext ?_))
  obtain ⟨t, o⟩ := p
  cases t <;> simp
  match o with
  | [] => simp
  | [s] => simp
  | _ :: _ :: _ => simp
@[simp] theorem Ev0_mIns {cls m : Str} {fa : M T} : Ev0 (mIns cls m fa) Ts Q ↔ Ev0 fa Ts fun t Ts => EvO0 (isIns cls m t) fun t => Q t Ts := by simp [mIns]
@[simp] theorem Ev0_mNoP {q : Option Int → List T → Prop} : Ev0 mNoP Ts q ↔ q none Ts := by simp [mNoP]
@[simp] theorem Ev0_mPt {q : Option Int → List T → Prop} {fa : M T} : Ev0 (mPt fa) Ts q ↔ Ev0 fa Ts fun t Ts => EvO0 (iOf t) fun i => q (some i) Ts := by simp [mPt]
@[simp] theorem iOf_int {i : Int} : iOf (.int i) = some i := rfl
@[simp] theorem Ev0_mSl {f : T → Option Int → Option Int → Option T} {fa : M T} {fl fh : M (Option Int)} : Ev0 (mSl f fa fl fh) Ts Q ↔ Ev0 fa Ts fun t Ts => Ev0 fl Ts fun l Ts => Ev0 fh Ts fun h Ts => EvO0 (f t l h) fun r => Q r Ts := by simp [mSl]
@[simp] theorem Ev0_mHere {i : Nat} : Ev0 (mHere i) Ts QN ↔ (slot Ts i).live = true ∧ QN [] Ts := by
  cases h : slot Ts i with
  | dead => rw [Ev0_no (by unfold mHere; rw [h])]; simp
  | _ => rw [Ev0_is (a := []) (s := Ts) (by unfold mHere; rw [h])]; simp
@[simp] theorem Ev0_mStepL {i : Nat} {mp : M (List Nat)} {fk : M T} : Ev0 (mStepL i mp fk) Ts QN ↔ Ev0 mp Ts fun p Ts => Ev0 fk Ts fun k Ts => EvO0 ((subT p (slot Ts i)).bind fun n => stepL n k) fun j => QN (p ++ [j]) Ts := by
  simp only [mStepL, Ev0_bnd]
  refine iff_of_eq (congrArg (Ev0 mp Ts) (funext fun p => funext fun s => congrArg (Ev0 fk s) (funext fun k => funext fun u => propext ?_)))
  cases h : subT p (slot u i) with
  | none => rw [Ev0_no (by simp only [h])]; simp
  | some n =>
    cases h2 : stepL n k with
    | none => rw [Ev0_no (by simp only [h, h2])]; simp [h2]
    | some j => rw [Ev0_is (a := p ++ [j]) (s := u) (by simp only [h, h2])]; simp [h2]
@[simp] theorem Ev0_mStepF {i : Nat} {mp : M (List Nat)} {c f : Str} : Ev0 (mStepF i c f mp) Ts QN ↔ Ev0 mp Ts fun p Ts => EvO0 ((subT p (slot Ts i)).bind fun n => stepF c f n) fun j => QN (p ++ [j]) Ts := by
  simp only [mStepF, Ev0_bnd]
  refine iff_of_eq (congrArg (Ev0 mp Ts) (funext fun p => funext fun u => propext ?_))
  cases h : subT p (slot u i) with
  | none => rw [Ev0_no (by simp only [h])]; simp
  | some n =>
    cases h2 : stepF c f n with
    | none => rw [Ev0_no (by simp only [h, h2])]; simp [h2]
    | some j => rw [Ev0_is (a := p ++ [j]) (s := u) (by simp only [h, h2])]; simp [h2]
@[simp] theorem Ev0_mMut {i : Nat} {mp : M (List Nat)} {ck : T → Bool} {fs : M (List T)} {f : T → List T → Option (T × T)} : Ev0 (mMut i mp ck fs f) Ts Q ↔ Ev0 mp Ts fun p Ts => EvO0 (subT p (slot Ts i)) fun n => ck n = true ∧ Ev0 fs Ts fun ts Ts => EvO0 (subT p (slot Ts i)) fun n => n.ownNd = true ∧ EvO0 (f n ts) fun r => Q r.1 (Ts.set i (setT p (slot Ts i) r.2)) := by
  simp only [mMut, Ev0_bnd]
  refine iff_of_eq (congrArg (Ev0 mp Ts) (funext fun p => funext fun s => propext ?_))
  have e1 : ∀ R : Unit → List T → Prop, Ev0 (chk i p ck) s R ↔ EvO0 (subT p (slot s i)) fun n => ck n = true ∧ R () s := fun R => by
    cases h : subT p (slot s i) with
    | none => rw [Ev0_no (by unfold chk; simp only [h])]; simp
    | some n =>
      by_cases q : ck n = true
      · rw [Ev0_is (a := ()) (s := s) (by unfold chk; simp only [h, q, if_true])]; simp [q]
      · rw [Ev0_no (by unfold chk; simp only [h]; rw [if_neg q])]; simp [q]
  rw [e1]
  refine iff_of_eq (congrArg (EvO0 _) (funext fun n => propext (and_congr_right fun _ => ?_)))
  refine iff_of_eq (congrArg (Ev0 fs s) (funext fun ts => funext fun u => propext ?_))
  cases h : subT p (slot u i) with
  | none => rw [Ev0_no (by simp only [h])]; simp
  | some n =>
    by_cases q : n.ownNd = true
    · cases h2 : f n ts with
      | none => rw [Ev0_no (by simp only [h, q, h2, if_true])]; simp [h2]
      | some r => obtain ⟨r1, r2⟩ := r; rw [Ev0_is (a := r1) (s := u.set i (setT p (slot u i) r2)) (by simp only [h, q, h2, if_true])]; simp [q, h2]
    · rw [Ev0_no (by simp only [h]; rw [if_neg q])]; simp [q]
@[simp] theorem Ev0_mSetI {i : Nat} {mp : M (List Nat)} {fk fa : M T} : Ev0 (mSetI i mp fk fa) Ts QF ↔ Ev0 fa Ts fun v Ts => Ev0 mp Ts fun p Ts => Ev0 fk Ts fun k Ts => Ev0 (wr i p k v) Ts QF := by simp [mSetI]
@[simp] theorem Ev0_wr {i : Nat} {p : List Nat} {k v : T} : Ev0 (wr i p k v) Ts QF ↔ EvO0 (subT p (slot Ts i)) fun n => n.ownNd = true ∧ EvO0 (fSt n [k, v]) fun r => QF .nx (Ts.set i (setT p (slot Ts i) r.2)) := by
  cases h : subT p (slot Ts i) with
  | none => rw [Ev0_no (by unfold wr; simp only [h])]; simp
  | some n =>
    by_cases q : n.ownNd = true
    · cases h2 : fSt n [k, v] with
      | none => rw [Ev0_no (by unfold wr; simp only [h, q, h2, if_true])]; simp [h2]
      | some r => obtain ⟨r1, r2⟩ := r; rw [Ev0_is (a := .nx) (s := Ts.set i (setT p (slot Ts i) r2)) (by unfold wr; simp only [h, q, h2, if_true])]; simp [q, h2]
    · rw [Ev0_no (by unfold wr; simp only [h]; rw [if_neg q])]; simp [q]
@[simp] theorem Ev0_mSetP {i j : Nat} {mp : M (List Nat)} {fk fa : M T} : Ev0 (mSetP i mp fk j fa) Ts QF ↔ Ev0 fa Ts fun t Ts => ∃ v w, t = .nd .tup [v, w] ∧ v.imm = true ∧ w.imm = true ∧ Ev0 mp Ts fun p Ts => Ev0 fk Ts fun k Ts => Ev0 (wr i p k v) Ts fun _ Ts => j < Ts.length ∧ QF .nx (Ts.set j w) := by
  unfold mSetP
  rw [Ev0_bnd]
  refine iff_of_eq (congrArg (Ev0 fa Ts) (funext fun t => funext fun s => propext ?_))
  constructor
  · intro h
    split at h
    · rename_i v w
      by_cases q : (v.imm && w.imm) = true
      · rw [if_pos q] at h
        obtain ⟨q1, q2⟩ := Bool.and_eq_true_iff.mp q
        refine ⟨v, w, rfl, q1, q2, ?_⟩
        simpa using h
      · rw [if_neg q] at h; simp at h
    · simp at h
  · rintro ⟨v, w, rfl, q1, q2, h⟩
    simp only [q1, q2, Bool.and_self, if_true]
    simpa using h
@[simp] theorem Ev0_mSetF {i : Nat} {mp : M (List Nat)} {cls f : Str} {fa : M T} : Ev0 (mSetF i mp cls f fa) Ts QF ↔ Ev0 fa Ts fun v Ts => Ev0 mp Ts fun p Ts => EvO0 (subT p (slot Ts i)) fun n => n.ownNd = true ∧ EvO0 (fFl cls f n [v]) fun r => QF .nx (Ts.set i (setT p (slot Ts i) r.2)) := by
  simp only [mSetF, Ev0_bnd]
  refine iff_of_eq (congrArg (Ev0 fa Ts) (funext fun v => funext fun s => congrArg (Ev0 mp s) (funext fun p => funext fun u => propext ?_)))
  cases h : subT p (slot u i) with
  | none => rw [Ev0_no (by unfold wrF; simp only [h])]; simp
  | some n =>
    by_cases q : n.ownNd = true
    · cases h2 : fFl cls f n [v] with
      | none => rw [Ev0_no (by unfold wrF; simp only [h, q, h2, if_true])]; simp [h2]
      | some r => obtain ⟨r1, r2⟩ := r; rw [Ev0_is (a := .nx) (s := u.set i (setT p (slot u i) r2)) (by unfold wrF; simp only [h, q, h2, if_true])]; simp [q, h2]
    · rw [Ev0_no (by unfold wrF; simp only [h]; rw [if_neg q])]; simp [q]
@[simp] theorem subT_nil {t : T} : subT [] t = some t := by simp [subT]
@[simp] theorem subT_cons {j : Nat} {p : List Nat} {k : Kd} {ts : List T} : subT (j :: p) (.nd k ts) = (ts[j]?).bind (subT p) := by
  simp only [subT]
  cases ts[j]? <;> rfl
@[simp] theorem setT_nil {t n : T} : setT [] t n = n := by simp [setT]
@[simp] theorem setT_cons {j : Nat} {p : List Nat} {k : Kd} {ts : List T} {n : T} : setT (j :: p) (.nd k ts) n = .nd k (ts.set j (setT p (ts.getD j .dead) n)) := by simp [setT]
@[simp] theorem stepL_lst {o : Bool} {ts : List T} {j : Int} : stepL (.nd (.lst o) ts) (.int j) = ixN ts.length j := rfl
def lcRun (m : T → M Unit) (tt : M Bool) (te : M T) (vs : List Nat) (items : List T) : M T := fun Ts => if vs.all (fun i => hidOk (slot Ts i)) then (match lcM m tt te vs items [] (wipeT Ts vs) with
  | some (acc, Ts2) => some (.nd (.lst true) acc, rest Ts Ts2 vs)
  | none => none) else none
@[simp] theorem Ev0_mLc {mi : M (List T)} {m : T → M Unit} {tt : M Bool} {te : M T} {vs : List Nat} : Ev0 (mLc mi m tt te vs) Ts Q ↔ Ev0 mi Ts fun items Ts => Ev0 (lcRun m tt te vs items) Ts Q := by
  unfold mLc
  rw [Ev0_bnd]; rfl
def lc2Run (m : T → M Unit) (mi1 : M (List T)) (m1 : T → M Unit) (tt1 : M Bool) (te : M T) (vs vs1 : List Nat) (items : List T) : M T := fun Ts => if vs.all (fun i => hidOk (slot Ts i)) then (match lc2M m mi1 m1 tt1 te vs vs1 items [] (wipeT Ts vs) with
  | some (acc, Ts2) => some (.nd (.lst true) acc, rest Ts Ts2 vs)
  | none => none) else none
@[simp] theorem Ev0_mLc2 {mi mi1 : M (List T)} {m m1 : T → M Unit} {tt : M Bool} {te : M T} {vs vs1 : List Nat} : Ev0 (mLc2 mi m mi1 m1 tt te vs vs1) Ts Q ↔ Ev0 mi Ts fun items Ts => Ev0 (lc2Run m mi1 m1 tt te vs vs1 items) Ts Q := by
  unfold mLc2
  rw [Ev0_bnd]; rfl
end
section
variable {α : Type}
def Fl.turn0 (fl : Fl) (I : Prop) (q : Fl → Prop) : Prop := match fl with
  | .rt r => q (.rt r)
  | .bk => q .nx
  | _ => I
@[simp] theorem turn0_nx {k : Prop} {o : Fl → Prop} : Fl.turn0 .nx k o = k := rfl
@[simp] theorem turn0_ct {k : Prop} {o : Fl → Prop} : Fl.turn0 .ct k o = k := rfl
@[simp] theorem turn0_rt {t : T} {k : Prop} {o : Fl → Prop} : Fl.turn0 (.rt t) k o = o (.rt t) := rfl
@[simp] theorem turn0_bk {k : Prop} {o : Fl → Prop} : Fl.turn0 .bk k o = o .nx := rfl
theorem loop0_cons {m : T → M Unit} {f : M Fl} {t : T} {ts : List T} {Ts : List T} {Q : Fl → List T → Prop} (h : Ev0 (m t) Ts fun _ Ts => Ev0 f Ts fun fl Ts => fl.turn0 (Ev0 (loopM m f ts) Ts Q) fun o => Q o Ts) : Ev0 (loopM m f (t :: ts)) Ts Q := by
  simp only [loopM, Ev0_bnd]
  refine h.mono fun _ s h => h.mono fun fl s h => ?_
  cases fl <;> simpa using h
theorem loop0_at {m : T → M Unit} {f : M Fl} {enc : α → T} {Q : Fl → List T → Prop} (xs : List α) (Inv : List α → List T → Prop)
    (hb : ∀ pre x post, xs = pre ++ x :: post → ∀ Ts, Inv pre Ts → Ev0 (m (enc x)) Ts fun _ Ts => Ev0 f Ts fun fl Ts => fl.turn0 (Inv (pre ++ [x]) Ts) fun o => Q o Ts)
    (hq : ∀ Ts, Inv xs Ts → Q .nx Ts) : ∀ pre post, xs = pre ++ post → ∀ Ts, Inv pre Ts → Ev0 (loopM m f (post.map enc)) Ts Q
  | pre, [], e, Ts, h => by
    rw [List.append_nil] at e; subst e
    simp only [List.map_nil, loopM, Ev0_ret]
    exact hq Ts h
  | pre, x :: post, e, Ts, h => by
    rw [List.map_cons]
    refine loop0_cons ((hb pre x post e Ts h).mono fun _ s h => h.mono fun fl s h => ?_)
    cases fl with
    | nx => exact loop0_at xs Inv hb hq (pre ++ [x]) post (by rw [e]; simp) s h
    | ct => exact loop0_at xs Inv hb hq (pre ++ [x]) post (by rw [e]; simp) s h
    | bk => exact h
    | rt r => exact h
theorem loop0_inv {m : T → M Unit} {f : M Fl} {enc : α → T} {xs : List α} {Ts : List T} {Q : Fl → List T → Prop} (Inv : List α → List T → Prop) (h0 : Inv [] Ts)
    (hb : ∀ pre x post, xs = pre ++ x :: post → ∀ Ts, Inv pre Ts → Ev0 (m (enc x)) Ts fun _ Ts => Ev0 f Ts fun fl Ts => fl.turn0 (Inv (pre ++ [x]) Ts) fun o => Q o Ts)
    (hq : ∀ Ts, Inv xs Ts → Q .nx Ts) : Ev0 (loopM m f (xs.map enc)) Ts Q := loop0_at xs Inv hb hq [] xs rfl Ts h0
@[simp] theorem wipeT_nil {Ts : List T} : wipeT Ts [] = Ts := rfl
@[simp] theorem wipeT_cons {Ts : List T} {i : Nat} {vs : List Nat} : wipeT Ts (i :: vs) = wipeT (Ts.set i .dead) vs := rfl
@[simp] theorem rest_nil {Ts Ts2 : List T} : rest Ts Ts2 [] = Ts2 := rfl
@[simp] theorem rest_cons {Ts Ts2 : List T} {i : Nat} {vs : List Nat} : rest Ts Ts2 (i :: vs) = rest Ts (Ts2.set i (slot Ts i)) vs := rfl
@[simp] theorem hidOk_dead : hidOk .dead = true := rfl
theorem hidOk_imm {t : T} (h : t.imm = true) : hidOk t = true := by cases t <;> first | rfl | exact h
@[simp] theorem hidOk_non : hidOk .non = true := by simp [hidOk]
@[simp] theorem hidOk_int {i : Int} : hidOk (.int i) = true := by simp [hidOk]
@[simp] theorem hidOk_bl {i : Bool} : hidOk (.bl i) = true := by simp [hidOk]
@[simp] theorem hidOk_str {i : Str} : hidOk (.str i) = true := by simp [hidOk]
@[simp] theorem hidOk_nd {k : Kd} {ts : List T} : hidOk (.nd k ts) = (!k.own && immL ts) := by simp [hidOk]
theorem lcM0_at {m : T → M Unit} {tt : M Bool} {te : M T} {vs : List Nat} {enc : α → T} {Q : List T → List T → Prop} (xs : List α) (Inv : List α → List T → List T → Prop)
    (hb : ∀ pre x post, xs = pre ++ x :: post → ∀ acc Ts, Inv pre acc Ts → Ev0 (m (enc x)) Ts fun _ Ts => Ev0 tt Ts fun b Ts => if b = true then (Ev0 te Ts fun r Ts => acc.length < sizeLine ∧ Inv (pre ++ [x]) (acc ++ [r]) (wipeT Ts vs)) else Inv (pre ++ [x]) acc (wipeT Ts vs))
    (hq : ∀ acc Ts, Inv xs acc Ts → Q acc Ts) : ∀ pre post, xs = pre ++ post → ∀ acc Ts, Inv pre acc Ts → Ev0 (lcM m tt te vs (post.map enc) acc) Ts Q
  | pre, [], e, acc, Ts, h => by
    rw [List.append_nil] at e; subst e
    simp only [List.map_nil, lcM, Ev0_ret]
    exact hq acc Ts h
  | pre, x :: post, e, acc, Ts, h => by
    rw [List.map_cons]
    simp only [lcM, Ev0_bnd]
    refine (hb pre x post e acc Ts h).mono fun _ s h => h.mono fun b s h => ?_
    cases b with
    | true =>
      simp only [if_true] at h ⊢
      rw [Ev0_bnd]
      refine h.mono fun r s h => ?_
      rw [if_pos h.1]
      exact lcM0_at xs Inv hb hq (pre ++ [x]) post (by rw [e]; simp) _ _ h.2
    | false =>
      have h : Inv (pre ++ [x]) acc (wipeT s vs) := h
      exact lcM0_at xs Inv hb hq (pre ++ [x]) post (by rw [e]; simp) _ _ h
theorem lc0_inv {m : T → M Unit} {tt : M Bool} {te : M T} {vs : List Nat} {enc : α → T} {xs : List α} {Ts : List T} {Q : T → List T → Prop} (Inv : List α → List T → List T → Prop)
    (hv : vs.all (fun i => hidOk (slot Ts i)) = true) (h0 : Inv [] [] (wipeT Ts vs))
    (hb : ∀ pre x post, xs = pre ++ x :: post → ∀ acc Ts, Inv pre acc Ts → Ev0 (m (enc x)) Ts fun _ Ts => Ev0 tt Ts fun b Ts => if b = true then (Ev0 te Ts fun r Ts => acc.length < sizeLine ∧ Inv (pre ++ [x]) (acc ++ [r]) (wipeT Ts vs)) else Inv (pre ++ [x]) acc (wipeT Ts vs))
    (hq : ∀ acc Ts', Inv xs acc Ts' → Q (.nd (.lst true) acc) (rest Ts Ts' vs)) : Ev0 (lcRun m tt te vs (xs.map enc)) Ts Q := by
  obtain ⟨acc, s, e, q⟩ := lcM0_at (Q := fun acc Ts' => Q (.nd (.lst true) acc) (rest Ts Ts' vs)) xs Inv hb hq [] xs rfl [] _ h0
  refine ⟨_, _, ?_, q⟩
  unfold lcRun
  rw [if_pos hv, e]
theorem lc0_pure {m : T → M Unit} {tt : M Bool} {te : M T} {vs : List Nat} {enc : α → T} {xs : List α} {Ts : List T} {Q : T → List T → Prop} (p : α → Bool) (g : α → T)
    (hv : vs.all (fun i => hidOk (slot Ts i)) = true) (hl : xs.length ≤ sizeLine)
    (hb : ∀ x ∈ xs, Ev0 (m (enc x)) (wipeT Ts vs) fun _ Ts1 => Ev0 tt Ts1 fun b Ts1 => b = p x ∧ if b = true then (Ev0 te Ts1 fun r Ts1 => r = g x ∧ wipeT Ts1 vs = wipeT Ts vs) else wipeT Ts1 vs = wipeT Ts vs)
    (hq : Q (.nd (.lst true) ((xs.filter p).map g)) (rest Ts (wipeT Ts vs) vs)) : Ev0 (lcRun m tt te vs (xs.map enc)) Ts Q := by
  refine lc0_inv (fun pre acc s => acc = (pre.filter p).map g ∧ s = wipeT Ts vs) hv ⟨rfl, rfl⟩ (fun pre x post e acc s h => ?_) fun acc s h => ?_
  · obtain ⟨rfl, rfl⟩ := h
    refine (hb x (by rw [e]; simp)).mono fun _ s h => h.mono fun b s h => ?_
    obtain ⟨rfl, h⟩ := h
    by_cases hp : p x = true
    · rw [if_pos hp] at h ⊢
      refine h.mono fun r s h => ⟨?_, ?_, h.2⟩
      · have h1 := List.length_filter_le p pre
        have h2 : xs.length = pre.length + (post.length + 1) := by rw [e]; simp
        rw [List.length_map]
        omega
      · rw [List.filter_append, List.map_append, h.1]; simp [hp]
    · rw [if_neg hp] at h ⊢
      refine ⟨?_, h⟩
      rw [List.filter_append]; simp [hp]
  · obtain ⟨rfl, rfl⟩ := h; exact hq
end
def outO0 (io : List Nat) (fl : Fl) (Ts : List T) (Q : T × List T → Prop) : Prop := match fl with
  | .rt r => Q (r, io.map (slot Ts))
  | .nx => Q (.non, io.map (slot Ts))
  | _ => False
@[simp] theorem outO0_rt {io : List Nat} {r : T} {Ts : List T} {Q : T × List T → Prop} : outO0 io (.rt r) Ts Q = Q (r, io.map (slot Ts)) := rfl
@[simp] theorem outO0_nx {io : List Nat} {Ts : List T} {Q : T × List T → Prop} : outO0 io .nx Ts Q = Q (.non, io.map (slot Ts)) := rfl
theorem EvO0_runB {np n : Nat} {io : List Nat} {f : M Fl} {ts : List T} {Q : T × List T → Prop} (hl : ts.length = np) (h : Ev0 f (ts ++ List.replicate (n - np) .dead) fun fl Ts => outO0 io fl Ts Q) : EvO0 (runB np n io f ts) Q := by
  obtain ⟨fl, Ts', e, q⟩ := h
  unfold runB
  rw [if_pos hl, e]
  cases fl with
  | rt r => exact ⟨_, rfl, q⟩
  | nx => exact ⟨_, rfl, q⟩
  | bk => exact False.elim q
  | ct => exact False.elim q
section
variable {α β : Type}
abbrev Dep {β : Sort _} (_ : β) : Type := Unit
def Ev (m : M α) (Ts : List T) (Q : α → List T → Prop) (u : Dep (m, Q) := ()) : Prop := Ev0 m Ts Q
def EvO (o : Option α) (Q : α → Prop) (u : Dep Q := ()) : Prop := EvO0 o Q
def Inn (I : List T → Prop) (Ts : List T) (u : Dep I := ()) : Prop := I Ts
theorem Inn.mk {I : List T → Prop} {Ts : List T} (h : I Ts) : Inn I Ts := h
def Fl.then (fl : Fl) (k : Prop) (o : Fl → Prop) (u : Dep (k, o) := ()) : Prop := fl.then0 k o
def Fl.turn (fl : Fl) (I : Prop) (q : Fl → Prop) (u : Dep q := ()) : Prop := fl.turn0 I q
def outO (io : List Nat) (fl : Fl) (Ts : List T) (Q : T × List T → Prop) (u : Dep Q := ()) : Prop := outO0 io fl Ts Q
theorem EvO.eq {o : Option α} {a : α} (h : EvO o (· = a)) : o = some a := EvO0.eq h
theorem EvO.mono {o : Option α} {P Q : α → Prop} (h : EvO o P) (i : ∀ a, P a → Q a) : EvO o Q := EvO0.mono h i
theorem Ev.mono {m : M α} {Ts : List T} {P Q : α → List T → Prop} (h : Ev m Ts P) (i : ∀ a Ts', P a Ts' → Q a Ts') : Ev m Ts Q := Ev0.mono h i
theorem Ev_of {m : M α} {Ts Ts' : List T} {a : α} {Q : α → List T → Prop} (h : m Ts = some (a, Ts')) (q : Q a Ts') : Ev m Ts Q := ⟨a, Ts', h, q⟩
@[simp] theorem EvO_some {a : α} {Q : α → Prop} : EvO (some a) Q ↔ Q a := EvO0_some
@[simp] theorem EvO_none {Q : α → Prop} : EvO none Q ↔ False := EvO0_none
@[simp] theorem EvO_ite {c : Prop} [Decidable c] {o o' : Option α} {Q : α → Prop} : EvO (if c then o else o') Q ↔ if c then EvO o Q else EvO o' Q := EvO0_ite
@[simp] theorem EvO_bind {o : Option α} {f : α → Option β} {Q : β → Prop} : EvO (o.bind f) Q ↔ EvO o fun a => EvO (f a) Q := EvO0_bind
@[simp] theorem EvO_map {o : Option α} {f : α → β} {Q : β → Prop} : EvO (o.map f) Q ↔ EvO o fun a => Q (f a) := EvO0_map
@[simp] theorem Ev_bnd {x : M α} {f : α → M β} {Ts : List T} {Q : β → List T → Prop} : Ev (bnd x f) Ts Q ↔ Ev x Ts fun a Ts' => Ev (f a) Ts' Q := Ev0_bnd
@[simp] theorem Ev_ret {a : α} {Ts : List T} {Q : α → List T → Prop} : Ev (ret a) Ts Q ↔ Q a Ts := Ev0_ret
@[simp] theorem Ev_lft {o : Option α} {Ts : List T} {Q : α → List T → Prop} : Ev (lft o) Ts Q ↔ EvO o fun a => Q a Ts := Ev0_lft
@[simp] theorem Ev_fail {Ts : List T} {Q : α → List T → Prop} : Ev (fun _ => none) Ts Q ↔ False := Ev0_fail
@[simp] theorem Ev_ite {c : Prop} [Decidable c] {f g : M α} {Ts : List T} {Q : α → List T → Prop} : Ev (if c then f else g) Ts Q ↔ if c then Ev f Ts Q else Ev g Ts Q := Ev0_ite
end
section
variable {Ts : List T} {Q : T → List T → Prop} {QB : Bool → List T → Prop} {QL : List T → List T → Prop} {QF : Fl → List T → Prop} {QU : Unit → List T → Prop} {QN : List Nat → List T → Prop}
@[simp] theorem then_nx {k : Prop} {o : Fl → Prop} : Fl.then .nx k o = k := then0_nx
@[simp] theorem then_rt {t : T} {k : Prop} {o : Fl → Prop} : Fl.then (.rt t) k o = o (.rt t) := then0_rt
@[simp] theorem then_bk {k : Prop} {o : Fl → Prop} : Fl.then .bk k o = o .bk := then0_bk
@[simp] theorem then_ct {k : Prop} {o : Fl → Prop} : Fl.then .ct k o = o .ct := then0_ct
@[simp] theorem turn_nx {k : Prop} {o : Fl → Prop} : Fl.turn .nx k o = k := turn0_nx
@[simp] theorem turn_ct {k : Prop} {o : Fl → Prop} : Fl.turn .ct k o = k := turn0_ct
@[simp] theorem turn_rt {t : T} {k : Prop} {o : Fl → Prop} : Fl.turn (.rt t) k o = o (.rt t) := turn0_rt
@[simp] theorem turn_bk {k : Prop} {o : Fl → Prop} : Fl.turn .bk k o = o .nx := turn0_bk
@[simp] theorem Ev_mC {t : T} : Ev (mC t) Ts Q ↔ Q t Ts := Ev0_mC
@[simp] theorem Ev_mRd {i : Nat} : Ev (mRd i) Ts Q ↔ (slot Ts i).live = true ∧ Q (slot Ts i) Ts := Ev0_mRd
@[simp] theorem Ev_mIm {fa : M T} : Ev (mIm fa) Ts Q ↔ Ev fa Ts fun t Ts => t.imm = true ∧ Q t Ts := Ev0_mIm
@[simp] theorem Ev_mFz {i : Nat} : Ev (mFz i) Ts Q ↔ (slot Ts i).live = true ∧ Q (slot Ts i).fz (Ts.set i (slot Ts i).fz) := Ev0_mFz
@[simp] theorem Ev_mMv {i : Nat} : Ev (mMv i) Ts Q ↔ (slot Ts i).live = true ∧ (if (slot Ts i).imm = true then Q (slot Ts i) Ts else Q (slot Ts i) (Ts.set i .dead)) := Ev0_mMv
@[simp] theorem Ev_mLn {i : Nat} : Ev (mLn i) Ts Q ↔ (slot Ts i).live = true ∧ Q (slot Ts i) (Ts.set i .dead) := Ev0_mLn
@[simp] theorem Ev_mNil : Ev mNil Ts QL ↔ QL [] Ts := Ev0_mNil
@[simp] theorem Ev_mCons {fa : M T} {fs : M (List T)} : Ev (mCons fa fs) Ts QL ↔ Ev fa Ts fun a Ts => Ev fs Ts fun as Ts => QL (a :: as) Ts := Ev0_mCons
@[simp] theorem Ev_mStar {fa : M T} {fs : M (List T)} : Ev (mStar fa fs) Ts QL ↔ Ev fa Ts fun a Ts => EvO (kidsI a) fun ks => Ev fs Ts fun as Ts => QL (ks ++ as) Ts := Ev0_mStar
@[simp] theorem Ev_mTup {fs : M (List T)} : Ev (mTup fs) Ts Q ↔ Ev fs Ts fun ts Ts => ts.length ≤ sizeLine ∧ Q (.nd .tup ts) Ts := Ev0_mTup
@[simp] theorem Ev_mLst {fs : M (List T)} : Ev (mLst fs) Ts Q ↔ Ev fs Ts fun ts Ts => ts.length ≤ sizeLine ∧ Q (.nd (.lst true) ts) Ts := Ev0_mLst
@[simp] theorem Ev_mF {f : List T → Option T} {fs : M (List T)} : Ev (mF f fs) Ts Q ↔ Ev fs Ts fun ts Ts => EvO (f ts) fun t => Q t Ts := Ev0_mF
@[simp] theorem Ev_m1 {f : T → Option T} {fa : M T} : Ev (m1 f fa) Ts Q ↔ Ev fa Ts fun a Ts => EvO (f a) fun t => Q t Ts := Ev0_m1
@[simp] theorem Ev_m2 {f : T → T → Option T} {fa fb : M T} : Ev (m2 f fa fb) Ts Q ↔ Ev fa Ts fun a Ts => Ev fb Ts fun b Ts => EvO (f a b) fun t => Q t Ts := Ev0_m2
@[simp] theorem Ev_mFrz {fa : M T} : Ev (mFrz fa) Ts Q ↔ Ev fa Ts fun a Ts => Q a.fz Ts := Ev0_mFrz
@[simp] theorem Ev_asB {fa : M T} : Ev (asB fa) Ts QB ↔ Ev fa Ts fun a Ts => EvO (bOf a) fun b => QB b Ts := Ev0_asB
@[simp] theorem Ev_mAnd {fa fb : M Bool} : Ev (mAnd fa fb) Ts QB ↔ Ev fa Ts fun a Ts => if a = true then Ev fb Ts QB else QB false Ts := Ev0_mAnd
@[simp] theorem Ev_mOr {fa fb : M Bool} : Ev (mOr fa fb) Ts QB ↔ Ev fa Ts fun a Ts => if a = true then QB true Ts else Ev fb Ts QB := Ev0_mOr
@[simp] theorem Ev_mNot {fa : M Bool} : Ev (mNot fa) Ts QB ↔ Ev fa Ts fun a Ts => QB (!a) Ts := Ev0_mNot
@[simp] theorem Ev_mTru {fa : M T} : Ev (mTru fa) Ts QB ↔ Ev fa Ts fun a Ts => EvO (tru a) fun b => QB b Ts := Ev0_mTru
@[simp] theorem Ev_mIf {c : M Bool} {fa fb : M T} : Ev (mIf c fa fb) Ts Q ↔ Ev c Ts fun b Ts => if b = true then Ev fa Ts Q else Ev fb Ts Q := Ev0_mIf
@[simp] theorem Ev_mAndV {fa fb : M T} : Ev (mAndV fa fb) Ts Q ↔ Ev fa Ts fun a Ts => EvO (bOf a) fun b => if b = true then Ev fb Ts Q else Q (.bl false) Ts := Ev0_mAndV
@[simp] theorem Ev_mOrV {fa fb : M T} : Ev (mOrV fa fb) Ts Q ↔ Ev fa Ts fun a Ts => EvO (bOf a) fun b => if b = true then Q (.bl true) Ts else Ev fb Ts Q := Ev0_mOrV
@[simp] theorem Ev_mNotV {fa : M T} : Ev (mNotV fa) Ts Q ↔ Ev fa Ts fun a Ts => EvO (bOf a) fun b => Q (.bl (!b)) Ts := Ev0_mNotV
@[simp] theorem Ev_mChain {f f' : T → T → Option T} {fa fb fc : M T} : Ev (mChain f f' fa fb fc) Ts Q ↔ Ev fa Ts fun a Ts => Ev fb Ts fun b Ts => EvO (f a b) fun z => EvO (bOf z) fun k => if k = true then (Ev fc Ts fun c Ts => EvO (f' b c) fun r => Q r Ts) else Q (.bl false) Ts := Ev0_mChain
@[simp] theorem Ev_mSeq {f g : M Fl} : Ev (mSeq f g) Ts QF ↔ Ev f Ts fun fl Ts => fl.then (Ev g Ts QF) fun o => QF o Ts := Ev0_mSeq
@[simp] theorem Ev_mRet {fa : M T} : Ev (mRet fa) Ts QF ↔ Ev fa Ts fun t Ts => QF (.rt t) Ts := Ev0_mRet
@[simp] theorem Ev_mDrop {fa : M T} : Ev (mDrop fa) Ts QF ↔ Ev fa Ts fun t Ts => QF .nx Ts := Ev0_mDrop
@[simp] theorem Ev_mIfS {c : M Bool} {f g : M Fl} : Ev (mIfS c f g) Ts QF ↔ Ev c Ts fun b Ts => if b = true then Ev f Ts QF else Ev g Ts QF := Ev0_mIfS
@[simp] theorem Ev_mPut {i : Nat} {t : T} : Ev (mPut i t) Ts QU ↔ i < Ts.length ∧ QU () (Ts.set i t) := Ev0_mPut
@[simp] theorem Ev_mGnil : Ev (mGnil []) Ts QU ↔ QU () Ts := Ev0_mGnil
@[simp] theorem Ev_mGcons {m : T → M Unit} {ms : List T → M Unit} {t : T} {ts : List T} : Ev (mGcons m ms (t :: ts)) Ts QU ↔ Ev (m t) Ts fun _ Ts => Ev (ms ts) Ts QU := Ev0_mGcons
@[simp] theorem Ev_mUnT {n : Nat} {ms : List T → M Unit} {ts : List T} : Ev (mUn n ms (.nd .tup ts)) Ts QU ↔ ts.length = n ∧ Ev (ms ts) Ts QU := Ev0_mUnT
@[simp] theorem Ev_mUnL {n : Nat} {ms : List T → M Unit} {ts : List T} {o : Bool} : Ev (mUn n ms (.nd (.lst o) ts)) Ts QU ↔ ts.length = n ∧ Ev (ms ts) Ts QU := Ev0_mUnL
@[simp] theorem Ev_mAsg {fa : M T} {m : T → M Unit} : Ev (mAsg fa m) Ts QF ↔ Ev fa Ts fun t Ts => Ev (m t) Ts fun _ Ts => QF .nx Ts := Ev0_mAsg
@[simp] theorem Ev_mSet {fa : M T} {i : Nat} : Ev (mSet i fa) Ts QF ↔ Ev fa Ts fun t Ts => i < Ts.length ∧ QF .nx (Ts.set i t) := Ev0_mSet
@[simp] theorem Ev_mPar {i j : Nat} {fs : M (List T)} : Ev (mPar i j fs) Ts QF ↔ Ev fs Ts fun ts Ts => Ev (mGcons (mPut i) (mGcons (mPut j) mGnil) ts) Ts fun _ Ts => QF .nx Ts := Ev0_mPar
@[simp] theorem Ev_mPar3 {i j l : Nat} {fs : M (List T)} : Ev (mPar3 i j l fs) Ts QF ↔ Ev fs Ts fun ts Ts => Ev (mGcons (mPut i) (mGcons (mPut j) (mGcons (mPut l) mGnil)) ts) Ts fun _ Ts => QF .nx Ts := Ev0_mPar3
@[simp] theorem Ev_mAug {i : Nat} {f : T → T → Option T} {fa : M T} : Ev (mAug i f fa) Ts QF ↔ Ev (mRd i) Ts fun x Ts => Ev fa Ts fun y Ts => EvO (f x y) fun z => i < Ts.length ∧ QF .nx (Ts.set i z) := Ev0_mAug
@[simp] theorem Ev_mFor {mi : M (List T)} {m : T → M Unit} {f : M Fl} : Ev (mFor mi m f) Ts QF ↔ Ev mi Ts fun items Ts => Ev (loopM m f items) Ts QF := Ev0_mFor
@[simp] theorem Ev_mRng {f : List T → Option (List T)} {fs : M (List T)} : Ev (mRng f fs) Ts QL ↔ Ev fs Ts fun ts Ts => EvO (f ts) fun r => QL r Ts := Ev0_mRng
@[simp] theorem Ev_mItA {fa : M T} : Ev (mItA fa) Ts QL ↔ Ev fa Ts fun t Ts => EvO (match t with
  | .str x => if x.length ≤ sizeLine then some (signsT x) else none
  | t => kidsI t) fun r => QL r Ts := Ev0_mItA
@[simp] theorem Ev_putO_nil {os : List T} : Ev (putO [] os) Ts QU ↔ QU () Ts := Ev0_putO_nil
@[simp] theorem Ev_putO_none {ln : List (Option Nat)} {os : List T} : Ev (putO (none :: ln) os) Ts QU ↔ Ev (putO ln os) Ts QU := Ev0_putO_none
@[simp] theorem Ev_putO_some {ln : List (Option Nat)} {i : Nat} {o : T} {os : List T} : Ev (putO (some i :: ln) (o :: os)) Ts QU ↔ i < Ts.length ∧ Ev (putO ln os) (Ts.set i o) QU := Ev0_putO_some
@[simp] theorem Ev_mCall {c : Cal} {ln : List (Option Nat)} {fs : M (List T)} : Ev (mCall c ln fs) Ts Q ↔ Ev fs Ts fun ts Ts => EvO (c (fzA ln ts)) fun p => Ev (putO ln p.2) Ts fun _ Ts => Q p.1 Ts := Ev0_mCall
@[simp] theorem Ev_mCallP {c : Cal} {ln : List (Option Nat)} {fs : M (List T)} : Ev (mCallP c ln fs) Ts Q ↔ Ev fs Ts fun ts Ts => EvO (c (fzA ln ts)) fun p => (p.1.nofz && nofzL p.2) = true ∧ Ev (putO ln p.2) Ts fun _ Ts => Q p.1 Ts := Ev0_mCallP
@[simp] theorem Ev_mGive {c : Cal} {fa : M T} : Ev (mGive c fa) Ts Q ↔ Ev fa Ts fun t Ts => EvO (c [t]) fun p => Q p.1 Ts := Ev0_mGive
@[simp] theorem Ev_mMake {c : Cal} {cls : Str} {ln : List (Option Nat)} {fs : M (List T)} : Ev (mMake c cls ln fs) Ts Q ↔ Ev fs Ts fun ts Ts => EvO (c (.nd (.ins true cls []) [] :: fzA ln ts)) fun p => ∃ s, p = (.non, [s]) ∧ Q s Ts := Ev0_mMake
@[simp] theorem Ev_mIns {cls m : Str} {fa : M T} : Ev (mIns cls m fa) Ts Q ↔ Ev fa Ts fun t Ts => EvO (isIns cls m t) fun t => Q t Ts := Ev0_mIns
@[simp] theorem Ev_mNoP {q : Option Int → List T → Prop} : Ev mNoP Ts q ↔ q none Ts := Ev0_mNoP
@[simp] theorem Ev_mPt {q : Option Int → List T → Prop} {fa : M T} : Ev (mPt fa) Ts q ↔ Ev fa Ts fun t Ts => EvO (iOf t) fun i => q (some i) Ts := Ev0_mPt
@[simp] theorem Ev_mSl {f : T → Option Int → Option Int → Option T} {fa : M T} {fl fh : M (Option Int)} : Ev (mSl f fa fl fh) Ts Q ↔ Ev fa Ts fun t Ts => Ev fl Ts fun l Ts => Ev fh Ts fun h Ts => EvO (f t l h) fun r => Q r Ts := Ev0_mSl
@[simp] theorem Ev_mHere {i : Nat} : Ev (mHere i) Ts QN ↔ (slot Ts i).live = true ∧ QN [] Ts := Ev0_mHere
@[simp] theorem Ev_mStepL {i : Nat} {mp : M (List Nat)} {fk : M T} : Ev (mStepL i mp fk) Ts QN ↔ Ev mp Ts fun p Ts => Ev fk Ts fun k Ts => EvO ((subT p (slot Ts i)).bind fun n => stepL n k) fun j => QN (p ++ [j]) Ts := Ev0_mStepL
@[simp] theorem Ev_mStepF {i : Nat} {mp : M (List Nat)} {c f : Str} : Ev (mStepF i c f mp) Ts QN ↔ Ev mp Ts fun p Ts => EvO ((subT p (slot Ts i)).bind fun n => stepF c f n) fun j => QN (p ++ [j]) Ts := Ev0_mStepF
@[simp] theorem Ev_mMut {i : Nat} {mp : M (List Nat)} {ck : T → Bool} {fs : M (List T)} {f : T → List T → Option (T × T)} : Ev (mMut i mp ck fs f) Ts Q ↔ Ev mp Ts fun p Ts => EvO (subT p (slot Ts i)) fun n => ck n = true ∧ Ev fs Ts fun ts Ts => EvO (subT p (slot Ts i)) fun n => n.ownNd = true ∧ EvO (f n ts) fun r => Q r.1 (Ts.set i (setT p (slot Ts i) r.2)) := Ev0_mMut
@[simp] theorem Ev_mSetI {i : Nat} {mp : M (List Nat)} {fk fa : M T} : Ev (mSetI i mp fk fa) Ts QF ↔ Ev fa Ts fun v Ts => Ev mp Ts fun p Ts => Ev fk Ts fun k Ts => Ev (wr i p k v) Ts QF := Ev0_mSetI
@[simp] theorem Ev_wr {i : Nat} {p : List Nat} {k v : T} : Ev (wr i p k v) Ts QF ↔ EvO (subT p (slot Ts i)) fun n => n.ownNd = true ∧ EvO (fSt n [k, v]) fun r => QF .nx (Ts.set i (setT p (slot Ts i) r.2)) := Ev0_wr
@[simp] theorem Ev_mSetP {i j : Nat} {mp : M (List Nat)} {fk fa : M T} : Ev (mSetP i mp fk j fa) Ts QF ↔ Ev fa Ts fun t Ts => ∃ v w, t = .nd .tup [v, w] ∧ v.imm = true ∧ w.imm = true ∧ Ev mp Ts fun p Ts => Ev fk Ts fun k Ts => Ev (wr i p k v) Ts fun _ Ts => j < Ts.length ∧ QF .nx (Ts.set j w) := Ev0_mSetP
@[simp] theorem Ev_mSetF {i : Nat} {mp : M (List Nat)} {cls f : Str} {fa : M T} : Ev (mSetF i mp cls f fa) Ts QF ↔ Ev fa Ts fun v Ts => Ev mp Ts fun p Ts => EvO (subT p (slot Ts i)) fun n => n.ownNd = true ∧ EvO (fFl cls f n [v]) fun r => QF .nx (Ts.set i (setT p (slot Ts i) r.2)) := Ev0_mSetF
@[simp] theorem Ev_mLc {mi : M (List T)} {m : T → M Unit} {tt : M Bool} {te : M T} {vs : List Nat} : Ev (mLc mi m tt te vs) Ts Q ↔ Ev mi Ts fun items Ts => Ev (lcRun m tt te vs items) Ts Q := Ev0_mLc
@[simp] theorem Ev_mLc2 {mi mi1 : M (List T)} {m m1 : T → M Unit} {tt : M Bool} {te : M T} {vs vs1 : List Nat} : Ev (mLc2 mi m mi1 m1 tt te vs vs1) Ts Q ↔ Ev mi Ts fun items Ts => Ev (lc2Run m mi1 m1 tt te vs vs1 items) Ts Q := Ev0_mLc2
@[simp] theorem outO_rt {io : List Nat} {r : T} {Ts : List T} {Q : T × List T → Prop} : outO io (.rt r) Ts Q = Q (r, io.map (slot Ts)) := outO0_rt
@[simp] theorem outO_nx {io : List Nat} {Ts : List T} {Q : T × List T → Prop} : outO io .nx Ts Q = Q (.non, io.map (slot Ts)) := outO0_nx
end
section
variable {α : Type}
theorem loop_inv {m : T → M Unit} {f : M Fl} {enc : α → T} {xs : List α} {Ts : List T} {Q : Fl → List T → Prop} (Inv : List α → List T → Prop) (h0 : Inv [] Ts)
    (hb : ∀ pre x post, xs = pre ++ x :: post → ∀ Ts, Inv pre Ts → Ev (m (enc x)) Ts fun _ Ts => Ev f Ts fun fl Ts => fl.turn (Inn (Inv (pre ++ [x])) Ts) fun o => Q o Ts)
    (hq : ∀ Ts, Inv xs Ts → Q .nx Ts) : Ev (loopM m f (xs.map enc)) Ts Q := loop0_inv Inv h0 hb hq
theorem lc_pure {m : T → M Unit} {tt : M Bool} {te : M T} {vs : List Nat} {enc : α → T} {xs : List α} {Ts : List T} {Q : T → List T → Prop} (p : α → Bool) (g : α → T)
    (hv : vs.all (fun i => hidOk (slot Ts i)) = true) (hl : xs.length ≤ sizeLine)
    (hb : ∀ x ∈ xs, Ev (m (enc x)) (wipeT Ts vs) fun _ Ts1 => Ev tt Ts1 fun b Ts1 => b = p x ∧ if b = true then (Ev te Ts1 fun r Ts1 => r = g x ∧ wipeT Ts1 vs = wipeT Ts vs) else wipeT Ts1 vs = wipeT Ts vs)
    (hq : Q (.nd (.lst true) ((xs.filter p).map g)) (rest Ts (wipeT Ts vs) vs)) : Ev (lcRun m tt te vs (xs.map enc)) Ts Q := lc0_pure p g hv hl hb hq
theorem EvO_runB {np n : Nat} {io : List Nat} {f : M Fl} {ts : List T} {Q : T × List T → Prop} (hl : ts.length = np) (h : Ev f (ts ++ List.replicate (n - np) .dead) fun fl Ts => outO io fl Ts Q) : EvO (runB np n io f ts) Q := EvO0_runB hl h
end
end MI
namespace MI
open PySem L2
@[simp] theorem fAdd_int {i j : Int} : fAdd (.int i) (.int j) = some (.int (i + j)) := rfl
@[simp] theorem fSub_int {i j : Int} : fII iSub (.int i) (.int j) = some (.int (i - j)) := rfl
@[simp] theorem fIIAdd_int {i j : Int} : fII iAdd (.int i) (.int j) = some (.int (i + j)) := rfl
@[simp] theorem fXor_int {i j : Int} : fII iXor (.int i) (.int j) = some (.int (Builtin.bitXor i j)) := rfl
@[simp] theorem fNeg_int {i : Int} : fNeg (.int i) = some (.int (-i)) := rfl
theorem fMul_int {i j : Int} (h : i.natAbs.log2 + j.natAbs.log2 < 1000000) : fMul (.int i) (.int j) = some (.int (i * j)) := by
  simp [fMul, oe2, fII, iMul, h]
theorem fMod_int {i j : Int} (h : 0 < j) : fII iMod (.int i) (.int j) = some (.int (i % j)) := by simp [fII, iMod, h]
theorem fDiv_int {i j : Int} (h : 0 < j ∧ j.natAbs.log2 < 9000) : fII iDiv (.int i) (.int j) = some (.int (i / j)) := by simp [fII, iDiv, h]
theorem fDiv_int' {i j : Int} (h : 0 < j) (h1 : j < 1073741824) : fII iDiv (.int i) (.int j) = some (.int (i / j)) := by
  refine fDiv_int ⟨h, ?_⟩
  by_cases h0 : j.natAbs = 0
  · omega
  · exact (Nat.log2_lt h0).mpr (Nat.lt_of_lt_of_le (show j.natAbs < 2 ^ 30 by omega) (Nat.pow_le_pow_right (by omega) (by omega)))
theorem log2_lt_of {n k : Nat} (hk : 0 < k) (h : n < 2 ^ k) : n.log2 < k := by
  by_cases h0 : n = 0
  · subst h0; simpa using hk
  · exact (Nat.log2_lt h0).mpr h
theorem mul_small {i j : Int} (hi : i.natAbs ≤ 10 ^ 100) (hj : j.natAbs ≤ 10 ^ 100) : i.natAbs.log2 + j.natAbs.log2 < 1000000 := by
  have h1 : i.natAbs.log2 < 400 := log2_lt_of (by omega) (Nat.lt_of_le_of_lt hi (by decide +kernel))
  have h2 : j.natAbs.log2 < 400 := log2_lt_of (by omega) (Nat.lt_of_le_of_lt hj (by decide +kernel))
  omega
@[simp] theorem fIx_lst {o : Bool} {ts : List T} {i : Int} : fIx (.nd (.lst o) ts) (.int i) = atI ts i := by
  simp [fIx, oe2, fIxS, kids, fIxT, fIxK]; cases atI ts i <;> rfl
@[simp] theorem fIx_tup {ts : List T} {i : Int} : fIx (.nd .tup ts) (.int i) = atI ts i := by
  simp [fIx, oe2, fIxS, kids, fIxT, fIxK]; cases atI ts i <;> rfl
@[simp] theorem fIx_scr {ts : List T} {i : Int} : fIx (.nd .scr ts) (.int i) = atI ts i := by
  simp [fIx, oe2, fIxS, kids, fIxT, fIxK]; cases atI ts i <;> rfl
theorem ixN_of {n : Nat} {i : Int} (h0 : 0 ≤ i) (h1 : i < n) : ixN n i = some i.toNat := by
  unfold ixN; rw [if_pos h0, if_pos h1]
@[simp] theorem ixN_lit0 {n : Nat} : ixN (n + 1) 0 = some 0 := ixN_of (by omega) (by omega)
@[simp] theorem ixN_lit1 {n : Nat} : ixN (n + 1 + 1) 1 = some 1 := ixN_of (by omega) (by omega)
@[simp] theorem ixN_lit2 {n : Nat} : ixN (n + 1 + 1 + 1) 2 = some 2 := ixN_of (by omega) (by omega)
theorem atI_of {α : Type} {xs : List α} {i : Int} {k : Nat} (h : i = (k : Int)) (hk : k < xs.length) : atI xs i = some xs[k] := by
  subst h
  unfold atI
  rw [ixN_of (by omega) (by omega)]
  simp [hk]
@[simp] theorem atI_0 {α : Type} {x : α} {xs : List α} : atI (x :: xs) 0 = some x := by
  rw [atI_of (i := 0) (k := 0) rfl (by simp)]; rfl
@[simp] theorem atI_1 {α : Type} {x y : α} {xs : List α} : atI (x :: y :: xs) 1 = some y := by
  rw [atI_of (i := 1) (k := 1) rfl (by simp)]; rfl
@[simp] theorem atI_2 {α : Type} {x y z : α} {xs : List α} : atI (x :: y :: z :: xs) 2 = some z := by
  rw [atI_of (i := 2) (k := 2) rfl (by simp)]; rfl
@[simp] theorem fGt_int {i j : Int} : fGt (.int i) (.int j) = some (.bl (decide (j < i))) := rfl
@[simp] theorem fGe_int {i j : Int} : fGe (.int i) (.int j) = some (.bl (decide (j ≤ i))) := rfl
@[simp] theorem fLt_int {i j : Int} : fLt (.int i) (.int j) = some (.bl (decide (i < j))) := rfl
@[simp] theorem fLe_int {i j : Int} : fLe (.int i) (.int j) = some (.bl (decide (i ≤ j))) := rfl
@[simp] theorem fInt_int {i : Int} : fInt (.int i) = some (.int i) := rfl
@[simp] theorem c1_one {f : T → Option T} {t : T} : c1 f [t] = f t := rfl
@[simp] theorem c2_two {f : T → T → Option T} {t u : T} : c2 f [t, u] = f t u := rfl
theorem fDivmod_int {i j : Int} (h : 0 < j ∧ j < 1073741824) : fDivmod (.int i) (.int j) = some (.nd .tup [.int (i / j), .int (i % j)]) := by simp [fDivmod, h]
@[simp] theorem fLen_tup {ts : List T} : fLen (.nd .tup ts) = some (.int ts.length) := rfl
@[simp] theorem fLen_lst {o : Bool} {ts : List T} : fLen (.nd (.lst o) ts) = some (.int ts.length) := rfl
@[simp] theorem fLen_scr {ts : List T} : fLen (.nd .scr ts) = some (.int ts.length) := rfl
@[simp] theorem fSt_lst {ts : List T} {k : Int} {v : T} : fSt (.nd (.lst true) ts) [.int k, v] = (ixN ts.length k).map fun j => (.non, .nd (.lst true) (ts.set j v)) := by
  simp only [fSt]
  cases ixN ts.length k <;> rfl
abbrev jarT (a b c : Int) : T := .nd (.lst true) [.int a, .int b, .int c]
structure JarOk (n : Nat) (a b c : Int) : Prop where
  a0 : 0 ≤ a
  b0 : 0 ≤ b
  b1 : b < 2147483399
  c0 : 0 ≤ c
  c1 : c ≤ n
theorem JarOk.mono {n m : Nat} {a b c : Int} (h : JarOk n a b c) (hm : n ≤ m) : JarOk m a b c := ⟨h.a0, h.b0, h.b1, h.c0, by have := h.c1; omega⟩
theorem dip_spec {n : Nat} {a b c top : Int} {Q : T × List T → Prop} (hj : JarOk n a b c) (hn : n ≤ 1000000000) (h0 : 0 < top) (h1 : top < 1073741824)
    (k : ∀ d a' b' c', 0 ≤ d → d < top → JarOk (n + 1) a' b' c' → Q (.int d, [jarT a' b' c'])) : EvO (c__law_dip [jarT a b c, .int top]) Q := by
  obtain ⟨a0, b0, b1, c0, c1⟩ := hj
  refine EvO_runB rfl ?_
  simp [m__law_dip]
  split
  · simp [fDivmod_int ⟨h0, h1⟩]
    exact k _ _ _ _ (Int.emod_nonneg _ (by omega)) (Int.emod_lt_of_pos _ h0) ⟨Int.ediv_nonneg a0 (by omega), b0, b1, by omega, by omega⟩
  · rw [fMul_int (mul_small (by omega) (by decide))]
    simp
    rw [fMul_int (mul_small (by decide) (by omega))]
    simp [fMod_int, fDiv_int', h0]
    exact k _ _ _ _ (Int.emod_nonneg _ (by omega)) (Int.emod_lt_of_pos _ h0) ⟨a0, Int.emod_nonneg _ (by omega), Int.emod_lt_of_pos _ (by omega), by omega, by omega⟩
theorem one_of_spec {n : Nat} {a b c : Int} {o : Bool} {ts : List T} {Q : T × List T → Prop} (hj : JarOk n a b c) (hn : n ≤ 1000000000) (h0 : 0 < ts.length) (h1 : ts.length < 1073741824) (hi : immL ts = true)
    (k : ∀ (i : Nat) (h : i < ts.length) a' b' c', JarOk (n + 1) a' b' c' → Q (ts[i], [jarT a' b' c'])) : EvO (c__law_one_of [jarT a b c, .nd (.lst o) ts]) Q := by
  refine EvO_runB rfl ?_
  simp [m__law_one_of]
  refine dip_spec hj hn (by omega) (by omega) fun d a' b' c' d0 d1 hj' => ?_
  simp
  have hd : d.toNat < ts.length := by omega
  rw [atI_of (k := d.toNat) (by omega) hd]
  simp
  exact ⟨immL_all.mp hi _ (List.getElem_mem _), k _ hd _ _ _ hj'⟩
end MI
namespace MI
open PySem L2
def nameB (s : Str) : Bool := decide (1 ≤ s.length) && (decide (s.length ≤ 8) && s.cps.toList.all fun c => decide (97 ≤ c) && decide (c ≤ 122))
inductive Kind where
  | bits | plain | dial (m : Int)
deriving DecidableEq
def Kind.t : Kind → T
  | .bits => .str "bits"
  | .plain => .str "plain"
  | .dial m => .int m
structure Col where
  name : Str
  sums : List Str
  data : List (Str × Str)
deriving DecidableEq
inductive Cell where
  | sum (s : Str) | datum (n : Nat)
deriving DecidableEq
def Cell.t : Cell → T
  | .sum s => .nd .tup [.str "sum", .str s]
  | .datum n => .nd .tup [.str "datum", .int n]
def pairT (p : Str × Str) : T := .nd .tup [.str p.1, .str p.2]
def Col.l (c : Col) : T := .nd (.lst false) [.str c.name, .nd (.lst false) (c.sums.map T.str), .nd (.lst false) (c.data.map pairT)]
def Col.t (c : Col) : T := .nd .tup [.str c.name, .nd .tup (c.sums.map T.str), .nd .tup (c.data.map pairT)]
structure Chart where
  kind : Kind
  cols : List Col
def Chart.l (h : Chart) : T := .nd (.lst false) [h.kind.t, .nd (.lst false) (h.cols.map Col.l)]
def partsFrom : Nat → List Col → List (List Cell)
  | _, [] => []
  | n, c :: cs => (c.sums.map Cell.sum ++ (List.range' n c.data.length).map Cell.datum) :: partsFrom (n + c.data.length) cs
def Chart.parts (h : Chart) : List (List Cell) := partsFrom 0 h.cols
def Chart.cells (h : Chart) : List Cell := h.parts.flatten
def Chart.sums (h : Chart) : List Str := h.cols.flatMap Col.sums
def Chart.data (h : Chart) : List (Str × Str) := h.cols.flatMap Col.data
def Chart.names (h : Chart) : List Str := h.cols.map Col.name
def cellsT (cs : List Cell) : T := .nd .tup (cs.map Cell.t)
def Chart.tab (h : Chart) : T := .nd (.ins false "Table" ["kind", "columns", "held"]) [h.kind.t, .nd .tup (h.cols.map Col.t), .nd .tup (h.parts.map cellsT)]
@[simp] theorem live_kind {k : Kind} : k.t.live = true := by cases k <;> rfl
@[simp] theorem imm_kind {k : Kind} : k.t.imm = true := by cases k <;> simp [Kind.t]
@[simp] theorem fz_kind {k : Kind} : k.t.fz = k.t := T.fz_imm _ imm_kind
@[simp] theorem imm_cell {k : Cell} : k.t.imm = true := by cases k <;> simp [Cell.t]
@[simp] theorem live_cell {k : Cell} : k.t.live = true := by cases k <;> rfl
@[simp] theorem fz_cell {k : Cell} : k.t.fz = k.t := T.fz_imm _ imm_cell
@[simp] theorem imm_pairT {p : Str × Str} : (pairT p).imm = true := by simp [pairT]
@[simp] theorem live_pairT {p : Str × Str} : (pairT p).live = true := rfl
@[simp] theorem fz_pairT {p : Str × Str} : (pairT p).fz = pairT p := T.fz_imm _ imm_pairT
@[simp] theorem immL_pairs {l : List (Str × Str)} : immL (l.map pairT) = true := immL_map (fun _ => imm_pairT) l
@[simp] theorem immL_cells {l : List Cell} : immL (l.map Cell.t) = true := immL_map (fun _ => imm_cell) l
@[simp] theorem fzL_pairs {l : List (Str × Str)} : fzL (l.map pairT) = l.map pairT := fzL_imm _ immL_pairs
@[simp] theorem fzL_cells {l : List Cell} : fzL (l.map Cell.t) = l.map Cell.t := fzL_imm _ immL_cells
@[simp] theorem imm_cellsT {l : List Cell} : (cellsT l).imm = true := by simp [cellsT]
@[simp] theorem live_cellsT {l : List Cell} : (cellsT l).live = true := rfl
@[simp] theorem fz_cellsT {l : List Cell} : (cellsT l).fz = cellsT l := T.fz_imm _ imm_cellsT
@[simp] theorem immL_cellsT {l : List (List Cell)} : immL (l.map cellsT) = true := immL_map (fun _ => imm_cellsT) l
@[simp] theorem fzL_cellsT {l : List (List Cell)} : fzL (l.map cellsT) = l.map cellsT := fzL_imm _ immL_cellsT
@[simp] theorem imm_colL {c : Col} : c.l.imm = true := by simp [Col.l]
@[simp] theorem live_colL {c : Col} : c.l.live = true := rfl
@[simp] theorem fz_colL {c : Col} : c.l.fz = c.l := T.fz_imm _ imm_colL
@[simp] theorem immL_colL {l : List Col} : immL (l.map Col.l) = true := immL_map (fun _ => imm_colL) l
@[simp] theorem fzL_colL {l : List Col} : fzL (l.map Col.l) = l.map Col.l := fzL_imm _ immL_colL
@[simp] theorem imm_colT {c : Col} : c.t.imm = true := by simp [Col.t]
@[simp] theorem live_colT {c : Col} : c.t.live = true := rfl
@[simp] theorem fz_colT {c : Col} : c.t.fz = c.t := T.fz_imm _ imm_colT
@[simp] theorem immL_colT {l : List Col} : immL (l.map Col.t) = true := immL_map (fun _ => imm_colT) l
@[simp] theorem fzL_colT {l : List Col} : fzL (l.map Col.t) = l.map Col.t := fzL_imm _ immL_colT
@[simp] theorem imm_chart {h : Chart} : h.l.imm = true := by simp [Chart.l]
@[simp] theorem live_chart {h : Chart} : h.l.live = true := rfl
@[simp] theorem fz_chart {h : Chart} : h.l.fz = h.l := T.fz_imm _ imm_chart
@[simp] theorem imm_tab {h : Chart} : h.tab.imm = true := by simp [Chart.tab]
@[simp] theorem live_tab {h : Chart} : h.tab.live = true := rfl
@[simp] theorem fz_tab {h : Chart} : h.tab.fz = h.tab := T.fz_imm _ imm_tab
theorem rng1_int {n : Int} (h0 : -4611686018427387904 ≤ n) (h1 : n < 4611686018427387904) : rng1 [.int n] = some (rangeT 0 n) := by
  show (if _ then _ else _) = _; rw [if_pos ⟨by omega, by omega⟩]
def natT (n : Nat) : T := .int n
@[simp] theorem imm_natT {n : Nat} : (natT n).imm = true := by simp [natT]
@[simp] theorem live_natT {n : Nat} : (natT n).live = true := rfl
@[simp] theorem immL_natT {l : List Nat} : immL (l.map natT) = true := immL_map (fun _ => imm_natT) l
theorem rangeT_zero {n : Int} : rangeT 0 n = (List.range n.toNat).map natT := by
  unfold rangeT
  rw [show (n - 0).toNat = n.toNat by omega]
  exact List.map_congr_left fun i _ => by simp [natT]
@[simp] theorem isLst_lst {o : Bool} {ts : List T} : isLst (.nd (.lst o) ts) = true := rfl
@[simp] theorem fAppend_lst {ts : List T} {v : T} : fAppend (.nd (.lst true) ts) [v] = if ts.length < sizeLine then some (.non, .nd (.lst true) (ts ++ [v])) else none := rfl
@[simp] theorem fExtend_tup {ts us : List T} : fExtend (.nd (.lst true) ts) [.nd .tup us] = if ts.length + us.length ≤ sizeLine then some (.non, .nd (.lst true) (ts ++ us)) else none := rfl
@[simp] theorem fExtend_lst {ts us : List T} : fExtend (.nd (.lst true) ts) [.nd (.lst true) us] = if ts.length + us.length ≤ sizeLine then some (.non, .nd (.lst true) (ts ++ us)) else none := rfl
@[simp] theorem fAdd_lst {o p : Bool} {ts us : List T} : fAdd (.nd (.lst o) ts) (.nd (.lst p) us) = if immL ts = true ∧ immL us = true then (if ts.length + us.length ≤ sizeLine then some (.nd (.lst true) (ts ++ us)) else none) else none := by
  by_cases h1 : immL ts = true <;> by_cases h2 : immL us = true <;> simp [fAdd, oe2, fII, fAddS, fAddL, fAddT, kLe, kT, h1, h2]
  by_cases h : ts.length + us.length ≤ 16777216 <;> simp [h]
@[simp] theorem fAdd_tup {ts us : List T} : fAdd (.nd .tup ts) (.nd .tup us) = if immL ts = true ∧ immL us = true then (if ts.length + us.length ≤ sizeLine then some (.nd .tup (ts ++ us)) else none) else none := by
  by_cases h1 : immL ts = true <;> by_cases h2 : immL us = true <;> simp [fAdd, oe2, fII, fAddS, fAddL, fAddT, kLe, kT, h1, h2]
@[simp] theorem fTuple_lst {o : Bool} {ts : List T} : fTuple (.nd (.lst o) ts) = if immL ts = true then some (.nd .tup ts) else none := by
  simp only [fTuple, kidsI_lst']; split <;> rfl
@[simp] theorem fTuple_tup {ts : List T} : fTuple (.nd .tup ts) = if immL ts = true then some (.nd .tup ts) else none := by
  simp only [fTuple, kidsI_tup']; split <;> rfl
@[simp] theorem fList_lst {o : Bool} {ts : List T} : fListU (.nd (.lst o) ts) = if immL ts = true then some (.nd (.lst true) ts) else none := by
  by_cases h : immL ts = true <;> simp [fListU, fList, fListK, h]
@[simp] theorem fList_tup {ts : List T} : fListU (.nd .tup ts) = if immL ts = true then some (.nd (.lst true) ts) else none := by
  by_cases h : immL ts = true <;> simp [fListU, fList, fListK, h]
@[simp] theorem eqT_str {x y : Str} : eqT (.str x) (.str y) = decide (x = y) := by
  simp [eqT, toD, PyData.eqv]; rfl
@[simp] theorem eqT_int {x y : Int} : eqT (.int x) (.int y) = decide (x = y) := by
  simp [eqT, toD, PyData.eqv]; rfl
@[simp] theorem eqT_int_str {x : Int} {y : Str} : eqT (.int x) (.str y) = false := by simp [eqT, toD, PyData.eqv]
@[simp] theorem eqT_str_int {x : Str} {y : Int} : eqT (.str x) (.int y) = false := by simp [eqT, toD, PyData.eqv]
@[simp] theorem okD_str {n : Nat} {s : Str} : okD n (.str s) = okS s := by cases n <;> simp [okD]
@[simp] theorem okD_int {n : Nat} {s : Int} : okD n (.int s) = true := by cases n <;> simp [okD]
@[simp] theorem okD_non {n : Nat} : okD n .non = true := by cases n <;> simp [okD]
@[simp] theorem okD_bl {n : Nat} {b : Bool} : okD n (.bl b) = true := by cases n <;> simp [okD]
theorem fEq_ok {a b : T} (ha : okD 60 a = true) (hb : okD 60 b = true) : fEq a b = some (.bl (eqT a b)) := by simp [fEq, ha, hb]
theorem fNe_ok {a b : T} (ha : okD 60 a = true) (hb : okD 60 b = true) : fNe a b = some (.bl (!eqT a b)) := by simp [fNe, ha, hb]
theorem nameB_iff {s : Str} : nameB s = true ↔ 1 ≤ s.length ∧ s.length ≤ 8 ∧ ∀ c ∈ s.cps.toList, 97 ≤ c ∧ c ≤ 122 := by
  simp only [nameB, Bool.and_eq_true, decide_eq_true_eq, List.all_eq_true]
@[simp] theorem filter_tt {α : Type} {l : List α} : l.filter (fun _ => true) = l := List.filter_eq_self.mpr fun _ _ => rfl
theorem okS_name {s : Str} (h : nameB s = true) : okS s = true := by
  have h := (nameB_iff.mp h).2.2
  unfold okS
  rw [List.all_eq_true]
  intro c hc
  have := h c hc
  rw [Nat.blt_eq]; omega
theorem boolsOf_map {α : Type} (f : α → Bool) : ∀ xs : List α, boolsOf (xs.map fun x => .bl (f x)) = some (xs.map f)
  | [] => rfl
  | x :: xs => by simp [boolsOf, boolsOf_map f xs]
theorem fBools_map {α : Type} {o : Bool} (h : List Bool → Bool) (f : α → Bool) (xs : List α) : fBools h (.nd (.lst o) (xs.map fun x => .bl (f x))) = some (.bl (h (xs.map f))) := by
  simp [fBools, kA, boolsOf_map]
end MI
namespace MI
open PySem L2
end MI
namespace MI
open PySem L2
def Kind.ok : Kind → Prop
  | .dial m => 3 ≤ m ∧ m ≤ 1000000000
  | _ => True
structure Chart.Wf (h : Chart) : Prop where
  k : h.kind.ok
  c1 : 1 ≤ h.cols.length
  c8 : h.cols.length ≤ 8
  nd : h.names.Nodup
  nm : ∀ s ∈ h.names, nameB s = true
  sd : h.sums.Nodup
  sn : ∀ s ∈ h.sums, nameB s = true
  s1 : 1 ≤ h.sums.length
  s10 : h.sums.length ≤ 10
  d24 : h.data.length ≤ 24
  dp : ∀ p ∈ h.data, p.1 ∈ h.sums ∧ p.2 ∈ h.sums ∧ ltS p.1 p.2 = true
def Col.o (c : Col) : T := .nd (.lst true) [.str c.name, .nd (.lst true) (c.sums.map T.str), .nd (.lst true) (c.data.map pairT)]
@[simp] theorem fz_colO {c : Col} : c.o.fz = c.l := by simp [Col.o, Col.l]
@[simp] theorem live_colO {c : Col} : c.o.live = true := rfl
@[simp] theorem imm_colO {c : Col} : c.o.imm = false := by simp [Col.o]
@[simp] theorem fzL_colO {l : List Col} : fzL (l.map Col.o) = l.map Col.l := by simp [fzL_eq]
theorem fCut_lst {o : Bool} {ts : List T} {lo hi : Option Int} (h : immL ts = true) : fCut (.nd (.lst o) ts) lo hi = some (.nd (.lst true) (cutT ts lo hi)) := by simp [fCut, h]
theorem fCut_scr {ts : List T} {lo hi : Option Int} (h : immL ts = true) : fCut (.nd .scr ts) lo hi = some (.nd (.lst true) (cutT ts lo hi)) := by simp [fCut, h]
theorem cutT_map {α β : Type} (f : α → β) (xs : List α) (lo hi : Option Int) : cutT (xs.map f) lo hi = (cutT xs lo hi).map f := by simp [cutT, List.map_take, List.map_drop]
end MI
namespace MI
open PySem L2
end MI
namespace MI
open PySem L2
@[simp] theorem isB_str_str {s : Str} : isB .str (.str s) = some (.bl true) := rfl
@[simp] theorem isB_str_int {s : Int} : isB .str (.int s) = some (.bl false) := rfl
@[simp] theorem isB_int_int {s : Int} : isB .int (.int s) = some (.bl true) := rfl
@[simp] theorem isB_int_str {s : Str} : isB .int (.str s) = some (.bl false) := rfl
@[simp] theorem isB_bool_int {s : Int} : isB .bool (.int s) = some (.bl false) := rfl
@[simp] theorem isB_tuple_tup {ts : List T} : isB .tuple (.nd .tup ts) = some (.bl true) := rfl
theorem fLen_str {s : Str} (h : s.length ≤ 16777216) : fLen (.str s) = some (.int s.length) := by simp [fLen, h]
end MI
namespace MI
open PySem L2
@[simp] theorem fEq_int {i j : Int} : fEq (.int i) (.int j) = some (.bl (decide (i = j))) := by rw [fEq_ok (by simp) (by simp)]; simp
@[simp] theorem fNe_int {i j : Int} : fNe (.int i) (.int j) = some (.bl (!decide (i = j))) := by rw [fNe_ok (by simp) (by simp)]; simp
end MI
namespace MI
open PySem L2
@[simp] theorem fzL_natT {l : List Nat} : fzL (l.map natT) = l.map natT := fzL_imm _ immL_natT
@[simp] theorem fz_natT {n : Nat} : (natT n).fz = natT n := T.fz_imm _ imm_natT
end MI
namespace MI
open PySem L2
@[simp] theorem okD_nd {n : Nat} {k : Kd} {ts : List T} : okD (n + 1) (.nd k ts) = (k.seq && okDL n ts) := by simp [okD]
@[simp] theorem okDL_nil {n : Nat} : okDL n [] = true := by cases n <;> simp [okDL]
@[simp] theorem okDL_cons {n : Nat} {t : T} {ts : List T} : okDL n (t :: ts) = (okD n t && okDL n ts) := by cases n <;> simp [okDL]
@[simp] theorem okDL_append {n : Nat} {us : List T} : ∀ {ts : List T}, okDL n (ts ++ us) = (okDL n ts && okDL n us)
  | [] => by simp
  | t :: ts => by simp [okDL_append (ts := ts), Bool.and_assoc]
theorem okDL_map {α : Type} {n : Nat} {f : α → T} : ∀ {xs : List α}, (∀ x ∈ xs, okD n (f x) = true) → okDL n (xs.map f) = true
  | [], _ => by simp
  | x :: xs, h => by rw [List.map_cons, okDL_cons, h x List.mem_cons_self, okDL_map (fun y hy => h y (List.mem_cons_of_mem _ hy))]; rfl
@[simp] theorem seq_tup : Kd.seq .tup = true := rfl
@[simp] theorem seq_lst {o : Bool} : Kd.seq (.lst o) = true := rfl
theorem okDL_ints {n : Nat} {xs : List Int} : okDL n (xs.map T.int) = true := okDL_map fun _ _ => okD_int
theorem okDL_strs {n : Nat} {xs : List Str} (h : ∀ s ∈ xs, okS s = true) : okDL n (xs.map T.str) = true := okDL_map fun s hs => by rw [okD_str]; exact h s hs
@[simp] theorem toDL_nil : toDL [] = [] := by simp [toDL]
@[simp] theorem toDL_cons {t : T} {ts : List T} : toDL (t :: ts) = toD t :: toDL ts := by simp [toDL]
@[simp] theorem toD_tup {ts : List T} : toD (.nd .tup ts) = .tuple (toDL ts) := by simp [toD, Kd.isTup]
@[simp] theorem toD_lst {o : Bool} {ts : List T} : toD (.nd (.lst o) ts) = .list (toDL ts) := by simp [toD, Kd.isTup]
theorem toDL_map {α : Type} {f : α → T} : ∀ {xs : List α}, toDL (xs.map f) = xs.map fun x => toD (f x)
  | [] => by simp
  | x :: xs => by rw [List.map_cons, toDL_cons, toDL_map]; rfl
@[simp] theorem fIsNot_non : fIsNot .non .non = some (.bl false) := rfl
@[simp] theorem fIs_non : fIs .non .non = some (.bl true) := rfl
def Chart.tabO (h : Chart) : T := .nd (.ins true "Table" ["kind", "columns", "held"]) [h.kind.t, .nd .tup (h.cols.map Col.t), .nd .tup (h.parts.map cellsT)]
@[simp] theorem fz_tabO {h : Chart} : h.tabO.fz = h.tab := by simp [Chart.tabO, Chart.tab]
@[simp] theorem live_tabO {h : Chart} : h.tabO.live = true := rfl
theorem okD_colT {n : Nat} {c : Col} (h1 : nameB c.name = true) (h2 : ∀ s ∈ c.sums, nameB s = true) (h3 : ∀ p ∈ c.data, nameB p.1 = true ∧ nameB p.2 = true) : okD (n + 3) c.t = true := by
  simp [Col.t, okS_name h1, okDL_strs (fun s hs => okS_name (h2 s hs))]
  refine okDL_map fun p hp => ?_
  simp [pairT, okS_name (h3 p hp).1, okS_name (h3 p hp).2]
end MI
namespace MI
open PySem L2
@[simp] theorem fPow_int {i j : Int} : fII iPow (.int i) (.int j) = if 0 ≤ j ∧ j ≤ 1000 ∧ i.natAbs ≤ 1000000 then some (.int (i ^ j.toNat)) else none := by
  simp only [fII, iPow]; split <;> simp_all
@[simp] theorem eqT_bits {k : Kind} : eqT k.t (.str "bits") = decide (k = .bits) := by
  cases k <;> simp [Kind.t]
  decide +kernel
@[simp] theorem eqT_plain {k : Kind} : eqT k.t (.str "plain") = decide (k = .plain) := by
  cases k <;> simp [Kind.t]
  decide +kernel
theorem okD_kind {n : Nat} {k : Kind} : okD n k.t = true := by
  cases k <;> simp [Kind.t] <;> decide +kernel
theorem okS_bits : okS "bits" = true := by decide +kernel
theorem okS_plain : okS "plain" = true := by decide +kernel
@[simp] theorem fEq_bits {k : Kind} : fEq k.t (.str "bits") = some (.bl (decide (k = .bits))) := by rw [fEq_ok okD_kind (by rw [okD_str]; exact okS_bits), eqT_bits]
@[simp] theorem fEq_plain {k : Kind} : fEq k.t (.str "plain") = some (.bl (decide (k = .plain))) := by rw [fEq_ok okD_kind (by rw [okD_str]; exact okS_plain), eqT_plain]
theorem pow4 {k : Nat} (h : k < 4) : (32749 : Int) ^ k ≤ 32749 ^ 4 := by
  match k, h with
  | 0, _ => decide
  | 1, _ => decide
  | 2, _ => decide
  | 3, _ => decide
end MI
namespace MI
open PySem L2
@[simp] theorem okS_datum : okS "datum" = true := by decide +kernel
@[simp] theorem okS_sum : okS "sum" = true := by decide +kernel
@[simp] theorem ne_sum_datum : ¬ (Str.ofString "sum" = Str.ofString "datum") := by decide +kernel
@[simp] theorem ne_datum_sum : ¬ (Str.ofString "datum" = Str.ofString "sum") := by decide +kernel
@[simp] theorem fEq_sum_datum : fEq (.str "sum") (.str "datum") = some (.bl false) := by rw [fEq_ok (by simp) (by simp)]; simp
@[simp] theorem fEq_datum_datum : fEq (.str "datum") (.str "datum") = some (.bl true) := by rw [fEq_ok (by simp) (by simp)]; simp
@[simp] theorem fEq_sum_sum : fEq (.str "sum") (.str "sum") = some (.bl true) := by rw [fEq_ok (by simp) (by simp)]; simp
@[simp] theorem fEq_datum_sum : fEq (.str "datum") (.str "sum") = some (.bl false) := by rw [fEq_ok (by simp) (by simp)]; simp
end MI
namespace MI
open PySem L2
@[simp] theorem isIns_tab {h : Chart} : isIns "Table" Str.empty h.tab = some h.tab := by
  unfold isIns Chart.tab
  simp only
  rw [if_pos ⟨trivial, by decide +kernel⟩]
@[simp] theorem fld_kind {h : Chart} : fFld "Table" "kind" h.tab = some h.kind.t := by
  unfold fFld Chart.tab
  simp only [if_true]
  rw [show (["kind", "columns", "held"] : List Str).findIdx? (fun x : Str => x = "kind") = some 0 by decide +kernel]; rfl
@[simp] theorem fld_columns {h : Chart} : fFld "Table" "columns" h.tab = some (.nd .tup (h.cols.map Col.t)) := by
  unfold fFld Chart.tab
  simp only [if_true]
  rw [show (["kind", "columns", "held"] : List Str).findIdx? (fun x : Str => x = "columns") = some 1 by decide +kernel]; rfl
@[simp] theorem fld_held {h : Chart} : fFld "Table" "held" h.tab = some (.nd .tup (h.parts.map cellsT)) := by
  unfold fFld Chart.tab
  simp only [if_true]
  rw [show (["kind", "columns", "held"] : List Str).findIdx? (fun x : Str => x = "held") = some 2 by decide +kernel]; rfl
end MI
namespace MI
open PySem L2
def Cell.isD : Cell → Bool
  | .sum _ => false
  | .datum _ => true
@[simp] theorem fIx_cell0 {c : Cell} : fIx c.t (.int 0) = some (.str (if c.isD then "datum" else "sum")) := by cases c <;> simp [Cell.t, Cell.isD]
theorem zipT_map {α β : Type} (f : α → T) (g : β → T) (xs : List α) (ys : List β) : zipT (xs.map f) (ys.map g) = (xs.zip ys).map fun p => .nd .tup [f p.1, g p.2] := by
  unfold zipT
  rw [List.zip_map, List.map_map]; rfl
end MI
namespace MI
open PySem L2
mutual
def smT : T → Bool
  | .int i => decide (i.natAbs < 10 ^ 100)
  | .nd _ ts => smL ts
  | _ => true
def smL : List T → Bool
  | [] => true
  | t :: ts => smT t && smL ts
end
mutual
def rwT : T → Nat
  | .int _ => 101
  | .str s => 10 * s.length + 8
  | .nd _ ts => rwL ts + 3
  | _ => 5
def rwL : List T → Nat
  | [] => 0
  | t :: ts => rwT t + 2 + rwL ts
end
@[simp] theorem smT_int {i : Int} : smT (.int i) = decide (i.natAbs < 10 ^ 100) := by simp [smT]
@[simp] theorem smT_nd {k : Kd} {ts : List T} : smT (.nd k ts) = smL ts := by simp [smT]
@[simp] theorem smT_str {s : Str} : smT (.str s) = true := by simp [smT]
@[simp] theorem smT_non : smT .non = true := by simp [smT]
@[simp] theorem smT_bl {b : Bool} : smT (.bl b) = true := by simp [smT]
@[simp] theorem smL_nil : smL [] = true := by simp [smL]
@[simp] theorem smL_cons {t : T} {ts : List T} : smL (t :: ts) = (smT t && smL ts) := by simp [smL]
theorem smL_map {α : Type} {f : α → T} : ∀ {xs : List α}, (∀ x ∈ xs, smT (f x) = true) → smL (xs.map f) = true
  | [], _ => by simp
  | x :: xs, h => by rw [List.map_cons, smL_cons, h x List.mem_cons_self, smL_map (fun y hy => h y (List.mem_cons_of_mem _ hy))]; rfl
@[simp] theorem rwT_int {i : Int} : rwT (.int i) = 101 := by simp [rwT]
@[simp] theorem rwT_nd {k : Kd} {ts : List T} : rwT (.nd k ts) = rwL ts + 3 := by simp [rwT]
@[simp] theorem rwT_str {s : Str} : rwT (.str s) = 10 * s.length + 8 := by simp [rwT]
@[simp] theorem rwT_non : rwT .non = 5 := by simp [rwT]
@[simp] theorem rwT_bl {b : Bool} : rwT (.bl b) = 5 := by simp [rwT]
@[simp] theorem rwL_nil : rwL [] = 0 := by simp [rwL]
@[simp] theorem rwL_cons {t : T} {ts : List T} : rwL (t :: ts) = rwT t + 2 + rwL ts := by simp [rwL]
theorem rwL_map {α : Type} {f : α → T} {B : Nat} : ∀ {xs : List α}, (∀ x ∈ xs, rwT (f x) ≤ B) → rwL (xs.map f) ≤ (B + 2) * xs.length
  | [], _ => by simp
  | x :: xs, h => by
    have h1 := h x List.mem_cons_self
    have h2 := rwL_map (f := f) (B := B) (xs := xs) (fun y hy => h y (List.mem_cons_of_mem _ hy))
    rw [List.map_cons, rwL_cons, List.length_cons, Nat.mul_add]; omega
@[simp] theorem okS_append {a b : Str} : okS (a ++ b) = (okS a && okS b) := by
  show okS ⟨a.cps ++ b.cps⟩ = _
  simp only [okS, Array.toList_append, List.all_append]
end MI
namespace MI
open PySem L2
theorem jar_spec {ns : List Int} {turn : Nat} (ht : turn ≤ 1000) : ∃ a b, c__law_jar [.nd .scr (ns.map T.int), .int turn] = some (jarT a b 0, []) ∧ JarOk 0 a b 0 := by
  suffices h : EvO (c__law_jar [.nd .scr (ns.map T.int), .int turn]) fun p => ∃ a b, p = (jarT a b 0, []) ∧ JarOk 0 a b 0 by
    obtain ⟨p, e, a, b, rfl, hj⟩ := h
    exact ⟨a, b, e, hj⟩
  refine EvO_runB rfl ?_
  have key : ∀ cell : Int, Ev (mSeq (mSet 3 (mFrz (m2 fAdd (mC (.int 60013)) (m2 fMul (mC (.int 8009)) (mRd 1))))) (mSeq (mFor (mItA (m2 fAdd (mSl fCut (mRd 0) mNoP (mPt (mC (.int 5)))) (mLst (mCons (mIm (mRd 2)) mNil)))) (mPut 4) (mSet 3 (m2 (fII iMod) (mF (c1 fInt) (mCons (m2 fAdd (m2 fMul (mRd 3) (mC (.int 28411))) (mRd 4)) mNil)) (mC (.int 2147483087))))) (mRet (mLst (mCons (mIf (mOr (asB (m2 fLt (mRd 2) (mC (.int 0)))) (asB (m2 fGe (mRd 2) (m2 (fII iPow) (mC (.int 10)) (mC (.int 18)))))) (mF (c1 fAbs) (mCons (mRd 2) mNil)) (mC (.int 0))) (mCons (mIm (mRd 3)) (mCons (mC (.int 0)) mNil)))))))
      [.nd .scr (ns.map T.int), .int turn, .int cell, .dead, .dead] fun fl Ts => outO [] fl Ts fun p => ∃ a b, p = (jarT a b 0, []) ∧ JarOk 0 a b 0 := by
    intro cell
    simp
    rw [fMul_int (mul_small (by decide) (by omega))]
    simp [fCut_scr]
    rw [cutT_map]
    have hle : (cutT ns none (some 5)).length + 1 ≤ 16777216 := by
      have : (cutT ns none (some 5)).length ≤ 5 := by
        simp only [cutT, HT.sIx]
        simp
        omega
      omega
    simp [hle]
    rw [show (cutT ns none (some 5)).map T.int ++ [T.int cell] = (cutT ns none (some 5) ++ [cell]).map T.int by simp]
    refine ⟨by omega, ?_⟩
    refine loop_inv (enc := T.int) (fun pre Ts => ∃ (g : Int) (u : T), Ts = [.nd .scr (ns.map T.int), .int turn, .int cell, .int g, u] ∧ 0 ≤ g ∧ g < 2147483399) ⟨60013 + 8009 * turn, .dead, rfl, by omega, by omega⟩ ?_ ?_
    · rintro pre x post e Ts ⟨g, u, rfl, g0, g1⟩
      simp
      rw [fMul_int (mul_small (by omega) (by decide))]
      simp [fMod_int]
      refine Inn.mk ⟨_, _, rfl, Int.emod_nonneg _ (by omega), ?_⟩
      have := Int.emod_lt_of_pos (g * 28411 + x) (show (0 : Int) < 2147483087 by omega)
      omega
    · rintro Ts ⟨g, u, rfl, g0, g1⟩
      simp
      split
      · simp [fAbs]
        exact ⟨by split <;> omega, g0, g1, by omega, by omega⟩
      · split
        · simp [fAbs]
          exact ⟨by split <;> omega, g0, g1, by omega, by omega⟩
        · exact ⟨by omega, g0, g1, by omega, by omega⟩
  unfold m__law_jar
  simp only [List.cons_append, List.nil_append, Nat.reduceSub, List.replicate]
  rw [Ev_mSeq]
  simp
  split
  · rename_i hlt
    rw [atI_of (k := turn) rfl (by simpa using hlt)]
    simp
    simpa using key _
  · rw [fMul_int (mul_small (by decide) (by omega))]
    simp
    simpa using key _
end MI
namespace MI
open PySem L2
def rest01 : M Fl := (mSeq (mFor (mRng enumF (mCons (mCall c__law_given_errors [none] (mCons (mIm (mRd 2)) mNil)) mNil)) (mUn 2 (mGcons (mPut 3) (mGcons (mPut 4) mGnil))) (mIfS (asB (m2 fNe (mLc (mItA (mRd 4)) (mPut 1) (ret true) (mFrz (m2 fAdd (mCall c__law_sorts [none] (mCons (mIm (mRd 1)) mNil)) (mLst (mCons (mF (c1 fReprV) (mCons (m1 (fFldX ["InvalidText", "InvalidName", "InvalidIndex", "InvalidNumber", "InvalidKind", "InvalidWish", "InvalidLine", "NotATable", "UnknownName", "NotLost", "NotBack", "NotReady"] "given") (mRd 1)) mNil)) mNil)))) [1]) (m2 fMul (mLst (mCons (mFrz (mLst (mCons (mIm (mRd 3)) (mCons (mC (.int 50)) (mCons (mC (.int 53)) (mCons (mF (c1 fReprV) (mCons (mRd 2) mNil)) mNil)))))) mNil)) (mC (.int 2))))) (mRet (mC (.bl false))) (ret .nx))) (mSeq (mFor (mRng enumF (mCons (mCall c__law_index_errors [none] (mCons (mIm (mRd 2)) mNil)) mNil)) (mUn 2 (mGcons (mPut 3) (mGcons (mPut 4) mGnil))) (mIfS (asB (m2 fNe (mLc (mItA (mRd 4)) (mPut 1) (ret true) (mFrz (m2 fAdd (mCall c__law_sorts [none] (mCons (mIm (mRd 1)) mNil)) (mLst (mCons (mF (c1 fReprV) (mCons (m1 (fFldX ["InvalidColumns", "InvalidValues", "InvalidCells", "InvalidLost", "InvalidNames", "InvalidRounds", "InvalidDeeds", "Broken", "InUse"] "index") (mRd 1)) mNil)) mNil)))) [1]) (m2 fMul (mLst (mCons (mFrz (mLst (mCons (mFrz (m2 fAdd (mC (.int 8)) (mRd 3))) (mCons (mC (.int 50)) (mCons (mC (.int 53)) (mCons (mF (c1 fReprV) (mCons (mRd 2) mNil)) mNil)))))) mNil)) (mC (.int 2))))) (mRet (mC (.bl false))) (ret .nx))) (mSeq (mSet 5 (mLst (mCons (mFrz (mTup (mCons (mC (.int 15)) (mCons (mFrz (mLst (mCons (mFrz (mExV "UnknownName" "given" (mCons (mIm (mRd 2)) mNil))) (mCons (mFrz (mExV "UnknownName" "given" (mCons (mIm (mRd 2)) mNil))) mNil)))) mNil)))) mNil))) (mSeq (mDrop (mMut 5 (mHere 5) isLst (mCons (mFrz (mTup (mCons (mC (.int 16)) (mCons (mFrz (mLst (mCons (mFrz (mExV "NotLost" "given" (mCons (mIm (mRd 2)) mNil))) (mCons (mFrz (mExV "NotLost" "given" (mCons (mIm (mRd 2)) mNil))) mNil)))) mNil)))) mNil) fAppend)) (mSeq (mFor (mItA (mRd 5)) (mUn 2 (mGcons (mPut 3) (mGcons (mPut 4) mGnil))) (mIfS (asB (m2 fNe (mLc (mItA (mRd 4)) (mPut 1) (ret true) (mFrz (m2 fAdd (mCall c__law_sorts [none] (mCons (mIm (mRd 1)) mNil)) (mLst (mCons (mF (c1 fReprV) (mCons (m1 (fFldX ["InvalidText", "InvalidName", "InvalidIndex", "InvalidNumber", "InvalidKind", "InvalidWish", "InvalidLine", "NotATable", "UnknownName", "NotLost", "NotBack", "NotReady"] "given") (mRd 1)) mNil)) mNil)))) [1]) (m2 fMul (mLst (mCons (mFrz (mLst (mCons (mIm (mRd 3)) (mCons (mC (.int 51)) (mCons (mC (.int 54)) (mCons (mF (c1 fReprV) (mCons (mRd 2) mNil)) mNil)))))) mNil)) (mC (.int 2))))) (mRet (mC (.bl false))) (ret .nx))) (mSeq (mFor (mItA (mLst (mCons (mFrz (mTup (mCons (mC (.int 18)) (mCons (mFrz (mLst (mCons (mFrz (mExV "NotBack" "given" (mCons (mIm (mRd 2)) mNil))) (mCons (mFrz (mExV "NotBack" "given" (mCons (mIm (mRd 2)) mNil))) mNil)))) mNil)))) (mCons (mFrz (mTup (mCons (mC (.int 19)) (mCons (mFrz (mLst (mCons (mFrz (mExV "NotReady" "given" (mCons (mIm (mRd 2)) mNil))) (mCons (mFrz (mExV "NotReady" "given" (mCons (mIm (mRd 2)) mNil))) mNil)))) mNil)))) mNil)))) (mUn 2 (mGcons (mPut 3) (mGcons (mPut 4) mGnil))) (mIfS (asB (m2 fNe (mLc (mItA (mRd 4)) (mPut 1) (ret true) (mFrz (m2 fAdd (mCall c__law_sorts [none] (mCons (mIm (mRd 1)) mNil)) (mLst (mCons (mF (c1 fReprV) (mCons (m1 (fFldX ["InvalidText", "InvalidName", "InvalidIndex", "InvalidNumber", "InvalidKind", "InvalidWish", "InvalidLine", "NotATable", "UnknownName", "NotLost", "NotBack", "NotReady"] "given") (mRd 1)) mNil)) mNil)))) [1]) (m2 fMul (mLst (mCons (mFrz (mLst (mCons (mIm (mRd 3)) (mCons (mC (.int 52)) (mCons (mC (.int 55)) (mCons (mF (c1 fReprV) (mCons (mRd 2) mNil)) mNil)))))) mNil)) (mC (.int 2))))) (mRet (mC (.bl false))) (ret .nx))) (mSeq (mFor (mItA (mLst (mCons (mFrz (mTup (mCons (mC (.int 20)) (mCons (mFrz (mLst (mCons (mFrz (mExV "Broken" "index" (mCons (mIm (mRd 2)) mNil))) (mCons (mFrz (mExV "Broken" "index" (mCons (mIm (mRd 2)) mNil))) mNil)))) mNil)))) (mCons (mFrz (mTup (mCons (mC (.int 21)) (mCons (mFrz (mLst (mCons (mFrz (mExV "InUse" "index" (mCons (mIm (mRd 2)) mNil))) (mCons (mFrz (mExV "InUse" "index" (mCons (mIm (mRd 2)) mNil))) mNil)))) mNil)))) mNil)))) (mUn 2 (mGcons (mPut 3) (mGcons (mPut 4) mGnil))) (mIfS (asB (m2 fNe (mLc (mItA (mRd 4)) (mPut 1) (ret true) (mFrz (m2 fAdd (mCall c__law_sorts [none] (mCons (mIm (mRd 1)) mNil)) (mLst (mCons (mF (c1 fReprV) (mCons (m1 (fFldX ["InvalidColumns", "InvalidValues", "InvalidCells", "InvalidLost", "InvalidNames", "InvalidRounds", "InvalidDeeds", "Broken", "InUse"] "index") (mRd 1)) mNil)) mNil)))) [1]) (m2 fMul (mLst (mCons (mFrz (mLst (mCons (mIm (mRd 3)) (mCons (mC (.int 52)) (mCons (mC (.int 55)) (mCons (mF (c1 fReprV) (mCons (mRd 2) mNil)) mNil)))))) mNil)) (mC (.int 2))))) (mRet (mC (.bl false))) (ret .nx))) (mRet (mC (.bl true))))))))))
theorem cut01 : m__law_right_k01 = mSeq (mSet 2 (mFrz (mCall c__law_one_of [(some 0), none] (mCons (mLn 0) (mCons (mFrz (mLst (mCons (mC .non) (mCons (mC (.int 0)) (mCons (m1 fNeg (mC (.int 3))) (mCons (mC (.bl true)) (mCons (mC (.str "a")) (mCons (mC (.str "")) (mCons (mFrz (mTup mNil)) (mCons (mFrz (mTup (mCons (mC (.int 1)) (mCons (mC (.int 2)) mNil)))) (mCons (mFrz (mLst mNil)) (mCons (mFrz (mLst (mCons (mC (.int 7)) mNil))) (mCons (mFrz (mC (.nd (.dK true []) []))) (mCons (mFrz (mDisp1 (mC (.str "a")) (mC (.int 1)))) (mCons (m2 (fII iPow) (mC (.int 10)) (mC (.int 30))) (mCons (mFrz (mTup (mCons (mC (.str "sum")) (mCons (mC (.int 3)) mNil)))) mNil)))))))))))))))) mNil))))) rest01 := rfl
def isT01 (o : Option (Fl × List T)) : Bool := match o with
  | some (.rt (.bl true), _) => true
  | _ => false
theorem isT01_ok {o : Option (Fl × List T)} (h : isT01 o = true) : ∃ Ts, o = some (.rt (.bl true), Ts) := by
  unfold isT01 at h
  split at h
  · exact ⟨_, rfl⟩
  · cases h
theorem run01_0 (J : T) : isT01 (rest01 [J, .dead, .non, .dead, .dead, .dead]) = true := by kernel_rfl
theorem run01_1 (J : T) : isT01 (rest01 [J, .dead, .int 0, .dead, .dead, .dead]) = true := by kernel_rfl
theorem run01_2 (J : T) : isT01 (rest01 [J, .dead, .int (-3), .dead, .dead, .dead]) = true := by kernel_rfl
theorem run01_3 (J : T) : isT01 (rest01 [J, .dead, .bl true, .dead, .dead, .dead]) = true := by kernel_rfl
theorem run01_4 (J : T) : isT01 (rest01 [J, .dead, .str "a", .dead, .dead, .dead]) = true := by kernel_rfl
theorem run01_5 (J : T) : isT01 (rest01 [J, .dead, .str "", .dead, .dead, .dead]) = true := by kernel_rfl
theorem run01_6 (J : T) : isT01 (rest01 [J, .dead, .nd .tup [], .dead, .dead, .dead]) = true := by kernel_rfl
theorem run01_7 (J : T) : isT01 (rest01 [J, .dead, .nd .tup [.int 1, .int 2], .dead, .dead, .dead]) = true := by kernel_rfl
theorem run01_8 (J : T) : isT01 (rest01 [J, .dead, .nd (.lst false) [], .dead, .dead, .dead]) = true := by kernel_rfl
theorem run01_9 (J : T) : isT01 (rest01 [J, .dead, .nd (.lst false) [.int 7], .dead, .dead, .dead]) = true := by kernel_rfl
theorem run01_10 (J : T) : isT01 (rest01 [J, .dead, .nd (.dK false []) [], .dead, .dead, .dead]) = true := by kernel_rfl
theorem run01_11 (J : T) : isT01 (rest01 [J, .dead, .nd (.dK false [.inr "a"]) [.int 1], .dead, .dead, .dead]) = true := by kernel_rfl
theorem run01_12 (J : T) : isT01 (rest01 [J, .dead, .int 1000000000000000000000000000000, .dead, .dead, .dead]) = true := by kernel_rfl
theorem run01_13 (J : T) : isT01 (rest01 [J, .dead, .nd .tup [.str "sum", .int 3], .dead, .dead, .dead]) = true := by kernel_rfl
theorem disp01 : mDisp1 (mC (.str "a")) (mC (.int 1)) = mC (.nd (.dK true [.inr "a"]) [.int 1]) := by
  funext Ts
  rfl
theorem pow01 : fII iPow (.int 10) (.int 30) = some (.int 1000000000000000000000000000000) := by kernel_rfl
theorem right01 {n : Nat} {a b c : Int} (hj : JarOk n a b c) (hn : n ≤ 1000) : EvO (c__law_right_k01 [jarT a b c]) fun p => p.1 = .bl true := by
  refine EvO_runB rfl ?_
  rw [cut01, disp01]
  simp [pow01]
  refine one_of_spec hj (by omega) (by simp) (by simp) (by simp) fun i hi a1 b1 c1 hj1 => ?_
  simp at hi
  have go : ∀ {t : T}, isT01 (rest01 [jarT a1 b1 c1, .dead, t, .dead, .dead, .dead]) = true → Ev rest01 [jarT a1 b1 c1, .dead, t, .dead, .dead, .dead] fun fl Ts => outO [0] fl Ts fun p => p.1 = .bl true := fun h => by
    obtain ⟨Ts, e⟩ := isT01_ok h
    exact ⟨_, _, e, rfl⟩
  match i, hi with
  | 0, _ => simp only [List.getElem_cons_zero, List.getElem_cons_succ]; simp; exact go (run01_0 _)
  | 1, _ => simp only [List.getElem_cons_zero, List.getElem_cons_succ]; simp; exact go (run01_1 _)
  | 2, _ => simp only [List.getElem_cons_zero, List.getElem_cons_succ]; simp; exact go (run01_2 _)
  | 3, _ => simp only [List.getElem_cons_zero, List.getElem_cons_succ]; simp; exact go (run01_3 _)
  | 4, _ => simp only [List.getElem_cons_zero, List.getElem_cons_succ]; simp; exact go (run01_4 _)
  | 5, _ => simp only [List.getElem_cons_zero, List.getElem_cons_succ]; simp; exact go (run01_5 _)
  | 6, _ => simp only [List.getElem_cons_zero, List.getElem_cons_succ]; simp; exact go (run01_6 _)
  | 7, _ => simp only [List.getElem_cons_zero, List.getElem_cons_succ]; simp; exact go (run01_7 _)
  | 8, _ => simp only [List.getElem_cons_zero, List.getElem_cons_succ]; simp; exact go (run01_8 _)
  | 9, _ => simp only [List.getElem_cons_zero, List.getElem_cons_succ]; simp; exact go (run01_9 _)
  | 10, _ => simp only [List.getElem_cons_zero, List.getElem_cons_succ]; simp; exact go (run01_10 _)
  | 11, _ => simp only [List.getElem_cons_zero, List.getElem_cons_succ]; simp; exact go (run01_11 _)
  | 12, _ => simp only [List.getElem_cons_zero, List.getElem_cons_succ]; simp; exact go (run01_12 _)
  | 13, _ => simp only [List.getElem_cons_zero, List.getElem_cons_succ]; simp; exact go (run01_13 _)
  | n + 14, h => omega
def head01 : M Fl := mSeq (mSeq (mSeq (mSet 3 (mFrz (mLst (mCons (mFrz (mC (.int 8))) (mCons (mFrz (mC (.int 10))) (mCons (mFrz (mC (.int 24))) (mCons (mFrz (mC (.int 1000000000))) (mCons (mFrz (mC (.int 60))) (mCons (mFrz (mC (.int 1000000000000000000000000000000))) (mCons (mFrz (mC (.int 100000000000000000000000000000000))) (mCons (mFrz (mC (.int 14))) mNil))))))))))) (mIfS (asB (m2 fNe (mF (c1 fRepr) (mCons (mRd 3) mNil)) (mF (c1 fRepr) (mCons (mLst (mCons (mC (.int 8)) (mCons (mC (.int 10)) (mCons (mC (.int 24)) (mCons (m2 (fII iPow) (mC (.int 10)) (mC (.int 9))) (mCons (mC (.int 60)) (mCons (m2 (fII iPow) (mC (.int 10)) (mC (.int 30))) (mCons (m2 (fII iPow) (mC (.int 10)) (mC (.int 32))) (mCons (mC (.int 14)) mNil))))))))) mNil)))) (mRet (mC (.bl false))) (ret .nx))) (mSet 4 (mFrz (mLst (mCons (mFrz (mExN "NotRight")) (mCons (mFrz (mExN "NothingToUndo")) (mCons (mFrz (mExN "WrongValue")) (mCons (mFrz (mExN "WrongName")) (mCons (mFrz (mExN "NoAnswer")) mNil))))))))) (mIfS (asB (m2 fNe (mLc (mItA (mRd 4)) (mPut 1) (ret true) (mFrz (mCall c__law_sorts [none] (mCons (mIm (mRd 1)) mNil))) [1]) (mLst (mCons (mFrz (mLst (mCons (mC (.int 17)) (mCons (mC (.int 52)) (mCons (mC (.int 55)) mNil))))) (mCons (mFrz (mLst (mCons (mC (.int 22)) (mCons (mC (.int 52)) (mCons (mC (.int 55)) mNil))))) (mCons (mFrz (mLst (mCons (mC (.int 50)) (mCons (mC (.int 53)) mNil)))) (mCons (mFrz (mLst (mCons (mC (.int 51)) (mCons (mC (.int 54)) mNil)))) (mCons (mFrz (mLst (mCons (mC (.int 52)) (mCons (mC (.int 55)) mNil)))) mNil)))))))) (mRet (mC (.bl false))) (ret .nx))
def tail01 : M Fl := (mRet (mF (c1 (fBools fun bs => bs.all id)) (mCons (mLc (mRng rng1 (mCons (mF (c2 fMax) (mCons (mC (.int 2)) (mCons (mF (c2 fMin) (mCons (mF (c1 fLen) (mCons (mRd 0) mNil)) (mCons (mC (.int 6)) mNil))) mNil))) mNil)) (mPut 2) (ret true) (mFrz (mGive c__law_right_k01 (mCall c__law_jar [none, none] (mCons (mIm (mRd 0)) (mCons (mIm (mRd 2)) mNil))))) [2]) mNil)))
theorem mSeq_as (f g h : M Fl) : mSeq f (mSeq g h) = mSeq (mSeq f g) h := by
  funext Ts
  unfold mSeq bnd
  cases f Ts with
  | none => rfl
  | some p =>
    obtain ⟨fl, T1⟩ := p
    cases fl <;> rfl
theorem cutl01 : m_law_k01 = mSeq head01 tail01 := by
  unfold head01
  rw [← mSeq_as, ← mSeq_as, ← mSeq_as]
  rfl
theorem runl01 (J : T) : (head01 [J, .dead, .dead, .dead, .dead]).map (fun p => (p.1, p.2.take 3, p.2.length)) = some (.nx, [J, .dead, .dead], 5) := by kernel_rfl
theorem plain01 (ns : List Int) (hl : ns.length ≤ 63) : c_law_k01 [.nd .scr (ns.map T.int)] = some (.bl true, []) := by
  refine EvO.eq (EvO_runB rfl ?_)
  obtain ⟨⟨fl, Ts⟩, h1, h2⟩ := Option.map_eq_some_iff.mp (runl01 (.nd .scr (ns.map T.int)))
  injection h2 with h2 h3
  injection h3 with h3 h4
  have h2 : fl = .nx := h2
  subst h2
  obtain ⟨x3, x4, rfl⟩ : ∃ x3 x4, Ts = [.nd .scr (ns.map T.int), .dead, .dead, x3, x4] := by
    match Ts, h3, h4 with
    | [y0, y1, y2, y3, y4], h3, _ =>
      simp at h3
      obtain ⟨rfl, rfl, rfl⟩ := h3
      exact ⟨y3, y4, rfl⟩
  rw [cutl01]
  simp
  refine Ev_of h1 ?_
  simp [tail01, fMin, fMax]
  rw [rng1_int (by split <;> split <;> omega) (by split <;> split <;> omega), rangeT_zero]
  generalize hN : Int.toNat _ = N
  have hN : N ≤ 6 := by rw [← hN]; split <;> split <;> omega
  simp
  refine lc_pure (enc := natT) (xs := List.range N) (fun _ => true) (fun _ => .bl true) (by simp) (by simp; omega) (fun k hk => ?_) ?_
  · have hk : k < N := by simpa using hk
    obtain ⟨a, b, e, hj⟩ := jar_spec (ns := ns) (turn := k) (by omega)
    simp [natT]
    rw [e]
    simp
    refine (right01 hj (by omega)).mono fun p hp => ?_
    rw [hp]; simp
  · simp [fBools_map]
end MI
namespace MI
open PySem PySem.Spec PyProof.Rows L2 He
end MI
open PySem PySem.W PySem.Calls PyProof.Rows
set_option maxHeartbeats 0 in
theorem law_holds (plain : ∀ ns : List Int, ns.length ≤ 63 → MI.c_law_k01 [.nd .scr (ns.map MI.T.int)] = some (.bl true, [])) : PySem.Challenge.rw_pairsums_k01_limits_and_errors.Holds := by
  w_on
  refine law_of fun said => ?_
  refine HandSHeadRun.head_any (r := OpenLaw.row PySem.Challenge.rw_pairsums_k01_limits_and_errors) (q := MI.qv) (H := MI.hk) (ob := MI.ob) (M := 10000) (loose := MI.names) (d := HandSHeadRun.topDef (OpenLaw.row PySem.Challenge.rw_pairsums_k01_limits_and_errors).prog 43) (kwd := []) MI.ob_eq
    (by kernel_rfl) (fun s => by kernel_rfl) MI.run (by kernel_rfl) (by kernel_rfl) (by kernel_rfl) (by rfl) (by first | assumption | decide +kernel) (by decide +kernel) bare_of ?hw ?hc
  case hw => exact wit_of
  case hc =>
    refine MI.walk_ofG (l := PySem.Challenge.rw_pairsums_k01_limits_and_errors) (n := 63) (k := 9) (x := "_law_cells") (CX := L2.CX0) rfl (by decide) (by kernel_rfl) ⟨rfl, by decide, by decide⟩ ?F (fun _ _ _ _ z => z)
    intro w mg fa h Y G hmg0
    obtain ⟨K, KX, c⟩ := Y
    have hmg : mg ("law" : PySem.Str) = some (.ref fa) := by
      have e : (HandSHeadRun.topDef (OpenLaw.row PySem.Challenge.rw_pairsums_k01_limits_and_errors).prog 43).name = ("law" : PySem.Str) := by kernel_rfl
      rw [← e]
      exact hmg0
    have e := hmg.symm.trans (He.glo_ok KX G (c.fact 134))
    cases e
    obtain ⟨fd, F, _, _, FD⟩ := MI.f_law_k01 (w := w) c KX G
    have bA := L2.FunD.bindsA (ps := ["_law_cells"]) FD fun _ _ _ _ _ _ us hl => match us, hl with | [_], _ => rfl
    exact ⟨K, fd, MI.spT (MI.GG K) [] MI.c_law_k01, KX, fun s u => bA s [u] rfl, fun H a ns hl on hS => MI.sp_start (plain ns hl) hS (MI.tbO_only rfl on), fun base _ _ => F base⟩
theorem PySem.Challenge.cw_pairsums_k01_limits_and_errors_holds : PySem.Challenge.rw_pairsums_k01_limits_and_errors.Holds := by
  exact law_holds MI.plain01
