import PyProof.Rows.All
import Wide.All
import OpenK.AllK
import Wide.FinOn
import HandS.ForMost
import HandS.ForExc
import HandS.Wide
import HandS.TupMul
import HandS.TupAny
import HandS.IsInst
import HandS.Flow
import HandS.Zip
import HandS.Property
import HandS.Defaults
import HandS.ClsMeth
import HandS.OwnEq
import HandS.SlotsOwn
import HandS.Style
import HandS.Text
import HandS.Head0
import HandS.Head1
import HandS.Head2
import HandS.HeadEnd
import HandS.HeadHook1
import HandS.HeadHook2
import HandS.ExcInit
import HandS.ExcField
import KE.KIsAll
import KE.KExcIs
import HandS.Star
import HandS.Flt
import PyProof.Rows.Range3
import PyProof.CallFns
import HandS.RaiseMore
import HandS.More
import KE.DatumOrd
import HandS.Conv
import PyProof.ReprRoads
import PyProof.ReprBulk
import HandS.CallSlots
import HandS.Dict
import HandS.MakeKwOnly
import KE.GoesMore
import HandS.HotCalls
import HandS.TupLe
import HandS.Finally
import KE.GoesEnum
import KE.KStateDown
import HandS.Deep
import PyProof.NeKinds
import KE.SortData
import KE.KDictKeyed
import KE.KDictWalk
import KE.KDictSum
import KE.KDictCopyH
import HandS.FStr
import KE.KUnpackStar
import PySem.Challenge.RW_carryrounds_k71_programs_written
set_option Elab.async false
set_option linter.all false
set_option maxRecDepth 100000
set_option maxHeartbeats 400000
namespace DL
open PySem PySem.Spec L2 PyProof.Rows
/-- the classes: their addresses, the names of their fields in the order of their first stores; exception classes: address, field -/
structure G where
  cl : Nat → Addr
  xl : Nat → Addr
  ok : Nat → Bool
def nmT : Nat → List Str
  | 0 => ["radix", "amount", "row"]
  | 1 => ["content", "radix", "row", "times"]
  | 2 => ["lines", "straight"]
  | 3 => ["numbers"]
  | 4 => ["parts", "known", "maker"]
  | 5 => ["words", "signs", "here", "soonest", "awaited", "units", "sent"]
  | 6 => ["where", "start", "unit", "sources", "made", "extra", "awaited", "freed"]
  | 7 => ["machine", "code", "fault", "acts", "moments", "timed", "numbers", "truths", "is_over", "greatest"]
  | 8 => ["numbers"]
  | 9 => ["machine", "moment", "count", "inside", "timed", "numbers"]
  | 10 => ["entry", "is_removal"]
  | 11 => ["session", "known", "order", "done", "histories", "present"]
  | 12 => ["machine", "known", "order", "done", "histories", "present"]
  | 13 => ["session", "given"]
  | _ => []
def kinds : List String := ["NoneType", "bool", "int", "str", "tuple", "list", "dict"]
def cNm : Nat → Str
  | 0 => "Word" | 1 => "Timed" | 2 => "Program" | 3 => "Machine" | 4 => "Piece" | 5 => "Moment" | 6 => "Act" | 7 => "Run" | 8 => "Fault" | 9 => "Checkpoint" | 10 => "Action" | 11 => "Trial" | 12 => "Session" | _ => "Console"
def xNm : Nat → Str
  | 0 => "InvalidNumber" | 1 => "InvalidWord" | 2 => "InvalidTicks" | 3 => "InvalidProgram" | 4 => "InvalidOrder" | 5 => "InvalidFault" | 6 => "InvalidName" | 7 => "InvalidCommand" | 8 => "ParseError" | 9 => "LimitExceeded" | 10 => "NothingToUndo" | _ => "NothingToRedo"
/-- the classes cs are there -/
def okOf (cs : List Nat) : Nat → Bool := fun c => cs.contains c
def gOf (K : PySem.W.Frag) (cs : List Nat) : G := ⟨fun c => He.ga K (cNm c), fun c => He.ga K (xNm c), okOf cs⟩
/-- an own class of errors, over ValueError by way of another -/
def exoB (K : PySem.W.Frag) (C : Addr) : Bool := match K.lookup C with
  | some ⟨.type "type", _, .cls cd, sl⟩ => (match cd.mro, sl.toList with
    | .ref C' :: bm, [_, _, _, _, some (.builtin n), _] => C' == C && (n == "ValueError.__new__" && (!cd.hasDel && (cd.hasDict && PySem.HandSPX.refsVE bm)))
    | _, _ => false)
  | _ => false
def exoAll (K : PySem.W.Frag) (C B fI : Addr) (f : Str) : Bool := exoB K C && (decide (PySem.W.findIn K (.ref C) "__setattr__" = some (some (.builtin "object.__setattr__"))) && (decide (PySem.W.subIn K (.ref C) (.type "BaseException") = some true) && (decide (PySem.W.typeIn K (.ref C) = some (.type "type")) &&
  (PySem.W.keepIn K (.ref C) && (xfB K C && (decide (PySem.W.findIn K (.ref C) f = some none) && (decide (PySem.W.findIn K (.ref C) "__init__" = some (some (.ref fI))) && (decide (PySem.W.typeIn K (.ref fI) = some (.type "function")) && (decide (PySem.W.exmOne K (.ref C) (.ref C) = some true) &&
  (decide (PySem.W.findIn K (.ref C) "__class__" = some (some (.builtin "object.__class__"))) && (decide (PySem.W.specialIn K (.builtin "object.__class__") "__get__" = some (some (.builtin "getset_descriptor.__get__"))) && (decide (PySem.W.takesIn K (.builtin "object.__class__") = some true) && (decide (PySem.W.mroIn K C (.type "object") = some true) &&
  (decide (PySem.W.kitOne K (.ref C) (.ref B) = some true) && (PySem.W.readsIn K B (.type "type") && (decide (PySem.W.specialIn K (.ref B) "__getattribute__" = some (some (.builtin "type.__getattribute__"))) && (decide (PySem.W.kitOne K (.ref C) (.type "ValueError") = some true) &&
  (match PySem.W.findCls K (.ref B) (.type "type") "__init__" with
    | some (.val (.builtin i)) => i == "ValueError.__init__"
    | _ => false))))))))))))))))))
/-- where the j-th default of the def at a stands -/
def dfA (K : PySem.W.Frag) (a : Addr) (j : Nat) : Addr := match K.lookup a with
  | some ⟨_, _, .func q, _⟩ => (match q.defaults with
    | .ref T => (match K.lookup T with
      | some ⟨_, _, .seq its _, _⟩ => (match its[j]? with
        | some (.ref b) => b
        | _ => 0)
      | _ => 0)
    | _ => 0)
  | _ => 0
/-- the def at x, at x.m -/
def dAt (K : PySem.W.Frag) (x : Str) : Option Str → Addr
  | some m => He.ma K (He.ga K x) m
  | none => He.ga K x
/-- what is asked of the text -/
inductive Fx where
  | fa (f : He.Fa)
  | prp (x m : Str)
  | opr (x m : Str)
  | opb (x : Str) (op : Operator)
  | opn (x : Str)
  | fld (cs : List Nat)
  | isf (cs : List Nat)
  | cme (x m : Str)
  | sub (cs : List Nat)
  | exo (x y f : Str)
  | exn (x y : Str)
  | tup (x : Str) (zs : List Str)
  | etp (x : Str) (m : Option Str) (j : Nat)
  | gtp (x : Str) (zs : List (Sum Int Str))
def txtV : Value → Option Str
  | .str z _ => some z
  | _ => none
def keyV : Value → Option (Sum Int Str)
  | .int i _ => some (.inl i)
  | .str z _ => some (.inr z)
  | _ => none
/-- the property's object, its getter -/
def prA (K : PySem.W.Frag) (x m : Str) : Addr := match PySem.W.findIn K (.ref (He.ga K x)) m with
  | some (some (.ref p)) => p
  | _ => 0
def prG (K : PySem.W.Frag) (x m : Str) : Addr := match PySem.W.recIn K (prA K x m) "property" with
  | some (.ref q :: _) => q
  | _ => 0
def cmG (K : PySem.W.Frag) (x m : Str) : Addr := match PySem.W.recIn K (prA K x m) "classmethod" with
  | some (.ref q :: _) => q
  | _ => 0
/-- types that no own class is below -/
def primT : List String := ["int", "str", "bool", "NoneType", "tuple", "list", "dict"]
def Fx.ok (K : PySem.W.Frag) : Fx → Bool
  | .fa f => f.ok K
  | .prp x m => He.eqO (PySem.W.findIn K (.ref (He.ga K x)) m) (some (some (.ref (prA K x m)))) && (decide (PySem.W.specialIn K (.ref (prA K x m)) "__get__" = some (some (.builtin "property.__get__"))) && (decide (PySem.W.takesIn K (.ref (prA K x m)) = some true) &&
      (match PySem.W.recIn K (prA K x m) "property" with
        | some (q :: _) => decide (q = .ref (prG K x m))
        | _ => false)))
  | .opr x m => He.eqO (PySem.W.findIn K (.ref (He.ga K x)) m) (some (some (.ref (He.ma K (He.ga K x) m)))) && (PySem.W.isFn K (.ref (He.ma K (He.ga K x) m)) && PySem.W.fnIn K (He.ma K (He.ga K x) m))
  | .opb x op => PySem.W.selfFirst K (He.ga K x) && (He.eqO (PySem.W.findIn K (.ref (He.ga K x)) (dunderR op.info.2)) (some none) && ((PySem.W.findIn K (.type "int") (PySem.dunder op.info.2)).isSome && ((PySem.W.findIn K (.type "int") (dunderR op.info.2)).isSome &&
      decide (PySem.W.subIn K (.type "int") (.ref (He.ga K x)) = some false))))
  | .opn x => He.eqO (PySem.W.findIn K (.ref (He.ga K x)) "__ne__") (some (some (.builtin "object.__ne__"))) && decide (PySem.W.mroIn K (He.ga K x) (.type "object") = some true)
  | .fld cs => cs.all fun c => He.Fa.ok K (.cls (cNm c)) && (nmT c).all fun f => He.Fa.ok K (.noat (cNm c) f)
  | .isf cs => (cs.all fun c => He.Fa.ok K (.cls (cNm c)) && (He.eqO (PySem.W.findIn K (.ref (He.ga K (cNm c))) "__class__") (some (some (.builtin "object.__class__"))) && (decide (PySem.W.mroIn K (He.ga K (cNm c)) (.type "object") = some true) &&
      (kinds.all fun n => decide (PySem.W.kitOne K (.ref (He.ga K (cNm c))) (.type n) = some false) && decide (PySem.W.kitOne K (.type n) (.ref (He.ga K (cNm c))) = some false)))) && (cs.all fun c' => decide (PySem.W.kitOne K (.ref (He.ga K (cNm c))) (.ref (He.ga K (cNm c'))) = some (c == c')))) &&
      (decide (PySem.W.specialIn K (.builtin "object.__class__") "__get__" = some (some (.builtin "getset_descriptor.__get__"))) && decide (PySem.W.takesIn K (.builtin "object.__class__") = some true))
  | .cme x m => PySem.W.readsIn K (He.ga K x) (.type "type") && (decide (PySem.W.specialIn K (.ref (He.ga K x)) "__getattribute__" = some (some (.builtin "type.__getattribute__"))) && (
      (match PySem.W.findCls K (.ref (He.ga K x)) (.type "type") m with
        | some (.get (.builtin i) (.ref p) .none (.ref C)) => i == "classmethod.__get__" && (decide (p = prA K x m) && decide (C = He.ga K x))
        | _ => false) && ((PySem.W.fnIn K (cmG K x m) &&
      (match PySem.W.recIn K (prA K x m) "classmethod" with
        | some (q :: _) => decide (q = .ref (cmG K x m))
        | _ => false)))))
  | .sub cs => (cs.all fun c => cs.all fun c' => PySem.W.notFirst K (He.ga K (cNm c)) (.ref (He.ga K (cNm c')))) && (cs.all fun c => primT.all fun T => decide (PySem.W.subIn K (.type T) (.ref (He.ga K (cNm c))) = some false))
  | .exo x y f => exoAll K (He.ga K x) (He.ga K y) (He.ma K (He.ga K x) "__init__") f
  | .exn x y => decide (PySem.W.exmOne K (.ref (He.ga K x)) (.ref (He.ga K y)) = some false)
  | .tup x zs => He.Fa.ok K (.glo x) && (match K.lookup (He.ga K x) with
      | some ⟨.type c, _, .seq its _, _⟩ => decide (c = "tuple") && (decide (zs.length ≤ 1000) && decide (its.toList.map txtV = zs.map some))
      | _ => false)
  | .gtp x zs => He.Fa.ok K (.glo x) && (match K.lookup (He.ga K x) with
      | some ⟨.type c, _, .seq its _, _⟩ => decide (c = "tuple") && (decide (zs.length ≤ 1000) && decide (its.toList.map keyV = zs.map some))
      | _ => false)
  | .etp x m j => (match K.lookup (dfA K (dAt K x m) j) with
      | some ⟨.type c, _, .seq its _, _⟩ => decide (c = "tuple") && its.isEmpty
      | _ => false)
abbrev b2 {a b : Bool} (h : (a && b) = true) : a = true ∧ b = true := He.ba h
structure Dx where
  adr : PySem.W.Frag → Addr
  name : Str
  qual : Str
  params : Arguments
  body : List Stmt
  scope : Scope
  dfl : PySem.W.Frag → List V
abbrev Seen : Type := Option (Str × Str × Arguments × FuncBody × Scope × Addr × List (Str × Addr) × Addr)
def seenAt (K : PySem.W.Frag) (a : Addr) : Seen := match K.lookup a with
  | some ⟨_, _, .func q, _⟩ => some (q.name, q.qualname, q.params, q.body, q.scope, q.globals, q.closure, q.builtins)
  | _ => none
def Dx.val (d : Dx) : Seen := some (d.name, d.qual, d.params, .stmts d.body, d.scope, mainGlobals, [], builtinsNs)
def Dx.ok (K : PySem.W.Frag) (d : Dx) : Bool := (match K.lookup (d.adr K) with
  | some ⟨_, _, .func q, _⟩ => PySem.W.codeIn K q.code d.qual && He.dflB K q.defaults (d.dfl K)
  | _ => false) && PySem.W.keepIn K (.ref (d.adr K))
abbrev Got : Type := Bool × List Seen
def seeF (fx : List Fx) (fn : List Dx) (K : PySem.W.Frag) : Got := (fx.all (fun f => f.ok K) && fn.all (fun d => d.ok K), fn.map fun d => seenAt K (d.adr K))
def goodF (fn : List Dx) : Got := (true, fn.map Dx.val)
def Says (fx : List Fx) (fn : List Dx) (K : PySem.W.Frag) : Prop := seeF fx fn K = goodF fn
/-- from the module's names and the classes' common record on -/
def asQ (q : Addr → Option Obj) : Nat → List Addr
  | 0 => [mainGlobals, cStatics]
  | n + 1 => He.growD q (asQ q n)
abbrev Row : Type := Option (Str × Int × Str)
def rowAt (e : DictEntry) : Row := match e.key, e.val with
  | .str x _, .str z _ => some (x, e.hash, z)
  | _, _ => none
def tabAt (K : PySem.W.Frag) (a : Addr) : Option (List Row) := match K.lookup a with
  | some ⟨.type c, none, .dict es _, sl⟩ => if (decide (c = "dict") && (sl.isEmpty && !(a == sysModules))) = true then some (es.toList.map rowAt) else none
  | _ => none
def rowsTo (P : Params) (kvs : List (Str × Str)) : List Row := kvs.map fun q => some (q.1, PyData.keyHash P q.1, q.2)
abbrev Tb : Type := Str × List (Str × Str)
abbrev GotT : Type := Got × List (Option (List Row))
def seeTF (fx : List Fx) (fn : List Dx) (ts : List Tb) (K : PySem.W.Frag) : GotT := (seeF fx fn K, ts.map fun t => tabAt K (He.ga K t.1))
def goodT (fn : List Dx) (ts : List Tb) (w : World) : GotT := (goodF fn, ts.map fun t => some (rowsTo w.params t.2))
def SaysTb (fx : List Fx) (fn : List Dx) (ts : List Tb) (w : World) (K : PySem.W.Frag) : Prop := seeTF fx fn ts K = goodT fn ts w
def seeN (n : Nat) (fx : List Fx) (fn : List Dx) (ts : List Tb) (q : Addr → Option Obj) : GotT := seeTF fx fn ts (He.frG q (List.range n))
def hookN (n : Nat) (fx : List Fx) (fn : List Dx) (ts : List Tb) : PySem.W.Hook where
  α := GotT
  obs := fun s => seeN n fx fn ts s.heap.get?
  val := fun w => goodT fn ts w
  says := fun w h => ∃ K : PySem.W.Frag, K.In h ∧ SaysTb fx fn ts w K
  of := fun _ _ e => ⟨_, He.frG_in, e⟩
  keeps := fun _ _ _ ⟨K, i, c⟩ k => ⟨K, PySem.W.Frag.In.keeps i k, c⟩
theorem seeN_eq {n : Nat} {fx : List Fx} {fn : List Dx} {ts : List Tb} {q : Addr → Option Obj} {s : Shared} (h : ∀ a, q a = s.heap.get? a) : seeN n fx fn ts q = (hookN n fx fn ts).obs s := by
  have e : q = s.heap.get? := funext h
  rw [e] <;> rfl
open HandSHeadRun PySem.W in
def EndEq (r : OpenRow) (M : Nat) (w : World) {α : Type} (f : SharedT → α) (v : α) : Prop := ∀ os : OsState, (endF (stepQ (denQ tabQ) r.prog w) M r.prog w os).map f = some v
open HandSHeadRun PySem.W in
theorem runEq_of {r : OpenRow} {q : Program} {n : Nat} {fx : List Fx} {fn : List Dx} {ts : List Tb} {M : Nat} {loose : List PySem.Str} {w : World}
    (h1 : EndEq r M w (fun s => (looksF r.prog (boot_heap w.params) s.abs, seenQ q loose (importedModules r.prog.main.body) (fun s => xlAt q [] s && recOk r.toRowW.records s) s.abs)) (true, openGood q loose))
    (h2 : EndEq r M w (fun s => fx.all (fun f => f.ok (He.frG (getT s) (List.range n)))) true)
    (h3 : EndEq r M w (fun s => (fn.all (fun d => d.ok (He.frG (getT s) (List.range n))), fn.map fun d => seenAt (He.frG (getT s) (List.range n)) (d.adr (He.frG (getT s) (List.range n))))) (true, fn.map Dx.val))
    (h4 : EndEq r M w (fun s => ts.map fun t => tabAt (He.frG (getT s) (List.range n)) (He.ga (He.frG (getT s) (List.range n)) t.1)) (ts.map fun t => some (rowsTo w.params t.2))) :
    RunEq r q (hookN n fx fn ts) (fun s => seeN n fx fn ts (getT s)) M loose w := by
  unfold RunEq
  intro os
  have a1 := h1 os
  have a2 := h2 os
  have a3 := h3 os
  have a4 := h4 os
  cases e : endF (stepQ (denQ tabQ) r.prog w) M r.prog w os with
  | none => rw [e] at a1; cases a1
  | some s =>
    rw [e] at a1 a2 a3 a4
    simp only [Option.map_some, Option.some.injEq, Prod.mk.injEq] at a1 a2 a3 a4
    have a5 : seeN n fx fn ts (getT s) = goodT fn ts w := by
      unfold seeN seeTF goodT seeF goodF
      rw [a2, a3.1, a3.2, a4]
      rfl
    show some (_, _, _) = some (_, _, _)
    rw [a1.1, a1.2]
    exact congrArg (fun z => some (true, openGood q loose, z)) a5
def clsBody (s : Stmt) : List Stmt := match s with
  | .ClassDef _ _ _ b _ _ _ _ _ _ _ => b
  | _ => []
end DL
namespace LW
open PySem L2 PyProof.Rows DL
def tb_FORMS : List (Str × Str) := [("set", "ri"), ("add", "rrr"), ("sub", "rrr"), ("move", "rrp"), ("pick", "rfrr"), ("less", "frr"), ("same", "frr"), ("jump", "ft"), ("goto", "t")]
end LW
set_option Elab.async false
set_option linter.all false
set_option maxRecDepth 100000
set_option maxHeartbeats 1000000
namespace LW
open PySem L2 PyProof.Rows DL
abbrev cs : List Nat := [2]
abbrev st_wall : Stmt := (PySem.Challenge.pw_carryrounds_k71_programs_written.main.body.getD 0 (.Pass ⟨0, 0, 0, 0⟩))
def dx_wall : Dx := ⟨fun K => He.ga K "_wall", "_wall", "_wall", defArgs st_wall, defBody st_wall, defScope st_wall, fun K => []⟩
abbrev st_is_integer : Stmt := (PySem.Challenge.pw_carryrounds_k71_programs_written.main.body.getD 7 (.Pass ⟨0, 0, 0, 0⟩))
def dx_is_integer : Dx := ⟨fun K => He.ga K "is_integer", "is_integer", "is_integer", defArgs st_is_integer, defBody st_is_integer, defScope st_is_integer, fun K => []⟩
theorem sc_is_integer : FnScope ["value"] ["value"] (defScope st_is_integer) := ⟨rfl, rfl, rfl, by decide +kernel, rfl, by decide +kernel, by decide +kernel⟩
abbrev st_is_between : Stmt := (PySem.Challenge.pw_carryrounds_k71_programs_written.main.body.getD 8 (.Pass ⟨0, 0, 0, 0⟩))
def dx_is_between : Dx := ⟨fun K => He.ga K "is_between", "is_between", "is_between", defArgs st_is_between, defBody st_is_between, defScope st_is_between, fun K => []⟩
theorem sc_is_between : FnScope ["value", "low", "high"] ["value", "low", "high"] (defScope st_is_between) := ⟨rfl, rfl, rfl, by decide +kernel, rfl, by decide +kernel, by decide +kernel⟩
abbrev st_check_between : Stmt := (PySem.Challenge.pw_carryrounds_k71_programs_written.main.body.getD 9 (.Pass ⟨0, 0, 0, 0⟩))
def dx_check_between : Dx := ⟨fun K => He.ga K "check_between", "check_between", "check_between", defArgs st_check_between, defBody st_check_between, defScope st_check_between, fun K => []⟩
theorem sc_check_between : FnScope ["value", "low", "high"] ["value", "low", "high"] (defScope st_check_between) := ⟨rfl, rfl, rfl, by decide +kernel, rfl, by decide +kernel, by decide +kernel⟩
abbrev st_fits : Stmt := (PySem.Challenge.pw_carryrounds_k71_programs_written.main.body.getD 16 (.Pass ⟨0, 0, 0, 0⟩))
def dx_fits : Dx := ⟨fun K => He.ga K "fits", "fits", "fits", defArgs st_fits, defBody st_fits, defScope st_fits, fun K => []⟩
theorem sc_fits : FnScope ["kind", "value"] ["kind", "value"] (defScope st_fits) := ⟨rfl, rfl, rfl, by decide +kernel, rfl, by decide +kernel, by decide +kernel⟩
abbrev st_is_instruction : Stmt := (PySem.Challenge.pw_carryrounds_k71_programs_written.main.body.getD 17 (.Pass ⟨0, 0, 0, 0⟩))
def dx_is_instruction : Dx := ⟨fun K => He.ga K "is_instruction", "is_instruction", "is_instruction", defArgs st_is_instruction, defBody st_is_instruction, defScope st_is_instruction, fun K => []⟩
theorem sc_is_instruction : FnScope ["value", "form", "kind", "item"] ["value"] (defScope st_is_instruction) := ⟨rfl, rfl, rfl, by decide +kernel, rfl, by decide +kernel, by decide +kernel⟩
abbrev st_is_within : Stmt := (PySem.Challenge.pw_carryrounds_k71_programs_written.main.body.getD 18 (.Pass ⟨0, 0, 0, 0⟩))
def dx_is_within : Dx := ⟨fun K => He.ga K "is_within", "is_within", "is_within", defArgs st_is_within, defBody st_is_within, defScope st_is_within, fun K => []⟩
theorem sc_is_within : FnScope ["value", "size"] ["value", "size"] (defScope st_is_within) := ⟨rfl, rfl, rfl, by decide +kernel, rfl, by decide +kernel, by decide +kernel⟩
abbrev st_shifted : Stmt := (PySem.Challenge.pw_carryrounds_k71_programs_written.main.body.getD 19 (.Pass ⟨0, 0, 0, 0⟩))
def dx_shifted : Dx := ⟨fun K => He.ga K "shifted", "shifted", "shifted", defArgs st_shifted, defBody st_shifted, defScope st_shifted, fun K => []⟩
theorem sc_shifted : FnScope ["instruction", "places"] ["instruction", "places"] (defScope st_shifted) := ⟨rfl, rfl, rfl, by decide +kernel, rfl, by decide +kernel, by decide +kernel⟩
abbrev st_Program_init : Stmt := (clsBody (PySem.Challenge.pw_carryrounds_k71_programs_written.main.body.getD 20 (.Pass ⟨0, 0, 0, 0⟩))).getD 0 (.Pass ⟨0, 0, 0, 0⟩)
def dx_Program_init : Dx := ⟨fun K => He.ma K (He.ga K "Program") "__init__", "__init__", "Program.__init__", defArgs st_Program_init, defBody st_Program_init, defScope st_Program_init, fun K => []⟩
theorem sc_Program_init : FnScope ["self", "instructions", "value", "line"] ["self", "instructions"] (defScope st_Program_init) := ⟨rfl, rfl, rfl, by decide +kernel, rfl, by decide +kernel, by decide +kernel⟩
abbrev st_Program_instructions : Stmt := (clsBody (PySem.Challenge.pw_carryrounds_k71_programs_written.main.body.getD 20 (.Pass ⟨0, 0, 0, 0⟩))).getD 1 (.Pass ⟨0, 0, 0, 0⟩)
def dx_Program_instructions : Dx := ⟨fun K => prG K "Program" "instructions", "instructions", "Program.instructions", defArgs st_Program_instructions, defBody st_Program_instructions, defScope st_Program_instructions, fun K => []⟩
theorem sc_Program_instructions : FnScope ["self"] ["self"] (defScope st_Program_instructions) := ⟨rfl, rfl, rfl, by decide +kernel, rfl, by decide +kernel, by decide +kernel⟩
abbrev st_Program_is_straight : Stmt := (clsBody (PySem.Challenge.pw_carryrounds_k71_programs_written.main.body.getD 20 (.Pass ⟨0, 0, 0, 0⟩))).getD 2 (.Pass ⟨0, 0, 0, 0⟩)
def dx_Program_is_straight : Dx := ⟨fun K => prG K "Program" "is_straight", "is_straight", "Program.is_straight", defArgs st_Program_is_straight, defBody st_Program_is_straight, defScope st_Program_is_straight, fun K => []⟩
abbrev st_Program_len : Stmt := (clsBody (PySem.Challenge.pw_carryrounds_k71_programs_written.main.body.getD 20 (.Pass ⟨0, 0, 0, 0⟩))).getD 3 (.Pass ⟨0, 0, 0, 0⟩)
def dx_Program_len : Dx := ⟨fun K => He.ma K (He.ga K "Program") "__len__", "__len__", "Program.__len__", defArgs st_Program_len, defBody st_Program_len, defScope st_Program_len, fun K => []⟩
theorem sc_Program_len : FnScope ["self"] ["self"] (defScope st_Program_len) := ⟨rfl, rfl, rfl, by decide +kernel, rfl, by decide +kernel, by decide +kernel⟩
abbrev st_Program_eq : Stmt := (clsBody (PySem.Challenge.pw_carryrounds_k71_programs_written.main.body.getD 20 (.Pass ⟨0, 0, 0, 0⟩))).getD 4 (.Pass ⟨0, 0, 0, 0⟩)
def dx_Program_eq : Dx := ⟨fun K => He.ma K (He.ga K "Program") "__eq__", "__eq__", "Program.__eq__", defArgs st_Program_eq, defBody st_Program_eq, defScope st_Program_eq, fun K => []⟩
theorem sc_Program_eq : FnScope ["self", "other"] ["self", "other"] (defScope st_Program_eq) := ⟨rfl, rfl, rfl, by decide +kernel, rfl, by decide +kernel, by decide +kernel⟩
abbrev st_Program_getitem : Stmt := (clsBody (PySem.Challenge.pw_carryrounds_k71_programs_written.main.body.getD 20 (.Pass ⟨0, 0, 0, 0⟩))).getD 5 (.Pass ⟨0, 0, 0, 0⟩)
def dx_Program_getitem : Dx := ⟨fun K => He.ma K (He.ga K "Program") "__getitem__", "__getitem__", "Program.__getitem__", defArgs st_Program_getitem, defBody st_Program_getitem, defScope st_Program_getitem, fun K => []⟩
theorem sc_Program_getitem : FnScope ["self", "index"] ["self", "index"] (defScope st_Program_getitem) := ⟨rfl, rfl, rfl, by decide +kernel, rfl, by decide +kernel, by decide +kernel⟩
abbrev st_Program_iter : Stmt := (clsBody (PySem.Challenge.pw_carryrounds_k71_programs_written.main.body.getD 20 (.Pass ⟨0, 0, 0, 0⟩))).getD 6 (.Pass ⟨0, 0, 0, 0⟩)
def dx_Program_iter : Dx := ⟨fun K => He.ma K (He.ga K "Program") "__iter__", "__iter__", "Program.__iter__", defArgs st_Program_iter, defBody st_Program_iter, defScope st_Program_iter, fun K => []⟩
abbrev st_Program_add : Stmt := (clsBody (PySem.Challenge.pw_carryrounds_k71_programs_written.main.body.getD 20 (.Pass ⟨0, 0, 0, 0⟩))).getD 7 (.Pass ⟨0, 0, 0, 0⟩)
def dx_Program_add : Dx := ⟨fun K => He.ma K (He.ga K "Program") "__add__", "__add__", "Program.__add__", defArgs st_Program_add, defBody st_Program_add, defScope st_Program_add, fun K => []⟩
theorem sc_Program_add : FnScope ["self", "other", "size", "line"] ["self", "other"] (defScope st_Program_add) := ⟨rfl, rfl, rfl, by decide +kernel, rfl, by decide +kernel, by decide +kernel⟩
abbrev st_is_name : Stmt := (PySem.Challenge.pw_carryrounds_k71_programs_written.main.body.getD 24 (.Pass ⟨0, 0, 0, 0⟩))
def dx_is_name : Dx := ⟨fun K => He.ga K "is_name", "is_name", "is_name", defArgs st_is_name, defBody st_is_name, defScope st_is_name, fun K => []⟩
theorem sc_is_name : FnScope ["value", "sign"] ["value"] (defScope st_is_name) := ⟨rfl, rfl, rfl, by decide +kernel, rfl, by decide +kernel, by decide +kernel⟩
abbrev st_parse_count : Stmt := (PySem.Challenge.pw_carryrounds_k71_programs_written.main.body.getD 28 (.Pass ⟨0, 0, 0, 0⟩))
def dx_parse_count : Dx := ⟨fun K => He.ga K "parse_count", "parse_count", "parse_count", defArgs st_parse_count, defBody st_parse_count, defScope st_parse_count, fun K => []⟩
theorem sc_parse_count : FnScope ["text", "sign"] ["text"] (defScope st_parse_count) := ⟨rfl, rfl, rfl, by decide +kernel, rfl, by decide +kernel, by decide +kernel⟩
abbrev st_parse_integer : Stmt := (PySem.Challenge.pw_carryrounds_k71_programs_written.main.body.getD 29 (.Pass ⟨0, 0, 0, 0⟩))
def dx_parse_integer : Dx := ⟨fun K => He.ga K "parse_integer", "parse_integer", "parse_integer", defArgs st_parse_integer, defBody st_parse_integer, defScope st_parse_integer, fun K => []⟩
theorem sc_parse_integer : FnScope ["text", "number"] ["text"] (defScope st_parse_integer) := ⟨rfl, rfl, rfl, by decide +kernel, rfl, by decide +kernel, by decide +kernel⟩
abbrev st_format_item : Stmt := (PySem.Challenge.pw_carryrounds_k71_programs_written.main.body.getD 30 (.Pass ⟨0, 0, 0, 0⟩))
def dx_format_item : Dx := ⟨fun K => He.ga K "format_item", "format_item", "format_item", defArgs st_format_item, defBody st_format_item, defScope st_format_item, fun K => []⟩
theorem sc_format_item : FnScope ["kind", "item"] ["kind", "item"] (defScope st_format_item) := ⟨rfl, rfl, rfl, by decide +kernel, rfl, by decide +kernel, by decide +kernel⟩
abbrev st_format_instruction : Stmt := (PySem.Challenge.pw_carryrounds_k71_programs_written.main.body.getD 31 (.Pass ⟨0, 0, 0, 0⟩))
def dx_format_instruction : Dx := ⟨fun K => He.ga K "format_instruction", "format_instruction", "format_instruction", defArgs st_format_instruction, defBody st_format_instruction, defScope st_format_instruction, fun K => []⟩
theorem sc_format_instruction : FnScope ["instruction", "form", "kind", "item"] ["instruction"] (defScope st_format_instruction) := ⟨rfl, rfl, rfl, by decide +kernel, rfl, by decide +kernel, by decide +kernel⟩
abbrev st_format_program : Stmt := (PySem.Challenge.pw_carryrounds_k71_programs_written.main.body.getD 32 (.Pass ⟨0, 0, 0, 0⟩))
def dx_format_program : Dx := ⟨fun K => He.ga K "format_program", "format_program", "format_program", defArgs st_format_program, defBody st_format_program, defScope st_format_program, fun K => []⟩
theorem sc_format_program : FnScope ["program", "item"] ["program"] (defScope st_format_program) := ⟨rfl, rfl, rfl, by decide +kernel, rfl, by decide +kernel, by decide +kernel⟩
abbrev st_parse_item : Stmt := (PySem.Challenge.pw_carryrounds_k71_programs_written.main.body.getD 33 (.Pass ⟨0, 0, 0, 0⟩))
def dx_parse_item : Dx := ⟨fun K => He.ga K "parse_item", "parse_item", "parse_item", defArgs st_parse_item, defBody st_parse_item, defScope st_parse_item, fun K => []⟩
theorem sc_parse_item : FnScope ["kind", "word"] ["kind", "word"] (defScope st_parse_item) := ⟨rfl, rfl, rfl, by decide +kernel, rfl, by decide +kernel, by decide +kernel⟩
abbrev st_parse_instruction : Stmt := (PySem.Challenge.pw_carryrounds_k71_programs_written.main.body.getD 34 (.Pass ⟨0, 0, 0, 0⟩))
def dx_parse_instruction : Dx := ⟨fun K => He.ga K "parse_instruction", "parse_instruction", "parse_instruction", defArgs st_parse_instruction, defBody st_parse_instruction, defScope st_parse_instruction, fun K => []⟩
theorem sc_parse_instruction : FnScope ["line", "word", "words", "items", "kind", "item"] ["line"] (defScope st_parse_instruction) := ⟨rfl, rfl, rfl, by decide +kernel, rfl, by decide +kernel, by decide +kernel⟩
abbrev st_lines_of : Stmt := (PySem.Challenge.pw_carryrounds_k71_programs_written.main.body.getD 35 (.Pass ⟨0, 0, 0, 0⟩))
def dx_lines_of : Dx := ⟨fun K => He.ga K "lines_of", "lines_of", "lines_of", defArgs st_lines_of, defBody st_lines_of, defScope st_lines_of, fun K => []⟩
theorem sc_lines_of : FnScope ["text"] ["text"] (defScope st_lines_of) := ⟨rfl, rfl, rfl, by decide +kernel, rfl, by decide +kernel, by decide +kernel⟩
abbrev st_parse_program : Stmt := (PySem.Challenge.pw_carryrounds_k71_programs_written.main.body.getD 36 (.Pass ⟨0, 0, 0, 0⟩))
def dx_parse_program : Dx := ⟨fun K => He.ga K "parse_program", "parse_program", "parse_program", defArgs st_parse_program, defBody st_parse_program, defScope st_parse_program, fun K => []⟩
theorem sc_parse_program : FnScope ["text", "result", "index", "line", "instruction"] ["text"] (defScope st_parse_program) := ⟨rfl, rfl, rfl, by decide +kernel, rfl, by decide +kernel, by decide +kernel⟩
abbrev st_named_target : Stmt := (PySem.Challenge.pw_carryrounds_k71_programs_written.main.body.getD 37 (.Pass ⟨0, 0, 0, 0⟩))
def dx_named_target : Dx := ⟨fun K => He.ga K "named_target", "named_target", "named_target", defArgs st_named_target, defBody st_named_target, defScope st_named_target, fun K => []⟩
theorem sc_named_target : FnScope ["line", "word", "words"] ["line"] (defScope st_named_target) := ⟨rfl, rfl, rfl, by decide +kernel, rfl, by decide +kernel, by decide +kernel⟩
abbrev st_assemble : Stmt := (PySem.Challenge.pw_carryrounds_k71_programs_written.main.body.getD 38 (.Pass ⟨0, 0, 0, 0⟩))
def dx_assemble : Dx := ⟨fun K => He.ga K "assemble", "assemble", "assemble", defArgs st_assemble, defBody st_assemble, defScope st_assemble, fun K => []⟩
theorem sc_assemble : FnScope ["text", "labels", "found", "index", "line", "plain", "name", "instruction", "result"] ["text"] (defScope st_assemble) := ⟨rfl, rfl, rfl, by decide +kernel, rfl, by decide +kernel, by decide +kernel⟩
abbrev st_law_pool : Stmt := (PySem.Challenge.pw_carryrounds_k71_programs_written.main.body.getD 40 (.Pass ⟨0, 0, 0, 0⟩))
def dx_law_pool : Dx := ⟨fun K => He.ga K "_law_pool", "_law_pool", "_law_pool", defArgs st_law_pool, defBody st_law_pool, defScope st_law_pool, fun K => []⟩
theorem sc_law_pool : FnScope ["_law_script", "_law_k", "_law_cell", "_law_mixed"] ["_law_script", "_law_k"] (defScope st_law_pool) := ⟨rfl, rfl, rfl, by decide +kernel, rfl, by decide +kernel, by decide +kernel⟩
abbrev st_law_take : Stmt := (PySem.Challenge.pw_carryrounds_k71_programs_written.main.body.getD 41 (.Pass ⟨0, 0, 0, 0⟩))
def dx_law_take : Dx := ⟨fun K => He.ga K "_law_take", "_law_take", "_law_take", defArgs st_law_take, defBody st_law_take, defScope st_law_take, fun K => []⟩
theorem sc_law_take : FnScope ["_law_pool_here", "_law_count", "_law_result"] ["_law_pool_here", "_law_count"] (defScope st_law_take) := ⟨rfl, rfl, rfl, by decide +kernel, rfl, by decide +kernel, by decide +kernel⟩
abbrev st_law_text : Stmt := (PySem.Challenge.pw_carryrounds_k71_programs_written.main.body.getD 42 (.Pass ⟨0, 0, 0, 0⟩))
def dx_law_text : Dx := ⟨fun K => He.ga K "_law_text", "_law_text", "_law_text", defArgs st_law_text, defBody st_law_text, defScope st_law_text, fun K => []⟩
theorem sc_law_text : FnScope ["_law_line", "_law_kinds", "_law_words", "_law_kind", "_law_item"] ["_law_line"] (defScope st_law_text) := ⟨rfl, rfl, rfl, by decide +kernel, rfl, by decide +kernel, by decide +kernel⟩
abbrev st_law_any_code : Stmt := (PySem.Challenge.pw_carryrounds_k71_programs_written.main.body.getD 43 (.Pass ⟨0, 0, 0, 0⟩))
def dx_law_any_code : Dx := ⟨fun K => He.ga K "_law_any_code", "_law_any_code", "_law_any_code", defArgs st_law_any_code, defBody st_law_any_code, defScope st_law_any_code, fun K => []⟩
theorem sc_law_any_code : FnScope ["_law_pool_here", "_law_many", "_law_found", "_law_turn", "_law_way", "_law_some", "_law_a", "_law_b", "_law_flag", "_law_word"] ["_law_pool_here", "_law_many"] (defScope st_law_any_code) := ⟨rfl, rfl, rfl, by decide +kernel, rfl, by decide +kernel, by decide +kernel⟩
abbrev st_law_long_right : Stmt := (PySem.Challenge.pw_carryrounds_k71_programs_written.main.body.getD 44 (.Pass ⟨0, 0, 0, 0⟩))
def dx_law_long_right : Dx := ⟨fun K => He.ga K "_law_long_right", "_law_long_right", "_law_long_right", defArgs st_law_long_right, defBody st_law_long_right, defScope st_law_long_right, fun K => []⟩
theorem sc_law_long_right : FnScope ["_law_great", "_law_code", "_law_text_here", "_law_line"] [] (defScope st_law_long_right) := ⟨rfl, rfl, rfl, by decide +kernel, rfl, by decide +kernel, by decide +kernel⟩
abbrev st_law : Stmt := (PySem.Challenge.pw_carryrounds_k71_programs_written.main.body.getD 45 (.Pass ⟨0, 0, 0, 0⟩))
def dx_law : Dx := ⟨fun K => He.ga K "law", "law", "law", defArgs st_law, defBody st_law, defScope st_law, fun K => []⟩
theorem sc_law : FnScope ["_law_script", "_law_known", "_law_text_here", "_law_k", "_law_pool_here", "_law_code", "_law_program", "_law_found", "_law_line"] ["_law_script"] (defScope st_law) := ⟨rfl, rfl, rfl, by decide +kernel, rfl, by decide +kernel, by decide +kernel⟩
def tbs : List Tb := [("FORMS", tb_FORMS)]
def fx : List Fx := [.isf [2],
  .fa (.free "bool"),
  .fa (.free "isinstance"),
  .fa (.free "int"),
  .fa (.int "MOST_INSTRUCTIONS" 200),
  .fa (.int "MOST_PLACES" 40),
  .fa (.int "FLAGS" 4),
  .fa (.int "REGISTERS" 8),
  .fa (.free "zip"),
  .fa (.free "all"),
  .fa (.free "len"),
  .fa (.glo "FORMS"),
  .fa (.free "str"),
  .fa (.free "tuple"),
  .fld [2],
  .fa (.free "any"),
  .fa (.free "list"),
  .fa (.glo "Program"),
  .fa (.str "LETTERS" "abcdefghijklmnopqrstuvwxyz"),
  .fa (.int "MOST_LETTERS" 8),
  .sub [2],
  .fa (.str "DIGITS" "0123456789"),
  .fa (.int "MOST_DIGITS" 200),
  .opn "Program",
  .fa (.free "enumerate"),
  .opb "Program" .Add,
  .fa (.free "abs"),
  .fa (.free "range"),
  .fa (.free "min"),
  .fa (.free "max"),
  .fa (.free "repr"),
  .fa (.glo "_wall"),
  .fa (.glo "is_integer"),
  .fa (.glo "is_between"),
  .fa (.glo "check_between"),
  .fa (.glo "fits"),
  .fa (.glo "is_instruction"),
  .fa (.glo "is_within"),
  .fa (.glo "shifted"),
  .fa (.glo "is_name"),
  .fa (.glo "parse_count"),
  .fa (.glo "parse_integer"),
  .fa (.glo "format_item"),
  .fa (.glo "format_instruction"),
  .fa (.glo "format_program"),
  .fa (.glo "parse_item"),
  .fa (.glo "parse_instruction"),
  .fa (.glo "lines_of"),
  .fa (.glo "parse_program"),
  .fa (.glo "named_target"),
  .fa (.glo "assemble"),
  .fa (.glo "_law_pool"),
  .fa (.glo "_law_take"),
  .fa (.glo "_law_text"),
  .fa (.glo "_law_any_code"),
  .fa (.glo "_law_long_right"),
  .fa (.glo "law"),
  .fa (.mkr "Program"),
  .prp "Program" "instructions",
  .fa (.cls "Program"),
  .prp "Program" "is_straight",
  .opr "Program" "__len__",
  .opr "Program" "__eq__",
  .opr "Program" "__getitem__",
  .opr "Program" "__iter__",
  .opr "Program" "__add__"]
def fn : List Dx := [dx_wall, dx_is_integer, dx_is_between, dx_check_between, dx_fits, dx_is_instruction, dx_is_within, dx_shifted, dx_Program_init, dx_Program_instructions, dx_Program_is_straight, dx_Program_len, dx_Program_eq, dx_Program_getitem, dx_Program_iter, dx_Program_add, dx_is_name, dx_parse_count, dx_parse_integer, dx_format_item, dx_format_instruction, dx_format_program, dx_parse_item, dx_parse_instruction, dx_lines_of, dx_parse_program, dx_named_target, dx_assemble, dx_law_pool, dx_law_take, dx_law_text, dx_law_any_code, dx_law_long_right, dx_law]
end LW
set_option Elab.async false
set_option linter.all false
set_option maxRecDepth 100000
set_option maxHeartbeats 0
namespace LW
open PySem PySem.Spec PyProof.Rows L2 DL HandSHeadRun PySem.W
abbrev R : PySem.W.OpenRow := PySem.W.OpenLaw.row PySem.Challenge.rw_carryrounds_k71_programs_written
abbrev hk : PySem.W.Hook := hookN 1500 fx fn tbs
def ob (s : PySem.W.SharedT) : GotT := seeN 1500 fx fn tbs (HandSHeadRun.getT s)
theorem ob_eq (s : PySem.W.SharedT) : ob s = hk.obs s.abs := seeN_eq (HandSHeadRun.getT_eq s)
section
variable {r : OpenRow} {M : Nat} {w : World}
theorem EndEq.pair {α β : Type} {f : SharedT → α} {g : SharedT → β} {a : α} {b : β} (h1 : EndEq r M w f a) (h2 : EndEq r M w g b) : EndEq r M w (fun s => (f s, g s)) (a, b) := fun os => by
  have e1 := h1 os
  have e2 := h2 os
  cases q : endF (stepQ (denQ tabQ) r.prog w) M r.prog w os with
  | none => rw [q] at e1; cases e1
  | some s =>
    rw [q] at e1 e2
    exact congrArg some (Prod.ext (Option.some.inj e1) (Option.some.inj e2))
theorem EndEq.p1 {α β : Type} {f : SharedT → α} {g : SharedT → β} {a : α} {b : β} (h : EndEq r M w (fun s => (f s, g s)) (a, b)) : EndEq r M w f a := fun os => by
  have e := congrArg (Option.map Prod.fst) (h os)
  rw [Option.map_map] at e
  exact e
theorem EndEq.p2 {α β : Type} {f : SharedT → α} {g : SharedT → β} {a : α} {b : β} (h : EndEq r M w (fun s => (f s, g s)) (a, b)) : EndEq r M w g b := fun os => by
  have e := congrArg (Option.map Prod.snd) (h os)
  rw [Option.map_map] at e
  exact e
theorem EndEq.all {α : Type} (l : List α) (p : SharedT → α → Bool) (k : Nat) (h1 : EndEq r M w (fun s => (l.take k).all (p s)) true) (h2 : EndEq r M w (fun s => (l.drop k).all (p s)) true) : EndEq r M w (fun s => l.all (p s)) true := fun os => by
  have e1 := h1 os
  have e2 := h2 os
  cases q : endF (stepQ (denQ tabQ) r.prog w) M r.prog w os with
  | none => rw [q] at e1; cases e1
  | some s =>
    rw [q] at e1 e2
    have a1 : (l.take k).all (p s) = true := Option.some.inj e1
    have a2 : (l.drop k).all (p s) = true := Option.some.inj e2
    have a3 : l.all (p s) = true := by rw [← List.take_append_drop k l, List.all_append, a1, a2]; rfl
    exact congrArg some a3
end
theorem ha_f (w : World) : EndEq R 14000 (w.withFollow "special-get-raises" false) (fun s => (looksF R.prog (boot_heap (w.withFollow "special-get-raises" false).params) s.abs, seenQ (PySem.W.view R.prog [45]) ((["_wall", "CarryError", "InvalidNumber", "InvalidProgram", "ParseError", "is_integer", "is_between", "check_between", "REGISTERS", "FLAGS", "MOST_INSTRUCTIONS", "MOST_PLACES", "FORMS", "fits", "is_instruction", "is_within", "shifted", "Program", "LETTERS", "MOST_LETTERS", "is_name", "DIGITS", "MOST_DIGITS", "parse_count", "parse_integer", "format_item", "format_instruction", "format_program", "parse_item", "parse_instruction"] : List PySem.Str) ++ (["lines_of", "parse_program", "named_target", "assemble", "_law_pool", "_law_take", "_law_text", "_law_any_code", "_law_long_right"] : List PySem.Str)) (importedModules R.prog.main.body) (fun s => xlAt (PySem.W.view R.prog [45]) [] s && recOk R.toRowW.records s) s.abs)) (true, openGood (PySem.W.view R.prog [45]) ((["_wall", "CarryError", "InvalidNumber", "InvalidProgram", "ParseError", "is_integer", "is_between", "check_between", "REGISTERS", "FLAGS", "MOST_INSTRUCTIONS", "MOST_PLACES", "FORMS", "fits", "is_instruction", "is_within", "shifted", "Program", "LETTERS", "MOST_LETTERS", "is_name", "DIGITS", "MOST_DIGITS", "parse_count", "parse_integer", "format_item", "format_instruction", "format_program", "parse_item", "parse_instruction"] : List PySem.Str) ++ (["lines_of", "parse_program", "named_target", "assemble", "_law_pool", "_law_take", "_law_text", "_law_any_code", "_law_long_right"] : List PySem.Str))) := by
  intro os
  kernel_rfl
theorem hbd_f (w : World) : EndEq R 14000 (w.withFollow "special-get-raises" false) (fun s => (fx.all (fun f => f.ok (He.frG (getT s) (List.range 1500))), (tbs : List Tb).map fun t => tabAt (He.frG (getT s) (List.range 1500)) (He.ga (He.frG (getT s) (List.range 1500)) t.1))) (true, ((tbs : List Tb).map fun t => some (rowsTo (w.withFollow "special-get-raises" false).params t.2))) := by
  intro os
  kernel_rfl
theorem hc11_f (w : World) : EndEq R 14000 (w.withFollow "special-get-raises" false) (fun s => ((fn.take 25).take 12).all (fun d => d.ok (He.frG (getT s) (List.range 1500)))) true := by
  intro os
  kernel_rfl
theorem hc12_f (w : World) : EndEq R 14000 (w.withFollow "special-get-raises" false) (fun s => ((fn.take 25).drop 12).all (fun d => d.ok (He.frG (getT s) (List.range 1500)))) true := by
  intro os
  kernel_rfl
theorem hc1_f (w : World) : EndEq R 14000 (w.withFollow "special-get-raises" false) (fun s => (fn.take 25).all (fun d => d.ok (He.frG (getT s) (List.range 1500)))) true := EndEq.all (fn.take 25) (fun s => fun d => d.ok (He.frG (getT s) (List.range 1500))) 12 (hc11_f w) (hc12_f w)
theorem hc2_f (w : World) : EndEq R 14000 (w.withFollow "special-get-raises" false) (fun s => (fn.drop 25).all (fun d => d.ok (He.frG (getT s) (List.range 1500)))) true := by
  intro os
  kernel_rfl
theorem hc3_f (w : World) : EndEq R 14000 (w.withFollow "special-get-raises" false) (fun s => fn.map (fun d => seenAt (He.frG (getT s) (List.range 1500)) (d.adr (He.frG (getT s) (List.range 1500))))) (fn.map Dx.val) := by
  intro os
  kernel_rfl
theorem hc_f (w : World) : EndEq R 14000 (w.withFollow "special-get-raises" false) (fun s => (fn.all (fun d => d.ok (He.frG (getT s) (List.range 1500))), fn.map fun d => seenAt (He.frG (getT s) (List.range 1500)) (d.adr (He.frG (getT s) (List.range 1500))))) (true, fn.map Dx.val) := EndEq.pair (EndEq.all fn (fun s => fun d => d.ok (He.frG (getT s) (List.range 1500))) 25 (hc1_f w) (hc2_f w)) (hc3_f w)
theorem ha_t (w : World) : EndEq R 14000 (w.withFollow "special-get-raises" true) (fun s => (looksF R.prog (boot_heap (w.withFollow "special-get-raises" true).params) s.abs, seenQ (PySem.W.view R.prog [45]) ((["_wall", "CarryError", "InvalidNumber", "InvalidProgram", "ParseError", "is_integer", "is_between", "check_between", "REGISTERS", "FLAGS", "MOST_INSTRUCTIONS", "MOST_PLACES", "FORMS", "fits", "is_instruction", "is_within", "shifted", "Program", "LETTERS", "MOST_LETTERS", "is_name", "DIGITS", "MOST_DIGITS", "parse_count", "parse_integer", "format_item", "format_instruction", "format_program", "parse_item", "parse_instruction"] : List PySem.Str) ++ (["lines_of", "parse_program", "named_target", "assemble", "_law_pool", "_law_take", "_law_text", "_law_any_code", "_law_long_right"] : List PySem.Str)) (importedModules R.prog.main.body) (fun s => xlAt (PySem.W.view R.prog [45]) [] s && recOk R.toRowW.records s) s.abs)) (true, openGood (PySem.W.view R.prog [45]) ((["_wall", "CarryError", "InvalidNumber", "InvalidProgram", "ParseError", "is_integer", "is_between", "check_between", "REGISTERS", "FLAGS", "MOST_INSTRUCTIONS", "MOST_PLACES", "FORMS", "fits", "is_instruction", "is_within", "shifted", "Program", "LETTERS", "MOST_LETTERS", "is_name", "DIGITS", "MOST_DIGITS", "parse_count", "parse_integer", "format_item", "format_instruction", "format_program", "parse_item", "parse_instruction"] : List PySem.Str) ++ (["lines_of", "parse_program", "named_target", "assemble", "_law_pool", "_law_take", "_law_text", "_law_any_code", "_law_long_right"] : List PySem.Str))) := by
  intro os
  kernel_rfl
theorem hbd_t (w : World) : EndEq R 14000 (w.withFollow "special-get-raises" true) (fun s => (fx.all (fun f => f.ok (He.frG (getT s) (List.range 1500))), (tbs : List Tb).map fun t => tabAt (He.frG (getT s) (List.range 1500)) (He.ga (He.frG (getT s) (List.range 1500)) t.1))) (true, ((tbs : List Tb).map fun t => some (rowsTo (w.withFollow "special-get-raises" true).params t.2))) := by
  intro os
  kernel_rfl
theorem hc11_t (w : World) : EndEq R 14000 (w.withFollow "special-get-raises" true) (fun s => ((fn.take 25).take 12).all (fun d => d.ok (He.frG (getT s) (List.range 1500)))) true := by
  intro os
  kernel_rfl
theorem hc12_t (w : World) : EndEq R 14000 (w.withFollow "special-get-raises" true) (fun s => ((fn.take 25).drop 12).all (fun d => d.ok (He.frG (getT s) (List.range 1500)))) true := by
  intro os
  kernel_rfl
theorem hc1_t (w : World) : EndEq R 14000 (w.withFollow "special-get-raises" true) (fun s => (fn.take 25).all (fun d => d.ok (He.frG (getT s) (List.range 1500)))) true := EndEq.all (fn.take 25) (fun s => fun d => d.ok (He.frG (getT s) (List.range 1500))) 12 (hc11_t w) (hc12_t w)
theorem hc2_t (w : World) : EndEq R 14000 (w.withFollow "special-get-raises" true) (fun s => (fn.drop 25).all (fun d => d.ok (He.frG (getT s) (List.range 1500)))) true := by
  intro os
  kernel_rfl
theorem hc3_t (w : World) : EndEq R 14000 (w.withFollow "special-get-raises" true) (fun s => fn.map (fun d => seenAt (He.frG (getT s) (List.range 1500)) (d.adr (He.frG (getT s) (List.range 1500))))) (fn.map Dx.val) := by
  intro os
  kernel_rfl
theorem hc_t (w : World) : EndEq R 14000 (w.withFollow "special-get-raises" true) (fun s => (fn.all (fun d => d.ok (He.frG (getT s) (List.range 1500))), fn.map fun d => seenAt (He.frG (getT s) (List.range 1500)) (d.adr (He.frG (getT s) (List.range 1500))))) (true, fn.map Dx.val) := EndEq.pair (EndEq.all fn (fun s => fun d => d.ok (He.frG (getT s) (List.range 1500))) 25 (hc1_t w) (hc2_t w)) (hc3_t w)
theorem run_f (w : World) : RunEq R (PySem.W.view R.prog [45]) hk ob 14000 ((["_wall", "CarryError", "InvalidNumber", "InvalidProgram", "ParseError", "is_integer", "is_between", "check_between", "REGISTERS", "FLAGS", "MOST_INSTRUCTIONS", "MOST_PLACES", "FORMS", "fits", "is_instruction", "is_within", "shifted", "Program", "LETTERS", "MOST_LETTERS", "is_name", "DIGITS", "MOST_DIGITS", "parse_count", "parse_integer", "format_item", "format_instruction", "format_program", "parse_item", "parse_instruction"] : List PySem.Str) ++ (["lines_of", "parse_program", "named_target", "assemble", "_law_pool", "_law_take", "_law_text", "_law_any_code", "_law_long_right"] : List PySem.Str)) (w.withFollow "special-get-raises" false) := runEq_of (ha_f w) (EndEq.p1 (hbd_f w)) (hc_f w) (EndEq.p2 (hbd_f w))
theorem run_t (w : World) : RunEq R (PySem.W.view R.prog [45]) hk ob 14000 ((["_wall", "CarryError", "InvalidNumber", "InvalidProgram", "ParseError", "is_integer", "is_between", "check_between", "REGISTERS", "FLAGS", "MOST_INSTRUCTIONS", "MOST_PLACES", "FORMS", "fits", "is_instruction", "is_within", "shifted", "Program", "LETTERS", "MOST_LETTERS", "is_name", "DIGITS", "MOST_DIGITS", "parse_count", "parse_integer", "format_item", "format_instruction", "format_program", "parse_item", "parse_instruction"] : List PySem.Str) ++ (["lines_of", "parse_program", "named_target", "assemble", "_law_pool", "_law_take", "_law_text", "_law_any_code", "_law_long_right"] : List PySem.Str)) (w.withFollow "special-get-raises" true) := runEq_of (ha_t w) (EndEq.p1 (hbd_t w)) (hc_t w) (EndEq.p2 (hbd_t w))
theorem run (w : World) : RunEq R (PySem.W.view R.prog [45]) hk ob 14000 ((["_wall", "CarryError", "InvalidNumber", "InvalidProgram", "ParseError", "is_integer", "is_between", "check_between", "REGISTERS", "FLAGS", "MOST_INSTRUCTIONS", "MOST_PLACES", "FORMS", "fits", "is_instruction", "is_within", "shifted", "Program", "LETTERS", "MOST_LETTERS", "is_name", "DIGITS", "MOST_DIGITS", "parse_count", "parse_integer", "format_item", "format_instruction", "format_program", "parse_item", "parse_instruction"] : List PySem.Str) ++ (["lines_of", "parse_program", "named_target", "assemble", "_law_pool", "_law_take", "_law_text", "_law_any_code", "_law_long_right"] : List PySem.Str)) w := PySem.W.byRow2 "special-get-raises" (P := fun w => RunEq R (PySem.W.view R.prog [45]) hk ob 14000 ((["_wall", "CarryError", "InvalidNumber", "InvalidProgram", "ParseError", "is_integer", "is_between", "check_between", "REGISTERS", "FLAGS", "MOST_INSTRUCTIONS", "MOST_PLACES", "FORMS", "fits", "is_instruction", "is_within", "shifted", "Program", "LETTERS", "MOST_LETTERS", "is_name", "DIGITS", "MOST_DIGITS", "parse_count", "parse_integer", "format_item", "format_instruction", "format_program", "parse_item", "parse_instruction"] : List PySem.Str) ++ (["lines_of", "parse_program", "named_target", "assemble", "_law_pool", "_law_take", "_law_text", "_law_any_code", "_law_long_right"] : List PySem.Str)) w) run_f run_t w
end LW
set_option Elab.async false
set_option linter.all false
set_option maxRecDepth 100000
set_option maxHeartbeats 400000
namespace DL
open PySem L2
/-! values without a heap, and what stands for them in the abstract heap -/
inductive D where
  | non | bl (b : Bool) | int (i : Int) | str (x : Str) | ty (n : String)
  | tup (xs : List D) | lst (xs : List D)
  | dic (ks : List Key) (xs : List D) | dct (ks : List (List Key)) (xs : List D)
  | ins (c : Nat) (xs : List D)
  | cls (c : Nat)
  | scr (ns : List Int)
  | opq

/-- how many -/
def nmN : Nat → Nat
  | 0 => 3 | 1 => 4 | 2 => 2 | 3 => 1 | 4 => 3 | 5 => 7 | 6 => 8 | 7 => 10 | 8 => 1 | 9 => 6 | 10 => 2 | 11 => 6 | 12 => 6 | 13 => 2 | _ => 0
theorem nmN_eq (c : Nat) : (nmT c).length = nmN c := by
  unfold nmT nmN
  split <;> rfl
def xfT : Nat → Str
  | 8 => "line" | 9 => "limit" | 10 => "user" | 11 => "user" | _ => "value"

def Ex (H H' : Hp) : Prop := ∀ a o, H a = some o → H' a = some o
theorem Ex.refl (H : Hp) : Ex H H := fun _ _ h => h
theorem Ex.trans {H H1 H2 : Hp} (a : Ex H H1) (b : Ex H1 H2) : Ex H H2 := fun x o h => b x o (a x o h)
theorem Ex.new {H : Hp} {p : Addr} {o : HO} (h : H p = none) : Ex H (upd H p o) := fun a u e => by
  rw [upd_ne (ne_of_none e h)]
  exact e
theorem Ex.back {H H' : Hp} (e : Ex H H') {p : Addr} (h : H' p = none) : H p = none := by
  cases h1 : H p with
  | none => rfl
  | some o => rw [e p o h1] at h; cases h
theorem Ex.rd {H H' : Hp} {a : Addr} {u : HO} (e : Ex H H') (h : Rd H a u) : Rd H' a u := by
  rcases h with h | ⟨o, h⟩
  · exact Or.inl (e a _ h)
  · exact Or.inr ⟨o, e a _ h⟩
theorem Ex.l {K : PySem.W.Frag} {H H' : Hp} {a : Addr} {xs : List V} (e : Ex H H') (h : SqL K H a xs) : SqL K H' a xs := by
  rcases h with h | h
  · exact Or.inl (e.rd h)
  · exact Or.inr h
theorem Ex.t {K : PySem.W.Frag} {H H' : Hp} {a : Addr} {xs : List V} (e : Ex H H') (h : SqT K H a xs) : SqT K H' a xs := by
  rcases h with h | h
  · exact Or.inl (e.rd h)
  · exact Or.inr h

mutual
inductive Rep (K : PySem.W.Frag) (g : G) (H : Hp) : D → V → Prop
  | non : Rep K g H .non .non
  | bl (b : Bool) : Rep K g H (.bl b) (.bl b)
  | int (i : Int) : Rep K g H (.int i) (.int i)
  | str (x : Str) : Rep K g H (.str x) (.str x)
  | ty (n : String) : Rep K g H (.ty n) (.ty n)
  | cls (c : Nat) : Rep K g H (.cls c) (.ref (g.cl c))
  | tup {a : Addr} {ds : List D} {vs : List V} : SqT K H a vs → Reps K g H ds vs → Rep K g H (.tup ds) (.ref a)
  | lst {a : Addr} {ds : List D} {vs : List V} : H a = some (.lst vs) → Reps K g H ds vs → Rep K g H (.lst ds) (.ref a)
  | scr {a : Addr} {ns : List Int} : SqL K H a (ns.map V.int) → Rep K g H (.scr ns) (.ref a)
  | dic {a : Addr} {ks : List Key} {ds : List D} {vs : List V} : Rd H a (.dK (ks.zip vs)) → Reps K g H ds vs → ks.length = ds.length → Rep K g H (.dic ks ds) (.ref a)
  | dct {a : Addr} {ks : List (List Key)} {ds : List D} {vs : List V} : Rd H a (.dT (ks.zip vs)) → Reps K g H ds vs → ks.length = ds.length → Rep K g H (.dct ks ds) (.ref a)
  | ins {a dx : Addr} {c : Nat} {ds : List D} {vs : List V} : H a = some (.ins (g.cl c) dx ((nmT c).zip vs)) → Reps K g H ds vs → ds.length = (nmT c).length → g.ok c = true → Rep K g H (.ins c ds) (.ref a)
  | opq {a : Addr} {φ : Heap → Prop} : H a = some (.ext φ) → (∀ hp, φ hp → ∃ o, hp.get? a = some o ∧ o.cls = .type "dict") → Rep K g H .opq (.ref a)
inductive Reps (K : PySem.W.Frag) (g : G) (H : Hp) : List D → List V → Prop
  | nil : Reps K g H [] []
  | cons {d : D} {ds : List D} {v : V} {vs : List V} : Rep K g H d v → Reps K g H ds vs → Reps K g H (d :: ds) (v :: vs)
end

section
variable {K : PySem.W.Frag} {g : G} {H H' : Hp}
mutual
theorem Rep.mono (e : Ex H H') : ∀ {d : D} {v : V}, Rep K g H d v → Rep K g H' d v
  | _, _, .non => .non
  | _, _, .bl b => .bl b
  | _, _, .int b => .int b
  | _, _, .str b => .str b
  | _, _, .ty b => .ty b
  | _, _, .cls b => .cls b
  | _, _, .tup h r => .tup (e.t h) (Reps.mono e r)
  | _, _, .lst h r => .lst (e _ _ h) (Reps.mono e r)
  | _, _, .scr h => .scr (e.l h)
  | _, _, .dic h r l => .dic (e.rd h) (Reps.mono e r) l
  | _, _, .dct h r l => .dct (e.rd h) (Reps.mono e r) l
  | _, _, .ins h r l k => .ins (e _ _ h) (Reps.mono e r) l k
  | _, _, .opq h k => .opq (e _ _ h) k
theorem Reps.mono (e : Ex H H') : ∀ {d : List D} {v : List V}, Reps K g H d v → Reps K g H' d v
  | _, _, .nil => .nil
  | _, _, .cons a b => .cons (Rep.mono e a) (Reps.mono e b)
end
theorem Reps.len : ∀ {d : List D} {v : List V}, Reps K g H d v → d.length = v.length
  | _, _, .nil => rfl
  | _, _, .cons _ b => by rw [List.length_cons, List.length_cons, Reps.len b]
theorem Reps.append : ∀ {d e : List D} {v w : List V}, Reps K g H d v → Reps K g H e w → Reps K g H (d ++ e) (v ++ w)
  | _, _, _, _, .nil, h => h
  | _, _, _, _, .cons a b, h => .cons a (Reps.append b h)
theorem Reps.get : ∀ {d : List D} {v : List V} {i : Nat} {x : V}, Reps K g H d v → v[i]? = some x → ∃ y, d[i]? = some y ∧ Rep K g H y x
  | _, _, _, _, .nil, h => by simp at h
  | _, _, 0, _, .cons a b, h => by simp at h; subst h; exact ⟨_, rfl, a⟩
  | _, _, i + 1, _, .cons a b, h => by
    rw [List.getElem?_cons_succ] at h
    obtain ⟨y, h1, h2⟩ := Reps.get b h
    exact ⟨y, by rw [List.getElem?_cons_succ]; exact h1, h2⟩
theorem Reps.getD : ∀ {d : List D} {v : List V} {i : Nat} {y : D}, Reps K g H d v → d[i]? = some y → ∃ x, v[i]? = some x ∧ Rep K g H y x
  | _, _, _, _, .nil, h => by simp at h
  | _, _, 0, _, .cons a b, h => by simp at h; subst h; exact ⟨_, rfl, a⟩
  | _, _, i + 1, _, .cons a b, h => by
    rw [List.getElem?_cons_succ] at h
    obtain ⟨y, h1, h2⟩ := Reps.getD b h
    exact ⟨y, by rw [List.getElem?_cons_succ]; exact h1, h2⟩
theorem Reps.set : ∀ {d : List D} {v : List V} (i : Nat) {x : V} {y : D}, Reps K g H d v → Rep K g H y x → Reps K g H (d.set i y) (v.set i x)
  | _, _, _, _, _, .nil, _ => by simp; exact .nil
  | _, _, 0, _, _, .cons a b, h => .cons h b
  | _, _, i + 1, _, _, .cons a b, h => .cons a (Reps.set i b h)
theorem Reps.take : ∀ {d : List D} {v : List V} (i : Nat), Reps K g H d v → Reps K g H (d.take i) (v.take i)
  | _, _, 0, _ => .nil
  | _, _, _ + 1, .nil => .nil
  | _, _, i + 1, .cons a b => .cons a (Reps.take i b)
theorem Reps.drop : ∀ {d : List D} {v : List V} (i : Nat), Reps K g H d v → Reps K g H (d.drop i) (v.drop i)
  | _, _, 0, h => h
  | _, _, _ + 1, .nil => .nil
  | _, _, i + 1, .cons a b => Reps.drop i b
theorem Reps.reverse : ∀ {d : List D} {v : List V}, Reps K g H d v → Reps K g H d.reverse v.reverse
  | _, _, .nil => .nil
  | _, _, .cons a b => by
    rw [List.reverse_cons, List.reverse_cons]
    exact Reps.append (Reps.reverse b) (.cons a .nil)
end

/-- an object that its holder may change -/
inductive RepO (K : PySem.W.Frag) (g : G) (Hf : Hp) : D → HO → Prop
  | lst {ds : List D} {vs : List V} : Reps K g Hf ds vs → RepO K g Hf (.lst ds) (.lst vs)
  | dic {ks : List Key} {ds : List D} {vs : List V} : Reps K g Hf ds vs → ks.length = ds.length → RepO K g Hf (.dic ks ds) (.dK (ks.zip vs))
  | dct {ks : List (List Key)} {ds : List D} {vs : List V} : Reps K g Hf ds vs → ks.length = ds.length → RepO K g Hf (.dct ks ds) (.dT (ks.zip vs))
  | ins {c : Nat} {dx : Addr} {ds : List D} {vs : List V} : Reps K g Hf ds vs → ds.length ≤ (nmT c).length → g.ok c = true → RepO K g Hf (.ins c ds) (.ins (g.cl c) dx ((nmT c).zip vs))
theorem RepO.mono {K : PySem.W.Frag} {g : G} {H H' : Hp} (e : Ex H H') {d : D} {o : HO} (h : RepO K g H d o) : RepO K g H' d o := by
  cases h with
  | lst h => exact .lst (h.mono e)
  | dic h l => exact .dic (h.mono e) l
  | dct h l => exact .dct (h.mono e) l
  | ins h l k => exact .ins (h.mono e) l k
/-- made, and from now on not changed -/
def full : D → Bool
  | .ins c ds => ds.length == nmN c
  | _ => true
theorem RepO.rep {K : PySem.W.Frag} {g : G} {H : Hp} {a : Addr} {d : D} {o : HO} (h : RepO K g H d o) (e : H a = some o) (f : full d = true) : Rep K g H d (.ref a) := by
  cases h with
  | lst h => exact .lst e h
  | dic h l => exact .dic (Or.inl e) h l
  | dct h l => exact .dct (Or.inl e) h l
  | ins h l k => exact .ins e h (by rw [nmN_eq]; simpa [full] using f) k

/-! the names of a running def: nothing | a value | a value that only this name holds and may change | such a one, lent by the caller -/
inductive Sl where
  | no | sh (d : D) | ow (d : D) | pn (d : D)
abbrev En := List Sl
def Sl.mut : Sl → Option D
  | .ow d => some d
  | .pn d => some d
  | _ => none
def Sl.ok (K : PySem.W.Frag) (g : G) (Hf H : Hp) : Sl → Option V → Prop
  | .no, _ => True
  | .sh d, o => ∃ v, o = some v ∧ Rep K g Hf d v
  | .ow d, o => ∃ p u, o = some (.ref p) ∧ H p = some u ∧ Hf p = none ∧ RepO K g Hf d u
  | .pn d, o => ∃ p u, o = some (.ref p) ∧ H p = some u ∧ Hf p = none ∧ RepO K g Hf d u
theorem Sl.ok_mut {K : PySem.W.Frag} {g : G} {Hf H : Hp} : ∀ {s : Sl} {o : Option V} {d : D}, s.mut = some d → (s.ok K g Hf H o ↔ ∃ p u, o = some (.ref p) ∧ H p = some u ∧ Hf p = none ∧ RepO K g Hf d u)
  | .ow d, o, _, h => by cases h; exact Iff.rfl
  | .pn d, o, _, h => by cases h; exact Iff.rfl
  | .no, o, _, h => by cases h
  | .sh d, o, _, h => by cases h

def Own (env : En) (σ : L2.St) (a : Addr) : Prop := ∃ (i : Nat) (s : Sl) (d : D), env[i]? = some s ∧ s.mut = some d ∧ σ[i]? = some (some (V.ref a))
structure SR (K : PySem.W.Frag) (g : G) (env : En) (σ : L2.St) (Hf H : Hp) : Prop where
  ex : Ex Hf H
  len : σ.length = env.length
  sl : ∀ (i : Nat) (s : Sl) (o : Option V), env[i]? = some s → σ[i]? = some o → s.ok K g Hf H o
  ne : ∀ (i j : Nat) (s t : Sl) (d d' : D) (p : Addr), i ≠ j → env[i]? = some s → env[j]? = some t → s.mut = some d → t.mut = some d' → σ[i]? = some (some (V.ref p)) → σ[j]? ≠ some (some (V.ref p))
structure Step (K : PySem.W.Frag) (g : G) (env : En) (σ : L2.St) (Hf H : Hp) (env' : En) (σ' : L2.St) (Hf' H' : Hp) : Prop where
  f : Ex Hf Hf'
  sr : SR K g env' σ' Hf' H'
  kp : ∀ a u, H a = some u → Hf a = none → ¬ Own env σ a → H' a = some u ∧ Hf' a = none
  ow : ∀ a, Own env' σ' a → Own env σ a ∨ H a = none
  th : ∀ a, H' a = none → H a = none
  pn : ∀ (i : Nat) (d : D), env[i]? = some (Sl.pn d) → (∃ d', env'[i]? = some (Sl.pn d')) ∧ σ'[i]? = σ[i]?
  le : env'.length = env.length
section
variable {K : PySem.W.Frag} {g : G} {env env1 env2 : En} {σ σ1 σ2 : L2.St} {Hf H Hf1 H1 Hf2 H2 : Hp}
theorem Step.refl (s : SR K g env σ Hf H) : Step K g env σ Hf H env σ Hf H :=
  ⟨Ex.refl _, s, fun _ _ h h' _ => ⟨h, h'⟩, fun _ h => .inl h, fun _ h => h, fun _ d h => ⟨⟨d, h⟩, rfl⟩, rfl⟩
theorem Step.trans (a : Step K g env σ Hf H env1 σ1 Hf1 H1) (b : Step K g env1 σ1 Hf1 H1 env2 σ2 Hf2 H2) : Step K g env σ Hf H env2 σ2 Hf2 H2 where
  f := a.f.trans b.f
  sr := b.sr
  kp x u h h' n := by
    obtain ⟨h1, h2⟩ := a.kp x u h h' n
    refine b.kp x u h1 h2 fun o => ?_
    rcases a.ow x o with q | q
    · exact n q
    · rw [h] at q; cases q
  ow x o := by
    rcases b.ow x o with q | q
    · exact a.ow x q
    · exact .inr (a.th x q)
  th x h := a.th x (b.th x h)
  pn i d h := by
    obtain ⟨⟨d1, h1⟩, e1⟩ := a.pn i d h
    obtain ⟨h2, e2⟩ := b.pn i d1 h1
    exact ⟨h2, e2.trans e1⟩
  le := b.le.trans a.le
/-- only new objects: frozen ones in Hf1 -/
structure Grow (Hf H Hf' H' : Hp) : Prop where
  f : Ex Hf Hf'
  fh : Ex Hf' H'
  h : Ex H H'
  n : ∀ a u, H a = some u → Hf a = none → Hf' a = none
theorem Grow.refl (e : Ex Hf H) : Grow Hf H Hf H := ⟨Ex.refl _, e, Ex.refl _, fun _ _ _ h => h⟩
theorem Grow.trans {a : Grow Hf H Hf1 H1} (b : Grow Hf1 H1 Hf2 H2) : Grow Hf H Hf2 H2 :=
  ⟨a.f.trans b.f, b.fh, a.h.trans b.h, fun x u h h' => b.n x u (a.h x u h) (a.n x u h h')⟩
theorem Grow.new {p : Addr} {o : HO} (e : Ex Hf H) (h : H p = none) : Grow Hf H (upd Hf p o) (upd H p o) where
  f := Ex.new (e.back h)
  fh a u q := by
    by_cases c : a = p
    · subst c; rw [upd_same] at q ⊢; exact q
    · rw [upd_ne c] at q ⊢; exact e a u q
  h := Ex.new h
  n a u q q' := by rw [upd_ne (ne_of_none q h)]; exact q'
theorem SR.grow (s : SR K g env σ Hf H) (w : Grow Hf H Hf1 H1) : SR K g env σ Hf1 H1 where
  ex := w.fh
  len := s.len
  sl i x o h h' := by
    have q := s.sl i x o h h'
    cases x with
    | no => trivial
    | sh d => obtain ⟨v, e, r⟩ := q; exact ⟨v, e, r.mono w.f⟩
    | ow d => obtain ⟨p, u, e, h1, h2, r⟩ := q; exact ⟨p, u, e, w.h _ _ h1, w.n _ _ h1 h2, r.mono w.f⟩
    | pn d => obtain ⟨p, u, e, h1, h2, r⟩ := q; exact ⟨p, u, e, w.h _ _ h1, w.n _ _ h1 h2, r.mono w.f⟩
  ne := s.ne
theorem Grow.step (w : Grow Hf H Hf1 H1) (s : SR K g env σ Hf H) : Step K g env σ Hf H env σ Hf1 H1 :=
  ⟨w.f, s.grow w, fun a u h h' _ => ⟨w.h a u h, w.n a u h h'⟩, fun _ h => .inl h, fun _ h => w.h.back h, fun _ d h => ⟨⟨d, h⟩, rfl⟩, rfl⟩
/-- where a mutable slot stands -/
theorem SR.at_ (s : SR K g env σ Hf H) {i : Nat} {x : Sl} {d : D} (h : env[i]? = some x) (m : x.mut = some d) : ∃ p u, σ[i]? = some (some (V.ref p)) ∧ H p = some u ∧ Hf p = none ∧ RepO K g Hf d u := by
  have hi : i < σ.length := by rw [s.len]; exact (List.getElem?_eq_some_iff.mp h).1
  obtain ⟨p, u, e, h1, h2, h3⟩ := (Sl.ok_mut m).mp (s.sl i x _ h (List.getElem?_eq_getElem hi))
  exact ⟨p, u, by rw [List.getElem?_eq_getElem hi, e], h1, h2, h3⟩
theorem SR.sh_ (s : SR K g env σ Hf H) {i : Nat} {d : D} (h : env[i]? = some (.sh d)) : ∃ v, σ[i]? = some (some v) ∧ Rep K g Hf d v := by
  have hi : i < σ.length := by rw [s.len]; exact (List.getElem?_eq_some_iff.mp h).1
  obtain ⟨v, e, r⟩ := s.sl i _ _ h (List.getElem?_eq_getElem hi)
  exact ⟨v, by rw [List.getElem?_eq_getElem hi, e], r⟩
end
end DL

set_option Elab.async false
set_option linter.all false
set_option maxRecDepth 100000
set_option maxHeartbeats 400000
namespace DL
open PySem L2
/-! what a piece of a def comes to, by the names' values alone -/
inductive Rs (α : Type) where
  | ok (a : α) (e : En) | ex (c : Nat) (d : D) (e : En) | bad
abbrev M (α : Type) := En → Rs α
def bnd {α β : Type} (m : M α) (k : α → M β) : M β := fun e => match m e with
  | .ok a e' => k a e'
  | .ex c d e' => .ex c d e'
  | .bad => .bad
def ret {α : Type} (a : α) : M α := fun e => .ok a e
def lft {α : Type} (o : Option α) : M α := fun e => match o with
  | some a => .ok a e
  | none => .bad
/-- no exception leaves -/
def nox {α : Type} (m : M α) : M α := fun e => match m e with
  | .ex _ _ _ => .bad
  | r => r
inductive Ctl where
  | nx | bk | ct | rt (d : D) | rto (d : D)
section
variable (K : PySem.W.Frag) (g : G) (W : WX)
/-- an exception of the class c with the field d -/
def XGot (env : En) (σ : L2.St) (Hf H : Hp) (c : Nat) (d : D) (env' : En) : Prop :=
  ∀ dx v fs σ' Hf' H', Step K g env σ Hf H env' σ' Hf' H' → Rep K g Hf' d v → H' dx = some (.xd fs) → fs.lookup (xfT c) = some v → Hf' dx = none → ¬ Own env' σ' dx → H dx = none → W (.ref (g.xl c)) (some dx) σ' H'
def Aft {α : Type} (env : En) (σ : L2.St) (Hf H : Hp) (r : Rs α) (P : α → En → Hp → Hp → Prop) : Prop :=
  match r with
  | .ok a env' => ∀ Hf' H', Step K g env σ Hf H env' σ Hf' H' → P a env' Hf' H'
  | .ex c d env' => XGot K g W env σ Hf H c d env'
  | .bad => False
/-- a new object of ours at p -/
structure New (env : En) (σ : L2.St) (H : Hp) (Hf' H' : Hp) (d : D) (p : Addr) : Prop where
  at_ : ∃ u, H' p = some u ∧ RepO K g Hf' d u
  nf : Hf' p = none
  no : ¬ Own env σ p
  nw : H p = none
def EvM (te : TE) (m : M D) : Prop := ∀ env σ Hf H, SR K g env σ Hf H → ∀ Q : VK, Aft K g W env σ Hf H (m env) (fun d _ Hf' H' => ∀ v, Rep K g Hf' d v → Q v H') → te σ H Q
def EvF (te : TE) (m : M D) : Prop := ∀ env σ Hf H, SR K g env σ Hf H → ∀ Q : VK, Aft K g W env σ Hf H (m env) (fun d env' Hf' H' => ∀ p, New K g env' σ H Hf' H' d p → Q (.ref p) H') → te σ H Q
def EvB (tt : TT) (m : M Bool) : Prop := ∀ env σ Hf H, SR K g env σ Hf H → ∀ Q : Bool → Hp → Prop, Aft K g W env σ Hf H (m env) (fun b _ _ H' => Q b H') → tt σ H Q
def EvL (ta : TA) (m : M (List D)) : Prop := ∀ env σ Hf H, SR K g env σ Hf H → ∀ Q : List V → Hp → Prop, Aft K g W env σ Hf H (m env) (fun ds _ Hf' H' => ∀ vs, Reps K g Hf' ds vs → Q vs H') → ta σ H Q
/-- a two-place, a one-place operation on values, a call on values -/
def RvOk (r : R2) (f : D → D → Option D) : Prop := ∀ Hf H x y dx dy Q, Ex Hf H → Rep K g Hf dx x → Rep K g Hf dy y →
  (match f dx dy with
   | some z => ∀ v Hf' H', Grow Hf H Hf' H' → Rep K g Hf' z v → Q v H'
   | none => False) → r x y H Q
def RuOk (r : V → Hp → VK → Prop) (f : D → Option D) : Prop := ∀ Hf H x dx Q, Ex Hf H → Rep K g Hf dx x →
  (match f dx with
   | some z => ∀ v Hf' H', Grow Hf H Hf' H' → Rep K g Hf' z v → Q v H'
   | none => False) → r x H Q
def RcOk (r : List V → Hp → VK → Prop) (f : List D → Option D) : Prop := ∀ Hf H xs ds Q, Ex Hf H → Reps K g Hf ds xs →
  (match f ds with
   | some z => ∀ v Hf' H', Grow Hf H Hf' H' → Rep K g Hf' z v → Q v H'
   | none => False) → r xs H Q
/-- .. whose result is new and may be kept for oneself -/
def RcOkF (r : List V → Hp → VK → Prop) (f : List D → Option D) : Prop := ∀ Hf H xs ds Q, Ex Hf H → Reps K g Hf ds xs →
  (match f ds with
   | some z => ∀ p Hf' H' u, Grow Hf H Hf' H' → H p = none → H' p = some u → Hf' p = none → RepO K g Hf' z u → Q (.ref p) H'
   | none => False) → r xs H Q
end
section
variable {K : PySem.W.Frag} {g : G} {W : WX} {α β : Type} {env env1 env' : En} {σ σ' : L2.St} {Hf H Hf1 H1 Hf' H' : Hp}
theorem Aft.imp {r : Rs α} {P P' : α → En → Hp → Hp → Prop} (h : Aft K g W env σ Hf H r P) (k : ∀ a e Hf' H', r = .ok a e → Step K g env σ Hf H e σ Hf' H' → P a e Hf' H' → P' a e Hf' H') : Aft K g W env σ Hf H r P' := by
  cases r with
  | ok a e => exact fun Hf' H' s => k a e Hf' H' rfl s (h Hf' H' s)
  | ex c d e => exact h
  | bad => exact h
theorem XGot.after {c : Nat} {d : D} {e : En} (s : Step K g env σ Hf H env1 σ' Hf1 H1) (h : XGot K g W env σ Hf H c d e) : XGot K g W env1 σ' Hf1 H1 c d e := fun dx v fs σ2 Hf2 H2 s2 r e1 e2 e3 e4 e5 => h dx v fs σ2 Hf2 H2 (s.trans s2) r e1 e2 e3 e4 (s.th dx e5)
theorem Aft.bnd {m : M α} {k : α → M β} {P : β → En → Hp → Hp → Prop} (h : Aft K g W env σ Hf H (DL.bnd m k env) P) :
    Aft K g W env σ Hf H (m env) fun a env1 Hf1 H1 => Aft K g W env1 σ Hf1 H1 (k a env1) P := by
  unfold DL.bnd at h
  revert h
  cases m env with
  | ok a e =>
    intro h Hf1 H1 s
    show Aft K g W e σ Hf1 H1 (k a e) P
    revert h
    show Aft K g W env σ Hf H (k a e) P → _
    cases k a e with
    | ok b e2 => exact fun h Hf2 H2 s2 => h Hf2 H2 (s.trans s2)
    | ex c d e2 => exact fun h => XGot.after s h
    | bad => exact fun h => h
  | ex c d e => exact fun h => h
  | bad => exact fun h => h
theorem Aft.ret {a : α} {P : α → En → Hp → Hp → Prop} (s : SR K g env σ Hf H) (h : Aft K g W env σ Hf H (DL.ret a env) P) : P a env Hf H := h Hf H (Step.refl s)
theorem Aft.lft {o : Option α} {P : α → En → Hp → Hp → Prop} (s : SR K g env σ Hf H) (h : Aft K g W env σ Hf H (DL.lft o env) P) : ∃ a, o = some a ∧ ∀ Hf' H', Grow Hf H Hf' H' → P a env Hf' H' := by
  cases o with
  | none => exact h.elim
  | some a => exact ⟨a, rfl, fun Hf' H' w => h Hf' H' (w.step s)⟩
/-- freezing an own thing: it joins what never changes -/
theorem grow_freeze {p : Addr} {u : HO} (e : Ex Hf H) (hp : H p = some u) (hn : Hf p = none) : Ex Hf (upd Hf p u) ∧ Ex (upd Hf p u) H :=
  ⟨Ex.new hn, fun a o q => by
    by_cases c : a = p
    · subst c; rw [upd_same] at q; rw [← q]; exact hp
    · rw [upd_ne c] at q; exact e a o q⟩
/-- a new thing, frozen at once -/
theorem New.freeze {d : D} {p : Addr} (s : Step K g env σ Hf H env' σ' Hf' H') (n : New K g env' σ' H Hf' H' d p) (f : full d = true) : ∃ Hf2, Step K g env σ Hf H env' σ' Hf2 H' ∧ Rep K g Hf2 d (.ref p) := by
  obtain ⟨u, hu, r⟩ := n.at_
  obtain ⟨e1, e2⟩ := grow_freeze s.sr.ex hu n.nf
  refine ⟨upd Hf' p u, ⟨s.f.trans e1, ⟨e2, s.sr.len, fun i x o h h' => ?_, s.sr.ne⟩, fun a v h h' no => ?_, s.ow, s.th, s.pn, s.le⟩, (r.mono e1).rep upd_same f⟩
  · have q := s.sr.sl i x o h h'
    cases x with
    | no => trivial
    | sh d => obtain ⟨v, e, r⟩ := q; exact ⟨v, e, r.mono e1⟩
    | ow d => obtain ⟨q, w, e, h1, h2, r⟩ := q; exact ⟨q, w, e, h1, by rw [upd_ne (fun c => n.no ⟨i, _, d, h, rfl, by rw [h', e, c]⟩)]; exact h2, r.mono e1⟩
    | pn d => obtain ⟨q, w, e, h1, h2, r⟩ := q; exact ⟨q, w, e, h1, by rw [upd_ne (fun c => n.no ⟨i, _, d, h, rfl, by rw [h', e, c]⟩)]; exact h2, r.mono e1⟩
  · obtain ⟨q1, q2⟩ := s.kp a v h h' no
    refine ⟨q1, ?_⟩
    rw [upd_ne (fun c => by rw [c, n.nw] at h; cases h)]
    exact q2
theorem RvOk.ev {r : R2} {f : D → D → Option D} {ta tb : TE} {ma mb : M D} (hr : RvOk K g r f) (ha : EvM K g W ta ma) (hb : EvM K g W tb mb) : EvM K g W (tOp r ta tb) (bnd ma fun x => bnd mb fun y => lft (f x y)) :=
  fun env σ Hf H s Q h => ha env σ Hf H s _ (h.bnd.imp fun x e1 Hf1 H1 _ s1 h1 v r1 => hb e1 σ Hf1 H1 s1.sr _ (h1.bnd.imp fun y e2 Hf2 H2 _ s2 h2 w r2 => by
    obtain ⟨z, hz, k⟩ := Aft.lft s2.sr h2
    refine hr Hf2 H2 v w x y Q s2.sr.ex (r1.mono s2.f) r2 ?_
    rw [hz]
    exact fun v Hf' H' w r => k Hf' H' w v r))
theorem RuOk.ev {r : V → Hp → VK → Prop} {f : D → Option D} {ta : TE} {ma : M D} (hr : RuOk K g r f) (ha : EvM K g W ta ma) : EvM K g W (tUn r ta) (bnd ma fun x => lft (f x)) :=
  fun env σ Hf H s Q h => ha env σ Hf H s _ (h.bnd.imp fun x e1 Hf1 H1 _ s1 h1 v r1 => by
    obtain ⟨z, hz, k⟩ := Aft.lft s1.sr h1
    refine hr Hf1 H1 v x Q s1.sr.ex r1 ?_
    rw [hz]
    exact fun v Hf' H' w r => k Hf' H' w v r)
theorem RcOk.ev {r : List V → Hp → VK → Prop} {f : List D → Option D} {ta : TA} {ma : M (List D)} (hr : RcOk K g r f) (ha : EvL K g W ta ma) : EvM K g W (tCB r ta) (bnd ma fun x => lft (f x)) :=
  fun env σ Hf H s Q h => ha env σ Hf H s _ (h.bnd.imp fun x e1 Hf1 H1 _ s1 h1 v r1 => by
    obtain ⟨z, hz, k⟩ := Aft.lft s1.sr h1
    refine hr Hf1 H1 v x Q s1.sr.ex r1 ?_
    rw [hz]
    exact fun v Hf' H' w r => k Hf' H' w v r)
theorem RcOkF.ev {r : List V → Hp → VK → Prop} {f : List D → Option D} {ta : TA} {ma : M (List D)} (hr : RcOkF K g r f) (ha : EvL K g W ta ma) : EvF K g W (tCB r ta) (bnd ma fun x => lft (f x)) :=
  fun env σ Hf H s Q h => ha env σ Hf H s _ (h.bnd.imp fun x e1 Hf1 H1 _ s1 h1 v r1 => by
    obtain ⟨z, hz, k⟩ := Aft.lft s1.sr h1
    refine hr Hf1 H1 v x Q s1.sr.ex r1 ?_
    rw [hz]
    refine fun p Hf' H' u w e1 e2 e3 e4 => k Hf' H' w p ⟨⟨u, e2, e4⟩, e3, fun o => ?_, s1.th p e1⟩
    obtain ⟨i, x, d, q1, q2, q3⟩ := o
    obtain ⟨p', u', c1, c2, _⟩ := s1.sr.at_ q1 q2
    rw [q3] at c1
    cases c1
    rw [e1] at c2
    cases c2)
/-- a fresh thing, shared at once -/
def frz (m : M D) : M D := fun env => match m env with
  | .ok d e => if full d = true then .ok d e else .bad
  | r => r
theorem EvF.ev {te : TE} {m : M D} (h : EvF K g W te m) : EvM K g W te (frz m) := by
  intro env σ Hf H s Q q
  refine h env σ Hf H s Q ?_
  revert q
  unfold frz
  cases m env with
  | ok d e =>
    dsimp only
    intro q Hf1 H1 s1 p n
    by_cases c : full d = true
    · rw [if_pos c] at q
      obtain ⟨Hf2, s2, r⟩ := n.freeze s1 c
      exact q Hf2 H1 s2 _ r
    · rw [if_neg c] at q
      exact q.elim
  | ex c d e => exact fun q => q
  | bad => exact fun q => q
end
end DL

set_option Elab.async false
set_option linter.all false
set_option maxRecDepth 100000
set_option maxHeartbeats 4000000
namespace DL
open PySem PySem.Spec PyProof.Rows L2
/-! ### tuple * int, the small cases: once is the tuple itself, never is the empty one -/
theorem tup_once (l : Addr) (items : Array Value) (n : Nat) (dd : Option Addr) (sl : Array (Option Value)) (x : Int) (u : Tok) (b0 : (decide (x < -(2 ^ 63)) || decide (x ≥ 2 ^ 63)) = false) (b1 : (items.isEmpty || x == 1) = true) :
    Meets (Builtin.«tuple.__mul__» ⟨[.ref l, .int x u], []⟩) (fun _ R s => s.heap.get? l = some { cls := .type "tuple", dict := dd, data := .seq items n, slots := sl } ∧ R (.ok (.ret (Value.ref l))) s) :=
  .of_wp fun prog w A R s h => by
    obtain ⟨hp, g, d, tk, os⟩ := s
    obtain ⟨hl, h⟩ := h
    have f1 := AutoSeq1.idx_int
    wp_walk using wpAny_loadPart' hl
    repeat (first
      | (refine wpAny_ite_false (decide_eq_false (by rw [b0]; exact Bool.false_ne_true)) ?_; wp_walk using wpAny_loadPart' hl)
      | (refine wpAny_ite_true (decide_eq_true b1) ?_; wp_walk using wpAny_loadPart' hl))
    exact ⟨_, rfl, h⟩
theorem tup_never (l : Addr) (items : Array Value) (n : Nat) (dd : Option Addr) (sl : Array (Option Value)) (x : Int) (u : Tok) (b0 : (decide (x < -(2 ^ 63)) || decide (x ≥ 2 ^ 63)) = false) (b1 : (items.isEmpty || x == 1) = false) (b2 : (decide (x ≤ 0) || items.isEmpty) = true) :
    Meets (Builtin.«tuple.__mul__» ⟨[.ref l, .int x u], []⟩) (fun _ R s => s.heap.get? l = some { cls := .type "tuple", dict := dd, data := .seq items n, slots := sl } ∧
      R (.ok (.ret (Value.ref s.heap.objs.size))) { s with heap := s.heap.push { cls := Value.type "tuple", data := Data.seq #[] }, toks := s.toks }) :=
  .of_wp fun prog w A R s h => by
    obtain ⟨hp, g, d, tk, os⟩ := s
    obtain ⟨hl, h⟩ := h
    have f1 := AutoSeq1.idx_int
    wp_walk using wpAny_loadPart' hl
    repeat (first
      | (refine wpAny_ite_false (decide_eq_false (by rw [b0]; exact Bool.false_ne_true)) ?_; wp_walk using wpAny_loadPart' hl)
      | (refine wpAny_ite_false (decide_eq_false (by rw [b1]; exact Bool.false_ne_true)) ?_; wp_walk using wpAny_loadPart' hl)
      | (refine wpAny_ite_true (decide_eq_true b2) ?_; wp_walk using wpAny_loadPart' hl))
    exact ⟨_, rfl, h⟩
def rRepS (K : PySem.W.Frag) : R2 := fun x y H Q => ∃ l k xs, x = .ref l ∧ y = .int k ∧ SqT K H l xs ∧ -1000 ≤ k ∧ ((k = 1 ∧ Q (.ref l) H) ∨ (xs ≠ [] ∧ k ≤ 0 ∧ ∀ p, H p = none → Q (.ref p) (upd H p (.tup []))))
theorem op_repS {X : Cx} : OpR X (binaryOp .Mult) (rRepS X.K) := by
  intro pins s σ H x y v u Q I rx ry h
  obtain ⟨l, k, xs, rfl, rfl, hT, hk, q⟩ := h
  cases rx
  obtain ⟨t, rfl⟩ := ry
  obtain ⟨its, r, ⟨⟨cls, dd, data, sl⟩, ho, hc, n, hd⟩, hs⟩ := I.tuple hT
  simp only at hc hd
  subst hc hd
  have b0 : (decide (k < -(2 ^ 63)) || decide (k ≥ 2 ^ 63)) = false := by
    have : k < 2 := by rcases q with ⟨e, _⟩ | ⟨_, e, _⟩ <;> omega
    rw [decide_eq_false (by omega), decide_eq_false (by omega)] <;> rfl
  have fin : ∀ {R : Value → Shared → Prop}, wpAny (model X.prog X.w) X.A (call (.builtin "tuple.__mul__") [.ref l, .int k t]) R X.xe s → (∀ v s', R v s' → (EP X pins σ Q) v s' ∧ v ≠ .notImplemented) → wpAny (model X.prog X.w) X.A (call (.builtin "tuple.__mul__") [.ref l, .int k t]) (EP X pins σ Q) X.xe s := fun h k => wpAny_mono h (fun v s' z => (k v s' z).1) fun _ _ z => z
  rcases q with ⟨k1, q⟩ | ⟨hne, k0, q⟩
  · have b1 : (its.toArray.isEmpty || k == 1) = true := by rw [beq_iff_eq.mpr k1, Bool.or_true]
    exact wpAny_binaryOp_repeat_ref (T := "tuple") (U := "int") (by decide) ⟨_, ho, rfl⟩ (fun s' => typeIs_int s' k t) noFill_tuple_mul F.fills_int_mul F.slot_int_rmul repeat_tuple F.slot_int_index.lookup
      (call_meets F.slot_int_rmul (typeIs_int s k t) F.entry_int_rmul (F.args_int_rmul_2 _ _) (int_rmul_tuple k t l its.toArray n dd sl)
        ⟨ho, rfl, ⟨_, ho, rfl⟩, call_meets F.slot_tuple_mul ⟨_, ho, rfl⟩ F.entry_tuple_mul (F.args_tuple_mul_2 _ _) (tup_once l its.toArray n dd sl k t b0 b1) ⟨ho, ⟨.ref l, H, I, rfl, q⟩⟩⟩)
  · have b1 : (its.toArray.isEmpty || k == 1) = false := by
      have e1 : its.toArray.isEmpty = false := by
        cases r with
        | nil => exact absurd rfl hne
        | cons a b => rfl
      rw [e1, Bool.false_or]
      exact beq_eq_false_iff_ne.mpr (by omega)
    have b2 : (decide (k ≤ 0) || its.toArray.isEmpty) = true := by rw [decide_eq_true k0, Bool.true_or]
    refine wpAny_binaryOp_repeat_ref (T := "tuple") (U := "int") (by decide) ⟨_, ho, rfl⟩ (fun s' => typeIs_int s' k t) noFill_tuple_mul F.fills_int_mul F.slot_int_rmul repeat_tuple F.slot_int_index.lookup
      (call_meets F.slot_int_rmul (typeIs_int s k t) F.entry_int_rmul (F.args_int_rmul_2 _ _) (int_rmul_tuple k t l its.toArray n dd sl)
        ⟨ho, rfl, ⟨_, ho, rfl⟩, call_meets F.slot_tuple_mul ⟨_, ho, rfl⟩ F.entry_tuple_mul (F.args_tuple_mul_2 _ _) (tup_never l its.toArray n dd sl k t b0 b1 b2) ⟨ho, ?_⟩⟩)
    refine ⟨.ref s.heap.objs.size, _, I.laid (t' := s.toks) (o := .tup []) (fun b ob q => Heap.get?_push_of_some _ q) (Nat.le_refl _) ?_, rfl, q _ (I.hok.fresh (Nat.le_refl _))⟩
    exact ⟨Nat.zero_le _, _, .nil, IsTup.new _ _⟩
end DL

set_option Elab.async false
set_option linter.all false
set_option maxRecDepth 100000
set_option maxHeartbeats 400000
namespace DL
open PySem L2
/-! expressions: a rule of the layer and what it comes to, in one -/
structure PEM (X : Cx) (g : G) (W : WX) (e : Expr) (m : M D) : Prop where
  ex : ∃ t, PE X e t ∧ EvM X.K g W t m
structure PEF (X : Cx) (g : G) (W : WX) (e : Expr) (m : M D) : Prop where
  ex : ∃ t, PE X e t ∧ EvF X.K g W t m
structure PTM (X : Cx) (g : G) (W : WX) (e : Expr) (m : M Bool) : Prop where
  ex : ∃ t, PT X e t ∧ EvB X.K g W t m
structure PWM (X : Cx) (g : G) (W : WX) (e : Expr) (m : M Bool) : Prop where
  ex : ∃ t, PW X e t ∧ EvB X.K g W t m
structure PAM (X : Cx) (g : G) (W : WX) (es : List Expr) (m : M (List D)) : Prop where
  ex : ∃ t, PA X es t ∧ EvL X.K g W t m

/-! ### new things -/
section
variable {K : PySem.W.Frag} {g : G} {W : WX} {env : En} {σ : L2.St} {Hf H : Hp} {p : Addr}
theorem new_lst {vs : List V} {ds : List D} (e : Ex Hf H) (hp : H p = none) (r : Reps K g Hf ds vs) : Grow Hf H (upd Hf p (.lst vs)) (upd H p (.lst vs)) ∧ Rep K g (upd Hf p (.lst vs)) (.lst ds) (.ref p) :=
  ⟨Grow.new e hp, .lst upd_same (r.mono (Ex.new (e.back hp)))⟩
theorem new_tup {vs : List V} {ds : List D} (e : Ex Hf H) (hp : H p = none) (r : Reps K g Hf ds vs) : Grow Hf H (upd Hf p (.tup vs)) (upd H p (.tup vs)) ∧ Rep K g (upd Hf p (.tup vs)) (.tup ds) (.ref p) :=
  ⟨Grow.new e hp, .tup (SqT.of upd_same) (r.mono (Ex.new (e.back hp)))⟩
/-- a new list kept for oneself -/
theorem own_new {u : HO} (e : Ex Hf H) (hp : H p = none) : Grow Hf H Hf (upd H p u) :=
  ⟨Ex.refl _, e.trans (Ex.new hp), Ex.new hp, fun _ _ _ h => h⟩
theorem Own.there (s : SR K g env σ Hf H) {a : Addr} (o : Own env σ a) : H a ≠ none := by
  obtain ⟨i, x, d, q1, q2, q3⟩ := o
  obtain ⟨p', u', c1, c2, _⟩ := s.at_ q1 q2
  rw [q3] at c1
  cases c1
  rw [c2]
  exact fun h => nomatch h
end
/-! ### names, constants -/
def mVar (i : Nat) : M D := fun env => match env[i]? with
  | some (.sh d) => .ok d env
  | some (.ow d) => if full d = true then .ok d (env.set i (.sh d)) else .bad
  | _ => .bad
section
variable {K : PySem.W.Frag} {g : G} {W : WX} {env : En} {σ : L2.St} {Hf H : Hp}
/-- a slot's own thing is shared from now on -/
theorem freeze_slot (s : SR K g env σ Hf H) {i : Nat} {d : D} (h : env[i]? = some (.ow d)) (f : full d = true) :
    ∃ p Hf', σ[i]? = some (some (.ref p)) ∧ Step K g env σ Hf H (env.set i (.sh d)) σ Hf' H ∧ Rep K g Hf' d (.ref p) := by
  obtain ⟨p, u, e1, e2, e3, r⟩ := s.at_ h rfl
  obtain ⟨x1, x2⟩ := grow_freeze s.ex e2 e3
  have hi : i < env.length := (List.getElem?_eq_some_iff.mp h).1
  have rr : Rep K g (upd Hf p u) d (.ref p) := (r.mono x1).rep upd_same f
  have set_ne : ∀ j (x : Sl), (env.set i (.sh d))[j]? = some x → (j = i ∧ x = .sh d) ∨ (j ≠ i ∧ env[j]? = some x) := fun j x q => by
    by_cases c : i = j
    · subst c
      rw [List.getElem?_set_self hi] at q
      exact .inl ⟨rfl, (Option.some.inj q).symm⟩
    · rw [List.getElem?_set_ne c] at q
      exact .inr ⟨fun z => c z.symm, q⟩
  have nep : ∀ (j : Nat) (x : Sl) (d' : D), j ≠ i → env[j]? = some x → x.mut = some d' → σ[j]? ≠ some (some (.ref p)) := fun j x d' c q m => s.ne i j _ x d d' p (fun z => c z.symm) h q rfl m e1
  refine ⟨p, upd Hf p u, e1, ⟨x1, ⟨x2, by rw [List.length_set]; exact s.len, fun j x o q q' => ?_, fun j k x y a b z n1 h1 h2 m1 m2 => ?_⟩, fun a v q q' no => ⟨q, ?_⟩, fun a o => ?_, fun a q => q, fun j z q => ?_, by rw [List.length_set]⟩, rr⟩
  · rcases set_ne j x q with ⟨rfl, rfl⟩ | ⟨c, q⟩
    · rw [e1] at q'
      cases q'
      exact ⟨_, rfl, rr⟩
    · have w := s.sl j x o q q'
      cases x with
      | no => trivial
      | sh d' => obtain ⟨v, e, r⟩ := w; exact ⟨v, e, r.mono x1⟩
      | ow d' => obtain ⟨z, w, e, h1, h2, r⟩ := w; exact ⟨z, w, e, h1, by rw [upd_ne (fun c' => nep j _ d' c q rfl (by rw [q', e, c']))]; exact h2, r.mono x1⟩
      | pn d' => obtain ⟨z, w, e, h1, h2, r⟩ := w; exact ⟨z, w, e, h1, by rw [upd_ne (fun c' => nep j _ d' c q rfl (by rw [q', e, c']))]; exact h2, r.mono x1⟩
  · rcases set_ne j x h1 with ⟨rfl, rfl⟩ | ⟨_, h1⟩
    · cases m1
    · rcases set_ne k y h2 with ⟨rfl, rfl⟩ | ⟨_, h2⟩
      · cases m2
      · exact s.ne j k x y a b z n1 h1 h2 m1 m2
  · rw [upd_ne (fun c => no ⟨i, _, d, h, rfl, by rw [e1, c]⟩)]
    exact q'
  · obtain ⟨j, x, d', q1, q2, q3⟩ := o
    rcases set_ne j x q1 with ⟨rfl, rfl⟩ | ⟨_, q1⟩
    · cases q2
    · exact .inl ⟨j, x, d', q1, q2, q3⟩
  · by_cases c : i = j
    · subst c
      rw [h] at q
      cases q
    · rw [List.getElem?_set_ne c]
      exact ⟨⟨z, q⟩, rfl⟩
theorem ev_var (i : Nat) : EvM K g W (tVar i) (mVar i) := by
  intro env σ Hf H s Q h
  unfold mVar at h
  revert h
  cases e : env[i]? with
  | none => exact fun h => h.elim
  | some x =>
    cases x with
    | no => exact fun h => h.elim
    | pn d => exact fun h => h.elim
    | sh d =>
      intro h
      obtain ⟨v, e1, r⟩ := s.sh_ e
      exact ⟨v, e1, h Hf H (Step.refl s) v r⟩
    | ow d =>
      dsimp only
      intro h
      by_cases c : full d = true
      · rw [if_pos c] at h
        obtain ⟨p, Hf', e1, st, r⟩ := freeze_slot s e c
        exact ⟨_, e1, h Hf' H st _ r⟩
      · rw [if_neg c] at h
        exact h.elim
theorem ev_c {d : D} {v : V} (r : ∀ Hf, Rep K g Hf d v) : EvM K g W (tC v) (ret d) := fun env σ Hf H s Q h => Aft.ret s h v (r Hf)
end
section
variable {X : Cx} {g : G} {W : WX}
theorem m_var (i : Nat) {x : Str} {pos : Pos} (hN : X.N[i]? = some x := by rfl) (hv : Vis X.env.scope x := by first | exact Or.inl rfl | exact Or.inr (Or.inl rfl) | exact Or.inr (Or.inr rfl)) (hd : (x == ("__debug__" : Str)) = false := by decide)
    (hcd : (x == ("__classdict__" : Str)) = false := by decide) : PEM X g W (.Name x pos) (mVar i) := ⟨_, pe_var hN hv hd hcd, ev_var i⟩
theorem m_int {i j pos} : PEM X g W (.Constant (.int i) j pos) (ret (.int i)) := ⟨_, pe_int, ev_c fun _ => .int i⟩
theorem m_bl {i j pos} : PEM X g W (.Constant (.bool i) j pos) (ret (.bl i)) := ⟨_, pe_bl, ev_c fun _ => .bl i⟩
theorem m_str {i j pos} : PEM X g W (.Constant (.str i) j pos) (ret (.str i)) := ⟨_, pe_str, ev_c fun _ => .str i⟩
theorem m_non {j pos} : PEM X g W (.Constant .none j pos) (ret .non) := ⟨_, pe_non, ev_c fun _ => .non⟩
/-- a name of the module: a number -/
theorem m_gint {x : Str} {i : Int} {pos : Pos} (hg : Gl X x) (hm : ∃ t, X.mg x = some (.int i t)) (hd : (x == ("__debug__" : Str)) = false := by decide) : PEM X g W (.Name x pos) (ret (.int i)) := by
  obtain ⟨t, hm⟩ := hm
  exact ⟨_, pe_glob (v := .int i) hg hm ⟨t, rfl⟩ hd, ev_c fun _ => .int i⟩
theorem m_gstr {x z : Str} {pos : Pos} (hg : Gl X x) (hm : ∃ t, X.mg x = some (.str z t)) (hd : (x == ("__debug__" : Str)) = false := by decide) : PEM X g W (.Name x pos) (ret (.str z)) := by
  obtain ⟨t, hm⟩ := hm
  exact ⟨_, pe_glob (v := .str z) hg hm ⟨t, rfl⟩ hd, ev_c fun _ => .str z⟩
end
/-! ### arithmetic -/
def addD : D → D → Option D
  | .int i, .int j => some (.int (i + j))
  | .str a, .str b => if a.length + b.length ≤ 16777216 then some (.str (a ++ b)) else none
  | .lst a, .lst b => if a.length + b.length ≤ 16777216 then some (.lst (a ++ b)) else none
  | .tup a, .tup b => if a.length + b.length ≤ 16777216 then some (.tup (a ++ b)) else none
  | _, _ => none
def subD : D → D → Option D
  | .int i, .int j => some (.int (i - j))
  | _, _ => none
def mulOk (i j : Int) : Bool := decide (i.natAbs.log2 + j.natAbs.log2 < 1000000)
def mulOk2 (i j : Int) : Bool := decide (i.natAbs < 2 ^ 64) || decide (j.natAbs < 2 ^ 64)
def mulD : D → D → Option D
  | .int i, .int j => if mulOk2 i j = true then some (.int (i * j)) else if mulOk i j = true then some (.int (i * j)) else none
  | .lst a, .int k => if -1000000 ≤ k ∧ k ≤ 1000000 ∧ a.length * k.toNat ≤ 16777216 then some (.lst (List.replicate k.toNat a).flatten) else none
  | .tup a, .int k => if k = 1 then some (.tup a) else if a ≠ [] ∧ -1000 ≤ k ∧ k ≤ 0 then some (.tup []) else if a ≠ [] ∧ 2 ≤ k ∧ k ≤ 1000 ∧ a.length ≤ 1000 then some (.tup (List.replicate k.toNat a).flatten) else none
  | _, _ => none
def divD : D → D → Option D
  | .int i, .int j => if 0 < j ∧ j.natAbs.log2 < 9000 then some (.int (i / j)) else none
  | _, _ => none
def modD : D → D → Option D
  | .int i, .int j => if 0 < j then some (.int (i % j)) else none
  | _, _ => none
def powD : D → D → Option D
  | .int i, .int j => if 0 ≤ j ∧ j ≤ 1000 ∧ i.natAbs < 2 ^ 64 then some (.int (i ^ j.toNat)) else none
  | _, _ => none
section
variable {K : PySem.W.Frag} {g : G} {W : WX}
def rAddU (K : PySem.W.Frag) : R2 := fun x y H Q => rI0 (fun i j => .int (i + j)) x y H Q ∨ ((∃ i j, x = .str i ∧ y = .str j ∧ i.length + j.length ≤ sizeLine ∧ Q (.str (i ++ j)) H) ∨ (rCat x y H Q ∨ rCatA K x y H Q))
theorem rv_add : RvOk K g (rAddU K) addD := by
  intro Hf H x y dx dy Q e rx ry h
  cases rx <;> cases ry <;> try exact (show False from h).elim
  case int.int i j => exact .inl ⟨i, j, rfl, rfl, h _ Hf H (Grow.refl e) (.int _)⟩
  case str.str a b =>
    dsimp only [addD] at h
    split at h
    · rename_i z hz
      split at hz
      · rename_i c
        cases hz
        exact .inr (.inl ⟨a, b, rfl, rfl, by rw [sizeLine_eq]; exact c, h _ Hf H (Grow.refl e) (.str _)⟩)
      · cases hz
    · exact h.elim
  case lst.lst a ds vs h1 r1 b es ws h2 r2 =>
    dsimp only [addD] at h
    split at h
    · rename_i z hz
      split at hz
      · rename_i c
        cases hz
        refine .inr (.inr (.inl ⟨_, _, _, _, rfl, rfl, e _ _ h1, e _ _ h2, by rw [sizeLine_eq, ← r1.len, ← r2.len]; exact c, fun p hp => ?_⟩))
        obtain ⟨w, r⟩ := new_lst e hp (r1.append r2)
        exact h _ _ _ w r
      · cases hz
    · exact h.elim
  case tup.tup a ds vs h1 r1 b es ws h2 r2 =>
    dsimp only [addD] at h
    split at h
    · rename_i z hz
      split at hz
      · rename_i c
        cases hz
        refine .inr (.inr (.inr ⟨_, _, _, _, rfl, rfl, e.t h1, e.t h2, by rw [sizeLine_eq, ← r1.len, ← r2.len]; exact c, fun q => ?_, fun _ q => ?_, fun _ _ p hp => ?_⟩))
        · subst q; cases r1
          rw [List.nil_append] at h
          exact h _ Hf H (Grow.refl e) (.tup h2 r2)
        · subst q; cases r2
          rw [List.append_nil] at h
          exact h _ Hf H (Grow.refl e) (.tup h1 r1)
        · obtain ⟨w, r⟩ := new_tup e hp (r1.append r2)
          exact h _ _ _ w r
      · cases hz
    · exact h.elim
theorem rv_sub : RvOk K g (rI0 fun i j => .int (i - j)) subD := by
  intro Hf H x y dx dy Q e rx ry h
  cases rx <;> cases ry <;> try exact (show False from h).elim
  case int.int i j => exact ⟨i, j, rfl, rfl, h _ Hf H (Grow.refl e) (.int _)⟩
theorem rv_intc {C : Int → Int → Prop} {f : Int → Int → Int} {c : Int → Int → Prop} [∀ i j, Decidable (c i j)] {F : D → D → Option D} (hc : ∀ i j, c i j → C i j)
    (h1 : ∀ i j, F (.int i) (.int j) = if c i j then some (.int (f i j)) else none) (h2 : ∀ a b z, F a b = some z → ∃ i j, a = .int i ∧ b = .int j) : RvOk K g (rI C fun i j => .int (f i j)) F := by
  intro Hf H x y dx dy Q e rx ry h
  cases hz : F dx dy with
  | none => rw [hz] at h; exact h.elim
  | some z =>
    obtain ⟨i, j, rfl, rfl⟩ := h2 _ _ _ hz
    rw [hz] at h
    rw [h1] at hz
    cases rx
    cases ry
    split at hz
    · rename_i q
      cases hz
      exact ⟨i, j, rfl, rfl, hc _ _ q, h _ Hf H (Grow.refl e) (.int _)⟩
    · cases hz
theorem rv_div : RvOk K g (rI CDivW fun i j => .int (i / j)) divD := rv_intc (c := fun i j => 0 < j ∧ j.natAbs.log2 < 9000) (fun _ _ h => h) (fun _ _ => rfl) fun a b z h => by
  cases a <;> cases b <;> simp [divD] at h <;> exact ⟨_, _, rfl, rfl⟩
theorem rv_mod : RvOk K g (rI (fun _ j => 0 < j) fun i j => .int (i % j)) modD := rv_intc (c := fun i j => 0 < j) (fun _ _ h => h) (fun _ _ => rfl) fun a b z h => by
  cases a <;> cases b <;> simp [modD] at h <;> exact ⟨_, _, rfl, rfl⟩
theorem rv_pow : RvOk K g (rI CPow fun i j => .int (i ^ j.toNat)) powD := rv_intc (c := fun i j => 0 ≤ j ∧ j ≤ 1000 ∧ i.natAbs < 2 ^ 64) (fun _ _ h => ⟨h.1, by have := h.2.1; omega, h.2.2⟩) (fun _ _ => rfl) fun a b z h => by
  cases a <;> cases b <;> simp [powD] at h <;> exact ⟨_, _, rfl, rfl⟩
theorem Reps.rep {Hf : Hp} {ds : List D} {vs : List V} (r : Reps K g Hf ds vs) : ∀ k : Nat, Reps K g Hf (List.replicate k ds).flatten (List.replicate k vs).flatten
  | 0 => .nil
  | k + 1 => by
    rw [List.replicate_succ, List.replicate_succ, List.flatten_cons, List.flatten_cons]
    exact r.append (Reps.rep r k)
def rMulU (K : PySem.W.Frag) : R2 := fun x y H Q => rI CMulW (fun i j => .int (i * j)) x y H Q ∨ (rI CMul (fun i j => .int (i * j)) x y H Q ∨ (rRep x y H Q ∨ (rRepT K x y H Q ∨ rRepS K x y H Q)))
theorem mulOk2_ok {i j : Int} (c : mulOk2 i j = true) : CMul i j := by
  unfold mulOk2 at c
  rw [Bool.or_eq_true] at c
  rcases c with c | c
  · have := of_decide_eq_true c
    exact .inl ⟨by omega, by omega⟩
  · have := of_decide_eq_true c
    exact .inr ⟨by omega, by omega⟩
theorem rv_mul : RvOk K g (rMulU K) mulD := by
  intro Hf H x y dx dy Q e rx ry h
  cases rx <;> cases ry <;> try exact (show False from h).elim
  case int.int i j =>
    dsimp only [mulD] at h
    by_cases c : mulOk2 i j = true
    · rw [if_pos c] at h
      exact .inr (.inl ⟨i, j, rfl, rfl, mulOk2_ok c, h _ Hf H (Grow.refl e) (.int _)⟩)
    · rw [if_neg c] at h
      by_cases c : mulOk i j = true
      · rw [if_pos c] at h
        exact .inl ⟨i, j, rfl, rfl, of_decide_eq_true (p := i.natAbs.log2 + j.natAbs.log2 < 1000000) c, h _ Hf H (Grow.refl e) (.int _)⟩
      · rw [if_neg c] at h
        exact h.elim
  case lst.int a ds vs h1 r1 k =>
    dsimp only [mulD] at h
    split at h
    · rename_i z hz
      split at hz
      · rename_i c
        cases hz
        refine .inr (.inr (.inl ⟨_, k, _, rfl, rfl, e _ _ h1, by omega, by omega, by rw [sizeLine_eq, ← r1.len]; exact c.2.2, fun p hp => ?_⟩))
        obtain ⟨w, r⟩ := new_lst e hp (r1.rep k.toNat)
        exact h _ _ _ w r
      · cases hz
    · exact h.elim
  case tup.int a ds vs h1 r1 k =>
    dsimp only [mulD] at h
    by_cases c : k = 1
    · rw [if_pos c] at h
      exact .inr (.inr (.inr (.inr ⟨_, k, _, rfl, rfl, e.t h1, by omega, .inl ⟨c, h _ Hf H (Grow.refl e) (.tup h1 r1)⟩⟩)))
    · rw [if_neg c] at h
      by_cases c0 : ds ≠ [] ∧ -1000 ≤ k ∧ k ≤ 0
      · rw [if_pos c0] at h
        refine .inr (.inr (.inr (.inr ⟨_, k, _, rfl, rfl, e.t h1, c0.2.1, .inr ⟨fun q => ?_, c0.2.2, fun p hp => ?_⟩⟩)))
        · subst q; cases r1; exact c0.1 rfl
        · obtain ⟨w, r⟩ := new_tup (K := K) (g := g) e hp .nil
          exact h _ _ _ w r
      · rw [if_neg c0] at h
        by_cases c : ds ≠ [] ∧ 2 ≤ k ∧ k ≤ 1000 ∧ ds.length ≤ 1000
        · rw [if_pos c] at h
          refine .inr (.inr (.inr (.inl ⟨_, k, _, rfl, rfl, e.t h1, fun q => ?_, c.2.1, c.2.2.1, by rw [← r1.len]; exact c.2.2.2, fun p hp => ?_⟩)))
          · subst q; cases r1; exact c.1 rfl
          · obtain ⟨w, r⟩ := new_tup e hp (r1.rep k.toNat)
            exact h _ _ _ w r
        · rw [if_neg c] at h
          exact h.elim
end
def mBin (f : D → D → Option D) (a b : M D) : M D := bnd a fun x => bnd b fun y => lft (f x y)
def mUn (f : D → Option D) (a : M D) : M D := bnd a fun x => lft (f x)
def negD : D → Option D
  | .int i => some (.int (-i))
  | _ => none
section
variable {X : Cx} {g : G} {W : WX} {a b : Expr} {ma mb : M D} {pos : Pos}
theorem m_bin {op : Operator} {r : R2} {f : D → D → Option D} (ho : OpR X (binaryOp op) r) (hr : RvOk X.K g r f) (ha : PEM X g W a ma) (hb : PEM X g W b mb) : PEM X g W (.BinOp a op b pos) (mBin f ma mb) := by
  obtain ⟨ta, h1, h2⟩ := ha
  obtain ⟨tb, h3, h4⟩ := hb
  exact ⟨_, pe_op ho h1 h3, hr.ev h2 h4⟩
theorem m_add (ha : PEM X g W a ma) (hb : PEM X g W b mb) : PEM X g W (.BinOp a .Add b pos) (mBin addD ma mb) := m_bin (op_add.or (op_add_str.or (op_cat.or op_catA))) rv_add ha hb
theorem m_sub (ha : PEM X g W a ma) (hb : PEM X g W b mb) : PEM X g W (.BinOp a .Sub b pos) (mBin subD ma mb) := m_bin op_sub rv_sub ha hb
theorem m_mul (ha : PEM X g W a ma) (hb : PEM X g W b mb) : PEM X g W (.BinOp a .Mult b pos) (mBin mulD ma mb) := m_bin (op_mulW.or (op_mul.or (op_rep.or (op_repT.or op_repS)))) rv_mul ha hb
theorem m_div (ha : PEM X g W a ma) (hb : PEM X g W b mb) : PEM X g W (.BinOp a .FloorDiv b pos) (mBin divD ma mb) := m_bin op_fdivW rv_div ha hb
theorem m_mod (ha : PEM X g W a ma) (hb : PEM X g W b mb) : PEM X g W (.BinOp a .Mod b pos) (mBin modD ma mb) := m_bin op_mod rv_mod ha hb
theorem m_pow (ha : PEM X g W a ma) (hb : PEM X g W b mb) : PEM X g W (.BinOp a .Pow b pos) (mBin powD ma mb) := m_bin op_pow rv_pow ha hb
theorem m_un {op : UnaryOp} {r : V → Hp → VK → Prop} {f : D → Option D} (ho : UnR X (unaryOp op) r) (hr : RuOk X.K g r f) (ha : PEM X g W a ma) : PEM X g W (.UnaryOp op a pos) (mUn f ma) := by
  obtain ⟨ta, h1, h2⟩ := ha
  exact ⟨_, pe_un ho h1, hr.ev h2⟩
theorem m_neg (ha : PEM X g W a ma) : PEM X g W (.UnaryOp .USub a pos) (mUn negD ma) := m_un un_neg (fun Hf H x dx Q e rx h => by
  cases rx <;> try exact (show False from h).elim
  case int i => exact ⟨i, rfl, h _ Hf H (Grow.refl e) (.int _)⟩) ha
end
end DL

set_option Elab.async false
set_option linter.all false
set_option maxRecDepth 100000
set_option maxHeartbeats 400000
namespace DL
open PySem L2
/-! ### lists of arguments, displays -/
def mNil : M (List D) := ret []
def mCons (a : M D) (b : M (List D)) : M (List D) := bnd a fun x => bnd b fun xs => ret (x :: xs)
def small (n : Nat) : Bool := decide (n ≤ 16777216)
def mTup (a : M (List D)) : M D := bnd a fun xs => lft (if small xs.length = true then some (.tup xs) else none)
def mLst (a : M (List D)) : M D := bnd a fun xs => lft (if small xs.length = true then some (.lst xs) else none)
section
variable {K : PySem.W.Frag} {g : G} {W : WX}
theorem ev_nil : EvL K g W tNil mNil := fun env σ Hf H s Q h => Aft.ret s h [] .nil
theorem ev_cons {ta : TE} {tr : TA} {a : M D} {b : M (List D)} (ha : EvM K g W ta a) (hb : EvL K g W tr b) : EvL K g W (tCons ta tr) (mCons a b) :=
  fun env σ Hf H s Q h => ha env σ Hf H s _ (h.bnd.imp fun x e1 Hf1 H1 _ s1 h1 v r1 => hb e1 σ Hf1 H1 s1.sr _ (h1.bnd.imp fun xs e2 Hf2 H2 _ s2 h2 vs r2 => Aft.ret s2.sr h2 (v :: vs) (.cons (r1.mono s2.f) r2)))
theorem small_le {n : Nat} (h : small n = true) : n ≤ sizeLine := by
  rw [sizeLine_eq]
  exact of_decide_eq_true h
theorem lft_if {α : Type} {c : Prop} [Decidable c] {z : α} {env : En} {σ : L2.St} {Hf H : Hp} {P : α → En → Hp → Hp → Prop} (s : SR K g env σ Hf H) (h : Aft K g W env σ Hf H (DL.lft (if c then some z else none) env) P) :
    c ∧ ∀ Hf' H', Grow Hf H Hf' H' → P z env Hf' H' := by
  obtain ⟨a, ha, k⟩ := Aft.lft s h
  split at ha
  · rename_i q
    cases ha
    exact ⟨q, k⟩
  · cases ha
theorem ev_tup {ta : TA} {a : M (List D)} (ha : EvL K g W ta a) : EvM K g W (tTup ta) (mTup a) :=
  fun env σ Hf H s Q h => ha env σ Hf H s _ (h.bnd.imp fun xs e1 Hf1 H1 _ s1 h1 vs r1 => by
    obtain ⟨c, k⟩ := lft_if s1.sr h1
    refine ⟨by rw [← r1.len]; exact small_le c, fun p hp => ?_⟩
    obtain ⟨w, r⟩ := new_tup s1.sr.ex hp r1
    exact k _ _ w _ r)
theorem ev_lst {ta : TA} {a : M (List D)} (ha : EvL K g W ta a) : EvM K g W (tLst ta) (mLst a) :=
  fun env σ Hf H s Q h => ha env σ Hf H s _ (h.bnd.imp fun xs e1 Hf1 H1 _ s1 h1 vs r1 => by
    obtain ⟨c, k⟩ := lft_if s1.sr h1
    refine ⟨by rw [← r1.len]; exact small_le c, fun p hp => ?_⟩
    obtain ⟨w, r⟩ := new_lst s1.sr.ex hp r1
    exact k _ _ w _ r)
theorem new_own {env e1 : En} {σ : L2.St} {Hf H Hf1 H1 : Hp} (s1 : Step K g env σ Hf H e1 σ Hf1 H1) {p : Addr} (hp : H1 p = none) {u : HO} {d : D} (r : RepO K g Hf1 d u) : New K g e1 σ H Hf1 (upd H1 p u) d p :=
  ⟨⟨u, upd_same, r⟩, s1.sr.ex.back hp, fun o => Own.there s1.sr o hp, s1.th p hp⟩
theorem evf_lst {ta : TA} {a : M (List D)} (ha : EvL K g W ta a) : EvF K g W (tLst ta) (mLst a) :=
  fun env σ Hf H s Q h => ha env σ Hf H s _ (h.bnd.imp fun xs e1 Hf1 H1 _ s1 h1 vs r1 => by
    obtain ⟨c, k⟩ := lft_if s1.sr h1
    refine ⟨by rw [← r1.len]; exact small_le c, fun p hp => ?_⟩
    exact k Hf1 _ (own_new s1.sr.ex hp) p (new_own s1 hp (.lst r1)))
end
section
variable {X : Cx} {g : G} {W : WX} {e : Expr} {es : List Expr} {a : M D} {b : M (List D)} {pos : Pos}
theorem a_nil : PAM X g W [] mNil := ⟨_, pa_nil, ev_nil⟩
theorem a_cons (ha : PEM X g W e a) (hb : PAM X g W es b) (hs : starEach (e :: es) X.env = (false, eval e X.env) :: starEach es X.env := by rfl) : PAM X g W (e :: es) (mCons a b) := by
  obtain ⟨t, h1, h2⟩ := ha
  obtain ⟨u, h3, h4⟩ := hb
  exact ⟨_, pa_cons h1 h3 hs, ev_cons h2 h4⟩
theorem m_tup {x1} (h : PAM X g W es b) : PEM X g W (.Tuple es x1 pos) (mTup b) := by
  obtain ⟨t, h1, h2⟩ := h
  exact ⟨_, pe_tup h1, ev_tup h2⟩
theorem m_lst (h : PAM X g W es b) : PEM X g W (.List es pos) (mLst b) := by
  obtain ⟨t, h1, h2⟩ := h
  exact ⟨_, pe_lst h1, ev_lst h2⟩
theorem f_lst (h : PAM X g W es b) : PEF X g W (.List es pos) (mLst b) := by
  obtain ⟨t, h1, h2⟩ := h
  exact ⟨_, pe_lst h1, evf_lst h2⟩
end
/-! ### tests -/
def mB (m : M D) : M Bool := bnd m fun x => lft (match x with
  | .bl b => some b
  | _ => none)
def mAnd (a b : M Bool) : M Bool := bnd a fun x => if x = true then b else ret false
def mOr (a b : M Bool) : M Bool := bnd a fun x => if x = true then ret true else b
def mNot (a : M Bool) : M Bool := bnd a fun x => ret (!x)
def mBv (m : M Bool) : M D := bnd m fun x => ret (.bl x)
def mIf (c : M Bool) (a b : M D) : M D := bnd c fun x => if x = true then a else b
/-- truth of any value -/
def truD : D → Option Bool
  | .non => some false
  | .bl b => some b
  | .int i => some (i != 0)
  | .str y => if small y.length = true then some ((y.length : Int) != 0) else none
  | .lst xs => some (!xs.isEmpty)
  | .tup xs => some (!xs.isEmpty)
  | _ => none
def mTru (m : M D) : M Bool := bnd m fun x => lft (truD x)
section
variable {K : PySem.W.Frag} {g : G} {W : WX}
theorem ev_B {te : TE} {m : M D} (h : EvM K g W te m) : EvB K g W (tB te) (mB m) :=
  fun env σ Hf H s Q q => h env σ Hf H s _ (q.bnd.imp fun x e1 Hf1 H1 _ s1 h1 v r1 => by
    obtain ⟨b, hb, k⟩ := Aft.lft s1.sr h1
    cases r1 <;> try (cases hb; done)
    case bl b' => cases hb; exact ⟨_, rfl, k Hf1 H1 (Grow.refl s1.sr.ex)⟩)
theorem ev_Test {te : TE} {m : M D} (h : EvM K g W te m) : EvB K g W (tTest te) (mB m) := ev_B h
theorem ev_and {t u : TT} {a b : M Bool} (ha : EvB K g W t a) (hb : EvB K g W u b) : EvB K g W (tAnd t u) (mAnd a b) :=
  fun env σ Hf H s Q q => ha env σ Hf H s _ (q.bnd.imp fun x e1 Hf1 H1 _ s1 h1 => by
    cases x with
    | true => exact hb e1 σ Hf1 H1 s1.sr Q h1
    | false => exact Aft.ret s1.sr h1)
theorem ev_or {t u : TT} {a b : M Bool} (ha : EvB K g W t a) (hb : EvB K g W u b) : EvB K g W (tOr t u) (mOr a b) :=
  fun env σ Hf H s Q q => ha env σ Hf H s _ (q.bnd.imp fun x e1 Hf1 H1 _ s1 h1 => by
    cases x with
    | true => exact Aft.ret s1.sr h1
    | false => exact hb e1 σ Hf1 H1 s1.sr Q h1)
theorem ev_not {t : TT} {a : M Bool} (ha : EvB K g W t a) : EvB K g W (tNot t) (mNot a) :=
  fun env σ Hf H s Q q => ha env σ Hf H s _ (q.bnd.imp fun x e1 Hf1 H1 _ s1 h1 => Aft.ret s1.sr h1)
theorem ev_if {t : TT} {ta tb : TE} {c : M Bool} {a b : M D} (hc : EvB K g W t c) (ha : EvM K g W ta a) (hb : EvM K g W tb b) : EvM K g W (tIf t ta tb) (mIf c a b) :=
  fun env σ Hf H s Q q => hc env σ Hf H s _ (q.bnd.imp fun x e1 Hf1 H1 _ s1 h1 => by
    cases x with
    | true => exact ha e1 σ Hf1 H1 s1.sr Q h1
    | false => exact hb e1 σ Hf1 H1 s1.sr Q h1)
/-- and, or as values of bools -/
theorem ev_andV {ta tb : TE} {a b : M D} (ha : EvM K g W ta a) (hb : EvM K g W tb b) : EvM K g W (tAndV ta tb) (bnd (mB a) fun x => if x = true then b else ret (.bl false)) :=
  fun env σ Hf H s Q q => ha env σ Hf H s _ ((q.bnd).bnd.imp fun x e1 Hf1 H1 _ s1 h1 v r1 => by
    obtain ⟨c, hb', k⟩ := Aft.lft s1.sr h1
    cases r1 <;> try (cases hb'; done)
    case bl b' =>
      cases hb'
      refine ⟨_, rfl, ?_⟩
      have z := k Hf1 H1 (Grow.refl s1.sr.ex)
      cases c with
      | true => exact hb e1 σ Hf1 H1 s1.sr Q z
      | false => exact Aft.ret s1.sr z _ (.bl false))
theorem ev_orV {ta tb : TE} {a b : M D} (ha : EvM K g W ta a) (hb : EvM K g W tb b) : EvM K g W (tOrV ta tb) (bnd (mB a) fun x => if x = true then ret (.bl true) else b) :=
  fun env σ Hf H s Q q => ha env σ Hf H s _ ((q.bnd).bnd.imp fun x e1 Hf1 H1 _ s1 h1 v r1 => by
    obtain ⟨c, hb', k⟩ := Aft.lft s1.sr h1
    cases r1 <;> try (cases hb'; done)
    case bl b' =>
      cases hb'
      refine ⟨_, rfl, ?_⟩
      have z := k Hf1 H1 (Grow.refl s1.sr.ex)
      cases c with
      | true => exact Aft.ret s1.sr z _ (.bl true)
      | false => exact hb e1 σ Hf1 H1 s1.sr Q z)
theorem ev_notV {ta : TE} {a : M D} (ha : EvM K g W ta a) : EvM K g W (tNotV ta) (mBv (mNot (mB a))) :=
  fun env σ Hf H s Q q => ha env σ Hf H s _ ((q.bnd).bnd.bnd.imp fun x e1 Hf1 H1 _ s1 h1 v r1 => by
    obtain ⟨c, hb', k⟩ := Aft.lft s1.sr h1
    cases r1 <;> try (cases hb'; done)
    case bl b' =>
      cases hb'
      have z := k Hf1 H1 (Grow.refl s1.sr.ex)
      exact ⟨_, rfl, Aft.ret s1.sr (Aft.ret s1.sr z) _ (.bl _)⟩)
theorem tru_of {Hf H : Hp} {d : D} {v : V} {b : Bool} (e : Ex Hf H) (r : Rep K g Hf d v) (h : truD d = some b) : TruV K v H b := by
  cases r <;> try (cases h; done)
  case non => cases h; rfl
  case bl => cases h; rfl
  case int => cases h; rfl
  case str y =>
    dsimp only [truD] at h
    split at h
    · rename_i c; cases h; exact ⟨small_le c, rfl⟩
    · cases h
  case lst a ds vs h1 r1 =>
    cases h
    refine .inl ⟨vs, SqL.of (e _ _ h1), ?_⟩
    cases r1 <;> rfl
  case tup a ds vs h1 r1 =>
    cases h
    refine .inr (.inl ⟨vs, e.t h1, ?_⟩)
    cases r1 <;> rfl
theorem ev_Tru {ta : TE} {a : M D} (ha : EvM K g W ta a) : EvB K g W (fun σ H Q => ta σ H fun x H' => ∃ k, TruV K x H' k ∧ Q k H') (mTru a) :=
  fun env σ Hf H s Q q => ha env σ Hf H s _ (q.bnd.imp fun x e1 Hf1 H1 _ s1 h1 v r1 => by
    obtain ⟨b, hb, k⟩ := Aft.lft s1.sr h1
    exact ⟨b, tru_of s1.sr.ex r1 hb, k Hf1 H1 (Grow.refl s1.sr.ex)⟩)
end
section
variable {X : Cx} {g : G} {W : WX} {a b c : Expr} {ma mb : M D} {ta tb : M Bool} {rest : List Expr} {pos : Pos}
theorem t_tru {e : Expr} {m : M D} (h : PEM X g W e m) (he : ∀ whole, isTrue e X.env whole = (do let v ← whole; standAt e.pos; holding [v] (truthy v)) := by intro _; rfl) : PTM X g W e (mTru m) := by
  obtain ⟨t, h1, h2⟩ := h
  exact ⟨_, pt_truth h1 he, ev_Tru h2⟩
theorem t_cmp {op : CmpOp} {r : R2} {f : D → D → Option D} (ho : OpR X (compareOp op) r) (hr : RvOk X.K g r f) (ha : PEM X g W a ma) (hb : PEM X g W b mb) (hm : behindInMarks op b = false) : PTM X g W (.Compare a [op] [b] pos) (mB (mBin f ma mb)) := by
  obtain ⟨ta, h1, h2⟩ := ha
  obtain ⟨tb, h3, h4⟩ := hb
  exact ⟨_, pt_cmpR ho h1 h3 hm, ev_Test (hr.ev h2 h4)⟩
theorem m_cmp {op : CmpOp} {r : R2} {f : D → D → Option D} (ho : OpR X (compareOp op) r) (hr : RvOk X.K g r f) (ha : PEM X g W a ma) (hb : PEM X g W b mb) (hm : behindInMarks op b = false) : PEM X g W (.Compare a [op] [b] pos) (mBin f ma mb) := by
  obtain ⟨ta, h1, h2⟩ := ha
  obtain ⟨tb, h3, h4⟩ := hb
  exact ⟨_, pe_cmpR ho h1 h3 hm, hr.ev h2 h4⟩
theorem w_and1 (h : PTM X g W a ta) : PWM X g W (.BoolOp .And [a] pos) ta := by obtain ⟨t, h1, h2⟩ := h; exact ⟨_, pw_and1 h1, h2⟩
theorem w_or1 (h : PTM X g W a ta) : PWM X g W (.BoolOp .Or [a] pos) ta := by obtain ⟨t, h1, h2⟩ := h; exact ⟨_, pw_or1 h1, h2⟩
theorem w_and (h : PTM X g W a ta) (k : PWM X g W (.BoolOp .And (b :: rest) pos) tb) : PWM X g W (.BoolOp .And (a :: b :: rest) pos) (mAnd ta tb) := by
  obtain ⟨t, h1, h2⟩ := h
  obtain ⟨u, h3, h4⟩ := k
  exact ⟨_, pw_and h1 h3, ev_and h2 h4⟩
theorem w_or (h : PTM X g W a ta) (k : PWM X g W (.BoolOp .Or (b :: rest) pos) tb) : PWM X g W (.BoolOp .Or (a :: b :: rest) pos) (mOr ta tb) := by
  obtain ⟨t, h1, h2⟩ := h
  obtain ⟨u, h3, h4⟩ := k
  exact ⟨_, pw_or h1 h3, ev_or h2 h4⟩
theorem PWM.t {e : Expr} {m : M Bool} (h : PWM X g W e m) : PTM X g W e m := by obtain ⟨t, h1, h2⟩ := h; exact ⟨_, h1.pt, h2⟩
theorem t_not (h : PTM X g W a ta) : PTM X g W (.UnaryOp .Not a pos) (mNot ta) := by obtain ⟨t, h1, h2⟩ := h; exact ⟨_, pt_not h1, ev_not h2⟩
theorem m_not (h : PEM X g W a ma) : PEM X g W (.UnaryOp .Not a pos) (mBv (mNot (mB ma))) := by obtain ⟨t, h1, h2⟩ := h; exact ⟨_, pe_not h1, ev_notV h2⟩
theorem m_one {op} (h : PEM X g W a ma) : PEM X g W (.BoolOp op [a] pos) ma := by obtain ⟨t, h1, h2⟩ := h; exact ⟨_, pe_one h1, h2⟩
theorem m_and (h : PEM X g W a ma) (k : PEM X g W (.BoolOp .And (b :: rest) pos) mb) : PEM X g W (.BoolOp .And (a :: b :: rest) pos) (bnd (mB ma) fun x => if x = true then mb else ret (.bl false)) := by
  obtain ⟨t, h1, h2⟩ := h
  obtain ⟨u, h3, h4⟩ := k
  exact ⟨_, pe_and h1 h3, ev_andV h2 h4⟩
theorem m_or (h : PEM X g W a ma) (k : PEM X g W (.BoolOp .Or (b :: rest) pos) mb) : PEM X g W (.BoolOp .Or (a :: b :: rest) pos) (bnd (mB ma) fun x => if x = true then ret (.bl true) else mb) := by
  obtain ⟨t, h1, h2⟩ := h
  obtain ⟨u, h3, h4⟩ := k
  exact ⟨_, pe_or h1 h3, ev_orV h2 h4⟩
theorem m_ifx {tc : M Bool} (hc : PTM X g W c tc) (ha : PEM X g W a ma) (hb : PEM X g W b mb) : PEM X g W (.IfExp c a b pos) (mIf tc ma mb) := by
  obtain ⟨t, h1, h2⟩ := hc
  obtain ⟨u, h3, h4⟩ := ha
  obtain ⟨w, h5, h6⟩ := hb
  exact ⟨_, pe_ifExp h1 h3 h5, ev_if h2 h4 h6⟩
end
/-! ### data, == -/
mutual
def toPD : D → Option PyData
  | .non => some .none
  | .bl b => some (.bool b)
  | .int i => some (.int i)
  | .str x => some (.str x)
  | .lst xs => (toPDs xs).map .list
  | .tup xs => (toPDs xs).map .tuple
  | _ => none
def toPDs : List D → Option (List PyData)
  | [] => some []
  | x :: xs => match toPD x, toPDs xs with
    | some y, some ys => some (y :: ys)
    | _, _ => none
end
section
variable {K : PySem.W.Frag} {g : G} {H H' : Hp}
mutual
theorem Rep.dp (e : Ex H H') : ∀ {d : D} {v : V} {p : PyData}, Rep K g H d v → toPD d = some p → Dp K H' v p
  | _, _, _, .non, h => by cases h; exact .non
  | _, _, _, .bl b, h => by cases h; exact .bl b
  | _, _, _, .int b, h => by cases h; exact .int b
  | _, _, _, .str b, h => by cases h; exact .str b
  | _, _, _, .lst (ds := ds) a r, h => by
    unfold toPD at h
    cases q : toPDs ds with
    | none => rw [q] at h; cases h
    | some ys => rw [q] at h; cases h; exact .lst (SqL.of (e _ _ a)) (Reps.dp e r q)
  | _, _, _, .tup (ds := ds) a r, h => by
    unfold toPD at h
    cases q : toPDs ds with
    | none => rw [q] at h; cases h
    | some ys => rw [q] at h; cases h; exact .tup (e.t a) (Reps.dp e r q)
  | _, _, _, .ty _, h => by cases h
  | _, _, _, .scr _, h => by cases h
  | _, _, _, .dic _ _ _, h => by cases h
  | _, _, _, .dct _ _ _, h => by cases h
  | _, _, _, .ins _ _ _ _, h => by cases h
  | _, _, _, .opq _ _, h => by cases h
theorem Reps.dp (e : Ex H H') : ∀ {d : List D} {v : List V} {p : List PyData}, Reps K g H d v → toPDs d = some p → DpAll K H' v p
  | _, _, _, .nil, h => by cases h; exact .nil
  | _, _, _, .cons (d := x) (ds := xs) a b, h => by
    unfold toPDs at h
    cases q1 : toPD x with
    | none => rw [q1] at h; cases h
    | some y =>
      cases q2 : toPDs xs with
      | none => rw [q1, q2] at h; cases h
      | some ys => rw [q1, q2] at h; cases h; exact .cons (Rep.dp e a q1) (Reps.dp e b q2)
end
end
def eqB (a b : D) : Option Bool := match toPD a, toPD b with
  | some x, some y => if SeqAt.shaped x = true ∧ SeqAt.shaped y = true then some (PyData.eqv x y) else none
  | _, _ => none
def eqD (a b : D) : Option D := (eqB a b).map .bl
def neD (a b : D) : Option D := (eqB a b).map fun k => .bl (!k)
def cmpD (f : Int → Int → Bool) : D → D → Option D
  | .int i, .int j => some (.bl (f i j))
  | _, _ => none
def isND (neg : Bool) : D → D → Option D
  | .non, .non => some (.bl (!neg))
  | .dic _ _, .non => none
  | .opq, .non => none
  | .ty _, .non => some (.bl neg)
  | _, .non => some (.bl neg)
  | _, _ => none
section
variable {K : PySem.W.Frag} {g : G}
theorem eqB_some {a b : D} {k : Bool} (h : eqB a b = some k) : ∃ x y, toPD a = some x ∧ toPD b = some y ∧ SeqAt.shaped x = true ∧ SeqAt.shaped y = true ∧ k = PyData.eqv x y := by
  unfold eqB at h
  cases q1 : toPD a with
  | none => rw [q1] at h; cases h
  | some x =>
    cases q2 : toPD b with
    | none => rw [q1, q2] at h; cases h
    | some y =>
      rw [q1, q2] at h
      dsimp only at h
      split at h
      · rename_i c; cases h; exact ⟨x, y, rfl, rfl, c.1, c.2, rfl⟩
      · cases h
theorem rv_eq : RvOk K g (rEqD K) eqD := by
  intro Hf H x y dx dy Q e rx ry h
  unfold eqD at h
  cases q : eqB dx dy with
  | none => rw [q] at h; exact h.elim
  | some k =>
    rw [q] at h
    obtain ⟨a, b, h1, h2, h3, h4, rfl⟩ := eqB_some q
    exact ⟨a, b, rx.dp e h1, ry.dp e h2, h3, h4, h _ Hf H (Grow.refl e) (.bl _)⟩
theorem rv_ne : RvOk K g (rNeD K) neD := by
  intro Hf H x y dx dy Q e rx ry h
  unfold neD at h
  cases q : eqB dx dy with
  | none => rw [q] at h; exact h.elim
  | some k =>
    rw [q] at h
    obtain ⟨a, b, h1, h2, h3, h4, rfl⟩ := eqB_some q
    exact ⟨a, b, rx.dp e h1, ry.dp e h2, h3, h4, h _ Hf H (Grow.refl e) (.bl _)⟩
theorem rv_cmp (f : Int → Int → Bool) : RvOk K g (rI0 fun i j => .bl (f i j)) (cmpD f) := by
  intro Hf H x y dx dy Q e rx ry h
  cases rx <;> cases ry <;> try exact (show False from h).elim
  case int.int i j => exact ⟨i, j, rfl, rfl, h _ Hf H (Grow.refl e) (.bl _)⟩
theorem rv_isN : RvOk K g (fun x y H Q => y = .non ∧ Q (.bl (decide (x = .non))) H) (isND false) := by
  intro Hf H x y dx dy Q e rx ry h
  cases rx <;> cases ry <;> first
    | exact (show False from h).elim
    | exact ⟨rfl, h _ Hf H (Grow.refl e) (.bl _)⟩
theorem rv_notN : RvOk K g (fun x y H Q => y = .non ∧ Q (.bl (!decide (x = .non))) H) (isND true) := by
  intro Hf H x y dx dy Q e rx ry h
  cases rx <;> cases ry <;> first
    | exact (show False from h).elim
    | exact ⟨rfl, h _ Hf H (Grow.refl e) (.bl _)⟩
end
section
variable {X : Cx} {g : G} {W : WX} {a b c : Expr} {ma mb mc : M D} {pos : Pos} {k : Nat}
theorem t_eq (hr : Room k X.A) (ha : PEM X g W a ma) (hb : PEM X g W b mb) : PTM X g W (.Compare a [.Eq] [b] pos) (mB (mBin eqD ma mb)) := t_cmp (op_eqD hr.units) rv_eq ha hb (nomark _)
theorem m_eq (hr : Room k X.A) (ha : PEM X g W a ma) (hb : PEM X g W b mb) : PEM X g W (.Compare a [.Eq] [b] pos) (mBin eqD ma mb) := m_cmp (op_eqD hr.units) rv_eq ha hb (nomark _)
abbrev ltD := cmpD fun i j => decide (i < j)
abbrev leD := cmpD fun i j => decide (i ≤ j)
abbrev gtD := cmpD fun i j => decide (j < i)
abbrev geD := cmpD fun i j => decide (j ≤ i)
theorem t_lt (ha : PEM X g W a ma) (hb : PEM X g W b mb) : PTM X g W (.Compare a [.Lt] [b] pos) (mB (mBin ltD ma mb)) := t_cmp op_lt (rv_cmp _) ha hb (nomark _)
theorem t_gt (ha : PEM X g W a ma) (hb : PEM X g W b mb) : PTM X g W (.Compare a [.Gt] [b] pos) (mB (mBin gtD ma mb)) := t_cmp op_gt (rv_cmp _) ha hb (nomark _)
theorem t_ge (ha : PEM X g W a ma) (hb : PEM X g W b mb) : PTM X g W (.Compare a [.GtE] [b] pos) (mB (mBin geD ma mb)) := t_cmp op_ge (rv_cmp _) ha hb (nomark _)
theorem m_le (ha : PEM X g W a ma) (hb : PEM X g W b mb) : PEM X g W (.Compare a [.LtE] [b] pos) (mBin leD ma mb) := m_cmp op_le (rv_cmp _) ha hb (nomark _)
theorem m_ge (ha : PEM X g W a ma) (hb : PEM X g W b mb) : PEM X g W (.Compare a [.GtE] [b] pos) (mBin geD ma mb) := m_cmp op_ge (rv_cmp _) ha hb (nomark _)
theorem t_isN (ha : PEM X g W a ma) (hb : PEM X g W b mb) : PTM X g W (.Compare a [.Is] [b] pos) (mB (mBin (isND false) ma mb)) := t_cmp op_isN rv_isN ha hb (nomark _)
theorem t_notN (ha : PEM X g W a ma) (hb : PEM X g W b mb) : PTM X g W (.Compare a [.IsNot] [b] pos) (mB (mBin (isND true) ma mb)) := t_cmp op_notN rv_notN ha hb (nomark _)
theorem m_isN (ha : PEM X g W a ma) (hb : PEM X g W b mb) : PEM X g W (.Compare a [.Is] [b] pos) (mBin (isND false) ma mb) := m_cmp op_isN rv_isN ha hb (nomark _)
/-- a op b op' c -/
def mChain (f f' : D → D → Option D) (a b c : M D) : M D := bnd a fun x => bnd b fun y => bnd (lft (f x y)) fun z => match z with
  | .bl true => bnd c fun w => lft (f' y w)
  | .bl false => ret (.bl false)
  | _ => lft none
theorem cmpD_some {p : Int → Int → Bool} {x y z : D} (h : cmpD p x y = some z) : ∃ i j, x = .int i ∧ y = .int j ∧ z = .bl (p i j) := by
  cases x <;> cases y <;> simp [cmpD] at h <;> exact ⟨_, _, rfl, rfl, h.symm⟩
theorem m_chain {op op' : CmpOp} {p p' : Int → Int → Bool} (ho : OpR X (compareOp op) (rI0 fun i j => .bl (p i j))) (ho' : OpR X (compareOp op') (rI0 fun i j => .bl (p' i j))) (ha : PEM X g W a ma) (hb : PEM X g W b mb) (hc : PEM X g W c mc)
    (hm : lastMarks [op, op'] [b, c] = false := by with_unfolding_all rfl) : PEM X g W (.Compare a [op, op'] [b, c] pos) (mChain (cmpD p) (cmpD p') ma mb mc) := by
  obtain ⟨ta, h1, h2⟩ := ha
  obtain ⟨tb, h3, h4⟩ := hb
  obtain ⟨tc, h5, h6⟩ := hc
  refine ⟨_, pe_chain ho ho' h1 h3 h5 hm, fun env σ Hf H s Q h => h2 env σ Hf H s _ (h.bnd.imp fun x e1 Hf1 H1 _ s1 k1 v r1 => h4 e1 σ Hf1 H1 s1.sr _ (k1.bnd.imp fun y e2 Hf2 H2 _ s2 k2 w r2 => ?_))⟩
  obtain ⟨z, hz, k3⟩ := Aft.lft s2.sr k2.bnd
  have k4 := k3 Hf2 H2 (Grow.refl s2.sr.ex)
  obtain ⟨i, j, rfl, rfl, rfl⟩ := cmpD_some hz
  cases r1
  cases r2
  refine ⟨i, j, rfl, rfl, _, rfl, ?_⟩
  cases q : p i j with
  | true =>
    rw [q] at k4
    rw [if_pos rfl]
    refine h6 e2 σ Hf2 H2 s2.sr _ (k4.bnd.imp fun u e3 Hf3 H3 _ s3 k5 t r3 => ?_)
    obtain ⟨z, hz, k6⟩ := Aft.lft s3.sr k5
    obtain ⟨i', l, e', rfl, rfl⟩ := cmpD_some hz
    cases e'
    cases r3
    exact ⟨j, l, rfl, rfl, k6 Hf3 H3 (Grow.refl s3.sr.ex) _ (.bl _)⟩
  | false =>
    rw [q] at k4
    rw [if_neg (by decide)]
    exact Aft.ret s2.sr k4 _ (.bl false)
end
end DL

set_option Elab.async false
set_option linter.all false
set_option maxRecDepth 100000
set_option maxHeartbeats 400000
namespace DL
open PySem L2
/-! ### items -/
def ixD : D → D → Option D
  | .lst xs, .int i => atI xs i
  | .tup xs, .int i => atI xs i
  | .str z, .int i => if small z.length = true then (atI z.cps.toList i).map fun c => .str ⟨#[c]⟩ else none
  | .scr ns, .int i => (atI ns i).map .int
  | _, _ => none
section
variable {K : PySem.W.Frag} {g : G} {W : WX}
theorem atI_reps {Hf : Hp} {ds : List D} {vs : List V} {i : Int} {z : D} (r : Reps K g Hf ds vs) (h : atI ds i = some z) : ∃ v, atI vs i = some v ∧ Rep K g Hf z v := by
  unfold atI at h ⊢
  rw [← r.len]
  cases q : ixN ds.length i with
  | none => rw [q] at h; cases h
  | some j =>
    rw [q] at h
    exact Reps.getD r h
theorem rv_ix : RvOk K g (rIx K) ixD := by
  intro Hf H x y dx dy Q e rx ry h
  cases hz : ixD dx dy with
  | none => rw [hz] at h; exact h.elim
  | some z =>
    rw [hz] at h
    cases rx <;> cases ry <;> try (cases hz; done)
    case lst.int h1 r1 i =>
      obtain ⟨v, hv, r⟩ := atI_reps r1 hz
      exact .inl ⟨_, _, _, v, rfl, rfl, SqL.of (e _ _ h1), hv, h v Hf H (Grow.refl e) r⟩
    case tup.int h1 r1 i =>
      obtain ⟨v, hv, r⟩ := atI_reps r1 hz
      exact .inr (.inl ⟨_, _, _, v, rfl, rfl, e.t h1, hv, h v Hf H (Grow.refl e) r⟩)
    case str.int s i =>
      dsimp only [ixD] at hz
      split at hz
      · rename_i c
        cases q : atI s.cps.toList i with
        | none => rw [q] at hz; cases hz
        | some k =>
          rw [q] at hz
          cases hz
          exact .inr (.inr ⟨s, i, k, rfl, rfl, small_le c, q, h _ Hf H (Grow.refl e) (.str _)⟩)
      · cases hz
    case scr.int ns h1 i =>
      dsimp only [ixD] at hz
      cases q : atI ns i with
      | none => rw [q] at hz; cases hz
      | some k =>
        rw [q] at hz
        cases hz
        refine .inl ⟨_, _, _, .int k, rfl, rfl, e.l h1, ?_, h _ Hf H (Grow.refl e) (.int _)⟩
        unfold atI at q ⊢
        rw [List.length_map]
        cases w : ixN ns.length i with
        | none => rw [w] at q; cases q
        | some j =>
          rw [w] at q
          show (ns.map V.int)[j]? = some (.int k)
          have q' : ns[j]? = some k := q
          rw [List.getElem?_map, q']
          rfl
end
/-! ### what a name holds, read without taking it -/
def Sl.val : Sl → Option D
  | .sh d => some d
  | .ow d => some d
  | .pn d => some d
  | .no => none
def scl : D → Bool
  | .non => true | .bl _ => true | .int _ => true | .str _ => true | _ => false
def peek (i : Nat) : M D := fun env => match env[i]?.bind Sl.val with
  | some d => .ok d env
  | none => .bad
section
variable {K : PySem.W.Frag} {g : G} {W : WX} {env : En} {σ : L2.St} {Hf H : Hp}
/-- seen as if it were shared -/
theorem SR.view (s : SR K g env σ Hf H) {i : Nat} {d : D} (h : env[i]?.bind Sl.val = some d) (f : full d = true) : ∃ v Hf', σ[i]? = some (some v) ∧ Ex Hf Hf' ∧ Ex Hf' H ∧ Rep K g Hf' d v := by
  cases e : env[i]? with
  | none => rw [e] at h; cases h
  | some x =>
    rw [e] at h
    cases x with
    | no => cases h
    | sh d' => cases h; obtain ⟨v, e1, r⟩ := s.sh_ e; exact ⟨v, Hf, e1, Ex.refl _, s.ex, r⟩
    | ow d' => cases h; obtain ⟨p, u, e1, e2, e3, r⟩ := s.at_ e rfl; obtain ⟨x1, x2⟩ := grow_freeze s.ex e2 e3; exact ⟨_, _, e1, x1, x2, (r.mono x1).rep upd_same f⟩
    | pn d' => cases h; obtain ⟨p, u, e1, e2, e3, r⟩ := s.at_ e rfl; obtain ⟨x1, x2⟩ := grow_freeze s.ex e2 e3; exact ⟨_, _, e1, x1, x2, (r.mono x1).rep upd_same f⟩
theorem Rep.scl {H H' : Hp} {d : D} {v : V} (r : Rep K g H d v) (h : scl d = true) : Rep K g H' d v := by
  cases r <;> first | (cases h; done) | constructor
theorem Grow.sc {Hf' H' : Hp} (w : Grow Hf' H Hf' H') (e : Ex Hf H) : Grow Hf H Hf H' := ⟨Ex.refl _, e.trans w.h, w.h, fun _ _ _ h => h⟩
/-- f(x), a scalar comes back -/
def mPk1 (f : D → Option D) (i : Nat) : M D := bnd (peek i) fun d => lft (if full d = true then (f d).bind fun z => if scl z = true then some z else none else none)
/-- x op e -/
def mPk2 (f : D → D → Option D) (i : Nat) (b : M D) : M D := bnd (peek i) fun _ => bnd b fun y => bnd (peek i) fun d => lft (if full d = true then (f d y).bind fun z => if scl z = true then some z else none else none)
theorem peek_ok {i : Nat} {P : D → En → Hp → Hp → Prop} (s : SR K g env σ Hf H) (h : Aft K g W env σ Hf H (peek i env) P) : ∃ d, env[i]?.bind Sl.val = some d ∧ P d env Hf H := by
  unfold peek at h
  cases e : env[i]?.bind Sl.val with
  | none => rw [e] at h; exact h.elim
  | some d => rw [e] at h; exact ⟨d, rfl, h Hf H (Step.refl s)⟩
theorem sc_bind {o : Option D} {z : D} (h : (o.bind fun z => if DL.scl z = true then some z else none) = some z) : o = some z ∧ DL.scl z = true := by
  cases o with
  | none => cases h
  | some w =>
    by_cases c : DL.scl w = true
    · have h' : (if DL.scl w = true then some w else none) = some z := h
      rw [if_pos c] at h'
      cases h'
      exact ⟨rfl, c⟩
    · have h' : (if DL.scl w = true then some w else none) = some z := h
      rw [if_neg c] at h'
      cases h'
theorem ev_pk1 {r : List V → Hp → VK → Prop} {f : List D → Option D} (hr : RcOk K g r f) (i : Nat) : EvM K g W (tCB r (tCons (tVar i) tNil)) (mPk1 (fun d => f [d]) i) :=
  fun env σ Hf H s Q h => by
    obtain ⟨d, hd, h1⟩ := peek_ok s h.bnd
    obtain ⟨z, hz, k⟩ := Aft.lft s h1
    split at hz
    · rename_i c
      obtain ⟨h2, h3⟩ := sc_bind hz
      obtain ⟨v, Hf', e1, x1, x2, r1⟩ := s.view hd c
      refine ⟨v, e1, hr Hf' H [v] [d] Q x2 (.cons r1 .nil) ?_⟩
      rw [show f [d] = some z from h2]
      exact fun v Hf2 H2 w r => k Hf H2 ⟨Ex.refl _, s.ex.trans w.h, w.h, fun _ _ _ h => h⟩ v (r.scl h3)
    · cases hz
theorem SR.val_at (s : SR K g env σ Hf H) {i : Nat} {d : D} (h : env[i]?.bind Sl.val = some d) : ∃ v, σ[i]? = some (some v) := by
  cases e : env[i]? with
  | none => rw [e] at h; cases h
  | some x =>
    cases x with
    | no => rw [e] at h; cases h
    | sh d' => obtain ⟨v, e1, r⟩ := s.sh_ e; exact ⟨v, e1⟩
    | ow d' => obtain ⟨p, u, e1, _⟩ := s.at_ e rfl; exact ⟨_, e1⟩
    | pn d' => obtain ⟨p, u, e1, _⟩ := s.at_ e rfl; exact ⟨_, e1⟩
def mIxS (i : Nat) (b : M D) : M D := bnd (peek i) fun _ => bnd b fun y => bnd (peek i) fun d => lft (ixD d y)
theorem ev_ixS (i : Nat) {tb : TE} {b : M D} (hb : EvM K g W tb b) : EvM K g W (tOp (rIx K) (tVar i) tb) (mIxS i b) :=
  fun env σ Hf H s Q h => by
    obtain ⟨d0, hd0, h0⟩ := peek_ok s h.bnd
    obtain ⟨v, hv⟩ := s.val_at hd0
    refine ⟨v, hv, hb env σ Hf H s _ (h0.bnd.imp fun y e1 Hf1 H1 _ s1 h1 w r1 => ?_)⟩
    obtain ⟨d, hd, h2⟩ := peek_ok s1.sr h1.bnd
    obtain ⟨z, hz, k⟩ := Aft.lft s1.sr h2
    have own : ∀ x : Sl, e1[i]? = some x → x.mut = some d → rIx K v w H1 Q := fun x ex mx => by
      obtain ⟨p, u, c1, c2, c3, r⟩ := s1.sr.at_ ex mx
      rw [hv] at c1
      cases c1
      cases r with
      | lst r =>
        cases r1 <;> try (cases hz; done)
        case int j =>
          obtain ⟨v', hv', r'⟩ := atI_reps r hz
          exact .inl ⟨_, _, _, v', rfl, rfl, SqL.of c2, hv', k _ _ (Grow.refl s1.sr.ex) v' r'⟩
      | dic _ _ => cases r1 <;> cases hz
      | dct _ _ => cases r1 <;> cases hz
      | ins _ _ _ => cases r1 <;> cases hz
    cases e : e1[i]? with
    | none => rw [e] at hd; cases hd
    | some x =>
      cases x with
      | no => rw [e] at hd; cases hd
      | sh d' =>
        rw [e] at hd
        cases hd
        obtain ⟨v', e2, r2⟩ := s1.sr.sh_ e
        rw [hv] at e2
        cases e2
        refine rv_ix Hf1 H1 v w d y Q s1.sr.ex r2 r1 ?_
        rw [hz]
        exact fun v Hf2 H2 w r => k Hf2 H2 w v r
      | ow d' => rw [e] at hd; cases hd; exact own _ e rfl
      | pn d' => rw [e] at hd; cases hd; exact own _ e rfl
end
section
variable {X : Cx} {g : G} {W : WX} {a b : Expr} {ma mb : M D} {pos : Pos}
theorem m_ix (ha : PEM X g W a ma) (hb : PEM X g W b mb) (hs : PlainIx b := by exact fun _ _ => rfl) : PEM X g W (.Subscript a b pos) (mBin ixD ma mb) := by
  obtain ⟨ta, h1, h2⟩ := ha
  obtain ⟨tb, h3, h4⟩ := hb
  exact ⟨_, pe_ix ix_seq h1 h3 hs, rv_ix.ev h2 h4⟩
theorem m_ixS (i : Nat) {x : Str} {p2 : Pos} (hb : PEM X g W b mb) (hN : X.N[i]? = some x := by rfl) (hv : Vis X.env.scope x := by first | exact Or.inl rfl | exact Or.inr (Or.inl rfl) | exact Or.inr (Or.inr rfl))
    (hs : PlainIx b := by exact fun _ _ => rfl) (hd : (x == ("__debug__" : Str)) = false := by decide) (hcd : (x == ("__classdict__" : Str)) = false := by decide) : PEM X g W (.Subscript (.Name x p2) b pos) (mIxS i mb) := by
  obtain ⟨tb, h3, h4⟩ := hb
  exact ⟨_, pe_ix ix_seq (pe_var hN hv hd hcd) h3 hs, ev_ixS i h4⟩
end
/-! ### calls of built-ins -/
def mCb (f : List D → Option D) (a : M (List D)) : M D := bnd a fun xs => lft (f xs)
def lenD : List D → Option D
  | [.lst xs] => some (.int xs.length)
  | [.tup xs] => some (.int xs.length)
  | [.scr xs] => some (.int xs.length)
  | [.str x] => if small x.length = true then some (.int x.length) else none
  | _ => none
def listD : List D → Option D
  | [.lst xs] => some (.lst xs)
  | [.tup xs] => some (.lst xs)
  | _ => none
def tupleD : List D → Option D
  | [.lst xs] => some (.tup xs)
  | [.tup xs] => some (.tup xs)
  | _ => none
def absD : List D → Option D
  | [.int i] => some (.int (if i < 0 then -i else i))
  | _ => none
def intD : List D → Option D
  | [.int i] => some (.int i)
  | [.bl k] => some (.int (if k then 1 else 0))
  | _ => none
def boolD : List D → Option D
  | [.int i] => some (.bl (i != 0))
  | [.bl k] => some (.bl k)
  | _ => none
def max2D : List D → Option D
  | [.int i, .int j] => some (.int (if j > i then j else i))
  | _ => none
def min2D : List D → Option D
  | [.int i, .int j] => some (.int (if j < i then j else i))
  | _ => none
def asInts : List D → Option (List Int)
  | [] => some []
  | .int i :: r => (asInts r).map (i :: ·)
  | _ => none
def asBls : List D → Option (List Bool)
  | [] => some []
  | .bl i :: r => (asBls r).map (i :: ·)
  | _ => none
def maxL (ns : List Int) : Int := ns.foldl max (ns.headD 0)
def minL (ns : List Int) : Int := ns.foldl min (ns.headD 0)
def max1D : List D → Option D
  | [.lst xs] => (asInts xs).bind fun ns => if ns = [] then none else some (.int (maxL ns))
  | _ => none
def min1D : List D → Option D
  | [.lst xs] => (asInts xs).bind fun ns => if ns = [] then none else some (.int (minL ns))
  | _ => none
def sumD : List D → Option D
  | [.lst xs] => (asInts xs).map fun ns => .int ns.sum
  | _ => none
def allD : List D → Option D
  | [.lst xs] => (asBls xs).map fun ns => .bl (ns.all id)
  | _ => none
def anyD : List D → Option D
  | [.lst xs] => (asBls xs).map fun ns => .bl (ns.any id)
  | _ => none
section
variable {K : PySem.W.Frag} {g : G} {W : WX}
theorem asBls_reps : ∀ {Hf : Hp} {ds : List D} {vs : List V} {ns : List Bool}, Reps K g Hf ds vs → asBls ds = some ns → vs = ns.map V.bl
  | _, _, _, _, .nil, h => by cases h; rfl
  | _, _, _, _, .cons (d := d) (ds := ds) a b, h => by
    cases a <;> try (cases h; done)
    case bl i =>
      unfold asBls at h
      cases q : asBls ds with
      | none => rw [q] at h; cases h
      | some r => rw [q] at h; cases h; rw [asBls_reps b q]; rfl
theorem asBls_map (ns : List Bool) : asBls (ns.map D.bl) = some ns := by
  induction ns with
  | nil => rfl
  | cons a r ih => rw [List.map_cons]; unfold asBls; rw [ih]; rfl
theorem rc_of {r : List V → Hp → VK → Prop} {f : List D → Option D} (h : ∀ Hf H xs ds z Q, Ex Hf H → Reps K g Hf ds xs → f ds = some z → (∀ v Hf' H', Grow Hf H Hf' H' → Rep K g Hf' z v → Q v H') → r xs H Q) : RcOk K g r f := by
  intro Hf H xs ds Q e r1 q
  cases hz : f ds with
  | none => rw [hz] at q; exact q.elim
  | some z => rw [hz] at q; exact h Hf H xs ds z Q e r1 hz q
theorem rc_len : RcOk K g (fun xs H Q => ∃ x n, xs = [x] ∧ LenV K x H n ∧ Q (.int n) H) lenD := rc_of fun Hf H xs ds z Q e r h q => by
  cases r with
  | nil => cases h
  | cons a b =>
    cases b with
    | cons c d => cases a <;> cases h
    | nil =>
      cases a <;> try (cases h; done)
      case str x =>
        dsimp only [lenD] at h
        split at h
        · rename_i c
          cases h
          exact ⟨_, _, rfl, ⟨small_le c, rfl⟩, q _ Hf H (Grow.refl e) (.int _)⟩
        · cases h
      case lst h1 r1 => cases h; exact ⟨_, _, rfl, .inl ⟨_, SqL.of (e _ _ h1), r1.len⟩, q _ Hf H (Grow.refl e) (.int _)⟩
      case tup h1 r1 => cases h; exact ⟨_, _, rfl, .inr ⟨_, e.t h1, r1.len⟩, q _ Hf H (Grow.refl e) (.int _)⟩
      case scr h1 => cases h; exact ⟨_, _, rfl, .inl ⟨_, e.l h1, by rw [List.length_map]⟩, q _ Hf H (Grow.refl e) (.int _)⟩
theorem one_of {Hf : Hp} {xs : List V} {ds : List D} {f : List D → Option D} {z : D} (r : Reps K g Hf ds xs) (h : f ds = some z) (h0 : f [] = none) (h2 : ∀ a b c, f (a :: b :: c) = none) : ∃ d v, ds = [d] ∧ xs = [v] ∧ Rep K g Hf d v := by
  cases r with
  | nil => rw [h0] at h; cases h
  | cons a b =>
    cases b with
    | nil => exact ⟨_, _, rfl, rfl, a⟩
    | cons c d => rw [h2] at h; cases h
theorem rc_tuple : RcOk K g (fun xs H Q => ∃ p ys, xs = [.ref p] ∧ ((SqL K H p ys ∧ ∀ l, H l = none → Q (.ref l) (upd H l (.tup ys))) ∨ (SqT K H p ys ∧ Q (.ref p) H))) tupleD := rc_of fun Hf H xs ds z Q e r h q => by
  obtain ⟨d, v, rfl, rfl, r0⟩ := one_of r h rfl (fun a b c => by cases a <;> rfl)
  cases r0 <;> try (cases h; done)
  case lst h1 r1 => cases h; exact ⟨_, _, rfl, .inl ⟨SqL.of (e _ _ h1), fun l hl => q _ _ _ (new_tup e hl r1).1 (new_tup e hl r1).2⟩⟩
  case tup h1 r1 => cases h; exact ⟨_, _, rfl, .inr ⟨e.t h1, q _ Hf H (Grow.refl e) (.tup h1 r1)⟩⟩
theorem rc_abs : RcOk K g (fun xs H Q => ∃ i, xs = [.int i] ∧ Q (.int (if i < 0 then -i else i)) H) absD := rc_of fun Hf H xs ds z Q e r h q => by
  obtain ⟨d, v, rfl, rfl, r0⟩ := one_of r h rfl (fun a b c => by cases a <;> rfl)
  cases r0 <;> try (cases h; done)
  case int i => cases h; exact ⟨i, rfl, q _ Hf H (Grow.refl e) (.int _)⟩
theorem rc_int : RcOk K g (fun xs H Q => (∃ i, xs = [.int i] ∧ Q (.int i) H) ∨ ∃ k, xs = [.bl k] ∧ Q (.int (if k then 1 else 0)) H) intD := rc_of fun Hf H xs ds z Q e r h q => by
  obtain ⟨d, v, rfl, rfl, r0⟩ := one_of r h rfl (fun a b c => by cases a <;> rfl)
  cases r0 <;> try (cases h; done)
  case int i => cases h; exact .inl ⟨i, rfl, q _ Hf H (Grow.refl e) (.int _)⟩
  case bl i => cases h; exact .inr ⟨i, rfl, q _ Hf H (Grow.refl e) (.int _)⟩
theorem two_ints {Hf : Hp} {xs : List V} {ds : List D} {f : List D → Option D} {z : D} {F : Int → Int → D} (r : Reps K g Hf ds xs) (h : f ds = some z) (h1 : ∀ ds z, f ds = some z → ∃ i j, ds = [.int i, .int j] ∧ z = F i j) : ∃ i j, xs = [.int i, .int j] ∧ z = F i j := by
  obtain ⟨i, j, rfl, rfl⟩ := h1 ds z h
  cases r with
  | cons a b =>
    cases b with
    | cons c d =>
      cases d
      cases a
      cases c
      exact ⟨i, j, rfl, rfl⟩
theorem rc_max2 : RcOk K g (fun xs H Q => ∃ i j, xs = [.int i, .int j] ∧ Q (.int (if j > i then j else i)) H) max2D := rc_of fun Hf H xs ds z Q e r h q => by
  obtain ⟨i, j, rfl, rfl⟩ := two_ints (F := fun i j => .int (if j > i then j else i)) r h (fun ds z h => by
    unfold max2D at h
    split at h
    · cases h; exact ⟨_, _, rfl, rfl⟩
    · cases h)
  exact ⟨i, j, rfl, q _ Hf H (Grow.refl e) (.int _)⟩
theorem rc_min2 : RcOk K g (fun xs H Q => ∃ i j, xs = [.int i, .int j] ∧ Q (.int (if j < i then j else i)) H) min2D := rc_of fun Hf H xs ds z Q e r h q => by
  obtain ⟨i, j, rfl, rfl⟩ := two_ints (F := fun i j => .int (if j < i then j else i)) r h (fun ds z h => by
    unfold min2D at h
    split at h
    · cases h; exact ⟨_, _, rfl, rfl⟩
    · cases h)
  exact ⟨i, j, rfl, q _ Hf H (Grow.refl e) (.int _)⟩
theorem rc_all : RcOk K g (rAll K) allD := rc_of fun Hf H xs ds z Q e r h q => by
  obtain ⟨d, v, rfl, rfl, r0⟩ := one_of r h rfl (fun a b c => by cases a <;> rfl)
  cases r0 <;> try (cases h; done)
  case lst ds vs h1 r1 =>
    dsimp only [allD] at h
    cases c : asBls ds with
    | none => rw [c] at h; cases h
    | some ns =>
      rw [c] at h
      cases h
      have := asBls_reps r1 c
      subst this
      exact ⟨_, ns, rfl, SqL.of (e _ _ h1), q _ Hf H (Grow.refl e) (.bl _)⟩
theorem rc_any : RcOk K g (rAny K) anyD := rc_of fun Hf H xs ds z Q e r h q => by
  obtain ⟨d, v, rfl, rfl, r0⟩ := one_of r h rfl (fun a b c => by cases a <;> rfl)
  cases r0 <;> try (cases h; done)
  case lst ds vs h1 r1 =>
    dsimp only [anyD] at h
    cases c : asBls ds with
    | none => rw [c] at h; cases h
    | some ns =>
      rw [c] at h
      cases h
      have := asBls_reps r1 c
      subst this
      exact ⟨_, ns, rfl, SqL.of (e _ _ h1), q _ Hf H (Grow.refl e) (.bl _)⟩
end
section
variable {X : Cx} {g : G} {W : WX} {x : Str} {p pos : Pos} {e : Expr} {es : List Expr} {ma : M (List D)} {id T : String} {r : List V → Hp → VK → Prop} {f : List D → Option D}
theorem m_cb (hc : CallR X (.builtin id) r) (hr : RcOk X.K g r f) (hm : X.mg x = none) (hv : bootBuiltins x = some (.builtin id)) (ha : PAM X g W (e :: es) ma) (hg : Gl X x := by rfl) (hn : x ≠ "__name__" := by decide) (hdb : (x == ("__debug__" : Str)) = false := by decide)
    (he : starEach (e :: es) X.env = (false, eval e X.env) :: starEach es X.env := by rfl) (hpl : (backTo pos (starEach es X.env)).any (·.1) = false := by rfl) : PEM X g W (.Call (.Name x p) (e :: es) [] pos) (mCb f ma) := by
  obtain ⟨t, h1, h2⟩ := ha
  exact ⟨_, pe_callB hc hg hm hv h1 hn hdb he hpl, hr.ev h2⟩
theorem m_ct (hc : CallR X (.type T) r) (hr : RcOk X.K g r f) (hm : X.mg x = none) (hv : bootBuiltins x = some (.type T)) (ha : PAM X g W (e :: es) ma) (hg : Gl X x := by rfl) (hn : x ≠ "__name__" := by decide) (hdb : (x == ("__debug__" : Str)) = false := by decide)
    (he : starEach (e :: es) X.env = (false, eval e X.env) :: starEach es X.env := by rfl) (hpl : (backTo pos (starEach es X.env)).any (·.1) = false := by rfl) : PEM X g W (.Call (.Name x p) (e :: es) [] pos) (mCb f ma) := by
  obtain ⟨t, h1, h2⟩ := ha
  exact ⟨_, pe_callTy hc hg hm hv h1 hn hdb he hpl, hr.ev h2⟩
/-- f(x), the name x only looked at -/
theorem m_cbS (i : Nat) {y : Str} {p3 : Pos} (hc : CallR X (.builtin id) r) (hr : RcOk X.K g r f) (hm : X.mg x = none) (hv : bootBuiltins x = some (.builtin id)) (hN : X.N[i]? = some y := by rfl)
    (hvi : Vis X.env.scope y := by first | exact Or.inl rfl | exact Or.inr (Or.inl rfl) | exact Or.inr (Or.inr rfl)) (hg : Gl X x := by rfl) (hn : x ≠ "__name__" := by decide) (hdb : (x == ("__debug__" : Str)) = false := by decide) (hd : (y == ("__debug__" : Str)) = false := by decide) (hcd : (y == ("__classdict__" : Str)) = false := by decide)
    (he : starEach [.Name y p3] X.env = (false, eval (.Name y p3) X.env) :: starEach [] X.env := by rfl) (hpl : (backTo pos (starEach [] X.env)).any (·.1) = false := by rfl) : PEM X g W (.Call (.Name x p) [.Name y p3] [] pos) (mPk1 (fun d => f [d]) i) :=
  ⟨_, pe_callB hc hg hm hv (pa_cons (pe_var hN hvi hd hcd) pa_nil he) hn hdb he hpl, ev_pk1 hr i⟩
end
end DL

set_option Elab.async false
set_option linter.all false
set_option maxRecDepth 100000
set_option maxHeartbeats 400000
namespace DL
open PySem L2
/-! ### statements -/
abbrev S := M Ctl
section
variable (K : PySem.W.Frag) (g : G) (W : WX)
/-- what is behind a statement -/
def Out (env : En) (σ : L2.St) (Hf H : Hp) (r : Rs Ctl) (Z : Ends) : Prop :=
  match r with
  | .ok .nx env' => ∀ σ' Hf' H', Step K g env σ Hf H env' σ' Hf' H' → Z.nx σ' H'
  | .ok .bk env' => ∀ σ' Hf' H', Step K g env σ Hf H env' σ' Hf' H' → Z.bk σ' H'
  | .ok .ct env' => ∀ σ' Hf' H', Step K g env σ Hf H env' σ' Hf' H' → Z.ct σ' H'
  | .ok (.rt d) env' => ∀ σ' Hf' H', Step K g env σ Hf H env' σ' Hf' H' → ∀ v, Rep K g Hf' d v → Z.rt v H'
  | .ok (.rto d) env' => ∀ σ' Hf' H', Step K g env σ Hf H env' σ' Hf' H' → ∀ p, New K g env' σ' H Hf' H' d p → Z.rt (.ref p) H'
  | .ex c d env' => XGot K g W env σ Hf H c d env'
  | .bad => False
def EvS (ts : TS) (m : S) : Prop := ∀ env σ Hf H, SR K g env σ Hf H → ∀ Z : Ends, Out K g W env σ Hf H (m env) Z → ts Z σ H
end
def sSeq (a b : S) : S := fun e => match a e with
  | .ok .nx e' => b e'
  | r => r
def sNx : S := ret .nx
def sIf (c : M Bool) (a b : S) : S := bnd c fun x => if x = true then a else b
def sRet (m : M D) : S := bnd m fun d => ret (.rt d)
def sRetF (m : M D) : S := bnd m fun d => ret (.rto d)
def sDrop (m : M D) : S := bnd m fun _ => ret .nx
/-- a name is stored -/
def sto (i : Nat) (x : Sl) : S := fun env => match env[i]? with
  | some (.pn _) => .bad
  | some _ => .ok .nx (env.set i x)
  | none => .bad
def sSet (i : Nat) (m : M D) : S := bnd m fun d => sto i (.sh d)
def sSetF (i : Nat) (m : M D) : S := bnd m fun d => sto i (.ow d)
section
variable {K : PySem.W.Frag} {g : G} {W : WX} {env env1 env' : En} {σ σ1 σ' : L2.St} {Hf H Hf1 H1 Hf' H' : Hp}
theorem Out.after {r : Rs Ctl} {Z : Ends} (s : Step K g env σ Hf H env1 σ1 Hf1 H1) (h : Out K g W env σ Hf H r Z) : Out K g W env1 σ1 Hf1 H1 r Z := by
  cases r with
  | bad => exact h
  | ex c d e => exact XGot.after s h
  | ok x e =>
    cases x with
    | nx => exact fun σ2 Hf2 H2 s2 => h σ2 Hf2 H2 (s.trans s2)
    | bk => exact fun σ2 Hf2 H2 s2 => h σ2 Hf2 H2 (s.trans s2)
    | ct => exact fun σ2 Hf2 H2 s2 => h σ2 Hf2 H2 (s.trans s2)
    | rt d => exact fun σ2 Hf2 H2 s2 => h σ2 Hf2 H2 (s.trans s2)
    | rto d => exact fun σ2 Hf2 H2 s2 p n => h σ2 Hf2 H2 (s.trans s2) p ⟨n.at_, n.nf, n.no, s.th p n.nw⟩
theorem Out.bnd {α : Type} {m : M α} {k : α → S} {Z : Ends} (h : Out K g W env σ Hf H (DL.bnd m k env) Z) :
    Aft K g W env σ Hf H (m env) fun a env1 Hf1 H1 => Out K g W env1 σ Hf1 H1 (k a env1) Z := by
  unfold DL.bnd at h
  revert h
  cases m env with
  | ok a e => exact fun h Hf1 H1 s => Out.after s h
  | ex c d e => exact fun h => h
  | bad => exact fun h => h
/-- weakening what is wanted -/
theorem Out.imp {r : Rs Ctl} {Z Z' : Ends} (h : Out K g W env σ Hf H r Z)
    (hn : ∀ e σ' Hf' H', r = .ok .nx e → Step K g env σ Hf H e σ' Hf' H' → Z.nx σ' H' → Z'.nx σ' H')
    (hb : ∀ e σ' Hf' H', r = .ok .bk e → Step K g env σ Hf H e σ' Hf' H' → Z.bk σ' H' → Z'.bk σ' H')
    (hc : ∀ e σ' Hf' H', r = .ok .ct e → Step K g env σ Hf H e σ' Hf' H' → Z.ct σ' H' → Z'.ct σ' H')
    (hr : ∀ v H', Z.rt v H' → Z'.rt v H') : Out K g W env σ Hf H r Z' := by
  cases r with
  | bad => exact h
  | ex c d e => exact h
  | ok x e =>
    cases x with
    | nx => exact fun σ2 Hf2 H2 s2 => hn e σ2 Hf2 H2 rfl s2 (h σ2 Hf2 H2 s2)
    | bk => exact fun σ2 Hf2 H2 s2 => hb e σ2 Hf2 H2 rfl s2 (h σ2 Hf2 H2 s2)
    | ct => exact fun σ2 Hf2 H2 s2 => hc e σ2 Hf2 H2 rfl s2 (h σ2 Hf2 H2 s2)
    | rt d => exact fun σ2 Hf2 H2 s2 v r => hr _ _ (h σ2 Hf2 H2 s2 v r)
    | rto d => exact fun σ2 Hf2 H2 s2 p n => hr _ _ (h σ2 Hf2 H2 s2 p n)
theorem ev_seq {t u : TS} {a b : S} (ha : EvS K g W t a) (hb : EvS K g W u b) : EvS K g W (tSeq t u) (sSeq a b) := by
  intro env σ Hf H s Z h
  refine ha env σ Hf H s { Z with nx := u Z } ?_
  unfold sSeq at h
  revert h
  cases a env with
  | bad => exact fun h => h
  | ex c d e => exact fun h => h
  | ok x e =>
    cases x with
    | nx => exact fun h σ1 Hf1 H1 s1 => hb e σ1 Hf1 H1 s1.sr Z (Out.after s1 h)
    | bk => exact fun h => h
    | ct => exact fun h => h
    | rt d => exact fun h => h
    | rto d => exact fun h => h
theorem ev_next : EvS K g W tNext sNx := fun env σ Hf H s Z h => h σ Hf H (Step.refl s)
theorem ev_never : EvS K g W tNever (fun _ => .bad) := fun env σ Hf H s Z h => h
theorem ev_drop {te : TE} {m : M D} (he : EvM K g W te m) : EvS K g W (tDrop te) (sDrop m) :=
  fun env σ Hf H s Z h => he env σ Hf H s _ (h.bnd.imp fun x e1 Hf1 H1 _ s1 h1 v _ => h1 σ Hf1 H1 (Step.refl s1.sr))
theorem ev_ret {te : TE} {m : M D} (he : EvM K g W te m) : EvS K g W (tRet te) (sRet m) :=
  fun env σ Hf H s Z h => he env σ Hf H s _ (h.bnd.imp fun x e1 Hf1 H1 _ s1 h1 v r => h1 σ Hf1 H1 (Step.refl s1.sr) v r)
theorem ev_retF {te : TE} {m : M D} (he : EvF K g W te m) : EvS K g W (tRet te) (sRetF m) := by
  intro env σ Hf H s Z h
  refine he env σ Hf H s _ ?_
  unfold sRetF DL.bnd at h
  revert h
  cases m env with
  | bad => exact fun h => h
  | ex c d e => exact fun h => h
  | ok x e => exact fun h Hf1 H1 s1 p n => h σ Hf1 H1 s1 p n
theorem ev_ifS {tc : TT} {t u : TS} {c : M Bool} {a b : S} (hc : EvB K g W tc c) (ha : EvS K g W t a) (hb : EvS K g W u b) : EvS K g W (tIfS tc t u) (sIf c a b) :=
  fun env σ Hf H s Z h => hc env σ Hf H s _ (h.bnd.imp fun x e1 Hf1 H1 _ s1 h1 => by
    cases x with
    | true => exact ha e1 σ Hf1 H1 s1.sr Z h1
    | false => exact hb e1 σ Hf1 H1 s1.sr Z h1)
/-! storing -/
theorem Own.at_set {i : Nat} {x : Sl} {v : V} {a : Addr} (h : Own (env.set i x) (σ.set i (some v)) a) : (∃ d, x.mut = some d ∧ v = .ref a) ∨ (∃ j s d, j ≠ i ∧ env[j]? = some s ∧ s.mut = some d ∧ σ[j]? = some (some (.ref a))) := by
  obtain ⟨j, t, d, h1, h2, h3⟩ := h
  by_cases c : i = j
  · subst c
    have hi : i < env.length := by
      have := (List.getElem?_eq_some_iff.mp h1).1
      rwa [List.length_set] at this
    have hj : i < σ.length := by
      have := (List.getElem?_eq_some_iff.mp h3).1
      rwa [List.length_set] at this
    rw [List.getElem?_set_self hi] at h1
    rw [List.getElem?_set_self hj] at h3
    cases h1
    exact .inl ⟨d, h2, Option.some.inj (Option.some.inj h3)⟩
  · rw [List.getElem?_set_ne c] at h1 h3
    exact .inr ⟨j, t, d, fun z => c z.symm, h1, h2, h3⟩
/-- a slot gets a value: what it must be -/
theorem store_step {i : Nat} {x y : Sl} {v : V} (s : SR K g env σ Hf H) (hy : env[i]? = some y) (hp : ∀ d, y ≠ .pn d) (ok : x.ok K g Hf H (some v)) (hnew : ∀ p, x.mut.isSome = true → v = .ref p → ¬ Own env σ p) (hpn : ∀ d, x ≠ .pn d)
    (s0 : Step K g env1 σ1 Hf1 H1 env σ Hf H) (hn : ∀ p, x.mut.isSome = true → v = .ref p → H1 p = none) : Step K g env1 σ1 Hf1 H1 (env.set i x) (σ.set i (some v)) Hf H := by
  have hi : i < env.length := (List.getElem?_eq_some_iff.mp hy).1
  have hj : i < σ.length := by rw [s.len]; exact hi
  refine ⟨s0.f, ⟨s.ex, by rw [List.length_set, List.length_set]; exact s.len, fun j z o q q' => ?_, fun j k z w a b p n1 h1 h2 m1 m2 e1 e2 => ?_⟩, fun a u q q' no => s0.kp a u q q' no, fun a o => ?_, s0.th, fun j d q => ?_, by rw [List.length_set]; exact s0.le⟩
  · by_cases c : i = j
    · subst c
      rw [List.getElem?_set_self hi] at q
      rw [List.getElem?_set_self hj] at q'
      cases q
      cases q'
      exact ok
    · rw [List.getElem?_set_ne c] at q q'
      exact s.sl j z o q q'
  · by_cases c : i = j
    · subst c
      rw [List.getElem?_set_self hi] at h1
      rw [List.getElem?_set_self hj] at e1
      rw [List.getElem?_set_ne n1] at h2 e2
      cases h1
      cases e1
      exact hnew p (by rw [m1]; rfl) rfl ⟨k, w, b, h2, m2, e2⟩
    · by_cases c' : i = k
      · subst c'
        rw [List.getElem?_set_self hi] at h2
        rw [List.getElem?_set_self hj] at e2
        rw [List.getElem?_set_ne c] at h1 e1
        cases h2
        cases e2
        exact hnew p (by rw [m2]; rfl) rfl ⟨j, z, a, h1, m1, e1⟩
      · rw [List.getElem?_set_ne c] at h1 e1
        rw [List.getElem?_set_ne c'] at h2 e2
        exact s.ne j k z w a b p n1 h1 h2 m1 m2 e1 e2
  · rcases Own.at_set o with ⟨d, m, rfl⟩ | ⟨j, t, d, _, h1, h2, h3⟩
    · exact .inr (hn a (by rw [m]; rfl) rfl)
    · exact s0.ow a ⟨j, t, d, h1, h2, h3⟩
  · obtain ⟨⟨d', h'⟩, e'⟩ := s0.pn j d q
    have c : i ≠ j := fun c => by
      subst c
      rw [hy] at h'
      cases h'
      exact hp d' rfl
    exact ⟨⟨d', by rw [List.getElem?_set_ne c]; exact h'⟩, by rw [List.getElem?_set_ne c]; exact e'⟩
theorem sto_ok {i : Nat} {x : Sl} {Z : Ends} (h : Out K g W env σ Hf H (sto i x env) Z) : ∃ y, env[i]? = some y ∧ (∀ d, y ≠ .pn d) ∧ ∀ σ' Hf' H', Step K g env σ Hf H (env.set i x) σ' Hf' H' → Z.nx σ' H' := by
  unfold sto at h
  cases e : env[i]? with
  | none => rw [e] at h; exact h.elim
  | some y =>
    rw [e] at h
    cases y with
    | pn d => exact h.elim
    | no => exact ⟨_, rfl, (fun d q => nomatch q), h⟩
    | sh d => exact ⟨_, rfl, (fun d q => nomatch q), h⟩
    | ow d => exact ⟨_, rfl, (fun d q => nomatch q), h⟩
theorem ev_set {i : Nat} {te : TE} {m : M D} (he : EvM K g W te m) : EvS K g W (tAsg te (gName i)) (sSet i m) :=
  fun env σ Hf H s Z h => he env σ Hf H s _ (h.bnd.imp fun x e1 Hf1 H1 _ s1 h1 v r => by
    obtain ⟨y, hy, hp, k⟩ := sto_ok h1
    exact k _ Hf1 H1 (store_step s1.sr hy hp ⟨v, rfl, r⟩ (fun p q => nomatch q) (fun d q => nomatch q) (Step.refl s1.sr) (fun p q => nomatch q)))
theorem ev_setF {i : Nat} {te : TE} {m : M D} (he : EvF K g W te m) : EvS K g W (tAsg te (gName i)) (sSetF i m) := by
  intro env σ Hf H s Z h
  refine he env σ Hf H s _ ?_
  unfold sSetF DL.bnd at h
  revert h
  cases m env with
  | bad => exact fun h => h
  | ex c d e => exact fun h => h
  | ok d e =>
    intro h Hf1 H1 s1 p n
    dsimp only at h
    unfold sto at h
    obtain ⟨u, hu, ru⟩ := n.at_
    cases q : e[i]? with
    | none => rw [q] at h; exact h.elim
    | some y =>
      rw [q] at h
      cases y with
      | pn d => exact h.elim
      | _ => exact h _ Hf1 H1 (store_step s1.sr q (fun d z => nomatch z) ⟨p, u, rfl, hu, n.nf, ru⟩ (fun p' _ z => by cases z; exact n.no) (fun d z => nomatch z) s1 (fun p' _ z => by cases z; exact n.nw))
end
/-! rules -/
structure PSM (X : Cx) (g : G) (W : WX) (st : Stmt) (m : S) : Prop where
  ex : ∃ t, PS X st t ∧ EvS X.K g W t m
structure PSsM (X : Cx) (g : G) (W : WX) (st : List Stmt) (m : S) : Prop where
  ex : ∃ t, PSs X st t ∧ EvS X.K g W t m
section
variable {X : Cx} {g : G} {W : WX} {st : Stmt} {rest : List Stmt} {a b : S} {e : Expr} {m : M D} {pos : Pos}
theorem ss_nil : PSsM X g W [] sNx := ⟨_, pss_nil, ev_next⟩
theorem ss_cons (h : PSM X g W st a) (k : PSsM X g W rest b) : PSsM X g W (st :: rest) (sSeq a b) := by
  obtain ⟨t, h1, h2⟩ := h
  obtain ⟨u, h3, h4⟩ := k
  exact ⟨_, pss_cons h1 h3, ev_seq h2 h4⟩
theorem ss_one (h : PSM X g W st a) : PSsM X g W [st] a := by
  obtain ⟨t, h1, h2⟩ := h
  exact ⟨_, pss_one h1, h2⟩
theorem s_never : PSM X g W st (fun _ => .bad) := ⟨_, ps_never, ev_never⟩
theorem s_expr (he : PEM X g W e m) (hs : swapsWith e none pos.line X.env = pure false := by rfl) : PSM X g W (.Expr e pos) (sDrop m) := by
  obtain ⟨t, h1, h2⟩ := he
  exact ⟨_, ps_expr h1 hs, ev_drop h2⟩
theorem s_ret (he : PEM X g W e m) : PSM X g W (.Return (some e) pos) (sRet m) := by
  obtain ⟨t, h1, h2⟩ := he
  exact ⟨_, ps_ret h1, ev_ret h2⟩
theorem s_retF (he : PEF X g W e m) : PSM X g W (.Return (some e) pos) (sRetF m) := by
  obtain ⟨t, h1, h2⟩ := he
  exact ⟨_, ps_ret h1, ev_retF h2⟩
theorem s_if {c : Expr} {x y : List Stmt} {tc : M Bool} (hc : PTM X g W c tc) (ha : PSsM X g W x a) (hb : PSsM X g W y b) : PSM X g W (.If c x y pos) (sIf tc a b) := by
  obtain ⟨t, h1, h2⟩ := hc
  obtain ⟨u, h3, h4⟩ := ha
  obtain ⟨w, h5, h6⟩ := hb
  exact ⟨_, ps_if h1 h3 h5, ev_ifS h2 h4 h6⟩
theorem s_set {i : Nat} {x : Str} {pos' : Pos} (he : PEM X g W e m) (hN : X.N.Nodup) (hi : X.N[i]? = some x := by rfl) (hx : Loc X.env.scope x := by first | exact Or.inl rfl | exact Or.inr rfl)
    (hs : swapsWith e (some (.Name x pos')) pos.line X.env = pure false := by rfl) (hf : X.fn x = true ∨ X.env.scope.names.lookup x = some .local := by first | exact .inl rfl | exact .inr rfl | assumption) : PSM X g W (.Assign [.Name x pos'] e pos) (sSet i m) := by
  obtain ⟨t, h1, h2⟩ := he
  exact ⟨_, ps_set hN hi hx h1 hs hf, ev_set h2⟩
theorem s_setF {i : Nat} {x : Str} {pos' : Pos} (he : PEF X g W e m) (hN : X.N.Nodup) (hi : X.N[i]? = some x := by rfl) (hx : Loc X.env.scope x := by first | exact Or.inl rfl | exact Or.inr rfl)
    (hs : swapsWith e (some (.Name x pos')) pos.line X.env = pure false := by rfl) (hf : X.fn x = true ∨ X.env.scope.names.lookup x = some .local := by first | exact .inl rfl | exact .inr rfl | assumption) : PSM X g W (.Assign [.Name x pos'] e pos) (sSetF i m) := by
  obtain ⟨t, h1, h2⟩ := he
  exact ⟨_, ps_set hN hi hx h1 hs hf, ev_setF h2⟩
end
end DL

set_option Elab.async false
set_option linter.all false
set_option maxRecDepth 100000
set_option maxHeartbeats 400000
namespace DL
open PySem L2
/-! ### targets -/
def stE (i : Nat) (x : Sl) (env : En) : Option En := match env[i]? with
  | some (.pn _) => none
  | some _ => some (env.set i x)
  | none => none
abbrev Tg := D → En → Option En
abbrev Tgs := List D → En → Option En
def tgName (i : Nat) : Tg := fun d => stE i (.sh d)
def tgNil : Tgs := fun ds env => match ds with
  | [] => some env
  | _ => none
def tgCons (t : Tg) (u : Tgs) : Tgs := fun ds env => match ds with
  | d :: r => (t d env).bind (u r)
  | [] => none
def tgTup (n : Nat) (t : Tgs) : Tg := fun d env => match d with
  | .tup ds => if ds.length = n then t ds env else none
  | _ => none
def tgLst (n : Nat) (t : Tgs) : Tg := fun d env => match d with
  | .lst ds => if ds.length = n then t ds env else none
  | _ => none
section
variable (K : PySem.W.Frag) (g : G)
def EvG (gt : TG) (t : Tg) (ts : List Nat) : Prop := ∀ env σ Hf H v d, SR K g env σ Hf H → Rep K g Hf d v → ∀ Q : L2.St → Hp → Prop,
  (match t d env with
   | some env' => ∀ σ' Hf' H', Step K g env σ Hf H env' σ' Hf' H' → (∀ j, j ∉ ts → σ'[j]? = σ[j]?) → Q σ' H'
   | none => False) → gt v σ H Q
def EvGs (gt : TGs) (t : Tgs) (ts : List Nat) : Prop := ∀ env σ Hf H vs ds, SR K g env σ Hf H → Reps K g Hf ds vs → ∀ Q : L2.St → Hp → Prop,
  (match t ds env with
   | some env' => ∀ σ' Hf' H', Step K g env σ Hf H env' σ' Hf' H' → (∀ j, j ∉ ts → σ'[j]? = σ[j]?) → Q σ' H'
   | none => False) → gt vs σ H Q
end
section
variable {K : PySem.W.Frag} {g : G} {env env1 env' : En} {σ σ1 σ' : L2.St} {Hf H Hf1 H1 Hf' H' : Hp}
theorem evg_name (i : Nat) : EvG K g (gName i) (tgName i) [i] := by
  intro env σ Hf H v d s r Q h
  unfold tgName stE at h
  have set_out : ∀ j, j ∉ [i] → (σ.set i (some v))[j]? = σ[j]? := fun j hj => by
    rw [List.getElem?_set_ne (fun c => hj (by rw [c]; exact List.mem_singleton.mpr rfl))]
  cases q : env[i]? with
  | none => rw [q] at h; exact h.elim
  | some y =>
    rw [q] at h
    cases y with
    | pn d => exact h.elim
    | _ => exact h _ Hf H (store_step s q (fun d z => nomatch z) ⟨v, rfl, r⟩ (fun p z => nomatch z) (fun d z => nomatch z) (Step.refl s) (fun p z => nomatch z)) set_out
theorem evg_nil : EvGs K g gNil tgNil [] := by
  intro env σ Hf H vs ds s r Q h
  cases r with
  | nil => exact ⟨rfl, h σ Hf H (Step.refl s) fun _ _ => rfl⟩
  | cons a b => exact h.elim
theorem evg_cons {t : TG} {u : TGs} {a : Tg} {b : Tgs} {ts us : List Nat} (ha : EvG K g t a ts) (hb : EvGs K g u b us) : EvGs K g (gCons t u) (tgCons a b) (ts ++ us) := by
  intro env σ Hf H vs ds s r Q h
  cases r with
  | nil => exact h.elim
  | @cons d ds v vs r1 r2 =>
    refine ⟨v, vs, rfl, ha env σ Hf H v d s r1 _ ?_⟩
    change (match (a d env).bind (b ds) with
      | some env' => ∀ σ' Hf' H', Step K g env σ Hf H env' σ' Hf' H' → (∀ j, j ∉ ts ++ us → σ'[j]? = σ[j]?) → Q σ' H'
      | none => False) at h
    cases q : a d env with
    | none => rw [q] at h; exact h.elim
    | some e =>
      rw [q] at h
      intro σ1 Hf1 H1 s1 o1
      refine hb e σ1 Hf1 H1 vs ds s1.sr (r2.mono s1.f) Q ?_
      revert h
      show (match b ds e with
        | some env' => ∀ σ' Hf' H', Step K g env σ Hf H env' σ' Hf' H' → (∀ j, j ∉ ts ++ us → σ'[j]? = σ[j]?) → Q σ' H'
        | none => False) → _
      cases b ds e with
      | none => exact fun h => h
      | some e2 => exact fun h σ2 Hf2 H2 s2 o2 => h σ2 Hf2 H2 (s1.trans s2) fun j hj => (o2 j fun c => hj (List.mem_append_right _ c)).trans (o1 j fun c => hj (List.mem_append_left _ c))
theorem evg_tup {u : TGs} {b : Tgs} {us : List Nat} {n : Nat} (hb : EvGs K g u b us) : EvG K g (gTup K n u) (tgTup n b) us := by
  intro env σ Hf H v d s r Q h
  cases r <;> try exact (show False from h).elim
  case tup a ds vs h1 r1 =>
    dsimp only [tgTup] at h
    by_cases c : ds.length = n
    · rw [if_pos c] at h
      exact ⟨a, vs, rfl, s.ex.t h1, by rw [← r1.len]; exact c, hb env σ Hf H vs ds s r1 Q h⟩
    · rw [if_neg c] at h
      exact h.elim
end
structure PGM (X : Cx) (g : G) (e : Expr) (t : Tg) (ts : List Nat) : Prop where
  ex : ∃ u, PG X e u ∧ EvG X.K g u t ts
structure PGsM (X : Cx) (g : G) (e : List Expr) (t : Tgs) (ts : List Nat) : Prop where
  ex : ∃ u, PGs X e u ∧ EvGs X.K g u t ts
section
variable {X : Cx} {g : G} {W : WX} {e : Expr} {es : List Expr} {t : Tg} {u : Tgs} {ts us : List Nat} {pos : Pos} {m : M D}
theorem g_name (i : Nat) {x : Str} (hN : X.N.Nodup) (hi : X.N[i]? = some x := by rfl) (hx : Loc X.env.scope x := by first | exact Or.inl rfl | exact Or.inr rfl) (hf : X.fn x = true ∨ X.env.scope.names.lookup x = some .local := by first | exact .inl rfl | exact .inr rfl | assumption) :
    PGM X g (.Name x pos) (tgName i) [i] := ⟨_, pg_name hN hi hx hf, evg_name i⟩
theorem gs_nil : PGsM X g [] tgNil [] := ⟨_, pgs_nil, evg_nil⟩
theorem gs_cons (h : PGM X g e t ts) (k : PGsM X g es u us) (hs : (assignEach (e :: es) X.env).map (·.2) = assign e X.env :: (assignEach es X.env).map (·.2) := by rfl) : PGsM X g (e :: es) (tgCons t u) (ts ++ us) := by
  obtain ⟨a, h1, h2⟩ := h
  obtain ⟨b, h3, h4⟩ := k
  exact ⟨_, pgs_cons h1 h3 hs, evg_cons h2 h4⟩
theorem g_tup {k n : Nat} (h : PGsM X g es u us) (hc : X.calm = true := by rfl) (hn : (assignEach es X.env).length = n := by rfl) (hst : (assignEach es X.env).findIdx? (·.1) = none := by rfl) : PGM X g (.Tuple es k pos) (tgTup n u) us := by
  obtain ⟨a, h1, h2⟩ := h
  exact ⟨_, pg_tup hc h1 hn hst, evg_tup h2⟩
/-- target = e -/
def sAsg (m : M D) (t : Tg) : S := bnd m fun d env => match t d env with
  | some e => .ok .nx e
  | none => .bad
theorem ev_asg {K : PySem.W.Frag} {te : TE} {gt : TG} (he : EvM K g W te m) (hg : EvG K g gt t ts) : EvS K g W (tAsg te gt) (sAsg m t) :=
  fun env σ Hf H s Z h => he env σ Hf H s _ (h.bnd.imp fun d e1 Hf1 H1 _ s1 h1 v r => by
    refine hg e1 σ Hf1 H1 v d s1.sr r Z.nx ?_
    cases q : t d e1 with
    | none => rw [q] at h1; exact h1
    | some e2 => rw [q] at h1; exact fun σ2 Hf2 H2 s2 _ => h1 σ2 Hf2 H2 s2)
theorem s_asg {tg : Expr} (he : PEM X g W e m) (hg : PGM X g tg t ts) (hs : swapsWithSole [tg] e pos.line X.env = pure false := by rfl) (hw : swappedStores [tg] e X.env = pure none := by rfl)
    (h1 : (assignEach [tg] X.env).map (·.2) = [assign tg X.env] := by rfl) : PSM X g W (.Assign [tg] e pos) (sAsg m t) := by
  obtain ⟨a, k1, k2⟩ := he
  obtain ⟨b, k3, k4⟩ := hg
  exact ⟨_, ps_asg k1 k3 hs hw h1, ev_asg k2 k4⟩
end
end DL

set_option Elab.async false
set_option linter.all false
set_option maxRecDepth 100000
set_option maxHeartbeats 400000
namespace DL
open PySem L2
/-! ### what a loop walks -/
section
variable (K : PySem.W.Frag) (g : G) (W : WX)
def Yl (J : It) (ds : List D) (Hf0 : Hp) : Prop := ∀ (i : Nat) (Hf H : Hp), Ex Hf0 Hf → Ex Hf H →
  (∀ d, ds[i]? = some d → J.go i H ∧ ∀ x H', J.yld i H x H' → ∃ Hf', Grow Hf H Hf' H' ∧ Rep K g Hf' d x) ∧ (ds.length = i → J.stop i H)
def EvI (wi : TI) (mi : M (List D)) : Prop := ∀ env σ Hf H, SR K g env σ Hf H → ∀ R : It → Hp → Prop,
  Aft K g W env σ Hf H (mi env) (fun ds _ Hf' H' => ∀ J, Yl K g J ds Hf' → R J H') → wi σ H R
end
structure PIM (X : Cx) (g : G) (W : WX) (tg e : Expr) (mi : M (List D)) : Prop where
  ex : ∃ t, PI X tg e t ∧ EvI X.K g W t mi
/-- a list, a tuple or a text -/
def iSeq (K : PySem.W.Frag) (tl : TE) : TI := fun σ H R => tl σ H fun x H1 => (∃ a, x = .ref a ∧ (∃ xs, SqL K H1 a xs) ∧ R (Itl K a) H1) ∨ (∃ a, x = .ref a ∧ (∃ xs, SqT K H1 a xs) ∧ R (Itt K a) H1) ∨ ∃ z, x = .str z ∧ R (Its z) H1
section
variable {X : Cx} {tg : Expr}
theorem pi_seq {l : Expr} {tl : TE} (hl : PE X l tl) : PI X tg l (iSeq X.K tl) := by
  refine ⟨fun pins s σ H R I h => ?_⟩
  refine thn (hl.run pins s σ H _ I h) fun v s1 ⟨x, H1, I1, r1, q1⟩ => ?_
  rcases q1 with ⟨a, e, ⟨xs, hq⟩, q⟩ | ⟨a, e, ⟨xs, hq⟩, q⟩ | ⟨z, e, q⟩
  · subst e
    cases r1
    obtain ⟨its, rv, p, hz⟩ := I1.list hq
    refine wpAny_pyIter_list p.isList ?_
    refine ⟨s1.heap.objs.size, [s1.heap.objs.size], _, _, H1, rfl, I1.kept (t' := s1.toks) fun b o e => Heap.get?_push_of_some _ e, turn_list a _, ⟨_, Heap.get?_push_size _ rfl, rfl, rfl⟩, fun b hb => ?_, q⟩
    have e : b = s1.heap.objs.size := by simpa using hb
    subst e
    exact I1.fpOk (Nat.le_refl _) (I1.hok.fresh (Nat.le_refl _))
  · subst e
    cases r1
    obtain ⟨its, rv, p, hz⟩ := I1.tuple hq
    refine wpAny_pyIter_tuple (show s1.heap.IsTuple a its.toArray from p) ?_
    refine ⟨s1.heap.objs.size, [s1.heap.objs.size], _, _, H1, rfl, I1.kept (t' := s1.toks) fun b o e => Heap.get?_push_of_some _ e, turn_tuple a _, ⟨_, Heap.get?_push_size _ rfl, rfl, rfl⟩, fun b hb => ?_, q⟩
    have e : b = s1.heap.objs.size := by simpa using hb
    subst e
    exact I1.fpOk (Nat.le_refl _) (I1.hok.fresh (Nat.le_refl _))
  · subst e
    obtain ⟨t, rfl⟩ := r1
    cases ha : z.cps.all (· < 128)
    · exact wpAny_pyIter_wide ha (pi_one (tk := s1.toks) I1 _ (turn_str _ z t "str_iterator" (.inr rfl)) ⟨_, Heap.get?_push_size _ rfl, rfl, rfl⟩ q)
    · exact wpAny_pyIter_ascii ha (pi_one (tk := s1.toks) I1 _ (turn_str _ z t "str_ascii_iterator" (.inl rfl)) ⟨_, Heap.get?_push_size _ rfl, rfl, rfl⟩ q)
end
def itemsD : D → Option (List D)
  | .lst xs => some xs
  | .tup xs => some xs
  | .str z => some (z.cps.toList.map fun c => .str ⟨#[c]⟩)
  | _ => none
def iItm (m : M D) : M (List D) := bnd m fun d => lft (itemsD d)
def enuL : Nat → List D → List D
  | _, [] => []
  | n, x :: xs => .tup [.int (n : Int), x] :: enuL (n + 1) xs
def enuD : List D → Option (List D)
  | [.lst xs] => some (enuL 0 xs)
  | _ => none
def zipL : List D → List D → List D
  | x :: xs, y :: ys => .tup [x, y] :: zipL xs ys
  | _, _ => []
def zipD : List D → Option (List D)
  | [.lst xs, .lst ys] => some (zipL xs ys)
  | [.tup xs, .tup ys] => some (zipL xs ys)
  | _ => none
theorem enuL_get : ∀ (xs : List D) (n i : Nat), (enuL n xs)[i]? = (xs[i]?).map fun x => .tup [.int ((n + i : Nat) : Int), x]
  | [], n, i => by simp [enuL]
  | x :: xs, n, 0 => by simp [enuL]
  | x :: xs, n, i + 1 => by
    rw [enuL, List.getElem?_cons_succ, List.getElem?_cons_succ, enuL_get xs (n + 1) i]
    congr 1
    funext y
    rw [show n + 1 + i = n + (i + 1) by omega]
theorem enuL_len : ∀ (xs : List D) (n : Nat), (enuL n xs).length = xs.length
  | [], n => rfl
  | x :: xs, n => by rw [enuL, List.length_cons, List.length_cons, enuL_len]
theorem zipL_get : ∀ (xs ys : List D) (i : Nat) (d : D), (zipL xs ys)[i]? = some d → ∃ x y, xs[i]? = some x ∧ ys[i]? = some y ∧ d = .tup [x, y]
  | [], ys, i, d, h => by simp [zipL] at h
  | x :: xs, [], i, d, h => by simp [zipL] at h
  | x :: xs, y :: ys, 0, d, h => by simp [zipL] at h; exact ⟨x, y, rfl, rfl, h.symm⟩
  | x :: xs, y :: ys, i + 1, d, h => by
    rw [zipL, List.getElem?_cons_succ] at h
    obtain ⟨a, b, h1, h2, h3⟩ := zipL_get xs ys i d h
    exact ⟨a, b, by rw [List.getElem?_cons_succ]; exact h1, by rw [List.getElem?_cons_succ]; exact h2, h3⟩
theorem zipL_len : ∀ (xs ys : List D), (zipL xs ys).length = min xs.length ys.length
  | [], ys => by simp [zipL]
  | x :: xs, [] => by simp [zipL]
  | x :: xs, y :: ys => by rw [zipL, List.length_cons, List.length_cons, List.length_cons, zipL_len]; omega
section
variable {K : PySem.W.Frag} {g : G} {W : WX} {Hf0 : Hp}
theorem yl_list {a : Addr} {vs : List V} {ds : List D} (h : Hf0 a = some (.lst vs)) (r : Reps K g Hf0 ds vs) : Yl K g (Itl K a) ds Hf0 := fun i Hf H e1 e2 => by
  have hs : SqL K H a vs := SqL.of (e2 _ _ (e1 _ _ h))
  refine ⟨fun d hd => ?_, fun q => ⟨vs, hs, by rw [← r.len, q]; exact Nat.le_refl _⟩⟩
  obtain ⟨v, hv, rv⟩ := Reps.getD r hd
  refine ⟨⟨vs, v, hs, hv⟩, fun x H' hx => ?_⟩
  obtain ⟨rfl, hx⟩ := hx
  have := hx vs hs
  rw [hv] at this
  cases this
  exact ⟨Hf, Grow.refl e2, rv.mono e1⟩
theorem yl_tup {a : Addr} {vs : List V} {ds : List D} (h : SqT K Hf0 a vs) (r : Reps K g Hf0 ds vs) : Yl K g (Itt K a) ds Hf0 := fun i Hf H e1 e2 => by
  have hs : SqT K H a vs := e2.t (e1.t h)
  refine ⟨fun d hd => ?_, fun q => ⟨vs, hs, by rw [← r.len, q]; exact Nat.le_refl _⟩⟩
  obtain ⟨v, hv, rv⟩ := Reps.getD r hd
  refine ⟨⟨vs, v, hs, hv⟩, fun x H' hx => ?_⟩
  obtain ⟨rfl, hx⟩ := hx
  have := hx vs hs
  rw [hv] at this
  cases this
  exact ⟨Hf, Grow.refl e2, rv.mono e1⟩
theorem yl_str {z : Str} : Yl K g (Its z) (z.cps.toList.map fun c => .str ⟨#[c]⟩) Hf0 := fun i Hf H e1 e2 => by
  refine ⟨fun d hd => ?_, fun q => ?_⟩
  · rw [List.getElem?_map] at hd
    cases c : z.cps.toList[i]? with
    | none => rw [c] at hd; cases hd
    | some k =>
      rw [c] at hd
      cases hd
      have hi : z.cps[i]? = some k := by rw [← Array.getElem?_toList]; exact c
      refine ⟨(Array.getElem?_eq_some_iff.mp hi).1, fun x H' hx => ?_⟩
      obtain ⟨rfl, k', hk, rfl⟩ := hx
      rw [hi] at hk
      cases hk
      exact ⟨Hf, Grow.refl e2, .str _⟩
  · rw [List.length_map, Array.length_toList] at q
    exact Nat.le_of_eq q
theorem evi_seq {tl : TE} {m : M D} (h : EvM K g W tl m) : EvI K g W (iSeq K tl) (iItm m) :=
  fun env σ Hf H s R q => h env σ Hf H s _ (q.bnd.imp fun d e1 Hf1 H1 _ s1 h1 v r => by
    obtain ⟨ds, hd, k⟩ := Aft.lft s1.sr h1
    have k' := k Hf1 H1 (Grow.refl s1.sr.ex)
    cases r <;> try (cases hd; done)
    case lst e r _ => cases hd; exact .inl ⟨_, rfl, ⟨_, SqL.of (s1.sr.ex _ _ e)⟩, k' _ (yl_list e r)⟩
    case tup e r _ => cases hd; exact .inr (.inl ⟨_, rfl, ⟨_, s1.sr.ex.t e⟩, k' _ (yl_tup e r)⟩)
    case str _ => cases hd; exact .inr (.inr ⟨_, rfl, k' _ yl_str⟩))
theorem yl_range (a : Int) (n : Nat) : Yl K g (Itr a n) ((List.range n).map fun i => .int (a + ((i : Nat) : Int))) Hf0 := fun i Hf H e1 e2 => by
  refine ⟨fun d hd => ?_, fun q => ?_⟩
  · rw [List.getElem?_map] at hd
    cases c : (List.range n)[i]? with
    | none => rw [c] at hd; cases hd
    | some k =>
      rw [c] at hd
      cases hd
      have hi := (List.getElem?_eq_some_iff.mp c)
      obtain ⟨hi, hk⟩ := hi
      rw [List.getElem_range] at hk
      subst hk
      rw [List.length_range] at hi
      refine ⟨hi, fun x H' hx => ?_⟩
      obtain ⟨rfl, rfl⟩ := hx
      exact ⟨Hf, Grow.refl e2, .int _⟩
  · rw [List.length_map, List.length_range] at q
    exact Nat.le_of_eq q
theorem yl_range0 (n : Nat) : Yl K g (Itr 0 n) ((List.range n).map fun i => .int ((i : Nat) : Int)) Hf0 := by
  have h := yl_range (K := K) (g := g) (Hf0 := Hf0) 0 n
  simpa using h
def rng1D : List D → Option (List D)
  | [.int n] => if n ≤ 1000000 ∧ -1000000 ≤ n then some ((List.range n.toNat).map fun i => .int ((i : Nat) : Int)) else none
  | _ => none
def rng2D : List D → Option (List D)
  | [.int a, .int b] => if -1000000 ≤ a ∧ a ≤ 1000000 ∧ -1000000 ≤ b ∧ b ≤ 1000000 then some ((List.range (b - a).toNat).map fun i => .int (a + ((i : Nat) : Int))) else none
  | _ => none
def iArg (f : List D → Option (List D)) (m : M (List D)) : M (List D) := bnd m fun d => lft (f d)
theorem evi_rng1 {ta : TA} {m : M (List D)} (h : EvL K g W ta m) : EvI K g W (iRng1 ta) (iArg rng1D m) :=
  fun env σ Hf H s R q => h env σ Hf H s _ (q.bnd.imp fun ds e1 Hf1 H1 _ s1 h1 vs r => by
    obtain ⟨z, hz, k⟩ := Aft.lft s1.sr h1
    have k' := k Hf1 H1 (Grow.refl s1.sr.ex)
    unfold rng1D at hz
    split at hz
    · rename_i n _
      split at hz
      · rename_i c
        cases hz
        cases r with
        | cons a b =>
          cases b
          cases a
          exact ⟨n, rfl, by omega, by omega, k' _ (yl_range0 _)⟩
      · cases hz
    · cases hz)
theorem yl_enum {a : Addr} {vs : List V} {ds : List D} (h : Hf0 a = some (.lst vs)) (r : Reps K g Hf0 ds vs) : Yl K g (Ite K a) (enuL 0 ds) Hf0 := fun i Hf H e1 e2 => by
  have hs : SqL K H a vs := SqL.of (e2 _ _ (e1 _ _ h))
  refine ⟨fun d hd => ?_, fun q => ⟨vs, hs, by rw [← r.len, ← q, enuL_len]; exact Nat.le_refl _⟩⟩
  rw [enuL_get] at hd
  cases c : ds[i]? with
  | none => rw [c] at hd; cases hd
  | some y =>
    rw [c] at hd
    cases hd
    obtain ⟨v, hv, rv⟩ := Reps.getD r c
    refine ⟨⟨vs, v, hs, hv⟩, fun x H' hx => ?_⟩
    obtain ⟨T, z, rfl, hT, rfl, hz⟩ := hx
    have := hz vs hs
    rw [hv] at this
    cases this
    obtain ⟨w, rr⟩ := new_tup (vs := [.int ((i : Nat) : Int), v]) (ds := [.int ((i : Nat) : Int), y]) e2 hT (.cons (.int _) (.cons (rv.mono e1) .nil))
    exact ⟨_, w, by rw [Nat.zero_add]; exact rr⟩
theorem evi_enum {ta : TA} {m : M (List D)} (h : EvL K g W ta m) : EvI K g W (iEnum K ta) (iArg enuD m) :=
  fun env σ Hf H s R q => h env σ Hf H s _ (q.bnd.imp fun ds e1 Hf1 H1 _ s1 h1 vs r => by
    obtain ⟨z, hz, k⟩ := Aft.lft s1.sr h1
    have k' := k Hf1 H1 (Grow.refl s1.sr.ex)
    unfold enuD at hz
    split at hz
    · cases hz
      cases r with
      | cons a b =>
        cases b
        cases a with
        | lst e r => exact ⟨_, _, rfl, SqL.of (s1.sr.ex _ _ e), k' _ (yl_enum e r)⟩
    · cases hz)
end
section
variable {X : Cx} {g : G} {W : WX} {tg e e2 : Expr} {es : List Expr} {m : M D} {ma : M (List D)} {p pos tpos : Pos} {elts : List Expr} {kk : Nat}
theorem i_seq (h : PEM X g W e m) : PIM X g W tg e (iItm m) := by
  obtain ⟨t, h1, h2⟩ := h
  exact ⟨_, pi_seq h1, evi_seq h2⟩
theorem i_rng1 {a : Expr} (h : PAM X g W [a] ma) (hm : X.mg "range" = none) (hg : Gl X "range" := by rfl) (hs : starEach [a] X.env = [(false, eval a X.env)] := by rfl) : PIM X g W tg (.Call (.Name "range" p) [a] [] pos) (iArg rng1D ma) := by
  obtain ⟨t, h1, h2⟩ := h
  exact ⟨_, pi_range1 hg hm h1 hs, evi_rng1 h2⟩
theorem i_enum (h : PAM X g W [e] ma) (hm : X.mg "enumerate" = none) (hg : Gl X "enumerate" := by rfl) (hs : starEach [e] X.env = [(false, eval e X.env)] := by rfl) : PIM X g W (.Tuple elts kk tpos) (.Call (.Name "enumerate" p) [e] [] pos) (iArg enuD ma) := by
  obtain ⟨t, h1, h2⟩ := h
  exact ⟨_, pi_enum hg hm h1 hs, evi_enum h2⟩
end
end DL

set_option Elab.async false
set_option linter.all false
set_option maxRecDepth 100000
set_option maxHeartbeats 400000
namespace DL
open PySem L2
/-! ### for, while -/
def sLoop (t : Tg) (b : S) : List D → S
  | [] => sNx
  | d :: ds => fun env => match t d env with
    | none => .bad
    | some e1 => match b e1 with
      | .ok .nx e2 => sLoop t b ds e2
      | .ok .ct e2 => sLoop t b ds e2
      | .ok .bk e2 => .ok .nx e2
      | r => r
def sFor (mi : M (List D)) (t : Tg) (b : S) : S := bnd mi fun ds => sLoop t b ds
def sWhile (c : M Bool) (b : S) : Nat → S
  | 0 => fun _ => .bad
  | n + 1 => bnd c fun x => if x = true then (fun env => match b env with
      | .ok .nx e2 => sWhile c b n e2
      | .ok .ct e2 => sWhile c b n e2
      | .ok .bk e2 => .ok .nx e2
      | r => r) else sNx
section
variable {K : PySem.W.Frag} {g : G} {W : WX}
/-- a body's end, in a loop -/
theorem Out.turn {env : En} {σ : L2.St} {Hf H : Hp} {r : Rs Ctl} {nextL : S} {Z : Ends} {N : L2.St → Hp → Prop}
    (h : Out K g W env σ Hf H (match r with
      | .ok .nx e2 => nextL e2
      | .ok .ct e2 => nextL e2
      | .ok .bk e2 => .ok .nx e2
      | r => r) Z) (hN : ∀ e2 σ2 Hf2 H2, SR K g e2 σ2 Hf2 H2 → Ex Hf Hf2 → Out K g W e2 σ2 Hf2 H2 (nextL e2) Z → N σ2 H2) : Out K g W env σ Hf H r { Z with nx := N, ct := N, bk := Z.nx } := by
  cases r with
  | bad => exact h
  | ex c d e => exact h
  | ok x e =>
    cases x with
    | nx => exact fun σ2 Hf2 H2 s2 => hN e σ2 Hf2 H2 s2.sr s2.f (Out.after s2 h)
    | ct => exact fun σ2 Hf2 H2 s2 => hN e σ2 Hf2 H2 s2.sr s2.f (Out.after s2 h)
    | bk => exact fun σ2 Hf2 H2 s2 => h σ2 Hf2 H2 s2
    | rt d => exact h
    | rto d => exact h
theorem ev_for {wi : TI} {gt : TG} {tb : TS} {mi : M (List D)} {t : Tg} {ts : List Nat} {b : S} (hi : EvI K g W wi mi) (hg : EvG K g gt t ts) (hb : EvS K g W tb b) : EvS K g W (tFor wi gt tb) (sFor mi t b) := by
  intro env σ Hf H s Z h
  refine hi env σ Hf H s _ (h.bnd.imp fun ds e1 Hf1 H1 _ s1 h1 J hJ => ?_)
  refine ⟨fun i m σ' H' => ∃ env' Hf', SR K g env' σ' Hf' H' ∧ Ex Hf1 Hf' ∧ m + i = ds.length ∧ Out K g W env' σ' Hf' H' (sLoop t b (ds.drop i) env') Z, ⟨ds.length, e1, Hf1, s1.sr, Ex.refl _, rfl, h1⟩, ?_⟩
  rintro i m σ' H' ⟨env', Hf', s', x', hm, ho⟩
  obtain ⟨y1, y2⟩ := hJ i Hf' H' x' s'.ex
  cases q : ds.drop i with
  | nil =>
    rw [q] at ho
    have hi : ds.length = i := by
      have : ds.length ≤ i := List.drop_eq_nil_iff.mp q
      omega
    exact .inl ⟨y2 hi, ho σ' Hf' H' (Step.refl s')⟩
  | cons d rest =>
    rw [q] at ho
    have hlt : i < ds.length := by
      rcases Nat.lt_or_ge i ds.length with c | c
      · exact c
      · rw [List.drop_eq_nil_iff.mpr c] at q; cases q
    have hd : ds[i]? = some d := by
      have := List.getElem?_drop (xs := ds) (i := i) (j := 0)
      rw [q] at this
      simpa using this.symm
    have hr : ds.drop (i + 1) = rest := by
      have := List.drop_drop (l := ds) (i := 1) (j := i)
      rw [q] at this
      simpa [Nat.add_comm] using this.symm
    obtain ⟨go, yld⟩ := y1 d hd
    refine .inr ⟨go, fun σ2 H2 => ∃ m', m' < m ∧ ∃ env2 Hf2, SR K g env2 σ2 Hf2 H2 ∧ Ex Hf1 Hf2 ∧ m' + (i + 1) = ds.length ∧ Out K g W env2 σ2 Hf2 H2 (sLoop t b (ds.drop (i + 1)) env2) Z, fun σ2 H2 q => q, fun x H2 hy => ?_⟩
    obtain ⟨Hf2, w, rx⟩ := yld x H2 hy
    have sg := w.step s'
    refine hg env' σ' Hf2 H2 x d sg.sr rx _ ?_
    have ho2 := Out.after sg ho
    unfold sLoop at ho2
    revert ho2
    cases c : t d env' with
    | none => exact fun h => h
    | some e2 =>
      intro ho2 σ3 Hf3 H3 s3 _
      refine hb e2 σ3 Hf3 H3 s3.sr _ (Out.turn (nextL := sLoop t b rest) (Out.after s3 ho2) fun e4 σ4 Hf4 H4 s4 x4 o4 => ⟨m - 1, by omega, e4, Hf4, s4, ((x'.trans w.f).trans s3.f).trans x4, by omega, by rw [hr]; exact o4⟩)
end
/-! ### comprehensions -/
def wpE (env : En) : List Nat → En
  | [] => env
  | v :: vs => (wpE env vs).set v .no
def rsE (env old : En) : List Nat → En
  | [] => env
  | v :: vs => (rsE env old vs).set v (old.getD v .no)
def calmS : Option Sl → Bool
  | some (.sh _) => true
  | some .no => true
  | _ => false
def calmE (env : En) (vs : List Nat) : Bool := vs.all fun v => calmS env[v]?
/-- the items, one after the other; behind each the block's own names are forgotten -/
def lcLoop (t : Tg) (c : M Bool) (m : M D) (vs : List Nat) : List D → List D → M (List D)
  | [], acc => ret acc
  | d :: ds, acc => fun env => match t d env with
    | none => .bad
    | some e1 => (bnd c fun b => if b = true then bnd m fun z => fun e2 => if calmE e2 vs = true then lcLoop t c m vs ds (acc ++ [z]) (wpE e2 vs) else .bad
        else fun e2 => if calmE e2 vs = true then lcLoop t c m vs ds acc (wpE e2 vs) else .bad) e1
def mLc (mi : M (List D)) (t : Tg) (c : M Bool) (m : M D) (vs : List Nat) : M D := bnd mi fun ds env =>
  if calmE env vs = true ∧ small ds.length = true then (match nox (lcLoop t c m vs ds []) (wpE env vs) with
    | .ok acc e => .ok (.lst acc) (rsE e env vs)
    | _ => .bad) else .bad
section
variable {K : PySem.W.Frag} {g : G} {W : WX} {env env1 env' : En} {σ σ1 σ' : L2.St} {Hf H Hf1 H1 Hf' H' : Hp}
theorem wpE_len (env : En) : ∀ vs : List Nat, (wpE env vs).length = env.length
  | [] => rfl
  | v :: vs => by rw [wpE, List.length_set, wpE_len env vs]
theorem rsE_len (env old : En) : ∀ vs : List Nat, (rsE env old vs).length = env.length
  | [] => rfl
  | v :: vs => by rw [rsE, List.length_set, rsE_len env old vs]
theorem wpE_out {env : En} {j : Nat} : ∀ {vs : List Nat}, j ∉ vs → (wpE env vs)[j]? = env[j]?
  | [], _ => rfl
  | v :: vs, h => by
    rw [wpE, List.getElem?_set_ne (fun c => h (by rw [c]; exact List.mem_cons_self)), wpE_out fun c => h (List.mem_cons_of_mem _ c)]
theorem wpE_in {env : En} {j : Nat} : ∀ {vs : List Nat}, j ∈ vs → j < env.length → (wpE env vs)[j]? = some .no
  | v :: vs, h, hl => by
    rw [wpE]
    by_cases c : v = j
    · subst c
      rw [List.getElem?_set_self (by rw [wpE_len]; exact hl)]
    · rw [List.getElem?_set_ne c]
      exact wpE_in (by rcases List.mem_cons.mp h with q | q; exact absurd q.symm c; exact q) hl
theorem rsE_out {env old : En} {j : Nat} : ∀ {vs : List Nat}, j ∉ vs → (rsE env old vs)[j]? = env[j]?
  | [], _ => rfl
  | v :: vs, h => by
    rw [rsE, List.getElem?_set_ne (fun c => h (by rw [c]; exact List.mem_cons_self)), rsE_out fun c => h (List.mem_cons_of_mem _ c)]
theorem rsE_in {env old : En} {j : Nat} (hl : env.length = old.length) : ∀ {vs : List Nat}, j ∈ vs → (rsE env old vs)[j]? = old[j]?
  | v :: vs, h => by
    rw [rsE]
    by_cases c : v = j
    · subst c
      by_cases q : v < env.length
      · rw [List.getElem?_set_self (by rw [rsE_len]; exact q), List.getElem?_eq_getElem (by omega), List.getD_eq_getElem?_getD, List.getElem?_eq_getElem (by omega)]
        rfl
      · rw [List.getElem?_eq_none (by rw [List.length_set, rsE_len]; omega), List.getElem?_eq_none (by omega)]
    · rw [List.getElem?_set_ne c]
      exact rsE_in hl (by rcases List.mem_cons.mp h with q | q; exact absurd q.symm c; exact q)
theorem wipe_in {σ : L2.St} {j : Nat} : ∀ {vs : List Nat}, j ∈ vs → j < σ.length → (wipe σ vs)[j]? = some none
  | v :: vs, h, hl => by
    rw [wipe]
    by_cases c : v = j
    · subst c
      rw [List.getElem?_set_self (by rw [wipe_length]; exact hl)]
    · rw [List.getElem?_set_ne c]
      exact wipe_in (by rcases List.mem_cons.mp h with q | q; exact absurd q.symm c; exact q) hl
theorem calm_at {vs : List Nat} (h : calmE env vs = true) {j : Nat} (hj : j ∈ vs) {s : Sl} (e : env[j]? = some s) : s.mut = none := by
  have := List.all_eq_true.mp h j hj
  rw [e] at this
  cases s <;> first | rfl | (cases this; done)
theorem calm_lt {vs : List Nat} (h : calmE env vs = true) {j : Nat} (hj : j ∈ vs) : j < env.length := by
  have := List.all_eq_true.mp h j hj
  rcases Nat.lt_or_ge j env.length with c | c
  · exact c
  · rw [List.getElem?_eq_none c] at this; cases this
/-- the block's own names are forgotten -/
theorem step_wipe {vs : List Nat} (s : SR K g env σ Hf H) (c : calmE env vs = true) : Step K g env σ Hf H (wpE env vs) (wipe σ vs) Hf H := by
  have own : ∀ (i : Nat) (x : Sl) (d : D), (wpE env vs)[i]? = some x → x.mut = some d → i ∉ vs ∧ env[i]? = some x := fun i x d e m => by
    by_cases q : i ∈ vs
    · rw [wpE_in q (calm_lt c q)] at e
      cases e
      cases m
    · rw [wpE_out q] at e
      exact ⟨q, e⟩
  refine ⟨Ex.refl _, ⟨s.ex, by rw [wipe_length, wpE_len]; exact s.len, fun i x o e e' => ?_, fun i j x y d d' p n e1 e2 m1 m2 f1 => ?_⟩, fun a u q q' _ => ⟨q, q'⟩, fun a o => ?_, fun _ h => h, fun i d e => ?_, wpE_len _ _⟩
  · by_cases q : i ∈ vs
    · rw [wpE_in q (calm_lt c q)] at e
      cases e
      trivial
    · rw [wpE_out q] at e
      rw [wipe_out q] at e'
      exact s.sl i x o e e'
  · obtain ⟨q1, e1⟩ := own i x d e1 m1
    obtain ⟨q2, e2⟩ := own j y d' e2 m2
    rw [wipe_out q1] at f1
    rw [wipe_out q2]
    exact s.ne i j x y d d' p n e1 e2 m1 m2 f1
  · obtain ⟨i, x, d, e, m, f⟩ := o
    obtain ⟨q, e⟩ := own i x d e m
    rw [wipe_out q] at f
    exact .inl ⟨i, x, d, e, m, f⟩
  · have q : i ∉ vs := fun q => by
      have := calm_at c q e
      cases this
    exact ⟨⟨d, by rw [wpE_out q]; exact e⟩, wipe_out q⟩
/-- .. and stand again behind the block -/
theorem step_restore {vs : List Nat} (s : SR K g env σ Hf H) (c : calmE env vs = true) (st : Step K g (wpE env vs) (wipe σ vs) Hf H env' (wipe σ vs) Hf' H') (hc : ∀ j ∈ vs, ∀ x, env'[j]? = some x → x.mut = none) :
    Step K g env σ Hf H (rsE env' env vs) σ Hf' H' := by
  have l : env'.length = env.length := st.le.trans (wpE_len _ _)
  have own : ∀ (i : Nat) (x : Sl) (d : D), (rsE env' env vs)[i]? = some x → x.mut = some d → i ∉ vs ∧ env'[i]? = some x := fun i x d e m => by
    by_cases q : i ∈ vs
    · rw [rsE_in l q] at e
      rw [calm_at c q e] at m
      cases m
    · rw [rsE_out q] at e
      exact ⟨q, e⟩
  refine ⟨st.f, ⟨st.sr.ex, by rw [rsE_len, l]; exact s.len, fun i x o e e' => ?_, fun i j x y d d' p n e1 e2 m1 m2 f1 => ?_⟩, fun a u q q' no => ?_, fun a o => ?_, st.th, fun i d e => ?_, by rw [rsE_len]; exact l⟩
  · by_cases q : i ∈ vs
    · rw [rsE_in l q] at e
      have w := s.sl i x o e e'
      have m := calm_at c q e
      cases x with
      | no => trivial
      | sh d => obtain ⟨v, a, r⟩ := w; exact ⟨v, a, r.mono st.f⟩
      | ow d => cases m
      | pn d => cases m
    · rw [rsE_out q] at e
      exact st.sr.sl i x o e (by rw [wipe_out q]; exact e')
  · obtain ⟨q1, e1⟩ := own i x d e1 m1
    obtain ⟨q2, e2⟩ := own j y d' e2 m2
    have := st.sr.ne i j x y d d' p n e1 e2 m1 m2 (by rw [wipe_out q1]; exact f1)
    rwa [wipe_out q2] at this
  · refine st.kp a u q q' fun o => no ?_
    obtain ⟨i, x, d, e, m, f⟩ := o
    by_cases w : i ∈ vs
    · rw [wpE_in w (calm_lt c w)] at e
      cases e
      cases m
    · rw [wpE_out w] at e
      rw [wipe_out w] at f
      exact ⟨i, x, d, e, m, f⟩
  · obtain ⟨i, x, d, e, m, f⟩ := o
    obtain ⟨q, e⟩ := own i x d e m
    rcases st.ow a ⟨i, x, d, e, m, by rw [wipe_out q]; exact f⟩ with w | w
    · left
      obtain ⟨i, x, d, e, m, f⟩ := w
      by_cases w : i ∈ vs
      · rw [wpE_in w (calm_lt c w)] at e
        cases e
        cases m
      · rw [wpE_out w] at e
        rw [wipe_out w] at f
        exact ⟨i, x, d, e, m, f⟩
    · exact .inr w
  · have q : i ∉ vs := fun q => by
      have := calm_at c q e
      cases this
    obtain ⟨h1, h2⟩ := st.pn i d (by rw [wpE_out q]; exact e)
    obtain ⟨d', h1⟩ := h1
    exact ⟨⟨d', by rw [rsE_out q]; exact h1⟩, rfl⟩
/-- a thing of ours that no name holds is written -/
theorem Step.write {p : Addr} {o : HO} (st : Step K g env σ Hf H env' σ' Hf' H') (h0 : H p = none) (h1 : Hf' p = none) (hp : H' p ≠ none) (no : ¬ Own env' σ' p) : Step K g env σ Hf H env' σ' Hf' (upd H' p o) := by
  refine ⟨st.f, ⟨fun a u q => ?_, st.sr.len, fun i x o' e e' => ?_, st.sr.ne⟩, fun a u q q' n => ?_, st.ow, fun a q => ?_, st.pn, st.le⟩
  · rw [upd_ne (ne_of_none q h1)]
    exact st.sr.ex a u q
  · have w := st.sr.sl i x o' e e'
    cases x with
    | no => trivial
    | sh d => exact w
    | ow d => obtain ⟨z, u, a, b, c, r⟩ := w; exact ⟨z, u, a, by rw [upd_ne (fun q => no ⟨i, _, d, e, rfl, by rw [e', a, q]⟩)]; exact b, c, r⟩
    | pn d => obtain ⟨z, u, a, b, c, r⟩ := w; exact ⟨z, u, a, by rw [upd_ne (fun q => no ⟨i, _, d, e, rfl, by rw [e', a, q]⟩)]; exact b, c, r⟩
  · obtain ⟨q1, q2⟩ := st.kp a u q q' n
    exact ⟨by rw [upd_ne (ne_of_none q h0)]; exact q1, q2⟩
  · by_cases c : a = p
    · subst c; rw [upd_same] at q; cases q
    · rw [upd_ne c] at q; exact st.th a q
theorem wipe_wipe {σ σ2 : L2.St} {vs ts : List Nat} (hl : σ2.length = σ.length) (h : ∀ j, j ∉ ts → σ2[j]? = (wipe σ vs)[j]?) (hs : ∀ j ∈ ts, j ∈ vs) : wipe σ2 vs = wipe σ vs := by
  refine List.ext_getElem? fun j => ?_
  by_cases c : j ∈ vs
  · by_cases q : j < σ.length
    · rw [wipe_in c q, wipe_in c (by omega)]
    · rw [List.getElem?_eq_none (by rw [wipe_length]; omega), List.getElem?_eq_none (by rw [wipe_length]; omega)]
  · rw [wipe_out c]
    exact h j fun q => c (hs j q)
end
end DL

set_option Elab.async false
set_option linter.all false
set_option maxRecDepth 100000
set_option maxHeartbeats 400000
namespace DL
open PySem L2
abbrev WF : WX := fun _ _ _ _ => False
/-- it comes to an end, and there P -/
def Blk {α : Type} (r : Rs α) (P : α → En → Prop) : Prop := match r with
  | .ok a e => P a e
  | _ => False
section
variable {K : PySem.W.Frag} {g : G} {W : WX} {α β : Type} {env : En} {σ : L2.St} {Hf H : Hp}
theorem Blk.bnd {m : M α} {k : α → M β} {P : β → En → Prop} (h : Blk (DL.bnd m k env) P) : Aft K g W env σ Hf H (m env) fun a e _ _ => Blk (k a e) P := by
  unfold DL.bnd at h
  revert h
  cases m env with
  | ok a e => exact fun h _ _ _ => h
  | ex c d e => exact fun h => h.elim
  | bad => exact fun h => h.elim
/-- a block's turn behind: what of the new list at p is kept -/
structure Lcv (K : PySem.W.Frag) (g : G) (ew : En) (τ : L2.St) (Hf1 H1 : Hp) (p : Addr) (acc : List D) (env' : En) (Hf' H' : Hp) : Prop where
  st : Step K g ew τ Hf1 H1 env' τ Hf' H'
  at_ : ∃ vs', H' p = some (.lst vs') ∧ Reps K g Hf' acc vs'
  nf : Hf' p = none
  no : ¬ Own env' τ p
theorem evf_lc {wi : TI} {gt : TG} {tt : TT} {te : TE} {mi : M (List D)} {t : Tg} {c : M Bool} {m : M D} {vs ts : List Nat} (hi : EvI K g W wi mi) (hg : EvG K g gt t ts) (hts : ∀ j ∈ ts, j ∈ vs) (hc : EvB K g WF tt c) (hm : EvM K g WF te m) :
    EvF K g W (tLc wi gt tt te vs) (mLc mi t c m vs) := by
  intro env σ Hf H s Q h
  refine hi env σ Hf H s _ (h.bnd.imp fun ds e1 Hf1 H1 _ s1 h1 J hJ D0 hD => ?_)
  by_cases cc : calmE e1 vs = true ∧ small ds.length = true
  case neg => rw [if_neg cc] at h1; exact h1.elim
  rw [if_pos cc] at h1
  obtain ⟨cm, sz⟩ := cc
  have sw := step_wipe s1.sr cm
  have lσ : σ.length = e1.length := s1.sr.len
  -- what the end asks
  have hP : Blk (lcLoop t c m vs ds [] (wpE e1 vs)) fun acc e => ∀ Hf' H', Step K g e1 σ Hf1 H1 (rsE e e1 vs) σ Hf' H' → ∀ p, New K g (rsE e e1 vs) σ H Hf' H' (.lst acc) p → Q (.ref p) H' := by
    unfold nox at h1
    revert h1
    cases lcLoop t c m vs ds [] (wpE e1 vs) with
    | ok acc e => exact fun h => h
    | ex c d e => exact fun h => h
    | bad => exact fun h => h
  clear h1
  have calm0 : ∀ j ∈ vs, ∀ x, (wpE e1 vs)[j]? = some x → x.mut = none := fun j hj x e => by
    rw [wpE_in hj (calm_lt cm hj)] at e
    cases e
    rfl
  refine ⟨fun i k H' => ∃ env' Hf' acc, Lcv K g (wpE e1 vs) (wipe σ vs) Hf1 H1 D0 acc env' Hf' H' ∧ k + i = ds.length ∧ acc.length ≤ i ∧ (∀ j ∈ vs, ∀ x, env'[j]? = some x → x.mut = none) ∧
      Blk (lcLoop t c m vs (ds.drop i) acc env') fun acc e => ∀ Hf' H', Step K g e1 σ Hf1 H1 (rsE e e1 vs) σ Hf' H' → ∀ p, New K g (rsE e e1 vs) σ H Hf' H' (.lst acc) p → Q (.ref p) H',
    ⟨ds.length, wpE e1 vs, Hf1, [], ⟨(own_new s1.sr.ex hD).step sw.sr, ⟨[], upd_same, .nil⟩, s1.sr.ex.back hD, fun o => Own.there sw.sr o hD⟩, rfl, Nat.le_refl _, calm0, hP⟩, ?_⟩
  rintro i k H' ⟨env', Hf', acc, L, hk, hl, cl, hb⟩
  obtain ⟨y1, y2⟩ := hJ i Hf' H' L.st.f L.st.sr.ex
  cases q : ds.drop i with
  | nil =>
    rw [q] at hb
    have hi : ds.length = i := by
      have : ds.length ≤ i := List.drop_eq_nil_iff.mp q
      omega
    refine .inl ⟨y2 hi, ?_⟩
    have sr := step_restore s1.sr cm L.st cl
    obtain ⟨vs', h1, h2⟩ := L.at_
    refine hb Hf' H' sr D0 ⟨⟨_, h1, .lst h2⟩, L.nf, fun o => ?_, s1.th D0 hD⟩
    obtain ⟨j, x, d, a, b, f⟩ := o
    have ll : env'.length = e1.length := L.st.le.trans (wpE_len _ _)
    by_cases w : j ∈ vs
    · rw [rsE_in ll w] at a
      rw [calm_at cm w a] at b
      cases b
    · rw [rsE_out w] at a
      exact L.no ⟨j, x, d, a, b, by rw [wipe_out w]; exact f⟩
  | cons d rest =>
    rw [q] at hb
    have hlt : i < ds.length := by
      rcases Nat.lt_or_ge i ds.length with c | c
      · exact c
      · rw [List.drop_eq_nil_iff.mpr c] at q; cases q
    have hd : ds[i]? = some d := by
      have := List.getElem?_drop (xs := ds) (i := i) (j := 0)
      rw [q] at this
      simpa using this.symm
    have hr : ds.drop (i + 1) = rest := by
      have := List.drop_drop (l := ds) (i := 1) (j := i)
      rw [q] at this
      simpa [Nat.add_comm] using this.symm
    obtain ⟨go, yld⟩ := y1 d hd
    refine .inr ⟨go, fun H2 => ∃ k', k' < k ∧ ∃ env2 Hf2 acc2, Lcv K g (wpE e1 vs) (wipe σ vs) Hf1 H1 D0 acc2 env2 Hf2 H2 ∧ k' + (i + 1) = ds.length ∧ acc2.length ≤ i + 1 ∧ (∀ j ∈ vs, ∀ x, env2[j]? = some x → x.mut = none) ∧
      Blk (lcLoop t c m vs (ds.drop (i + 1)) acc2 env2) fun acc e => ∀ Hf' H', Step K g e1 σ Hf1 H1 (rsE e e1 vs) σ Hf' H' → ∀ p, New K g (rsE e e1 vs) σ H Hf' H' (.lst acc) p → Q (.ref p) H', fun H2 q => q, fun x H2 hy => ?_⟩
    obtain ⟨Hf2, w, rx⟩ := yld x H2 hy
    have sg := w.step L.st.sr
    refine hg env' (wipe σ vs) Hf2 H2 x d sg.sr rx _ ?_
    unfold lcLoop at hb
    revert hb
    cases ct : t d env' with
    | none => exact fun h => h.elim
    | some e2 =>
      intro hb σ2 Hf3 H3 s3 o3
      have l2 : σ2.length = σ.length := by
        rw [s3.sr.len, s3.le, L.st.le, wpE_len, ← lσ]
      have ww : wipe σ2 vs = wipe σ vs := wipe_wipe l2 o3 hts
      -- from the turn's start to any state of the block: the list stands
      have keep : ∀ {e4 : En} {Hf4 H4 : Hp}, Step K g e2 σ2 Hf3 H3 e4 σ2 Hf4 H4 → calmE e4 vs = true → Lcv K g (wpE e1 vs) (wipe σ vs) Hf1 H1 D0 acc (wpE e4 vs) Hf4 H4 ∧ (∀ j ∈ vs, ∀ x, (wpE e4 vs)[j]? = some x → x.mut = none) := fun {e4 Hf4 H4} s4 c4 => by
        have S2 : Step K g env' (wipe σ vs) Hf' H' (wpE e4 vs) (wipe σ vs) Hf4 H4 := by
          have z := ((sg.trans s3).trans s4).trans (step_wipe s4.sr c4)
          rwa [ww] at z
        obtain ⟨vs', h1, h2⟩ := L.at_
        obtain ⟨k1, k2⟩ := S2.kp D0 _ h1 L.nf L.no
        refine ⟨⟨L.st.trans S2, ⟨vs', k1, h2.mono S2.f⟩, k2, fun o => ?_⟩, fun j hj x e => ?_⟩
        · rcases S2.ow D0 o with o | o
          · exact L.no o
          · rw [h1] at o; cases o
        · rw [wpE_in hj (calm_lt c4 hj)] at e
          cases e
          rfl
      refine ⟨ww, hc e2 σ2 Hf3 H3 s3.sr _ ((Blk.bnd hb).imp fun b e4 Hf4 H4 _ s4 h4 => ?_)⟩
      cases b with
      | false =>
        by_cases c4 : calmE e4 vs = true
        · have h4' := h4
          simp only [Bool.false_eq_true, if_false, if_pos c4] at h4'
          obtain ⟨L4, cl4⟩ := keep s4 c4
          exact ⟨k - 1, by omega, wpE e4 vs, Hf4, acc, L4, by omega, by omega, cl4, by rw [hr]; exact h4'⟩
        · simp only [Bool.false_eq_true, if_false, if_neg c4] at h4
          exact h4.elim
      | true =>
        have h4' := h4
        rw [if_pos rfl] at h4'
        refine hm e4 σ2 Hf4 H4 s4.sr _ ((Blk.bnd h4').imp fun z e5 Hf5 H5 _ s5 h5 v rv => ?_)
        by_cases c5 : calmE e5 vs = true
        · rw [if_pos c5] at h5
          obtain ⟨L5, cl5⟩ := keep (s4.trans s5) c5
          obtain ⟨vs', h6, h7⟩ := L5.at_
          have hsz : vs'.length < sizeLine := by
            rw [← h7.len]
            have := small_le sz
            omega
          refine ⟨vs', h6, hsz, k - 1, by omega, wpE e5 vs, Hf5, acc ++ [z], ⟨L5.st.write hD L5.nf (by rw [h6]; exact fun h => nomatch h) L5.no, ⟨_, upd_same, h7.append (.cons rv .nil)⟩, L5.nf, L5.no⟩, by omega, by rw [List.length_append]; simp; omega, cl5, by rw [hr]; exact h5⟩
        · rw [if_neg c5] at h5
          exact h5.elim
end
end DL

set_option Elab.async false
set_option linter.all false
set_option maxRecDepth 100000
set_option maxHeartbeats 400000
namespace DL
open PySem L2
section
variable {K : PySem.W.Frag} {g : G} {W : WX} {ι : Type}
/-- one reading for all contexts -/
theorem all_pe {C : ι → Cx} {e : Expr} {m : M D} (h : ∀ j, PEM (C j) g W e m) (hK : ∀ j, (C j).K = K) : ∃ t, (∀ j, PE (C j) e t) ∧ EvM K g W t m := by
  have h' : ∀ j, ∃ t, PE (C j) e t ∧ EvM K g W t m := fun j => by
    obtain ⟨t, a, b⟩ := h j
    rw [hK j] at b
    exact ⟨t, a, b⟩
  refine ⟨fun σ H Q => ∀ j, (Classical.choose (h' j)) σ H Q, fun j => ⟨fun pins s σ H Q I q => (Classical.choose_spec (h' j)).1.run pins s σ H Q I (q j)⟩, fun env σ Hf H s Q q j => (Classical.choose_spec (h' j)).2 env σ Hf H s Q q⟩
theorem all_pg {C : ι → Cx} {e : Expr} {t : Tg} {ts : List Nat} (h : ∀ j, PGM (C j) g e t ts) (hK : ∀ j, (C j).K = K) : ∃ u, (∀ j, PG (C j) e u) ∧ EvG K g u t ts := by
  have h' : ∀ j, ∃ u, PG (C j) e u ∧ EvG K g u t ts := fun j => by
    obtain ⟨t, a, b⟩ := h j
    rw [hK j] at b
    exact ⟨t, a, b⟩
  refine ⟨fun v σ H Q => ∀ j, (Classical.choose (h' j)) v σ H Q, fun j => ⟨fun pins s σ H v u Q I r q => (Classical.choose_spec (h' j)).1.run pins s σ H v u Q I r (q j)⟩, fun env σ Hf H v d s r Q q j => (Classical.choose_spec (h' j)).2 env σ Hf H v d s r Q q⟩
structure PTsM (X : Cx) (g : G) (W : WX) (ifs : List Expr) (m : M Bool) : Prop where
  ex : ∃ t, PTs X ifs t ∧ EvB X.K g W t m
theorem all_pts {C : ι → Cx} {e : List Expr} {m : M Bool} (h : ∀ j, PTsM (C j) g W e m) (hK : ∀ j, (C j).K = K) : ∃ t, (∀ j, PTs (C j) e t) ∧ EvB K g W t m := by
  have h' : ∀ j, ∃ t, PTs (C j) e t ∧ EvB K g W t m := fun j => by
    obtain ⟨t, a, b⟩ := h j
    rw [hK j] at b
    exact ⟨t, a, b⟩
  refine ⟨fun σ H Q => ∀ j, (Classical.choose (h' j)) σ H Q, fun j => ⟨fun pins s σ H Q I q => (Classical.choose_spec (h' j)).1.run pins s σ H Q I (q j)⟩, fun env σ Hf H s Q q j => (Classical.choose_spec (h' j)).2 env σ Hf H s Q q⟩
end
section
variable {X : Cx} {g : G} {W : WX}
theorem ts_nil : PTsM X g W [] (ret true) := ⟨_, pts_nil, fun env σ Hf H s Q h => Aft.ret s h⟩
/-- a block's context -/
structure Bk where
  s : Shared
  H : Hp
  C : Addr
  cl : List (Str × Addr)
  fp : List Addr
abbrev Cx.bk (X : Cx) (scope : Scope) (b : Bk) : Cx := X.blk b.s b.H scope (compEnvC scope b.cl b.C X.env) b.fp
variable {elt tg iter : Expr} {ifs : List Expr} {scope : Scope} {own : List (Str × Nat)} {pos : Pos} {mi : M (List D)} {t : Tg} {ts : List Nat} {c : M Bool} {m : M D}
theorem f_lc (hi : PIM X g W tg iter mi) (ok : BlkOk X.N X.env.scope scope own) (hN : X.N.Nodup) (hg : ∀ b : Bk, PGM (Cx.bk X scope b) g tg t ts) (ht : ∀ b : Bk, PTsM (Cx.bk X scope b) g WF ifs c) (he : ∀ b : Bk, PEM (Cx.bk X scope b) g WF elt m)
    (hts : ∀ j ∈ ts, j ∈ own.map (·.2) := by decide) (hc : X.calm = true := by rfl) (hs : ∀ x, foldedSetIterable iter X.env x = pure x := by intro _; rfl) : PEF X g W (.ListComp elt [⟨tg, iter, ifs, 0⟩] scope pos) (mLc mi t c m (own.map (·.2))) := by
  obtain ⟨wi, h1, h2⟩ := hi
  obtain ⟨gt, h3, h4⟩ := all_pg hg (fun _ => rfl)
  obtain ⟨tt, h5, h6⟩ := all_pts ht (fun _ => rfl)
  obtain ⟨te, h7, h8⟩ := all_pe he (fun _ => rfl)
  exact ⟨_, pe_lc hc hN h1 ok (fun s H C cl fp => h3 ⟨s, H, C, cl, fp⟩) (fun s H C cl fp => h5 ⟨s, H, C, cl, fp⟩) (fun s H C cl fp => h7 ⟨s, H, C, cl, fp⟩) hs, evf_lc h2 h4 hts h6 h8⟩
theorem PEF.sh {e : Expr} {m : M D} (h : PEF X g W e m) : PEM X g W e (frz m) := by
  obtain ⟨t, a, b⟩ := h
  exact ⟨_, a, b.ev⟩
theorem s_lc {i : Nat} {y : Str} {py spos : Pos} (hi : PIM X g W tg iter mi) (ok : BlkOk X.N X.env.scope scope own) (hN : X.N.Nodup) (hg : ∀ b : Bk, PGM (Cx.bk X scope b) g tg t ts) (ht : ∀ b : Bk, PTsM (Cx.bk X scope b) g WF ifs c) (he : ∀ b : Bk, PEM (Cx.bk X scope b) g WF elt m)
    (hsw : swapsWith (.ListComp elt [⟨tg, iter, ifs, 0⟩] scope pos) (some (.Name y py)) spos.line X.env = pure true) (hy : X.N[i]? = some y := by rfl) (hyl : X.env.scope.names.lookup y = some .local := by rfl)
    (hts : ∀ j ∈ ts, j ∈ own.map (·.2) := by decide) (hc : X.calm = true := by rfl) (hs : ∀ x, foldedSetIterable iter X.env x = pure x := by intro _; rfl) : PSM X g W (.Assign [.Name y py] (.ListComp elt [⟨tg, iter, ifs, 0⟩] scope pos) spos) (sSet i (frz (mLc mi t c m (own.map (·.2))))) := by
  obtain ⟨wi, h1, h2⟩ := hi
  obtain ⟨gt, h3, h4⟩ := all_pg hg (fun _ => rfl)
  obtain ⟨tt, h5, h6⟩ := all_pts ht (fun _ => rfl)
  obtain ⟨te, h7, h8⟩ := all_pe he (fun _ => rfl)
  exact ⟨_, ps_setLc hc hN hy hyl hsw h1 ok (fun s H C cl fp => h3 ⟨s, H, C, cl, fp⟩) (fun s H C cl fp => h5 ⟨s, H, C, cl, fp⟩) (fun s H C cl fp => h7 ⟨s, H, C, cl, fp⟩) hs, ev_set (evf_lc h2 h4 hts h6 h8).ev⟩
theorem s_for {body : List Stmt} {b : S} {spos : Pos} (hp : PassesOwn (model X.prog X.w) X.A X.env X.xe) (hi : PIM X g W tg iter mi) (hg : PGM X g tg t ts) (hb : PSsM X g W body b)
    (hc : X.calm = true := by rfl) (hs : ∀ x, foldedSetIterable iter X.env x = pure x := by intro _; rfl) : PSM X g W (.For tg iter body [] spos) (sFor mi t b) := by
  obtain ⟨wi, h1, h2⟩ := hi
  obtain ⟨gt, h3, h4⟩ := hg
  obtain ⟨tb, h5, h6⟩ := hb
  exact ⟨_, ps_for hp hc h1 h3 h5 hs, ev_for h2 h4 h6⟩
end
/-! ### changing one's own -/
def Sl.put : Sl → D → Sl
  | .ow _, d => .ow d
  | .pn _, d => .pn d
  | s, _ => s
def mdf (i : Nat) (d : D) (env : En) : En := match env[i]? with
  | some s => env.set i (s.put d)
  | none => env
section
variable {K : PySem.W.Frag} {g : G} {W : WX} {env env1 env' : En} {σ σ1 σ' : L2.St} {Hf H Hf1 H1 Hf' H' : Hp}
theorem put_mut {x : Sl} {d d' : D} (m : x.mut = some d) : (x.put d').mut = some d' := by cases x <;> first | rfl | (cases m; done)
theorem step_mut {i : Nat} {x : Sl} {d d' : D} {p : Addr} {u' : HO} (s : SR K g env σ Hf H) (hx : env[i]? = some x) (mx : x.mut = some d) (hp : σ[i]? = some (some (.ref p))) (r : RepO K g Hf d' u') :
    Step K g env σ Hf H (mdf i d' env) σ Hf (upd H p u') := by
  have hi : i < env.length := (List.getElem?_eq_some_iff.mp hx).1
  obtain ⟨p', u, e1, e2, e3, r0⟩ := s.at_ hx mx
  rw [hp] at e1
  cases e1
  have em : mdf i d' env = env.set i (x.put d') := by unfold mdf; rw [hx]
  rw [em]
  have set_ne : ∀ j (y : Sl), (env.set i (x.put d'))[j]? = some y → (j = i ∧ y = x.put d') ∨ (j ≠ i ∧ env[j]? = some y) := fun j y q => by
    by_cases c : i = j
    · subst c
      rw [List.getElem?_set_self hi] at q
      exact .inl ⟨rfl, (Option.some.inj q).symm⟩
    · rw [List.getElem?_set_ne c] at q
      exact .inr ⟨fun z => c z.symm, q⟩
  have nep : ∀ (j : Nat) (y : Sl) (b : D), j ≠ i → env[j]? = some y → y.mut = some b → σ[j]? ≠ some (some (.ref p)) := fun j y b c q m => s.ne i j x y d b p (fun z => c z.symm) hx q mx m hp
  refine ⟨Ex.refl _, ⟨fun a v q => ?_, by rw [List.length_set]; exact s.len, fun j y o q q' => ?_, fun j k y z a b w n1 h1 h2 m1 m2 f1 => ?_⟩, fun a v q q' no => ⟨?_, q'⟩, fun a o => ?_, fun a q => ?_, fun j z q => ?_, by rw [List.length_set]⟩
  · rw [upd_ne (ne_of_none q e3)]
    exact s.ex a v q
  · rcases set_ne j y q with ⟨rfl, rfl⟩ | ⟨c, q⟩
    · rw [hp] at q'
      cases q'
      exact (Sl.ok_mut (put_mut mx)).mpr ⟨p, u', rfl, upd_same, e3, r⟩
    · have w := s.sl j y o q q'
      cases y with
      | no => trivial
      | sh b => exact w
      | ow b => obtain ⟨z, w, e, h1, h2, r⟩ := w; exact ⟨z, w, e, by rw [upd_ne (fun c' => nep j _ b c q rfl (by rw [q', e, c']))]; exact h1, h2, r⟩
      | pn b => obtain ⟨z, w, e, h1, h2, r⟩ := w; exact ⟨z, w, e, by rw [upd_ne (fun c' => nep j _ b c q rfl (by rw [q', e, c']))]; exact h1, h2, r⟩
  · have back : ∀ (j : Nat) (y : Sl) (a : D), (env.set i (x.put d'))[j]? = some y → y.mut = some a → ∃ (y' : Sl) (a' : D), env[j]? = some y' ∧ y'.mut = some a' := fun j y a h m => by
      rcases set_ne j y h with ⟨rfl, rfl⟩ | ⟨_, h⟩
      · exact ⟨x, d, hx, mx⟩
      · exact ⟨y, a, h, m⟩
    obtain ⟨y', a', q1, q2⟩ := back j y a h1 m1
    obtain ⟨z', b', q3, q4⟩ := back k z b h2 m2
    exact s.ne j k y' z' a' b' w n1 q1 q3 q2 q4 f1
  · rw [upd_ne (fun c => no ⟨i, x, d, hx, mx, by rw [hp, c]⟩)]
    exact q
  · obtain ⟨j, y, b, q1, q2, q3⟩ := o
    rcases set_ne j y q1 with ⟨rfl, rfl⟩ | ⟨_, q1⟩
    · exact .inl ⟨_, x, d, hx, mx, q3⟩
    · exact .inl ⟨j, y, b, q1, q2, q3⟩
  · by_cases c : a = p
    · subst c; rw [upd_same] at q; cases q
    · rw [upd_ne c] at q; exact q
  · by_cases c : i = j
    · subst c
      rw [hx] at q
      cases q
      exact ⟨⟨d', by rw [List.getElem?_set_self hi]; rfl⟩, rfl⟩
    · rw [List.getElem?_set_ne c]
      exact ⟨⟨z, q⟩, rfl⟩
/-- what a name holds for itself -/
def own (i : Nat) : M D := fun env => match env[i]?.bind Sl.mut with
  | some d => .ok d env
  | none => .bad
theorem own_ok {i : Nat} {P : D → En → Hp → Hp → Prop} (s : SR K g env σ Hf H) (h : Aft K g W env σ Hf H (own i env) P) : ∃ x d, env[i]? = some x ∧ x.mut = some d ∧ P d env Hf H := by
  unfold own at h
  cases e : env[i]? with
  | none => rw [e] at h; exact h.elim
  | some x =>
    rw [e] at h
    cases m : x.mut with
    | none => simp only [Option.bind, m] at h; exact h.elim
    | some d => simp only [Option.bind, m] at h; exact ⟨x, d, rfl, m, h Hf H (Step.refl s)⟩
theorem own_okS {i : Nat} {k : D → S} {Z : Ends} (s : SR K g env σ Hf H) (h : Out K g W env σ Hf H (DL.bnd (own i) k env) Z) : ∃ x d, env[i]? = some x ∧ x.mut = some d ∧ Out K g W env σ Hf H (k d env) Z := own_ok s h.bnd
def isLst : D → Bool
  | .lst _ => true
  | _ => false
/-- x.append(e) -/
def sApp (i : Nat) (m : M D) : S := bnd (own i) fun d0 => if isLst d0 = true then bnd m fun z => bnd (own i) fun d => match d with
  | .lst xs => if small (xs.length + 1) = true then (fun env => .ok .nx (mdf i (.lst (xs ++ [z])) env)) else (fun _ => .bad)
  | _ => fun _ => .bad else (fun _ => .bad)
/-- x[j] = e -/
def sPut (i : Nat) (m j : M D) : S := bnd m fun z => bnd (own i) fun _ => bnd j fun k => bnd (own i) fun d => match d, k with
  | .lst xs, .int n => (match ixN xs.length n with
    | some q => fun env => .ok .nx (mdf i (.lst (xs.set q z)) env)
    | none => fun _ => .bad)
  | _, _ => fun _ => .bad
theorem SR.mut_at (s : SR K g env σ Hf H) {i : Nat} {x : Sl} {d : D} (hx : env[i]? = some x) (mx : x.mut = some d) : ∃ p u, σ[i]? = some (some (.ref p)) ∧ H p = some u ∧ RepO K g Hf d u := by
  obtain ⟨p, u, e, h, _, r⟩ := s.at_ hx mx
  exact ⟨p, u, e, h, r⟩
theorem ev_app {i : Nat} {te : TE} {m : M D} (he : EvM K g W te m) : EvS K g W (tDrop (tBM K "list" rAppend (tVar i) (tCons te tNil))) (sApp i m) :=
  fun env σ Hf H s Z h => by
    obtain ⟨x, d, hx, mx, h1⟩ := own_okS s h
    obtain ⟨p, u, hp, hu, ru⟩ := s.mut_at hx mx
    by_cases c : isLst d = true
    case neg => rw [if_neg c] at h1; exact h1.elim
    rw [if_pos c] at h1
    have tyl : ∃ ys, H p = some (.lst ys) := by
      cases ru <;> first | exact ⟨_, hu⟩ | (cases c; done)
    obtain ⟨ys, hys⟩ := tyl
    refine ⟨_, hp, .inl ⟨rfl, ys, SqL.of hys⟩, he env σ Hf H s _ (h1.bnd.imp fun z e1 Hf1 H1 _ s1 h2 v rv => ?_)⟩
    obtain ⟨x1, d1, hx1, mx1, h3⟩ := own_okS s1.sr h2
    obtain ⟨p1, u1, hp1, hu1, ru1⟩ := s1.sr.mut_at hx1 mx1
    rw [hp] at hp1
    cases hp1
    cases ru1 with
    | @lst ds vs r =>
      dsimp only at h3
      by_cases q : small (ds.length + 1) = true
      · rw [if_pos q] at h3
        refine ⟨p, _, v, rfl, rfl, hu1, by rw [← r.len]; exact small_le q, ?_⟩
        exact h3 σ Hf1 _ (step_mut s1.sr hx1 mx1 hp (.lst (r.append (.cons rv .nil))))
      · rw [if_neg q] at h3
        exact h3.elim
    | dic _ _ => exact h3.elim
    | dct _ _ => exact h3.elim
    | ins _ _ _ => exact h3.elim
theorem ev_put {i : Nat} {te tj : TE} {m j : M D} (he : EvM K g W te m) (hj : EvM K g W tj j) : EvS K g W (tAsg te (gSub (tVar i) tj rSetL)) (sPut i m j) :=
  fun env σ Hf H s Z h => he env σ Hf H s _ (h.bnd.imp fun z e1 Hf1 H1 _ s1 h1 v rv => by
    obtain ⟨x, d, hx, mx, h2⟩ := own_okS s1.sr h1
    obtain ⟨p, u, hp, hu, ru⟩ := s1.sr.mut_at hx mx
    refine ⟨_, hp, hj e1 σ Hf1 H1 s1.sr _ (h2.bnd.imp fun k e2 Hf2 H2 _ s2 h3 w rw' => ?_)⟩
    obtain ⟨x1, d1, hx1, mx1, h4⟩ := own_okS s2.sr h3
    obtain ⟨p1, u1, hp1, hu1, ru1⟩ := s2.sr.mut_at hx1 mx1
    rw [hp] at hp1
    cases hp1
    cases ru1 with
    | @lst ds vs r =>
      cases rw' <;> try exact h4.elim
      case int n _ =>
        cases hq : ixN ds.length n with
        | none =>
          dsimp only at h4
          rw [hq] at h4
          exact h4.elim
        | some q =>
          dsimp only at h4
          rw [hq] at h4
          exact ⟨p, _, n, q, rfl, rfl, hu1, by rw [← r.len]; exact hq, h4 σ Hf2 _ (step_mut s2.sr hx1 mx1 hp (.lst (r.set q (rv.mono s2.f))))⟩
    | dic _ _ => exact h4.elim
    | dct _ _ => exact h4.elim
    | ins _ _ _ => exact h4.elim)
end
section
variable {X : Cx} {g : G} {W : WX} {x : Str} {p1 apos cpos pos tpos : Pos} {e j : Expr} {m mj : M D}
theorem s_app (i : Nat) (ha : PEM X g W e m) (hN : X.N[i]? = some x := by rfl) (hv : Vis X.env.scope x := by first | exact Or.inl rfl | exact Or.inr (Or.inl rfl) | exact Or.inr (Or.inr rfl)) (hd : (x == ("__debug__" : Str)) = false := by decide) (hcd : (x == ("__classdict__" : Str)) = false := by decide)
    (hbase : attributeBase (.Name x p1) "append" X.env (eval (.Name x p1) X.env) = eval (.Name x p1) X.env := by rfl)
    (hfew : ((backTo cpos (starEach (e :: []) X.env)).all (fun x => !x.1) && (backToKw cpos (keywordEach [] X.env)).all (fun x => x.1.isSome)
      && decide ((e :: []).length + ([] : List Keyword).length + (if ([] : List Keyword).isEmpty then 0 else 1) < 30)) = true := by rfl)
    (hline : (apos.endLine == cpos.line) = true := by rfl) (hs : starEach (e :: []) X.env = (false, eval e X.env) :: starEach [] X.env := by rfl) (hplain : (backTo cpos (starEach [] X.env)).any (·.1) = false := by rfl)
    (hsw : swapsWith (.Call (.Attribute (.Name x p1) "append" apos) [e] [] cpos) none pos.line X.env = pure false := by rfl) : PSM X g W (.Expr (.Call (.Attribute (.Name x p1) "append" apos) [e] [] cpos) pos) (sApp i m) := by
  obtain ⟨t, h1, h2⟩ := ha
  exact ⟨_, ps_expr (pe_bm PySem.F.plainAttrs_list PySem.F.slot_list_append PySem.F.type_list_append mt_append (pe_var hN hv hd hcd) (pa_cons h1 pa_nil hs) hbase hfew hline hs hplain) hsw, ev_app h2⟩
theorem s_put (i : Nat) (he : PEM X g W e m) (hj : PEM X g W j mj) (hN : X.N[i]? = some x := by rfl) (hv : Vis X.env.scope x := by first | exact Or.inl rfl | exact Or.inr (Or.inl rfl) | exact Or.inr (Or.inr rfl)) (hd : (x == ("__debug__" : Str)) = false := by decide) (hcd : (x == ("__classdict__" : Str)) = false := by decide)
    (ha : ∀ v, assign (.Subscript (.Name x p1) j tpos) X.env v = (do
      let ov ← holding [v] (eval (.Name x p1) X.env)
      let iv ← holding [v, ov] (eval j X.env)
      standAt tpos
      holding [v, ov, iv] (setItem ov iv v)
      release [v, ov, iv] []) := by intro _; rfl)
    (hs : swapsWithSole [.Subscript (.Name x p1) j tpos] e pos.line X.env = pure false := by rfl) (hw : swappedStores [.Subscript (.Name x p1) j tpos] e X.env = pure none := by rfl)
    (h1 : (assignEach [.Subscript (.Name x p1) j tpos] X.env).map (·.2) = [assign (.Subscript (.Name x p1) j tpos) X.env] := by rfl) : PSM X g W (.Assign [.Subscript (.Name x p1) j tpos] e pos) (sPut i m mj) := by
  obtain ⟨t, k1, k2⟩ := he
  obtain ⟨u, k3, k4⟩ := hj
  exact ⟨_, ps_asg k1 (pg_sub (pe_var hN hv hd hcd) k3 set_list ha) hs hw h1, ev_put k2 k4⟩
end
end DL

set_option Elab.async false
set_option linter.all false
set_option maxRecDepth 100000
set_option maxHeartbeats 400000
namespace DL
open PySem L2 PyProof.Rows
/-! ### defs and their calls -/
abbrev Fm := En → Rs Ctl
/-- a def's body, from the parameters to what is handed back and what the lent things then are -/
def run (n : Nat) (b : S) : Fm := fun args => match b (args ++ List.replicate (n - args.length) .no) with
  | .ok .nx e => .ok (.rt .non) (e.take args.length)
  | .ok (.rt d) e => .ok (.rt d) (e.take args.length)
  | .ok (.rto d) e => .ok (.rto d) (e.take args.length)
  | .ok _ _ => .bad
  | .ex c d e => .ex c d (e.take args.length)
  | .bad => .bad
abbrev WX_of (E : XK) : WX := fun c d _ H => E c d H
def spM (K : PySem.W.Frag) (g : G) (np : Nat) (F : Fm) : Sp := fun vs H Q E => ∃ Hf args, SR K g args (vs.map some) Hf H ∧ args.length = np ∧ Out K g (WX_of E) args (vs.map some) Hf H (F args) { nx := fun _ _ => False, rt := Q }
section
variable {K : PySem.W.Frag} {g : G} {W : WX} {env env1 env' args args' : En} {σ σ1 σ' : L2.St} {Hf H Hf1 H1 Hf' H' : Hp}
theorem get_app_no {args : En} {k i : Nat} {x : Sl} {d : D} (h : (args ++ List.replicate k Sl.no)[i]? = some x) (m : x.mut = some d) : args[i]? = some x := by
  by_cases c : i < args.length
  · rw [List.getElem?_append_left c] at h; exact h
  · rw [List.getElem?_append_right (by omega), List.getElem?_replicate] at h
    split at h
    · cases h; cases m
    · cases h
theorem sr_app (s : SR K g args σ Hf H) (k : Nat) : SR K g (args ++ List.replicate k .no) (σ ++ List.replicate k none) Hf H := by
  have lt : ∀ (i : Nat) (x : Sl) (d : D), (args ++ List.replicate k Sl.no)[i]? = some x → x.mut = some d → i < args.length := fun i x d h m => (List.getElem?_eq_some_iff.mp (get_app_no h m)).1
  refine ⟨s.ex, by rw [List.length_append, List.length_append, s.len, List.length_replicate, List.length_replicate], fun i x o h h' => ?_, fun i j x y d d' p n h1 h2 m1 m2 f1 => ?_⟩
  · by_cases c : i < args.length
    · rw [List.getElem?_append_left c] at h
      rw [List.getElem?_append_left (by rw [s.len]; exact c)] at h'
      exact s.sl i x o h h'
    · rw [List.getElem?_append_right (by omega), List.getElem?_replicate] at h
      split at h
      · cases h; trivial
      · cases h
  · have c1 := lt i x d h1 m1
    have c2 := lt j y d' h2 m2
    rw [List.getElem?_append_left (by rw [s.len]; exact c1)] at f1
    rw [List.getElem?_append_left (by rw [s.len]; exact c2)]
    exact s.ne i j x y d d' p n (get_app_no h1 m1) (get_app_no h2 m2) m1 m2 f1
theorem own_app (l : σ.length = args.length) {k : Nat} {a : Addr} : Own (args ++ List.replicate k .no) (σ ++ List.replicate k none) a ↔ Own args σ a := by
  constructor
  · rintro ⟨i, x, d, h, m, f⟩
    have h' := get_app_no h m
    have c := (List.getElem?_eq_some_iff.mp h').1
    rw [List.getElem?_append_left (by rw [l]; exact c)] at f
    exact ⟨i, x, d, h', m, f⟩
  · rintro ⟨i, x, d, h, m, f⟩
    have c := (List.getElem?_eq_some_iff.mp h).1
    exact ⟨i, x, d, by rw [List.getElem?_append_left c]; exact h, m, by rw [List.getElem?_append_left (by rw [l]; exact c)]; exact f⟩
theorem own_take {n : Nat} {a : Addr} (o : Own (env.take n) (σ.take n) a) : Own env σ a := by
  obtain ⟨i, x, d, h, m, f⟩ := o
  rw [List.getElem?_take] at h f
  split at h
  · rename_i c
    rw [if_pos c] at f
    exact ⟨i, x, d, h, m, f⟩
  · cases h
theorem step_take {k : Nat} (l : σ.length = args.length) (st : Step K g (args ++ List.replicate k .no) (σ ++ List.replicate k none) Hf H env' σ' Hf' H') : Step K g args σ Hf H (env'.take args.length) (σ'.take args.length) Hf' H' := by
  have le : env'.length = args.length + k := by rw [st.le, List.length_append, List.length_replicate]
  refine ⟨st.f, ⟨st.sr.ex, by rw [List.length_take, List.length_take, st.sr.len], fun i x o h h' => ?_, fun i j x y d d' p n h1 h2 m1 m2 f1 => ?_⟩, fun a u q q' no => st.kp a u q q' fun o => no ((own_app l).mp o), fun a o => ?_, st.th, fun i d h => ?_, by rw [List.length_take, le]; omega⟩
  · rw [List.getElem?_take] at h h'
    split at h
    · rename_i c
      rw [if_pos c] at h'
      exact st.sr.sl i x o h h'
    · cases h
  · rw [List.getElem?_take] at h1 h2 f1 ⊢
    split at h1
    · rename_i c1
      split at h2
      · rename_i c2
        rw [if_pos c1] at f1
        rw [if_pos c2]
        exact st.sr.ne i j x y d d' p n h1 h2 m1 m2 f1
      · cases h2
    · cases h1
  · rcases st.ow a (own_take o) with o | o
    · exact .inl ((own_app l).mp o)
    · exact .inr o
  · have c := (List.getElem?_eq_some_iff.mp h).1
    obtain ⟨⟨d', h'⟩, e⟩ := st.pn i d (by rw [List.getElem?_append_left c]; exact h)
    rw [List.getElem?_take, if_pos c, List.getElem?_take, if_pos c, e, List.getElem?_append_left (by rw [l]; exact c)]
    exact ⟨⟨d', h'⟩, rfl⟩
theorem out_run {n : Nat} {b : S} {E : XK} {Q : VK} {vs : List V} (l : (vs.map some).length = args.length) (h : Out K g (WX_of E) args (vs.map some) Hf H (run n b args) { nx := fun _ _ => False, rt := Q }) :
    Out K g (WX_of E) (args ++ List.replicate (n - args.length) .no) (vs.map some ++ List.replicate (n - args.length) none) Hf H (b (args ++ List.replicate (n - args.length) .no)) { nx := fun _ H' => Q .non H', rt := Q } := by
  unfold run at h
  revert h
  cases b (args ++ List.replicate (n - args.length) .no) with
  | bad => exact fun h => h
  | ex c d e => exact fun h dx v fs σ' Hf' H' st r e1 e2 e3 e4 e5 => h dx v fs (σ'.take args.length) Hf' H' (step_take l st) r e1 e2 e3 (fun o => e4 (own_take o)) e5
  | ok x e =>
    cases x with
    | nx => exact fun h σ' Hf' H' st => h _ Hf' H' (step_take l st) _ .non
    | bk => exact fun h => h.elim
    | ct => exact fun h => h.elim
    | rt d => exact fun h σ' Hf' H' st v r => h _ Hf' H' (step_take l st) v r
    | rto d => exact fun h σ' Hf' H' st p n => h _ Hf' H' (step_take l st) p ⟨n.at_, n.nf, fun o => n.no (own_take o), n.nw⟩
theorem Out.nox {r : Rs Ctl} {Z : Ends} {m : S} (h : Out K g W env σ Hf H (DL.nox m env) Z) : Out K g WF env σ Hf H (m env) Z := by
  unfold DL.nox at h
  revert h
  cases m env with
  | bad => exact fun h => h
  | ex c d e => exact fun h => h.elim
  | ok x e => cases x <;> exact fun h => h
end
section
variable {P : Program} {w : World} {K : PySem.W.Frag} {mg : Str → Option Value} {base : Heap} {g : G}
theorem start_eq (N : List Str) (vs : List V) : start N vs = vs.map some ++ List.replicate (N.length - vs.length) none := rfl
end
/-! a call: the arguments as values; or the first one lent -/
def callA (F : Fm) (ds : List D) : M D := fun env => match F (ds.map .sh) with
  | .ok (.rt d) _ => .ok d env
  | .ex c d _ => .ex c d env
  | _ => .bad
def callAF (F : Fm) (ds : List D) : M D := fun env => match F (ds.map .sh) with
  | .ok (.rto d) _ => .ok d env
  | .ex c d _ => .ex c d env
  | _ => .bad
def callB (F : Fm) (i : Nat) (ds : List D) : M D := fun env => match env[i]?.bind Sl.mut with
  | some d0 => (match F (.pn d0 :: ds.map .sh) with
    | .ok (.rt d) (.pn d1 :: _) => .ok d (mdf i d1 env)
    | .ex c d (.pn d1 :: _) => .ex c d (mdf i d1 env)
    | _ => .bad)
  | none => .bad
def callBF (F : Fm) (i : Nat) (ds : List D) : M D := fun env => match env[i]?.bind Sl.mut with
  | some d0 => (match F (.pn d0 :: ds.map .sh) with
    | .ok (.rto d) (.pn d1 :: _) => .ok d (mdf i d1 env)
    | .ex c d (.pn d1 :: _) => .ex c d (mdf i d1 env)
    | _ => .bad)
  | none => .bad
section
variable {K : PySem.W.Frag} {g : G} {W : WX} {env env1 env' args args' : En} {σ σ1 σ' : L2.St} {Hf H Hf1 H1 Hf' H' : Hp}
theorem sh_get {ds : List D} {i : Nat} {x : Sl} (h : (ds.map Sl.sh)[i]? = some x) : ∃ d, ds[i]? = some d ∧ x = .sh d := by
  rw [List.getElem?_map] at h
  cases q : ds[i]? with
  | none => rw [q] at h; cases h
  | some d => rw [q] at h; cases h; exact ⟨d, rfl, rfl⟩
theorem sr_sh {ds : List D} {vs : List V} (e : Ex Hf H) (r : Reps K g Hf ds vs) : SR K g (ds.map .sh) (vs.map some) Hf H := by
  refine ⟨e, by rw [List.length_map, List.length_map, r.len], fun i x o h h' => ?_, fun i j x y d d' p n h1 h2 m1 m2 f1 => ?_⟩
  · obtain ⟨d, hd, rfl⟩ := sh_get h
    obtain ⟨v, hv, rv⟩ := Reps.getD r hd
    rw [List.getElem?_map, hv] at h'
    cases h'
    exact ⟨v, rfl, rv⟩
  · obtain ⟨d, hd, rfl⟩ := sh_get h1
    cases m1
theorem own_sh {ds : List D} {τ : L2.St} {a : Addr} : ¬ Own (ds.map .sh) τ a := by
  rintro ⟨i, x, d, h, m, _⟩
  obtain ⟨_, _, rfl⟩ := sh_get h
  cases m
/-- what a callee did that was lent nothing -/
theorem step_callA {ds : List D} {τ : L2.St} (s : SR K g env σ Hf H) (st : Step K g (ds.map .sh) τ Hf H args' σ' Hf' H') : Step K g env σ Hf H env σ Hf' H' := by
  have kp : ∀ a u, H a = some u → Hf a = none → H' a = some u ∧ Hf' a = none := fun a u h h' => st.kp a u h h' own_sh
  refine ⟨st.f, ⟨st.sr.ex, s.len, fun i x o h h' => ?_, s.ne⟩, fun a u h h' _ => kp a u h h', fun a o => .inl o, st.th, fun i d h => ⟨⟨d, h⟩, rfl⟩, rfl⟩
  have w := s.sl i x o h h'
  cases x with
  | no => trivial
  | sh d => obtain ⟨v, e, r⟩ := w; exact ⟨v, e, r.mono st.f⟩
  | ow d => obtain ⟨p, u, e, h1, h2, r⟩ := w; obtain ⟨k1, k2⟩ := kp p u h1 h2; exact ⟨p, u, e, k1, k2, r.mono st.f⟩
  | pn d => obtain ⟨p, u, e, h1, h2, r⟩ := w; obtain ⟨k1, k2⟩ := kp p u h1 h2; exact ⟨p, u, e, k1, k2, r.mono st.f⟩
/-- .. that was lent the thing of slot i -/
theorem sr_lent {ds : List D} {vs : List V} {i : Nat} {x : Sl} {d : D} {p : Addr} (s : SR K g env σ Hf H) (hx : env[i]? = some x) (mx : x.mut = some d) (hp : σ[i]? = some (some (.ref p))) (r : Reps K g Hf ds vs) :
    SR K g (.pn d :: ds.map .sh) ((V.ref p :: vs).map some) Hf H := by
  obtain ⟨p', u, e1, e2, e3, r0⟩ := s.at_ hx mx
  rw [hp] at e1
  cases e1
  have s2 := sr_sh s.ex r
  refine ⟨s.ex, by rw [List.length_map, List.length_cons, List.length_cons, List.length_map, r.len], fun j y o h h' => ?_, fun j k y z a b q n h1 h2 m1 m2 f1 => ?_⟩
  · cases j with
    | zero =>
      cases h
      cases h'
      exact ⟨p, u, rfl, e2, e3, r0⟩
    | succ j =>
      rw [List.getElem?_cons_succ] at h
      rw [List.map_cons, List.getElem?_cons_succ] at h'
      exact s2.sl j y o h h'
  · cases j with
    | succ j =>
      rw [List.getElem?_cons_succ] at h1
      obtain ⟨_, _, rfl⟩ := sh_get h1
      cases m1
    | zero =>
      cases k with
      | zero => exact absurd rfl n
      | succ k =>
        rw [List.getElem?_cons_succ] at h2
        obtain ⟨_, _, rfl⟩ := sh_get h2
        cases m2
theorem own_lent {ds : List D} {vs : List V} {d : D} {p a : Addr} : Own (.pn d :: ds.map .sh) ((V.ref p :: vs).map some) a ↔ a = p := by
  constructor
  · rintro ⟨i, x, d, h, m, f⟩
    cases i with
    | zero => cases f; rfl
    | succ i =>
      rw [List.getElem?_cons_succ] at h
      obtain ⟨_, _, rfl⟩ := sh_get h
      cases m
  · rintro rfl
    exact ⟨0, _, d, rfl, rfl, rfl⟩
theorem step_callB {ds : List D} {vs : List V} {i : Nat} {x : Sl} {d d1 : D} {p : Addr} {rest : En} (s : SR K g env σ Hf H) (hx : env[i]? = some x) (mx : x.mut = some d) (hp : σ[i]? = some (some (.ref p)))
    (st : Step K g (.pn d :: ds.map .sh) ((V.ref p :: vs).map some) Hf H (.pn d1 :: rest) σ' Hf' H') : Step K g env σ Hf H (mdf i d1 env) σ Hf' H' := by
  have hi : i < env.length := (List.getElem?_eq_some_iff.mp hx).1
  have em : mdf i d1 env = env.set i (x.put d1) := by unfold mdf; rw [hx]
  rw [em]
  have kp : ∀ a u, H a = some u → Hf a = none → a ≠ p → H' a = some u ∧ Hf' a = none := fun a u h h' n => st.kp a u h h' fun o => n (own_lent.mp o)
  -- the lent thing, as it is now
  obtain ⟨_, e0⟩ := st.pn 0 d rfl
  have lentOk : ∃ u, H' p = some u ∧ Hf' p = none ∧ RepO K g Hf' d1 u := by
    have w := st.sr.at_ (i := 0) (x := .pn d1) (d := d1) rfl rfl
    obtain ⟨q, u, f, h1, h2, r⟩ := w
    rw [e0] at f
    cases f
    exact ⟨u, h1, h2, r⟩
  obtain ⟨u1, l1, l2, l3⟩ := lentOk
  have set_ne : ∀ j (y : Sl), (env.set i (x.put d1))[j]? = some y → (j = i ∧ y = x.put d1) ∨ (j ≠ i ∧ env[j]? = some y) := fun j y q => by
    by_cases c : i = j
    · subst c
      rw [List.getElem?_set_self hi] at q
      exact .inl ⟨rfl, (Option.some.inj q).symm⟩
    · rw [List.getElem?_set_ne c] at q
      exact .inr ⟨fun z => c z.symm, q⟩
  have nep : ∀ (j : Nat) (y : Sl) (b : D), j ≠ i → env[j]? = some y → y.mut = some b → σ[j]? ≠ some (some (.ref p)) := fun j y b c q m => s.ne i j x y d b p (fun z => c z.symm) hx q mx m hp
  refine ⟨st.f, ⟨st.sr.ex, by rw [List.length_set]; exact s.len, fun j y o q q' => ?_, fun j k y z a b w n1 h1 h2 m1 m2 f1 => ?_⟩, fun a v q q' no => kp a v q q' fun c => no ⟨i, x, d, hx, mx, by rw [hp, c]⟩, fun a o => ?_, st.th, fun j z q => ?_, by rw [List.length_set]⟩
  · rcases set_ne j y q with ⟨rfl, rfl⟩ | ⟨c, q⟩
    · rw [hp] at q'
      cases q'
      exact (Sl.ok_mut (put_mut mx)).mpr ⟨p, u1, rfl, l1, l2, l3⟩
    · have w := s.sl j y o q q'
      cases y with
      | no => trivial
      | sh b => obtain ⟨v, e, r⟩ := w; exact ⟨v, e, r.mono st.f⟩
      | ow b => obtain ⟨z, w, e, h1, h2, r⟩ := w; obtain ⟨k1, k2⟩ := kp z w h1 h2 (fun c' => nep j _ b c q rfl (by rw [q', e, c'])); exact ⟨z, w, e, k1, k2, r.mono st.f⟩
      | pn b => obtain ⟨z, w, e, h1, h2, r⟩ := w; obtain ⟨k1, k2⟩ := kp z w h1 h2 (fun c' => nep j _ b c q rfl (by rw [q', e, c'])); exact ⟨z, w, e, k1, k2, r.mono st.f⟩
  · have back : ∀ (j : Nat) (y : Sl) (a : D), (env.set i (x.put d1))[j]? = some y → y.mut = some a → ∃ (y' : Sl) (a' : D), env[j]? = some y' ∧ y'.mut = some a' := fun j y a h m => by
      rcases set_ne j y h with ⟨rfl, rfl⟩ | ⟨_, h⟩
      · exact ⟨x, d, hx, mx⟩
      · exact ⟨y, a, h, m⟩
    obtain ⟨y', a', q1, q2⟩ := back j y a h1 m1
    obtain ⟨z', b', q3, q4⟩ := back k z b h2 m2
    exact s.ne j k y' z' a' b' w n1 q1 q3 q2 q4 f1
  · obtain ⟨j, y, b, q1, q2, q3⟩ := o
    rcases set_ne j y q1 with ⟨rfl, rfl⟩ | ⟨_, q1⟩
    · exact .inl ⟨_, x, d, hx, mx, q3⟩
    · exact .inl ⟨j, y, b, q1, q2, q3⟩
  · by_cases c : i = j
    · subst c
      rw [hx] at q
      cases q
      exact ⟨⟨d1, by rw [List.getElem?_set_self hi]; rfl⟩, rfl⟩
    · rw [List.getElem?_set_ne c]
      exact ⟨⟨z, q⟩, rfl⟩
end
end DL

set_option Elab.async false
set_option linter.all false
set_option maxRecDepth 100000
set_option maxHeartbeats 400000
namespace DL
open PySem L2 PyProof.Rows
section
variable {K : PySem.W.Frag} {g : G} {E : XK} {env : En} {σ : L2.St} {Hf H : Hp} {F : Fm} {np : Nat}
/-- a def that is only called with so many arguments -/
def Arity (np : Nat) (F : Fm) : Prop := ∀ a : En, F a ≠ .bad → a.length = np
theorem sp_of {args : En} {vs : List V} {Q : VK} (hn : Arity np F) (s : SR K g args (vs.map some) Hf H) (o : Out K g (WX_of E) args (vs.map some) Hf H (F args) { nx := fun _ _ => False, rt := Q }) : spM K g np F vs H Q E := by
  refine ⟨Hf, args, s, hn args fun e => ?_, o⟩
  rw [e] at o
  exact o
theorem run_arity {n : Nat} {b : S} : Arity np fun a => if a.length = np then run n b a else .bad := fun a h => by
  by_cases c : a.length = np
  · exact c
  · exact absurd (if_neg c) h
/-- the callee's end, as the caller wants it: nothing was lent -/
theorem spA {ds : List D} {vs : List V} {Q : VK} (hn : Arity np F) (s : SR K g env σ Hf H) (r : Reps K g Hf ds vs) (h : Aft K g (WX_of E) env σ Hf H (callA F ds env) fun d _ Hf' H' => ∀ v, Rep K g Hf' d v → Q v H') : spM K g np F vs H Q E := by
  refine sp_of hn (sr_sh s.ex r) ?_
  unfold callA at h
  revert h
  cases F (ds.map .sh) with
  | bad => exact fun h => h
  | ex c d e => exact fun h dx v fs σ' Hf' H' st r e1 e2 e3 e4 e5 => h dx v fs σ Hf' H' (step_callA s st) r e1 e2 e3 (fun o => Own.there s o e5) e5
  | ok x e =>
    cases x with
    | rt d => exact fun h σ' Hf' H' st v r => h Hf' H' (step_callA s st) v r
    | rto d => exact fun h => h.elim
    | nx => exact fun h => h.elim
    | bk => exact fun h => h.elim
    | ct => exact fun h => h.elim
theorem spAF {ds : List D} {vs : List V} {Q : VK} (hn : Arity np F) (s : SR K g env σ Hf H) (r : Reps K g Hf ds vs) {P : D → Hp → Hp → Prop} (h : Aft K g (WX_of E) env σ Hf H (callAF F ds env) fun d e Hf' H' => ∀ p, New K g e σ H Hf' H' d p → Q (.ref p) H') : spM K g np F vs H Q E := by
  refine sp_of hn (sr_sh s.ex r) ?_
  unfold callAF at h
  revert h
  cases F (ds.map .sh) with
  | bad => exact fun h => h
  | ex c d e => exact fun h dx v fs σ' Hf' H' st r e1 e2 e3 e4 e5 => h dx v fs σ Hf' H' (step_callA s st) r e1 e2 e3 (fun o => Own.there s o e5) e5
  | ok x e =>
    cases x with
    | rto d => exact fun h σ' Hf' H' st p n => h Hf' H' (step_callA s st) p ⟨n.at_, n.nf, fun o => Own.there s o n.nw, n.nw⟩
    | rt d => exact fun h => h.elim
    | nx => exact fun h => h.elim
    | bk => exact fun h => h.elim
    | ct => exact fun h => h.elim
/-- .. the thing of slot i was -/
theorem spB {ds : List D} {vs : List V} {i : Nat} {p : Addr} {Q : VK} (hn : Arity np F) (s : SR K g env σ Hf H) (hp : σ[i]? = some (some (.ref p))) (r : Reps K g Hf ds vs) (h : Aft K g (WX_of E) env σ Hf H (callB F i ds env) fun d _ Hf' H' => ∀ v, Rep K g Hf' d v → Q v H') : spM K g np F (.ref p :: vs) H Q E := by
  unfold callB at h
  cases hx : env[i]? with
  | none => rw [hx] at h; exact h.elim
  | some x =>
    cases mx : x.mut with
    | none => rw [hx] at h; simp only [Option.bind, mx] at h; exact h.elim
    | some d0 =>
      rw [hx] at h
      simp only [Option.bind, mx] at h
      refine sp_of hn (sr_lent s hx mx hp r) ?_
      have pn : ∀ {e : En} {σ' : L2.St} {Hf' H' : Hp}, Step K g (.pn d0 :: ds.map .sh) ((V.ref p :: vs).map some) Hf H e σ' Hf' H' → ∃ d1 rest, e = .pn d1 :: rest := fun {e σ' Hf' H'} st => by
        obtain ⟨⟨d1, h1⟩, _⟩ := st.pn 0 d0 rfl
        cases e with
        | nil => cases h1
        | cons a b => cases h1; exact ⟨d1, b, rfl⟩
      revert h
      cases F (.pn d0 :: ds.map .sh) with
      | bad => exact fun h => h
      | ex c d e =>
        intro h dx v fs σ' Hf' H' st r e1 e2 e3 e4 e5
        obtain ⟨d1, rest, rfl⟩ := pn st
        exact h dx v fs σ Hf' H' (step_callB s hx mx hp st) r e1 e2 e3 (fun o => by
          rcases (step_callB s hx mx hp st).ow dx o with o | o
          · exact Own.there s o e5
          · obtain ⟨q, u, c1, c2, _⟩ := s.at_ hx mx
            obtain ⟨j, y, b, q1, q2, q3⟩ := (show Own (mdf i d1 env) σ dx from by assumption)
            have em : mdf i d1 env = env.set i (x.put d1) := by unfold mdf; rw [hx]
            rw [em] at q1
            by_cases w : i = j
            · subst w
              rw [hp] at q3
              cases q3
              rw [hp] at c1
              cases c1
              rw [c2] at e5
              cases e5
            · rw [List.getElem?_set_ne w] at q1
              exact Own.there s ⟨j, y, b, q1, q2, q3⟩ e5) e5
      | ok z e =>
        cases z with
        | rt d =>
          intro h σ' Hf' H' st v r
          obtain ⟨d1, rest, rfl⟩ := pn st
          exact h Hf' H' (step_callB s hx mx hp st) v r
        | rto d => exact fun h => h.elim
        | nx => exact fun h => h.elim
        | bk => exact fun h => h.elim
        | ct => exact fun h => h.elim
end
end DL

set_option Elab.async false
set_option linter.all false
set_option maxRecDepth 100000
set_option maxHeartbeats 400000
namespace DL
open PySem L2 PyProof.Rows
/-! ### what is known of the text's defs -/
section
variable (P : Program) (w : World) (K : PySem.W.Frag) (mg : Str → Option Value) (base : Heap) (g : G)
/-- the def x of the module: np parameters, its mirror F, by k levels, its defaults -/
structure Def0 (x : Str) (np : Nat) (F : Fm) (k : Nat) (dfl : List D) : Prop where
  ex : ∃ f fd ps dvs ds, FnOk P w K mg base (L2.CX P w) k f fd ps (spM K g np F) ∧ mg x = some (.ref f) ∧ PySem.W.keepIn K (.ref f) = true ∧ Binds K fd ps ds ∧ Vals dvs ds ∧ ∀ H, Reps K g H dfl dvs
  ar : Arity np F
/-- the method m of the class c -/
structure Mth (c : Nat) (m : Str) (F : Fm) (k : Nat) (dfl : List D) : Prop where
  ex : ∃ f fd ps dvs ds np, FnOk P w K mg base (L2.CX P w) k f fd ps (spM K g np F) ∧ Meth K (g.cl c) m f ∧ Binds K fd ps ds ∧ Vals dvs ds ∧ (∀ H, Reps K g H dfl dvs) ∧ Arity np F
  cl : Cls K (g.cl c)
  no : m ∉ nmT c
/-- a property -/
structure Prp (c : Nat) (m : Str) (F : Fm) (k : Nat) : Prop where
  ex : ∃ p f fd ps, FnOk P w K mg base (L2.CX P w) k f fd ps (spM K g 1 F) ∧ PropOf K (g.cl c) m p f ∧ Binds K fd ps []
  cl : Cls K (g.cl c)
  ar : Arity 1 F
/-- a special method: n parameters -/
structure Opr (c : Nat) (m : Str) (np : Nat) (F : Fm) (k : Nat) : Prop where
  ex : ∃ f, FnR P w K mg base (L2.CX P w) k f (spM K g np F) ∧ PySem.W.findIn K (.ref (g.cl c)) m = some (some (.ref f)) ∧ PySem.W.isFn K (.ref f) = true ∧ PySem.W.fnIn K f = true
  ar : Arity np F
/-- x(..) makes an instance of c -/
structure Mak (x : Str) (c : Nat) (np : Nat) (F : Fm) (k : Nat) (dfl : List D) : Prop where
  ex : ∃ f fd ps dvs ds, FnOk P w K mg base (L2.CX P w) k f fd ps (spM K g np F) ∧ Mk K (g.cl c) f ∧ mg x = some (.ref (g.cl c)) ∧ Binds K fd ps ds ∧ Vals dvs ds ∧ ∀ H, Reps K g H dfl dvs
  ok : g.ok c = true
  ar : Arity np F
/-- the fields of c -/
structure Fld (c : Nat) : Prop where
  cl : Cls K (g.cl c)
  no : ∀ f ∈ nmT c, NoAttr K (g.cl c) f
end
def ixF (f : Str) : List Str → Option Nat
  | [] => none
  | n :: ns => if f = n then some 0 else (ixF f ns).map (· + 1)
theorem ixF_mem {f : Str} : ∀ {ns : List Str} {k : Nat}, ixF f ns = some k → f ∈ ns
  | n :: ns, k, h => by
    unfold ixF at h
    split at h
    · rename_i e; rw [e]; exact List.mem_cons_self
    · cases q : ixF f ns with
      | none => rw [q] at h; cases h
      | some j => exact List.mem_cons_of_mem _ (ixF_mem q)
theorem ixF_zip {f : Str} : ∀ {ns : List Str} {vs : List V} {k : Nat} {v : V}, ixF f ns = some k → vs[k]? = some v → (ns.zip vs).lookup f = some v
  | n :: ns, [], k, v, h, e => by cases e
  | n :: ns, x :: vs, k, v, h, e => by
    unfold ixF at h
    rw [List.zip_cons_cons, List.lookup_cons]
    split at h
    · rename_i c
      cases h
      rw [beq_iff_eq.mpr c]
      exact e
    · rename_i c
      rw [show (f == n) = false from by simpa using c]
      cases q : ixF f ns with
      | none => rw [q] at h; cases h
      | some j =>
        rw [q] at h
        cases h
        rw [List.getElem?_cons_succ] at e
        exact ixF_zip q e
theorem putF_old {f : Str} {y : V} : ∀ {ns : List Str} {vs : List V} {k : Nat}, ixF f ns = some k → k < vs.length → putF f y (ns.zip vs) = ns.zip (vs.set k y)
  | n :: ns, [], k, h, e => by simp at e
  | n :: ns, x :: vs, k, h, e => by
    unfold ixF at h
    rw [List.zip_cons_cons, putF]
    split at h
    · rename_i c
      cases h
      rw [if_pos c.symm]
      rfl
    · rename_i c
      rw [if_neg fun z => c z.symm]
      cases q : ixF f ns with
      | none => rw [q] at h; cases h
      | some j =>
        rw [q] at h
        cases h
        rw [putF_old q (by simpa using e)]
        rfl
theorem putF_new {f : Str} {y : V} : ∀ {ns : List Str} {vs : List V}, ixF f ns = some vs.length → putF f y (ns.zip vs) = ns.zip (vs ++ [y])
  | n :: ns, [], h => by
    unfold ixF at h
    split at h
    · rename_i c; subst c; simp [putF]
    · cases q : ixF f ns with
      | none => rw [q] at h; cases h
      | some j => rw [q] at h; cases h
  | n :: ns, x :: vs, h => by
    unfold ixF at h
    rw [List.zip_cons_cons, putF]
    split at h
    · cases h
    · rename_i c
      rw [if_neg fun z => c z.symm]
      cases q : ixF f ns with
      | none => rw [q] at h; cases h
      | some j =>
        rw [q] at h
        have hj : j = vs.length := by
          have := Option.some.inj h
          rw [List.length_cons] at this
          have e : j + 1 = vs.length + 1 := this
          omega
        subst hj
        rw [putF_new q]
        rfl
/-! ### calls -/
section
variable {K : PySem.W.Frag} {g : G} {W : WX} {E : XK} {F : Fm} {np : Nat}
def mCallA (F : Fm) (dfl : List D) (ma : M (List D)) : M D := bnd ma fun ds => callA F (ds ++ dfl)
def mCallAF (F : Fm) (dfl : List D) (ma : M (List D)) : M D := bnd ma fun ds => callAF F (ds ++ dfl)
def mCallB (F : Fm) (i : Nat) (dfl : List D) (ma : M (List D)) : M D := bnd (own i) fun _ => bnd ma fun ds => callB F i (ds ++ dfl)
theorem ev_callA {ta : TA} {ma : M (List D)} {dvs : List V} {dfl : List D} (hn : Arity np F) (ha : EvL K g (WX_of E) ta ma) (hd : ∀ H, Reps K g H dfl dvs) : EvM K g (WX_of E) (tCall (spM K g np F) dvs E ta) (mCallA F dfl ma) :=
  fun env σ Hf H s Q h => ha env σ Hf H s _ (h.bnd.imp fun ds e1 Hf1 H1 _ s1 h1 vs r => spA hn s1.sr (r.append (hd Hf1)) h1)
theorem ev_callAF {ta : TA} {ma : M (List D)} {dvs : List V} {dfl : List D} (hn : Arity np F) (ha : EvL K g (WX_of E) ta ma) (hd : ∀ H, Reps K g H dfl dvs) : EvF K g (WX_of E) (tCall (spM K g np F) dvs E ta) (mCallAF F dfl ma) := by
  intro env σ Hf H s Q h
  refine ha env σ Hf H s _ ?_
  unfold mCallAF DL.bnd at h
  revert h
  cases ma env with
  | bad => exact fun h => h
  | ex c d e => exact fun h => h
  | ok ds e =>
    intro h Hf1 H1 s1 vs r
    refine spAF hn s1.sr (r.append (hd Hf1)) (P := fun _ _ _ => True) ?_
    revert h
    show Aft K g (WX_of E) env σ Hf H (callAF F (ds ++ dfl) e) _ → _
    cases callAF F (ds ++ dfl) e with
    | bad => exact fun h => h
    | ex c d e2 => exact fun h => XGot.after s1 h
    | ok d e2 => exact fun h Hf2 H2 s2 p n => h Hf2 H2 (s1.trans s2) p ⟨n.at_, n.nf, n.no, s1.th p n.nw⟩
theorem ev_callB {i : Nat} {ta : TA} {ma : M (List D)} {dvs : List V} {dfl : List D} (hn : Arity np F) (ha : EvL K g (WX_of E) ta ma) (hd : ∀ H, Reps K g H dfl dvs) : EvM K g (WX_of E) (tCall (spM K g np F) dvs E (tCons (tVar i) ta)) (mCallB F i dfl ma) :=
  fun env σ Hf H s Q h => by
    obtain ⟨x, d, hx, mx, h1⟩ := own_ok s h.bnd
    obtain ⟨p, u, hp, _⟩ := s.mut_at hx mx
    exact ⟨_, hp, ha env σ Hf H s _ (h1.bnd.imp fun ds e1 Hf1 H1 _ s1 h1 vs r => spB hn s1.sr hp (r.append (hd Hf1)) h1)⟩
/-- C(..) -/
def mkA (F : Fm) (c : Nat) (ds : List D) : M D := fun env => match F (.pn (.ins c []) :: ds.map .sh) with
  | .ok (.rt .non) (.pn d1 :: _) => .ok d1 env
  | .ex c d _ => .ex c d env
  | _ => .bad
def mMakF (F : Fm) (c : Nat) (dfl : List D) (ma : M (List D)) : M D := bnd ma fun ds => mkA F c (ds ++ dfl)
theorem Aft.frame {α β : Type} {env : En} {σ : L2.St} {Hf H : Hp} {m : M α} {k : α → M β} {P : β → En → Hp → Hp → Prop} (h : Aft K g W env σ Hf H (DL.bnd m k env) P) :
    Aft K g W env σ Hf H (m env) fun a e Hf1 H1 => Step K g env σ Hf H e σ Hf1 H1 → (match k a e with
      | .ok b e2 => ∀ Hf2 H2, Step K g env σ Hf H e2 σ Hf2 H2 → P b e2 Hf2 H2
      | .ex c d e2 => XGot K g W env σ Hf H c d e2
      | .bad => False) := by
  unfold DL.bnd at h
  revert h
  cases m env with
  | ok a e => exact fun h Hf1 H1 s1 _ => h
  | ex c d e => exact fun h => h
  | bad => exact fun h => h
theorem ev_makF {c : Nat} {ta : TA} {ma : M (List D)} {dvs : List V} {dfl : List D} (hn : Arity np F) (ok : g.ok c = true) (ha : EvL K g (WX_of E) ta ma) (hd : ∀ H, Reps K g H dfl dvs) :
    EvF K g (WX_of E) (tMake (g.cl c) (spM K g np F) dvs E ta) (mMakF F c dfl ma) := by
  intro env σ Hf H s Q h
  refine ha env σ Hf H s _ (h.frame.imp fun ds e1 Hf1 H1 _ s1 h1 vs r x dx nx ndx ne => ?_)
  replace h1 := h1 s1
  -- the heap with the new instance
  have npd : H1 dx = none := ndx
  have w1 : Grow Hf1 H1 Hf1 (upd H1 dx (.own x)) := own_new s1.sr.ex ndx
  have nx1 : (upd H1 dx (.own x)) x = none := by rw [upd_ne (fun z => ne z.symm)]; exact nx
  have w2 : Grow Hf1 (upd H1 dx (.own x)) Hf1 (upd (upd H1 dx (.own x)) x (.ins (g.cl c) dx [])) := own_new w1.fh nx1
  have w : Grow Hf1 H1 Hf1 (upd (upd H1 dx (.own x)) x (.ins (g.cl c) dx [])) := Grow.trans (a := w1) w2
  have fx : Hf1 x = none := s1.sr.ex.back nx
  have r2 := r.append (hd Hf1)
  have srl : SR K g (.pn (.ins c []) :: (ds ++ dfl).map .sh) ((V.ref x :: (vs ++ dvs)).map some) Hf1 (upd (upd H1 dx (.own x)) x (.ins (g.cl c) dx [])) := by
    have s0 : SR K g [Sl.pn (.ins c [])] [some (V.ref x)] Hf1 (upd (upd H1 dx (.own x)) x (.ins (g.cl c) dx [])) := by
      refine ⟨w.fh, rfl, fun i y o h h' => ?_, fun i j y z a b p n1 q1 q2 m1 m2 f1 => ?_⟩
      · cases i with
        | zero =>
          cases h
          cases h'
          exact ⟨x, _, rfl, upd_same, fx, by
            have := RepO.ins (K := K) (g := g) (Hf := Hf1) (c := c) (dx := dx) (ds := []) (vs := []) .nil (Nat.zero_le _) ok
            simpa using this⟩
        | succ i => simp at h
      · have hi := (List.getElem?_eq_some_iff.mp q1).1
        have hj := (List.getElem?_eq_some_iff.mp q2).1
        simp at hi hj
        omega
    exact sr_lent (i := 0) (p := x) s0 rfl rfl rfl r2
  refine sp_of hn srl ?_
  have stepBack : ∀ {e : En} {σ' : L2.St} {Hf' H' : Hp}, Step K g (.pn (.ins c []) :: (ds ++ dfl).map .sh) ((V.ref x :: (vs ++ dvs)).map some) Hf1 (upd (upd H1 dx (.own x)) x (.ins (g.cl c) dx [])) e σ' Hf' H' → Step K g e1 σ Hf1 H1 e1 σ Hf' H' := fun {e σ' Hf' H'} st => by
    have kp : ∀ a u, H1 a = some u → Hf1 a = none → H' a = some u ∧ Hf' a = none := fun a u q q' => st.kp a u (w.h a u q) q' fun o => by
      have := own_lent.mp o
      rw [this, nx] at q
      cases q
    refine ⟨st.f, ⟨st.sr.ex, s1.sr.len, fun i y o q q' => ?_, s1.sr.ne⟩, fun a u q q' _ => kp a u q q', fun a o => .inl o, fun a q => w.h.back (st.th a q), fun i d q => ⟨⟨d, q⟩, rfl⟩, rfl⟩
    have z := s1.sr.sl i y o q q'
    cases y with
    | no => trivial
    | sh d => obtain ⟨v, e, r⟩ := z; exact ⟨v, e, r.mono st.f⟩
    | ow d => obtain ⟨p, u, e, h1, h2, r⟩ := z; obtain ⟨k1, k2⟩ := kp p u h1 h2; exact ⟨p, u, e, k1, k2, r.mono st.f⟩
    | pn d => obtain ⟨p, u, e, h1, h2, r⟩ := z; obtain ⟨k1, k2⟩ := kp p u h1 h2; exact ⟨p, u, e, k1, k2, r.mono st.f⟩
  have pn : ∀ {e : En} {σ' : L2.St} {Hf' H' : Hp}, Step K g (.pn (.ins c []) :: (ds ++ dfl).map .sh) ((V.ref x :: (vs ++ dvs)).map some) Hf1 (upd (upd H1 dx (.own x)) x (.ins (g.cl c) dx [])) e σ' Hf' H' →
      ∃ d1 rest, e = .pn d1 :: rest ∧ ∃ u, H' x = some u ∧ Hf' x = none ∧ RepO K g Hf' d1 u := fun {e σ' Hf' H'} st => by
    obtain ⟨⟨d1, h1⟩, e0⟩ := st.pn 0 _ rfl
    cases e with
    | nil => cases h1
    | cons a b =>
      cases h1
      obtain ⟨q, u, f, h1, h2, r⟩ := st.sr.at_ (i := 0) (x := .pn d1) (d := d1) rfl rfl
      rw [e0] at f
      cases f
      exact ⟨d1, b, rfl, u, h1, h2, r⟩
  unfold mkA at h1
  revert h1
  cases F (.pn (.ins c []) :: (ds ++ dfl).map .sh) with
  | bad => exact fun h => h
  | ex c' d e => exact fun h dx' v fs σ' Hf' H' st r q1 q2 q3 q4 q5 => h dx' v fs σ Hf' H' (s1.trans (stepBack st)) r q1 q2 q3 (fun o => Own.there s1.sr o (w.h.back q5)) (s1.th _ (w.h.back q5))
  | ok z e =>
    cases z with
    | rto d => exact fun h => h.elim
    | nx => exact fun h => h.elim
    | bk => exact fun h => h.elim
    | ct => exact fun h => h.elim
    | rt d =>
      intro h σ' Hf' H' st v rv
      obtain ⟨d1, rest, rfl, u, k1, k2, k3⟩ := pn st
      cases rv <;> try exact h.elim
      case non => exact ⟨rfl, h Hf' H' (s1.trans (stepBack st)) x ⟨⟨u, k1, k3⟩, k2, fun o => Own.there s1.sr o nx, s1.th x nx⟩⟩
end
end DL

set_option Elab.async false
set_option linter.all false
set_option maxRecDepth 100000
set_option maxHeartbeats 400000
namespace DL
open PySem L2 PyProof.Rows
abbrev E0 : XK := fun _ _ _ => False
theorem pas0 {X : Cx} : Passes (L2.CX X.prog X.w) X E0 := fun _ _ _ _ _ _ _ h => by
  obtain ⟨_, _, _, _, _, _, _, _, _, _, _, _, z⟩ := h
  exact z.elim
/-! ### calls of the text's defs -/
section
variable {X : Cx} {g : G} {E : XK} {x : Str} {np k j : Nat} {F : Fm} {dfl : List D} {es : List Expr} {e : Expr} {ma : M (List D)} {p pos : Pos}
theorem m_call (d : Def0 X.prog X.w X.K X.mg X.base g x np F k dfl) (hr : Room j X.A) (hx : Passes (L2.CX X.prog X.w) X E) (ha : PAM X g (WX_of E) (e :: es) ma) (hk : k ≤ j := by decide) (hg : Gl X x := by rfl) (hdb : (x == ("__debug__" : Str)) = false := by decide)
    (he : starEach (e :: es) X.env = (false, eval e X.env) :: starEach es X.env := by rfl) (hpl : (backTo pos (starEach es X.env)).any (·.1) = false := by rfl) : PEM X g (WX_of E) (.Call (.Name x p) (e :: es) [] pos) (mCallA F dfl ma) := by
  obtain ⟨t, h1, h2⟩ := ha
  obtain ⟨⟨f, fd, ps, dvs, ds, F1, hm, kp, b, v, r⟩, ar⟩ := d
  exact ⟨_, pe_call F1 (hr.mono hk) hg hm kp b v hx h1 hdb he hpl, ev_callA ar h2 r⟩
theorem m_call0 (d : Def0 X.prog X.w X.K X.mg X.base g x np F k dfl) (hr : Room j X.A) (hx : Passes (L2.CX X.prog X.w) X E) (hk : k ≤ j := by decide) (hg : Gl X x := by rfl) (hdb : (x == ("__debug__" : Str)) = false := by decide) : PEM X g (WX_of E) (.Call (.Name x p) [] [] pos) (mCallA F dfl mNil) := by
  obtain ⟨⟨f, fd, ps, dvs, ds, F1, hm, kp, b, v, r⟩, ar⟩ := d
  exact ⟨_, pe_call0 F1 (hr.mono hk) hg hm kp b v hx hdb, ev_callA ar ev_nil r⟩
theorem f_call (d : Def0 X.prog X.w X.K X.mg X.base g x np F k dfl) (hr : Room j X.A) (hx : Passes (L2.CX X.prog X.w) X E) (ha : PAM X g (WX_of E) (e :: es) ma) (hk : k ≤ j := by decide) (hg : Gl X x := by rfl) (hdb : (x == ("__debug__" : Str)) = false := by decide)
    (he : starEach (e :: es) X.env = (false, eval e X.env) :: starEach es X.env := by rfl) (hpl : (backTo pos (starEach es X.env)).any (·.1) = false := by rfl) : PEF X g (WX_of E) (.Call (.Name x p) (e :: es) [] pos) (mCallAF F dfl ma) := by
  obtain ⟨t, h1, h2⟩ := ha
  obtain ⟨⟨f, fd, ps, dvs, ds, F1, hm, kp, b, v, r⟩, ar⟩ := d
  exact ⟨_, pe_call F1 (hr.mono hk) hg hm kp b v hx h1 hdb he hpl, ev_callAF ar h2 r⟩
/-- the first argument lent -/
theorem m_callL (i : Nat) {y : Str} {py : Pos} (d : Def0 X.prog X.w X.K X.mg X.base g x np F k dfl) (hr : Room j X.A) (hx : Passes (L2.CX X.prog X.w) X E) (ha : PAM X g (WX_of E) es ma) (hk : k ≤ j := by decide) (hg : Gl X x := by rfl)
    (hN : X.N[i]? = some y := by rfl) (hv : Vis X.env.scope y := by first | exact Or.inl rfl | exact Or.inr (Or.inl rfl) | exact Or.inr (Or.inr rfl)) (hd : (y == ("__debug__" : Str)) = false := by decide) (hcd : (y == ("__classdict__" : Str)) = false := by decide) (hdb : (x == ("__debug__" : Str)) = false := by decide)
    (he : starEach (.Name y py :: es) X.env = (false, eval (.Name y py) X.env) :: starEach es X.env := by rfl) (hpl : (backTo pos (starEach es X.env)).any (·.1) = false := by rfl) : PEM X g (WX_of E) (.Call (.Name x p) (.Name y py :: es) [] pos) (mCallB F i dfl ma) := by
  obtain ⟨t, h1, h2⟩ := ha
  obtain ⟨⟨f, fd, ps, dvs, ds, F1, hm, kp, b, v, r⟩, ar⟩ := d
  exact ⟨_, pe_call F1 (hr.mono hk) hg hm kp b v hx (pa_cons (pe_var hN hv hd hcd) h1 he) hdb he hpl, ev_callB ar h2 r⟩
/-- C(..) -/
theorem f_make {c : Nat} (d : Mak X.prog X.w X.K X.mg X.base g x c np F k dfl) (hr : Room j X.A) (hx : Passes (L2.CX X.prog X.w) X E) (ha : PAM X g (WX_of E) (e :: es) ma) (hk : k + 1 ≤ j := by decide) (hg : Gl X x := by rfl) (hdb : (x == ("__debug__" : Str)) = false := by decide)
    (he : starEach (e :: es) X.env = (false, eval e X.env) :: starEach es X.env := by rfl) (hpl : (backTo pos (starEach es X.env)).any (·.1) = false := by rfl) : PEF X g (WX_of E) (.Call (.Name x p) (e :: es) [] pos) (mMakF F c dfl ma) := by
  obtain ⟨t, h1, h2⟩ := ha
  obtain ⟨⟨f, fd, ps, dvs, ds, F1, mk, hm, b, v, r⟩, ok, ar⟩ := d
  exact ⟨_, pe_make mk F1 (hr.mono hk) hg hm b v hx h1 hdb he hpl, ev_makF ar ok h2 r⟩
end
/-! ### fields -/
def fldD (f : Str) : D → Option D
  | .ins c ds => (ixF f (nmT c)).bind fun k => ds[k]?
  | _ => none
/-- the text's classes: their fields are no names of the class -/
def AllFld (K : PySem.W.Frag) (g : G) : Prop := ∀ c, g.ok c = true → Fld K g c
section
variable {K : PySem.W.Frag} {g : G} {W : WX} {E : XK}
def rFld (K : PySem.W.Frag) (f : Str) : V → Hp → VK → Prop := fun x H1 Q => ∃ a C dx fs v, x = .ref a ∧ H1 a = some (.ins C dx fs) ∧ Cls K C ∧ NoAttr K C f ∧ fs.lookup f = some v ∧ Q v H1
theorem ru_fld (A : AllFld K g) (f : Str) : RuOk K g (rFld K f) (fldD f) := fun Hf H x dx Q e r h => by
  cases r <;> try exact h.elim
  case ins a dx' c ds vs ha hv hl ok =>
    dsimp only [fldD] at h
    cases q : ixF f (nmT c) with
    | none => rw [q] at h; exact h.elim
    | some k =>
      rw [q] at h
      dsimp only [Option.bind] at h
      cases q2 : ds[k]? with
      | none => rw [q2] at h; exact h.elim
      | some d =>
        rw [q2] at h
        obtain ⟨v, e1, r1⟩ := Reps.getD hv q2
        have F := A c ok
        exact ⟨a, g.cl c, dx', _, v, rfl, e _ _ ha, F.cl, F.no f (ixF_mem q), ixF_zip q e1, h v Hf H (Grow.refl e) r1⟩
theorem ev_fldS (A : AllFld K g) (f : Str) (i : Nat) : EvM K g W (tFld K (tVar i) f) (bnd (own i) fun d => lft (fldD f d)) := fun env σ Hf H s Q h => by
  obtain ⟨x, d, hx, mx, h1⟩ := own_ok s h.bnd
  obtain ⟨p, u, hp, hu, ru⟩ := s.mut_at hx mx
  obtain ⟨z, hz, k⟩ := Aft.lft s h1
  cases ru <;> try (cases hz; done)
  case ins c dx ds vs hv hl ok =>
    dsimp only [fldD] at hz
    cases q : ixF f (nmT c) with
    | none => rw [q] at hz; cases hz
    | some j =>
      rw [q] at hz
      dsimp only [Option.bind] at hz
      obtain ⟨v, e1, r1⟩ := Reps.getD hv hz
      have F := A c ok
      exact ⟨_, hp, p, g.cl c, dx, _, v, rfl, hu, F.cl, F.no f (ixF_mem q), ixF_zip q e1, k Hf H (Grow.refl s.ex) v r1⟩
def putD (f : Str) (z : D) : D → Option D
  | .ins c ds => (ixF f (nmT c)).bind fun k => if k < ds.length then some (.ins c (ds.set k z)) else if k = ds.length then some (.ins c (ds ++ [z])) else none
  | _ => none
/-- x.f = e, x our own -/
def sFldS (f : Str) (i : Nat) (m : M D) : S := bnd m fun z => bnd (own i) fun d => match putD f z d with
  | some d' => fun env => .ok .nx (mdf i d' env)
  | none => fun _ => .bad
theorem ixF_lt {f : Str} : ∀ {ns : List Str} {k : Nat}, ixF f ns = some k → k < ns.length
  | n :: ns, k, h => by
    unfold ixF at h
    split at h
    · cases h; simp
    · cases q : ixF f ns with
      | none => rw [q] at h; cases h
      | some j => rw [q] at h; cases h; simpa using ixF_lt q
theorem nm_le (c : Nat) : (nmT c).length ≤ 10 := by
  rw [nmN_eq]
  unfold nmN
  split <;> decide
theorem ev_sfld (A : AllFld K g) {f : Str} {i : Nat} {te : TE} {m : M D} (he : EvM K g W te m) : EvS K g W (sFld K (tVar i) te f) (sFldS f i m) := fun env σ Hf H s Z h => by
  refine he env σ Hf H s _ (h.bnd.imp fun z e1 Hf1 H1 _ s1 h1 v rv => ?_)
  obtain ⟨x, d, hx, mx, h2⟩ := own_okS s1.sr h1
  obtain ⟨p, u, hp, hu, ru⟩ := s1.sr.mut_at hx mx
  cases ru <;> try exact h2.elim
  case ins c dx ds vs hv hl ok =>
    have F := A c ok
    dsimp only [putD] at h2
    cases q : ixF f (nmT c) with
    | none => rw [q] at h2; exact h2.elim
    | some k =>
      rw [q] at h2
      dsimp only [Option.bind] at h2
      refine ⟨_, hp, p, g.cl c, dx, _, rfl, hu, F.cl, F.no f (ixF_mem q), by
        rw [List.length_zip]
        have := nm_le c
        omega, ?_⟩
      by_cases b1 : k < ds.length
      · rw [if_pos b1] at h2
        rw [putF_old q (by rw [← hv.len]; exact b1)]
        exact h2 σ Hf1 _ (step_mut s1.sr hx mx hp (.ins (hv.set k rv) (by rw [List.length_set]; exact hl) ok))
      · rw [if_neg b1] at h2
        by_cases b2 : k = ds.length
        · rw [if_pos b2] at h2
          rw [putF_new (by rw [q, b2, hv.len])]
          exact h2 σ Hf1 _ (step_mut s1.sr hx mx hp (.ins (hv.append (.cons rv .nil)) (by
            rw [List.length_append, List.length_singleton, ← b2]
            exact ixF_lt q) ok))
        · rw [if_neg b2] at h2
          exact h2.elim
end
section
variable {X : Cx} {g : G} {W : WX} {e : Expr} {m : M D} {f x : Str} {pos p1 pos' : Pos}
theorem m_fld (A : AllFld X.K g) (h : PEM X g W e m) (hb : attributeBase e f X.env (eval e X.env) = eval e X.env := by rfl) : PEM X g W (.Attribute e f pos) (mUn (fldD f) m) := by
  obtain ⟨t, h1, h2⟩ := h
  exact ⟨_, pe_fld h1 hb, (ru_fld A f).ev h2⟩
theorem m_fldS (i : Nat) (A : AllFld X.K g) (hN : X.N[i]? = some x := by rfl) (hv : Vis X.env.scope x := by first | exact Or.inl rfl | exact Or.inr (Or.inl rfl) | exact Or.inr (Or.inr rfl)) (hd : (x == ("__debug__" : Str)) = false := by decide) (hcd : (x == ("__classdict__" : Str)) = false := by decide)
    (hb : attributeBase (.Name x p1) f X.env (eval (.Name x p1) X.env) = eval (.Name x p1) X.env := by rfl) : PEM X g W (.Attribute (.Name x p1) f pos) (bnd (own i) fun d => lft (fldD f d)) :=
  ⟨_, pe_fld (pe_var hN hv hd hcd) hb, ev_fldS A f i⟩
theorem s_fld (i : Nat) (A : AllFld X.K g) (h : PEM X g W e m) (hN : X.N[i]? = some x := by rfl) (hv : Vis X.env.scope x := by first | exact Or.inl rfl | exact Or.inr (Or.inl rfl) | exact Or.inr (Or.inr rfl)) (hd : (x == ("__debug__" : Str)) = false := by decide) (hcd : (x == ("__classdict__" : Str)) = false := by decide)
    (hs : swapsWith e (some (.Attribute (.Name x p1) f pos')) pos.line X.env = pure false := by rfl) : PSM X g W (.Assign [.Attribute (.Name x p1) f pos'] e pos) (sFldS f i m) := by
  obtain ⟨t, h1, h2⟩ := h
  exact ⟨_, ps_fld (pe_var hN hv hd hcd) h1 hs, ev_sfld A h2⟩
end
end DL

set_option Elab.async false
set_option linter.all false
set_option maxRecDepth 100000
set_option maxHeartbeats 400000
namespace DL
open PySem L2 PyProof.Rows
/-! ### by the class of a value -/
def cand {α : Type} (L : List (Nat × α)) : D → Option α
  | .ins c _ => L.lookup c
  | _ => none
theorem lookup_mem {α : Type} {c : Nat} {q : α} : ∀ {L : List (Nat × α)}, L.lookup c = some q → (c, q) ∈ L
  | a :: L, h => by
    rw [List.lookup_cons] at h
    by_cases e : c = a.1
    · rw [beq_iff_eq.mpr e] at h
      obtain ⟨c', q'⟩ := a
      dsimp only at h e
      cases h
      cases e
      exact List.mem_cons_self
    · rw [show (c == a.1) = false from by simpa using e] at h
      exact List.mem_cons_of_mem _ (lookup_mem h)
theorem cand_some {α : Type} {L : List (Nat × α)} {d : D} {q : α} (h : cand L d = some q) : ∃ c ds, d = .ins c ds ∧ (c, q) ∈ L := by
  cases d <;> try (cases h; done)
  case ins c ds => exact ⟨c, ds, rfl, lookup_mem h⟩
/-- a promise, whatever stands for the defaults -/
def SpD (K : PySem.W.Frag) (g : G) (F : Fm) (dfl : List D) : Sp := fun vs H Q E => ∀ (dvs : List V) (np : Nat), (∀ H, Reps K g H dfl dvs) → Arity np F → spM K g np F (vs ++ dvs) H Q E
section
variable {K : PySem.W.Frag} {g : G} {E : XK} {env : En} {σ : L2.St} {Hf H : Hp} {F : Fm}
theorem spD_A {ds dfl : List D} {vs : List V} {Q : VK} (s : SR K g env σ Hf H) (r : Reps K g Hf ds vs) (h : Aft K g (WX_of E) env σ Hf H (callA F (ds ++ dfl) env) fun d _ Hf' H' => ∀ v, Rep K g Hf' d v → Q v H') : SpD K g F dfl vs H Q E :=
  fun dvs np hd ar => spA ar s (r.append (hd Hf)) h
end
/-! ### methods -/
section
variable (P : Program) (w : World) (K : PySem.W.Frag) (mg : Str → Option Value) (base : Heap) (g : G)
def AllM (j : Nat) (m : Str) (L : List (Nat × (Fm × List D))) : Prop := ∀ p ∈ L, ∃ k, k ≤ j ∧ Mth P w K mg base g p.1 m p.2.1 k p.2.2
def AllP (j : Nat) (m : Str) (L : List (Nat × Fm)) : Prop := ∀ p ∈ L, ∃ k, k + 1 ≤ j ∧ Prp P w K mg base g p.1 m p.2 k
def AllO (d j : Nat) (m : Str) (np : Nat) (L : List (Nat × Fm)) : Prop := ∀ p ∈ L, ∃ k, k + d ≤ j ∧ Opr P w K mg base g p.1 m np p.2 k
end
section
variable {P : Program} {w : World} {K : PySem.W.Frag} {mg : Str → Option Value} {base : Heap} {g : G} {d j k c np : Nat} {m : Str} {F : Fm} {dfl : List D}
theorem AllM.nil : AllM P w K mg base g j m [] := fun _ h => by cases h
theorem AllM.cons {L : List (Nat × (Fm × List D))} (h : Mth P w K mg base g c m F k dfl) (t : AllM P w K mg base g j m L) (hk : k ≤ j := by decide) : AllM P w K mg base g j m ((c, F, dfl) :: L) := fun p hp => by
  rcases List.mem_cons.mp hp with rfl | hp
  · exact ⟨k, hk, h⟩
  · exact t p hp
theorem AllP.nil : AllP P w K mg base g j m [] := fun _ h => by cases h
theorem AllP.cons {L : List (Nat × Fm)} (h : Prp P w K mg base g c m F k) (t : AllP P w K mg base g j m L) (hk : k + 1 ≤ j := by decide) : AllP P w K mg base g j m ((c, F) :: L) := fun p hp => by
  rcases List.mem_cons.mp hp with rfl | hp
  · exact ⟨k, hk, h⟩
  · exact t p hp
theorem AllO.nil : AllO P w K mg base g d j m np [] := fun _ h => by cases h
theorem AllO.cons {L : List (Nat × Fm)} (h : Opr P w K mg base g c m np F k) (t : AllO P w K mg base g d j m np L) (hk : k + d ≤ j := by decide) : AllO P w K mg base g d j m np ((c, F) :: L) := fun p hp => by
  rcases List.mem_cons.mp hp with rfl | hp
  · exact ⟨k, hk, h⟩
  · exact t p hp
end
def mMeth (L : List (Nat × (Fm × List D))) (mo : M D) (ma : M (List D)) : M D := bnd mo fun o => match cand L o with
  | some q => bnd ma fun ds => callA q.1 (o :: (ds ++ q.2))
  | none => fun _ => .bad
def mMethB (L : List (Nat × (Fm × List D))) (i : Nat) (ma : M (List D)) : M D := bnd (own i) fun o => match cand L o with
  | some q => bnd ma fun ds => callB q.1 i (ds ++ q.2)
  | none => fun _ => .bad
def mPrp (L : List (Nat × Fm)) (mo : M D) : M D := bnd mo fun o => match cand L o with
  | some F => nox (callA F [o])
  | none => fun _ => .bad
def tMethL (K : PySem.W.Frag) (g : G) (m : Str) (L : List (Nat × (Fm × List D))) (E : XK) (ta : TE) (t : TA) : TE := fun σ H Q => ta σ H fun x H1 => ∃ p ∈ L, ∃ a dx fs, x = .ref a ∧ H1 a = some (.ins (g.cl p.1) dx fs) ∧ fs.lookup m = none ∧
  t σ H1 fun vs H2 => SpD K g p.2.1 p.2.2 (x :: vs) H2 Q E
def tPrpL (K : PySem.W.Frag) (g : G) (L : List (Nat × Fm)) (ta : TE) : TE := fun σ H Q => ta σ H fun x H1 => ∃ p ∈ L, ∃ a dx fs, x = .ref a ∧ H1 a = some (.ins (g.cl p.1) dx fs) ∧ SpD K g p.2 [] [x] H1 Q E0
section
variable {K : PySem.W.Frag} {g : G} {W : WX} {E : XK} {m : Str}
theorem Aft.nox {α : Type} {env : En} {σ : L2.St} {Hf H : Hp} {m : M α} {P : α → En → Hp → Hp → Prop} (h : Aft K g W env σ Hf H (DL.nox m env) P) : Aft K g (WX_of E0) env σ Hf H (m env) P := by
  unfold DL.nox at h
  revert h
  cases m env with
  | ok a e => exact fun h => h
  | ex c d e => exact fun h => h.elim
  | bad => exact fun h => h
theorem ev_prp {L : List (Nat × Fm)} {to : TE} {mo : M D} (ho : EvM K g W to mo) : EvM K g W (tPrpL K g L to) (mPrp L mo) :=
  fun env σ Hf H s Q h => ho env σ Hf H s _ (h.bnd.imp fun o e1 Hf1 H1 _ s1 h1 x rx => by
    cases q : cand L o with
    | none => rw [q] at h1; exact h1.elim
    | some q' =>
      rw [q] at h1
      obtain ⟨c, ds, rfl, mem⟩ := cand_some q
      have rx' := rx
      cases rx with
      | @ins a dx _ _ vs hx hv hl ok =>
        exact ⟨_, mem, a, dx, _, rfl, s1.sr.ex _ _ hx, spD_A (dfl := []) s1.sr (.cons rx' .nil) (Aft.nox h1)⟩)
end
section
variable {X : Cx} {g : G} {W : WX} {E : XK} {j : Nat} {o e : Expr} {es : List Expr} {m f : Str} {mo : M D} {ma : M (List D)} {pos apos : Pos} {ta : TE} {t : TA} {pl : Sem Bool}
theorem AllM.no {L : List (Nat × (Fm × List D))} (h : AllM X.prog X.w X.K X.mg X.base g j m L) : ∀ p ∈ L, m ∉ nmT p.1 := fun p hp => let ⟨_, _, q⟩ := h p hp; q.no
theorem m_prp {L : List (Nat × Fm)} (hL : AllP X.prog X.w X.K X.mg X.base g j f L) (ho : PEM X g W o mo) (hr : Room j X.A) (hb : attributeBase o f X.env (eval o X.env) = eval o X.env := by rfl) : PEM X g W (.Attribute o f pos) (mPrp L mo) := by
  obtain ⟨u, h1, h2⟩ := ho
  refine ⟨_, ⟨fun pins s σ H Q I h => ?_⟩, ev_prp (L := L) h2⟩
  refine attr_of hb (thn (h1.run pins s σ H _ I h) fun u s1 ⟨x, H1, I1, rx, p, hp, a, dx, fs, ex, ea, q⟩ => ?_)
  subst ex
  obtain rfl : u = Value.ref a := rx
  obtain ⟨k, hk, ⟨pa, fa, fd, ps, F, hpr, b⟩, c, ar⟩ := hL p hp
  exact getprop_ok I1 ea c hpr F (hr.mono hk) b .nil pas0 (q [] 1 (fun _ => .nil) ar)
end
end DL

set_option Elab.async false
set_option linter.all false
set_option maxRecDepth 100000
set_option maxHeartbeats 400000
namespace DL
open PySem L2 PyProof.Rows
/-! ### own operators -/
def RvA (K : PySem.W.Frag) (g : G) (E : XK) (r : R2) (f : D → D → M D) : Prop := ∀ env σ Hf H, SR K g env σ Hf H → ∀ x y dx dy Q, Rep K g Hf dx x → Rep K g Hf dy y →
  Aft K g (WX_of E) env σ Hf H (f dx dy env) (fun d _ Hf' H' => ∀ v, Rep K g Hf' d v → Q v H') → r x y H Q
def RuA (K : PySem.W.Frag) (g : G) (E : XK) (r : V → Hp → VK → Prop) (f : D → M D) : Prop := ∀ env σ Hf H, SR K g env σ Hf H → ∀ x dx Q, Rep K g Hf dx x →
  Aft K g (WX_of E) env σ Hf H (f dx env) (fun d _ Hf' H' => ∀ v, Rep K g Hf' d v → Q v H') → r x H Q
def RcA (K : PySem.W.Frag) (g : G) (E : XK) (r : List V → Hp → VK → Prop) (f : List D → M D) : Prop := ∀ env σ Hf H, SR K g env σ Hf H → ∀ xs ds Q, Reps K g Hf ds xs →
  Aft K g (WX_of E) env σ Hf H (f ds env) (fun d _ Hf' H' => ∀ v, Rep K g Hf' d v → Q v H') → r xs H Q
section
variable {K : PySem.W.Frag} {g : G} {E : XK}
theorem RvOk.a {r : R2} {f : D → D → Option D} (h : RvOk K g r f) : RvA K g E r (fun x y => lft (f x y)) := fun env σ Hf H s x y dx dy Q r1 r2 q => by
  obtain ⟨z, hz, k⟩ := Aft.lft s q
  refine h Hf H x y dx dy Q s.ex r1 r2 ?_
  rw [hz]
  exact fun v Hf' H' w r => k Hf' H' w v r
theorem RuOk.a {r : V → Hp → VK → Prop} {f : D → Option D} (h : RuOk K g r f) : RuA K g E r (fun x => lft (f x)) := fun env σ Hf H s x dx Q r1 q => by
  obtain ⟨z, hz, k⟩ := Aft.lft s q
  refine h Hf H x dx Q s.ex r1 ?_
  rw [hz]
  exact fun v Hf' H' w r => k Hf' H' w v r
theorem RcOk.a {r : List V → Hp → VK → Prop} {f : List D → Option D} (h : RcOk K g r f) : RcA K g E r (fun x => lft (f x)) := fun env σ Hf H s x dx Q r1 q => by
  obtain ⟨z, hz, k⟩ := Aft.lft s q
  refine h Hf H x dx Q s.ex r1 ?_
  rw [hz]
  exact fun v Hf' H' w r => k Hf' H' w v r
theorem RvA.ev {r : R2} {f : D → D → M D} {ta tb : TE} {ma mb : M D} (hr : RvA K g E r f) (ha : EvM K g (WX_of E) ta ma) (hb : EvM K g (WX_of E) tb mb) : EvM K g (WX_of E) (tOp r ta tb) (bnd ma fun x => bnd mb fun y => f x y) :=
  fun env σ Hf H s Q h => ha env σ Hf H s _ (h.bnd.imp fun x e1 Hf1 H1 _ s1 h1 v r1 => hb e1 σ Hf1 H1 s1.sr _ (h1.bnd.imp fun y e2 Hf2 H2 _ s2 h2 w r2 => hr e2 σ Hf2 H2 s2.sr v w x y Q (r1.mono s2.f) r2 h2))
theorem RuA.ev {r : V → Hp → VK → Prop} {f : D → M D} {ta : TE} {ma : M D} (hr : RuA K g E r f) (ha : EvM K g (WX_of E) ta ma) : EvM K g (WX_of E) (tUn r ta) (bnd ma f) :=
  fun env σ Hf H s Q h => ha env σ Hf H s _ (h.bnd.imp fun x e1 Hf1 H1 _ s1 h1 v r1 => hr e1 σ Hf1 H1 s1.sr v x Q r1 h1)
theorem RcA.ev {r : List V → Hp → VK → Prop} {f : List D → M D} {ta : TA} {ma : M (List D)} (hr : RcA K g E r f) (ha : EvL K g (WX_of E) ta ma) : EvM K g (WX_of E) (tCB r ta) (bnd ma f) :=
  fun env σ Hf H s Q h => ha env σ Hf H s _ (h.bnd.imp fun x e1 Hf1 H1 _ s1 h1 v r1 => hr e1 σ Hf1 H1 s1.sr v x Q r1 h1)
/-- x op y, by the class of x -/
def okY : D → D → Bool
  | .ins c _, .ins c' _ => c == c'
  | .ins _ _, .int _ => true
  | _, _ => false
def mOpO (L : List (Nat × Fm)) (f : D → D → Option D) (x y : D) : M D := match cand L x with
  | some F => if okY x y = true then callA F [x, y] else fun _ => .bad
  | none => lft (f x y)
def OwnY (H : Hp) (C : Addr) (y : V) : Prop := (∃ b dy gs, y = .ref b ∧ H b = some (.ins C dy gs)) ∨ ∃ i, y = .int i
def rOwnB (K : PySem.W.Frag) (g : G) (L : List (Nat × Fm)) (E : XK) : R2 := fun x y H Q => ∃ p ∈ L, ∃ a dx fs, x = .ref a ∧ H a = some (.ins (g.cl p.1) dx fs) ∧ OwnY H (g.cl p.1) y ∧ SpD K g p.2 [] [x, y] H Q E
theorem rv_opO {L : List (Nat × Fm)} {r : R2} {f : D → D → Option D} (h : RvOk K g r f) : RvA K g E (fun x y H Q => r x y H Q ∨ rOwnB K g L E x y H Q) (mOpO L f) := fun env σ Hf H s x y dx dy Q r1 r2 q => by
  unfold mOpO at q
  cases hc : cand L dx with
  | none => rw [hc] at q; exact .inl (h.a env σ Hf H s x y dx dy Q r1 r2 q)
  | some F =>
    rw [hc] at q
    dsimp only at q
    by_cases ok : okY dx dy = true
    · rw [if_pos ok] at q
      obtain ⟨c, ds, rfl, mem⟩ := cand_some hc
      right
      have r1' := r1
      cases r1 with
      | @ins a dxa _ _ vs hx hv hl okc =>
        refine ⟨_, mem, a, dxa, _, rfl, s.ex _ _ hx, ?_, spD_A (dfl := []) s (.cons r1' (.cons r2 .nil)) q⟩
        cases dy <;> try (cases ok; done)
        case int i => cases r2; exact .inr ⟨i, rfl⟩
        case ins c' ds' =>
          obtain rfl : c = c' := by simpa [okY] using ok
          cases r2 with
          | @ins b dyb _ _ vs' hx' hv' hl' okc' => exact .inl ⟨b, dyb, _, rfl, s.ex _ _ hx'⟩
    · rw [if_neg ok] at q
      exact q.elim
/-- what an own operator wants of the class -/
structure OpB (K : PySem.W.Frag) (C : Addr) (op : Operator) : Prop where
  sf : PySem.W.selfFirst K C = true
  nr : PySem.W.findIn K (.ref C) (dunderR op.info.2) = some none
  i1 : ∃ fo, PySem.W.findIn K (.type "int") (PySem.dunder op.info.2) = some fo
  i2 : ∃ ro, PySem.W.findIn K (.type "int") (dunderR op.info.2) = some ro
  sb : PySem.W.subIn K (.type "int") (.ref C) = some false
end
section
variable {X : Cx} {g : G} {E : XK} {j np : Nat} {m : Str} {L : List (Nat × Fm)}
/-- the own def, called with values, at the running body or in a builtin below it -/
theorem run_opr {A : Around} {pins : List (Addr × Obj)} {σ : L2.St} {H : Hp} {s : Shared} {k : Nat} {F : Fm} {f : Addr} {us : List Value} {vs : List V} {Q : VK} (Fn : FnR X.prog X.w X.K X.mg X.base (L2.CX X.prog X.w) k f (spM X.K g np F)) (ar : Arity np F) (hr : Room k A) (e0 : Env0 X.prog X.w X.K X.mg X.base A X.stack s H) (hx : Passes (L2.CX X.prog X.w) X E)
    (I : Inv X pins σ H s) (r : Vals vs us) (h : SpD X.K g F [] vs H Q E) : wpAny (model X.prog X.w) A (call (.ref f) us) (EP X pins σ Q) X.xe s := by
  have q := h [] np (fun _ => .nil) ar
  rw [List.append_nil] at q
  exact wpAny_call (SlX.run_at Fn hr e0 hx I r q)
theorem op_ownB {op : Operator} (hL : AllO X.prog X.w X.K X.mg X.base g 0 j (PySem.dunder op.info.2) 2 L) (hb : ∀ p ∈ L, OpB X.K (g.cl p.1) op) (hr : Room j X.A) (hx : Passes (L2.CX X.prog X.w) X E) : OpR X (binaryOp op) (rOwnB X.K g L E) := by
  intro pins s σ H x y v u Q I rx ry h
  obtain ⟨p, hp, a, dx, fs, rfl, ha, hy, q⟩ := h
  cases (show v = Value.ref a from rx)
  obtain ⟨k, hk, ⟨f, Fn, hs, hf, _⟩, ar⟩ := hL p hp
  obtain ⟨sf, nr, ⟨fo, i1⟩, ⟨ro, i2⟩, sb⟩ := hb p hp
  obtain ⟨mA, J, _⟩ := ins_get I.hok ha
  obtain ⟨od, J, _⟩ := J.look
  obtain ⟨m, hF⟩ := I.fr
  have back : wpAny (model X.prog X.w) X.A (call (.ref f) [.ref a, u]) (PySem.W.CmpBack (EP X pins σ Q)) X.xe s := by
    refine wpAny_mono (run_opr Fn ar (hr.mono hk) I.env0 hx I (us := [.ref a, u]) (vs := [.ref a, y]) (.cons rfl (.cons ry .nil)) q) (fun w s' z => ?_) fun _ _ x => x
    obtain ⟨z', H', I', rz, qz⟩ := z
    exact SlX.cmpback rz ⟨z', H', I', rz, qz⟩
  rcases hy with ⟨b, dy, gs, rfl, hb'⟩ | ⟨i, rfl⟩
  · cases (show u = Value.ref b from ry)
    obtain ⟨mB, J', _⟩ := ins_get I.hok hb'
    obtain ⟨od', J', _⟩ := J'.look
    exact PySem.W.binop_K hF I.ok.mod.kin J J'.type sf hs hf back
  · obtain ⟨t, rfl⟩ := (show ∃ t, u = Value.int i t from ry)
    exact PySem.W.ksp_binT (T := "int") hF I.ok.mod.kin J rfl sf hs hf nr (.inl rfl) i1 i2 sb back
/-! ### == and != -/
def rOwnE (K : PySem.W.Frag) (g : G) (L : List (Nat × Fm)) (E : XK) (neg : Bool) : R2 := fun x y H Q => ∃ p ∈ L, ∃ a dx fs b dy gs, x = .ref a ∧ H a = some (.ins (g.cl p.1) dx fs) ∧ y = .ref b ∧ H b = some (.ins (g.cl p.1) dy gs) ∧
  SpD K g p.2 [] [x, y] H (fun v H' => ∃ k, v = .bl k ∧ Q (.bl (k != neg)) H') E
def sameC : D → D → Bool
  | .ins c _, .ins c' _ => c == c'
  | _, _ => false
def blD (neg : Bool) : D → Option D
  | .bl k => some (.bl (k != neg))
  | _ => none
def mEqO (L : List (Nat × Fm)) (neg : Bool) (f : D → D → Option D) (x y : D) : M D := match cand L x with
  | some F => if sameC x y = true then bnd (callA F [x, y]) fun z => lft (blD neg z) else fun _ => .bad
  | none => lft (f x y)
end
section
variable {prog : Program} {w : World} {A : Around} {E : Value → Shared → Prop} {s : Shared} {K : PySem.W.Frag} {x C f : Addr} {ox : Obj} {od : Option Obj} {b : Value}
/-- object.__ne__: by the own __eq__ -/
theorem entry_ne {Q : Fin → Shared → Prop} (X : K.In s.heap) (I : PySem.W.InstAt s.heap x ox C od) (hu : A.units < cLine) (hs : PySem.W.findIn K (.ref C) "__eq__" = some (some (.ref f))) (hf : PySem.W.isFn K (.ref f) = true)
    (h : wpAny (model prog w) A (call (.ref f) [.ref x, b]) (fun v s' => ∃ k, v = .bool k ∧ Q (.done (.ret (.bool (!k)))) s') E s) : wpAny (model prog w) A (Builtin.«object.__ne__» ⟨[.ref x, b], []⟩) Q E s := by
  unfold Builtin.«object.__ne__»
  repeat (first
    | with_reducible refine wpAny_cRoomFor hu ?_
    | (refine wpAny_bind (m := callSpecialIfBound? (.ref x) (Str.ofString "__eq__") [b])
        (PySem.W.ifBound_K X I hs hf (wpAny_mono h (fun r s' hr => by
          obtain ⟨k, rfl, hq⟩ := hr
          repeat (first | exact hq | exact wpAny_pure hq | exact wpAny_truthy_bool hq | (refine wpAny_bind (m := truthy (.bool _)) (wpAny_truthy_bool ?_)) | wp_step)) fun _ _ e => e)))
    | wp_step)
theorem ifBound_ne {args : List Value} {Q : Option Value → Shared → Prop} (X : K.In s.heap) (I : PySem.W.InstAt s.heap x ox C od) (hs : PySem.W.findIn K (.ref C) "__ne__" = some (some (.builtin "object.__ne__")))
    (h : wpAny (model prog w) A (call (.builtin "object.__ne__") (.ref x :: args)) (fun v => Q (some v)) E s) : wpAny (model prog w) A (callSpecialIfBound? (.ref x) "__ne__" args) Q E s := by
  simp only [callSpecialIfBound?, bindSpecialIfBound?]
  refine wpAny_holding (wpAny_bind (wpAny_bind (wpAny_bind (I.type.here ((PySem.W.looks_findIn X hs).here ?_)))))
  refine wpAny_bind (wpAny_askSetting (wpAny_ite ?_))
  have fin : wpAny (model prog w) A (call (.builtin "object.__ne__") ([.ref x] ++ args) >>= fun v => pure (some v)) Q E s := wpAny_bind (wpAny_mono h (fun v s' h' => wpAny_pure h') fun _ _ h' => h')
  split
  · exact wpAny_bind (wpAny_of_eq (F.cmp_object.ne.bind _) (wpAny_pure (by exact fin)))
  · exact wpAny_tryCatch (wpAny_bind (wpAny_of_eq (F.cmp_object.ne.bind _) (wpAny_pure (by exact fin))))
end
end DL

set_option Elab.async false
set_option linter.all false
set_option maxRecDepth 100000
set_option maxHeartbeats 400000
namespace DL
open PySem L2 PyProof.Rows
/-- what != wants of the class -/
structure OpN (K : PySem.W.Frag) (C : Addr) : Prop where
  ne : PySem.W.findIn K (.ref C) "__ne__" = some (some (.builtin "object.__ne__"))
  mo : PySem.W.mroIn K C (.type "object") = some true
def mUnO (L : List (Nat × Fm)) (f : D → Option D) (x : D) : M D := match cand L x with
  | some F => callA F [x]
  | none => lft (f x)
def rOwnU (K : PySem.W.Frag) (g : G) (L : List (Nat × Fm)) (E : XK) : V → Hp → VK → Prop := fun x H Q => ∃ p ∈ L, ∃ a dx fs, x = .ref a ∧ H a = some (.ins (g.cl p.1) dx fs) ∧ SpD K g p.2 [] [x] H Q E
/-- x[j] -/
def mIxO (L : List (Nat × Fm)) (f : D → D → Option D) (x y : D) : M D := match cand L x with
  | some F => callA F [x, y]
  | none => lft (f x y)
def rOwnI (K : PySem.W.Frag) (g : G) (L : List (Nat × Fm)) (E : XK) : R2 := fun x y H Q => ∃ p ∈ L, ∃ a dx fs, x = .ref a ∧ H a = some (.ins (g.cl p.1) dx fs) ∧ SpD K g p.2 [] [x, y] H Q E
/-- len(x) -/
def lenR : D → Option D
  | .int n => if 0 ≤ n ∧ small n.natAbs = true then some (.int n) else none
  | _ => none
def mLenO (L : List (Nat × Fm)) (f : List D → Option D) (xs : List D) : M D := match xs with
  | [x] => (match cand L x with
    | some F => bnd (callA F [x]) fun z => lft (lenR z)
    | none => lft (f xs))
  | _ => lft (f xs)
def rOwnL (K : PySem.W.Frag) (g : G) (L : List (Nat × Fm)) (E : XK) : List V → Hp → VK → Prop := fun xs H Q => ∃ p ∈ L, ∃ a dx fs, xs = [.ref a] ∧ H a = some (.ins (g.cl p.1) dx fs) ∧ SpD K g p.2 [] xs H (fun v H' => ∃ n, v = .int n ∧ 0 ≤ n ∧ n < 2 ^ 63 ∧ Q (.int n) H') E
/-- the truth of x -/
def mTruO (L : List (Nat × Fm)) (m : M D) : M Bool := bnd m fun x => match cand L x with
  | some F => bnd (callA F [x]) fun z => lft (match z with | .bl k => some k | _ => none)
  | none => lft (truD x)
def rOwnT (K : PySem.W.Frag) (g : G) (L : List (Nat × Fm)) (E : XK) : V → Hp → (Bool → Hp → Prop) → Prop := fun x H Q => ∃ p ∈ L, ∃ a dx fs, x = .ref a ∧ H a = some (.ins (g.cl p.1) dx fs) ∧ SpD K g p.2 [] [x] H (fun v H' => ∃ k, v = .bl k ∧ Q k H') E
section
variable {K : PySem.W.Frag} {g : G} {E : XK} {L : List (Nat × Fm)}
theorem ins_at {Hf H : Hp} {c : Nat} {ds : List D} {x : V} (e : Ex Hf H) (r : Rep K g Hf (.ins c ds) x) : ∃ a dx fs, x = .ref a ∧ H a = some (.ins (g.cl c) dx fs) := by
  cases r with
  | ins hx hv hl ok => exact ⟨_, _, _, rfl, e _ _ hx⟩
theorem rv_ixO {r : R2} {f : D → D → Option D} (h : RvOk K g r f) : RvA K g E (fun x y H Q => r x y H Q ∨ rOwnI K g L E x y H Q) (mIxO L f) := fun env σ Hf H s x y dx dy Q r1 r2 q => by
  unfold mIxO at q
  cases hc : cand L dx with
  | none => rw [hc] at q; exact .inl (h.a env σ Hf H s x y dx dy Q r1 r2 q)
  | some F =>
    rw [hc] at q
    obtain ⟨c, ds, rfl, mem⟩ := cand_some hc
    obtain ⟨a, dxa, fs, rfl, ha⟩ := ins_at s.ex r1
    exact .inr ⟨_, mem, a, dxa, fs, rfl, ha, spD_A (dfl := []) s (.cons r1 (.cons r2 .nil)) q⟩
theorem rc_lenO {r : List V → Hp → VK → Prop} {f : List D → Option D} (h : RcOk K g r f) : RcA K g E (fun x H Q => r x H Q ∨ rOwnL K g L E x H Q) (mLenO L f) := fun env σ Hf H s xs ds Q r1 q => by
  unfold mLenO at q
  split at q
  · rename_i x
    cases hc : cand L x with
    | none => rw [hc] at q; exact .inl (h.a env σ Hf H s xs _ Q r1 q)
    | some F =>
      rw [hc] at q
      obtain ⟨c, ds, rfl, mem⟩ := cand_some hc
      right
      cases r1 with
      | cons r1 r2 =>
        cases r2
        obtain ⟨a, dxa, fs, rfl, ha⟩ := ins_at s.ex r1
        refine ⟨_, mem, a, dxa, fs, rfl, ha, spD_A (dfl := []) s (.cons r1 .nil) (q.bnd.imp fun z e1 Hf1 H1 _ s1 h1 v rv => ?_)⟩
        obtain ⟨z', hz, k⟩ := Aft.lft s1.sr h1
        cases z <;> try (cases hz; done)
        case int n0 _ =>
          dsimp only [lenR] at hz
          by_cases b : 0 ≤ n0 ∧ small n0.natAbs = true
          · rw [if_pos b] at hz
            cases hz
            cases rv
            have b2 : n0 < 2 ^ 63 := by
              have := of_decide_eq_true b.2
              omega
            exact ⟨_, rfl, b.1, b2, k Hf1 H1 (Grow.refl s1.sr.ex) _ (.int _)⟩
          · rw [if_neg b] at hz
            cases hz
  · exact .inl (h.a env σ Hf H s xs ds Q r1 q)
end
section
variable {X : Cx} {g : G} {E : XK} {j np : Nat} {m : Str} {L : List (Nat × Fm)}
theorem own_inst {pins : List (Addr × Obj)} {σ : L2.St} {H : Hp} {s : Shared} {C a dx : Addr} {fs : List (Str × V)} (I : Inv X pins σ H s) (ha : H a = some (.ins C dx fs)) : ∃ ox od m, PySem.W.InstAt s.heap a ox C od ∧ Fr X.base X.env.locals s.heap m := by
  obtain ⟨mA, J, _⟩ := ins_get I.hok ha
  obtain ⟨od, J, _⟩ := J.look
  obtain ⟨m, hF⟩ := I.fr
  exact ⟨_, _, m, J, hF⟩
theorem UnR.or {f : Value → Sem Value} {r r' : V → Hp → VK → Prop} (h : UnR X f r) (h' : UnR X f r') : UnR X f (fun x H Q => r x H Q ∨ r' x H Q) := fun pins s σ H x v Q I rx q => by
  rcases q with q | q
  · exact h pins s σ H x v Q I rx q
  · exact h' pins s σ H x v Q I rx q
theorem len_own (hL : AllO X.prog X.w X.K X.mg X.base g 1 j "__len__" 1 L) (hr : Room j X.A) (hx : Passes (L2.CX X.prog X.w) X E) : CallR X (.builtin "len") (rOwnL X.K g L E) := by
  intro pins s σ H xs us Q I r h
  obtain ⟨p, hp, a, dx, fs, rfl, ha, q⟩ := h
  obtain ⟨u, rfl, ru⟩ := r.one
  cases (show u = Value.ref a from ru)
  obtain ⟨k, hk, ⟨f, Fn, hs, hf, _⟩, ar⟩ := hL p hp
  obtain ⟨ox, od, m, J, hF⟩ := own_inst I ha
  refine PySem.W.len_K hF I.ok.mod.kin J hs hf (wpAny_mono (run_opr Fn ar ((hr.mono hk).in1) I.env0.in1 hx I (us := [.ref a]) (vs := [.ref a]) (.cons rfl .nil) q) (fun w s' z => ?_) fun _ _ x => x)
  obtain ⟨z', H', I', rz, n, rfl, n0, n1, qz⟩ := z
  obtain ⟨t, rfl⟩ := (show ∃ t, w = Value.int n t from rz)
  exact ⟨⟨n0, n1⟩, .int n, H', I'.tok _, ⟨_, rfl⟩, qz⟩
theorem pe_ixO {a b : Expr} {ta tb : TE} {pos : Pos} {r : R2} (hix : IxR X r) (hL : AllO X.prog X.w X.K X.mg X.base g 1 j "__getitem__" 2 L) (hr : Room j X.A) (hx : Passes (L2.CX X.prog X.w) X E) (ha : PE X a ta) (hb : PE X b tb) (hs : PlainIx b)
    (hs2 : ∀ (o : Addr) i, subscripted b true (.ref o) i = runValue (.builtin "lifetime.subscript" ⟨[.ref o, i], []⟩)) : PE X (.Subscript a b pos) (tOp (fun x y H Q => r x y H Q ∨ rOwnI X.K g L E x y H Q) ta tb) := by
  refine ⟨fun pins s σ H Q I h => ?_⟩
  refine Subscript_ (binT ha hb I h fun v u s2 x y H2 I2 rx ry q => ?_)
  rcases q with q | q
  · exact hix a b pins s2 σ H2 x y v u Q I2 rx ry q (hs _ _)
  · obtain ⟨p, hp, ad, dx, fs, rfl, had, q⟩ := q
    cases (show v = Value.ref ad from rx)
    obtain ⟨k, hk, ⟨f, Fn, hs', hf, hf2⟩, ar⟩ := hL p hp
    obtain ⟨ox, od, m, J, hF⟩ := own_inst I2 had
    exact PySem.W.sub_K hF I2.ok.mod.kin J hs' hf2 hf (run_opr Fn ar ((hr.mono hk).in1) I2.env0.in1 hx I2 (us := [.ref ad, u]) (vs := [.ref ad, y]) (.cons rfl (.cons ry .nil)) q) (hs2 _ _)
end
end DL

set_option Elab.async false
set_option linter.all false
set_option maxRecDepth 100000
set_option maxHeartbeats 400000
namespace DL
open PySem L2 PyProof.Rows
/-! ### isinstance -/
inductive CK where
  | ty (n : String) | cl (c : Nat)
deriving DecidableEq
def kindD : D → Option CK
  | .non => some (.ty "NoneType") | .bl _ => some (.ty "bool") | .int _ => some (.ty "int") | .str _ => some (.ty "str")
  | .tup _ => some (.ty "tuple") | .lst _ => some (.ty "list") | .scr _ => some (.ty "list") | .dic _ _ => some (.ty "dict")
  | .ins c _ => some (.cl c) | .opq => some (.ty "dict") | _ => none
def kitCK : CK → CK → Bool
  | .ty a, .ty b => a == b || (a == "bool" && b == "int")
  | .cl c, .cl c' => c == c'
  | _, _ => false
def ckV (g : G) : CK → V
  | .ty n => .ty n
  | .cl c => .ref (g.cl c)
def ckU (g : G) : CK → Value
  | .ty n => .type n
  | .cl c => .ref (g.cl c)
/-- what is known of the text's classes -/
structure IsF (K : PySem.W.Frag) (g : G) : Prop where
  cl : ∀ c, g.ok c = true → Cls K (g.cl c) ∧ PySem.W.findIn K (.ref (g.cl c)) "__class__" = some (some (.builtin "object.__class__")) ∧ PySem.W.mroIn K (g.cl c) (.type "object") = some true
  hn : PySem.W.specialIn K (.builtin "object.__class__") "__get__" = some (some (.builtin "getset_descriptor.__get__"))
  ht : PySem.W.takesIn K (.builtin "object.__class__") = some true
  o1 : ∀ c, g.ok c = true → ∀ n ∈ kinds, PySem.W.kitOne K (.ref (g.cl c)) (.type n) = some false
  o2 : ∀ c, g.ok c = true → ∀ n ∈ kinds, PySem.W.kitOne K (.type n) (.ref (g.cl c)) = some false
  o3 : ∀ c c', g.ok c = true → g.ok c' = true → PySem.W.kitOne K (.ref (g.cl c)) (.ref (g.cl c')) = some (c == c')
def okK (ok : Nat → Bool) : CK → Bool
  | .ty n => kinds.contains n
  | .cl c => ok c
theorem kit_bb : kinds.all (fun a => kinds.all fun b => decide (kitB a b = some (kitCK (.ty a) (.ty b)))) = true := by decide +kernel
section
variable {K : PySem.W.Frag} {g : G} {W : WX} {E : XK}
theorem kit_ok (F : IsF K g) {k t : CK} (hk : okK g.ok k = true) (ht : okK g.ok t = true) : PySem.W.kitOne K (ckU g k) (ckU g t) = some (kitCK k t) := by
  cases k with
  | ty a =>
    have ha : a ∈ kinds := by simpa [okK] using hk
    cases t with
    | ty b =>
      have hb : b ∈ kinds := by simpa [okK] using ht
      have h := List.all_eq_true.mp (List.all_eq_true.mp kit_bb a ha) b hb
      exact kit_ty (of_decide_eq_true h)
    | cl c => exact F.o2 c ht a ha
  | cl c =>
    cases t with
    | ty b =>
      have hb : b ∈ kinds := by simpa [okK] using ht
      exact F.o1 c hk b hb
    | cl c' => exact F.o3 c c' hk ht
theorem kit_any (F : IsF K g) {k : CK} (hk : okK g.ok k = true) : ∀ {ts : List CK}, ts.all (okK g.ok) = true → PySem.W.kitAny K (ckU g k) (ts.map (ckU g)) = some (ts.any (kitCK k))
  | [], _ => rfl
  | t :: ts, h => by
    rw [List.all_cons, Bool.and_eq_true] at h
    refine kitAny_cons (kit_ok F hk h.1) (fun e => ?_) (fun e => ?_)
    · rw [List.any_cons, e, Bool.false_or]; exact kit_any F hk h.2
    · rw [List.any_cons, e, Bool.true_or]
/-- a known type, or a dict whose content nobody asks -/
def TyZ (K : PySem.W.Frag) (H : Hp) (x : V) (t : Value) : Prop := TyX K H x t ∨ ∃ (a : Addr) (φ : Heap → Prop), x = .ref a ∧ H a = some (.ext φ) ∧ (∀ hp, φ hp → ∃ o, hp.get? a = some o ∧ o.cls = .type "dict") ∧ t = .type "dict"
def rIsiZ (K : PySem.W.Frag) : List V → Hp → VK → Prop := fun xs H Q => ∃ (x c : V) (t u : Value) (b : Bool), xs = [x, c] ∧ ClsV c u ∧ TyZ K H x t ∧ PySem.W.kitOne K t u = some b ∧ Q (.bl b) H
def rIsiTZ (K : PySem.W.Frag) : List V → Hp → VK → Prop := fun xs H Q => ∃ (x : V) (tp : Addr) (cs : List V) (t : Value) (us : List Value) (b : Bool), xs = [x, .ref tp] ∧ H tp = some (.tup cs) ∧ Paired ClsV cs us ∧ TyZ K H x t ∧ PySem.W.kitAny K t us = some b ∧ Q (.bl b) H
section
variable {X : Cx} {pins : List (Addr × Obj)} {σ : L2.St} {H : Hp} {s : Shared}
theorem kitz_of {x : V} {u t : Value} (I : Inv X pins σ H s) (rx : RelV x u) (ty : TyZ X.K H x t) : ∃ P : Heap → Prop, PySem.W.KitX X.K u t P ∧ P s.heap ∧ u ≠ .builtin "__main__.__loader__#opaque" := by
  rcases ty with ty | ⟨a, φ, rfl, h1, h2, rfl⟩
  · exact kit_of I rx ty
  · cases (show u = Value.ref a from rx)
    obtain ⟨p, _, _⟩ := (show ObjOk X.prog X.w H s.heap a (.ext φ) from I.hok a _ h1)
    obtain ⟨o, e, c⟩ := h2 _ p
    exact ⟨_, PySem.W.kitx_dict, ⟨o, e, c⟩, fun z => nomatch z⟩
theorem call_isiZ : CallR X (.builtin "isinstance") (rIsiZ X.K) := by
  intro pins s σ H xs us Q I r h
  obtain ⟨x, c, t, u, b, rfl, k, ty, e, q⟩ := h
  obtain ⟨u1, u2, rfl, r1, r2⟩ := vals2 r
  have e2 := k.eq r2
  subst e2
  obtain ⟨P, Z, p, hx⟩ := kitz_of I r1 ty
  exact PySem.W.kia_one Z I.kIn p e hx fun tk => ⟨.bl b, H, I.tok tk, rfl, q⟩
theorem call_isiTZ : CallR X (.builtin "isinstance") (rIsiTZ X.K) := by
  intro pins s σ H xs us Q I r h
  obtain ⟨x, tp, cs, t, ws, b, rfl, hT, k, ty, e, q⟩ := h
  obtain ⟨u1, u2, rfl, r1, r2⟩ := vals2 r
  cases (show u2 = Value.ref tp from r2)
  obtain ⟨P, Z, p, hx⟩ := kitz_of I r1 ty
  obtain ⟨_, its, rv, o, h1, h2, n, h3⟩ := (show ObjOk X.prog X.w H s.heap tp (.tup cs) from I.hok tp _ hT)
  have e3 := ClsV.all k rv
  subst e3
  obtain ⟨oc, od, dt, sl⟩ := o
  simp only at h2 h3
  subst h2 h3
  exact PySem.W.kia_tup Z I.kIn p h1 e hx fun tk => ⟨.bl b, H, I.tok tk, rfl, q⟩
end
theorem ty_lst {H : Hp} {a : Addr} {xs : List V} (h : SqL K H a xs) : TyX K H (.ref a) (.type "list") := by
  rcases h with (h | ⟨o, h⟩) | ⟨o, its, n, h1, h2, _⟩
  · exact .base (.lst h)
  · exact .base (.frz h)
  · exact .kList h1 h2
theorem ty_tup {H : Hp} {a : Addr} {xs : List V} (h : SqT K H a xs) : TyX K H (.ref a) (.type "tuple") := by
  rcases h with (h | ⟨o, h⟩) | ⟨o, its, n, h1, h2, _⟩
  · exact .base (.tup h)
  · exact .fTuple h
  · exact .kTuple h1 h2
theorem ty_of (F : IsF K g) {Hf H : Hp} {d : D} {x : V} {k : CK} (e : Ex Hf H) (r : Rep K g Hf d x) (h : kindD d = some k) : TyZ K H x (ckU g k) ∧ okK g.ok k = true := by
  have r := r.mono e
  cases r with
  | non => cases h; exact ⟨.inl (.base .non), rfl⟩
  | bl b => cases h; exact ⟨.inl (.base (.bl b)), rfl⟩
  | int i => cases h; exact ⟨.inl (.base (.int i)), rfl⟩
  | str z => cases h; exact ⟨.inl (.base (.str z)), rfl⟩
  | ty n => cases h
  | cls c => cases h
  | tup h1 _ => cases h; exact ⟨.inl (ty_tup h1), rfl⟩
  | lst h1 _ => cases h; exact ⟨.inl (.base (.lst h1)), rfl⟩
  | scr h1 => cases h; exact ⟨.inl (ty_lst h1), rfl⟩
  | dic h1 _ _ =>
    cases h
    rcases h1 with h1 | ⟨o, h1⟩
    · exact ⟨.inl (.base (.dK h1)), rfl⟩
    · exact ⟨.inl (.fDict h1), rfl⟩
  | dct h1 _ _ => cases h
  | @ins a dx c ds vs h1 h2 h3 h4 =>
    cases h
    obtain ⟨c1, c2, c3⟩ := F.cl c h4
    exact ⟨.inl (.base (.ins h1 c1 c2 F.hn F.ht c3)), h4⟩
  | opq h1 h2 => cases h; exact ⟨.inr ⟨_, _, rfl, h1, h2, rfl⟩, rfl⟩
def isiD (ok : Nat → Bool) (ts : List CK) (d : D) : Option D := if ts.all (okK ok) = true then (kindD d).bind fun k => some (.bl (ts.any (kitCK k))) else none
/-- classes written out -/
def tCs : List V → TA
  | [] => tNil
  | v :: vs => tCons (tC v) (tCs vs)
theorem tCs_run {vs : List V} {σ : L2.St} {H : Hp} {Q : List V → Hp → Prop} (h : Q vs H) : tCs vs σ H Q := by
  induction vs generalizing Q with
  | nil => exact h
  | cons v vs ih => exact ih h
theorem clsV (t : CK) : ClsV (ckV g t) (ckU g t) := by cases t with | ty n => exact .ty n | cl c => exact .own _
theorem clsVs : ∀ ts : List CK, Paired ClsV (ts.map (ckV g)) (ts.map (ckU g))
  | [] => .nil
  | t :: ts => .cons (clsV t) (clsVs ts)
theorem isiD_some {ts : List CK} {d z : D} (h : isiD g.ok ts d = some z) : ts.all (okK g.ok) = true ∧ ∃ k, kindD d = some k ∧ z = .bl (ts.any (kitCK k)) := by
  unfold isiD at h
  by_cases c : ts.all (okK g.ok) = true
  · rw [if_pos c] at h
    cases q : kindD d with
    | none => rw [q] at h; cases h
    | some k =>
      rw [q] at h
      dsimp only [Option.bind] at h
      cases h
      exact ⟨c, k, rfl, rfl⟩
  · rw [if_neg c] at h; cases h
theorem ev_isi (F : IsF K g) {ta : TE} {m : M D} {t : CK} (ha : EvM K g W ta m) : EvM K g W (tCB (rIsiZ K) (tCons ta (tCons (tC (ckV g t)) tNil))) (mUn (isiD g.ok [t]) m) :=
  fun env σ Hf H s Q h => ha env σ Hf H s _ (h.bnd.imp fun d e1 Hf1 H1 _ s1 h1 x rx => by
    obtain ⟨z, hz, k⟩ := Aft.lft s1.sr h1
    obtain ⟨c, kd, h2, rfl⟩ := isiD_some hz
    obtain ⟨ty, okk⟩ := ty_of F s1.sr.ex rx h2
    have okt : okK g.ok t = true := by simpa using c
    exact ⟨x, ckV g t, ckU g kd, ckU g t, kitCK kd t, rfl, clsV t, ty, kit_ok F okk okt, k Hf1 H1 (Grow.refl s1.sr.ex) _ (by simpa using Rep.bl (K := K) (g := g) (H := Hf1) (kitCK kd t))⟩)
theorem ev_isiT (F : IsF K g) {ta : TE} {m : M D} {ts : List CK} (hl : ts.length ≤ sizeLine) (ha : EvM K g W ta m) : EvM K g W (tCB (rIsiTZ K) (tCons ta (tCons (tTup (tCs (ts.map (ckV g)))) tNil))) (mUn (isiD g.ok ts) m) :=
  fun env σ Hf H s Q h => ha env σ Hf H s _ (h.bnd.imp fun d e1 Hf1 H1 _ s1 h1 x rx => by
    obtain ⟨z, hz, k⟩ := Aft.lft s1.sr h1
    obtain ⟨c, kd, h2, rfl⟩ := isiD_some hz
    refine tCs_run ⟨by rw [List.length_map]; exact hl, fun p hp => ?_⟩
    have w : Grow Hf1 H1 Hf1 (upd H1 p (.tup (ts.map (ckV g)))) := own_new s1.sr.ex hp
    obtain ⟨ty, okk⟩ := ty_of F w.fh rx h2
    exact ⟨x, p, ts.map (ckV g), ckU g kd, ts.map (ckU g), _, rfl, upd_same, clsVs ts, ty, kit_any F okk c, k Hf1 _ w _ (.bl _)⟩)
end
section
variable {X : Cx} {g : G} {W : WX} {E : XK}
/-- names of classes -/
structure ClE (X : Cx) (g : G) (e : Expr) (t : CK) : Prop where
  pe : PE X e (tC (ckV g t))
structure ClEs (X : Cx) (g : G) (es : List Expr) (ts : List CK) : Prop where
  pa : PA X es (tCs (ts.map (ckV g)))
theorem ce_ty {x : Str} {n : String} {pos : Pos} (hm : X.mg x = none) (hv : bootBuiltins x = some (.type n)) (hg : Gl X x := by rfl) (hn : x ≠ "__name__" := by decide) (hd : (x == ("__debug__" : Str)) = false := by decide) : ClE X g (.Name x pos) (.ty n) :=
  ⟨pe_bltn hg hm hv rfl hn hd⟩
theorem ce_cl {x : Str} {c : Nat} {pos : Pos} (hm : X.mg x = some (.ref (g.cl c))) (hg : Gl X x := by rfl) (hd : (x == ("__debug__" : Str)) = false := by decide) : ClE X g (.Name x pos) (.cl c) :=
  ⟨pe_glob hg hm rfl hd⟩
theorem ces_nil : ClEs X g [] [] := ⟨pa_nil⟩
theorem ces_cons {e : Expr} {es : List Expr} {t : CK} {ts : List CK} (h : ClE X g e t) (k : ClEs X g es ts) (hs : starEach (e :: es) X.env = (false, eval e X.env) :: starEach es X.env := by rfl) : ClEs X g (e :: es) (t :: ts) := ⟨pa_cons h.pe k.pa hs⟩
theorem m_isi {a e : Expr} {m : M D} {t : CK} {p pos : Pos} (F : IsF X.K g) (ha : PEM X g W a m) (hc : ClE X g e t) (hm : X.mg "isinstance" = none) (hg : Gl X "isinstance" := by rfl)
    (he : starEach [a, e] X.env = (false, eval a X.env) :: starEach [e] X.env := by rfl) (he2 : starEach [e] X.env = (false, eval e X.env) :: starEach [] X.env := by rfl) (hpl : (backTo pos (starEach [e] X.env)).any (·.1) = false := by rfl) :
    PEM X g W (.Call (.Name "isinstance" p) [a, e] [] pos) (mUn (isiD g.ok [t]) m) := by
  obtain ⟨ta, h1, h2⟩ := ha
  exact ⟨_, pe_callB call_isiZ hg hm rfl (pa_cons h1 (pa_cons hc.pe pa_nil he2) he) (by decide) (by decide) he hpl, ev_isi F h2⟩
theorem m_isiT {a : Expr} {es : List Expr} {m : M D} {ts : List CK} {p pos p2 : Pos} {x1} (F : IsF X.K g) (ha : PEM X g W a m) (hc : ClEs X g es ts) (hm : X.mg "isinstance" = none) (hl : ts.length ≤ 16777216 := by decide) (hg : Gl X "isinstance" := by rfl)
    (he : starEach [a, .Tuple es x1 p2] X.env = (false, eval a X.env) :: starEach [.Tuple es x1 p2] X.env := by rfl) (he2 : starEach [.Tuple es x1 p2] X.env = (false, eval (.Tuple es x1 p2) X.env) :: starEach [] X.env := by rfl) (hpl : (backTo pos (starEach [.Tuple es x1 p2] X.env)).any (·.1) = false := by rfl) :
    PEM X g W (.Call (.Name "isinstance" p) [a, .Tuple es x1 p2] [] pos) (mUn (isiD g.ok ts) m) := by
  obtain ⟨ta, h1, h2⟩ := ha
  exact ⟨_, pe_callB call_isiTZ hg hm rfl (pa_cons h1 (pa_cons (pe_tup hc.pa) pa_nil he2) he) (by decide) (by decide) he hpl, ev_isiT F (Nat.le_trans hl (by decide)) h2⟩
end
end DL

set_option Elab.async false
set_option linter.all false
set_option maxRecDepth 100000
set_option maxHeartbeats 400000
namespace DL
open PySem L2 PyProof.Rows
/-! ### operators, own or not -/
def AllC (q : Nat → Prop) (L : List (Nat × Fm)) : Prop := ∀ p ∈ L, q p.1
theorem AllC.nil {q : Nat → Prop} : AllC q [] := fun _ h => by cases h
theorem AllC.cons {q : Nat → Prop} {c : Nat} {F : Fm} {L : List (Nat × Fm)} (h : q c) (t : AllC q L) : AllC q ((c, F) :: L) := fun p hp => by
  rcases List.mem_cons.mp hp with rfl | hp
  · exact h
  · exact t p hp
def mBinO (L : List (Nat × Fm)) (f : D → D → Option D) (ma mb : M D) : M D := bnd ma fun x => bnd mb fun y => mOpO L f x y
def mCmpO (L : List (Nat × Fm)) (neg : Bool) (f : D → D → Option D) (ma mb : M D) : M D := bnd ma fun x => bnd mb fun y => mEqO L neg f x y
def mSubO (L : List (Nat × Fm)) (ma mb : M D) : M D := bnd ma fun x => bnd mb fun y => mIxO L ixD x y
section
variable {X : Cx} {g : G} {E : XK} {j np : Nat} {L : List (Nat × Fm)} {a b e : Expr} {es : List Expr} {ma mb : M D} {ml : M (List D)} {pos p : Pos} {r : R2} {f : D → D → Option D}
theorem m_opO {op : Operator} (ho : OpR X (binaryOp op) r) (hv : RvOk X.K g r f) (hL : AllO X.prog X.w X.K X.mg X.base g 0 j (PySem.dunder op.info.2) 2 L) (hb : AllC (fun c => OpB X.K (g.cl c) op) L) (hr : Room j X.A) (hx : Passes (L2.CX X.prog X.w) X E)
    (ha : PEM X g (WX_of E) a ma) (hc : PEM X g (WX_of E) b mb) : PEM X g (WX_of E) (.BinOp a op b pos) (mBinO L f ma mb) := by
  obtain ⟨ta, h1, h2⟩ := ha
  obtain ⟨tb, h3, h4⟩ := hc
  exact ⟨_, pe_op (ho.or (op_ownB hL hb hr hx)) h1 h3, (rv_opO hv).ev h2 h4⟩
theorem m_addO (hL : AllO X.prog X.w X.K X.mg X.base g 0 j "__add__" 2 L) (hb : AllC (fun c => OpB X.K (g.cl c) .Add) L) (hr : Room j X.A) (hx : Passes (L2.CX X.prog X.w) X E) (ha : PEM X g (WX_of E) a ma) (hc : PEM X g (WX_of E) b mb) : PEM X g (WX_of E) (.BinOp a .Add b pos) (mBinO L addD ma mb) :=
  m_opO (op_add.or (op_add_str.or (op_cat.or op_catA))) rv_add hL hb hr hx ha hc
theorem m_lenO (hL : AllO X.prog X.w X.K X.mg X.base g 1 j "__len__" 1 L) (hr : Room j X.A) (hx : Passes (L2.CX X.prog X.w) X E) (hm : X.mg "len" = none) (ha : PAM X g (WX_of E) (e :: es) ml) (hg : Gl X "len" := by rfl)
    (he : starEach (e :: es) X.env = (false, eval e X.env) :: starEach es X.env := by rfl) (hpl : (backTo pos (starEach es X.env)).any (·.1) = false := by rfl) : PEM X g (WX_of E) (.Call (.Name "len" p) (e :: es) [] pos) (bnd ml (mLenO L lenD)) := by
  obtain ⟨t, h1, h2⟩ := ha
  exact ⟨_, pe_callB (call_len.or (len_own hL hr hx)) hg hm rfl h1 (by decide) (by decide) he hpl, (rc_lenO rc_len).ev h2⟩
theorem m_ixO (hL : AllO X.prog X.w X.K X.mg X.base g 1 j "__getitem__" 2 L) (hr : Room j X.A) (hx : Passes (L2.CX X.prog X.w) X E) (ha : PEM X g (WX_of E) a ma) (hb : PEM X g (WX_of E) b mb) (hs : PlainIx b := by exact fun _ _ => rfl)
    (hs2 : ∀ (o : Addr) i, subscripted b true (.ref o) i = runValue (.builtin "lifetime.subscript" ⟨[.ref o, i], []⟩) := by exact fun _ _ => by with_unfolding_all rfl) : PEM X g (WX_of E) (.Subscript a b pos) (mSubO L ma mb) := by
  obtain ⟨ta, h1, h2⟩ := ha
  obtain ⟨tb, h3, h4⟩ := hb
  exact ⟨_, pe_ixO ix_seq hL hr hx h1 h3 hs hs2, (rv_ixO rv_ix).ev h2 h4⟩
end
/-! ### slices -/
def cutD (xs : List D) (lo hi : Option Int) : List D := (xs.drop (HT.sIx xs.length 0 lo)).take (HT.sIx xs.length xs.length hi - HT.sIx xs.length 0 lo)
def slD : D → Option Int → Option Int → Option D
  | .lst xs, lo, hi => some (.lst (cutD xs lo hi))
  | .tup xs, lo, hi => some (.tup (cutD xs lo hi))
  | .str z, lo, hi => if small z.length = true then some (.str (cutS z lo hi)) else none
  | _, _, _ => none
def mNoP : M (Option Int) := ret none
def mPart (m : M D) : M (Option Int) := bnd m fun d => lft (match d with | .int i => some (some i) | _ => none)
def mSl (m : M D) (a b : M (Option Int)) : M D := bnd m fun d => bnd a fun lo => bnd b fun hi => lft (slD d lo hi)
def EvO (K : PySem.W.Frag) (g : G) (W : WX) (t : TO) (m : M (Option Int)) : Prop := ∀ env σ Hf H, SR K g env σ Hf H → ∀ Q : Option Int → Hp → Prop, Aft K g W env σ Hf H (m env) (fun o _ Hf' H' => Q o H') → t σ H Q
structure POM (X : Cx) (g : G) (W : WX) (o : Option Expr) (m : M (Option Int)) : Prop where
  ex : ∃ t, PO X o t ∧ EvO X.K g W t m
def revD : D → Option D
  | .lst xs => some (.lst xs.reverse)
  | _ => none
def rSlAll (K : PySem.W.Frag) : V → Option Int → Option Int → Hp → VK → Prop := fun x lo hi H Q => rSlL K x lo hi H Q ∨ (rSlA K x lo hi H Q ∨ rSlS x lo hi H Q)
section
variable {K : PySem.W.Frag} {g : G} {W : WX}
theorem cut_reps {Hf : Hp} {ds : List D} {vs : List V} (r : Reps K g Hf ds vs) (lo hi : Option Int) : Reps K g Hf (cutD ds lo hi) (cutV vs lo hi) := by
  unfold cutD cutV
  rw [r.len]
  exact (r.drop _).take _
theorem ev_sl {te : TE} {ta tb : TO} {m : M D} {a b : M (Option Int)} (he : EvM K g W te m) (ha : EvO K g W ta a) (hb : EvO K g W tb b) : EvM K g W (tSl (rSlAll K) te ta tb) (mSl m a b) :=
  fun env σ Hf H s Q h => he env σ Hf H s _ (h.bnd.imp fun d e1 Hf1 H1 _ s1 h1 x rx => ha e1 σ Hf1 H1 s1.sr _ (h1.bnd.imp fun lo e2 Hf2 H2 _ s2 h2 => hb e2 σ Hf2 H2 s2.sr _ (h2.bnd.imp fun hi e3 Hf3 H3 _ s3 h3 => by
    obtain ⟨z, hz, k⟩ := Aft.lft s3.sr h3
    have rx3 := rx.mono (s2.f.trans s3.f)
    have ex := s3.sr.ex
    have rx4 := rx3
    cases rx3 <;> try (cases hz; done)
    case lst a vs ds hr ha =>
      cases hz
      exact .inl ⟨_, _, rfl, SqL.of (ex _ _ (by assumption)), fun p hp => by
        obtain ⟨w, r⟩ := new_lst ex hp (cut_reps (by assumption) lo hi)
        exact k _ _ w _ r⟩
    case tup a vs ds hr ha =>
      cases hz
      refine .inr (.inl ⟨_, _, rfl, ex.t (by assumption), fun hw => ?_, fun _ p hp => ?_⟩)
      · refine k _ _ (Grow.refl ex) _ ?_
        have go : ∀ {dss : List D} {vss : List V} (hrr : Reps K g Hf3 dss vss) (hw : HT.sIx vss.length 0 lo = 0 ∧ HT.sIx vss.length vss.length hi = vss.length), cutD dss lo hi = dss := fun {dss vss} hrr hw => by
          unfold cutD
          rw [hrr.len, hw.1, hw.2, ← hrr.len]
          simp
        rw [go (by assumption) hw]
        exact rx4
      · obtain ⟨w, r⟩ := new_tup ex hp (cut_reps (by assumption) lo hi)
        exact k _ _ w _ r
    case str z _ =>
      dsimp only [slD] at hz
      by_cases c : small z.length = true
      · rw [if_pos c] at hz
        cases hz
        exact .inr (.inr ⟨z, rfl, small_le c, k _ _ (Grow.refl ex) _ (.str _)⟩)
      · rw [if_neg c] at hz
        cases hz)))
theorem evo_none : EvO K g W tNoPart mNoP := fun env σ Hf H s Q h => Aft.ret s h
theorem evo_some {te : TE} {m : M D} (he : EvM K g W te m) : EvO K g W (tPart te) (mPart m) :=
  fun env σ Hf H s Q h => he env σ Hf H s _ (h.bnd.imp fun d e1 Hf1 H1 _ s1 h1 x rx => by
    obtain ⟨z, hz, k⟩ := Aft.lft s1.sr h1
    cases rx <;> try (cases hz; done)
    case int i _ =>
      cases hz
      exact ⟨i, rfl, k _ _ (Grow.refl s1.sr.ex)⟩)
end
section
variable {X : Cx} {g : G} {W : WX} {e : Expr} {lo hi : Option Expr} {m : M D} {a b : M (Option Int)} {p1 p2 p3 pos : Pos}
theorem o_none : POM X g W none mNoP := ⟨_, po_none, evo_none⟩
theorem o_some (h : PEM X g W e m) : POM X g W (some e) (mPart m) := by
  obtain ⟨t, h1, h2⟩ := h
  exact ⟨_, po_some h1, evo_some h2⟩
theorem m_sl (h : PEM X g W e m) (ha : POM X g W lo a) (hb : POM X g W hi b) : PEM X g W (.Subscript e (.Slice lo hi none p2) pos) (mSl m a b) := by
  obtain ⟨t, h1, h2⟩ := h
  obtain ⟨u, h3, h4⟩ := ha
  obtain ⟨v, h5, h6⟩ := hb
  exact ⟨_, pe_slice (sl_list.or (sl_tupA.or sl_str)) h1 h3 h5, ev_sl h2 h4 h6⟩
end
/-! ### a, b = x, y -/
def sStos : List (Nat × D) → S
  | [] => sNx
  | (i, d) :: r => fun env => match sto i (.sh d) env with
    | .ok .nx e => sStos r e
    | _ => .bad
def sPar2 (i j : Nat) (m : M (List D)) : S := bnd m fun ds => match ds with
  | [a, b] => sStos [(i, a), (j, b)]
  | _ => fun _ => .bad
def sPar3 (i j l : Nat) (m : M (List D)) : S := bnd m fun ds => match ds with
  | [a, b, c] => sStos [(i, a), (j, b), (l, c)]
  | _ => fun _ => .bad
section
variable {K : PySem.W.Frag} {g : G} {W : WX} {env : En} {σ : L2.St} {Hf H : Hp}
def setsV (σ : L2.St) : List (Nat × V) → L2.St
  | [] => σ
  | (i, v) :: r => setsV (σ.set i (some v)) r
theorem ev_stos {Z : Ends} : ∀ {l : List (Nat × D)} {k : List (Nat × V)} {env : En} {σ : L2.St} {Hf H : Hp}, SR K g env σ Hf H → l.map (·.1) = k.map (·.1) → Reps K g Hf (l.map (·.2)) (k.map (·.2)) → Out K g W env σ Hf H (sStos l env) Z → Z.nx (setsV σ k) H
  | [], [], env, σ, Hf, H, s, _, _, h => h σ Hf H (Step.refl s)
  | (i, d) :: l, (j, v) :: k, env, σ, Hf, H, s, e, r, h => by
    rw [List.map_cons, List.map_cons, List.cons.injEq] at e
    obtain ⟨e1, e2⟩ := e
    dsimp only at e1
    subst e1
    rw [List.map_cons, List.map_cons] at r
    cases r with
    | cons r1 r2 =>
      unfold sStos at h
      unfold sto at h
      cases q : env[i]? with
      | none => rw [q] at h; exact h.elim
      | some y =>
        rw [q] at h
        have go : (∀ d', y ≠ .pn d') → Out K g W env σ Hf H (sStos l (env.set i (.sh d))) Z → Z.nx (setsV (σ.set i (some v)) k) H := fun np h => by
          have st : Step K g env σ Hf H (env.set i (.sh d)) (σ.set i (some v)) Hf H := store_step s q np ⟨v, rfl, r1⟩ (fun p z => nomatch z) (fun d z => nomatch z) (Step.refl s) (fun p z => nomatch z)
          exact ev_stos st.sr e2 r2 (Out.after st h)
        cases y with
        | pn d => exact h.elim
        | no => exact go (fun d z => nomatch z) h
        | sh d => exact go (fun d z => nomatch z) h
        | ow d => exact go (fun d z => nomatch z) h
  | [], _ :: _, _, _, _, _, _, e, _, _ => by cases e
  | _ :: _, [], _, _, _, _, _, e, _, _ => by cases e
theorem ev_par2 {i j : Nat} {ta : TA} {m : M (List D)} (ha : EvL K g W ta m) : EvS K g W (tPar i j ta) (sPar2 i j m) :=
  fun env σ Hf H s Z h => ha env σ Hf H s _ (h.bnd.imp fun ds e1 Hf1 H1 _ s1 h1 vs r => by
    split at h1
    · rename_i a b _
      cases r with
      | cons r1 r =>
        cases r with
        | cons r2 r =>
          cases r
          exact ⟨_, _, rfl, ev_stos (l := [(i, a), (j, b)]) (k := [(i, _), (j, _)]) s1.sr rfl (.cons r1 (.cons r2 .nil)) h1⟩
    · exact h1.elim)
end
section
variable {X : Cx} {g : G} {W : WX} {a b c : Expr} {m : M (List D)} {x y z : Str} {px py pz pt pos : Pos} {kt k2 pt2}
theorem s_par2 (i j : Nat) (h : PAM X g W [a, b] m) (hN : X.N.Nodup) (hc : X.calm = true := by rfl) (hi : X.N[i]? = some x := by rfl) (hj : X.N[j]? = some y := by rfl) (hij : i ≠ j := by decide)
    (hx : X.env.scope.names.lookup x = some .local := by rfl) (hy : X.env.scope.names.lookup y = some .local := by rfl)
    (hw : swappedStores [.Tuple [.Name x px, .Name y py] kt pt] (.Tuple [a, b] k2 pt2) X.env = pure (some [x, y]) := by rfl)
    (hs : swapsWithSole [.Tuple [.Name x px, .Name y py] kt pt] (.Tuple [a, b] k2 pt2) pos.line X.env = pure false := by rfl) : PSM X g W (.Assign [.Tuple [.Name x px, .Name y py] kt pt] (.Tuple [a, b] k2 pt2) pos) (sPar2 i j m) := by
  obtain ⟨t, h1, h2⟩ := h
  exact ⟨_, ps_par hc hN hi hj hij hx hy h1 hw hs, ev_par2 h2⟩
end
end DL

set_option Elab.async false
set_option linter.all false
set_option maxRecDepth 100000
set_option maxHeartbeats 400000
namespace DL
open PySem L2 PyProof.Rows
/-! ### defs -/
/-- a def's mirror: np parameters, n names -/
def fnM (np n : Nat) (b : S) : Fm := fun a => if a.length = np then run n b a else .bad
theorem fnM_ar {np n : Nat} {b : S} : Arity np (fnM np n b) := run_arity
section
variable {P : Program} {w : World} {K : PySem.W.Frag} {mg : Str → Option Value} {base : Heap} {g : G}
theorem spM_fnM {np n : Nat} {b : S} : ∀ vs H Q E, spM K g np (fnM np n b) vs H Q E → spM K g np (run n b) vs H Q E := fun vs H Q E h => by
  obtain ⟨Hf, args, sr, l, o⟩ := h
  refine ⟨Hf, args, sr, l, ?_⟩
  unfold fnM at o
  rw [if_pos l] at o
  exact o
section
variable {x qual : Str} {params : Arguments} {body : List Stmt} {scope : Scope} {dvs : List V} {kws : List (Str × V)} {f : Addr} {fd : FuncData} {N ps : List Str} {k : Nat} {b : S}
/-- a def that no exception leaves -/
theorem df_N (F : FunD K x qual params body scope dvs kws f fd) (Sc : FnScope N ps scope)
    (hb : ∀ (cdv : Value) (A : Around) (outer : List Env) (s : Shared) (H : Hp) (E : XK), Room k (A.deeper (envOfC qual scope s.heap.objs.size f cdv)) → PSsM (cxOf (L2.CX P w) P w K mg base N qual scope f cdv A outer s H E).nox g WF body b) :
    FnOk P w K mg base (L2.CX P w) (k + 1) f fd ps (spM K g ps.length (fnM ps.length N.length (nox b))) := by
  refine FnOk.imp ?_ spM_fnM
  refine F.ok Sc (fun vs H Q E h => ?_) (fun cdv A outer s H vs Q E hr h => ?_)
  · obtain ⟨Hf, args, sr, l, _⟩ := h
    rw [← l, ← sr.len, List.length_map]
  · obtain ⟨Hf, args, sr, l, o⟩ := h
    obtain ⟨t, h1, h2⟩ := hb cdv A outer s H E hr
    have lv : vs.length = args.length := by rw [← sr.len, List.length_map]
    refine ⟨t, PSs.nox h1, ?_⟩
    rw [start_eq, lv]
    refine h2 _ _ Hf H (sr_app sr _) _ ?_
    exact Out.nox (r := .bad) (out_run sr.len o)
end
end
/-! ### the text's names, classes -/
section
variable {K : PySem.W.Frag} {x m : Str} {cs : List Nat}
theorem prp_ok (h : (Fx.prp x m).ok K = true) : PropOf K (He.ga K x) m (prA K x m) (prG K x m) := by
  obtain ⟨h1, h⟩ := b2 h
  obtain ⟨h2, h⟩ := b2 h
  obtain ⟨h3, h4⟩ := b2 h
  refine ⟨He.eqO_ok h1, of_decide_eq_true h2, of_decide_eq_true h3, ?_⟩
  split at h4
  · rename_i q r e
    rw [of_decide_eq_true h4] at e
    exact ⟨r, e⟩
  · cases h4
theorem opb_ok {op : Operator} (h : (Fx.opb x op).ok K = true) : OpB K (He.ga K x) op := by
  obtain ⟨h1, h⟩ := b2 h
  obtain ⟨h2, h⟩ := b2 h
  obtain ⟨h3, h⟩ := b2 h
  obtain ⟨h4, h5⟩ := b2 h
  exact ⟨h1, He.eqO_ok h2, Option.isSome_iff_exists.mp h3, Option.isSome_iff_exists.mp h4, of_decide_eq_true h5⟩
theorem opn_ok (h : (Fx.opn x).ok K = true) : OpN K (He.ga K x) := ⟨He.eqO_ok (b2 h).1, of_decide_eq_true (b2 h).2⟩
theorem fld_ok (h : (Fx.fld cs).ok K = true) : AllFld K (gOf K cs) := fun c hc => by
  have h1 := List.all_eq_true.mp h c (List.contains_iff_mem.mp hc)
  obtain ⟨h2, h3⟩ := b2 h1
  exact ⟨He.cls_ok h2, fun f hf => He.noat_ok (List.all_eq_true.mp h3 f hf)⟩
theorem isf_ok (h : (Fx.isf cs).ok K = true) : IsF K (gOf K cs) := by
  obtain ⟨h, h0⟩ := b2 h
  obtain ⟨h1, h2⟩ := b2 h0
  have all : ∀ c, (gOf K cs).ok c = true → _ := fun c hc => List.all_eq_true.mp h c (List.contains_iff_mem.mp hc)
  refine ⟨fun c hc => ?_, of_decide_eq_true h1, of_decide_eq_true h2, fun c hc n hn => ?_, fun c hc n hn => ?_, fun c c' hc hc' => ?_⟩
  · obtain ⟨k, _⟩ := b2 (all c hc)
    obtain ⟨k1, k⟩ := b2 k
    obtain ⟨k2, k⟩ := b2 k
    exact ⟨He.cls_ok k1, He.eqO_ok k2, of_decide_eq_true (b2 k).1⟩
  · obtain ⟨k, _⟩ := b2 (all c hc)
    have k := (b2 (b2 (b2 k).2).2).2
    exact of_decide_eq_true (b2 (List.all_eq_true.mp k n hn)).1
  · obtain ⟨k, _⟩ := b2 (all c hc)
    have k := (b2 (b2 (b2 k).2).2).2
    exact of_decide_eq_true (b2 (List.all_eq_true.mp k n hn)).2
  · obtain ⟨_, k⟩ := b2 (all c hc)
    exact of_decide_eq_true (List.all_eq_true.mp k c' (List.contains_iff_mem.mp hc'))
/-- comparing with other things -/
structure SubF (K : PySem.W.Frag) (g : G) (cs : List Nat) : Prop where
  cc : ∀ c c', cs.contains c = true → cs.contains c' = true → PySem.W.notFirst K (g.cl c) (.ref (g.cl c')) = true
  ct : ∀ c T, cs.contains c = true → T ∈ primT → PySem.W.subIn K (.type T) (.ref (g.cl c)) = some false
theorem sub_ok (h : (Fx.sub cs).ok K = true) : SubF K (gOf K cs) cs := by
  obtain ⟨h1, h2⟩ := b2 h
  exact ⟨fun c c' hc hc' => List.all_eq_true.mp (List.all_eq_true.mp h1 c (List.contains_iff_mem.mp hc)) c' (List.contains_iff_mem.mp hc'), fun c T hc hT => of_decide_eq_true (List.all_eq_true.mp (List.all_eq_true.mp h2 c (List.contains_iff_mem.mp hc)) T hT)⟩
theorem cme_ok (h : (Fx.cme x m).ok K = true) : ClX.CRead K (He.ga K x) (.type "type") ∧ ClX.CMet K (He.ga K x) (.type "type") m (prA K x m) (cmG K x m) := by
  obtain ⟨h1, h⟩ := b2 h
  obtain ⟨h2, h⟩ := b2 h
  obtain ⟨h3, h⟩ := b2 h
  obtain ⟨h4, h5⟩ := b2 h
  refine ⟨⟨h1, of_decide_eq_true h2⟩, ?_, ?_, h4⟩
  · split at h3
    · rename_i i p C e
      obtain ⟨a, b⟩ := b2 h3
      obtain ⟨b, c⟩ := b2 b
      rw [e, eq_of_beq a, of_decide_eq_true b, of_decide_eq_true c]
    · cases h3
  · split at h5
    · rename_i q r e
      rw [of_decide_eq_true h5] at e
      exact ⟨r, e⟩
    · cases h5
end
/-! ### defs by where they stand -/
theorem Dx.funD {K : PySem.W.Frag} {d : Dx} (e : seenAt K (d.adr K) = d.val) (c : d.ok K = true) : ∃ fd, FunD K d.name d.qual d.params d.body d.scope (d.dfl K) [] (d.adr K) fd := by
  obtain ⟨c, kp⟩ := b2 c
  unfold seenAt at e
  split at c
  · rename_i oc od q osl lk
    rw [lk] at e
    obtain ⟨n1, n2, n3, n4, n5, n6, n7, n8, n9, n10, n11, n12, n13, n14, n15⟩ := q
    have e2 : (some (n1, n2, n3, n4, n5, n6, n7, n15) : Seen) = d.val := e
    unfold Dx.val at e2
    simp only [Option.some.injEq, Prod.mk.injEq] at e2
    obtain ⟨q1, q2, q3, q4, q5, q6, q7, q8⟩ := e2
    subst q1 q2 q3 q4 q5 q6 q7 q8
    obtain ⟨k1, k2⟩ := b2 c
    exact ⟨_, ⟨oc, od, n8, n9, n10, n11, n12, n13, n14, osl, rfl, lk, k1, He.dflB_ok k2, .inl rfl⟩, kp⟩
  · cases c
def see (n : Nat) (fx : List Fx) (fn : List Dx) (q : Addr → Option Obj) : Got := seeF fx fn (He.frG q (asQ q n))
def hookF (n : Nat) (fx : List Fx) (fn : List Dx) : PySem.W.Hook where
  α := Got
  obs := fun s => see n fx fn s.heap.get?
  val := fun _ => goodF fn
  says := fun _ h => ∃ K : PySem.W.Frag, K.In h ∧ Says fx fn K
  of := fun _ _ e => ⟨_, He.frG_in, e⟩
  keeps := fun _ _ _ ⟨K, i, c⟩ k => ⟨K, PySem.W.Frag.In.keeps i k, c⟩
section
variable {fx : List Fx} {fn : List Dx} {K : PySem.W.Frag}
theorem Says.fact (c : Says fx fn K) (i : Nat) {f : Fx} (h : fx[i]? = some f := by rfl) : f.ok K = true := by
  have c1 := (b2 (show (fx.all (fun f => f.ok K) && fn.all (fun d => d.ok K)) = true from congrArg (fun z : Got => z.1) c)).1
  exact List.all_eq_true.mp c1 f (List.mem_of_getElem? h)
theorem Says.def_ (c : Says fx fn K) (i : Nat) {d : Dx} (h : fn[i]? = some d := by rfl) : ∃ fd, FunD K d.name d.qual d.params d.body d.scope (d.dfl K) [] (d.adr K) fd := by
  have c2 := (b2 (show (fx.all (fun f => f.ok K) && fn.all (fun d => d.ok K)) = true from congrArg (fun z : Got => z.1) c)).2
  have e : fn.map (fun d => seenAt K (d.adr K)) = fn.map Dx.val := congrArg (fun z : Got => z.2) c
  have e2 : (fn.map fun d => seenAt K (d.adr K))[i]? = (fn.map Dx.val)[i]? := by rw [e]
  rw [List.getElem?_map, List.getElem?_map, h] at e2
  exact Dx.funD (Option.some.inj e2) (List.all_eq_true.mp c2 d (List.mem_of_getElem? h))
end
end DL

set_option Elab.async false
set_option linter.all false
set_option maxRecDepth 100000
set_option maxHeartbeats 400000
namespace DL
open PySem L2 PyProof.Rows
/-! ### classmethods, the class in a local name -/
structure Cme (P : Program) (w : World) (K : PySem.W.Frag) (mg : Str → Option Value) (base : Heap) (g : G) (x : Str) (c : Nat) (m : Str) (F : Fm) (k : Nat) (dfl : List D) : Prop where
  ex : ∃ f fd ps dvs ds np p mc, FnOk P w K mg base (L2.CX P w) k f fd ps (spM K g np F) ∧ ClX.CRead K (g.cl c) mc ∧ ClX.CMet K (g.cl c) mc m p f ∧ Binds K fd ps ds ∧ Vals dvs ds ∧ (∀ H, Reps K g H dfl dvs) ∧ Arity np F
  at_ : mg x = some (.ref (g.cl c))
def mCme (F : Fm) (c : Nat) (dfl : List D) (ma : M (List D)) : M D := bnd ma fun ds => callA F (.cls c :: (ds ++ dfl))
def mClsF (F : Fm) (c i : Nat) (dfl : List D) (ma : M (List D)) : M D := fun env => match env[i]? with
  | some (.sh (.cls c')) => if c' = c then mMakF F c dfl ma env else .bad
  | _ => .bad
section
variable {X : Cx} {g : G} {E : XK} {j k c : Nat} {x y m : Str} {F : Fm} {dfl : List D} {e : Expr} {es : List Expr} {ma : M (List D)} {p1 pos apos : Pos} {pl : Sem Bool}
end
/-! ### from the facts to what the rules take -/
section
variable {P : Program} {w : World} {K : PySem.W.Frag} {h : Heap} {mg : Str → Option Value} {base : Heap} {g : G} {x qual : Str} {params : Arguments} {body : List Stmt} {scope : Scope} {dvs : List V} {f : Addr} {fd : FuncData} {ps : List Str} {np k : Nat} {F : Fm} {dfl : List D} {m : Str} {c : Nat}
/-- defaults that are plain -/
def plainV : D → Option V
  | .non => some .non | .bl b => some (.bl b) | .int i => some (.int i) | .str z => some (.str z) | _ => none
end
end DL

set_option Elab.async false
set_option linter.all false
set_option maxRecDepth 100000
set_option maxHeartbeats 400000
namespace DL
open PySem L2 PyProof.Rows
section
variable {X : Cx} {g : G} {W : WX} {a b c : Expr} {ma mb mc : M D} {pos : Pos}
theorem ev_chain {K : PySem.W.Frag} {p p' : Int → Int → Bool} {ta tb tc : TE} (h2 : EvM K g W ta ma) (h4 : EvM K g W tb mb) (h6 : EvM K g W tc mc) : EvM K g W (tChain (rI0 fun i j => .bl (p i j)) (rI0 fun i j => .bl (p' i j)) ta tb tc) (mChain (cmpD p) (cmpD p') ma mb mc) := by
  refine fun env σ Hf H s Q h => h2 env σ Hf H s _ (h.bnd.imp fun x e1 Hf1 H1 _ s1 k1 v r1 => h4 e1 σ Hf1 H1 s1.sr _ (k1.bnd.imp fun y e2 Hf2 H2 _ s2 k2 w r2 => ?_))
  obtain ⟨z, hz, k3⟩ := Aft.lft s2.sr k2.bnd
  have k4 := k3 Hf2 H2 (Grow.refl s2.sr.ex)
  obtain ⟨i, j, rfl, rfl, rfl⟩ := cmpD_some hz
  cases r1
  cases r2
  refine ⟨i, j, rfl, rfl, p i j, rfl, ?_⟩
  cases q : p i j with
  | true =>
    rw [q] at k4
    rw [if_pos rfl]
    refine h6 e2 σ Hf2 H2 s2.sr _ (k4.bnd.imp fun z e3 Hf3 H3 _ s3 k5 u r3 => ?_)
    obtain ⟨z', hz', k6⟩ := Aft.lft s3.sr k5
    obtain ⟨i', j', e1, rfl, rfl⟩ := cmpD_some hz'
    cases e1
    cases r3
    exact ⟨j, j', rfl, rfl, k6 Hf3 H3 (Grow.refl s3.sr.ex) _ (.bl _)⟩
  | false =>
    rw [q] at k4
    rw [if_neg (by decide)]
    exact Aft.ret s2.sr k4 _ (.bl _)
theorem t_chain {op op' : CmpOp} {p p' : Int → Int → Bool} (ho : OpR X (compareOp op) (rI0 fun i j => .bl (p i j))) (ho' : OpR X (compareOp op') (rI0 fun i j => .bl (p' i j))) (ha : PEM X g W a ma) (hb : PEM X g W b mb) (hc : PEM X g W c mc)
    (hm : lastMarks [op, op'] [b, c] = false := by with_unfolding_all rfl) : PTM X g W (.Compare a [op, op'] [b, c] pos) (mB (mChain (cmpD p) (cmpD p') ma mb mc)) := by
  obtain ⟨ta, h1, h2⟩ := ha
  obtain ⟨tb, h3, h4⟩ := hb
  obtain ⟨tc, h5, h6⟩ := hc
  exact ⟨_, pt_chain ho ho' h1 h3 h5 hm, ev_Test (ev_chain h2 h4 h6)⟩
end
theorem po0 {M : Model} {A : Around} {env : Env} : PassesOwn M A env (fun _ _ => False) := PassesOwn.never
def fuel : Nat := 1000000000000
/-! ### what stands at the head -/
structure Bas (fx : List Fx) (fn : List Dx) (K : PySem.W.Frag) (mg : Str → Option Value) : Prop where
  ns : ∃ h : Heap, K.In h ∧ h.Ns mainGlobals mg
  c : Says fx fn K
section
variable {fx : List Fx} {fn : List Dx} {P : Program} {w : World} {K : PySem.W.Frag} {mg : Str → Option Value} {base : Heap} {g : G} {np k c : Nat} {F : Fm} {dfl : List D} {x m : Str} {f p : Addr} {fd : FuncData} {ps : List Str} {dvs : List V} {ds : List Value}
theorem Bas.free (b : Bas fx fn K mg) (i : Nat) {x : Str} (h : fx[i]? = some (.fa (.free x)) := by rfl) : mg x = none := by
  obtain ⟨_, X, G⟩ := b.ns
  exact He.free_ok X G (b.c.fact i h)
theorem Bas.glo (b : Bas fx fn K mg) (i : Nat) {x : Str} (h : fx[i]? = some (.fa (.glo x)) := by rfl) : mg x = some (.ref (He.ga K x)) := by
  obtain ⟨_, X, G⟩ := b.ns
  exact He.glo_ok X G (b.c.fact i h)
theorem Bas.int (b : Bas fx fn K mg) (i : Nat) {x : Str} {n : Int} (h : fx[i]? = some (.fa (.int x n)) := by rfl) : ∃ t, mg x = some (.int n t) := by
  obtain ⟨_, X, G⟩ := b.ns
  exact He.int_ok X G (b.c.fact i h)
theorem Bas.str (b : Bas fx fn K mg) (i : Nat) {x z : Str} (h : fx[i]? = some (.fa (.str x z)) := by rfl) : ∃ t, mg x = some (.str z t) := by
  obtain ⟨_, X, G⟩ := b.ns
  exact He.str_ok X G (b.c.fact i h)
theorem Bas.fld (b : Bas fx fn K mg) (i : Nat) {cs : List Nat} (h : fx[i]? = some (.fld cs) := by rfl) : AllFld K (gOf K cs) := fld_ok (b.c.fact i h)
theorem Bas.isf (b : Bas fx fn K mg) (i : Nat) {cs : List Nat} (h : fx[i]? = some (.isf cs) := by rfl) : IsF K (gOf K cs) := isf_ok (b.c.fact i h)
theorem Bas.opb (b : Bas fx fn K mg) (i : Nat) {x : Str} {op : Operator} (h : fx[i]? = some (.opb x op) := by rfl) : OpB K (He.ga K x) op := opb_ok (b.c.fact i h)
theorem Bas.opn (b : Bas fx fn K mg) (i : Nat) {x : Str} (h : fx[i]? = some (.opn x) := by rfl) : OpN K (He.ga K x) := opn_ok (b.c.fact i h)
theorem Bas.exn (b : Bas fx fn K mg) (i : Nat) {x y : Str} (h : fx[i]? = some (.exn x y) := by rfl) : PySem.W.exmOne K (.ref (He.ga K x)) (.ref (He.ga K y)) = some false := of_decide_eq_true (b.c.fact i h)
theorem Bas.sub (b : Bas fx fn K mg) (i : Nat) {cs : List Nat} (h : fx[i]? = some (.sub cs) := by rfl) : SubF K (gOf K cs) cs := sub_ok (b.c.fact i h)
theorem Bas.exo (b : Bas fx fn K mg) (i : Nat) {x y f : Str} (h : fx[i]? = some (.exo x y f) := by rfl) : exoAll K (He.ga K x) (He.ga K y) (He.ma K (He.ga K x) "__init__") f = true := b.c.fact i h
theorem Bas.cls (b : Bas fx fn K mg) (i : Nat) {x : Str} (h : fx[i]? = some (.fa (.cls x)) := by rfl) : Cls K (He.ga K x) := He.cls_ok (b.c.fact i h)
theorem Bas.mkr (b : Bas fx fn K mg) (i : Nat) {x : Str} (h : fx[i]? = some (.fa (.mkr x)) := by rfl) : Mk K (He.ga K x) (He.ma K (He.ga K x) "__init__") := He.mkr_ok (b.c.fact i h)
theorem Bas.prp (b : Bas fx fn K mg) (i : Nat) {x m : Str} (h : fx[i]? = some (.prp x m) := by rfl) : PropOf K (He.ga K x) m (prA K x m) (prG K x m) := prp_ok (b.c.fact i h)
theorem Bas.cme (b : Bas fx fn K mg) (i : Nat) {x m : Str} (h : fx[i]? = some (.cme x m) := by rfl) : ClX.CRead K (He.ga K x) (.type "type") ∧ ClX.CMet K (He.ga K x) (.type "type") m (prA K x m) (cmG K x m) := cme_ok (b.c.fact i h)
theorem etp_ok {K : PySem.W.Frag} {x : Str} {m : Option Str} {j : Nat} (h : (Fx.etp x m j).ok K = true) (g : G) (H : Hp) : Rep K g H (.tup []) (.ref (dfA K (dAt K x m) j)) := by
  have h : (match K.lookup (dfA K (dAt K x m) j) with
      | some ⟨.type c, _, .seq its _, _⟩ => decide (c = "tuple") && its.isEmpty
      | _ => false) = true := h
  split at h
  · rename_i c oc its n oslt e
    obtain ⟨h1, h2⟩ := b2 h
    have h3 : its = #[] := by simpa using h2
    subst h3
    refine .tup (vs := []) (.inr ⟨_, #[], n, e, ?_, rfl, Nat.zero_le _, .nil⟩) .nil
    exact congrArg _ (of_decide_eq_true h1)
  · cases h
theorem Bas.etp (b : Bas fx fn K mg) (i : Nat) {x : Str} {m : Option Str} {j : Nat} (g : G) (H : Hp) (h : fx[i]? = some (.etp x m j) := by rfl) : Rep K g H (.tup []) (.ref (dfA K (dAt K x m) j)) := etp_ok (b.c.fact i h) g H
theorem Bas.opr (b : Bas fx fn K mg) (i : Nat) {x m : Str} (h : fx[i]? = some (.opr x m) := by rfl) : PySem.W.findIn K (.ref (He.ga K x)) m = some (some (.ref (He.ma K (He.ga K x) m))) ∧ PySem.W.isFn K (.ref (He.ma K (He.ga K x) m)) = true ∧ PySem.W.fnIn K (He.ma K (He.ga K x) m) = true :=
  have q := b.c.fact i h
  ⟨He.eqO_ok (b2 q).1, (b2 (b2 q).2).1, (b2 (b2 q).2).2⟩
/-! the bundles -/
theorem mkDef0 (ok : FnOk P w K mg base (L2.CX P w) k f fd ps (spM K g np F)) (hm : mg x = some (.ref f)) (kp : PySem.W.keepIn K (.ref f) = true) (b : Binds K fd ps []) (ar : Arity np F) : Def0 P w K mg base g x np F k [] :=
  ⟨⟨f, fd, ps, [], [], ok, hm, kp, b, .nil, fun _ => .nil⟩, ar⟩
theorem mkMak (ok : FnOk P w K mg base (L2.CX P w) k f fd ps (spM K g np F)) (mk : Mk K (g.cl c) f) (hm : mg x = some (.ref (g.cl c))) (b : Binds K fd ps []) (o : g.ok c = true) (ar : Arity np F) : Mak P w K mg base g x c np F k [] :=
  ⟨⟨f, fd, ps, [], [], ok, mk, hm, b, .nil, fun _ => .nil⟩, o, ar⟩
theorem mkPrp (ok : FnOk P w K mg base (L2.CX P w) k f fd ps (spM K g 1 F)) (hm : PropOf K (g.cl c) m p f) (b : Binds K fd ps []) (cl : Cls K (g.cl c)) (ar : Arity 1 F) : Prp P w K mg base g c m F k :=
  ⟨⟨p, f, fd, ps, ok, hm, b⟩, cl, ar⟩
theorem mkOpr (ok : FnOk P w K mg base (L2.CX P w) k f fd ps (spM K g np F)) (q : PySem.W.findIn K (.ref (g.cl c)) m = some (some (.ref f)) ∧ PySem.W.isFn K (.ref f) = true ∧ PySem.W.fnIn K f = true) (b : Binds K fd ps []) (ar : Arity np F) : Opr P w K mg base g c m np F k :=
  ⟨⟨f, FnR.imp (ok.raw b .nil) fun vs H Q E h => by rw [List.append_nil]; exact h, q⟩, ar⟩
end
end DL

set_option Elab.async false
set_option linter.all false
set_option maxRecDepth 100000
set_option maxHeartbeats 400000
namespace DL
open PySem L2 PyProof.Rows StX
/-! ### [*xs, y] -/
def starL : D → Option (List D)
  | .lst xs => some xs
  | .tup xs => some xs
  | _ => none
def mStar (m : M D) (b : M (List D)) : M (List D) := bnd m fun d => bnd (lft (starL d)) fun xs => bnd b fun ys => ret (xs ++ ys)
section
variable {K : PySem.W.Frag} {g : G} {W : WX}
theorem ev_star {te : TE} {t : TA} {m : M D} {b : M (List D)} (he : EvM K g W te m) (hb : EvL K g W t b) : EvL K g W (tStar K te t) (mStar m b) :=
  fun env σ Hf H s Q h => he env σ Hf H s _ (h.bnd.imp fun d e1 Hf1 H1 _ s1 h1 x rx => by
    obtain ⟨xs, hz, k⟩ := Aft.lft s1.sr h1.bnd
    have k' := k Hf1 H1 (Grow.refl s1.sr.ex)
    have ex := s1.sr.ex
    have go : ∀ {vs : List V}, Reps K g Hf1 xs vs → t σ H1 fun ws H2 => Q (vs ++ ws) H2 := fun {vs} r => hb e1 σ Hf1 H1 s1.sr _ (k'.bnd.imp fun ys e2 Hf2 H2 _ s2 h2 ws rw' => Aft.ret s2.sr h2 _ ((r.mono s2.f).append rw'))
    cases rx <;> try (cases hz; done)
    case lst a ds vs ha hr _ =>
      cases hz
      exact ⟨_, _, rfl, .inr (SqL.of (ex _ _ ha)), go hr⟩
    case tup a ds vs ha hr _ =>
      cases hz
      exact ⟨_, _, rfl, .inl (ex.t ha), go hr⟩)
/-! ### max, min of three -/
def max3D : List D → Option D
  | [.int i, .int j, .int k] => some (.int (if (if i < j then j else i) < k then k else (if i < j then j else i)))
  | _ => none
def min3D : List D → Option D
  | [.int i, .int j, .int k] => some (.int (if k < (if j < i then j else i) then k else (if j < i then j else i)))
  | _ => none
end
section
variable {K : PySem.W.Frag} {g : G}
/-! ### range downwards -/
def rng3D : List D → Option (List D)
  | [.int a, .int b, .int c] => if c = -1 ∧ -1000000 ≤ a ∧ a ≤ 1000000 ∧ -1000000 ≤ b ∧ b ≤ 1000000 then some ((List.range (a - b).toNat).map fun i => .int (a - ((i : Nat) : Int))) else none
  | _ => none
end
section
variable {X : Cx} {g : G} {W : WX} {tg a b c : Expr} {ma : M (List D)} {p pos : Pos}
end
section
variable {X : Cx} {g : G} {W : WX} {e : Expr} {es : List Expr} {m : M D} {b : M (List D)} {p : Pos}
theorem a_star (he : PEM X g W e m) (hb : PAM X g W es b) (hs : starEach (.Starred e p :: es) X.env = (true, eval e X.env) :: starEach es X.env := by rfl) : PAM X g W (.Starred e p :: es) (mStar m b) := by
  obtain ⟨t, h1, h2⟩ := he
  obtain ⟨u, h3, h4⟩ := hb
  exact ⟨_, pa_star h1 h3 hs, ev_star h2 h4⟩
end
end DL

set_option Elab.async false
set_option linter.all false
set_option maxRecDepth 100000
set_option maxHeartbeats 400000
namespace DL
open PySem L2 PyProof.Rows
/-! ### a, b = x, []: values and new own things side by side -/
inductive It where
  | s (d : D) | o (d : D)
def It.sl : It → Sl
  | .s d => .sh d
  | .o d => .ow d
def ItNe (p : Addr) : List It → List V → Prop
  | .o _ :: ds, v :: vs => v ≠ .ref p ∧ ItNe p ds vs
  | .s _ :: ds, _ :: vs => ItNe p ds vs
  | _, _ => True
section
variable (K : PySem.W.Frag) (g : G)
inductive Its (env : En) (σ : L2.St) (H Hf' H' : Hp) : List It → List V → Prop
  | nil : Its env σ H Hf' H' [] []
  | s {d v ds vs} : Rep K g Hf' d v → Its env σ H Hf' H' ds vs → Its env σ H Hf' H' (.s d :: ds) (v :: vs)
  | o {d p ds vs} : New K g env σ H Hf' H' d p → ItNe p ds vs → Its env σ H Hf' H' ds vs → Its env σ H Hf' H' (.o d :: ds) (.ref p :: vs)
def EvX (W : WX) (ta : TA) (m : M (List It)) : Prop := ∀ env σ Hf H, SR K g env σ Hf H → ∀ Q : List V → Hp → Prop, Aft K g W env σ Hf H (m env) (fun ds env' Hf' H' => ∀ vs, Its K g env' σ H Hf' H' ds vs → Q vs H') → ta σ H Q
end
def xNil : M (List It) := ret []
def xS (a : M D) (b : M (List It)) : M (List It) := bnd a fun x => bnd b fun xs => ret (.s x :: xs)
def xO (a : M D) (b : M (List It)) : M (List It) := bnd a fun x => bnd b fun xs => ret (.o x :: xs)
section
variable {K : PySem.W.Frag} {g : G} {W : WX} {env env1 env2 : En} {σ : L2.St} {Hf H Hf1 H1 Hf2 H2 : Hp}
theorem New.step {d : D} {p : Addr} (n : New K g env1 σ H Hf1 H1 d p) (s : Step K g env1 σ Hf1 H1 env2 σ Hf2 H2) : New K g env2 σ H Hf2 H2 d p := by
  obtain ⟨u, hu, r⟩ := n.at_
  obtain ⟨k1, k2⟩ := s.kp p u hu n.nf n.no
  refine ⟨⟨u, k1, r.mono s.f⟩, k2, fun o => ?_, n.nw⟩
  rcases s.ow p o with q | q
  · exact n.no q
  · rw [hu] at q; cases q
theorem Its.weak : ∀ {ds : List It} {vs : List V}, Its K g env2 σ H1 Hf2 H2 ds vs → Step K g env σ Hf H env1 σ Hf1 H1 → Its K g env2 σ H Hf2 H2 ds vs
  | _, _, .nil, _ => .nil
  | _, _, .s r k, st => .s r (k.weak st)
  | _, _, .o n e k, st => .o ⟨n.at_, n.nf, n.no, st.th _ n.nw⟩ e (k.weak st)
theorem Its.ne {p : Addr} (hp : ∃ u, H1 p = some u) : ∀ {ds : List It} {vs : List V}, Its K g env2 σ H1 Hf2 H2 ds vs → ItNe p ds vs
  | _, _, .nil => by unfold ItNe; trivial
  | _, _, .s _ k => by unfold ItNe; exact Its.ne hp k
  | _, _, .o n _ k => by
    unfold ItNe
    refine ⟨fun c => ?_, Its.ne hp k⟩
    cases c
    obtain ⟨u, hu⟩ := hp
    rw [n.nw] at hu
    cases hu
theorem evx_nil : EvX K g W tNil xNil := fun env σ Hf H s Q h => Aft.ret s h [] .nil
theorem evx_o {ta : TE} {tr : TA} {a : M D} {b : M (List It)} (ha : EvF K g W ta a) (hb : EvX K g W tr b) : EvX K g W (tCons ta tr) (xO a b) :=
  fun env σ Hf H s Q h => ha env σ Hf H s _ (h.bnd.imp fun x e1 Hf1 H1 _ s1 h1 p n => hb e1 σ Hf1 H1 s1.sr _ (h1.bnd.imp fun xs e2 Hf2 H2 _ s2 h2 vs r2 => Aft.ret s2.sr h2 (.ref p :: vs) (.o (n.step s2) (r2.ne (by obtain ⟨u, hu, _⟩ := n.at_; exact ⟨u, hu⟩)) (r2.weak s1))))
end
def sStoX : List (Nat × It) → S
  | [] => sNx
  | (i, d) :: r => fun env => match sto i d.sl env with
    | .ok .nx e => sStoX r e
    | _ => .bad
def sParX (ix : List Nat) (m : M (List It)) : S := bnd m fun ds => if ds.length = ix.length then sStoX (ix.zip ds) else fun _ => .bad
section
variable {K : PySem.W.Frag} {g : G} {W : WX}
theorem ev_stoX {Z : Ends} {env0 : En} {σ0 : L2.St} {Hf0 H0 : Hp} : ∀ {ix : List Nat} {ds : List It} {vs : List V} {env : En} {σ : L2.St} {Hf H : Hp}, Step K g env0 σ0 Hf0 H0 env σ Hf H → Its K g env σ H0 Hf H ds vs → ds.length = ix.length → Out K g W env0 σ0 Hf0 H0 (sStoX (ix.zip ds) env) Z → Z.nx (setsV σ (ix.zip vs)) H
  | [], [], [], env, σ, Hf, H, s, _, _, h => h σ Hf H s
  | i :: ix, d :: ds, v :: vs, env, σ, Hf, H, s, r, l, h => by
    rw [List.zip_cons_cons] at h ⊢
    unfold sStoX at h
    unfold sto at h
    cases q : env[i]? with
    | none => rw [q] at h; exact h.elim
    | some y =>
      rw [q] at h
      have go : (∀ d', y ≠ .pn d') → Out K g W env0 σ0 Hf0 H0 (sStoX (ix.zip ds) (env.set i d.sl)) Z → Z.nx (setsV σ ((i, v) :: ix.zip vs)) H := fun np h => by
        have l' : ds.length = ix.length := by simpa using l
        cases r with
        | @s d0 _ _ _ r1 r2 =>
          have st : Step K g env σ Hf H (env.set i (.sh d0)) (σ.set i (some v)) Hf H := store_step s.sr q np ⟨v, rfl, r1⟩ (fun p z => nomatch z) (fun d z => nomatch z) (Step.refl s.sr) (fun p z => nomatch z)
          have st0 : Step K g env0 σ0 Hf0 H0 (env.set i (.sh d0)) (σ.set i (some v)) Hf H := s.trans st
          have go2 : ∀ {ds : List It} {vs : List V}, Its K g env σ H0 Hf H ds vs → Its K g (env.set i (.sh d0)) (σ.set i (some v)) H0 Hf H ds vs := by
            intro ds vs k
            induction k with
            | nil => exact .nil
            | s r k ih => exact .s r ih
            | o n e k ih =>
              refine .o ⟨n.at_, n.nf, fun o => ?_, n.nw⟩ e ih
              rcases Own.at_set o with ⟨d, m, _⟩ | ⟨j, t, d, _, h1, h2, h3⟩
              · cases m
              · exact n.no ⟨j, t, d, h1, h2, h3⟩
          exact ev_stoX st0 (go2 r2) l' h
        | @o d0 p _ _ n ne r2 =>
          obtain ⟨u, hu, ru⟩ := n.at_
          have st0 : Step K g env0 σ0 Hf0 H0 (env.set i (.ow d0)) (σ.set i (some (.ref p))) Hf H := store_step s.sr q np ⟨p, u, rfl, hu, n.nf, ru⟩ (fun p' _ z => by cases z; exact n.no) (fun d z => nomatch z) s (fun p' _ z => by cases z; exact n.nw)
          have go2 : ∀ {ds : List It} {vs : List V}, Its K g env σ H0 Hf H ds vs → ItNe p ds vs → Its K g (env.set i (.ow d0)) (σ.set i (some (.ref p))) H0 Hf H ds vs := by
            intro ds vs k
            induction k with
            | nil => exact fun _ => .nil
            | s r k ih => exact fun z => .s r (ih z)
            | o n e k ih =>
              intro z
              refine .o ⟨n.at_, n.nf, fun o => ?_, n.nw⟩ e (ih z.2)
              rcases Own.at_set o with ⟨d, m, c⟩ | ⟨j, t, d, _, h1, h2, h3⟩
              · exact z.1 c.symm
              · exact n.no ⟨j, t, d, h1, h2, h3⟩
          exact ev_stoX st0 (go2 r2 ne) l' h
      cases y with
      | pn d => exact h.elim
      | no => exact go (fun d z => nomatch z) h
      | sh d => exact go (fun d z => nomatch z) h
      | ow d => exact go (fun d z => nomatch z) h
  | [], _ :: _, _, _, _, _, _, _, _, e, _ => by cases e
  | _ :: _, [], _, _, _, _, _, _, _, e, _ => by cases e
  | [], [], _ :: _, _, _, _, _, _, r, _, _ => by cases r
  | _ :: _, _ :: _, [], _, _, _, _, _, r, _, _ => by cases r
theorem Its.len {env : En} {σ : L2.St} {H Hf' H' : Hp} : ∀ {ds : List It} {vs : List V}, Its K g env σ H Hf' H' ds vs → ds.length = vs.length
  | _, _, .nil => rfl
  | _, _, .s _ k => by rw [List.length_cons, List.length_cons, k.len]
  | _, _, .o _ _ k => by rw [List.length_cons, List.length_cons, k.len]
theorem ev_parX {ix : List Nat} {ta : TA} {m : M (List It)} {t : TS} (ha : EvX K g W ta m) (ht : ∀ Z σ H, (ta σ H fun vs H1 => vs.length = ix.length ∧ Z.nx (setsV σ (ix.zip vs)) H1) → t Z σ H) : EvS K g W t (sParX ix m) := by
  intro env σ Hf H s Z h
  refine ht Z σ H (ha env σ Hf H s _ ?_)
  unfold sParX DL.bnd at h
  revert h
  cases m env with
  | bad => exact fun h => h
  | ex c d e => exact fun h => h
  | ok ds e =>
    intro h Hf1 H1 s1 vs r
    dsimp only at h
    by_cases c : ds.length = ix.length
    · rw [if_pos c] at h
      exact ⟨by rw [← r.len]; exact c, ev_stoX s1 r c h⟩
    · rw [if_neg c] at h
      exact h.elim
end
structure PXM (X : Cx) (g : G) (W : WX) (es : List Expr) (m : M (List It)) : Prop where
  ex : ∃ t, PA X es t ∧ EvX X.K g W t m
section
variable {X : Cx} {g : G} {W : WX} {e : Expr} {es : List Expr} {a : M D} {b m : M (List It)} {x y z : Str} {ea eb ec : Expr} {px py pz pt pt2 pos : Pos} {kt k2}
theorem x_nil : PXM X g W [] xNil := ⟨_, pa_nil, evx_nil⟩
theorem x_o (ha : PEF X g W e a) (hb : PXM X g W es b) (hs : starEach (e :: es) X.env = (false, eval e X.env) :: starEach es X.env := by rfl) : PXM X g W (e :: es) (xO a b) := by
  obtain ⟨t, h1, h2⟩ := ha
  obtain ⟨u, h3, h4⟩ := hb
  exact ⟨_, pa_cons h1 h3 hs, evx_o h2 h4⟩
theorem s_parX2 (i j : Nat) (h : PXM X g W [ea, eb] m) (hN : X.N.Nodup) (hc : X.calm = true := by rfl) (hi : X.N[i]? = some x := by rfl) (hj : X.N[j]? = some y := by rfl) (hij : i ≠ j := by decide)
    (hx : X.env.scope.names.lookup x = some .local := by rfl) (hy : X.env.scope.names.lookup y = some .local := by rfl)
    (hw : swappedStores [.Tuple [.Name x px, .Name y py] kt pt] (.Tuple [ea, eb] k2 pt2) X.env = pure (some [x, y]) := by rfl)
    (hs : swapsWithSole [.Tuple [.Name x px, .Name y py] kt pt] (.Tuple [ea, eb] k2 pt2) pos.line X.env = pure false := by rfl) : PSM X g W (.Assign [.Tuple [.Name x px, .Name y py] kt pt] (.Tuple [ea, eb] k2 pt2) pos) (sParX [i, j] m) := by
  obtain ⟨t, h1, h2⟩ := h
  refine ⟨_, ps_par hc hN hi hj hij hx hy h1 hw hs, ev_parX h2 fun Z σ H k => ?_⟩
  have e : (fun vs H1 => vs.length = [i, j].length ∧ Z.nx (setsV σ ([i, j].zip vs)) H1) = fun vs H1 => ∃ v w, vs = [v, w] ∧ Z.nx ((σ.set i (some v)).set j (some w)) H1 := by
    funext vs H1
    refine propext ⟨fun ⟨l, q⟩ => ?_, fun ⟨v, w, e, q⟩ => ?_⟩
    · match vs, l, q with
      | [v, w], _, q => exact ⟨v, w, rfl, q⟩
    · subst e
      exact ⟨rfl, q⟩
  rw [e] at k
  exact k
end
end DL

set_option Elab.async false
set_option linter.all false
set_option maxRecDepth 100000
set_option maxHeartbeats 400000
namespace DL
open PySem L2 PyProof.Rows
/-! ### == and != of own things with anything -/
section
variable {prog : Program} {w : World} {A : Around} {E : Value → Shared → Prop} {s : Shared} {K : PySem.W.Frag} {x C f : Addr} {ox : Obj} {od : Option Obj} {b tb : Value}
theorem rich_neG {Q : Value → Shared → Prop} (X : K.In s.heap) (I : PySem.W.InstAt s.heap x ox C od) (hb : PySem.W.Looks (model prog w) s.heap (typeOf b) tb) (hnf : PySem.W.notFirst K C tb = true) (hu : A.units + 1 < cLine)
    (hn : PySem.W.findIn K (.ref C) "__ne__" = some (some (.builtin "object.__ne__"))) (hm : PySem.W.mroIn K C (.type "object") = some true) (hs : PySem.W.findIn K (.ref C) "__eq__" = some (some (.ref f))) (hf : PySem.W.isFn K (.ref f) = true)
    (h : wpAny (model prog w) A.in1 (call (.ref f) [.ref x, b]) (fun v s' => ∃ k, v = .bool k ∧ Q (.bool (!k)) s') E s) : wpAny (model prog w) A (richCompare .NotEq (.ref x) b) Q E s := by
  have one : wpAny (model prog w) A (tryCompare (.ref x) "__ne__" b) (fun r s' => ∃ k, r = some (.bool k) ∧ Q (.bool k) s') E s := by
    unfold tryCompare
    refine wpAny_bind (ifBound_ne X I hn (wpAny_call (codeAny_call_builtin F.cmp_object.ne.plain F.cmpEntry_ne (PySem.W.check_slot F.cmpKind_ne F.cmpSplit_ne (I.type.andThen (PySem.W.looks_mroIn X hm)) (F.cmpArgs_ne _ _)
      (entry_ne (A := A.in1) X I hu hs hf (wpAny_mono h (fun v s' hv => ?_) fun _ _ e => e))))))
    obtain ⟨k, rfl, hq⟩ := hv
    exact ⟨k, rfl, wpAny_pure ⟨_, rfl, hq⟩⟩
  unfold richCompare
  simp only [oneThing_ref]
  refine wpAny_holding (wpAny_bind (wpAny_cRoomFor (Nat.lt_of_succ_lt hu) ?_))
  rw [cmpInfo_NotEq]
  dsimp only
  refine wpAny_bind (I.type.here (wpAny_bind (hb.here ?_)))
  split
  · rename_i q
    have e : PySem.W.subIn K tb (.ref C) = some false := by
      rcases Bool.or_eq_true_iff.mp hnf with e | e
      · rw [beq_iff_eq.mp e] at q; simp at q
      · exact beq_iff_eq.mp e
    refine wpAny_bind ((PySem.W.looks_subIn X e).here ?_)
    simp only [Bool.false_eq_true, if_false]
    refine wpAny_bind (wpAny_mono one (fun r s' z => ?_) fun _ _ e => e)
    obtain ⟨v, rfl, hq⟩ := z
    exact wpAny_pure hq
  · refine wpAny_bind (wpAny_pure ?_)
    simp only [Bool.false_eq_true, if_false]
    refine wpAny_bind (wpAny_mono one (fun r s' z => ?_) fun _ _ e => e)
    obtain ⟨v, rfl, hq⟩ := z
    exact wpAny_pure hq
end
/-- what may stand at the right -/
def okE (cs : List Nat) : D → Bool
  | .ins c _ => cs.contains c
  | .int _ => true
  | .str _ => true
  | .bl _ => true
  | .non => true
  | .tup _ => true
  | .lst _ => true
  | .scr _ => true
  | _ => false
def mEqG (cs : List Nat) (L : List (Nat × Fm)) (neg : Bool) (f : D → D → Option D) (x y : D) : M D := match cand L x with
  | some F => if okE cs y = true then bnd (callA F [x, y]) fun z => lft (blD neg z) else fun _ => .bad
  | none => lft (f x y)
def mCmpG (cs : List Nat) (L : List (Nat × Fm)) (neg : Bool) (f : D → D → Option D) (ma mb : M D) : M D := bnd ma fun x => bnd mb fun y => mEqG cs L neg f x y
def RightE (K : PySem.W.Frag) (g : G) (cs : List Nat) (H : Hp) (y : V) : Prop := (∃ c b dy gs, cs.contains c = true ∧ y = .ref b ∧ H b = some (.ins (g.cl c) dy gs)) ∨ ∃ T, T ∈ primT ∧ TyB K H y T
def rOwnG (K : PySem.W.Frag) (g : G) (cs : List Nat) (L : List (Nat × Fm)) (E : XK) (neg : Bool) : R2 := fun x y H Q => ∃ p ∈ L, ∃ a dx fs, x = .ref a ∧ H a = some (.ins (g.cl p.1) dx fs) ∧ RightE K g cs H y ∧
  SpD K g p.2 [] [x, y] H (fun v H' => ∃ k, v = .bl k ∧ Q (.bl (k != neg)) H') E
section
variable {g : G} {E : XK} {cs : List Nat}
theorem right_of {K : PySem.W.Frag} {Hf H : Hp} {d : D} {y : V} (e : Ex Hf H) (r : Rep K g Hf d y) (ok : okE cs d = true) : RightE K g cs H y := by
  cases r <;> try (cases ok; done)
  case ins a dx c ds vs hx hv hl okc => exact .inl ⟨c, _, _, _, ok, rfl, e _ _ (by assumption)⟩
  case int => exact .inr ⟨"int", by decide, .int _⟩
  case str => exact .inr ⟨"str", by decide, .str _⟩
  case bl => exact .inr ⟨"bool", by decide, .bl _⟩
  case non => exact .inr ⟨"NoneType", by decide, .non⟩
  case tup h _ => exact .inr ⟨"tuple", by decide, .tup (e.t h)⟩
  case lst h _ => exact .inr ⟨"list", by decide, .lst (.of (e _ _ h))⟩
  case scr h => exact .inr ⟨"list", by decide, .lst (e.l h)⟩
theorem looks_ty {M : Model} {s : Shared} {u : Value} {T : String} (h : s.TypeIs u T) : PySem.W.Looks M s.heap (typeOf u) (.type T) := by
  cases u with
  | ref a =>
    obtain ⟨o, h1, h2⟩ := h
    exact h2 ▸ (PySem.W.Looks.ld h1).andThen .now
  | _ => exact PySem.W.Looks.of_pure h
theorem rv_eqG {K : PySem.W.Frag} {L : List (Nat × Fm)} {neg : Bool} {r : R2} {f : D → D → Option D} (h : RvOk K g r f) : RvA K g E (fun x y H Q => r x y H Q ∨ rOwnG K g cs L E neg x y H Q) (mEqG cs L neg f) := fun env σ Hf H s x y dx dy Q r1 r2 q => by
  unfold mEqG at q
  cases hc : cand L dx with
  | none => rw [hc] at q; exact .inl (h.a env σ Hf H s x y dx dy Q r1 r2 q)
  | some F =>
    rw [hc] at q
    dsimp only at q
    by_cases ok : okE cs dy = true
    · rw [if_pos ok] at q
      obtain ⟨c, ds, rfl, mem⟩ := cand_some hc
      obtain ⟨a, dxa, fs, rfl, ha⟩ := ins_at s.ex r1
      refine .inr ⟨_, mem, a, dxa, fs, rfl, ha, right_of s.ex r2 ok, spD_A (dfl := []) s (.cons r1 (.cons r2 .nil)) (q.bnd.imp fun z e1 Hf1 H1 _ s1 h1 v rv => ?_)⟩
      obtain ⟨z', hz, k⟩ := Aft.lft s1.sr h1
      cases z <;> try (cases hz; done)
      case bl b0 _ =>
        cases hz
        cases rv
        exact ⟨_, rfl, k Hf1 H1 (Grow.refl s1.sr.ex) _ (.bl _)⟩
    · rw [if_neg ok] at q
      exact q.elim
end
section
variable {X : Cx} {g : G} {E : XK} {j np : Nat} {cs : List Nat} {L : List (Nat × Fm)}
theorem right_looks {M : Model} {pins : List (Addr × Obj)} {σ : L2.St} {H : Hp} {s : Shared} {C : Nat} {y : V} {u : Value} (I : Inv X pins σ H s) (S : SubF X.K g cs) (hC : cs.contains C = true) (ry : RelV y u) (h : RightE X.K g cs H y) : ∃ tb, PySem.W.Looks M s.heap (typeOf u) tb ∧ PySem.W.notFirst X.K (g.cl C) tb = true := by
  rcases h with ⟨c, b, dy, gs, hc, rfl, hb⟩ | ⟨T, hT, e⟩
  · cases (show u = Value.ref b from ry)
    obtain ⟨ox', od', m', J', _⟩ := own_inst I hb
    exact ⟨_, J'.type, S.cc C c hC hc⟩
  · refine ⟨.type T, looks_ty (e.is I ry), ?_⟩
    unfold PySem.W.notFirst
    rw [S.ct C T hC hT]
    simp
theorem op_ownEqG (S : SubF X.K g cs) (hL : AllO X.prog X.w X.K X.mg X.base g 0 j "__eq__" 2 L) (hc : AllC (fun c => cs.contains c = true) L) (hr : Room j X.A) (hx : Passes (L2.CX X.prog X.w) X E) : OpR X (compareOp .Eq) (rOwnG X.K g cs L E false) := by
  intro pins s σ H x y v u Q I rx ry h
  obtain ⟨p, hp, a, dx, fs, rfl, ha, hy, q⟩ := h
  cases (show v = Value.ref a from rx)
  obtain ⟨k, hk, ⟨f, Fn, hs, hf, _⟩, ar⟩ := hL p hp
  obtain ⟨ox, od, m, J, hF⟩ := own_inst I ha
  obtain ⟨tb, hb, nf⟩ := right_looks (M := model X.prog X.w) I S (hc p hp) ry hy
  have q1 : wpAny (model X.prog X.w) X.A (call (.ref f) [.ref a, u]) (PySem.W.CmpBack (EP X pins σ Q)) X.xe s := by
    refine wpAny_mono (run_opr Fn ar (hr.mono hk) I.env0 hx I (us := [.ref a, u]) (vs := [.ref a, y]) (.cons rfl (.cons ry .nil)) q) (fun w s' z => ?_) fun _ _ x => x
    obtain ⟨z', H', I', rz, k, rfl, qz⟩ := z
    refine SlX.cmpback rz ⟨_, H', I', rz, ?_⟩
    rw [show (k != false) = k from by cases k <;> rfl] at qz
    exact qz
  have q2 : wpAny (model X.prog X.w) X.A (richCompare .Eq (.ref a) u) (EP X pins σ Q) X.xe s := PySem.W.cmp_K (op := .Eq) (tb := tb) hr.units0 hF I.ok.mod.kin J hb nf hs hf q1
  exact q2
theorem op_ownNeG (S : SubF X.K g cs) (hL : AllO X.prog X.w X.K X.mg X.base g 1 j "__eq__" 2 L) (hc : AllC (fun c => cs.contains c = true) L) (hn : ∀ p ∈ L, OpN X.K (g.cl p.1)) (hr : Room j X.A) (hx : Passes (L2.CX X.prog X.w) X E) : OpR X (compareOp .NotEq) (rOwnG X.K g cs L E true) := by
  intro pins s σ H x y v u Q I rx ry h
  obtain ⟨p, hp, a, dx, fs, rfl, ha, hy, q⟩ := h
  cases (show v = Value.ref a from rx)
  obtain ⟨k, hk, ⟨f, Fn, hs, hf, _⟩, ar⟩ := hL p hp
  obtain ⟨ox, od, m, J, hF⟩ := own_inst I ha
  obtain ⟨tb, hb, nf⟩ := right_looks (M := model X.prog X.w) I S (hc p hp) ry hy
  have hrk := hr.mono hk
  have q1 : wpAny (model X.prog X.w) X.A.in1 (call (.ref f) [.ref a, u]) (fun v s' => ∃ k, v = .bool k ∧ EP X pins σ Q (.bool (!k)) s') X.xe s := by
    refine wpAny_mono (run_opr Fn ar hrk.in1 I.env0.in1 hx I (us := [.ref a, u]) (vs := [.ref a, y]) (.cons rfl (.cons ry .nil)) q) (fun w s' z => ?_) fun _ _ x => x
    obtain ⟨z', H', I', rz, k, rfl, qz⟩ := z
    cases (show w = Value.bool k from rz)
    refine ⟨k, rfl, .bl (!k), H', I', rfl, ?_⟩
    rw [show (k != true) = !k from by cases k <;> rfl] at qz
    exact qz
  have q2 : wpAny (model X.prog X.w) X.A (richCompare .NotEq (.ref a) u) (EP X pins σ Q) X.xe s := rich_neG I.kIn J hb nf (hrk.in1).units0 (hn p hp).ne (hn p hp).mo hs hf q1
  exact q2
end
section
variable {X : Cx} {g : G} {E : XK} {j np : Nat} {cs : List Nat} {L : List (Nat × Fm)} {a b e : Expr} {es : List Expr} {ma mb : M D} {ml : M (List D)} {pos p : Pos}
theorem t_eqG (S : SubF X.K g cs) (hL : AllO X.prog X.w X.K X.mg X.base g 0 j "__eq__" 2 L) (hq : AllC (fun c => cs.contains c = true) L) (hr : Room j X.A) (hx : Passes (L2.CX X.prog X.w) X E) (ha : PEM X g (WX_of E) a ma) (hc : PEM X g (WX_of E) b mb) : PTM X g (WX_of E) (.Compare a [.Eq] [b] pos) (mB (mCmpG cs L false eqD ma mb)) := by
  obtain ⟨ta, h1, h2⟩ := ha
  obtain ⟨tb, h3, h4⟩ := hc
  exact ⟨_, pt_cmpR ((op_eqD hr.units).or (op_ownEqG S hL hq hr hx)) h1 h3 (nomark _), ev_Test ((rv_eqG rv_eq).ev h2 h4)⟩
theorem m_eqG (S : SubF X.K g cs) (hL : AllO X.prog X.w X.K X.mg X.base g 0 j "__eq__" 2 L) (hq : AllC (fun c => cs.contains c = true) L) (hr : Room j X.A) (hx : Passes (L2.CX X.prog X.w) X E) (ha : PEM X g (WX_of E) a ma) (hc : PEM X g (WX_of E) b mb) : PEM X g (WX_of E) (.Compare a [.Eq] [b] pos) (mCmpG cs L false eqD ma mb) := by
  obtain ⟨ta, h1, h2⟩ := ha
  obtain ⟨tb, h3, h4⟩ := hc
  exact ⟨_, pe_cmpR ((op_eqD hr.units).or (op_ownEqG S hL hq hr hx)) h1 h3 (nomark _), (rv_eqG rv_eq).ev h2 h4⟩
theorem t_neG (S : SubF X.K g cs) (hL : AllO X.prog X.w X.K X.mg X.base g 1 j "__eq__" 2 L) (hq : AllC (fun c => cs.contains c = true) L) (hn : AllC (fun c => OpN X.K (g.cl c)) L) (hr : Room j X.A) (hx : Passes (L2.CX X.prog X.w) X E) (ha : PEM X g (WX_of E) a ma) (hc : PEM X g (WX_of E) b mb) : PTM X g (WX_of E) (.Compare a [.NotEq] [b] pos) (mB (mCmpG cs L true neD ma mb)) := by
  obtain ⟨ta, h1, h2⟩ := ha
  obtain ⟨tb, h3, h4⟩ := hc
  exact ⟨_, pt_cmpR ((op_neD hr.units).or (op_ownNeG S hL hq hn hr hx)) h1 h3 (nomark _), ev_Test ((rv_eqG rv_ne).ev h2 h4)⟩
end
/-! ### bool(x) of an own thing -/
def mBlO (L : List (Nat × Fm)) (f : List D → Option D) (xs : List D) : M D := match xs with
  | [x] => (match cand L x with
    | some F => bnd (callA F [x]) fun z => lft (blD false z)
    | none => lft (f xs))
  | _ => lft (f xs)
def rOwnB1 (K : PySem.W.Frag) (g : G) (L : List (Nat × Fm)) (E : XK) : List V → Hp → VK → Prop := fun xs H Q => ∃ x, xs = [x] ∧ rOwnT K g L E x H fun b H' => Q (.bl b) H'
section
variable {K : PySem.W.Frag} {g : G} {E : XK} {L : List (Nat × Fm)}
end
section
variable {X : Cx} {g : G} {E : XK} {j np : Nat} {cs : List Nat} {L : List (Nat × Fm)} {a b e : Expr} {es : List Expr} {ma mb : M D} {ml : M (List D)} {pos p : Pos}
/-! ### not x, of anything -/
/-! ### repr of plain things -/
def reprD : List D → Option D
  | [.bl b] => some (.str (if b then "True" else "False"))
  | _ => none
end
end DL

set_option Elab.async false
set_option linter.all false
set_option maxRecDepth 100000
set_option maxHeartbeats 400000
namespace DL
open PySem PySem.Spec L2 PyProof.Rows
/-! ### xs[::-1] of lists and tuples -/
section
variable {prog : Program} {w : World} {A : Around} {E : Value → Shared → Prop} {s : Shared}
end
def tRevA (K : PySem.W.Frag) (te : TE) : TE := fun σ H Q => te σ H fun x H1 => (∃ a xs, x = .ref a ∧ SqL K H1 a xs ∧ ∀ p, H1 p = none → Q (.ref p) (upd H1 p (.lst xs.reverse))) ∨ ∃ a xs, x = .ref a ∧ SqT K H1 a xs ∧ ∀ p, H1 p = none → Q (.ref p) (upd H1 p (.tup xs.reverse))
section
variable {X : Cx}
end
def revA : D → Option D
  | .lst xs => some (.lst xs.reverse)
  | .tup xs => some (.tup xs.reverse)
  | _ => none
end DL

set_option Elab.async false
set_option linter.all false
set_option maxRecDepth 100000
set_option maxHeartbeats 400000
namespace DL
open PySem L2 PyProof.Rows
/-! ### a def that was lent a thing and gives a new one -/
section
variable {K : PySem.W.Frag} {g : G} {E : XK} {F : Fm} {np : Nat} {env : En} {σ : L2.St} {Hf H : Hp}
def mCallBF (F : Fm) (i : Nat) (dfl : List D) (ma : M (List D)) : M D := bnd (own i) fun _ => bnd ma fun ds => callBF F i (ds ++ dfl)
end
section
variable {X : Cx} {g : G} {E : XK} {x : Str} {np k j : Nat} {F : Fm} {dfl : List D} {es : List Expr} {e : Expr} {ma : M (List D)} {p pos : Pos}
end
end DL

set_option Elab.async false
set_option linter.all false
set_option maxRecDepth 100000
set_option maxHeartbeats 400000
namespace DL
open PySem L2 PyProof.Rows
/-! ### an own list, read like a shared one for the time of an expression -/
mutual
/-- no list is in it -/
def nolst : D → Bool
  | .lst _ => false
  | .scr _ => false
  | .tup xs => nolsts xs
  | .ins _ xs => nolsts xs
  | .dic _ xs => nolsts xs
  | .dct _ xs => nolsts xs
  | _ => true
def nolsts : List D → Bool
  | [] => true
  | x :: xs => nolst x && nolsts xs
end
def flat : D → Bool
  | .lst xs => nolsts xs
  | .dic _ xs => nolsts xs
  | .dct _ xs => nolsts xs
  | .ins _ xs => nolsts xs
  | _ => false
def rmv (Hf : Hp) (p : Addr) : Hp := fun a => if a = p then none else Hf a
section
variable {K : PySem.W.Frag} {g : G} {W : WX} {env env1 e' e2 : En} {σ : L2.St} {Hf H Hf1 H1 Hf' H' : Hp} {p : Addr} {us : List V}
theorem rmv_ne {a : Addr} (h : a ≠ p) : rmv Hf p a = Hf a := if_neg h
theorem rmv_no (h : Hf p = some (.lst us)) {a : Addr} {o : HO} (e : Hf a = some o) (n : ∀ vs, o ≠ .lst vs) : rmv Hf p a = some o := by
  rw [rmv_ne fun c => by rw [c, h] at e; cases e; exact n _ rfl]
  exact e
theorem rmv_rd (h : Hf p = some (.lst us)) {a : Addr} {o : HO} (e : Rd Hf a o) (n : ∀ vs, o ≠ .lst vs) : Rd (rmv Hf p) a o := by
  rcases e with e | ⟨o', e⟩
  · exact .inl (rmv_no h e n)
  · exact .inr ⟨o', rmv_no h e fun vs z => by cases z⟩
mutual
theorem Rep.rmv (h : Hf p = some (.lst us)) : ∀ {d : D} {v : V}, Rep K g Hf d v → nolst d = true → Rep K g (rmv Hf p) d v
  | _, _, .non, _ => .non
  | _, _, .bl b, _ => .bl b
  | _, _, .int b, _ => .int b
  | _, _, .str b, _ => .str b
  | _, _, .ty b, _ => .ty b
  | _, _, .cls b, _ => .cls b
  | _, _, .tup (ds := ds) q r, n => .tup (q.elim (fun q => .inl (rmv_rd h q fun vs z => by cases z)) .inr) (Reps.rmv h r (by unfold nolst at n; exact n))
  | _, _, .lst q r, n => by unfold nolst at n; cases n
  | _, _, .scr q, n => by unfold nolst at n; cases n
  | _, _, .dic q r l, n => .dic (rmv_rd h q fun vs z => by cases z) (Reps.rmv h r (by unfold nolst at n; exact n)) l
  | _, _, .dct q r l, n => .dct (rmv_rd h q fun vs z => by cases z) (Reps.rmv h r (by unfold nolst at n; exact n)) l
  | _, _, .ins q r l k, n => .ins (rmv_no h q fun vs z => by cases z) (Reps.rmv h r (by unfold nolst at n; exact n)) l k
  | _, _, .opq q k, _ => .opq (rmv_no h q fun vs z => by cases z) k
theorem Reps.rmv (h : Hf p = some (.lst us)) : ∀ {d : List D} {v : List V}, Reps K g Hf d v → nolsts d = true → Reps K g (rmv Hf p) d v
  | _, _, .nil, _ => .nil
  | _, _, .cons a b, n => by
    unfold nolsts at n
    rw [Bool.and_eq_true] at n
    exact .cons (Rep.rmv h a n.1) (Reps.rmv h b n.2)
end
theorem RepO.rmv (h : Hf p = some (.lst us)) {d : D} {o : HO} (r : RepO K g Hf d o) (n : flat d = true) : RepO K g (rmv Hf p) d o := by
  cases r with
  | lst r => exact .lst (r.rmv h n)
  | dic r l => exact .dic (r.rmv h n) l
  | dct r l => exact .dct (r.rmv h n) l
  | ins r l k => exact .ins (r.rmv h n) l k
def fixS : Sl → Sl → Option Sl
  | .sh d, _ => some (.sh d)
  | .no, _ => some .no
  | .ow _, .ow d => if flat d = true then some (.ow d) else none
  | .ow _, .sh d => if nolst d = true then some (.sh d) else none
  | .pn _, .pn d => if flat d = true then some (.pn d) else none
  | _, _ => none
def fixA : En → En → Option En
  | [], [] => some []
  | a :: as, b :: bs => match fixS a b, fixA as bs with
    | some x, some xs => some (x :: xs)
    | _, _ => none
  | _, _ => none
/-- e, where slot i is only read -/
def mRO (i : Nat) (m : M D) : M D := fun env => match env[i]? with
  | some (.ow (.lst ds)) => (match m (env.set i (.sh (.lst ds))) with
    | .ok d e' => if nolst d = true then (match fixA env (e'.set i (.ow (.lst ds))) with
      | some e2 => .ok d e2
      | none => .bad) else .bad
    | _ => .bad)
  | _ => .bad
def mROB (i : Nat) (m : M Bool) : M Bool := fun env => match env[i]? with
  | some (.ow (.lst ds)) => (match m (env.set i (.sh (.lst ds))) with
    | .ok d e' => (match fixA env (e'.set i (.ow (.lst ds))) with
      | some e2 => .ok d e2
      | none => .bad)
    | _ => .bad)
  | _ => .bad
end
section
variable {X : Cx} {g : G} {W : WX} {e : Expr} {m : M D} {mb : M Bool}
end
end DL

set_option Elab.async false
set_option linter.all false
set_option maxRecDepth 100000
set_option maxHeartbeats 400000
namespace DL
open PySem L2 PyProof.Rows
/-! ### max of lists and tuples of ints -/
def max1A : List D → Option D
  | [.lst xs] => max1D [.lst xs]
  | [.tup xs] => (asInts xs).bind fun ns => if ns = [] then none else some (.int (maxL ns))
  | _ => none
def rMaxT (K : PySem.W.Frag) : List V → Hp → VK → Prop := fun vs H Q => ∃ (a : Addr) (n : Int) (ns : List Int), vs = [V.ref a] ∧ SqT K H a ((n :: ns).map V.int) ∧ Q (.int (maxL (n :: ns))) H
section
variable {X : Cx} {j : Nat}
end
end DL

set_option Elab.async false
set_option linter.all false
set_option maxRecDepth 100000
set_option maxHeartbeats 400000
namespace DL
open PySem L2 PyProof.Rows
/-! ### list(range(n)) -/
def lrgD : D → Option D
  | .int n => if n ≤ 1000000 ∧ -1000000 ≤ n then some (.lst ((List.range n.toNat).map fun i => .int ((i : Nat) : Int))) else none
  | _ => none
end DL

set_option Elab.async false
set_option linter.all false
set_option maxRecDepth 100000
set_option maxHeartbeats 400000
namespace DL
open PySem L2 PyProof.Rows
/-! ### repr of data, where no repr is under way -/
def reprOk (p : PyData) : Bool := p.showable && (p.leavesShort 2000 && (decide (p.bulk ≤ 8000) && decide (p.depth ≤ 90)))
def reprG : List D → Option D
  | [d] => (toPD d).bind fun p => if reprOk p = true then some (.str p.shown) else none
  | _ => none
def rReprD (K : PySem.W.Frag) : List V → Hp → VK → Prop := fun xs H Q => ∃ x p, xs = [x] ∧ Dp K H x p ∧ reprOk p = true ∧ Q (.str p.shown) H
/-- no repr is under way -/
abbrev NoG (A : Around) : Prop := A.guards = some []
theorem dp_noDict {K : PySem.W.Frag} {H : Hp} : ∀ (p : PyData) (v : V), Dp K H v p → p.hasDict = false := by
  refine fun p => ?_
  refine PyData.rec (motive_1 := fun p => ∀ v, Dp K H v p → p.hasDict = false) (motive_2 := fun ps => ∀ vs, DpAll K H vs ps → PyData.hasDictAll ps = false) (motive_3 := fun _ => True) (motive_4 := fun _ => True) ?_ ?_ ?_ ?_ ?_ ?_ ?_ ?_ ?_ ?_ ?_ ?_ p
  all_goals first | trivial | skip
  · intro v _; rfl
  · intro b v _; rfl
  · intro i v _; rfl
  · intro x v _; rfl
  · intro xs ih v h
    cases h with
    | lst _ h => simp only [PyData.hasDict]; exact ih _ h
  · intro xs ih v h
    cases h with
    | tup _ h => simp only [PyData.hasDict]; exact ih _ h
  · intro kvs _ v h; cases h
  · intro vs _; rfl
  · intro x xs ih1 ih2 vs h
    cases h with
    | cons a b => simp only [PyData.hasDictAll, ih1 _ a, ih2 _ b, Bool.or_self]
  all_goals (intros; trivial)
section
variable {X : Cx} {g : G} {E : XK} {j : Nat}
theorem call_repr_dpU (hg : NoG X.A) (hu : X.A.units + 100 < cLine) : CallR X (.builtin "repr") (rReprD X.K) := by
  intro pins s σ H xs us Q I r h
  obtain ⟨x, p, rfl, hd, ok, q⟩ := h
  obtain ⟨u, rfl, ru⟩ := r.one
  obtain ⟨as, rd⟩ := Dp.reads I p x u hd ru
  unfold reprOk at ok
  simp only [Bool.and_eq_true, decide_eq_true_eq] at ok
  obtain ⟨o1, o2, o3, o4⟩ := ok
  have hz : p.shown.length ≤ sizeLine := by
    have := PyData.shown_le_bulk 2000 (by decide) p o2
    have e : sizeLine = 16777216 := rfl
    omega
  have fin : ∀ (a : Addr), u = .ref a → wpAny (model X.prog X.w) X.A (call (.builtin "repr") [u]) (EP X pins σ Q) X.xe s := fun a e => by
    subst e
    exact repr_of_reads' rd o1 (PyData.noDict_hsm (dp_noDict p x hd)) hg (by omega) (fun _ _ e => e) (fun h' u tk hk => ⟨.str _, H, I.kept hk, ⟨_, rfl⟩, q⟩) hz
  cases rd with
  | none => exact PySem.P.repr_of_none ⟨.str _, H, I.tok _, ⟨_, rfl⟩, by simpa only [PyData.shown] using q⟩
  | bool b => exact PySem.P.repr_of_bool ⟨.str _, H, I.tok _, ⟨_, rfl⟩, by simpa only [PyData.shown] using q⟩
  | int i t => exact PySem.P.repr_of_int (by simpa only [PyData.showable, decide_eq_true_eq] using o1) ⟨.str _, H, I.tok _, ⟨_, rfl⟩, by simpa only [PyData.shown] using q⟩
  | str y t => exact PySem.P.repr_of_str (hsz := by simpa only [PyData.shown] using hz) ⟨.str _, H, I.tok _, ⟨_, rfl⟩, by simpa only [PyData.shown] using q⟩
  | list => exact fin _ rfl
  | tuple => exact fin _ rfl
  | dict => exact fin _ rfl
theorem call_repr_dp (hg : NoG X.A) (hr : Room j X.A) : CallR X (.builtin "repr") (rReprD X.K) := call_repr_dpU hg (by have := hr.un; omega)
end
theorem rc_reprG {K : PySem.W.Frag} {g : G} : RcOk K g (rReprD K) reprG := rc_of fun Hf H xs ds z Q e r h q => by
  unfold reprG at h
  split at h
  · rename_i d
    cases r with
    | cons r1 r2 =>
      cases r2
      cases hp : toPD d with
      | none => rw [hp] at h; cases h
      | some p =>
        rw [hp] at h
        have h' : (if reprOk p = true then some (D.str p.shown) else none) = some z := h
        split at h'
        · rename_i ok
          cases h'
          exact ⟨_, p, rfl, Rep.dp e r1 hp, ok, q _ Hf H (Grow.refl e) (.str _)⟩
        · cases h'
  · cases h
/-! ### == and != of any texts, too -/
def eqS (neg : Bool) : D → D → Option D
  | .str x, .str y => some (.bl (decide (x = y) != neg))
  | a, b => (eqB a b).map fun k => .bl (k != neg)
section
variable {K : PySem.W.Frag} {g : G}
theorem rv_eqS : RvOk K g (fun x y H Q => rEqD K x y H Q ∨ rEq x y H Q) (eqS false) := by
  intro Hf H x y dx dy Q e rx ry h
  generalize hz : eqS false dx dy = z at h
  unfold eqS at hz
  split at hz
  · rename_i a b
    subst hz
    cases rx
    cases ry
    refine .inr ⟨rfl, ?_⟩
    have := h _ Hf H (Grow.refl e) (.bl _)
    rw [show (decide (a = b) != false) = decide (V.str a = V.str b) from by simp] at this
    exact this
  · subst hz
    cases q : eqB dx dy with
    | none => rw [q] at h; exact h.elim
    | some k =>
      rw [q] at h
      obtain ⟨a, b, h1, h2, h3, h4, rfl⟩ := eqB_some q
      have := h _ Hf H (Grow.refl e) (.bl _)
      rw [show (PyData.eqv a b != false) = PyData.eqv a b from by simp] at this
      exact .inl ⟨a, b, rx.dp e h1, ry.dp e h2, h3, h4, this⟩
theorem rv_neS : RvOk K g (fun x y H Q => rNeD K x y H Q ∨ rNe x y H Q) (eqS true) := by
  intro Hf H x y dx dy Q e rx ry h
  generalize hz : eqS true dx dy = z at h
  unfold eqS at hz
  split at hz
  · rename_i a b
    subst hz
    cases rx
    cases ry
    refine .inr ⟨rfl, ?_⟩
    have := h _ Hf H (Grow.refl e) (.bl _)
    rw [show (decide (a = b) != true) = !decide (V.str a = V.str b) from by simp] at this
    exact this
  · subst hz
    cases q : eqB dx dy with
    | none => rw [q] at h; exact h.elim
    | some k =>
      rw [q] at h
      obtain ⟨a, b, h1, h2, h3, h4, rfl⟩ := eqB_some q
      have := h _ Hf H (Grow.refl e) (.bl _)
      rw [show (PyData.eqv a b != true) = !PyData.eqv a b from by simp] at this
      exact .inl ⟨a, b, rx.dp e h1, ry.dp e h2, h3, h4, this⟩
end
section
variable {X : Cx} {g : G} {E : XK} {j : Nat} {cs : List Nat} {L : List (Nat × Fm)} {a b : Expr} {ma mb : M D} {pos : Pos}
theorem t_eqGS (S : SubF X.K g cs) (hL : AllO X.prog X.w X.K X.mg X.base g 0 j "__eq__" 2 L) (hq : AllC (fun c => cs.contains c = true) L) (hr : Room j X.A) (hx : Passes (L2.CX X.prog X.w) X E) (ha : PEM X g (WX_of E) a ma) (hc : PEM X g (WX_of E) b mb) : PTM X g (WX_of E) (.Compare a [.Eq] [b] pos) (mB (mCmpG cs L false (eqS false) ma mb)) := by
  obtain ⟨ta, h1, h2⟩ := ha
  obtain ⟨tb, h3, h4⟩ := hc
  exact ⟨_, pt_cmpR (((op_eqD hr.units).or op_eq).or (op_ownEqG S hL hq hr hx)) h1 h3 (nomark _), ev_Test ((rv_eqG rv_eqS).ev h2 h4)⟩
theorem t_neGS (S : SubF X.K g cs) (hL : AllO X.prog X.w X.K X.mg X.base g 1 j "__eq__" 2 L) (hq : AllC (fun c => cs.contains c = true) L) (hn : AllC (fun c => OpN X.K (g.cl c)) L) (hr : Room j X.A) (hx : Passes (L2.CX X.prog X.w) X E) (ha : PEM X g (WX_of E) a ma) (hc : PEM X g (WX_of E) b mb) : PTM X g (WX_of E) (.Compare a [.NotEq] [b] pos) (mB (mCmpG cs L true (eqS true) ma mb)) := by
  obtain ⟨ta, h1, h2⟩ := ha
  obtain ⟨tb, h3, h4⟩ := hc
  exact ⟨_, pt_cmpR (((op_neD hr.units).or op_ne).or (op_ownNeG S hL hq hn hr hx)) h1 h3 (nomark _), ev_Test ((rv_eqG rv_neS).ev h2 h4)⟩
end
/-! ### what a def promises where no repr is under way -/
structure FnG (P : Program) (w : World) (K : PySem.W.Frag) (mg : Str → Option Value) (base : Heap) (CX : CXT) (k : Nat) (f : Addr) (fd : FuncData) (ps : List Str) (sp : Sp) : Prop where
  len : ∀ vs H Q E, sp vs H Q E → vs.length = ps.length
  run : ∀ (A : Around) (outer : List Env) (s : Shared) (H : Hp) (args : Args) (us : List Value) (vs : List V) (Q : VK) (E : XK), NoG A → Room k A → Env0 P w K mg base A outer s H → BindsTo s fd args (ps.zip us) → Vals vs us → sp vs H Q E →
    codeAny (model P w) A (.call (.ref f) args) (CR CX outer P w H s Q E) s
section
variable {P : Program} {w : World} {K : PySem.W.Frag} {mg : Str → Option Value} {base : Heap} {CX : CXT} {k : Nat} {f : Addr} {fd : FuncData} {ps : List Str} {sp sp' : Sp}
theorem FnG.of (F : FnOk P w K mg base CX k f fd ps sp) : FnG P w K mg base CX k f fd ps sp := ⟨F.len, fun A outer s H args us vs Q E _ hr => F.run A outer s H args us vs Q E hr⟩
theorem FnG.mono {j : Nat} (F : FnG P w K mg base CX j f fd ps sp) (h : j ≤ k) : FnG P w K mg base CX k f fd ps sp := ⟨F.len, fun A outer s H args us vs Q E hg hr => F.run A outer s H args us vs Q E hg (hr.mono h)⟩
theorem FnG.imp (F : FnG P w K mg base CX k f fd ps sp) (h : ∀ vs H Q E, sp' vs H Q E → sp vs H Q E) : FnG P w K mg base CX k f fd ps sp' :=
  ⟨fun vs H Q E q => F.len vs H Q E (h _ _ _ _ q), fun A outer s H args us vs Q E hg hr he hb hv hs => F.run A outer s H args us vs Q E hg hr he hb hv (h _ _ _ _ hs)⟩
end
section
variable {P : Program} {w : World} {K : PySem.W.Frag} {mg : Str → Option Value} {base : Heap} {CX : CXT} {k : Nat} {f : Addr} {fd : FuncData} {x qual : Str} {params : Arguments} {body : List Stmt} {scope : Scope} {dvs : List V} {kws : List (Str × V)} {N ps : List Str} {sp : Sp}
/-- a def's body, entered where no repr is under way -/
theorem gd_ok (F : FunD K x qual params body scope dvs kws f fd) (Sc : FnScope N ps scope) (len : ∀ vs H Q E, sp vs H Q E → vs.length = ps.length)
    (hb : ∀ (cdv : Value) (A : Around) (outer : List Env) (s : Shared) (H : Hp) (vs : List V) (Q : VK) (E : XK), NoG A → Room k (A.deeper (envOfC qual scope s.heap.objs.size f cdv)) → sp vs H Q E →
      ∃ t, PSs (cxOf CX P w K mg base N qual scope f cdv A outer s H E) body t ∧ t { nx := fun _ H' => Q .non H', rt := Q } (start N vs) H) : FnG P w K mg base CX (k + 1) f fd ps sp := by
  obtain ⟨oc, od, dV, kV, doc, pm, an, cdv, ct, osl, rfl, lk, hcd, _, _⟩ := F.ex
  refine ⟨len, fun A outer s H args us vs Q E hg hr e0 bd r hsp => ?_⟩
  have hl := len _ _ _ _ hsp
  have KX : K.In s.heap := e0.mod.kin.keeps fun b o e => (e0.bs b o e).1
  have here : ∀ y ∈ ps.zip us, scope.names.lookup y.1 = some .local ∨ (scope.names.lookup y.1 = some .cell ∧ ((cellsFrom (s.heap.objs.size + 1) scope.names []).lookup y.1).isSome = true) := fun y hy =>
    (Sc.par y.1 (List.of_mem_zip hy).1).imp id fun q => ⟨q, PySem.W.cellsFrom_some _ _ _ (.inl q)⟩
  refine codeAny_call_function hr.depth (KX _ _ lk) rfl Sc.co Sc.gen rfl (PySem.W.codeRec_of KX hcd) (bd _ _ _ _ (wpAny_newFunctionEnv_cells Sc.kind here fun env he s1 y => ?_))
  subst he
  refine ⟨(e0.mod.nolimit.keeps fun b o e => (e0.bs b o e).1).keeps y.toInCall.keep, codeAny_func ?_⟩
  obtain ⟨t, ht, hq⟩ := hb cdv A outer s H vs Q E hg (hr.deeper _) hsp
  refine wpAny_mono (ht.run [] s1 (start N vs) H _ (inv_start Sc hr.hd e0 hl r y) hq) (fun fl s' hs => ?_) fun _ _ hs => hs
  cases fl with
  | ret u => obtain ⟨v, σ', H', J, rv, q⟩ := hs; exact ⟨v, H', J.os, J.bare, J.base, J.hok, rv, q⟩
  | next => obtain ⟨σ', H', J, q⟩ := hs; exact ⟨V.non, H', J.os, J.bare, J.base, J.hok, rfl, q⟩
  | brk => obtain ⟨_, _, _, q⟩ := hs; exact False.elim q
  | cont => obtain ⟨_, _, _, q⟩ := hs; exact False.elim q
/-- a def that no exception leaves -/
theorem df_NG {g : G} {b : S} (F : FunD K x qual params body scope dvs kws f fd) (Sc : FnScope N ps scope)
    (hb : ∀ (cdv : Value) (A : Around) (outer : List Env) (s : Shared) (H : Hp) (E : XK), NoG A → Room k (A.deeper (envOfC qual scope s.heap.objs.size f cdv)) → PSsM (cxOf (L2.CX P w) P w K mg base N qual scope f cdv A outer s H E).nox g WF body b) :
    FnG P w K mg base (L2.CX P w) (k + 1) f fd ps (spM K g ps.length (fnM ps.length N.length (nox b))) := by
  refine FnG.imp ?_ spM_fnM
  refine gd_ok F Sc (fun vs H Q E h => ?_) (fun cdv A outer s H vs Q E hg hr h => ?_)
  · obtain ⟨Hf, args, sr, l, _⟩ := h
    rw [← l, ← sr.len, List.length_map]
  · obtain ⟨Hf, args, sr, l, o⟩ := h
    obtain ⟨t, h1, h2⟩ := hb cdv A outer s H E hg hr
    have lv : vs.length = args.length := by rw [← sr.len, List.length_map]
    refine ⟨t, PSs.nox h1, ?_⟩
    rw [start_eq, lv]
    refine h2 _ _ Hf H (sr_app sr _) _ ?_
    exact Out.nox (r := .bad) (out_run sr.len o)
end
/-! ### calls of such defs -/
section
variable {X : Cx} {CX : CXT} {k : Nat} {f : Addr} {fd : FuncData} {ps : List Str} {sp : Sp} {dvs : List V} {ds : List Value} {E : XK} {x : Str} {p pos : Pos} {e : Expr} {es : List Expr} {t : TA}
end
section
variable (P : Program) (w : World) (K : PySem.W.Frag) (mg : Str → Option Value) (base : Heap) (g : G)
structure DefG (x : Str) (np : Nat) (F : Fm) (k : Nat) (dfl : List D) : Prop where
  ex : ∃ f fd ps dvs ds, FnG P w K mg base (L2.CX P w) k f fd ps (spM K g np F) ∧ mg x = some (.ref f) ∧ PySem.W.keepIn K (.ref f) = true ∧ Binds K fd ps ds ∧ Vals dvs ds ∧ ∀ H, Reps K g H dfl dvs
  ar : Arity np F
variable {P : Program} {w : World} {K : PySem.W.Frag} {mg : Str → Option Value} {base : Heap} {g : G} {x : Str} {np k : Nat} {F : Fm} {f : Addr} {fd : FuncData} {ps : List Str}
end
section
variable {X : Cx} {g : G} {E : XK} {x : Str} {np k j : Nat} {F : Fm} {dfl : List D} {es : List Expr} {e : Expr} {ma : M (List D)} {p pos : Pos}
end
end DL

set_option Elab.async false
set_option linter.all false
set_option maxRecDepth 100000
set_option maxHeartbeats 1000000
namespace DL
open PySem L2 PyProof.Rows
/-! ### what is never reached -/
section
variable {X : Cx} {g : G} {W : WX} {e : Expr}
end
/-! ### calls that exceptions may leave, the wish of the place -/
section
variable {K : PySem.W.Frag} {g : G} {W : WX} {E : XK} {env : En} {σ : L2.St} {Hf H : Hp} {F : Fm} {np : Nat}
def tCallS1 (sp : Sp) (dvs : List V) (W : WX) (t : TA) : TE := fun σ H Q => t σ H fun vs H1 => sp (vs ++ dvs) H1 Q (WE W σ)
/-- C(..) -/
def tMakeS (C : Addr) (sp : Sp) (dvs : List V) (W : WX) (t : TA) : TE := fun σ H Q => t σ H fun vs H1 => ∀ x dx, H1 x = none → H1 dx = none → dx ≠ x →
  sp (.ref x :: (vs ++ dvs)) (upd (upd H1 dx (.own x)) x (.ins C dx [])) (fun v H2 => v = .non ∧ Q (.ref x) H2) (WE W σ)
end
/-! the rules -/
section
variable {X : Cx} {g : G} {W : WX} {x : Str} {c np k j : Nat} {F : Fm} {dfl : List D} {es : List Expr} {e : Expr} {ma : M (List D)} {p pos : Pos}
end
end DL

set_option Elab.async false
set_option linter.all false
set_option maxRecDepth 100000
set_option maxHeartbeats 1000000
namespace DL
open PySem L2 PyProof.Rows
/-! ### own errors -/
structure XcF (K : PySem.W.Frag) (C B fI : Addr) (f : Str) : Prop where
  oex : OexC K C
  xf : XfC K C
  no : PySem.W.findIn K (.ref C) f = some none
  ini : PySem.W.findIn K (.ref C) "__init__" = some (some (.ref fI))
  ty : PySem.W.typeIn K (.ref fI) = some (.type "function")
  te : PySem.W.exmOne K (.ref C) (.ref C) = some true
  ca : PySem.W.findIn K (.ref C) "__class__" = some (some (.builtin "object.__class__"))
  cg : PySem.W.specialIn K (.builtin "object.__class__") "__get__" = some (some (.builtin "getset_descriptor.__get__"))
  ct : PySem.W.takesIn K (.builtin "object.__class__") = some true
  mo : PySem.W.mroIn K C (.type "object") = some true
  kit : PySem.W.kitOne K (.ref C) (.ref B) = some true
  kiv : PySem.W.kitOne K (.ref C) (.type "ValueError") = some true
  rd : ClX.CRead K B (.type "type")
  vi : PySem.W.findCls K (.ref B) (.type "type") "__init__" = some (.val (.builtin "ValueError.__init__"))
/-- what __init__ of such a class promises -/
def spX (K : PySem.W.Frag) (C : Addr) (f : Str) : Sp := fun vs H Q _ => ∃ (a : Addr) (v : V), vs = [.ref a, v] ∧ OexC K C ∧ PySem.W.findIn K (.ref C) f = some none ∧ H a = some (exo a C none) ∧ ∀ dx, H dx = none → dx ≠ a → Q .non (upd (upd H dx (exd dx [(f, v)])) a (exo a C (some dx)))
section
variable {X : Cx} {pl : Sem Bool} {x : Str} {B C fI : Addr} {f m : Str} {o e : Expr} {es : List Expr} {ta : TA} {p p1 p2 p' pos : Pos}
end
section
variable {P : Program} {w : World} {K : PySem.W.Frag} {mg : Str → Option Value} {base : Heap} {g : G} {qual : Str} {params : Arguments} {body : List Stmt} {scope : Scope} {f fI C B : Addr} {fd : FuncData} {fl m : Str}
end
/-- the own error x at C, of the number c -/
structure ExB (P : Program) (w : World) (K : PySem.W.Frag) (mg : Str → Option Value) (base : Heap) (g : G) (x : Str) (c : Nat) (B : Addr) : Prop where
  ex : ∃ fI fd, XcF K (g.xl c) B fI (xfT c) ∧ FnOk P w K mg base (L2.CX P w) 1 fI fd ["self", xfT c] (spX K (g.xl c) (xfT c)) ∧ Binds K fd ["self", xfT c] []
  gl : mg x = some (.ref (g.xl c))
def sRaise (c : Nat) (m : M D) : S := bnd m fun d env => .ex c d env
section
variable {X : Cx} {g : G} {W : WX} {x : Str} {c j : Nat} {B : Addr} {e : Expr} {m : M D} {p pos pos2 : Pos}
end
end DL

set_option Elab.async false
set_option linter.all false
set_option maxRecDepth 100000
set_option maxHeartbeats 1000000
namespace DL
open PySem L2 PyProof.Rows
/-! ### {} -/
section
variable {X : Cx} {g : G} {W : WX} {K : PySem.W.Frag} {pos : Pos}
end
/-! ### displays of dicts: constant keys, constant values -/
def keyD : Key → D
  | .inl i => .int i
  | .inr x => .str x
structure PDM (X : Cx) (pos : Pos) (keys : List (Option Expr)) (values : List Expr) (kvs : List (Key × V)) (ds : List D) : Prop where
  ex : ∃ trs, PPs X pos keys values trs ∧ ∀ σ H (Q : List (V × V) → Hp → Prop), Q (kvs.map fun kv => (kV kv.1, kv.2)) H → tPairs trs σ H Q
  rp : ∀ (g : G) (Hf : Hp), Reps X.K g Hf ds (kvs.map (·.2))
  le : kvs.length = keys.length
  lv : keys.length = values.length
section
variable {X : Cx} {g : G} {W : WX} {pos p1 p2 : Pos} {keys : List (Option Expr)} {values : List Expr} {kvs : List (Key × V)} {ds : List D} {j1 j2 : Nat}
theorem pd_nil : PDM X pos [] [] [] [] := ⟨⟨[], pps_nil, fun _ _ _ h => h⟩, fun _ _ => .nil, rfl, rfl⟩
theorem pd_of {ek ev : Expr} {k : Key} {v : V} {d : D} (hk : PE X ek (tC (kV k))) (hv : PE X ev (tC v)) (hd : ∀ (g : G) (Hf : Hp), Rep X.K g Hf d v) (h : PDM X pos keys values kvs ds) : PDM X pos (some ek :: keys) (ev :: values) ((k, v) :: kvs) (d :: ds) := by
  obtain ⟨trs, h1, h2⟩ := h.ex
  refine ⟨⟨_, pps_cons hk hv h1, fun σ H Q q => ?_⟩, fun g Hf => .cons (hd g Hf) (h.rp g Hf), by simp [h.le], by simp [h.lv]⟩
  exact h2 σ H (fun ps H3 => Q ((kV k, v) :: ps) H3) q
theorem pd_ss {k i : Str} (h : PDM X pos keys values kvs ds) : PDM X pos (some (.Constant (.str k) j1 p1) :: keys) (.Constant (.str i) j2 p2 :: values) ((.inr k, .str i) :: kvs) (.str i :: ds) := pd_of (k := .inr k) pe_str pe_str (fun _ _ => .str i) h
theorem zip_fst {α β : Type} : ∀ l : List (α × β), (l.map (·.1)).zip (l.map (·.2)) = l
  | [] => rfl
  | _ :: l => by rw [List.map_cons, List.map_cons, List.zip_cons_cons, zip_fst l]
theorem m_disp (h : PDM X pos keys values kvs ds) (hall : keys.all (·.isSome) = true := by rfl) (h0 : keys ≠ [] := by exact List.cons_ne_nil _ _) (h15 : keys.length ≤ 15 := by decide) (hm : mergeK [] kvs = kvs := by rfl) :
    PEM X g W (.Dict keys values pos) (ret (.dic (kvs.map (·.1)) ds)) := by
  obtain ⟨trs, h1, h2⟩ := h.ex
  refine ⟨_, pe_disp h1 hall h.lv h0 h15, fun env σ Hf H s Q q => ?_⟩
  intro p hp
  refine h2 σ _ _ ⟨upd_same, kvs, rfl, by rw [h.le]; exact h15, ?_⟩
  rw [hm]
  have e : upd (upd H p (.dK [])) p (.dK kvs) = upd H p (.dK kvs) := funext fun a => by
    by_cases c : a = p
    · subst c; rw [upd_same, upd_same]
    · rw [upd_ne c, upd_ne c, upd_ne c]
  rw [e]
  have gw := Grow.new (o := .dK kvs) s.ex hp
  refine q _ _ (gw.step s) _ (.dic (.inl (by rw [zip_fst]; exact upd_same)) (h.rp g _) ?_)
  have := (h.rp g Hf).len
  rw [List.length_map] at this
  rw [List.length_map, this]
end
/-! ### repr, {} too -/
def sh1 (k i : Int) : Str := PyData.shown (.dict [(.int k, .int i)])
def rRepr0 (K : PySem.W.Frag) : List V → Hp → VK → Prop := fun xs H Q => rReprD K xs H Q ∨ (∃ a, xs = [.ref a] ∧ Rd H a (.dK []) ∧ Q (.str "{}") H) ∨ ∃ a k i, xs = [.ref a] ∧ Rd H a (.dK [(.inl k, .int i)]) ∧ ((PyData.dict [(.int k, .int i)]).showable = true ∧ (sh1 k i).length ≤ sizeLine) ∧ Q (.str (sh1 k i)) H
def reprE : List D → Option D
  | [.dic [] []] => some (.str "{}")
  | [.dic [.inl k] [.int i]] => if (PyData.dict [(.int k, .int i)]).showable = true ∧ (sh1 k i).length ≤ sizeLine then some (.str (sh1 k i)) else none
  | ds => reprG ds
section
variable {X : Cx} {g : G} {j : Nat}
end
end DL

set_option Elab.async false
set_option linter.all false
set_option maxRecDepth 100000
set_option maxHeartbeats 1000000
namespace DL
open PySem L2 PyProof.Rows
/-! ### try: .. except x as n: return [s, repr(n.f), isinstance(n, B)] -/
def rIsX (K : PySem.W.Frag) (C a dd : Addr) : List V → Hp → VK → Prop := fun xs H Q => ∃ (c : V) (cv : Value) (b : Bool) (fs : List (Str × V)), xs = [.ref a, c] ∧ (∀ u, RelV c u → u = cv) ∧ PySem.W.kitOne K (.ref C) cv = some b ∧ H dd = some (.xd fs) ∧ Q (.bl b) H
section
variable {X : Cx} {g : G} {W : WX} {a C B fI dd : Addr} {oe : Obj} {pn : List (Addr × Obj)} {f : Str}
/-- it is of the class asked -/
def t3 (i : Nat) (a dd : Addr) : TE := fun σ H Q => σ[i]? = some (some (.ref a)) ∧ (∃ fs, H dd = some (.xd fs)) ∧ Q (.bl true) H
theorem PE.imp {e : Expr} {t t' : TE} (h : PE X e t) (k : ∀ σ H Q, t' σ H Q → t σ H Q) : PE X e t' := ⟨fun pins s σ H Q I z => h.run pins s σ H Q I (k σ H Q z)⟩
end
def sTryR (c i : Nat) (s : Str) (mb : S) : S := fun env => match mb env with
  | .ex c' d e => if c' = c then (match e[i]?, reprE [d] with
    | some .no, some (.str r) => .ok (.rt (.lst [.str s, .str r, .bl true])) e
    | _, _ => .bad) else .bad
  | r => r
/-- what the suite asks -/
def tsR (K : PySem.W.Frag) (C : Addr) (f s : Str) (i : Nat) : Addr → Value → Option Addr → TS := fun a cls d D σ H => ∃ (dd : Addr) (fs : List (Str × V)) (v : V) (r : Str), cls = .ref C ∧ d = some dd ∧ σ[i]? = some (some (.ref a)) ∧ H dd = some (.xd fs) ∧ fs.lookup f = some v ∧ (∀ Q : VK, Q (.str r) H → rRepr0 K [v] H Q) ∧
  ∀ q, H q = none → D.rt (.ref q) (upd H q (.lst [.str s, .str r, .bl true]))
section
variable {X : Cx} {g : G} {W : WX} {B : Addr} {c i j : Nat} {x n s : Str} {body : List Stmt} {mb : S} {e3 : Expr} {k1 : Nat} {np q1 q2 q3 q4 q5 q10 q11 pos pos' : Pos}
end
end DL

set_option Elab.async false
set_option linter.all false
set_option maxRecDepth 100000
set_option maxHeartbeats 400000
namespace DL
open PySem L2 PyProof.Rows
/-! ### x.extend(e), f(..).append(e), C(k = e, ..), a and b of an error -/
def sExt (i : Nat) (m : M D) : S := bnd (own i) fun d0 => if isLst d0 = true then bnd m fun z => bnd (own i) fun d => match d, z with
  | .lst xs, .lst ys => if small (xs.length + ys.length) = true then (fun env => .ok .nx (mdf i (.lst (xs ++ ys)) env)) else (fun _ => .bad)
  | _, _ => fun _ => .bad else (fun _ => .bad)
def sAppF (m0 m : M D) : S := bnd m0 fun d0 => match d0 with
  | .lst xs => if small (xs.length + 1) = true then bnd m fun _ => ret .nx else (fun _ => .bad)
  | _ => fun _ => .bad
section
variable {K : PySem.W.Frag} {g : G} {W : WX} {env env1 env' : En} {σ σ1 σ' : L2.St} {Hf H Hf1 H1 Hf' H' : Hp}
theorem step_out {p : Addr} {u' : HO} (s : Step K g env σ Hf H env' σ' Hf' H') (h0 : H p = none) (hf : Hf' p = none) (no : ¬ Own env' σ' p) : Step K g env σ Hf H env' σ' Hf' (upd H' p u') := by
  refine ⟨s.f, ⟨fun a v q => ?_, s.sr.len, fun i x o q q' => ?_, s.sr.ne⟩, fun a u q q' n => ?_, s.ow, fun a q => ?_, s.pn, s.le⟩
  · rw [upd_ne (fun c => by rw [c, hf] at q; cases q)]
    exact s.sr.ex a v q
  · have w := s.sr.sl i x o q q'
    cases x with
    | no => trivial
    | sh b => exact w
    | ow b => obtain ⟨z, w, e, h1, h2, r⟩ := w; exact ⟨z, w, e, by rw [upd_ne (fun c => no ⟨i, _, b, q, rfl, by rw [q', e, c]⟩)]; exact h1, h2, r⟩
    | pn b => obtain ⟨z, w, e, h1, h2, r⟩ := w; exact ⟨z, w, e, by rw [upd_ne (fun c => no ⟨i, _, b, q, rfl, by rw [q', e, c]⟩)]; exact h1, h2, r⟩
  · obtain ⟨k1, k2⟩ := s.kp a u q q' n
    exact ⟨by rw [upd_ne (fun c => by rw [c, h0] at q; cases q)]; exact k1, k2⟩
  · by_cases c : a = p
    · rw [c, upd_same] at q; cases q
    · rw [upd_ne c] at q; exact s.th a q
end
/-! the rules -/
section
variable {X : Cx} {g : G} {W : WX} {x : Str} {p1 apos cpos pos tpos : Pos} {e j e0 : Expr} {m m0 mj : M D}
end
/-! ### a; b; return x, x our own: what is handed back is new -/
def noOw (env : En) : Bool := env.all fun s => match s with
  | .ow _ => false
  | _ => true
def sRetO (i : Nat) (m : S) : S := fun env => if noOw env = true then (match m env with
  | .ok .nx e => (match e[i]? with
    | some (.ow d) => .ok (.rto d) (e.set i .no)
    | _ => .bad)
  | .ok _ _ => .bad
  | .ex c d e => .ex c d e
  | .bad => .bad) else .bad
section
variable {K : PySem.W.Frag} {g : G} {W : WX} {env env1 env' : En} {σ σ1 σ' : L2.St} {Hf H Hf1 H1 Hf' H' : Hp}
end
section
variable {X : Cx} {g : G} {W : WX} {x : Str} {p1 pos : Pos} {a b : Stmt} {ma mb : S}
end
/-! ### C(k = e, ..): all by their names -/
def prmD (pm : List Nat) (ds : List D) : List D := pm.map fun i => ds.getD i .non
def prmV (pm : List Nat) (vs : List V) : List V := pm.map fun i => vs.getD i .non
def prmU (pm : List Nat) (us : List Value) : List Value := pm.map fun i => us.getD i .none
def kwG (pm : List Nat) (us ws : List Value) : List Value := us ++ prmU pm ws
def kwV (pm : List Nat) (vs zs : List V) : List V := vs ++ prmV pm zs
/-- a class made by names -/
structure MakK (P : Program) (w : World) (K : PySem.W.Frag) (mg : Str → Option Value) (base : Heap) (g : G) (x : Str) (c : Nat) (np : Nat) (F : Fm) (k : Nat) (ks : List Str) (pm : List Nat) : Prop where
  ex : ∃ f fd ps, FnOk P w K mg base (L2.CX P w) k f fd ps (spM K g np F) ∧ Mk K (g.cl c) f ∧ mg x = some (.ref (g.cl c)) ∧ KBn K fd ps 1 ks (kwG pm) (kwV pm)
  ok : g.ok c = true
  ar : Arity np F
  ln : ks.length = pm.length
def mMakK (F : Fm) (c : Nat) (pm : List Nat) (ma : M (List D)) : M D := bnd ma fun ds => if ds.length = pm.length then mkA F c (prmD pm ds) else fun _ => .bad
def PKM (X : Cx) (g : G) (W : WX) (kws : List Keyword) (m : M (List D)) : Prop := ∃ t, PK X kws t ∧ EvL X.K g W t m
section
variable {X : Cx} {g : G} {W : WX} {E : XK} {x : Str} {c np k j : Nat} {F : Fm} {ks : List Str} {pm : List Nat} {kws : List Keyword} {e : Expr} {ma : M (List D)} {m : M D} {p pos kp : Pos} {nm : Option Str}
end
/-! ### isinstance(e, A) and isinstance(e, B) -/
section
variable {X : Cx} {a dd : Addr} {oe : Obj} {pn : List (Addr × Obj)} {i : Nat} {e1 e2 : Expr} {pos : Pos}
end
end DL

set_option Elab.async false
set_option linter.all false
set_option maxRecDepth 100000
set_option maxHeartbeats 1000000
namespace DL
open PySem L2 PyProof.Rows
/-! ### own operators, entries, classmethods that exceptions may leave -/
section
variable {K : PySem.W.Frag} {g : G} {W : WX} {env : En} {σ : L2.St} {Hf H : Hp} {F : Fm}
/-- a two-place operation, its exceptions to the place -/
def RvS (K : PySem.W.Frag) (g : G) (W : WX) (r : L2.St → R2) (f : D → D → M D) : Prop := ∀ env σ Hf H, SR K g env σ Hf H → ∀ x y dx dy Q, Rep K g Hf dx x → Rep K g Hf dy y →
  Aft K g W env σ Hf H (f dx dy env) (fun d _ Hf' H' => ∀ v, Rep K g Hf' d v → Q v H') → r σ x y H Q
theorem RvOk.s {r : R2} {f : D → D → Option D} (h : RvOk K g r f) : ∀ env σ Hf H, SR K g env σ Hf H → ∀ x y dx dy Q, Rep K g Hf dx x → Rep K g Hf dy y →
  Aft K g W env σ Hf H (lft (f dx dy) env) (fun d _ Hf' H' => ∀ v, Rep K g Hf' d v → Q v H') → r x y H Q := fun env σ Hf H s x y dx dy Q r1 r2 q => by
  obtain ⟨z, hz, k⟩ := Aft.lft s q
  refine h Hf H x y dx dy Q s.ex r1 r2 ?_
  rw [hz]
  exact fun v Hf' H' w r => k Hf' H' w v r
def tOpS (r : L2.St → R2) (ta tb : TE) : TE := fun σ H Q => ta σ H fun x H1 => tb σ H1 fun y H2 => r σ x y H2 Q
theorem RvS.ev {r : L2.St → R2} {f : D → D → M D} {ta tb : TE} {ma mb : M D} (hr : RvS K g W r f) (ha : EvM K g W ta ma) (hb : EvM K g W tb mb) : EvM K g W (tOpS r ta tb) (bnd ma fun x => bnd mb fun y => f x y) :=
  fun env σ Hf H s Q h => ha env σ Hf H s _ (h.bnd.imp fun x e1 Hf1 H1 _ s1 h1 v r1 => hb e1 σ Hf1 H1 s1.sr _ (h1.bnd.imp fun y e2 Hf2 H2 _ s2 h2 w r2 => hr e2 σ Hf2 H2 s2.sr v w x y Q (r1.mono s2.f) r2 h2))
end
section
variable {X : Cx} {g : G} {W : WX} {E : XK} {j np : Nat} {L : List (Nat × Fm)} {a b e : Expr} {es : List Expr} {ma mb : M D} {ml : M (List D)} {pos p : Pos} {r : R2} {f : D → D → Option D}
end
end DL

set_option Elab.async false
set_option linter.all false
set_option maxRecDepth 100000
set_option maxHeartbeats 1000000
namespace DL
open PySem L2 PyProof.Rows
/-! ### a dict of texts that the module lays out -/
theorem rowAt_some {e : DictEntry} {x z : Str} {i : Int} (h : rowAt e = some (x, i, z)) : (∃ t, e.key = .str x t) ∧ e.hash = i ∧ ∃ t, e.val = .str z t := by
  unfold rowAt at h
  split at h
  · rename_i x' t z' t' h1 h2
    cases h
    exact ⟨⟨t, h1⟩, rfl, t', h2⟩
  · cases h
theorem rows_lit {P : Params} : ∀ {l : List DictEntry} {kvs : List (Str × Str)}, l.map rowAt = rowsTo P kvs → PySem.W.KeysLit P l
  | [], _, _ => trivial
  | e :: r, [], h => by cases h
  | e :: r, q :: kvs, h => by
    have h1 : rowAt e :: r.map rowAt = some (q.1, PyData.keyHash P q.1, q.2) :: rowsTo P kvs := h
    obtain ⟨h2, h3⟩ := List.cons.inj h1
    obtain ⟨⟨t, k1⟩, k2, _⟩ := rowAt_some h2
    exact ⟨⟨q.1, t, k1, k2⟩, rows_lit h3⟩
theorem rows_find {P : Params} (z : Str) : ∀ {l : List DictEntry} {kvs : List (Str × Str)}, l.map rowAt = rowsTo P kvs →
    (∀ v, kvs.lookup z = some v → ∃ e t, l.find? (·.key.isStr z) = some e ∧ e.val = .str v t) ∧ (kvs.lookup z = none → l.find? (·.key.isStr z) = none ∧ l.any (·.refKey) = false)
  | [], [], _ => ⟨fun v h => (by cases h), fun _ => ⟨rfl, rfl⟩⟩
  | [], _ :: _, h => by cases h
  | _ :: _, [], h => by cases h
  | e :: r, q :: kvs, h => by
    have h1 : rowAt e :: r.map rowAt = some (q.1, PyData.keyHash P q.1, q.2) :: rowsTo P kvs := h
    obtain ⟨h2, h3⟩ := List.cons.inj h1
    obtain ⟨⟨t, k1⟩, _, t', k3⟩ := rowAt_some h2
    obtain ⟨i1, i2⟩ := rows_find z h3
    have hk : e.key.isStr z = (q.1 == z) := by rw [k1]; rfl
    have hr : e.refKey = false := by unfold DictEntry.refKey; rw [k1]
    obtain ⟨qk, qv⟩ := q
    by_cases c : qk = z
    · subst c
      refine ⟨fun v hv => ⟨e, t', ?_, ?_⟩, fun hv => ?_⟩
      · rw [List.find?_cons_of_pos (by rw [hk]; simp)]
      · rw [List.lookup_cons_self] at hv
        cases hv
        exact k3
      · rw [List.lookup_cons_self] at hv
        cases hv
    · have c2 : (z == qk) = false := by simpa using fun y : z = qk => c y.symm
      have c3 : (qk == z) = false := by simpa using c
      refine ⟨fun v hv => ?_, fun hv => ?_⟩
      · rw [List.lookup_cons, c2] at hv
        obtain ⟨e', t2, h4, h5⟩ := i1 v hv
        exact ⟨e', t2, by rw [List.find?_cons_of_neg (by rw [hk, c3]; simp)]; exact h4, h5⟩
      · rw [List.lookup_cons, c2] at hv
        obtain ⟨h4, h5⟩ := i2 hv
        exact ⟨by rw [List.find?_cons_of_neg (by rw [hk, c3]; simp)]; exact h4, by rw [List.any_cons, hr, h5]; rfl⟩
/-- the dict at a has these rows -/
structure TabK (K : PySem.W.Frag) (w : World) (a : Addr) (kvs : List (Str × Str)) : Prop where
  kd : ∃ es n, KDict K w a es n
  get : ∀ z v, kvs.lookup z = some v → KDct K w a z (.str v)
  has : ∀ z v, kvs.lookup z = some v → ∃ t, PySem.W.nsIn K a z = some (some (.str v t))
  non : ∀ z, kvs.lookup z = none → PySem.W.nsIn K a z = some none
theorem tab_of {K : PySem.W.Frag} {w : World} {a : Addr} {kvs : List (Str × Str)} (h : tabAt K a = some (rowsTo w.params kvs)) : TabK K w a kvs := by
  unfold tabAt at h
  split at h
  · rename_i c es n sl lk
    split at h
    · rename_i b
      obtain ⟨b1, b2'⟩ := b2 b
      obtain ⟨b3, b4⟩ := b2 b2'
      have e1 : c = "dict" := of_decide_eq_true b1
      have e2 : sl = #[] := Array.isEmpty_iff.mp b3
      subst e1 e2
      have hl := Option.some.inj h
      have lit := rows_lit hl
      have low : (a == sysModules) = false := by simpa using b4
      have ns : ∀ z v, kvs.lookup z = some v → ∃ t, PySem.W.nsIn K a z = some (some (.str v t)) := fun z v hv => by
        obtain ⟨e, t, h1, h2⟩ := (rows_find z hl).1 v hv
        refine ⟨t, ?_⟩
        unfold PySem.W.nsIn
        rw [lk]
        dsimp only
        rw [h1, ← h2]
      refine ⟨⟨es, n, lk, lit, low⟩, fun z v hv => ?_, ns, fun z hv => ?_⟩
      · obtain ⟨t, h1⟩ := ns z v hv
        exact ⟨es, n, _, lk, lit, h1, ⟨t, rfl⟩⟩
      · obtain ⟨h1, h2⟩ := (rows_find z hl).2 hv
        unfold PySem.W.nsIn
        rw [lk]
        dsimp only
        rw [h1, h2]
        rfl
    · cases h
  · cases h
/-! the Hook with such tables -/
def seeT (n : Nat) (fx : List Fx) (fn : List Dx) (ts : List Tb) (q : Addr → Option Obj) : GotT := seeTF fx fn ts (He.frG q (asQ q n))
def hookT (n : Nat) (fx : List Fx) (fn : List Dx) (ts : List Tb) : PySem.W.Hook where
  α := GotT
  obs := fun s => seeT n fx fn ts s.heap.get?
  val := fun w => goodT fn ts w
  says := fun w h => ∃ K : PySem.W.Frag, K.In h ∧ SaysTb fx fn ts w K
  of := fun _ _ e => ⟨_, He.frG_in, e⟩
  keeps := fun _ _ _ ⟨K, i, c⟩ k => ⟨K, PySem.W.Frag.In.keeps i k, c⟩
section
variable {fx : List Fx} {fn : List Dx} {ts : List Tb} {w : World} {K : PySem.W.Frag} {mg : Str → Option Value}
theorem SaysTb.s (c : SaysTb fx fn ts w K) : Says fx fn K := congrArg (fun z : GotT => z.1) c
theorem SaysTb.tab (c : SaysTb fx fn ts w K) (i : Nat) {t : Tb} (h : ts[i]? = some t := by rfl) : TabK K w (He.ga K t.1) t.2 := by
  have e : ts.map (fun t => tabAt K (He.ga K t.1)) = ts.map fun t => some (rowsTo w.params t.2) := congrArg (fun z : GotT => z.2) c
  have e2 : (ts.map fun t => tabAt K (He.ga K t.1))[i]? = (ts.map fun t => some (rowsTo w.params t.2))[i]? := by rw [e]
  rw [List.getElem?_map, List.getElem?_map, h] at e2
  exact tab_of (Option.some.inj e2)
structure BasT (fx : List Fx) (fn : List Dx) (ts : List Tb) (w : World) (K : PySem.W.Frag) (mg : Str → Option Value) : Prop extends Bas fx fn K mg where
  t : SaysTb fx fn ts w K
theorem BasT.of (ns : ∃ h : Heap, K.In h ∧ h.Ns mainGlobals mg) (t : SaysTb fx fn ts w K) : BasT fx fn ts w K mg := ⟨⟨ns, t.s⟩, t⟩
theorem BasT.tab (b : BasT fx fn ts w K mg) (i : Nat) {t : Tb} (h : ts[i]? = some t := by rfl) : TabK K w (He.ga K t.1) t.2 := b.t.tab i h
end
/-! the rules -/
def mInK (kvs : List (Str × Str)) (neg : Bool) (m : M D) : M D := bnd m fun d => match d with
  | .str z => ret (.bl ((kvs.lookup z).isSome != neg))
  | _ => fun _ => .bad
def mGetK (kvs : List (Str × Str)) (m : M D) : M D := bnd m fun d => match d with
  | .str z => (match kvs.lookup z with
    | some v => ret (.str v)
    | none => fun _ => .bad)
  | _ => fun _ => .bad
section
variable {X : Cx} {g : G} {W : WX} {x : Str} {d : Addr} {kvs : List (Str × Str)} {a : Expr} {ma : M D} {p pos : Pos}
theorem m_getK (T : TabK X.K X.w d kvs) (hm : X.mg x = some (.ref d)) (ha : PEM X g W a ma) (hg : Gl X x := by rfl) (hdb : (x == ("__debug__" : Str)) = false := by decide) (hs : PlainIx a := by exact fun _ _ => rfl) : PEM X g W (.Subscript (.Name x p) a pos) (mGetK kvs ma) := by
  obtain ⟨ta, h1, h2⟩ := ha
  refine ⟨_, pe_ix ix_kdict (pe_glob hg hm (v := .ref d) rfl hdb) h1 hs, fun env σ Hf H s Q h => h2 env σ Hf H s _ (h.bnd.imp fun z e1 Hf1 H1 _ s1 k v r => ?_)⟩
  cases r <;> try exact k.elim
  case str z _ =>
    dsimp only at k
    cases e : kvs.lookup z with
    | some y =>
      rw [e] at k
      exact ⟨_, z, .str y, rfl, rfl, T.get z y e, Aft.ret s1.sr k (.str _) (.str _)⟩
    | none =>
      rw [e] at k
      exact k.elim
end
end DL

set_option Elab.async false
set_option linter.all false
set_option maxRecDepth 100000
set_option maxHeartbeats 1000000
namespace DL
open PySem L2 PyProof.Rows
/-! ### x in (..), x in [..]: plain things -/
def plainVs : List D → Option (List V)
  | [] => some []
  | d :: ds => (plainV d).bind fun v => (plainVs ds).map (v :: ·)
theorem rep_plain {K : PySem.W.Frag} {g : G} {H : Hp} {d : D} {v v' : V} (r : Rep K g H d v) (h : plainV d = some v') : v = v' := by
  cases r <;> first | (cases h; rfl) | (cases h; done)
theorem reps_plain {K : PySem.W.Frag} {g : G} {H : Hp} : ∀ {ds : List D} {vs vs' : List V}, Reps K g H ds vs → plainVs ds = some vs' → vs = vs'
  | _, _, _, .nil, h => by cases h; rfl
  | d :: ds, _, vs', .cons r rs, h => by
    unfold plainVs at h
    cases e : plainV d with
    | none => rw [e] at h; cases h
    | some v =>
      rw [e] at h
      cases e2 : plainVs ds with
      | none => rw [e2] at h; cases h
      | some vs =>
        rw [e2] at h
        cases h
        rw [rep_plain r e, reps_plain rs e2]
def inSeq (neg : Bool) (x : D) (ys : List D) : Option D := match plainV x, plainVs ys with
  | some v, some vs => if (flatV v && vs.all flatV) = true then some (.bl (if neg then !inV v vs else inV v vs)) else none
  | _, _ => none
def inD (neg : Bool) (x y : D) : Option D := match y with
  | .tup ys => inSeq neg x ys
  | .lst ys => inSeq neg x ys
  | _ => none
section
variable {K : PySem.W.Frag} {g : G}
theorem rv_in (neg : Bool) : RvOk K g (rIn K neg) (inD neg) := fun Hf H x y dx dy Q e r1 r2 h => by
  have go : ∀ (ys : List D) (ws : List V) (p : Addr), Reps K g Hf ys ws → (SqL K H p ws ∨ SqT K H p ws) → (match inSeq neg dx ys with
      | some z => ∀ v Hf' H', Grow Hf H Hf' H' → Rep K g Hf' z v → Q v H'
      | none => False) → rIn K neg x (.ref p) H Q := fun ys ws p rs hp h => by
    unfold inSeq at h
    cases e1 : plainV dx with
    | none => rw [e1] at h; exact h.elim
    | some v =>
      rw [e1] at h
      cases e2 : plainVs ys with
      | none => rw [e2] at h; exact h.elim
      | some vs =>
        rw [e2] at h
        dsimp only at h
        split at h
        · rename_i z hz
          split at hz
          · rename_i fl
            cases hz
            have q := rep_plain r1 e1
            have q2 := reps_plain rs e2
            subst q q2
            obtain ⟨f1, f2⟩ := Bool.and_eq_true_iff.mp fl
            exact ⟨p, ws, rfl, hp, f1, f2, h _ Hf H (Grow.refl e) (.bl _)⟩
          · cases hz
        · exact h.elim
  cases r2 <;> try exact h.elim
  case tup a ds vs hs rs => exact go _ _ _ rs (.inr (e.t hs)) h
  case lst a ds vs hs rs => exact go _ _ _ rs (.inl (SqL.of (e _ _ hs))) h
end
section
variable {X : Cx} {g : G} {W : WX} {a b : Expr} {ma mb : M D} {pos : Pos}
theorem m_in (ha : PEM X g W a ma) (hb : PEM X g W b mb) (hm : behindInMarks .In b = false := by rfl) : PEM X g W (.Compare a [.In] [b] pos) (mBin (inD false) ma mb) := m_cmp op_in_seq (rv_in false) ha hb hm
theorem m_notIn (ha : PEM X g W a ma) (hb : PEM X g W b mb) (hm : behindInMarks .NotIn b = false := by rfl) : PEM X g W (.Compare a [.NotIn] [b] pos) (mBin (inD true) ma mb) := m_cmp op_notIn_seq (rv_in true) ha hb hm
end
end DL

set_option Elab.async false
set_option linter.all false
set_option maxRecDepth 100000
set_option maxHeartbeats 1000000
namespace DL
open PySem PySem.Spec L2 PyProof.Rows
/-! ### x += e, whole numbers -/
def addI : D → D → Option D
  | .int i, .int j => some (.int (i + j))
  | _, _ => none
def rAddI : R2 := fun x y H Q => ∃ i j, x = .int i ∧ y = .int j ∧ Q (.int (i + j)) H
section
variable {X : Cx} {g : G} {W : WX} {x : Str} {e : Expr} {m : M D} {p pos : Pos}
end
/-! ### zip of a text and a tuple -/
def ItzS (K : PySem.W.Frag) (x : Str) (b : Addr) : L2.It :=
  ⟨fun i H => ∃ (ys : List V) (c : Nat) (y : V), SqT K H b ys ∧ x.cps[i]? = some c ∧ ys[i]? = some y,
    fun i H v H' => ∃ T c y, v = .ref T ∧ H T = none ∧ H' = upd H T (.tup [.str ⟨#[c]⟩, y]) ∧ x.cps[i]? = some c ∧ ∀ ys, SqT K H b ys → ys[i]? = some y,
    fun i H => ∃ ys : List V, SqT K H b ys ∧ i ≤ x.cps.size ∧ i ≤ ys.length ∧ (i = x.cps.size ∨ i = ys.length)⟩
theorem draws_text {prog : Program} {w : World} {A : Around} (hh : A.handled = none) (it : Addr) (x : Str) (t : Tok) :
    Draws prog w A it [it] x.cps.size (fun i v => ∃ c u, x.cps[i]? = some c ∧ v = .str ⟨#[c]⟩ u) (fun i h => h.IsStrIter it (strIterType x) x t i) := by
  unfold strIterType
  by_cases c : x.cps.all (· < 128) = true
  · rw [if_pos c]
    exact Draws.strAscii hh it x t
  · rw [if_neg c]
    exact Draws.strWide hh it x t
def zsT (x : Str) (t : Tok) (b z TI TO i1 i2 : Addr) : Nat → Heap → Prop := fun i h => IsZip h z TI TO .none ∧ IsTupOf2 h TI (.ref i1) (.ref i2) ∧ (∃ u v, IsTupOf2 h TO u v) ∧ h.IsStrIter i1 (strIterType x) x t i ∧ h.IsTupleIter i2 b i
theorem turn_zipS {P : Program} {w : World} {K : PySem.W.Frag} {elts : List Expr} {kk : Nat} {tpos : Pos} {x : Str} {t : Tok} {b z TI TO i1 i2 : Addr} (S : ZipSep2 z TI TO i1 i2 [i1] [i2, b]) (hb : b ≠ i2) :
    Turn P w K (.Tuple elts kk tpos) (ItzS K x b) [z, TI, TO, i1, i2] z (zsT x t b z TI TO i1 i2) := by
  have five : ∀ {c : Addr}, c ∈ [z, TI, TO, i1, i2] → c = z ∨ c = TI ∨ c = TO ∨ c = i1 ∨ c = i2 := fun {c} h => by simpa using h
  have out : ∀ {c : Addr}, c ∉ [z, TI, TO, i1, i2] → c ≠ z ∧ c ≠ TI ∧ c ≠ TO ∧ c ≠ i1 ∧ c ≠ i2 := fun {c} h => by simpa using h
  have all : ∀ {i : Nat} {h : Heap}, zsT x t b z TI TO i1 i2 i h → ∀ c ∈ [z, TI, TO, i1, i2], ∃ o, h.get? c = some o ∧ ∀ v, o.data ≠ .cell v := fun {i h} st c hc => by
    obtain ⟨a1, a2, ⟨u, v, a3⟩, ⟨o1, e1, _, d1⟩, ⟨o2, e2, _, d2⟩⟩ := st
    rcases five hc with rfl | rfl | rfl | rfl | rfl
    · exact ⟨_, a1, fun v q => nomatch q⟩
    · exact ⟨_, a2, fun v q => nomatch q⟩
    · exact ⟨_, a3, fun v q => nomatch q⟩
    · exact ⟨_, e1, fun v q => by rw [d1] at q; cases q⟩
    · exact ⟨_, e2, fun v q => by rw [d2] at q; cases q⟩
  have keep : ∀ (i : Nat) (h h' : Heap), zsT x t b z TI TO i1 i2 i h → (∀ c ∈ [z, TI, TO, i1, i2], ∀ o, h.get? c = some o → h'.get? c = some o) → zsT x t b z TI TO i1 i2 i h' := fun i h h' st k => by
    obtain ⟨a1, a2, ⟨u, v, a3⟩, ⟨o1, e1, r1⟩, a5⟩ := st
    exact ⟨k z (by simp) _ a1, k TI (by simp) _ a2, ⟨u, v, k TO (by simp) _ a3⟩, ⟨o1, k i1 (by simp) _ e1, r1⟩, a5.at fun o q => k i2 (by simp) o q⟩
  refine ⟨by simp, fun i h st => all st, keep, ?_, ?_, fun A i s Q E st h => wpAny_pyIter_zip st.1 h⟩
  · intro X hP hw hK hc i pins s σ H E I hf st hg
    subst hP hw hK
    have lt : ∀ c ∈ [z, TI, TO, i1, i2], c < s.heap.objs.size := fun c hcm => Heap.lt_size (all st c hcm).choose_spec.1
    obtain ⟨a1, a2, ⟨u0, v0, a3⟩, a4, a5⟩ := st
    obtain ⟨ys, c, y, hy, hcx, hyi⟩ := hg
    obtain ⟨its, rv, pt, _⟩ := I.tuple hy
    obtain ⟨u, hu, ru⟩ := rv.get hyi
    have hh : X.A.in1.handled = none := I.ok.hd hc
    have l1 : i < x.cps.size := (Array.getElem?_eq_some_iff.mp hcx).1
    have l2 : i < its.toArray.size := by
      have := (List.getElem?_eq_some_iff.mp hu).1
      simpa using this
    refine wpAny_pyNext_zipD2_item S (draws_text hh i1 x t) (Draws.tuple hh i2 b hb its.toArray) a1 a2 a3 a4 ⟨a5, pt⟩ l1 l2 fun x1 x2 h' tk p1 p2 b1 b2 b3 b4 b5 b6 b7 => ?_
    refine ⟨_, rfl, wpAny_letOwnedTupleGo_zip (s := { s with heap := h', toks := tk }) b1 fun h2 q1 sb => ?_⟩
    obtain ⟨c', tc, hc', rfl⟩ := p1
    rw [hcx] at hc'
    cases hc'
    have hx2 : its.toArray[i]? = some u := by simpa using hu
    rw [hx2] at p2
    cases p2
    have zl := lt z (by simp)
    have hT : h2.get? s.heap.objs.size = some { cls := .type "tuple", data := .seq #[.str ⟨#[c]⟩ tc, u] } := (sb.2 _ (Nat.ne_of_gt zl)).trans b5
    have new : ObjOk X.prog X.w (upd H s.heap.objs.size (.tup [.str ⟨#[c]⟩, y])) h2 s.heap.objs.size (.tup [.str ⟨#[c]⟩, y]) :=
      ⟨by show 2 ≤ sizeLine; decide, [.str ⟨#[c]⟩ tc, u], .cons ⟨tc, rfl⟩ (.cons ru .nil), ⟨_, hT, rfl, _, rfl⟩⟩
    have I1 : Inv X pins σ (upd H s.heap.objs.size (.tup [.str ⟨#[c]⟩, y])) { s with heap := h2, toks := tk } :=
      I.turnedNew (t' := tk) (ch := [z, TI, TO, i1, i2]) (fun d o hd q => by
        obtain ⟨n1, n2, n3, n4, n5⟩ := out hd
        exact (sb.2 d n1).trans (b7 d o n1 n3 n4 n5 q)) hf (Nat.le_refl _) new
    obtain ⟨o1, g1, r1⟩ := b3
    refine ⟨.ref s.heap.objs.size, _, I1, rfl, ⟨_, c, y, rfl, I.hok.fresh (Nat.le_refl _), rfl, hcx, fun l hl => by rw [I.tuple_inj hl hy]; exact hyi⟩, ⟨q1, ?_, ⟨_, _, (sb.2 _ S.TOz).trans b2⟩, ⟨o1, (sb.2 _ S.zi1.symm).trans g1, r1⟩, b4.1.at fun o q => (sb.2 _ S.zi2.symm).trans q⟩, fun d hd => ?_⟩
    · exact (sb.2 _ S.TIz).trans (b7 _ _ S.TIz S.TITO S.TIi1 S.TIi2 a2)
    · rw [upd_ne (Nat.ne_of_lt (lt d hd))]
      exact (hf d hd).1
  · intro X hP hw hK hc i pins s σ H E I hf st hg
    subst hP hw hK
    obtain ⟨a1, a2, ⟨u0, v0, a3⟩, a4, a5⟩ := st
    obtain ⟨ys, hy, k1, k2, k3⟩ := hg
    obtain ⟨its, rv, pt, _⟩ := I.tuple hy
    have hh : X.A.in1.handled = none := I.ok.hd hc
    have l := rv.length
    have sz : its.toArray.size = ys.length := by simp [l]
    refine wpAny_pyNext_zipD2_end S (draws_text hh i1 x t) (Draws.tuple hh i2 b hb its.toArray) a1 a2 a3 a4 ⟨a5, pt⟩ k1 (by rw [sz]; exact k2) (by rw [sz]; exact k3) fun h' tk hk => ⟨rfl, I.turnedL (t' := tk) (ch := [z, TI, TO, i1, i2]) (fun d o hd q => ?_) hf⟩
    obtain ⟨n1, n2, n3, n4, n5⟩ := out hd
    exact hk d o n1 n3 n4 n5 q
theorem nat_ne {a b : Nat} (h : a < b ∨ b < a) : a ≠ b := by omega
theorem zs_sep {n b : Nat} (h : b < n) : ZipSep2 (n + 4) (n + 2) (n + 3) n (n + 1) [n] [n + 1, b] :=
  ⟨nat_ne (by omega), nat_ne (by omega), nat_ne (by omega), nat_ne (by omega), by simp, fun q => nat_ne (a := n + 4) (b := n) (by omega) (by simpa using q), fun q => nat_ne (a := n + 3) (b := n) (by omega) (by simpa using q),
    nat_ne (by omega), by simp, fun q => (List.mem_cons.mp q).elim (nat_ne (a := n + 4) (b := n + 1) (by omega)) fun q => nat_ne (a := n + 4) (b := b) (by omega) (List.mem_singleton.mp q),
    fun q => (List.mem_cons.mp q).elim (nat_ne (a := n + 3) (b := n + 1) (by omega)) fun q => nat_ne (a := n + 3) (b := b) (by omega) (List.mem_singleton.mp q),
    fun q => (List.mem_cons.mp q).elim (nat_ne (a := n) (b := n + 1) (by omega)) fun q => nat_ne (a := n) (b := b) (by omega) (List.mem_singleton.mp q), fun q => nat_ne (a := n + 1) (b := n) (by omega) (List.mem_singleton.mp q)⟩
theorem zs_le {n c : Nat} (h : c ∈ [n + 4, n + 2, n + 3, n, n + 1]) : n ≤ c := by
  simp only [List.mem_cons, List.not_mem_nil, or_false] at h
  omega
def iZipS (K : PySem.W.Frag) (ta : TA) : TI := fun σ H R => ta σ H fun vs H1 => ∃ x b ys, vs = [.str x, .ref b] ∧ SqT K H1 b ys ∧ R (ItzS K x b) H1
theorem pi_zipS {X : Cx} {e e2 : Expr} {ta : TA} {p pos tpos : Pos} {elts : List Expr} {kk : Nat} (hg : Gl X "zip") (hm : X.mg "zip" = none) (ha : PA X [e, e2] ta)
    (hs : starEach [e, e2] X.env = (false, eval e X.env) :: starEach [e2] X.env := by rfl) (hpl : (backTo pos (starEach [e2] X.env)).any (·.1) = false := by rfl) :
    PI X (.Tuple elts kk tpos) (.Call (.Name "zip" p) [e, e2] [] pos) (iZipS X.K ta) := by
  refine ⟨fun pins s σ H R I h => ?_⟩
  refine Call_ (ld_blt I hg hm PyProof.Rows.boot_zip (PyProof.Rows.callWith_type1 (thn (ha.run pos pins s σ H _ I h) fun us s1 ⟨vs, H1, I1, r1, q1⟩ => ?_) hs hpl))
  obtain ⟨x, b, ys, rfl, hy, q⟩ := q1
  cases r1 with
  | cons r rr =>
    cases rr with
    | cons r' rr =>
      cases rr
      obtain ⟨t, rfl⟩ := r
      cases r'
      obtain ⟨its, rv, pt, _⟩ := I1.tuple hy
      obtain ⟨ob, hob, _⟩ := id pt
      have hb : b < s1.heap.objs.size := Heap.lt_size hob
      refine zip_begins2 (begins_text x t) (begins_tuple b its.toArray) trivial pt fun h' b1 b2 b3 b4 b5 b6 b7 => wpAny_pyIter_zip b1 ?_
      have I2 : Inv X pins σ H1 { s1 with heap := h' } := I1.kept (t' := s1.toks) b7
      refine ⟨s1.heap.objs.size + 4, [s1.heap.objs.size + 4, s1.heap.objs.size + 2, s1.heap.objs.size + 3, s1.heap.objs.size, s1.heap.objs.size + 1], _, _, H1, rfl, I2, turn_zipS (t := t) (zs_sep hb) (nat_ne (.inl (Nat.lt_succ_of_lt hb))), ⟨b1, b2, ⟨_, _, b3⟩, ⟨_, b4, rfl, rfl⟩, ⟨_, b5, rfl, rfl⟩⟩, fun c hc => ?_, q⟩
      exact I1.fpOk (zs_le hc) (I1.hok.fresh (zs_le hc))
def zipSD : List D → Option (List D)
  | [.str x, .tup ys] => some (zipL (x.cps.toList.map fun c => .str ⟨#[c]⟩) ys)
  | _ => none
section
variable {K : PySem.W.Frag} {g : G} {W : WX} {Hf0 : Hp}
theorem yl_zipS {x : Str} {b : Addr} {ws : List V} {es : List D} (h' : SqT K Hf0 b ws) (r' : Reps K g Hf0 es ws) : Yl K g (ItzS K x b) (zipL (x.cps.toList.map fun c => .str ⟨#[c]⟩) es) Hf0 := fun i Hf H e1 e2 => by
  have hs' : SqT K H b ws := e2.t (e1.t h')
  refine ⟨fun d hd => ?_, fun q => ?_⟩
  · obtain ⟨a, y, ha, hy, rfl⟩ := zipL_get _ _ _ _ hd
    rw [List.getElem?_map] at ha
    cases c : x.cps.toList[i]? with
    | none => rw [c] at ha; cases ha
    | some k =>
      rw [c] at ha
      cases ha
      have hi : x.cps[i]? = some k := by rw [← Array.getElem?_toList]; exact c
      obtain ⟨w, hw, rw'⟩ := Reps.getD r' hy
      refine ⟨⟨ws, k, w, hs', hi, hw⟩, fun v H' hx => ?_⟩
      obtain ⟨T, k', u, rfl, hT, rfl, hk, hu⟩ := hx
      have q2 := hu ws hs'
      rw [hw] at q2
      rw [hi] at hk
      cases q2
      cases hk
      obtain ⟨w, rr⟩ := new_tup (vs := [.str ⟨#[k]⟩, w]) (ds := [_, _]) e2 hT (.cons (.str _) (.cons (rw'.mono e1) .nil))
      exact ⟨_, w, rr⟩
  · rw [zipL_len, List.length_map, Array.length_toList] at q
    have l := r'.len
    exact ⟨ws, hs', by omega, by omega, by omega⟩
theorem evi_zipS {ta : TA} {m : M (List D)} (h : EvL K g W ta m) : EvI K g W (iZipS K ta) (iArg zipSD m) :=
  fun env σ Hf H s R q => h env σ Hf H s _ (q.bnd.imp fun ds e1 Hf1 H1 _ s1 h1 vs r => by
    obtain ⟨z, hz, k⟩ := Aft.lft s1.sr h1
    have k' := k Hf1 H1 (Grow.refl s1.sr.ex)
    unfold zipSD at hz
    split at hz
    · cases hz
      cases r with
      | cons a b =>
        cases b with
        | cons b c =>
          cases c
          cases a
          cases b with
          | tup e' r' => exact ⟨_, _, _, rfl, s1.sr.ex.t e', k' _ (yl_zipS e' r')⟩
    · cases hz)
end
section
variable {X : Cx} {g : G} {W : WX} {e e2 : Expr} {ma : M (List D)} {p pos tpos : Pos} {elts : List Expr} {kk : Nat}
theorem i_zipS (h : PAM X g W [e, e2] ma) (hm : X.mg "zip" = none) (hg : Gl X "zip" := by rfl) (hs : starEach [e, e2] X.env = (false, eval e X.env) :: starEach [e2] X.env := by rfl) (hpl : (backTo pos (starEach [e2] X.env)).any (·.1) = false := by rfl) :
    PIM X g W (.Tuple elts kk tpos) (.Call (.Name "zip" p) [e, e2] [] pos) (iArg zipSD ma) := by
  obtain ⟨t, h1, h2⟩ := h
  exact ⟨_, pi_zipS hg hm h1 hs hpl, evi_zipS h2⟩
end
end DL

set_option Elab.async false
set_option linter.all false
set_option maxRecDepth 100000
set_option maxHeartbeats 1000000
namespace DL
open PySem PySem.Spec L2 PyProof.Rows L2H
/-! ### xs + ys, a new list -/
def catL : D → D → Option D
  | .lst xs, .lst ys => if small (xs.length + ys.length) = true then some (.lst (xs ++ ys)) else none
  | _, _ => none
section
variable {K : PySem.W.Frag} {g : G} {W : WX}
end
section
variable {X : Cx} {g : G} {W : WX} {a b : Expr} {ma mb : M D} {pos : Pos}
end
/-! ### what a def promises while an exception is handled, nothing raised in it -/
structure FnC (P : Program) (w : World) (K : PySem.W.Frag) (mg : Str → Option Value) (base : Heap) (CX : CXT) (k : Nat) (f : Addr) (fd : FuncData) (ps : List Str) (sp : Sp) : Prop where
  len : ∀ vs H Q E, sp vs H Q E → vs.length = ps.length
  run : ∀ (A : Around) (outer : List Env) (s : Shared) (H : Hp) (args : Args) (us : List Value) (vs : List V) (Q : VK) (E : XK) (p : Addr × Obj), RoomH k A → PinOk outer H s p → Env0 P w K mg base A outer s H → BindsTo s fd args (ps.zip us) → Vals vs us → sp vs H Q E →
    codeAny (model P w) A (.call (.ref f) args) (CR CX outer P w H s Q E) s
section
variable {P : Program} {w : World} {K : PySem.W.Frag} {mg : Str → Option Value} {base : Heap} {CX : CXT} {k : Nat} {f : Addr} {fd : FuncData} {x qual : Str} {params : Arguments} {body : List Stmt} {scope : Scope} {dvs : List V} {kws : List (Str × V)} {N ps : List Str} {sp sp' : Sp}
theorem FnC.imp (F : FnC P w K mg base CX k f fd ps sp) (h : ∀ vs H Q E, sp' vs H Q E → sp vs H Q E) : FnC P w K mg base CX k f fd ps sp' :=
  ⟨fun vs H Q E q => F.len vs H Q E (h _ _ _ _ q), fun A outer s H args us vs Q E p hr hp he hb hv hs => F.run A outer s H args us vs Q E p hr hp he hb hv (h _ _ _ _ hs)⟩
end
structure OprC (P : Program) (w : World) (K : PySem.W.Frag) (mg : Str → Option Value) (base : Heap) (g : G) (c : Nat) (m : Str) (np : Nat) (F : Fm) (k : Nat) : Prop where
  ex : ∃ f fd ps, FnC P w K mg base (L2.CX P w) k f fd ps (spM K g np F) ∧ Binds K fd ps [] ∧ PySem.W.findIn K (.ref (g.cl c)) m = some (some (.ref f)) ∧ PySem.W.isFn K (.ref f) = true
  ar : Arity np F
def rOwnC (K : PySem.W.Frag) (g : G) (cs : List Nat) (c : Nat) (F : Fm) : R2 := fun x y H Q => ∃ a dx fs, x = .ref a ∧ H a = some (.ins (g.cl c) dx fs) ∧ RightE K g cs H y ∧ SpD K g F [] [x, y] H (fun v H' => ∃ k, v = .bl k ∧ Q (.bl k) H') E0
section
variable {X : Cx} {g : G} {cs : List Nat} {c k : Nat} {F : Fm}
end
end DL

set_option Elab.async false
set_option linter.all false
set_option maxRecDepth 100000
set_option maxHeartbeats 1000000
namespace DL
open PySem PySem.Spec L2 PyProof.Rows L2H
/-! ### try: .. except x as n: return n.f == y, own things -/
def sTryE (c kc : Nat) (cs : List Nat) (i j : Nat) (F : Fm) (mb : S) : S := fun env => match mb env with
  | .ex c' d e => if c' = c then (match e[i]?, d, e[j]? with
    | some .no, .ins k ds, some (.sh y) => if k = kc ∧ okE cs y = true then (match callA F [.ins k ds, y] e with
      | .ok (.bl b) e2 => .ok (.rt (.bl b)) e2
      | _ => .bad) else .bad
    | _, _, _ => .bad) else .bad
  | r => r
/-- what the suite asks -/
def tsE (K : PySem.W.Frag) (g : G) (cs : List Nat) (kc : Nat) (F : Fm) (C : Addr) (f : Str) (i j : Nat) : Addr → Value → Option Addr → TS := fun a cls d D σ H => ∃ (dd : Addr) (fs : List (Str × V)) (v y : V), cls = .ref C ∧ d = some dd ∧ σ[i]? = some (some (.ref a)) ∧ H dd = some (.xd fs) ∧ fs.lookup f = some v ∧ σ[j]? = some (some y) ∧
  rOwnC K g cs kc F v y H D.rt
section
variable {X : Cx} {g : G} {W : WX} {B : Addr} {c kc i j j' k : Nat} {cs : List Nat} {F : Fm} {x n y : Str} {body : List Stmt} {mb : S} {np q3 q4 q5 q6 q11 pos pos' : Pos}
end
end DL

set_option Elab.async false
set_option linter.all false
set_option maxRecDepth 100000
set_option maxHeartbeats 1000000
namespace DL
open PySem L2 PyProof.Rows
/-! ### xs * k, a new list -/
def repL : D → D → Option D
  | .lst a, .int k => if -1000000 ≤ k ∧ k ≤ 1000000 ∧ a.length * k.toNat ≤ 16777216 then some (.lst (List.replicate k.toNat a).flatten) else none
  | _, _ => none
section
variable {K : PySem.W.Frag} {g : G} {W : WX}
end
section
variable {X : Cx} {g : G} {W : WX} {a b : Expr} {ma mb : M D} {pos : Pos}
end
/-! ### a, b, c, d = w, x, y, z: new own things among them; the tuple between is forgotten -/
section
variable {K : PySem.W.Frag} {g : G} {W : WX} {env : En} {σ : L2.St} {Hf H : Hp}
end
section
variable {X : Cx} {g : G} {W : WX} {m : M (List It)} {x1 x2 x3 x4 : Str} {e1 e2 e3 e4 : Expr} {p1 p2 p3 p4 pt pt2 pos : Pos} {kt k2 : Nat}
end
end DL

set_option Elab.async false
set_option linter.all false
set_option maxRecDepth 100000
set_option maxHeartbeats 1000000
namespace DL
open PySem L2 PyProof.Rows
/-! ### in, not in: as tests -/
section
variable {X : Cx} {g : G} {W : WX} {a b : Expr} {ma mb : M D} {pos p : Pos} {x : Str} {d : Addr} {kvs : List (Str × Str)}
theorem t_in (ha : PEM X g W a ma) (hb : PEM X g W b mb) (hm : behindInMarks .In b = false := by rfl) : PTM X g W (.Compare a [.In] [b] pos) (mB (mBin (inD false) ma mb)) := t_cmp op_in_seq (rv_in false) ha hb hm
theorem t_notInK (T : TabK X.K X.w d kvs) (hm : X.mg x = some (.ref d)) (ha : PEM X g W a ma) (hg : Gl X x := by rfl) (hdb : (x == ("__debug__" : Str)) = false := by decide) : PTM X g W (.Compare a [.NotIn] [.Name x p] pos) (mB (mInK kvs true ma)) := by
  obtain ⟨ta, h1, h2⟩ := ha
  obtain ⟨es, n, D⟩ := T.kd
  refine ⟨_, pt_cmpR (op_notIn_kd D) h1 (pe_glob hg hm (v := .ref d) rfl hdb) (by rfl), ev_Test fun env σ Hf H s Q h => h2 env σ Hf H s _ (h.bnd.imp fun z e1 Hf1 H1 _ s1 k v r => ?_)⟩
  cases r <;> try exact k.elim
  case str z _ =>
    have q := Aft.ret s1.sr k (.bl _) (.bl _)
    cases e : kvs.lookup z with
    | some y =>
      rw [e] at q
      obtain ⟨t, ht⟩ := T.has z y e
      exact ⟨z, _, rfl, rfl, ht, q⟩
    | none =>
      rw [e] at q
      exact ⟨z, _, rfl, rfl, T.non z e, q⟩
end
end DL

set_option Elab.async false
set_option linter.all false
set_option maxRecDepth 100000
set_option maxHeartbeats 1000000
namespace DL
open PySem PySem.Spec L2 PyProof.Rows
/-! ### try: .. except x as n: .. except y as m: .. -/
abbrev ClsH := Value × Nat × (Addr → Value → Option Addr → TS)
def wAsL (K : PySem.W.Frag) (Wz : WX) (D : Ends) : List ClsH → WX
  | [] => Wz
  | q :: r => wAs K q.1 q.2.1 q.2.2 (wAsL K Wz D r) D
inductive HdA (X : Cx) : List ExceptHandler → List ClsH → Prop
  | none : HdA X [] []
  | next {x n : Str} {c : Value} {i : Nat} {ts : Addr → Value → Option Addr → TS} {st : Stmt} {su : List Stmt} {q1 q2 : Pos} {hs : List ExceptHandler} {l : List ClsH}
      (at_ : X.N[i]? = some n) (loc : X.env.kindOf n = some .local) (nm : Names X x c)
      (run : ∀ (a : Addr) (oe : Obj) (cls : Value) (d : Option Addr) (pn : List (Addr × Obj)), Zc cls d oe → (∃ vs, oe.data = .fields vs) → PSs (X.suite a ((a, oe) :: pn)) (st :: su) (ts a cls d))
      (more : HdA X hs l) : HdA X (.ExceptHandler (some (.Name x q1)) (some n) (st :: su) q2 :: hs) ((c, i, ts) :: l)
section
variable {X : Cx} {body : List Stmt} {hd : ExceptHandler} {hds : List ExceptHandler} {l : List ClsH} {pos : Pos} {tb : WX → TS} {Wz : WX}
end
end DL

set_option Elab.async false
set_option linter.all false
set_option maxRecDepth 100000
set_option maxHeartbeats 1000000
namespace DL
open PySem PySem.Spec L2 PyProof.Rows L2H
/-! ### suites of except clauses: what they read of the exception -/
structure HasX (K : PySem.W.Frag) (g : G) (i : Nat) (a dx : Addr) (c : Nat) (d : D) (env : En) (σ : L2.St) (Hf H : Hp) : Prop where
  at_ : σ[i]? = some (some (.ref a))
  fd : ∃ fs v, H dx = some (.xd fs) ∧ fs.lookup (xfT c) = some v ∧ Rep K g Hf d v
  nf : Hf dx = none
  no : ¬ Own env σ dx
theorem HasX.step {K : PySem.W.Frag} {g : G} {i : Nat} {a dx : Addr} {c : Nat} {d : D} {env env' : En} {σ : L2.St} {Hf H Hf' H' : Hp} (h : HasX K g i a dx c d env σ Hf H) (s : Step K g env σ Hf H env' σ Hf' H') : HasX K g i a dx c d env' σ Hf' H' := by
  obtain ⟨fs, v, h1, h2, h3⟩ := h.fd
  obtain ⟨k1, k2⟩ := s.kp dx _ h1 h.nf h.no
  refine ⟨h.at_, ⟨fs, v, k1, h2, h3.mono s.f⟩, k2, fun o => ?_⟩
  rcases s.ow dx o with q | q
  · exact h.no q
  · rw [h1] at q; cases q
def EvN (K : PySem.W.Frag) (g : G) (W : WX) (i : Nat) (a dx : Addr) (c : Nat) (d : D) (te : TE) (m : M D) : Prop := ∀ env σ Hf H, SR K g env σ Hf H → HasX K g i a dx c d env σ Hf H → ∀ Q : VK, Aft K g W env σ Hf H (m env) (fun z _ Hf' H' => ∀ v, Rep K g Hf' z v → Q v H') → te σ H Q
def EvNL (K : PySem.W.Frag) (g : G) (W : WX) (i : Nat) (a dx : Addr) (c : Nat) (d : D) (ta : TA) (m : M (List D)) : Prop := ∀ env σ Hf H, SR K g env σ Hf H → HasX K g i a dx c d env σ Hf H → ∀ Q : List V → Hp → Prop, Aft K g W env σ Hf H (m env) (fun z _ Hf' H' => ∀ vs, Reps K g Hf' z vs → Q vs H') → ta σ H Q
def PEN (X : Cx) (g : G) (W : WX) (i c : Nat) (e : Expr) (m : D → M D) : Prop := ∀ (a dx : Addr) (oe : Obj) (pn : List (Addr × Obj)), Zc (.ref (g.xl c)) (some dx) oe → (∃ vs, oe.data = .fields vs) →
  ∃ te, PE (X.suite a ((a, oe) :: pn)) e te ∧ ∀ d, EvN X.K g W i a dx c d te (m d)
def PAN (X : Cx) (g : G) (W : WX) (i c : Nat) (es : List Expr) (m : D → M (List D)) : Prop := ∀ (a dx : Addr) (oe : Obj) (pn : List (Addr × Obj)), Zc (.ref (g.xl c)) (some dx) oe → (∃ vs, oe.data = .fields vs) →
  ∃ ta, PA (X.suite a ((a, oe) :: pn)) es ta ∧ ∀ d, EvNL X.K g W i a dx c d ta (m d)
def PSN (X : Cx) (g : G) (i c : Nat) (st : List Stmt) (m : D → S) : Prop := ∀ (a dx : Addr) (oe : Obj) (pn : List (Addr × Obj)), Zc (.ref (g.xl c)) (some dx) oe → (∃ vs, oe.data = .fields vs) →
  ∃ t, PSs (X.suite a ((a, oe) :: pn)) st t ∧ ∀ d env σ Hf H, SR X.K g env σ Hf H → HasX X.K g i a dx c d env σ Hf H → ∀ Z : Ends, Out X.K g WF env σ Hf H (m d env) Z → t Z σ H
/-- repr, a text -/
def rp1 (x : D) : Option D := match reprE [x] with
  | some (.str r) => some (.str r)
  | _ => none
def onlyB (r : Rs D) : Rs D := match r with
  | .ok (.bl b) e => .ok (.bl b) e
  | _ => .bad
/-- own == whose answer is a bool -/
def ownEq (kc : Nat) (cs : List Nat) (F : Fm) (x y : D) : M D := match x with
  | .ins k ds => if k = kc ∧ okE cs y = true then (fun env => onlyB (callA F [.ins k ds, y] env)) else fun _ => .bad
  | _ => fun _ => .bad
section
variable {X : Cx} {g : G} {W : WX} {B : Addr} {c i j j' k kc : Nat} {cs : List Nat} {F : Fm} {x n y : Str} {e e1 e2 e3 t : Expr} {es : List Expr} {m m1 m2 : D → M D} {ms : D → M (List D)} {m0 : M D} {mt : M Bool} {q2 q3 q4 q5 q6 q10 q11 pos p1 apos cpos : Pos}
end
end DL

set_option Elab.async false
set_option linter.all false
set_option maxRecDepth 100000
set_option maxHeartbeats 1000000
namespace DL
open PySem PySem.Spec L2 PyProof.Rows L2H
section
variable {X : Cx} {g : G} {W : WX} {B : Addr} {c i j k kc : Nat} {x n y : Str} {e : Expr} {m : D → M D} {p1 apos cpos pos : Pos}
end
/-! ### try, with named clauses, mirrored -/
/-- of the class c: the slot, the suite -/
def selH : List (Nat × Nat × (D → S)) → Nat → Option (Nat × (D → S))
  | [], _ => none
  | q :: r, c => if c = q.1 then some q.2 else selH r c
def isNo : Option Sl → Bool
  | some .no => true
  | _ => false
def endH (i : Nat) (r : Rs Ctl) : Rs Ctl := match r with
  | .ok .nx e => if isNo e[i]? = true then .ok .nx e else .bad
  | .ok (.rt d) e => .ok (.rt d) e
  | _ => .bad
def sTryL (l : List (Nat × Nat × (D → S))) (mb : S) : S := fun env => match mb env with
  | .ex c d e => (match selH l c with
    | some q => if isNo e[q.1]? = true then endH q.1 (q.2 d e) else .bad
    | none => .bad)
  | r => r
def OffL (K : PySem.W.Frag) (g : G) (c : Nat) : List (Nat × Nat × (D → S)) → Prop
  | [] => True
  | q :: r => PySem.W.exmOne K (.ref (g.xl q.1)) (.ref (g.xl c)) = some false ∧ OffL K g c r
theorem OffL.at_ {K : PySem.W.Frag} {g : G} {c0 : Nat} : ∀ {l : List (Nat × Nat × (D → S))} {c : Nat} {p : Nat × (D → S)}, OffL K g c0 l → selH l c = some p → PySem.W.exmOne K (.ref (g.xl c)) (.ref (g.xl c0)) = some false
  | [], _, _, _, h => by cases h
  | q :: r, c, p, h, hs => by
    unfold selH at hs
    by_cases e : c = q.1
    · rw [e]; exact h.1
    · rw [if_neg e] at hs; exact OffL.at_ h.2 hs
inductive HdN (X : Cx) (g : G) : List ExceptHandler → List (Nat × Nat × (D → S)) → Prop
  | nil : HdN X g [] []
  | cons {x n : Str} {c i : Nat} {B : Addr} {st : Stmt} {su : List Stmt} {sm : D → S} {np pos' : Pos} {hs : List ExceptHandler} {l : List (Nat × Nat × (D → S))} (b : ExB X.prog X.w X.K X.mg X.base g x c B) (su_ : PSN X g i c (st :: su) sm) (off : OffL X.K g c l)
      (hi : X.N[i]? = some n) (hln : X.env.kindOf n = some .local) (hg : Gl X x) (hdb : (x == ("__debug__" : Str)) = false) (more : HdN X g hs l) : HdN X g (.ExceptHandler (some (.Name x np)) (some n) (st :: su) pos' :: hs) ((c, i, sm) :: l)
/-- what a clause asks -/
def tsN (K : PySem.W.Frag) (g : G) (i c : Nat) (sm : D → S) : Addr → Value → Option Addr → TS := fun a cls dd Z σ H => ∃ dx d env Hf, cls = .ref (g.xl c) ∧ dd = some dx ∧ SR K g env σ Hf H ∧ HasX K g i a dx c d env σ Hf H ∧ Out K g WF env σ Hf H (sm d env) Z
def clN (K : PySem.W.Frag) (g : G) (q : Nat × Nat × (D → S)) : ClsH := (.ref (g.xl q.1), q.2.1, tsN K g q.2.1 q.1 q.2.2)
theorem HdN.a {X : Cx} {g : G} : ∀ {hs : List ExceptHandler} {l : List (Nat × Nat × (D → S))}, HdN X g hs l → HdA X hs (l.map (clN X.K g))
  | _, _, .nil => .none
  | _, _, .cons b su off hi hln hg hdb more => .next hi hln ⟨hg, hdb, .inl b.gl⟩ (fun a oe cls dd pn hz hf => ⟨fun pins s σ H Z I h => by
      obtain ⟨dx, d, env, Hf, rfl, rfl, sr, hx, o⟩ := h
      obtain ⟨t, h1, h2⟩ := su a dx oe pn hz hf
      exact h1.run pins s σ H Z I (h2 d env σ Hf H sr hx Z o)⟩) more.a
section
variable {K : PySem.W.Frag} {g : G} {W : WX} {env e : En} {σ σ' : L2.St} {Hf H Hf' H' : Hp} {i : Nat}
end
section
variable {X : Cx} {g : G} {W : WX} {body : List Stmt} {mb : S} {hd : ExceptHandler} {hds : List ExceptHandler} {l : List (Nat × Nat × (D → S))} {pos : Pos}
end
end DL

set_option Elab.async false
set_option linter.all false
set_option maxRecDepth 100000
set_option maxHeartbeats 1000000
namespace DL
open PySem PySem.Spec L2 PyProof.Rows L2H
end DL

set_option Elab.async false
set_option linter.all false
set_option maxRecDepth 100000
set_option maxHeartbeats 1000000
namespace DL
open PySem PySem.Spec L2 PyProof.Rows L2H
section
variable {X : Cx} {g : G} {W : WX} {j k c np : Nat} {L : List (Nat × Fm)} {F : Fm} {dfl : List D} {x m : Str} {a b e : Expr} {es : List Expr} {ma mb : M D} {ms : M (List D)} {p1 pos apos : Pos} {pl : Sem Bool}
/-- C.m(..), a classmethod, its exceptions to the place -/
def tCmeS (C : Addr) (sp : Sp) (W : WX) (t : TA) : TE := fun σ H Q => t σ H fun vs H2 => sp (.ref C :: vs) H2 Q (WE W σ)
end
end DL

set_option Elab.async false
set_option linter.all false
set_option maxRecDepth 100000
set_option maxHeartbeats 1000000
namespace DL
open PySem PySem.Spec L2 PyProof.Rows
/-! ### dicts: displays with computed values, readings -/
def lookK : List Key → List D → Key → Option D
  | k :: ks, d :: ds, x => if k = x then some d else lookK ks ds x
  | _, _, _ => none
def keyOf : D → Option Key
  | .int i => some (.inl i)
  | .str z => some (.inr z)
  | _ => none
def dgetD : D → D → Option D
  | .dic ks ds, y => (keyOf y).bind fun k => lookK ks ds k
  | _, _ => none
def dinD (neg : Bool) : D → D → Option D
  | y, .dic ks ds => if ks.length = ds.length then (keyOf y).map fun k => .bl ((lookK ks ds k).isSome != neg) else none
  | _, _ => none
section
variable {K : PySem.W.Frag} {g : G} {W : WX} {H : Hp}
theorem look_some : ∀ {ks : List Key} {ds : List D} {vs : List V} {k : Key} {d : D}, Reps K g H ds vs → lookK ks ds k = some d → ∃ v, valV (ks.zip vs) k = some v ∧ Rep K g H d v
  | [], _, _, _, _, _, h => by simp [lookK] at h
  | _ :: _, _, _, _, _, .nil, h => by simp [lookK] at h
  | x :: ks, _, _, k, d, .cons (v := v) r rs, h => by
    unfold lookK at h
    by_cases c : x = k
    · rw [if_pos c] at h
      cases h
      exact ⟨v, valV_pos (p := (x, v)) c, r⟩
    · rw [if_neg c] at h
      obtain ⟨w, h1, h2⟩ := look_some rs h
      exact ⟨w, (valV_neg (p := (x, v)) c).trans h1, h2⟩
theorem look_none : ∀ {ks : List Key} {ds : List D} {vs : List V} {k : Key}, Reps K g H ds vs → ks.length = ds.length → lookK ks ds k = none → valV (ks.zip vs) k = none
  | [], _, _, _, _, _, _ => by simp [valV]
  | _ :: _, _, _, _, .nil, l, _ => by simp at l
  | x :: ks, _, _, k, .cons (v := v) r rs, l, h => by
    unfold lookK at h
    by_cases c : x = k
    · rw [if_pos c] at h; cases h
    · rw [if_neg c] at h
      exact (valV_neg (p := (x, v)) c).trans (look_none rs (by simpa using l) h)
theorem key_rep {d : D} {v : V} {k : Key} (r : Rep K g H d v) (h : keyOf d = some k) : v = kV k := by
  cases r <;> first | (cases h; rfl) | (cases h; done)
end
section
variable {X : Cx} {g : G} {W : WX} {j : Nat} {a b e : Expr} {ma mb : M D} {pos p2 : Pos}
theorem din_core {K : PySem.W.Frag} {g : G} {W : WX} {env : En} {σ : L2.St} {Hf H : Hp} {neg : Bool} {x y : D} {v w : V} {Q : VK} (s : SR K g env σ Hf H) (r1 : Rep K g Hf y v) (r2 : Rep K g Hf x w) (q : Aft K g W env σ Hf H (lft (dinD neg y x) env) fun z _ Hf' H' => ∀ v, Rep K g Hf' z v → Q v H') :
    ∃ a o, w = .ref a ∧ DGet H a v o ∧ Q (.bl (o.isSome != neg)) H := by
  obtain ⟨z, hz, k⟩ := Aft.lft s q
  cases r2 <;> try (unfold dinD at hz; cases hz; done)
  case dic hd hr' hl =>
    rename_i ks ds vs
    have hz' : (if ks.length = ds.length then (keyOf y).map fun k => D.bl ((lookK ks ds k).isSome != neg) else none) = some z := hz
    rw [if_pos hl] at hz'
    cases hk : keyOf y with
    | none => rw [hk] at hz'; cases hz'
    | some kk =>
      rw [hk] at hz'
      cases hz'
      cases hq : lookK ks ds kk with
      | none =>
        dsimp only at k
        rw [hq] at k
        exact ⟨_, none, rfl, .inl ⟨_, kk, s.ex.rd hd, key_rep r1 hk, (look_none hr' hl hq).symm⟩, k Hf H (Grow.refl s.ex) _ (.bl _)⟩
      | some d =>
        dsimp only at k
        rw [hq] at k
        obtain ⟨u, h5, h6⟩ := look_some hr' hq
        exact ⟨_, some u, rfl, .inl ⟨_, kk, s.ex.rd hd, key_rep r1 hk, h5.symm⟩, k Hf H (Grow.refl s.ex) _ (.bl _)⟩
theorem c_din (hr : Room j X.A) (ha : PEM X g W a ma) (hb : PEM X g W b mb) : ∃ t, PC X .In a b t ∧ EvM X.K g W t (bnd ma fun x => bnd mb fun y => lft (dinD false x y)) := by
  obtain ⟨ta, h1, h2⟩ := ha
  obtain ⟨tb, h3, h4⟩ := hb
  refine ⟨_, pc_din (by have := hr.un; omega) h1 h3, fun env σ Hf H s Q h => h2 env σ Hf H s _ (h.bnd.imp fun x e1 Hf1 H1 _ s1 q1 v r1 => h4 e1 σ Hf1 H1 s1.sr _ (q1.bnd.imp fun y e2 Hf2 H2 _ s2 q2 w r2 => ?_))⟩
  obtain ⟨p, o, rfl, hd, hq⟩ := din_core s2.sr (r1.mono s2.f) r2 q2
  exact ⟨p, o, rfl, hd, by simpa using hq⟩
theorem c_dnin (hr : Room j X.A) (ha : PEM X g W a ma) (hb : PEM X g W b mb) : ∃ t, PC X .NotIn a b t ∧ EvM X.K g W t (bnd ma fun x => bnd mb fun y => lft (dinD true x y)) := by
  obtain ⟨ta, h1, h2⟩ := ha
  obtain ⟨tb, h3, h4⟩ := hb
  refine ⟨_, pc_dnotin (by have := hr.un; omega) h1 h3, fun env σ Hf H s Q h => h2 env σ Hf H s _ (h.bnd.imp fun x e1 Hf1 H1 _ s1 q1 v r1 => h4 e1 σ Hf1 H1 s1.sr _ (q1.bnd.imp fun y e2 Hf2 H2 _ s2 q2 w r2 => ?_))⟩
  obtain ⟨p, o, rfl, hd, hq⟩ := din_core s2.sr (r1.mono s2.f) r2 q2
  refine ⟨p, o, rfl, hd, ?_⟩
  cases o <;> exact hq
theorem t_din (hr : Room j X.A) (ha : PEM X g W a ma) (hb : PEM X g W b mb) (hm : behindInMarks .In b = false := by rfl) : PTM X g W (.Compare a [.In] [b] pos) (mB (mBin (dinD false) ma mb)) := by
  obtain ⟨t, h1, h2⟩ := c_din hr ha hb
  exact ⟨_, pt_cmp h1 hm, ev_B h2⟩
theorem t_dnin (hr : Room j X.A) (ha : PEM X g W a ma) (hb : PEM X g W b mb) (hm : behindInMarks .NotIn b = false := by rfl) : PTM X g W (.Compare a [.NotIn] [b] pos) (mB (mBin (dinD true) ma mb)) := by
  obtain ⟨t, h1, h2⟩ := c_dnin hr ha hb
  exact ⟨_, pt_cmp h1 hm, ev_B h2⟩
/-! is, is not: bools -/
def isBD (neg : Bool) : D → D → Option D
  | .bl x, .bl y => some (.bl (decide (x = y) != neg))
  | _, _ => none
end
end DL

set_option Elab.async false
set_option linter.all false
set_option maxRecDepth 100000
set_option maxHeartbeats 1000000
namespace DL
open PySem PySem.Spec L2 PyProof.Rows
/-! ### displays of dicts with computed values, kept for oneself -/
theorem putK_new {kvs : List (Key × V)} {k : Key} {v : V} (h : ∀ p ∈ kvs, p.1 ≠ k) : putK kvs k v = kvs ++ [(k, v)] := by
  unfold putK
  rw [if_neg]
  intro z
  obtain ⟨p, hp, e⟩ := List.any_eq_true.mp z
  exact h p hp (of_decide_eq_true e)
def freshK (ks more : List Key) : Bool := match more with
  | [] => true
  | k :: r => (!ks.any fun x => decide (x = k)) && freshK (ks ++ [k]) r
theorem mergeK_new : ∀ (more kvs : List (Key × V)), freshK (kvs.map (·.1)) (more.map (·.1)) = true → mergeK kvs more = kvs ++ more
  | [], kvs, _ => by simp [mergeK]
  | p :: r, kvs, h => by
    rw [List.map_cons] at h
    unfold freshK at h
    obtain ⟨h1, h2⟩ := Bool.and_eq_true_iff.mp h
    have hn : ∀ q ∈ kvs, q.1 ≠ p.1 := fun q hq e => by
      rw [Bool.not_eq_true'] at h1
      have : ((kvs.map (·.1)).any fun x => decide (x = p.1)) = true := List.any_eq_true.mpr ⟨q.1, List.mem_map_of_mem hq, decide_eq_true e⟩
      rw [this] at h1
      cases h1
    show mergeK (putK kvs p.1 p.2) r = _
    rw [putK_new hn, mergeK_new r _ (by rw [List.map_append]; exact h2), List.append_assoc]
    rfl
def EvP (K : PySem.W.Frag) (g : G) (W : WX) (ks : List Key) (trs : List (TE × TE)) (m : M (List D)) : Prop := ∀ env σ Hf H, SR K g env σ Hf H → ∀ Q : List (V × V) → Hp → Prop,
  Aft K g W env σ Hf H (m env) (fun ds _ Hf' H' => ∀ vs, Reps K g Hf' ds vs → Q ((ks.zip vs).map fun kv => (kV kv.1, kv.2)) H') → tPairs trs σ H Q
structure PDV (X : Cx) (g : G) (W : WX) (pos : Pos) (keys : List (Option Expr)) (values : List Expr) (ks : List Key) (m : M (List D)) : Prop where
  ex : ∃ trs, PPs X pos keys values trs ∧ EvP X.K g W ks trs m
  le : ks.length = keys.length
  lv : keys.length = values.length
section
variable {X : Cx} {g : G} {W : WX} {pos p1 : Pos} {keys : List (Option Expr)} {values : List Expr} {ks : List Key} {m : M (List D)} {j1 : Nat} {ev : Expr} {mv : M D}
theorem pv_nil : PDV X g W pos [] [] [] mNil := ⟨⟨[], pps_nil, fun env σ Hf H s Q h => Aft.ret s h [] .nil⟩, rfl, rfl⟩
theorem pv_of {ek : Expr} {k : Key} (hk : PE X ek (tC (kV k))) (hv : PEM X g W ev mv) (h : PDV X g W pos keys values ks m) : PDV X g W pos (some ek :: keys) (ev :: values) (k :: ks) (mCons mv m) := by
  obtain ⟨trs, h1, h2⟩ := h.ex
  obtain ⟨tv, h3, h4⟩ := hv
  refine ⟨⟨_, pps_cons hk h3 h1, fun env σ Hf H s Q q => ?_⟩, by simp [h.le], by simp [h.lv]⟩
  exact h4 env σ Hf H s _ (q.bnd.imp fun x e1 Hf1 H1 _ s1 q1 v r1 => h2 e1 σ Hf1 H1 s1.sr _ (q1.bnd.imp fun ds e2 Hf2 H2 _ s2 q2 vs r2 => Aft.ret s2.sr q2 (v :: vs) (.cons (r1.mono s2.f) r2)))
theorem pv_s {k : Str} (hv : PEM X g W ev mv) (h : PDV X g W pos keys values ks m) : PDV X g W pos (some (.Constant (.str k) j1 p1) :: keys) (ev :: values) (.inr k :: ks) (mCons mv m) := pv_of (k := .inr k) pe_str hv h
theorem Aft.up {K : PySem.W.Frag} {α : Type} {env : En} {σ : L2.St} {Hf H Hf1 H1 : Hp} {r : Rs α} {P : α → En → Hp → Hp → Prop} (s1 : Step K g env σ Hf H env σ Hf1 H1) (h : Aft K g W env σ Hf H r P) : Aft K g W env σ Hf1 H1 r P := by
  cases r with
  | ok a e => exact fun Hf' H' s => h Hf' H' (s1.trans s)
  | ex c d e => exact XGot.after s1 h
  | bad => exact h
def mDic (ks : List Key) (m : M (List D)) : M D := bnd m fun ds => lft (if ds.length = ks.length then some (.dic ks ds) else none)
theorem f_disp (h : PDV X g W pos keys values ks m) (hall : keys.all (·.isSome) = true := by rfl) (h0 : keys ≠ [] := by exact List.cons_ne_nil _ _) (h15 : keys.length ≤ 15 := by decide) (hm : freshK [] ks = true := by rfl) :
    PEF X g W (.Dict keys values pos) (mDic ks m) := by
  obtain ⟨trs, h1, h2⟩ := h.ex
  refine ⟨_, pe_disp h1 hall h.lv h0 h15, fun env σ Hf H s Q q => ?_⟩
  intro p hp
  have s0 : Step X.K g env σ Hf H env σ Hf (upd H p (.dK [])) := (own_new s.ex hp).step s
  refine h2 env σ Hf _ s0.sr _ ((q.frame.up s0).imp fun ds e2 Hf2 H2 _ s2 q2 vs r2 => ?_)
  have hfp : Hf p = none := s.ex.back hp
  have npo : ¬ Own env σ p := fun o => by
    obtain ⟨i, x, d, k1, k2, k3⟩ := o
    obtain ⟨p', u, e1, e3, _⟩ := s.at_ k1 k2
    rw [k3] at e1
    cases e1
    rw [hp] at e3
    cases e3
  obtain ⟨k1, k2⟩ := s2.kp p _ upd_same hfp npo
  have st := s0.trans s2
  have q3 := q2 st
  unfold DL.lft at q3
  by_cases hl : ds.length = ks.length
  case neg =>
    rw [if_neg hl] at q3
    exact q3.elim
  rw [if_pos hl] at q3
  have lv : vs.length = ks.length := by rw [← r2.len]; exact hl
  have hk1 : (ks.zip vs).map (·.1) = ks := List.map_fst_zip (Nat.le_of_eq lv.symm)
  refine ⟨k1, ks.zip vs, rfl, by rw [List.length_zip, lv, Nat.min_self, h.le]; exact h15, ?_⟩
  rw [mergeK_new _ _ (by rw [hk1]; exact hm), List.nil_append]
  have no2 : ¬ Own e2 σ p := fun o => by
    rcases s2.ow p o with w | w
    · exact npo w
    · rw [upd_same] at w; cases w
  exact q3 Hf2 _ (step_out (u' := .dK (ks.zip vs)) st hp k2 no2) p ⟨⟨_, upd_same, .dic r2 hl.symm⟩, k2, no2, hp⟩
end
end DL

set_option Elab.async false
set_option linter.all false
set_option maxRecDepth 100000
set_option maxHeartbeats 1000000
namespace DL
open PySem PySem.Spec L2 PyProof.Rows
/-! ### d.update(e), own d -/
def rDUpd : V → List V → Hp → VK → Prop := fun x vs H Q => ∃ (a b : Addr) (kvs more : List (Key × V)), x = .ref a ∧ vs = [.ref b] ∧ a ≠ b ∧ H a = some (.dK kvs) ∧ Rd H b (.dK more) ∧ kvs.length + more.length ≤ sizeLine ∧ Q .non (upd H a (.dK (mergeK kvs more)))
theorem mt_upd {X : Cx} : MtR X "dict.update" rDUpd := by
  intro pins s σ H x vs v us Q I rx rv h
  obtain ⟨a, b, kvs, more, rfl, rfl, ne, e1, e2, hz, q⟩ := h
  cases (show v = Value.ref a from rx)
  obtain ⟨u, rfl, ru⟩ := rv.one
  cases (show u = Value.ref b from ru)
  obtain ⟨z1, hd1, vs1, rel1, dd1⟩ := dk_of I.hok e1
  obtain ⟨z2, hd2, vs2, rel2, dd2⟩ := dk_rd I.hok e2
  refine call_meetsIn PySem.F.slot_dict_update dd1.typeIs PySem.F.entry_dict_update (PySem.F.args_dict_update_2 _ _) (meets_dict_update (mixKind X.prog X.w) a b ne hd2) ⟨vs1, vs2, dd1, dd2, by rw [← rel1.length, ← rel2.length]; exact hz, fun h' d1 _ hs => ?_⟩
  have he : ∃ q, h'.get? a = some q := let ⟨q, _, _, hq, _⟩ := d1; ⟨q, hq⟩
  exact ⟨.non, _, d_write (t' := s.toks) I (by rw [e1]; exact True.intro) hs he (dk_new (Nat.le_trans (length_mergeK more kvs) hz) hd1 (rel2.merge rel1) d1), rfl, q⟩
def isDic : D → Bool
  | .dic _ _ => true
  | _ => false
def sUpd (i : Nat) (m : M D) : S := bnd (own i) fun d0 => if isDic d0 = true then bnd m fun z => bnd (own i) fun d => match d, z with
  | .dic ks ds, .dic ks2 ds2 => if ks2.length = ds2.length ∧ freshK ks ks2 = true ∧ small (ds.length + ds2.length) = true then (fun env => .ok .nx (mdf i (.dic (ks ++ ks2) (ds ++ ds2)) env)) else (fun _ => .bad)
  | _, _ => fun _ => .bad else (fun _ => .bad)
def sClr (i : Nat) : S := bnd (own i) fun d => if isLst d = true then (fun env => .ok .nx (mdf i (.lst []) env)) else (fun _ => .bad)
section
variable {K : PySem.W.Frag} {g : G} {W : WX} {env env1 env' : En} {σ σ1 σ' : L2.St} {Hf H Hf1 H1 Hf' H' : Hp}
theorem rd_some {h : Hp} {a : Addr} {u : HO} (r : Rd h a u) : h a ≠ none := by
  rcases r with r | ⟨o, r⟩ <;> rw [r] <;> exact fun z => nomatch z
theorem ev_upd {i : Nat} {te : TE} {m : M D} (he : EvM K g W te m) : EvS K g W (tDrop (tBM K "dict" rDUpd (tVar i) (tCons te tNil))) (sUpd i m) :=
  fun env σ Hf H s Z h => by
    obtain ⟨x, d, hx, mx, h1⟩ := own_okS s h
    obtain ⟨p, u, hp, hu, ru⟩ := s.mut_at hx mx
    by_cases c : isDic d = true
    case neg => rw [if_neg c] at h1; exact h1.elim
    rw [if_pos c] at h1
    have tyd : ∃ ys, H p = some (.dK ys) := by
      cases ru <;> first | exact ⟨_, hu⟩ | (cases c; done)
    obtain ⟨ys, hys⟩ := tyd
    refine ⟨_, hp, .inr (.inr (.inl ⟨rfl, .inl ⟨ys, hys⟩⟩)), he env σ Hf H s _ (h1.bnd.imp fun z e1 Hf1 H1 _ s1 h2 v rv => ?_)⟩
    obtain ⟨x1, d1, hx1, mx1, h3⟩ := own_okS s1.sr h2
    obtain ⟨p1, u1, hp1, hu1, hn1, ru1⟩ := s1.sr.at_ hx1 mx1
    rw [hp] at hp1
    cases hp1
    cases ru1 with
    | @dic ks ds vs r hl =>
      cases rv <;> try exact h3.elim
      case dic b ks2 ds2 ws hb rb hl2 _ =>
        dsimp only at h3
        by_cases q : ks2.length = ds2.length ∧ freshK ks ks2 = true ∧ small (ds.length + ds2.length) = true
        · rw [if_pos q] at h3
          obtain ⟨q1, q2, q3⟩ := q
          have lv : ks.length = vs.length := hl.trans r.len
          have lw : ks2.length = ws.length := hl2.trans rb.len
          have k1 : (ks.zip vs).map (·.1) = ks := List.map_fst_zip (Nat.le_of_eq lv)
          have k2 : (ks2.zip ws).map (·.1) = ks2 := List.map_fst_zip (Nat.le_of_eq lw)
          refine ⟨p, b, ks.zip vs, ks2.zip ws, rfl, rfl, fun z => ?_, hu1, s1.sr.ex.rd hb, ?_, ?_⟩
          · subst z
            exact rd_some hb hn1
          · rw [List.length_zip, List.length_zip, ← lv, ← lw, Nat.min_self, Nat.min_self, hl, hl2]
            exact small_le q3
          · rw [mergeK_new _ _ (by rw [k1, k2]; exact q2), ← List.zip_append lv]
            exact h3 σ Hf1 _ (step_mut s1.sr hx1 mx1 hp (.dic (r.append rb) (by rw [List.length_append, List.length_append, hl, hl2])))
        · rw [if_neg q] at h3
          exact h3.elim
    | _ => exact h3.elim
end
section
variable {X : Cx} {g : G} {W : WX} {x : Str} {p1 apos cpos pos : Pos} {e : Expr} {m : M D}
theorem s_upd (i : Nat) (ha : PEM X g W e m) (hN : X.N[i]? = some x := by rfl) (hv : Vis X.env.scope x := by first | exact Or.inl rfl | exact Or.inr (Or.inl rfl) | exact Or.inr (Or.inr rfl)) (hd : (x == ("__debug__" : Str)) = false := by decide) (hcd : (x == ("__classdict__" : Str)) = false := by decide)
    (hbase : attributeBase (.Name x p1) "update" X.env (eval (.Name x p1) X.env) = eval (.Name x p1) X.env := by rfl)
    (hfew : ((backTo cpos (starEach (e :: []) X.env)).all (fun x => !x.1) && (backToKw cpos (keywordEach [] X.env)).all (fun x => x.1.isSome)
      && decide ((e :: []).length + ([] : List Keyword).length + (if ([] : List Keyword).isEmpty then 0 else 1) < 30)) = true := by rfl)
    (hline : (apos.endLine == cpos.line) = true := by rfl) (hs : starEach (e :: []) X.env = (false, eval e X.env) :: starEach [] X.env := by rfl) (hplain : (backTo cpos (starEach [] X.env)).any (·.1) = false := by rfl)
    (hsw : swapsWith (.Call (.Attribute (.Name x p1) "update" apos) [e] [] cpos) none pos.line X.env = pure false := by rfl) : PSM X g W (.Expr (.Call (.Attribute (.Name x p1) "update" apos) [e] [] cpos) pos) (sUpd i m) := by
  obtain ⟨t, h1, h2⟩ := ha
  exact ⟨_, ps_expr (pe_bm PySem.F.plainAttrs_dict PySem.F.slot_dict_update PySem.F.type_dict_update mt_upd (pe_var hN hv hd hcd) (pa_cons h1 pa_nil hs) hbase hfew hline hs hplain) hsw, ev_upd h2⟩
end
end DL

set_option Elab.async false
set_option linter.all false
set_option maxRecDepth 100000
set_option maxHeartbeats 1000000
namespace DL
open PySem PySem.Spec L2 PyProof.Rows
/-! ### enumerate(t), t a tuple -/
def IteT (K : PySem.W.Frag) (b : Addr) : L2.It :=
  ⟨fun i H => ∃ (ys : List V) (y : V), SqT K H b ys ∧ ys[i]? = some y, fun i H v H' => ∃ T y, v = .ref T ∧ H T = none ∧ H' = upd H T (.tup [.int (i : Nat), y]) ∧ ∀ ys, SqT K H b ys → ys[i]? = some y,
    fun i H => ∃ ys : List V, SqT K H b ys ∧ i = ys.length⟩
def esT (b e it : Addr) : Nat → Heap → Prop := fun i h => (∃ old, IsEnum h e it ((i : Nat) : Int) old) ∧ h.IsTupleIter it b i
def iEnumT (K : PySem.W.Frag) (ta : TA) : TI := fun σ H R => ta σ H fun vs H1 => ∃ b ys, vs = [.ref b] ∧ SqT K H1 b ys ∧ R (IteT K b) H1
def enuTD : List D → Option (List D)
  | [.tup xs] => some (enuL 0 xs)
  | _ => none
section
variable {K : PySem.W.Frag} {g : G} {W : WX} {Hf0 : Hp}
end
end DL

set_option Elab.async false
set_option linter.all false
set_option maxRecDepth 100000
set_option maxHeartbeats 1000000
namespace DL
open PySem L2
/-! a field of an own thing as a target among others -/
def gFld (K : PySem.W.Frag) (ta : TE) (f : Str) : TG := fun y σ H Q => ta σ H fun x H2 => ∃ a C dx fs, x = .ref a ∧ H2 a = some (.ins C dx fs) ∧ Cls K C ∧ NoAttr K C f ∧ fs.length < 1000 ∧ Q σ (upd H2 a (.ins C dx (putF f y fs)))
section
variable {X : Cx} {o : Expr} {ta : TE} {f : Str} {pos : Pos}
end
def tgFld (f : Str) (i : Nat) : Tg := fun z env => match env[i]?.bind Sl.mut with
  | some d => (putD f z d).map fun d' => mdf i d' env
  | none => none
section
variable {K : PySem.W.Frag} {g : G}
end
section
variable {X : Cx} {g : G}
end
end DL

set_option Elab.async false
set_option linter.all false
set_option maxRecDepth 100000
set_option maxHeartbeats 400000
namespace DL
open PySem PySem.Spec L2 PyProof.Rows
/-! the head of larger tops: every object by its number, the run's equation in parts -/
end DL

set_option Elab.async false
set_option linter.all false
set_option maxRecDepth 100000
set_option maxHeartbeats 1000000
namespace DL
open PySem L2
/-! x in [..]: data of any depth in a list -/
def inLD (neg : Bool) (x y : D) : Option D := match toPD x, toPD y with
  | some d, some (.list ds) => if SeqAt.shaped d = true ∧ SeqAt.shaped (.list ds) = true then some (.bl (if neg then !ds.any fun z => PyData.eqv z d else ds.any fun z => PyData.eqv z d)) else none
  | _, _ => none
section
variable {K : PySem.W.Frag} {g : G}
end
section
variable {X : Cx} {g : G} {W : WX} {a b : Expr} {ma mb : M D} {pos : Pos} {k : Nat}
end
end DL

set_option Elab.async false
set_option linter.all false
set_option maxRecDepth 100000
set_option maxHeartbeats 400000
namespace DL
open PySem L2 PyProof.Rows
/-! ### min of lists and tuples of ints -/
def min1A : List D → Option D
  | [.lst xs] => min1D [.lst xs]
  | [.tup xs] => (asInts xs).bind fun ns => if ns = [] then none else some (.int (minL ns))
  | _ => none
def rMinT (K : PySem.W.Frag) : List V → Hp → VK → Prop := fun vs H Q => ∃ (a : Addr) (n : Int) (ns : List Int), vs = [V.ref a] ∧ SqT K H a ((n :: ns).map V.int) ∧ Q (.int (minL (n :: ns))) H
section
variable {X : Cx} {j : Nat}
end
end DL

set_option Elab.async false
set_option linter.all false
set_option maxRecDepth 100000
set_option maxHeartbeats 400000
namespace GQ
open PySem PySem.SeqAt
open AutoSeq1 (wpAny_loadPart')
open MeetsSeq MeetsSeq2 MeetsSeq3 SeqRoads2
section
variable {prog : Program} {w : World} {A : Around} {R : Result → Shared → Prop}
end
section
variable {prog : Program} {w : World} {A : Around} {E : Value → Shared → Prop} {s : Shared}
end
end GQ
namespace L2
open PySem PySem.Spec PyProof.Rows
def RcN (X : Cx) (n : Nat) (D : Eqv) : Prop :=
  ∀ (A : Around) (pins : List (Addr × Obj)) (s : Shared) (σ : St) (H : Hp) (x y : V) (u v : Value), Sub X n A → Inv X pins σ H s → RelV x u → RelV y v → D x y H →
    wpAny (model X.prog X.w) A (richCompare .NotEq u v) (fun r s' => r = .bool false ∧ ∃ H', Inv X pins σ H' s' ∧ Ext H H') X.xe s
/-- x != y, x == y as expressions, told whole -/
def rEqB (b : Bool) (D : Eqv) : R2 := fun x y H Q => D x y H ∧ ∀ H', Ext H H' → Q (.bl b) H'
end L2
namespace DL
open PySem L2 PyProof.Rows
/-! ### != of lists of own things that are equal -/
def eqO1 (L : List (Nat × Fm)) (x y : D) : Bool := match x, y with
  | .ins c _, .ins c' _ => c == c' && (match cand L x with
    | some F => (match callA F [x, y] [] with
      | .ok (.bl true) _ => true
      | _ => false)
    | none => false)
  | _, _ => false
def eqOs (L : List (Nat × Fm)) : List D → List D → Bool
  | [], [] => true
  | x :: xs, y :: ys => eqO1 L x y && eqOs L xs ys
  | _, _ => false
def neOD (L : List (Nat × Fm)) (x y : D) : Option D := match neD x y with
  | some z => some z
  | none => (match x, y with
    | .lst xs, .lst ys => if eqOs L xs ys = true then some (.bl false) else none
    | _, _ => none)
def DOwn (K : PySem.W.Frag) (g : G) (L : List (Nat × Fm)) : Eqv := fun x y H => ∃ p ∈ L, ∃ Hf fs gs e, Ex Hf H ∧ Rep K g Hf (.ins p.1 fs) x ∧ Rep K g Hf (.ins p.1 gs) y ∧ callA p.2 [.ins p.1 fs, .ins p.1 gs] [] = .ok (.bl true) e
section
variable {X : Cx} {g : G} {E : XK} {j : Nat} {L : List (Nat × Fm)} {K : PySem.W.Frag}
end
section
variable {X : Cx} {g : G} {E : XK} {j np : Nat} {cs : List Nat} {L : List (Nat × Fm)} {a b e : Expr} {es : List Expr} {ma mb : M D} {pos p : Pos}
end
end DL

set_option Elab.async false
set_option linter.all false
set_option maxRecDepth 100000
set_option maxHeartbeats 400000
namespace DL
open PySem L2 PyProof.Rows
/-! ### xs.index(k), xs a list of ints with k in it -/
def idxI (k : Int) : List Int → Option Nat
  | [] => none
  | n :: ns => if n = k then some 0 else (idxI k ns).map (· + 1)
def mIdx (mo me : M D) : M D := bnd mo fun o => match o with
  | .lst xs => bnd me fun y => lft (match y, asInts xs with
    | .int k, some ns => (idxI k ns).map fun j => .int (j : Int)
    | _, _ => none)
  | _ => fun _ => .bad
section
variable {K : PySem.W.Frag} {g : G} {W : WX}
end
section
variable {X : Cx} {g : G} {W : WX} {apos cpos pos : Pos} {o e : Expr} {mo me : M D}
end
end DL

set_option Elab.async false
set_option linter.all false
set_option maxRecDepth 100000
set_option maxHeartbeats 400000
/-! zip whose tuples are kept: the target is one name -/
namespace ZN
open PySem
abbrev IsZN (h : Heap) (z TI TO : Addr) (f0 f1 : Value) : Prop :=
  h.get? z = some { cls := .type "zip", dict := none, data := .fields #[f0, f1, .bool false, .ref TI, .ref TO], slots := #[] }
def Ok0 (f : Value) : Prop := f = .none ∨ ∃ a : Addr, f = rawInt a
def Ok1 (f : Value) : Prop := ∃ b, f = .bool b
section
variable {prog : Program} {w : World} {A : Around} {E : Value → Shared → Prop} {s : Shared}
theorem alive {a : Addr} {Q : Option Obj → Shared → Prop} (h : Q (s.heap.get? a) s) : wpAny (model prog w) A (loadIfAlive a) Q E s := fun _ _ _ => h
theorem free_or {z TI TO : Addr} {f0 f1 : Value} {Q : Bool → Shared → Prop} (hz : IsZN s.heap z TI TO f0 f1) (h0 : Ok0 f0) (h1 : Ok1 f1) (yes : Q true s)
    (no : ∀ h' b, IsZN h' z TI TO f0 (.bool b) → Heap.SameBut z s.heap h' → Q false { s with heap := h' }) : wpAny (model prog w) A (Builtin.SmallTypes.ownedTupleIsFree (.ref z)) Q E s := by
  obtain ⟨b, rfl⟩ := h1
  unfold Builtin.SmallTypes.ownedTupleIsFree
  rcases h0 with rfl | ⟨a, rfl⟩
  · exact wpAny_bind (wpAny_field hz rfl (x := .none) rfl (wpAny_pure yes))
  · refine wpAny_bind (wpAny_field hz rfl (x := rawInt a) rfl ?_)
    show wpAny _ _ (loadIfAlive _ >>= _) _ _ _
    refine wpAny_bind (alive ?_)
    cases q : s.heap.get? ((a : Int).toNat) with
    | none =>
      simp only [Option.isNone_none, if_true]
      exact wpAny_pure yes
    | some o =>
      simp only [Option.isNone_some, Bool.false_eq_true, if_false]
      refine wpAny_bind (wpAny_field hz rfl (x := .bool b) rfl ?_)
      cases b with
      | true =>
        exact wpAny_pure (no s.heap true hz ⟨rfl, fun _ _ => rfl⟩)
      | false =>
        refine wpAny_bind (wpAny_setField_rec hz (by simp) fun h' hz' hs' => ?_)
        exact wpAny_pure (no h' true hz' hs')
theorem item {z TI TO p q la lb : Addr} {f0 f1 : Value} {ka kb : Nat} {us vs : Array Value} {u v c0 c1 : Value} {Q : Value → Shared → Prop} (D : ZipApart z TI TO p q la lb)
    (hz : IsZN s.heap z TI TO f0 f1) (o0 : Ok0 f0) (o1 : Ok1 f1) (hI : IsPair s.heap TI (.ref p) (.ref q)) (hO : IsPair s.heap TO c0 c1)
    (ip : s.heap.IsListIter p la ka) (iq : s.heap.IsListIter q lb kb) (ea : s.heap.IsList la us) (eb : s.heap.IsList lb vs) (hu : us[ka]? = some u) (hv : vs[kb]? = some v)
    (fin : ∀ h' g0 g1, IsZN h' z TI TO g0 g1 → Ok0 g0 → Ok1 g1 → (∃ d0 d1, IsPair h' TO d0 d1) → h'.IsListIter p la (ka + 1) → h'.IsListIter q lb (kb + 1) → IsPair h' s.heap.objs.size u v → h'.objs.size = s.heap.objs.size + 1 →
      (∀ c o, c ≠ z → c ≠ TO → c ≠ p → c ≠ q → s.heap.get? c = some o → h'.get? c = some o) → Q (.ref s.heap.objs.size) { s with heap := h' }) :
    wpAny (model prog w) A (Builtin.«zip.__next__» ⟨[.ref z], []⟩) (fun fin s' => ∃ v, fin = .done (.ret v) ∧ Q v s') E s := by
  show wpAny _ _ (field (.ref z) 2 >>= _) _ _ _
  refine wpAny_bind (wpAny_field hz rfl (x := .bool false) rfl ?_)
  show wpAny _ _ (field (.ref z) 3 >>= _) _ _ _
  refine wpAny_bind (wpAny_field hz rfl (x := .ref TI) rfl ?_)
  refine wpAny_bind (wpAny_seqItems hI rfl ?_)
  show wpAny _ _ (Builtin.SmallTypes.ownedTupleIsFree (.ref z) >>= _) _ _ _
  refine wpAny_bind (free_or hz o0 o1 ?_ fun hh bb zz ss => ?_)
  · simp only [if_true]
    refine wpAny_bind (wpAny_rule ?_)
    refine wpAny_bind (wpAny_field hz rfl (x := .ref TO) rfl ?_)
    refine wpAny_bind (wpAny_setField_rec hz (by simp) fun ha za sa => ?_)
    replace za : IsZN ha z TI TO .ellipsis f1 := za
    refine wpAny_bind ?_
    simp only [List.zipIdx_cons, List.zipIdx_nil, List.forIn_cons, List.forIn_nil]
    refine wpAny_bind (wpAny_bind (wpAny_onRaise ?_))
    show wpAny _ _ (Builtin.SmallTypes.nextOf (.ref p) >>= _) _ _ _
    refine wpAny_bind (wpAny_nextOf_list_item (ip.extBut sa.extBut D.i1z) (ea.extBut sa.extBut D.l1z) hu fun hb ib sb => wpAny_pure ?_)
    have tb : IsPair hb TO c0 c1 := sb.extBut _ _ D.TOi1 (sa.extBut _ _ D.TOz hO)
    refine wpAny_bind (wpAny_seqItems tb rfl ?_)
    refine wpAny_bind (wpAny_updateSeq_pair tb fun hc tc sc => ?_)
    replace tc : IsPair hc TO u c1 := tc
    refine wpAny_bind (wpAny_letGo (wpAny_pure ?_))
    refine wpAny_bind (wpAny_bind (wpAny_onRaise ?_))
    show wpAny _ _ (Builtin.SmallTypes.nextOf (.ref q) >>= _) _ _ _
    have iq' := ((iq.extBut sa.extBut D.i2z).extBut sb.extBut D.i12.symm).extBut sc.extBut D.TOi2.symm
    have eb' := ((eb.extBut sa.extBut D.l2z).extBut sb.extBut D.l2i1).extBut sc.extBut D.l2TO
    refine wpAny_bind (wpAny_nextOf_list_item iq' eb' hv fun hd id' sd => wpAny_pure ?_)
    have td : IsPair hd TO u c1 := sd.extBut _ _ D.TOi2 tc
    refine wpAny_bind (wpAny_seqItems td rfl ?_)
    refine wpAny_bind (wpAny_updateSeq_pair td fun he te se => ?_)
    replace te : IsPair he TO u v := te
    refine wpAny_bind (wpAny_letGo (wpAny_pure (wpAny_pure ?_)))
    refine wpAny_bind (wpAny_seqItems te rfl ?_)
    refine wpAny_bind (wpAny_newTuple ?_)
    have size : he.objs.size = s.heap.objs.size := by rw [se.1, sd.1, sc.1, sb.1, sa.1]
    have ze : IsZN he z TI TO .ellipsis f1 := se.extBut _ _ D.TOz.symm (sd.extBut _ _ D.i2z.symm (sc.extBut _ _ D.TOz.symm (sb.extBut _ _ D.i1z.symm za)))
    have keep : ∀ c o, c ≠ z → c ≠ TO → c ≠ p → c ≠ q → s.heap.get? c = some o → he.get? c = some o := fun c o n1 n2 n3 n4 e =>
      se.extBut _ _ n2 (sd.extBut _ _ n4 (sc.extBut _ _ n2 (sb.extBut _ _ n3 (sa.extBut _ _ n1 e))))
    have pe : he.IsListIter p la (ka + 1) := ((ib.extBut sc.extBut D.TOi1.symm).extBut sd.extBut D.i12).extBut se.extBut D.TOi1.symm
    have qe : he.IsListIter q lb (kb + 1) := id'.extBut se.extBut D.TOi2.symm
    have zl : z < he.objs.size := Heap.lt_size ze
    show wpAny _ _ (Builtin.SmallTypes.ownedTupleHandOut (.ref z) (.ref he.objs.size) >>= _) _ _ _
    refine wpAny_bind ?_
    unfold Builtin.SmallTypes.ownedTupleHandOut
    have zf : IsZN (he.push { cls := .type "tuple", data := .seq #[u, v] }) z TI TO .ellipsis f1 := Heap.get?_push_of_some _ ze
    refine wpAny_bind (wpAny_setField_rec zf (by simp) fun hg zg sg => ?_)
    replace zg : IsZN hg z TI TO (rawInt he.objs.size) f1 := zg
    refine wpAny_setField_rec zg (by simp) fun hi zi si => ?_
    replace zi : IsZN hi z TI TO (rawInt he.objs.size) (.bool false) := zi
    have up : ∀ c o, c ≠ z → he.get? c = some o → hi.get? c = some o := fun c o n1 e => si.extBut _ _ n1 (sg.extBut _ _ n1 (Heap.get?_push_of_some _ e))
    have ti : IsPair hi he.objs.size u v := si.extBut _ _ (Nat.ne_of_gt zl) (sg.extBut _ _ (Nat.ne_of_gt zl) (Heap.get?_push_size _ rfl))
    have sz : hi.objs.size = he.objs.size + 1 := by rw [si.1, sg.1, Heap.size_push]
    rw [size] at ti sz
    refine wpAny_pure ⟨_, rfl, ?_⟩
    show Q (.ref he.objs.size) _
    rw [size]
    exact fin hi _ _ zi (.inr ⟨_, rfl⟩) ⟨_, rfl⟩ ⟨u, v, up _ _ D.TOz te⟩ (pe.at fun o e => up _ o D.i1z e) (qe.at fun o e => up _ o D.i2z e) ti sz fun c o n1 n2 n3 n4 e => up c o n1 (keep c o n1 n2 n3 n4 e)
  · simp only [Bool.false_eq_true, if_false]
    simp only [List.forIn_toArray, List.forIn_cons, List.forIn_nil]
    refine wpAny_bind (wpAny_bind (wpAny_bind (wpAny_holding ?_)))
    show wpAny _ _ (Builtin.SmallTypes.nextOf (.ref p) >>= _) _ _ _
    refine wpAny_bind (wpAny_nextOf_list_item (ip.extBut ss.extBut D.i1z) (ea.extBut ss.extBut D.l1z) hu fun hb ib sb => wpAny_pure ?_)
    refine wpAny_pure ?_
    refine wpAny_bind (wpAny_bind (wpAny_holding ?_))
    show wpAny _ _ (Builtin.SmallTypes.nextOf (.ref q) >>= _) _ _ _
    refine wpAny_bind (wpAny_nextOf_list_item ((iq.extBut ss.extBut D.i2z).extBut sb.extBut D.i12.symm) ((eb.extBut ss.extBut D.l2z).extBut sb.extBut D.l2i1) hv fun hc ic sc => wpAny_pure ?_)
    refine wpAny_pure (wpAny_pure ?_)
    refine wpAny_bind (wpAny_newTuple ?_ (by show 2 ≤ sizeLine; decide))
    have size : hc.objs.size = s.heap.objs.size := by rw [sc.1, sb.1, ss.1]
    have zc : IsZN hc z TI TO f0 (.bool bb) := sc.extBut _ _ D.i2z.symm (sb.extBut _ _ D.i1z.symm zz)
    have keep : ∀ c o, c ≠ z → c ≠ TO → c ≠ p → c ≠ q → s.heap.get? c = some o → hc.get? c = some o := fun c o n1 n2 n3 n4 e => sc.extBut _ _ n4 (sb.extBut _ _ n3 (ss.extBut _ _ n1 e))
    have pc : hc.IsListIter p la (ka + 1) := ib.extBut sc.extBut D.i12
    have oc : IsPair hc TO c0 c1 := sc.extBut _ _ D.TOi2 (sb.extBut _ _ D.TOi1 (ss.extBut _ _ D.TOz hO))
    have up : ∀ c o, hc.get? c = some o → (hc.push { cls := .type "tuple", data := .seq #[u, v] }).get? c = some o := fun c o e => Heap.get?_push_of_some _ e
    have nt : IsPair (hc.push { cls := .type "tuple", data := .seq #[u, v] }) hc.objs.size u v := Heap.get?_push_size _ rfl
    have sz : (hc.push { cls := .type "tuple", data := .seq #[u, v] }).objs.size = hc.objs.size + 1 := Heap.size_push ..
    have last := fin (hc.push { cls := .type "tuple", data := .seq #[u, v] }) _ _ (up _ _ zc) o0 ⟨_, rfl⟩ ⟨c0, c1, up _ _ oc⟩ (pc.at fun o e => up _ o e) (ic.at fun o e => up _ o e) (by rw [← size]; exact nt) (by rw [sz, size]) fun c o n1 n2 n3 n4 e => up c o (keep c o n1 n2 n3 n4 e)
    refine wpAny_pure ⟨_, rfl, ?_⟩
    show Q (.ref hc.objs.size) _
    rw [size]
    exact last
theorem stop {z TI TO p q la lb : Addr} {f0 f1 : Value} {ka kb : Nat} {us vs : Array Value} {c0 c1 : Value} {Q : Fin → Shared → Prop} (hh : A.handled = none) (D : ZipApart z TI TO p q la lb)
    (hz : IsZN s.heap z TI TO f0 f1) (o0 : Ok0 f0) (o1 : Ok1 f1) (hI : IsPair s.heap TI (.ref p) (.ref q)) (hO : IsPair s.heap TO c0 c1)
    (ip : s.heap.IsListIter p la ka) (iq : s.heap.IsListIter q lb kb) (ea : s.heap.IsList la us) (eb : s.heap.IsList lb vs) (none' : us[ka]? = none ∨ vs[kb]? = none)
    (fin : ∀ h' e, (∀ c o, c ≠ z → c ≠ TO → c ≠ p → c ≠ q → s.heap.get? c = some o → h'.get? c = some o) → (∃ o, h'.get? e = some o ∧ o.cls = .type "StopIteration") → E (.ref e) { s with heap := h' }) :
    wpAny (model prog w) A (Builtin.«zip.__next__» ⟨[.ref z], []⟩) Q E s := by
  show wpAny _ _ (field (.ref z) 2 >>= _) _ _ _
  refine wpAny_bind (wpAny_field hz rfl (x := .bool false) rfl ?_)
  show wpAny _ _ (field (.ref z) 3 >>= _) _ _ _
  refine wpAny_bind (wpAny_field hz rfl (x := .ref TI) rfl ?_)
  refine wpAny_bind (wpAny_seqItems hI rfl ?_)
  show wpAny _ _ (Builtin.SmallTypes.ownedTupleIsFree (.ref z) >>= _) _ _ _
  refine wpAny_bind (free_or hz o0 o1 ?_ fun ha bb zz ss => ?_)
  · simp only [if_true]
    refine wpAny_bind (wpAny_rule ?_)
    refine wpAny_bind (wpAny_field hz rfl (x := .ref TO) rfl ?_)
    refine wpAny_bind (wpAny_setField_rec hz (by simp) fun ha za sa => ?_)
    replace za : IsZN ha z TI TO .ellipsis f1 := za
    refine wpAny_bind ?_
    simp only [List.zipIdx_cons, List.zipIdx_nil, List.forIn_cons, List.forIn_nil]
    refine wpAny_bind (wpAny_bind (wpAny_onRaise ?_))
    show wpAny _ _ (Builtin.SmallTypes.nextOf (.ref p) >>= _) _ _ _
    cases hu : us[ka]? with
    | none =>
      refine wpAny_bind (wpAny_nextOf_list_end hh (ip.extBut sa.extBut D.i1z) (ea.extBut sa.extBut D.l1z) hu fun hb e sb ⟨oe, g1, g2⟩ => ?_)
      have zb : IsZN hb z TI TO .ellipsis f1 := sb _ _ D.i1z.symm za
      have ne : e ≠ z := fun x => by subst x; rw [zb] at g1; cases g1; simp at g2
      exact wpAny_setField_rec zb (by simp) fun hc _ sc => fin hc e (fun c o n1 n2 n3 _ x => sc.extBut _ _ n1 (sb _ _ n3 (sa.extBut _ _ n1 x))) ⟨oe, sc.extBut _ _ ne g1, g2⟩
    | some u =>
      have hv : vs[kb]? = none := by rcases none' with h | h; rw [hu] at h; cases h; exact h
      refine wpAny_bind (wpAny_nextOf_list_item (ip.extBut sa.extBut D.i1z) (ea.extBut sa.extBut D.l1z) hu fun hb ib sb => wpAny_pure ?_)
      have tb : IsPair hb TO c0 c1 := sb.extBut _ _ D.TOi1 (sa.extBut _ _ D.TOz hO)
      refine wpAny_bind (wpAny_seqItems tb rfl ?_)
      refine wpAny_bind (wpAny_updateSeq_pair tb fun hc tc sc => ?_)
      refine wpAny_bind (wpAny_letGo (wpAny_pure ?_))
      refine wpAny_bind (wpAny_bind (wpAny_onRaise ?_))
      show wpAny _ _ (Builtin.SmallTypes.nextOf (.ref q) >>= _) _ _ _
      have iq' := ((iq.extBut sa.extBut D.i2z).extBut sb.extBut D.i12.symm).extBut sc.extBut D.TOi2.symm
      have eb' := ((eb.extBut sa.extBut D.l2z).extBut sb.extBut D.l2i1).extBut sc.extBut D.l2TO
      refine wpAny_bind (wpAny_nextOf_list_end hh iq' eb' hv fun hd e sd ⟨oe, g1, g2⟩ => ?_)
      have zd : IsZN hd z TI TO .ellipsis f1 := sd _ _ D.i2z.symm (sc.extBut _ _ D.TOz.symm (sb.extBut _ _ D.i1z.symm za))
      have ne : e ≠ z := fun x => by subst x; rw [zd] at g1; cases g1; simp at g2
      exact wpAny_setField_rec zd (by simp) fun he _ se => fin he e (fun c o n1 n2 n3 n4 x => se.extBut _ _ n1 (sd _ _ n4 (sc.extBut _ _ n2 (sb.extBut _ _ n3 (sa.extBut _ _ n1 x))))) ⟨oe, se.extBut _ _ ne g1, g2⟩
  · simp only [Bool.false_eq_true, if_false]
    simp only [List.forIn_toArray, List.forIn_cons, List.forIn_nil]
    refine wpAny_bind (wpAny_bind (wpAny_bind (wpAny_holding ?_)))
    show wpAny _ _ (Builtin.SmallTypes.nextOf (.ref p) >>= _) _ _ _
    cases hu : us[ka]? with
    | none =>
      exact wpAny_bind (wpAny_nextOf_list_end hh (ip.extBut ss.extBut D.i1z) (ea.extBut ss.extBut D.l1z) hu fun hb e sb g => fin hb e (fun c o n1 n2 n3 _ x => sb _ _ n3 (ss.extBut _ _ n1 x)) g)
    | some u =>
      have hv : vs[kb]? = none := by rcases none' with h | h; rw [hu] at h; cases h; exact h
      refine wpAny_bind (wpAny_nextOf_list_item (ip.extBut ss.extBut D.i1z) (ea.extBut ss.extBut D.l1z) hu fun hb ib sb => wpAny_pure ?_)
      refine wpAny_pure ?_
      refine wpAny_bind (wpAny_bind (wpAny_holding ?_))
      show wpAny _ _ (Builtin.SmallTypes.nextOf (.ref q) >>= _) _ _ _
      exact wpAny_bind (wpAny_nextOf_list_end hh ((iq.extBut ss.extBut D.i2z).extBut sb.extBut D.i12.symm) ((eb.extBut ss.extBut D.l2z).extBut sb.extBut D.l2i1) hv fun hc e sc g => fin hc e (fun c o n1 n2 n3 n4 x => sc _ _ n4 (sb.extBut _ _ n3 (ss.extBut _ _ n1 x))) g)
end
end ZN
namespace ZN
open PySem PySem.Spec PyProof.Rows L2
def at5 (z TI TO i1 i2 a b : Addr) : Nat → Heap → Prop := fun i h => ∃ f0 f1, IsZN h z TI TO f0 f1 ∧ Ok0 f0 ∧ Ok1 f1 ∧ IsPair h TI (.ref i1) (.ref i2) ∧ (∃ x y, IsPair h TO x y) ∧ h.IsListIter i1 a i ∧ h.IsListIter i2 b i
end ZN
namespace DL
open PySem L2 PyProof.Rows
def zipLD : List D → Option (List D)
  | [.lst xs, .lst ys] => some (zipL xs ys)
  | _ => none
section
variable {K : PySem.W.Frag} {g : G} {W : WX}
end
section
variable {X : Cx} {g : G} {W : WX} {e e2 : Expr} {ma : M (List D)} {p pos tpos : Pos} {nm : Str}
end
end DL

set_option Elab.async false
set_option linter.all false
set_option maxRecDepth 100000
set_option maxHeartbeats 400000
namespace DL
open PySem L2 PyProof.Rows
/-! ### xs.pop(k) of an own list, as an expression -/
def mPop (i : Nat) (j : M D) : M D := bnd (own i) fun d0 => if isLst d0 = true then bnd j fun k => bnd (own i) fun d => (match d, k with
  | .lst xs, .int n => if small xs.length = true ∧ 0 ≤ n ∧ n < xs.length then (match xs[n.toNat]? with
    | some y => fun env => .ok y (mdf i (.lst (xs.eraseIdx n.toNat)) env)
    | none => fun _ => .bad) else fun _ => .bad
  | _, _ => fun _ => .bad) else fun _ => .bad
section
variable {K : PySem.W.Frag} {g : G} {W : WX}
end
section
variable {X : Cx} {g : G} {W : WX} {x : Str} {p1 apos cpos pos : Pos} {j : Expr} {mj : M D}
end
end DL

set_option Elab.async false
set_option linter.all false
set_option maxRecDepth 100000
set_option maxHeartbeats 400000
namespace DL
open PySem L2 PyProof.Rows
/-! ### list(range(n)) that is kept -/
end DL

set_option Elab.async false
set_option linter.all false
set_option maxRecDepth 100000
set_option maxHeartbeats 400000
namespace DL
open PySem L2 PyProof.Rows
/-! ### a tuple of texts that the module lays out -/
def TupK (K : PySem.W.Frag) (a : Addr) (zs : List Str) : Prop := ∃ (o : Obj) (its : Array Value) (n : Nat), K.lookup a = some o ∧ o.cls = .type "tuple" ∧ o.data = .seq its n ∧ its.size ≤ sizeLine ∧ Vals (zs.map .str) its.toList
theorem vals_txt : ∀ {l : List Value} {zs : List Str}, l.map txtV = zs.map some → Vals (zs.map .str) l
  | [], [], _ => .nil
  | [], _ :: _, h => by cases h
  | _ :: _, [], h => by cases h
  | v :: l, z :: zs, h => by
    have h1 : txtV v :: l.map txtV = some z :: zs.map some := h
    obtain ⟨h2, h3⟩ := List.cons.inj h1
    cases v <;> first | (cases h2; done) | skip
    case str y t =>
      cases h2
      exact .cons ⟨t, rfl⟩ (vals_txt h3)
theorem tup_ok {K : PySem.W.Frag} {x : Str} {zs : List Str} (h : (Fx.tup x zs).ok K = true) : TupK K (He.ga K x) zs := by
  obtain ⟨_, h⟩ := b2 h
  split at h
  · rename_i c d its n sl lk
    obtain ⟨b1, b⟩ := b2 h
    obtain ⟨b3, b4⟩ := b2 b
    have e1 : c = "tuple" := of_decide_eq_true b1
    subst e1
    have e2 := of_decide_eq_true b4
    have e3 := of_decide_eq_true b3
    have el : its.size = zs.length := by
      have := congrArg List.length e2
      rw [List.length_map, List.length_map, Array.length_toList] at this
      exact this
    have sl := sizeLine_eq
    exact ⟨_, its, n, lk, rfl, rfl, by omega, vals_txt e2⟩
  · cases h
theorem Bas.tup {fx : List Fx} {fn : List Dx} {K : PySem.W.Frag} {mg : Str → Option Value} (b : Bas fx fn K mg) (i : Nat) {x : Str} {zs : List Str} (h : fx[i]? = some (.tup x zs) := by rfl) : ∃ a, mg x = some (.ref a) ∧ TupK K a zs := by
  obtain ⟨_, X, G⟩ := b.ns
  have k := b.c.fact i h
  exact ⟨_, He.glo_ok X G (b2 k).1, tup_ok k⟩
end DL

set_option Elab.async false
set_option linter.all false
set_option maxRecDepth 100000
set_option maxHeartbeats 1000000
namespace DL
open PySem PySem.Spec L2 PyProof.Rows L2H
/-! ### zip of a tuple and a list, of a list and a tuple -/
namespace ZG
def Sq (K : PySem.W.Frag) (k : Bool) (H : Hp) (a : Addr) (xs : List V) : Prop := match k with
  | true => SqT K H a xs
  | false => SqL K H a xs
def IsS (k : Bool) (h : Heap) (a : Addr) (its : Array Value) : Prop := match k with
  | true => h.IsTuple a its
  | false => h.IsList a its
def IsI (k : Bool) (h : Heap) (i a : Addr) (n : Nat) : Prop := match k with
  | true => h.IsTupleIter i a n
  | false => h.IsListIter i a n
def beg (k : Bool) (a : Addr) : Obj := match k with
  | true => { cls := .type "tuple_iterator", data := .fields #[.ref a, .int 0 0] }
  | false => { cls := .type "list_iterator", data := .fields #[.ref a, .int 0 0] }
theorem IsI.at {k : Bool} {h h' : Heap} {a l : Addr} {i : Nat} (x : IsI k h a l i) (e : ∀ o, h.get? a = some o → h'.get? a = some o) : IsI k h' a l i := by
  cases k
  · exact Heap.IsListIter.at x e
  · exact Heap.IsTupleIter.at x e
def Itz (K : PySem.W.Frag) (k1 k2 : Bool) (a b : Addr) : L2.It :=
  ⟨fun i H => ∃ (xs ys : List V) (x y : V), Sq K k1 H a xs ∧ Sq K k2 H b ys ∧ xs[i]? = some x ∧ ys[i]? = some y,
    fun i H v H' => ∃ T x y, v = .ref T ∧ H T = none ∧ H' = upd H T (.tup [x, y]) ∧ (∀ xs, Sq K k1 H a xs → xs[i]? = some x) ∧ ∀ ys, Sq K k2 H b ys → ys[i]? = some y,
    fun i H => ∃ xs ys : List V, Sq K k1 H a xs ∧ Sq K k2 H b ys ∧ i ≤ xs.length ∧ i ≤ ys.length ∧ (i = xs.length ∨ i = ys.length)⟩
def zsT (k1 k2 : Bool) (a b z TI TO i1 i2 : Addr) : Nat → Heap → Prop := fun i h => IsZip h z TI TO .none ∧ IsTupOf2 h TI (.ref i1) (.ref i2) ∧ (∃ u v, IsTupOf2 h TO u v) ∧ IsI k1 h i1 a i ∧ IsI k2 h i2 b i
def iZipG (K : PySem.W.Frag) (k1 k2 : Bool) (ta : TA) : TI := fun σ H R => ta σ H fun vs H1 => ∃ a b xs ys, vs = [.ref a, .ref b] ∧ Sq K k1 H1 a xs ∧ Sq K k2 H1 b ys ∧ R (Itz K k1 k2 a b) H1
end ZG
def seqD : Bool → D → Option (List D)
  | true, .tup xs => some xs
  | false, .lst xs => some xs
  | _, _ => none
def zipGD (k1 k2 : Bool) : List D → Option (List D)
  | [x, y] => (seqD k1 x).bind fun xs => (seqD k2 y).map fun ys => zipL xs ys
  | _ => none
section
variable {K : PySem.W.Frag} {g : G} {W : WX} {Hf0 : Hp}
end
section
variable {X : Cx} {g : G} {W : WX} {e e2 : Expr} {ma : M (List D)} {p pos tpos : Pos} {elts : List Expr} {kk : Nat}
end
end DL

set_option Elab.async false
set_option linter.all false
set_option maxRecDepth 100000
set_option maxHeartbeats 1000000
namespace DL
open PySem PySem.Spec L2 PyProof.Rows
/-! ### one's own dict: d[k], d[k] = e -/
def setK : List Key → List D → Key → D → List D
  | k :: ks, d :: ds, x, z => (if k = x then z else d) :: setK ks ds x z
  | _, ds, _, _ => ds
def dputD : D → D → D → Option D
  | .dic ks ds, y, z => if ks.length = ds.length ∧ small (ds.length + 1) = true then (keyOf y).map fun k => if (lookK ks ds k).isSome = true then .dic ks (setK ks ds k z) else .dic (ks ++ [k]) (ds ++ [z]) else none
  | _, _, _ => none
def mDgetS (i : Nat) (mb : M D) : M D := bnd (own i) fun _ => bnd mb fun y => bnd (own i) fun d => lft (dgetD d y)
def sDputS (i : Nat) (m mk : M D) : S := bnd m fun z => bnd (own i) fun _ => bnd mk fun y => bnd (own i) fun d => match dputD d y z with
  | some d' => fun env => .ok .nx (mdf i d' env)
  | none => fun _ => .bad
section
variable {K : PySem.W.Frag} {g : G} {W : WX} {env env1 env' : En} {σ σ' : L2.St} {Hf H Hf1 H1 Hf' H' : Hp}
theorem setK_len : ∀ (ks : List Key) (ds : List D) (k : Key) (z : D), (setK ks ds k z).length = ds.length
  | [], ds, _, _ => by simp [setK]
  | _ :: _, [], _, _ => by simp [setK]
  | x :: ks, d :: ds, k, z => by simp [setK, setK_len ks ds k z]
theorem reps_setK {z : D} {v : V} (rz : Rep K g H z v) : ∀ {ks : List Key} {ds : List D} {vs : List V} (k : Key), Reps K g H ds vs → ks.length = ds.length → ∃ ws, ((ks.zip vs).map fun kv => if kv.1 = k then (kv.1, v) else kv) = ks.zip ws ∧ Reps K g H (setK ks ds k z) ws
  | [], ds, vs, k, r, l => by
    cases r with
    | nil => exact ⟨[], rfl, .nil⟩
    | cons a b => cases l
  | x :: ks, _, _, k, .nil, l => by cases l
  | x :: ks, _, _, k, .cons (d := d) (v := u) a b, l => by
    obtain ⟨ws, h1, h2⟩ := reps_setK rz k b (by simpa using l)
    by_cases c : x = k
    · refine ⟨v :: ws, ?_, ?_⟩
      · rw [List.zip_cons_cons, List.map_cons, if_pos c, h1, List.zip_cons_cons]
      · unfold setK; rw [if_pos c]; exact .cons rz h2
    · refine ⟨u :: ws, ?_, ?_⟩
      · rw [List.zip_cons_cons, List.map_cons, if_neg c, h1, List.zip_cons_cons]
      · unfold setK; rw [if_neg c]; exact .cons a h2
theorem putK_rep {z : D} {v : V} (rz : Rep K g H z v) {ks : List Key} {ds : List D} {vs : List V} {k : Key} (r : Reps K g H ds vs) (l : ks.length = ds.length) :
    ∃ ks' ds' ws, (if (lookK ks ds k).isSome = true then D.dic ks (setK ks ds k z) else .dic (ks ++ [k]) (ds ++ [z])) = .dic ks' ds' ∧ putK (ks.zip vs) k v = ks'.zip ws ∧ Reps K g H ds' ws ∧ ks'.length = ds'.length := by
  have lv : ks.length = vs.length := l.trans r.len
  cases hq : lookK ks ds k with
  | none =>
    have hn := look_none r l hq
    refine ⟨ks ++ [k], ds ++ [z], vs ++ [v], by simp, ?_, r.append (.cons rz .nil), by simp [l]⟩
    unfold putK
    rw [if_neg (by rw [valV_any, hn]; simp), List.zip_append lv]
    rfl
  | some d =>
    obtain ⟨u, h5, _⟩ := look_some r hq
    obtain ⟨ws, h1, h2⟩ := reps_setK rz k r l
    refine ⟨ks, setK ks ds k z, ws, by simp, ?_, h2, by rw [setK_len]; exact l⟩
    unfold putK
    rw [if_pos (by rw [valV_any, h5]; rfl)]
    exact h1
theorem ev_dgetS {i : Nat} {ty : TE} {mb : M D} (hb : EvM K g W ty mb) : EvM K g W (tDGet (tVar i) ty) (mDgetS i mb) := fun env σ Hf H s Q h => by
  obtain ⟨x, d, hx, mx, h1⟩ := own_ok s h.bnd
  obtain ⟨p, u, hp, _⟩ := s.mut_at hx mx
  refine ⟨_, hp, hb env σ Hf H s _ (h1.bnd.imp fun y e1 Hf1 H1 _ s1 q1 w r1 => ?_)⟩
  obtain ⟨x1, d1, hx1, mx1, h3⟩ := own_ok s1.sr q1.bnd
  obtain ⟨p1, u1, hp1, hu1, hn1, ru1⟩ := s1.sr.at_ hx1 mx1
  rw [hp] at hp1
  cases hp1
  obtain ⟨z, hz, k⟩ := Aft.lft s1.sr h3
  cases ru1 with
  | @dic ks ds vs r hl =>
    have hz' : ((keyOf y).bind fun k => lookK ks ds k) = some z := hz
    cases hk : keyOf y with
    | none => rw [hk] at hz'; cases hz'
    | some kk =>
      rw [hk] at hz'
      obtain ⟨v, h5, h6⟩ := look_some r hz'
      exact ⟨_, v, rfl, .inl ⟨_, kk, .inl hu1, key_rep r1 hk, h5.symm⟩, k Hf1 H1 (Grow.refl s1.sr.ex) v h6⟩
  | _ => cases hz
theorem ev_dputS {i : Nat} {tv ty : TE} {m mk : M D} (hv : EvM K g W tv m) (hk : EvM K g W ty mk) : EvS K g W (sDPut (tVar i) ty tv) (sDputS i m mk) := fun env σ Hf H s Z h =>
  hv env σ Hf H s _ (h.bnd.imp fun z e1 Hf1 H1 _ s1 h1 v rv => by
    obtain ⟨x, d, hx, mx, h2⟩ := own_okS s1.sr h1
    obtain ⟨p, u, hp, hu, ru⟩ := s1.sr.mut_at hx mx
    refine ⟨_, hp, hk e1 σ Hf1 H1 s1.sr _ (h2.bnd.imp fun y e2 Hf2 H2 _ s2 h3 w rw' => ?_)⟩
    obtain ⟨x1, d1, hx1, mx1, h4⟩ := own_okS s2.sr h3
    obtain ⟨p1, u1, hp1, hu1, ru1⟩ := s2.sr.mut_at hx1 mx1
    rw [hp] at hp1
    cases hp1
    cases ru1 with
    | @dic ks ds vs r hl =>
      by_cases c : ks.length = ds.length ∧ small (ds.length + 1) = true
      case neg =>
        have hq : dputD (.dic ks ds) y z = none := if_neg c
        rw [hq] at h4
        exact h4.elim
      cases kq : keyOf y with
      | none =>
        have hq : dputD (.dic ks ds) y z = none := by
          show (if ks.length = ds.length ∧ small (ds.length + 1) = true then (keyOf y).map _ else none) = none
          rw [if_pos c, kq]; rfl
        rw [hq] at h4
        exact h4.elim
      | some kk =>
        obtain ⟨ks', ds', ws, e5, e6, r6, l6⟩ := putK_rep (k := kk) (rv.mono s2.f) r hl
        have hq : dputD (.dic ks ds) y z = some (.dic ks' ds') := by
          show (if ks.length = ds.length ∧ small (ds.length + 1) = true then (keyOf y).map _ else none) = _
          rw [if_pos c, kq, Option.map_some, e5]
        rw [hq] at h4
        have lv : ks.length = vs.length := hl.trans r.len
        have sm : (ks.zip vs).length < sizeLine := by
          rw [List.length_zip, ← lv, Nat.min_self, hl]
          have := small_le c.2
          omega
        refine ⟨p, _, rfl, .inl ⟨_, kk, hu1, key_rep rw' kq, sm, rfl⟩, ?_⟩
        rw [e6]
        exact h4 σ Hf2 _ (step_mut s2.sr hx1 mx1 hp (.dic r6 l6))
    | _ => exact h4.elim)
end
section
variable {X : Cx} {g : G} {W : WX} {j : Nat} {x : Str} {p1 pos pos' : Pos} {e b : Expr} {m mb : M D}
theorem m_dgetS (i : Nat) (hr : Room j X.A) (hb : PEM X g W b mb) (hs : NoSl b := by exact fun _ _ => rfl) (hN : X.N[i]? = some x := by rfl) (hv : Vis X.env.scope x := by first | exact Or.inl rfl | exact Or.inr (Or.inl rfl) | exact Or.inr (Or.inr rfl)) (hd : (x == ("__debug__" : Str)) = false := by decide) (hcd : (x == ("__classdict__" : Str)) = false := by decide) :
    PEM X g W (.Subscript (.Name x p1) b pos) (mDgetS i mb) := by
  obtain ⟨t, h1, h2⟩ := hb
  exact ⟨_, pe_dget (by have := hr.un; omega) (pe_var hN hv hd hcd) h1 hs, ev_dgetS h2⟩
theorem s_dput (i : Nat) (hr : Room j X.A) (ha : PEM X g W e m) (hb : PEM X g W b mb) (hN : X.N[i]? = some x := by rfl) (hv : Vis X.env.scope x := by first | exact Or.inl rfl | exact Or.inr (Or.inl rfl) | exact Or.inr (Or.inr rfl)) (hd : (x == ("__debug__" : Str)) = false := by decide) (hcd : (x == ("__classdict__" : Str)) = false := by decide)
    (hs : swapsWith e (some (.Subscript (.Name x p1) b pos')) pos.line X.env = pure false := by rfl) : PSM X g W (.Assign [.Subscript (.Name x p1) b pos'] e pos) (sDputS i m mb) := by
  obtain ⟨t, h1, h2⟩ := ha
  obtain ⟨u, h3, h4⟩ := hb
  exact ⟨_, ps_dput (by have := hr.un; omega) (pe_var hN hv hd hcd) h3 h1 hs, ev_dputS h2 h4⟩
end
/-! ### a call that lends one's own thing at any place -/
def EvH (K : PySem.W.Frag) (g : G) (W : WX) (i : Nat) (ta : TA) (m : M (List D × List D)) : Prop := ∀ env σ Hf H, SR K g env σ Hf H → ∀ Q : List V → Hp → Prop,
  Aft K g W env σ Hf H (m env) (fun ds _ Hf' H' => ∀ us vs p, Reps K g Hf' ds.1 us → Reps K g Hf' ds.2 vs → σ[i]? = some (some (.ref p)) → Q (us ++ .ref p :: vs) H') → ta σ H Q
structure PAH (X : Cx) (g : G) (W : WX) (i : Nat) (es : List Expr) (m : M (List D × List D)) : Prop where
  ex : ∃ t, PA X es t ∧ EvH X.K g W i t m
def mHole (i : Nat) (m : M (List D)) : M (List D × List D) := bnd (own i) fun _ => bnd m fun ds => ret ([], ds)
def mHCons (m : M D) (mh : M (List D × List D)) : M (List D × List D) := bnd m fun d => bnd mh fun p => ret (d :: p.1, p.2)
def callH (F : Fm) (i : Nat) (xs ys : List D) : M D := fun env => match env[i]?.bind Sl.mut with
  | some d0 => (match F (xs.map .sh ++ .pn d0 :: ys.map .sh) with
    | .ok (.rt d) e => (match e[xs.length]? with | some (.pn d1) => .ok d (mdf i d1 env) | _ => .bad)
    | .ex c d e => (match e[xs.length]? with | some (.pn d1) => .ex c d (mdf i d1 env) | _ => .bad)
    | _ => .bad)
  | none => .bad
def mCallH (F : Fm) (i : Nat) (mh : M (List D × List D)) : M D := bnd mh fun p => callH F i p.1 p.2
def callHF (F : Fm) (i : Nat) (xs ys : List D) : M D := fun env => match env[i]?.bind Sl.mut with
  | some d0 => (match F (xs.map .sh ++ .pn d0 :: ys.map .sh) with
    | .ok (.rto d) e => (match e[xs.length]? with | some (.pn d1) => .ok d (mdf i d1 env) | _ => .bad)
    | .ex c d e => (match e[xs.length]? with | some (.pn d1) => .ex c d (mdf i d1 env) | _ => .bad)
    | _ => .bad)
  | none => .bad
def mCallHF (F : Fm) (i : Nat) (mh : M (List D × List D)) : M D := bnd mh fun p => callHF F i p.1 p.2
section
variable {K : PySem.W.Frag} {g : G} {W : WX} {E : XK} {env env1 env' : En} {σ σ' : L2.St} {Hf H Hf1 H1 Hf' H' : Hp} {F : Fm} {np : Nat}
end
section
variable {X : Cx} {g : G} {W : WX} {E : XK} {x y : Str} {np k j : Nat} {F : Fm} {es : List Expr} {e : Expr} {m : M D} {ma : M (List D)} {mh : M (List D × List D)} {p py pos : Pos}
end
/-! ### a; b; ..; return own -/
structure PRO (X : Cx) (g : G) (W : WX) (i : Nat) (st : List Stmt) (m : S) : Prop where
  ex : ∃ t, PSs X st t ∧ ∀ env σ Hf H, SR X.K g env σ Hf H → ∀ Z : Ends, Out X.K g W env σ Hf H (m env) { Z with nx := tRet (tVar i) Z } → t Z σ H
section
variable {X : Cx} {g : G} {W : WX} {x : Str} {p1 pos : Pos} {a : Stmt} {st : List Stmt} {ma m : S}
end
end DL

set_option Elab.async false
set_option linter.all false
set_option maxRecDepth 100000
set_option maxHeartbeats 1000000
namespace DL
open PySem PySem.Spec L2 PyProof.Rows
/-! ### dict(d): a copy -/
def dicD : List D → Option D
  | [.dic ks ds] => if ks.length = ds.length then some (.dic ks ds) else none
  | _ => none
def rDictC (K : PySem.W.Frag) : List V → Hp → VK → Prop := fun xs H Q => ∃ (a : Addr) (kvs : List (Key × V)), xs = [.ref a] ∧ Rd H a (.dK kvs) ∧ ∀ p, H p = none → Q (.ref p) (upd H p (.dK kvs))
section
variable {K : PySem.W.Frag} {g : G} {W : WX}
/-- dict(x), x one's own -/
def mDicS (i : Nat) : M D := bnd (own i) fun d => lft (dicD [d])
end
section
variable {X : Cx} {g : G} {W : WX} {y : Str} {p p3 pos : Pos} {e : Expr} {ma : M (List D)}
end
end DL

set_option Elab.async false
set_option linter.all false
set_option maxRecDepth 100000
set_option maxHeartbeats 1000000
namespace DL
open PySem PySem.Spec L2 PyProof.Rows
/-! ### a property that hands back a new list; E.clear(), E a new list that nobody holds -/
def mPrpF (L : List (Nat × Fm)) (mo : M D) : M D := bnd mo fun o => match cand L o with
  | some F => nox (callAF F [o])
  | none => fun _ => .bad
def sClrF (m0 : M D) : S := bnd m0 fun d0 => match d0 with
  | .lst _ => ret .nx
  | _ => fun _ => .bad
section
variable {K : PySem.W.Frag} {g : G} {W : WX} {E : XK} {m : Str}
end
section
variable {X : Cx} {g : G} {W : WX} {E : XK} {j : Nat} {o e0 : Expr} {f : Str} {mo m0 : M D} {pos apos cpos : Pos}
end
end DL

set_option Elab.async false
set_option linter.all false
set_option maxRecDepth 100000
set_option maxHeartbeats 1000000
namespace DL
open PySem PySem.Spec L2 PyProof.Rows
/-! ### sorted(xs) of data -/
open PySem.W in
def sortOk (ps : List PyData) : Bool := (ps.all fun p => ps.all fun q => alike p q) && ((ps.all fun p => match p with | .tuple (_ :: _) => true | _ => false) && (small ps.length && ps.all fun p => decide (p.depth ≤ 60)))
open PySem.W in
def sortBy {α : Type} (xs : List α) (ps : List PyData) : List α := ((xs.zip ps).mergeSort (dataLe false (·.2))).map (·.1)
def rSortD (K : PySem.W.Frag) : List V → Hp → VK → Prop := fun xs H Q => ∃ l vs ps, xs = [.ref l] ∧ SqL K H l vs ∧ DpAll K H vs ps ∧ sortOk ps = true ∧ ∀ a, H a = none → Q (.ref a) (upd H a (.lst (sortBy vs ps)))
section
variable {X : Cx} {g : G} {E : XK} {j : Nat}
end
def sortD : List D → Option D
  | [.lst ds] => (toPDs ds).bind fun ps => if sortOk ps = true then some (.lst (sortBy ds ps)) else none
  | _ => none
section
variable {K : PySem.W.Frag} {g : G} {H : Hp}
end
end DL

set_option Elab.async false
set_option linter.all false
set_option maxRecDepth 100000
set_option maxHeartbeats 1000000
namespace DL
open PySem PySem.Spec L2 PyProof.Rows
/-! ### sorted(dict(pairs)): each key once, in order -/
def uniqP {κ α : Type} [DecidableEq κ] (ps : List (κ × α)) : List (κ × α) := ps.foldl (fun acc p => if acc.any (fun q => decide (q.1 = p.1)) = true then acc else acc ++ [p]) []
/-- a dict that is not ours: its keys stand at ks -/
def DxO (a : Addr) (ks : List Addr) : HO := .ext fun h => (a == sysModules) = false ∧ ∃ es ep, Heap.DictRaw h a es ep ∧ es.size = ks.length ∧ ∀ i (hi : i < es.size), ∃ b, ks[i]? = some b ∧ es[i].key = .ref b
def rDictX (K : PySem.W.Frag) : List V → Hp → VK → Prop := fun xs H Q => ∃ (l : Addr) (ps : List (List Key × Addr × V × Addr)), xs = [.ref l] ∧ SqL K H l (ps.map fun p => V.ref p.2.2.2) ∧
  (∀ p ∈ ps, SqT K H p.2.2.2 [.ref p.2.1, p.2.2.1] ∧ SqT K H p.2.1 (p.1.map kV)) ∧ ∀ a, H a = none → Q (.ref a) (upd H a (DxO a ((uniqP (ps.map fun p => (p.1, p.2.1))).map (·.2))))
def rSortX (K : PySem.W.Frag) : List V → Hp → VK → Prop := fun xs H Q => ∃ (a : Addr) (ks : List Addr) (pds : List PyData), xs = [.ref a] ∧ H a = some (DxO a ks) ∧ DpAll K H (ks.map V.ref) pds ∧ sortOk pds = true ∧
  ∀ p, H p = none → Q (.ref p) (upd H p (.lst (sortBy (ks.map V.ref) pds)))
section
variable {X : Cx} {pins : List (Addr × Obj)} {σ : L2.St} {H : Hp} {s : Shared}
end
section
variable {X : Cx}
end
def keysD : List D → Option (List Key)
  | [] => some []
  | .int i :: ds => (keysD ds).map (Sum.inl i :: ·)
  | .str x :: ds => (keysD ds).map (Sum.inr x :: ·)
  | _ :: _ => none
def pairsK : List D → Option (List (List Key × D))
  | [] => some []
  | .tup [.tup ks, _] :: ds => (keysD ks).bind fun k => (pairsK ds).map ((k, .tup ks) :: ·)
  | _ :: _ => none
/-- sorted(dict(pairs)) -/
def sortX : List D → Option D
  | [.lst prs] => (pairsK prs).bind fun l => (toPDs ((uniqP l).map (·.2))).bind fun ps => if sortOk ps = true then some (.lst (sortBy ((uniqP l).map (·.2)) ps)) else none
  | _ => none
section
variable {K : PySem.W.Frag} {g : G} {H : Hp}
end
section
variable {K : PySem.W.Frag} {g : G}
def rSX (K : PySem.W.Frag) : List V → Hp → VK → Prop := fun xs H Q => rDictX K xs H fun v H1 => rSortX K [v] H1 Q
end
section
variable {K : PySem.W.Frag} {g : G} {W : WX}
end
section
variable {X : Cx} {g : G} {W : WX} {a b c : Expr} {ma mb : M D} {pos : Pos}
end
section
variable {X : Cx} {g : G} {W : WX} {j : Nat} {e : Expr} {m : M D} {p p2 pos pos2 : Pos}
end
/-! ### a tuple of numbers and texts that the module lays out -/
def kD : Sum Int Str → D
  | .inl i => .int i
  | .inr z => .str z
def GtpK (K : PySem.W.Frag) (a : Addr) (zs : List (Sum Int Str)) : Prop := ∃ (o : Obj) (its : Array Value) (n : Nat), K.lookup a = some o ∧ o.cls = .type "tuple" ∧ o.data = .seq its n ∧ its.size ≤ sizeLine ∧ Vals (zs.map kV) its.toList
theorem vals_key : ∀ {l : List Value} {zs : List (Sum Int Str)}, l.map keyV = zs.map some → Vals (zs.map kV) l
  | [], [], _ => .nil
  | [], _ :: _, h => by cases h
  | _ :: _, [], h => by cases h
  | v :: l, z :: zs, h => by
    have h1 : keyV v :: l.map keyV = some z :: zs.map some := h
    obtain ⟨h2, h3⟩ := List.cons.inj h1
    cases v <;> first | (cases h2; done) | skip
    case int i t =>
      cases h2
      exact .cons ⟨t, rfl⟩ (vals_key h3)
    case str y t =>
      cases h2
      exact .cons ⟨t, rfl⟩ (vals_key h3)
theorem gtp_ok {K : PySem.W.Frag} {x : Str} {zs : List (Sum Int Str)} (h : (Fx.gtp x zs).ok K = true) : GtpK K (He.ga K x) zs := by
  obtain ⟨_, h⟩ := b2 h
  split at h
  · rename_i c d its n sl lk
    obtain ⟨b1, b⟩ := b2 h
    obtain ⟨b3, b4⟩ := b2 b
    have e1 : c = "tuple" := of_decide_eq_true b1
    subst e1
    have e2 := of_decide_eq_true b4
    have e3 := of_decide_eq_true b3
    have el : its.size = zs.length := by
      have := congrArg List.length e2
      rw [List.length_map, List.length_map, Array.length_toList] at this
      exact this
    have sl := sizeLine_eq
    exact ⟨_, its, n, lk, rfl, rfl, by omega, vals_key e2⟩
  · cases h
theorem Bas.gtp {fx : List Fx} {fn : List Dx} {K : PySem.W.Frag} {mg : Str → Option Value} (b : Bas fx fn K mg) (i : Nat) {x : Str} {zs : List (Sum Int Str)} (h : fx[i]? = some (.gtp x zs) := by rfl) : ∃ a, mg x = some (.ref a) ∧ GtpK K a zs := by
  obtain ⟨_, X, G⟩ := b.ns
  have k := b.c.fact i h
  exact ⟨_, He.glo_ok X G (b2 k).1, gtp_ok k⟩
/-! ### a; b; .. return own, with returns of new things before -/
def sRetE (i : Nat) (m : S) : S := fun env => if noOw env = true then (match m env with
  | .ok .nx e => (match e[i]? with
    | some (.ow d) => .ok (.rto d) (e.set i .no)
    | _ => .bad)
  | .ok (.rto d) e => .ok (.rto d) e
  | .ok _ _ => .bad
  | .ex c d e => .ex c d e
  | .bad => .bad) else .bad
section
variable {K : PySem.W.Frag} {g : G} {W : WX} {env env1 env' : En} {σ σ1 σ' : L2.St} {Hf H Hf1 H1 Hf' H' : Hp}
end
section
variable {X : Cx} {g : G} {W : WX} {st : List Stmt} {m : S}
end
end DL

set_option Elab.async false
set_option linter.all false
set_option maxRecDepth 100000
set_option maxHeartbeats 1000000
namespace DL
open PySem PySem.Spec L2 PyProof.Rows
/-! ### one's own dict: d.get(k), k a key or None -/
section
variable {X : Cx} {pins : List (Addr × Obj)} {σ : L2.St} {H : Hp} {s : Shared} {a : Addr} {A : Around} {E : Value → Shared → Prop}
end
def tDGN (td ty : TE) : TE := fun σ H Q => td σ H fun x H1 => ∃ a, x = .ref a ∧ IsD H1 a ∧ ty σ H1 fun y H2 => ∃ kvs, Rd H2 a (.dK kvs) ∧ ((∃ k, y = kV k ∧ Q ((valV kvs k).getD .non) H2) ∨ (y = .non ∧ Q .non H2))
section
variable {X : Cx} {o e : Expr} {apos cpos : Pos} {td ty : TE}
end
/-- the value at a key, or None -/
def dgetN : D → D → Option D
  | .dic _ _, .non => some .non
  | .dic ks ds, y => (keyOf y).map fun k => (lookK ks ds k).getD .non
  | _, _ => none
def isDicD : D → Bool
  | .dic _ _ => true
  | _ => false
def mDgetN (i : Nat) (mb : M D) : M D := bnd (own i) fun d0 => if isDicD d0 = true then bnd mb fun y => bnd (own i) fun d => lft (dgetN d y) else fun _ => .bad
section
variable {K : PySem.W.Frag} {g : G} {W : WX}
end
section
variable {X : Cx} {g : G} {W : WX} {j : Nat} {x : Str} {p1 apos pos : Pos} {b : Expr} {mb : M D}
end
end DL

set_option Elab.async false
set_option linter.all false
set_option maxRecDepth 100000
set_option maxHeartbeats 400000
namespace DL
open PySem L2 PyProof.Rows
/-! ### list(range(a, b)) -/
def lrg2D : D → D → Option D
  | .int i, .int j => if (-1000000 ≤ i ∧ i ≤ 1000000) ∧ (-1000000 ≤ j ∧ j ≤ 1000000) then some (.lst ((List.range (j - i).toNat).map fun k => .int (i + ((k : Nat) : Int)))) else none
  | _, _ => none
/-! ### {} for oneself -/
theorem f_dic0 {X : Cx} {g : G} {W : WX} {pos : Pos} : PEF X g W (.Dict [] [] pos) (ret (.dic [] [])) := by
  refine ⟨_, pe_dnewK, fun env σ Hf H s Q h => ?_⟩
  intro p hp
  have w := own_new (u := HO.dK []) s.ex hp
  refine h Hf _ (w.step s) p ⟨⟨_, upd_same, ?_⟩, ?_, fun o => Own.there s o hp, hp⟩
  · exact .dic (ks := []) (vs := []) .nil rfl
  · cases q : Hf p with
    | none => rfl
    | some o => rw [s.ex p o q] at hp; cases hp
end DL

set_option Elab.async false
set_option linter.all false
set_option maxRecDepth 100000
set_option maxHeartbeats 1000000
namespace DL
open PySem PySem.Spec L2 PyProof.Rows
/-! ### dict(pairs), its keys tuples: a thing that nobody looks into -/
def dicX : List D → Option D
  | [.lst prs] => if (pairsK prs).isSome = true then some .opq else none
  | _ => none
section
variable {K : PySem.W.Frag} {g : G}
end
section
variable {X : Cx} {g : G} {W : WX} {j : Nat} {e : Expr} {m : M D} {p pos : Pos}
end
end DL

set_option Elab.async false
set_option linter.all false
set_option maxRecDepth 100000
set_option maxHeartbeats 1000000
namespace DL
open PySem PySem.Spec L2 PyProof.Rows
/-! ### methods of texts -/
def mM1 (f : Str → D → Option D) (ma mb : M D) : M D := bnd ma fun x => match x with
  | .str a => bnd mb fun y => lft (f a y)
  | _ => fun _ => .bad
def strsOf : List D → Option (List Str)
  | [] => some []
  | .str y :: ds => (strsOf ds).map (y :: ·)
  | _ :: _ => none
def joinS (a : Str) : D → Option D
  | .lst ds => (strsOf ds).bind fun ys => if small ((ys.map (·.length)).sum + ys.length * a.length) = true then some (.str (Txt.join a ys)) else none
  | _ => none
def splitS (a : Str) : D → Option D
  | .str b => if (b.length == 0) = false ∧ small (a.length + 2) = true then some (.lst ((Txt.split a b).map .str)) else none
  | _ => none
def startS (a : Str) : D → Option D
  | .str b => some (.bl (Txt.startswith a b))
  | _ => none
def endS (a : Str) : D → Option D
  | .str b => some (.bl (Txt.endswith a b))
  | _ => none
section
variable {K : PySem.W.Frag} {g : G} {W : WX}
def RmOk (K : PySem.W.Frag) (g : G) (r : V → List V → Hp → VK → Prop) (f : Str → D → Option D) : Prop := ∀ Hf H a y dy Q, Ex Hf H → Rep K g Hf dy y →
  (match f a dy with
   | some z => ∀ v Hf' H', Grow Hf H Hf' H' → Rep K g Hf' z v → Q v H'
   | none => False) → r (.str a) [y] H Q
def RmOkF (K : PySem.W.Frag) (g : G) (r : V → List V → Hp → VK → Prop) (f : Str → D → Option D) : Prop := ∀ Hf H a y dy Q, Ex Hf H → Rep K g Hf dy y →
  (match f a dy with
   | some z => ∀ p Hf' H' u, Grow Hf H Hf' H' → H p = none → H' p = some u → Hf' p = none → RepO K g Hf' z u → Q (.ref p) H'
   | none => False) → r (.str a) [y] H Q
theorem ev_m1 {r : V → List V → Hp → VK → Prop} {f : Str → D → Option D} {ta tb : TE} {ma mb : M D} (hr : RmOk K g r f) (ha : EvM K g W ta ma) (hb : EvM K g W tb mb) : EvM K g W (tM1 r ta tb) (mM1 f ma mb) :=
  fun env σ Hf H s Q h => ha env σ Hf H s _ (h.bnd.imp fun x e1 Hf1 H1 _ s1 h1 v rv => by
    cases rv with
    | str a =>
      refine ⟨⟨a, rfl⟩, hb e1 σ Hf1 H1 s1.sr _ ((Aft.bnd h1).imp fun y e2 Hf2 H2 _ s2 h2 w rw' => ?_)⟩
      obtain ⟨z, hz, k⟩ := Aft.lft s2.sr h2
      refine hr Hf2 H2 a w y Q s2.sr.ex rw' ?_
      rw [hz]
      exact fun v Hf' H' g r => k Hf' H' g v r
    | _ => exact h1.elim)
theorem ev_m1F {r : V → List V → Hp → VK → Prop} {f : Str → D → Option D} {ta tb : TE} {ma mb : M D} (hr : RmOkF K g r f) (ha : EvM K g W ta ma) (hb : EvM K g W tb mb) : EvF K g W (tM1 r ta tb) (mM1 f ma mb) :=
  fun env σ Hf H s Q h => ha env σ Hf H s _ (h.bnd.imp fun x e1 Hf1 H1 _ s1 h1 v rv => by
    cases rv with
    | str a =>
      refine ⟨⟨a, rfl⟩, hb e1 σ Hf1 H1 s1.sr _ ((Aft.bnd h1).imp fun y e2 Hf2 H2 _ s2 h2 w rw' => ?_)⟩
      obtain ⟨z, hz, k⟩ := Aft.lft s2.sr h2
      refine hr Hf2 H2 a w y Q s2.sr.ex rw' ?_
      rw [hz]
      refine fun p Hf' H' u gw c1 c2 c3 c4 => k Hf' H' gw p ⟨⟨u, c2, c4⟩, c3, fun o => ?_, s1.th p (s2.th p c1)⟩
      obtain ⟨i, sl, d, q1, q2, q3⟩ := o
      obtain ⟨p', u', b1, b2, _⟩ := s2.sr.at_ q1 q2
      rw [q3] at b1
      cases b1
      rw [c1] at b2
      cases b2
    | _ => exact h1.elim)
theorem strs_reps {Hf : Hp} : ∀ {ds : List D} {vs : List V} {ys : List Str}, Reps K g Hf ds vs → strsOf ds = some ys → vs = ys.map V.str
  | _, _, ys, .nil, h => by cases h; rfl
  | _, _, ys, .cons (d := d) (ds := ds) a b, h => by
    cases d <;> try (cases h; done)
    case str y =>
      cases a
      cases hk : strsOf ds with
      | none => simp [strsOf, hk] at h
      | some k =>
        simp [strsOf, hk] at h
        subst h
        rw [strs_reps b hk]
        rfl
theorem rm_join : RmOk K g (fun x xs H Q => ∃ a p, ∃ ys : List Str, x = .str a ∧ xs = [.ref p] ∧ (SqL K H p (ys.map V.str) ∨ SqT K H p (ys.map V.str)) ∧ (ys.map (·.length)).sum + ys.length * a.length ≤ 16777216 ∧ Q (.str (Txt.join a ys)) H) joinS := by
  intro Hf H a y dy Q e ry h
  cases ry <;> try exact h.elim
  case lst p ds vs hp hr =>
    cases hs : strsOf ds with
    | none =>
      have hz : joinS a (.lst ds) = none := by show (strsOf ds).bind _ = none; rw [hs]; rfl
      rw [hz] at h
      exact h.elim
    | some ys =>
      have ev := strs_reps hr hs
      subst ev
      by_cases c : small ((ys.map (·.length)).sum + ys.length * a.length) = true
      · have hz : joinS a (.lst ds) = some (.str (Txt.join a ys)) := by show (strsOf ds).bind _ = _; rw [hs]; exact if_pos c
        rw [hz] at h
        exact ⟨a, p, ys, rfl, rfl, .inl (SqL.of (e _ _ hp)), by have := small_le c; rw [sizeLine_eq] at this; omega, h _ Hf H (Grow.refl e) (.str _)⟩
      · have hz : joinS a (.lst ds) = none := by show (strsOf ds).bind _ = _; rw [hs]; exact if_neg c
        rw [hz] at h
        exact h.elim
theorem reps_strT {Hf : Hp} : ∀ ys : List Str, Reps K g Hf (ys.map .str) (ys.map V.str)
  | [] => .nil
  | y :: ys => .cons (.str y) (reps_strT ys)
theorem rm_split : RmOkF K g (fun x xs H Q => ∃ a b, x = .str a ∧ xs = [.str b] ∧ (b.length == 0) = false ∧ a.length + 2 ≤ sizeLine ∧ rNewStrs (Txt.split a b) H Q) splitS := by
  intro Hf H a y dy Q e ry h
  cases ry <;> try exact h.elim
  case str b =>
    by_cases c : (b.length == 0) = false ∧ small (a.length + 2) = true
    · have hz : splitS a (.str b) = some (.lst ((Txt.split a b).map .str)) := if_pos c
      rw [hz] at h
      exact ⟨a, b, rfl, rfl, c.1, small_le c.2, fun p hp => h p Hf _ _ (own_new e hp) hp upd_same (e.back hp) (.lst (reps_strT _))⟩
    · have hz : splitS a (.str b) = none := if_neg c
      rw [hz] at h
      exact h.elim
theorem rm_start : RmOk K g (fun x xs H Q => ∃ a b, x = .str a ∧ xs = [.str b] ∧ Q (.bl (Txt.startswith a b)) H) startS := by
  intro Hf H a y dy Q e ry h
  cases ry <;> try exact h.elim
  case str b => exact ⟨a, b, rfl, rfl, h _ Hf H (Grow.refl e) (.bl _)⟩
theorem rm_end : RmOk K g (fun x xs H Q => ∃ a b, x = .str a ∧ xs = [.str b] ∧ Q (.bl (Txt.endswith a b)) H) endS := by
  intro Hf H a y dy Q e ry h
  cases ry <;> try exact h.elim
  case str b => exact ⟨a, b, rfl, rfl, h _ Hf H (Grow.refl e) (.bl _)⟩
end
section
variable {X : Cx} {g : G} {W : WX} {o e : Expr} {mo me : M D} {apos pos : Pos}
theorem m_join (ho : PEM X g W o mo) (he : PEM X g W e me) (hs : starEach [e] X.env = [(false, eval e X.env)] := by rfl) (hbase : attributeBase o "join" X.env (eval o X.env) = eval o X.env := by rfl) (hline : (apos.endLine == pos.line) = true := by rfl) :
    PEM X g W (.Call (.Attribute o "join" apos) [e] [] pos) (mM1 joinS mo me) := by
  obtain ⟨t, h1, h2⟩ := ho
  obtain ⟨u, h3, h4⟩ := he
  exact ⟨_, pe_join h1 h3 hs hbase hline, ev_m1 rm_join h2 h4⟩
theorem f_split (ho : PEM X g W o mo) (he : PEM X g W e me) (hs : starEach [e] X.env = [(false, eval e X.env)] := by rfl) (hbase : attributeBase o "split" X.env (eval o X.env) = eval o X.env := by rfl) (hline : (apos.endLine == pos.line) = true := by rfl) :
    PEF X g W (.Call (.Attribute o "split" apos) [e] [] pos) (mM1 splitS mo me) := by
  obtain ⟨t, h1, h2⟩ := ho
  obtain ⟨u, h3, h4⟩ := he
  exact ⟨_, pe_split h1 h3 hs hbase hline, ev_m1F rm_split h2 h4⟩
theorem m_start (ho : PEM X g W o mo) (he : PEM X g W e me) (hs : starEach [e] X.env = [(false, eval e X.env)] := by rfl) (hbase : attributeBase o "startswith" X.env (eval o X.env) = eval o X.env := by rfl) (hline : (apos.endLine == pos.line) = true := by rfl) :
    PEM X g W (.Call (.Attribute o "startswith" apos) [e] [] pos) (mM1 startS mo me) := by
  obtain ⟨t, h1, h2⟩ := ho
  obtain ⟨u, h3, h4⟩ := he
  exact ⟨_, pe_m1 F.slot_str_startswith F.type_str_startswith mt_startswith h1 h3 hs hbase hline, ev_m1 rm_start h2 h4⟩
theorem m_end (ho : PEM X g W o mo) (he : PEM X g W e me) (hs : starEach [e] X.env = [(false, eval e X.env)] := by rfl) (hbase : attributeBase o "endswith" X.env (eval o X.env) = eval o X.env := by rfl) (hline : (apos.endLine == pos.line) = true := by rfl) :
    PEM X g W (.Call (.Attribute o "endswith" apos) [e] [] pos) (mM1 endS mo me) := by
  obtain ⟨t, h1, h2⟩ := ho
  obtain ⟨u, h3, h4⟩ := he
  exact ⟨_, pe_m1 F.slot_str_endswith F.type_str_endswith mt_endswith h1 h3 hs hbase hline, ev_m1 rm_end h2 h4⟩
end
/-! ### a sign in a text -/
def inS1 (neg : Bool) (z : Str) : List Nat → Option D
  | [c] => some (.bl (if neg then !decide (c ∈ z.cps.toList) else decide (c ∈ z.cps.toList)))
  | _ => none
def inS (neg : Bool) : D → D → Option D
  | .str a, .str z => inS1 neg z a.cps.toList
  | _, _ => none
section
variable {K : PySem.W.Frag} {g : G}
theorem one_sign {a : Str} {c : Nat} (h : a.cps.toList = [c]) : a = ⟨#[c]⟩ := by
  cases a with
  | mk l => exact congrArg Str.mk (Array.toList_inj.mp h)
theorem rv_inS : RvOk K g (fun x y H Q => ∃ (c : Nat) (z : Str), x = .str ⟨#[c]⟩ ∧ y = .str z ∧ Q (.bl (decide (c ∈ z.cps.toList))) H) (inS false) := by
  intro Hf H x y dx dy Q e rx ry h
  cases rx <;> try exact h.elim
  case str a =>
    cases ry <;> try exact h.elim
    case str z =>
      cases hc : a.cps.toList with
      | nil =>
        have hz : inS false (.str a) (.str z) = none := by show inS1 false z a.cps.toList = _; rw [hc]; rfl
        rw [hz] at h
        exact h.elim
      | cons c r =>
        cases r with
        | nil =>
          have hz : inS false (.str a) (.str z) = some (.bl (decide (c ∈ z.cps.toList))) := by show inS1 false z a.cps.toList = _; rw [hc]; rfl
          rw [hz] at h
          exact ⟨c, z, by rw [one_sign hc], rfl, h _ Hf H (Grow.refl e) (.bl _)⟩
        | cons d r =>
          have hz : inS false (.str a) (.str z) = none := by show inS1 false z a.cps.toList = _; rw [hc]; rfl
          rw [hz] at h
          exact h.elim
end
section
variable {X : Cx} {g : G} {W : WX} {a b : Expr} {ma mb : M D} {pos : Pos}
theorem m_inS (ha : PEM X g W a ma) (hb : PEM X g W b mb) (hm : behindInMarks .In b = false := by rfl) : PEM X g W (.Compare a [.In] [b] pos) (mBin (inS false) ma mb) := m_cmp op_in_sign rv_inS ha hb hm
end
/-! ### f-strings of two parts, str(x), int(text) -/
def fmtS : D → Option Str
  | .str y => if small y.length = true then some y else none
  | .int i => if i.natAbs.log2 < 1920 then some (toString i) else none
  | _ => none
def mFmt2 (ma mb : M D) : M D := bnd ma fun x => bnd (lft (fmtS x)) fun a => if small a.length = true then bnd mb fun y => bnd (lft (fmtS y)) fun b => lft (if small (a ++ b).length = true then some (.str (a ++ b)) else none) else fun _ => .bad
def strS : List D → Option D
  | [.int i] => if i.natAbs.log2 < 1920 then some (.str (toString i)) else none
  | _ => none
def intS : List D → Option D
  | [.str a] => if a.length ≤ 640 then (PySem.intText? a).map .int else none
  | _ => none
section
variable {K : PySem.W.Frag} {g : G} {W : WX}
theorem empty_app (a : Str) : Str.empty ++ a = a := by
  apply TL.ext_tl
  rw [TL.tl_append]
  rfl
theorem fmt_run {te : TE} {m : M D} {σ : L2.St} {H : Hp} {env : En} {Hf : Hp} (he : EvM K g W te m) (s : SR K g env σ Hf H) {Q : VK}
    (h : Aft K g W env σ Hf H (bnd m (fun x => lft (fmtS x)) env) (fun a e1 Hf1 H1 => Q (.str a) H1)) : tFmt te σ H Q :=
  he env σ Hf H s _ (h.bnd.imp fun x e1 Hf1 H1 _ s1 h1 v rv => by
    obtain ⟨z, hz, k⟩ := Aft.lft s1.sr h1
    have k' := k Hf1 H1 (Grow.refl s1.sr.ex)
    cases rv <;> try (cases hz; done)
    case str y _ =>
      by_cases c : small y.length = true
      · have e1 : fmtS (.str y) = some y := if_pos c
        rw [e1] at hz
        cases hz
        exact .inl ⟨_, rfl, small_le c, k'⟩
      · have e1 : fmtS (.str y) = none := if_neg c
        rw [e1] at hz
        cases hz
    case int i _ =>
      by_cases c : i.natAbs.log2 < 1920
      · have e1 : fmtS (.int i) = some (toString i) := if_pos c
        rw [e1] at hz
        cases hz
        exact .inr ⟨_, rfl, c, k'⟩
      · have e1 : fmtS (.int i) = none := if_neg c
        rw [e1] at hz
        cases hz)
theorem ev_fmt2 {ta tb : TE} {ma mb : M D} (ha : EvM K g W ta ma) (hb : EvM K g W tb mb) : EvM K g W (fun σ H Q => tJs [tFmt ta, tFmt tb] Str.empty σ H fun out H1 => Q (.str out) H1) (mFmt2 ma mb) := by
  intro env σ Hf H s Q h
  show tFmt ta σ H _
  have h' : Aft K g W env σ Hf H (bnd (bnd ma fun x => lft (fmtS x)) (fun a => if small a.length = true then bnd mb fun y => bnd (lft (fmtS y)) fun b => lft (if small (a ++ b).length = true then some (D.str (a ++ b)) else none) else fun _ => .bad) env) (fun d _ Hf' H' => ∀ v, Rep K g Hf' d v → Q v H') := by
    unfold mFmt2 at h
    have e : ∀ en, bnd ma (fun x => bnd (lft (fmtS x)) fun a => if small a.length = true then bnd mb fun y => bnd (lft (fmtS y)) fun b => lft (if small (a ++ b).length = true then some (D.str (a ++ b)) else none) else fun _ => .bad) en = bnd (bnd ma fun x => lft (fmtS x)) (fun a => if small a.length = true then bnd mb fun y => bnd (lft (fmtS y)) fun b => lft (if small (a ++ b).length = true then some (D.str (a ++ b)) else none) else fun _ => .bad) en := fun en => by
      unfold DL.bnd
      cases ma en <;> rfl
    rw [e] at h
    exact h
  refine fmt_run ha s (h'.bnd.imp fun a e1 Hf1 H1 _ s1 h1 => ?_)
  by_cases c : small a.length = true
  case neg => rw [if_neg c] at h1; exact h1.elim
  rw [if_pos c] at h1
  refine ⟨a, rfl, by rw [empty_app]; exact small_le c, ?_⟩
  show tFmt tb σ H1 _
  have h2 : Aft K g W e1 σ Hf1 H1 (bnd (bnd mb fun y => lft (fmtS y)) (fun b => lft (if small (a ++ b).length = true then some (D.str (a ++ b)) else none)) e1) (fun d _ Hf' H' => ∀ v, Rep K g Hf' d v → Q v H') := by
    have e : ∀ en, bnd mb (fun y => bnd (lft (fmtS y)) fun b => lft (if small (a ++ b).length = true then some (D.str (a ++ b)) else none)) en = bnd (bnd mb fun y => lft (fmtS y)) (fun b => lft (if small (a ++ b).length = true then some (D.str (a ++ b)) else none)) en := fun en => by
      unfold DL.bnd
      cases mb en <;> rfl
    rw [e] at h1
    exact h1
  refine fmt_run hb s1.sr (h2.bnd.imp fun b e2 Hf2 H2 _ s2 h3 => ?_)
  obtain ⟨z, hz, k⟩ := Aft.lft s2.sr h3
  by_cases c2 : small (a ++ b).length = true
  · rw [if_pos c2] at hz
    cases hz
    refine ⟨b, rfl, by rw [empty_app]; exact small_le c2, ?_⟩
    show Q (.str (Str.empty ++ a ++ b)) H2
    rw [empty_app]
    exact k Hf2 H2 (Grow.refl s2.sr.ex) _ (.str _)
  · rw [if_neg c2] at hz
    cases hz
theorem rc_strS : RcOk K g (fun xs H Q => ∃ i, xs = [.int i] ∧ i.natAbs.log2 < 1920 ∧ Q (.str (toString i)) H) strS := rc_of fun Hf H xs ds z Q e r h q => by
  unfold strS at h
  split at h
  · split at h
    · rename_i i c
      cases h
      cases r with
      | cons r1 r =>
        cases r
        cases r1
        exact ⟨_, rfl, c, q _ Hf H (Grow.refl e) (.str _)⟩
    · cases h
  · cases h
theorem rc_intS : RcOk K g (fun xs H Q => ∃ a n, xs = [.str a] ∧ PySem.intText? a = some n ∧ a.length ≤ 640 ∧ Q (.int n) H) intS := rc_of fun Hf H xs ds z Q e r h q => by
  unfold intS at h
  split at h
  · split at h
    · rename_i a c
      cases r with
      | cons r1 r =>
        cases r
        cases r1
        cases hn : PySem.intText? a with
        | none => rw [hn] at h; cases h
        | some n =>
          rw [hn] at h
          cases h
          exact ⟨a, n, rfl, hn, c, q _ Hf H (Grow.refl e) (.int _)⟩
    · cases h
  · cases h
end
section
variable {X : Cx} {g : G} {W : WX} {a b : Expr} {ma mb : M D} {pos p1 p2 : Pos}
theorem m_fmt2 (ha : PEM X g W a ma) (hb : PEM X g W b mb) : PEM X g W (.JoinedStr [.FormattedValue a (-1) none p1, .FormattedValue b (-1) none p2] pos) (mFmt2 ma mb) := by
  obtain ⟨t, h1, h2⟩ := ha
  obtain ⟨u, h3, h4⟩ := hb
  exact ⟨_, pe_joined (.cons (pe_fmt h1) (.cons (pe_fmt h3) .nil)), ev_fmt2 h2 h4⟩
end
end DL

set_option Elab.async false
set_option linter.all false
set_option maxRecDepth 100000
set_option maxHeartbeats 1000000
namespace DL
open PySem PySem.Spec L2 PyProof.Rows
/-! ### zip of a text and a list -/
def ItzSl (K : PySem.W.Frag) (x : Str) (b : Addr) : L2.It :=
  ⟨fun i H => ∃ (ys : List V) (c : Nat) (y : V), SqL K H b ys ∧ x.cps[i]? = some c ∧ ys[i]? = some y,
    fun i H v H' => ∃ T c y, v = .ref T ∧ H T = none ∧ H' = upd H T (.tup [.str ⟨#[c]⟩, y]) ∧ x.cps[i]? = some c ∧ ∀ ys, SqL K H b ys → ys[i]? = some y,
    fun i H => ∃ ys : List V, SqL K H b ys ∧ i ≤ x.cps.size ∧ i ≤ ys.length ∧ (i = x.cps.size ∨ i = ys.length)⟩
def zsL (x : Str) (t : Tok) (b z TI TO i1 i2 : Addr) : Nat → Heap → Prop := fun i h => IsZip h z TI TO .none ∧ IsTupOf2 h TI (.ref i1) (.ref i2) ∧ (∃ u v, IsTupOf2 h TO u v) ∧ h.IsStrIter i1 (strIterType x) x t i ∧ h.IsListIter i2 b i
theorem turn_zipSl {P : Program} {w : World} {K : PySem.W.Frag} {elts : List Expr} {kk : Nat} {tpos : Pos} {x : Str} {t : Tok} {b z TI TO i1 i2 : Addr} (S : ZipSep2 z TI TO i1 i2 [i1] [i2, b]) (hb : b ≠ i2) :
    Turn P w K (.Tuple elts kk tpos) (ItzSl K x b) [z, TI, TO, i1, i2] z (zsL x t b z TI TO i1 i2) := by
  have five : ∀ {c : Addr}, c ∈ [z, TI, TO, i1, i2] → c = z ∨ c = TI ∨ c = TO ∨ c = i1 ∨ c = i2 := fun {c} h => by simpa using h
  have out : ∀ {c : Addr}, c ∉ [z, TI, TO, i1, i2] → c ≠ z ∧ c ≠ TI ∧ c ≠ TO ∧ c ≠ i1 ∧ c ≠ i2 := fun {c} h => by simpa using h
  have all : ∀ {i : Nat} {h : Heap}, zsL x t b z TI TO i1 i2 i h → ∀ c ∈ [z, TI, TO, i1, i2], ∃ o, h.get? c = some o ∧ ∀ v, o.data ≠ .cell v := fun {i h} st c hc => by
    obtain ⟨a1, a2, ⟨u, v, a3⟩, ⟨o1, e1, _, d1⟩, ⟨o2, e2, _, d2⟩⟩ := st
    rcases five hc with rfl | rfl | rfl | rfl | rfl
    · exact ⟨_, a1, fun v q => nomatch q⟩
    · exact ⟨_, a2, fun v q => nomatch q⟩
    · exact ⟨_, a3, fun v q => nomatch q⟩
    · exact ⟨_, e1, fun v q => by rw [d1] at q; cases q⟩
    · exact ⟨_, e2, fun v q => by rw [d2] at q; cases q⟩
  have keep : ∀ (i : Nat) (h h' : Heap), zsL x t b z TI TO i1 i2 i h → (∀ c ∈ [z, TI, TO, i1, i2], ∀ o, h.get? c = some o → h'.get? c = some o) → zsL x t b z TI TO i1 i2 i h' := fun i h h' st k => by
    obtain ⟨a1, a2, ⟨u, v, a3⟩, ⟨o1, e1, r1⟩, a5⟩ := st
    exact ⟨k z (by simp) _ a1, k TI (by simp) _ a2, ⟨u, v, k TO (by simp) _ a3⟩, ⟨o1, k i1 (by simp) _ e1, r1⟩, a5.at fun o q => k i2 (by simp) o q⟩
  refine ⟨by simp, fun i h st => all st, keep, ?_, ?_, fun A i s Q E st h => wpAny_pyIter_zip st.1 h⟩
  · intro X hP hw hK hc i pins s σ H E I hf st hg
    subst hP hw hK
    have lt : ∀ c ∈ [z, TI, TO, i1, i2], c < s.heap.objs.size := fun c hcm => Heap.lt_size (all st c hcm).choose_spec.1
    obtain ⟨a1, a2, ⟨u0, v0, a3⟩, a4, a5⟩ := st
    obtain ⟨ys, c, y, hy, hcx, hyi⟩ := hg
    obtain ⟨its, rv, pt0, _⟩ := I.list hy
    have pt := pt0.isList
    obtain ⟨u, hu, ru⟩ := rv.get hyi
    have hh : X.A.in1.handled = none := I.ok.hd hc
    have l1 : i < x.cps.size := (Array.getElem?_eq_some_iff.mp hcx).1
    have l2 : i < its.toArray.size := by
      have := (List.getElem?_eq_some_iff.mp hu).1
      simpa using this
    refine wpAny_pyNext_zipD2_item S (draws_text hh i1 x t) (Draws.list hh i2 b hb its.toArray) a1 a2 a3 a4 ⟨a5, pt⟩ l1 l2 fun x1 x2 h' tk p1 p2 b1 b2 b3 b4 b5 b6 b7 => ?_
    refine ⟨_, rfl, wpAny_letOwnedTupleGo_zip (s := { s with heap := h', toks := tk }) b1 fun h2 q1 sb => ?_⟩
    obtain ⟨c', tc, hc', rfl⟩ := p1
    rw [hcx] at hc'
    cases hc'
    have hx2 : its.toArray[i]? = some u := by simpa using hu
    rw [hx2] at p2
    cases p2
    have zl := lt z (by simp)
    have hT : h2.get? s.heap.objs.size = some { cls := .type "tuple", data := .seq #[.str ⟨#[c]⟩ tc, u] } := (sb.2 _ (Nat.ne_of_gt zl)).trans b5
    have new : ObjOk X.prog X.w (upd H s.heap.objs.size (.tup [.str ⟨#[c]⟩, y])) h2 s.heap.objs.size (.tup [.str ⟨#[c]⟩, y]) :=
      ⟨by show 2 ≤ sizeLine; decide, [.str ⟨#[c]⟩ tc, u], .cons ⟨tc, rfl⟩ (.cons ru .nil), ⟨_, hT, rfl, _, rfl⟩⟩
    have I1 : Inv X pins σ (upd H s.heap.objs.size (.tup [.str ⟨#[c]⟩, y])) { s with heap := h2, toks := tk } :=
      I.turnedNew (t' := tk) (ch := [z, TI, TO, i1, i2]) (fun d o hd q => by
        obtain ⟨n1, n2, n3, n4, n5⟩ := out hd
        exact (sb.2 d n1).trans (b7 d o n1 n3 n4 n5 q)) hf (Nat.le_refl _) new
    obtain ⟨o1, g1, r1⟩ := b3
    refine ⟨.ref s.heap.objs.size, _, I1, rfl, ⟨_, c, y, rfl, I.hok.fresh (Nat.le_refl _), rfl, hcx, fun l hl => by rw [I.list_inj hl hy]; exact hyi⟩, ⟨q1, ?_, ⟨_, _, (sb.2 _ S.TOz).trans b2⟩, ⟨o1, (sb.2 _ S.zi1.symm).trans g1, r1⟩, b4.1.at fun o q => (sb.2 _ S.zi2.symm).trans q⟩, fun d hd => ?_⟩
    · exact (sb.2 _ S.TIz).trans (b7 _ _ S.TIz S.TITO S.TIi1 S.TIi2 a2)
    · rw [upd_ne (Nat.ne_of_lt (lt d hd))]
      exact (hf d hd).1
  · intro X hP hw hK hc i pins s σ H E I hf st hg
    subst hP hw hK
    obtain ⟨a1, a2, ⟨u0, v0, a3⟩, a4, a5⟩ := st
    obtain ⟨ys, hy, k1, k2, k3⟩ := hg
    obtain ⟨its, rv, pt0, _⟩ := I.list hy
    have pt := pt0.isList
    have hh : X.A.in1.handled = none := I.ok.hd hc
    have l := rv.length
    have sz : its.toArray.size = ys.length := by simp [l]
    refine wpAny_pyNext_zipD2_end S (draws_text hh i1 x t) (Draws.list hh i2 b hb its.toArray) a1 a2 a3 a4 ⟨a5, pt⟩ k1 (by rw [sz]; exact k2) (by rw [sz]; exact k3) fun h' tk hk => ⟨rfl, I.turnedL (t' := tk) (ch := [z, TI, TO, i1, i2]) (fun d o hd q => ?_) hf⟩
    obtain ⟨n1, n2, n3, n4, n5⟩ := out hd
    exact hk d o n1 n3 n4 n5 q
def iZipSl (K : PySem.W.Frag) (ta : TA) : TI := fun σ H R => ta σ H fun vs H1 => ∃ x b ys, vs = [.str x, .ref b] ∧ SqL K H1 b ys ∧ R (ItzSl K x b) H1
theorem pi_zipSl {X : Cx} {e e2 : Expr} {ta : TA} {p pos tpos : Pos} {elts : List Expr} {kk : Nat} (hg : Gl X "zip") (hm : X.mg "zip" = none) (ha : PA X [e, e2] ta)
    (hs : starEach [e, e2] X.env = (false, eval e X.env) :: starEach [e2] X.env := by rfl) (hpl : (backTo pos (starEach [e2] X.env)).any (·.1) = false := by rfl) :
    PI X (.Tuple elts kk tpos) (.Call (.Name "zip" p) [e, e2] [] pos) (iZipSl X.K ta) := by
  refine ⟨fun pins s σ H R I h => ?_⟩
  refine Call_ (ld_blt I hg hm PyProof.Rows.boot_zip (PyProof.Rows.callWith_type1 (thn (ha.run pos pins s σ H _ I h) fun us s1 ⟨vs, H1, I1, r1, q1⟩ => ?_) hs hpl))
  obtain ⟨x, b, ys, rfl, hy, q⟩ := q1
  cases r1 with
  | cons r rr =>
    cases rr with
    | cons r' rr =>
      cases rr
      obtain ⟨t, rfl⟩ := r
      cases r'
      obtain ⟨its, rv, pt0, _⟩ := I1.list hy
      have pt := pt0.isList
      obtain ⟨ob, hob, _⟩ := id pt
      have hb : b < s1.heap.objs.size := Heap.lt_size hob
      refine zip_begins2 (begins_text x t) (begins_list b its.toArray) trivial pt fun h' b1 b2 b3 b4 b5 b6 b7 => wpAny_pyIter_zip b1 ?_
      have I2 : Inv X pins σ H1 { s1 with heap := h' } := I1.kept (t' := s1.toks) b7
      refine ⟨s1.heap.objs.size + 4, [s1.heap.objs.size + 4, s1.heap.objs.size + 2, s1.heap.objs.size + 3, s1.heap.objs.size, s1.heap.objs.size + 1], _, _, H1, rfl, I2, turn_zipSl (t := t) (zs_sep hb) (nat_ne (.inl (Nat.lt_succ_of_lt hb))), ⟨b1, b2, ⟨_, _, b3⟩, ⟨_, b4, rfl, rfl⟩, ⟨_, b5, rfl, rfl⟩⟩, fun c hc => ?_, q⟩
      exact I1.fpOk (zs_le hc) (I1.hok.fresh (zs_le hc))
def zipSLD : List D → Option (List D)
  | [.str x, .lst ys] => some (zipL (x.cps.toList.map fun c => .str ⟨#[c]⟩) ys)
  | _ => none
section
variable {K : PySem.W.Frag} {g : G} {W : WX} {Hf0 : Hp}
theorem yl_zipSl {x : Str} {b : Addr} {ws : List V} {es : List D} (h' : SqL K Hf0 b ws) (r' : Reps K g Hf0 es ws) : Yl K g (ItzSl K x b) (zipL (x.cps.toList.map fun c => .str ⟨#[c]⟩) es) Hf0 := fun i Hf H e1 e2 => by
  have hs' : SqL K H b ws := e2.l (e1.l h')
  refine ⟨fun d hd => ?_, fun q => ?_⟩
  · obtain ⟨a, y, ha, hy, rfl⟩ := zipL_get _ _ _ _ hd
    rw [List.getElem?_map] at ha
    cases c : x.cps.toList[i]? with
    | none => rw [c] at ha; cases ha
    | some k =>
      rw [c] at ha
      cases ha
      have hi : x.cps[i]? = some k := by rw [← Array.getElem?_toList]; exact c
      obtain ⟨w, hw, rw'⟩ := Reps.getD r' hy
      refine ⟨⟨ws, k, w, hs', hi, hw⟩, fun v H' hx => ?_⟩
      obtain ⟨T, k', u, rfl, hT, rfl, hk, hu⟩ := hx
      have q2 := hu ws hs'
      rw [hw] at q2
      rw [hi] at hk
      cases q2
      cases hk
      obtain ⟨w, rr⟩ := new_tup (vs := [.str ⟨#[k]⟩, w]) (ds := [_, _]) e2 hT (.cons (.str _) (.cons (rw'.mono e1) .nil))
      exact ⟨_, w, rr⟩
  · rw [zipL_len, List.length_map, Array.length_toList] at q
    have l := r'.len
    exact ⟨ws, hs', by omega, by omega, by omega⟩
theorem evi_zipSl {ta : TA} {m : M (List D)} (h : EvL K g W ta m) : EvI K g W (iZipSl K ta) (iArg zipSLD m) :=
  fun env σ Hf H s R q => h env σ Hf H s _ (q.bnd.imp fun ds e1 Hf1 H1 _ s1 h1 vs r => by
    obtain ⟨z, hz, k⟩ := Aft.lft s1.sr h1
    have k' := k Hf1 H1 (Grow.refl s1.sr.ex)
    unfold zipSLD at hz
    split at hz
    · cases hz
      cases r with
      | cons a b =>
        cases b with
        | cons b c =>
          cases c
          cases a
          cases b with
          | lst e' r' => exact ⟨_, _, _, rfl, SqL.of (s1.sr.ex _ _ e'), k' _ (yl_zipSl (SqL.of e') r')⟩
    · cases hz)
end
section
variable {X : Cx} {g : G} {W : WX} {e e2 : Expr} {ma : M (List D)} {p pos tpos : Pos} {elts : List Expr} {kk : Nat}
theorem i_zipSl (h : PAM X g W [e, e2] ma) (hm : X.mg "zip" = none) (hg : Gl X "zip" := by rfl) (hs : starEach [e, e2] X.env = (false, eval e X.env) :: starEach [e2] X.env := by rfl) (hpl : (backTo pos (starEach [e2] X.env)).any (·.1) = false := by rfl) :
    PIM X g W (.Tuple elts kk tpos) (.Call (.Name "zip" p) [e, e2] [] pos) (iArg zipSLD ma) := by
  obtain ⟨t, h1, h2⟩ := h
  exact ⟨_, pi_zipSl hg hm h1 hs hpl, evi_zipSl h2⟩
end
end DL

set_option Elab.async false
set_option linter.all false
set_option maxRecDepth 100000
set_option maxHeartbeats 1000000
namespace DL
open PySem PySem.Spec L2 PyProof.Rows
/-! ### first, *rest = a list -/
section
variable {prog : Program} {w : World} {A : Around} {E : Value → Shared → Prop} {s : Shared}
theorem star_items {l : Addr} {v0 : Value} {rest : List Value} {Q : List Value → Shared → Prop} (ls : s.heap.IsList l (v0 :: rest).toArray) (nh : A.handled = none) (sz : rest.length + 1 ≤ sizeLine)
    (k : ∀ (h2 : Heap) (tk : Nat), (∀ b o, s.heap.get? b = some o → h2.get? b = some o) → Q [v0, .ref h2.objs.size] { s with heap := h2.push { cls := .type "list", data := .seq rest.toArray }, toks := tk }) :
    wpAny (model prog w) A (unpackItems (.ref l) 2 (some 1)) Q E s := by
  have apart : l ≠ s.heap.objs.size := by
    obtain ⟨o, e, _⟩ := ls
    exact Nat.ne_of_lt (Heap.lt_size e)
  unfold unpackItems
  refine wpAny_bind ?_
  unfold notIterableAtAll
  refine wpAny_bind (wpAny_specialOf ls.typeIs slot_list_iter.lookup ?_)
  refine wpAny_pure ?_
  simp only [Bool.false_eq_true, if_false]
  refine wpAny_bind (wpAny_holding (wpAny_pyIter_list ls ?_))
  refine wpAny_bind (wpAny_holding (PySem.W.kun_draw apart 1 0 _ _ ⟨_, Heap.get?_push_size _ rfl, rfl, rfl⟩ (ls.push _) (by simp) fun g1 i1 b1 => ?_))
  have ls1 : g1.IsList l (v0 :: rest).toArray := (ls.push _).extBut b1.extBut apart
  rw [Nat.zero_add] at i1
  have i1' := i1
  obtain ⟨oi, ei, _⟩ := i1'
  have ls1' := ls1
  obtain ⟨ol, el, _⟩ := ls1'
  have t1 : (((v0 :: rest).toArray.toList.drop 0).take 1) = [v0] := by simp
  rw [t1]
  rw [if_neg (show ¬ (([v0] : List Value).length < 1) by simp)]
  refine wpAny_bind (wpAny_holding (PySem.W.kun_collect (s := { s with heap := g1 }) (T := "list_iterator") (.inr (.inr (.inl rfl)))
    (Walks.list (A := A.in1) nh s.heap.objs.size l apart (v0 :: rest).toArray) (fun j u st => st.1.typeIs) (k := 1) (by simp) ⟨i1, ls1⟩ (Heap.lt_size ei) (Heap.lt_size el) (fun g2 tk kp => ?_) (by simpa using sz)))
  have t2 : ((v0 :: rest).toArray.toList.drop 1) = rest := by simp
  rw [t2]
  have t3 : (2 : Nat) - 1 - 1 = 0 := rfl
  show wpAny _ _ (if rest.length < 2 - 1 - 1 then _ else _) _ _ _
  rw [if_neg (by omega)]
  have t4 : rest.take (rest.length - (2 - 1 - 1)) = rest := by simp
  have t5 : rest.drop (rest.length - (2 - 1 - 1)) = [] := by simp
  show wpAny _ _ (newList (rest.take (rest.length - (2 - 1 - 1))) >>= fun d => pure ([v0] ++ [d] ++ rest.drop (rest.length - (2 - 1 - 1)))) _ _ _
  rw [t4, t5]
  refine wpAny_bind (wpAny_newList (wpAny_pure ?_) (by omega))
  refine k g2 tk fun b o e => kp b o (Nat.ne_of_lt (Heap.lt_size e)) (b1.extBut b o (Nat.ne_of_lt (Heap.lt_size e)) (Heap.get?_push_of_some _ e))
end
def gStar (K : PySem.W.Frag) (t : TGs) : TG := fun v σ H Q => ∃ a x xs, v = .ref a ∧ SqL K H a (x :: xs) ∧ ∀ p, H p = none → t [x, .ref p] σ (upd H p (.lst xs)) Q
theorem pg_star {X : Cx} {es fs : List Expr} {k : Nat} {t : TGs} {pos : Pos} (hc : X.calm = true) (h : PGs X fs t) (he : (assignEach es X.env).map (·.2) = (assignEach fs X.env).map (·.2) := by rfl)
    (hn : (assignEach es X.env).length = 2 := by rfl) (hst : (assignEach es X.env).findIdx? (·.1) = some 1 := by rfl) : PG X (.Tuple es k pos) (gStar X.K t) := by
  refine ⟨fun pins s σ H v u Q I r hw => ?_⟩
  obtain ⟨a, x, xs, e1, hq, hw⟩ := hw
  subst e1
  cases r
  obtain ⟨its, rv, pl, hz⟩ := I.list hq
  cases rv with
  | @cons _ v0 _ rest r0 rr =>
    rw [assign_Tuple]
    refine wpAny_bind (wpAny_standAt ?_)
    unfold unpack
    rw [hn, hst]
    have sz : rest.length + 1 ≤ sizeLine := by simpa [rr.length] using hz
    refine wpAny_bind (wpAny_holding (star_items pl.isList (I.ok.hd hc) sz fun h2 tk kp => ?_))
    rw [he]
    have I1 : Inv X pins σ H { s with heap := h2, toks := tk } := I.kept (t' := tk) kp
    have lz : xs.length ≤ sizeLine := by rw [← rr.length] at sz; omega
    have I2 : Inv X pins σ (upd H h2.objs.size (.lst xs)) { s with heap := h2.push { cls := .type "list", data := .seq rest.toArray }, toks := tk } :=
      I1.laid (t' := tk) (fun b o e => Heap.get?_push_of_some _ e) (Nat.le_refl _) (o := .lst xs) ⟨lz, rest, 0, rr, Heap.get?_push_size _ rfl⟩
    exact h.run pins _ σ _ [x, .ref h2.objs.size] _ Q I2 (.cons r0 (.cons rfl .nil)) (hw _ (I1.hok.fresh (Nat.le_refl _)))
def tgStar (t : Tgs) : Tg := fun d env => match d with
  | .lst (x :: xs) => t [x, .lst xs] env
  | _ => none
theorem evg_star {K : PySem.W.Frag} {g : G} {u : TGs} {b : Tgs} {us : List Nat} (hb : EvGs K g u b us) : EvG K g (gStar K u) (tgStar b) us := by
  intro env σ Hf H v d s r Q h
  cases r <;> try exact (show False from h).elim
  case lst a ds vs h1 r1 =>
    cases r1 with
    | nil => exact (show False from h).elim
    | @cons x xs v0 rest r0 rr =>
      refine ⟨a, v0, rest, rfl, SqL.of (s.ex _ _ h1), fun p hp => ?_⟩
      obtain ⟨w, rl⟩ := new_lst s.ex hp rr
      have sg := w.step s
      refine hb env σ _ _ [v0, .ref p] [x, .lst xs] sg.sr (.cons (r0.mono w.f) (.cons rl .nil)) Q ?_
      revert h
      show (match b [x, .lst xs] env with
        | some env' => ∀ σ' Hf' H', Step K g env σ Hf H env' σ' Hf' H' → (∀ j, j ∉ us → σ'[j]? = σ[j]?) → Q σ' H'
        | none => False) → _
      cases b [x, .lst xs] env with
      | none => exact fun h => h
      | some e2 => exact fun h σ2 Hf2 H2 s2 o2 => h σ2 Hf2 H2 (sg.trans s2) o2
section
variable {X : Cx} {g : G} {es fs : List Expr} {u : Tgs} {us : List Nat} {pos : Pos}
theorem g_star {k : Nat} (h : PGsM X g fs u us) (hc : X.calm = true := by rfl) (he : (assignEach es X.env).map (·.2) = (assignEach fs X.env).map (·.2) := by rfl)
    (hn : (assignEach es X.env).length = 2 := by rfl) (hst : (assignEach es X.env).findIdx? (·.1) = some 1 := by rfl) : PGM X g (.Tuple es k pos) (tgStar u) us := by
  obtain ⟨a, h1, h2⟩ := h
  exact ⟨_, pg_star hc h1 he hn hst, evg_star h2⟩
end
end DL

set_option Elab.async false
set_option linter.all false
set_option maxRecDepth 100000
set_option maxHeartbeats 400000
namespace DL
open PySem L2
/-! ### mirrors, evaluated -/
def np : Sl → Bool
  | .pn _ => false
  | _ => true
def cm : Sl → Bool
  | .sh _ => true
  | .no => true
  | _ => false
def npAt (env : En) (i : Nat) : Bool := match env[i]? with
  | some y => np y
  | none => false
theorem sto_np (i : Nat) (x : Sl) (env : En) : sto i x env = if npAt env i = true then .ok .nx (env.set i x) else .bad := by
  unfold sto npAt
  cases env[i]? with
  | none => simp
  | some y => cases y <;> simp [np]
theorem stE_np (i : Nat) (x : Sl) (env : En) : stE i x env = if npAt env i = true then some (env.set i x) else none := by
  unfold stE npAt
  cases env[i]? with
  | none => simp
  | some y => cases y <;> simp [np]
theorem calmS_cm (y : Sl) : calmS (some y) = cm y := by cases y <;> rfl
theorem np_sh (d : D) : np (.sh d) = true := rfl
theorem np_ow (d : D) : np (.ow d) = true := rfl
theorem np_no : np .no = true := rfl
theorem cm_sh (d : D) : cm (.sh d) = true := rfl
theorem cm_no : cm .no = true := rfl
theorem full_lst (xs : List D) : full (.lst xs) = true := rfl
theorem full_ins (c : Nat) (xs : List D) : full (.ins c xs) = (xs.length == nmN c) := rfl
theorem loop_nx {t : Tg} {b : S} {d : D} {ds : List D} {env e1 e2 : En} (h1 : t d env = some e1) (h2 : b e1 = .ok .nx e2) : sLoop t b (d :: ds) env = sLoop t b ds e2 := by
  simp only [sLoop, h1, h2]
theorem for_ok {mi : M (List D)} {t : Tg} {b : S} {env e1 e2 : En} {ds : List D} (h1 : mi env = .ok ds e1) (h2 : sLoop t b ds e1 = .ok .nx e2) : sFor mi t b env = .ok .nx e2 := by
  simp only [sFor, DL.bnd, h1, h2]
theorem seq_nx {a b : S} {env e1 : En} (h1 : a env = .ok .nx e1) : sSeq a b env = b e1 := by
  simp only [sSeq, h1]
theorem fn_rt {k n : Nat} {b : S} {args : En} {d : D} {e args' : En} (hl : args.length = k) (h : b (args ++ List.replicate (n - k) .no) = .ok (.rt d) e) (ht : e.take k = args') : fnM k n (nox b) args = .ok (.rt d) args' := by
  subst hl
  simp only [fnM, DL.run, DL.nox, if_true, h, ht]
theorem fn_rto {k n : Nat} {b : S} {args : En} {d : D} {e args' : En} (hl : args.length = k) (h : b (args ++ List.replicate (n - k) .no) = .ok (.rto d) e) (ht : e.take k = args') : fnM k n (nox b) args = .ok (.rto d) args' := by
  subst hl
  simp only [fnM, DL.run, DL.nox, if_true, h, ht]
theorem fn_nx {k n : Nat} {b : S} {args : En} {e args' : En} (hl : args.length = k) (h : b (args ++ List.replicate (n - k) .no) = .ok .nx e) (ht : e.take k = args') : fnM k n (nox b) args = .ok (.rt .non) args' := by
  subst hl
  simp only [fnM, DL.run, DL.nox, if_true, h, ht]
/-! a comprehension over a pure item -/
theorem lc_pure {v : Nat} {m : M D} {env : En} {f : D → D} (hv : env[v]? = some .no) : ∀ (ds acc : List D), (∀ d ∈ ds, m (env.set v (.sh d)) = .ok (f d) (env.set v (.sh d))) → lcLoop (tgName v) (ret true) m [v] ds acc env = .ok (acc ++ ds.map f) env
  | [], acc, _ => by simp [lcLoop, DL.ret]
  | d :: ds, acc, h => by
    have hlt : v < env.length := (List.getElem?_eq_some_iff.mp hv).1
    have h1 : tgName v d env = some (env.set v (.sh d)) := by
      simp [tgName, stE, hv]
    have h2 := h d List.mem_cons_self
    have h3 : calmE (env.set v (.sh d)) [v] = true := by
      simp [calmE, List.getElem?_set_self hlt, calmS]
    have h4 : wpE (env.set v (.sh d)) [v] = env := by
      simp only [wpE, List.set_set]
      rw [List.getElem?_eq_getElem hlt] at hv
      rw [← Option.some.inj hv, List.set_getElem_self]
    have ih := lc_pure (m := m) (f := f) hv ds (acc ++ [f d]) fun d' hd => h d' (List.mem_cons_of_mem _ hd)
    simp only [lcLoop, h1, DL.bnd, DL.ret, if_true, h2, h3, h4, ih, List.map_cons, List.append_assoc, List.singleton_append]
theorem mLc_pure {v : Nat} {mi : M (List D)} {m : M D} {env : En} {f : D → D} {ds : List D} {y : Sl} (hmi : mi env = .ok ds env) (hv : env[v]? = some y) (hc : cm y = true) (hs : small ds.length = true) (hm : ∀ d ∈ ds, m (env.set v (.sh d)) = .ok (f d) (env.set v (.sh d))) :
    mLc mi (tgName v) (ret true) m [v] env = .ok (.lst (ds.map f)) env := by
  have hlt : v < env.length := (List.getElem?_eq_some_iff.mp hv).1
  have c1 : calmE env [v] = true := by
    simp only [calmE, List.all_cons, List.all_nil, Bool.and_true, hv, calmS_cm, hc]
  have h := lc_pure (v := v) (m := m) (env := env.set v .no) (f := f) (List.getElem?_set_self hlt) ds [] (by simpa using hm)
  have h4 : rsE (env.set v .no) env [v] = env := by
    simp only [rsE, List.set_set]
    have : env.getD v .no = env[v] := by simp [List.getD, List.getElem?_eq_getElem hlt]
    rw [this, List.set_getElem_self]
  simp only [mLc, DL.bnd, hmi, c1, hs, and_self, if_true, DL.nox, wpE, h, h4, List.nil_append]
theorem cand_int {α : Type} (L : List (Nat × α)) (i : Int) : cand L (.int i) = none := rfl
theorem cand_tup {α : Type} (L : List (Nat × α)) (i : List D) : cand L (.tup i) = none := rfl
theorem cand_lst {α : Type} (L : List (Nat × α)) (i : List D) : cand L (.lst i) = none := rfl
theorem cand_scr {α : Type} (L : List (Nat × α)) (i : List Int) : cand L (.scr i) = none := rfl
theorem cand_str {α : Type} (L : List (Nat × α)) (i : Str) : cand L (.str i) = none := rfl
theorem cand_bl {α : Type} (L : List (Nat × α)) (i : Bool) : cand L (.bl i) = none := rfl
theorem cand_non {α : Type} (L : List (Nat × α)) : cand L .non = none := rfl
theorem cand_ins {α : Type} (L : List (Nat × α)) (c : Nat) (ds : List D) : cand L (.ins c ds) = L.lookup c := rfl
theorem look0 {α : Type} (F : α) (L : List (Nat × α)) : List.lookup 0 ((0, F) :: L) = some F := rfl
theorem okY_ii (c : Nat) (xs ys : List D) : okY (.ins c xs) (.ins c ys) = true := by simp [okY]
theorem okY_int (c : Nat) (xs : List D) (i : Int) : okY (.ins c xs) (.int i) = true := rfl
theorem sameC_ii (c : Nat) (xs ys : List D) : sameC (.ins c xs) (.ins c ys) = true := by simp [sameC]
theorem isi_int (cs : List Nat) (i : Int) : isiD (okOf cs) [.ty "int"] (.int i) = some (.bl true) := rfl
theorem isi_intb (cs : List Nat) (i : Int) : isiD (okOf cs) [.ty "bool"] (.int i) = some (.bl false) := rfl
end DL

set_option Elab.async false
set_option linter.all false
set_option maxRecDepth 100000
set_option maxHeartbeats 400000
namespace DL
open PySem L2
/-! ### equality of rows of ints, digits -/
theorem eqB_int (i j : Int) : eqB (.int i) (.int j) = some (decide (i = j)) := by
  simp only [eqB, toPD, SeqAt.shaped, PyData.canLay0, PyData.depth, PyData.eqv]
  rfl
end DL

set_option Elab.async false
set_option linter.all false
set_option maxRecDepth 100000
set_option maxHeartbeats 400000
namespace DL
open PySem L2
theorem okE_n (c : Nat) (l : List Nat) (ds : List D) : okE (c :: l) (.ins c ds) = true := by simp [okE]
theorem okE_01 (l : List Nat) (ds : List D) : okE (0 :: l) (.ins 1 ds) = okE l (.ins 1 ds) := by simp [okE]
theorem okE_int (l : List Nat) (i : Int) : okE l (.int i) = true := rfl
theorem okE_bl (l : List Nat) (i : Bool) : okE l (.bl i) = true := rfl
theorem okE_str (l : List Nat) (i : Str) : okE l (.str i) = true := rfl
theorem okE_non (l : List Nat) : okE l .non = true := rfl
theorem look1 {α : Type} (F : α) (L : List (Nat × α)) : List.lookup 1 ((1, F) :: L) = some F := rfl
theorem look01 {α : Type} (F : α) (L : List (Nat × α)) : List.lookup 0 ((1, F) :: L) = List.lookup 0 L := rfl
theorem look10 {α : Type} (F : α) (L : List (Nat × α)) : List.lookup 1 ((0, F) :: L) = List.lookup 1 L := rfl
theorem stoX_cons (i : Nat) (d : It) (r : List (Nat × It)) (env : En) : sStoX ((i, d) :: r) env = if npAt env i = true then sStoX r (env.set i d.sl) else .bad := by
  show (match sto i d.sl env with
    | .ok .nx e => sStoX r e
    | _ => .bad) = _
  rw [sto_np]
  by_cases h : npAt env i = true
  · rw [if_pos h, if_pos h]
  · rw [if_neg h, if_neg h]
theorem stoX_nil (env : En) : sStoX [] env = .ok .nx env := rfl
theorem zip2 (i j : Nat) (a b : It) : [i, j].zip [a, b] = [(i, a), (j, b)] := rfl
theorem zip3 (i j k : Nat) (a b c : It) : [i, j, k].zip [a, b, c] = [(i, a), (j, b), (k, c)] := rfl
theorem app_ow {i : Nat} {m : M D} {env e1 : En} {xs xs' : List D} {z : D} (h : own i env = .ok (.lst xs) env) (hm : m env = .ok z e1) (h2 : own i e1 = .ok (.lst xs') e1) (hs : small (xs'.length + 1) = true) : sApp i m env = .ok .nx (mdf i (.lst (xs' ++ [z])) e1) := by
  have c : isLst (.lst xs) = true := rfl
  simp only [sApp, DL.bnd, h, c, if_true, hm, h2, hs]
end DL

set_option Elab.async false
set_option linter.all false
set_option maxRecDepth 100000
set_option maxHeartbeats 400000
namespace DL
open PySem L2
theorem lkk {α : Type} (k : Nat) (F : α) (L : List (Nat × α)) : List.lookup k ((k, F) :: L) = some F := by simp [List.lookup]
theorem lkn {α : Type} (k j : Nat) (F : α) (L : List (Nat × α)) (h : (k == j) = false) : List.lookup k ((j, F) :: L) = List.lookup k L := by simp [List.lookup, h]
theorem lk0 {α : Type} (k : Nat) : List.lookup k ([] : List (Nat × α)) = none := rfl
end DL

set_option Elab.async false
set_option linter.all false
set_option maxRecDepth 100000
set_option maxHeartbeats 400000
namespace LW
open PySem L2 PyProof.Rows DL
def pw_10_18 : M D := mBin powD (ret (.int 10)) (ret (.int 18))
def pw_10_30 : M D := mBin powD (ret (.int 10)) (ret (.int 30))
def pw_10_40 : M D := mBin powD (ret (.int 10)) (ret (.int 40))
def pw_10_60 : M D := mBin powD (ret (.int 10)) (ret (.int 60))
def pw_10_50 : M D := mBin powD (ret (.int 10)) (ret (.int 50))
def m_wall : S := fun _ => .bad
def F_wall : Fm := fnM 1 1 (nox m_wall)
def m_is_integer : S := sRet (bnd (mB (mUn (isiD (okOf [2]) [.ty "int"]) (mVar 0))) fun x => if x = true then mBv (mNot (mB (mUn (isiD (okOf [2]) [.ty "bool"]) (mVar 0)))) else ret (.bl false))
def F_is_integer : Fm := fnM 1 1 (nox m_is_integer)
def m_is_between : S := sRet (bnd (mB (mCallA F_is_integer [] (mCons (mVar 0) mNil))) fun x => if x = true then mChain leD leD (mVar 1) (mVar 0) (mVar 2) else ret (.bl false))
def F_is_between : Fm := fnM 3 3 (nox m_is_between)
def m_check_between : S := sIf (mNot (mTru (mCallA F_is_between [] (mCons (mVar 0) (mCons (mVar 1) (mCons (mVar 2) mNil)))))) (fun _ => .bad) sNx
def F_check_between : Fm := fnM 3 3 (nox m_check_between)
def m_fits : S := sSeq (sIf (mB (mBin eqD (mVar 0) (ret (.str "r")))) (sRet (mCallA F_is_between [] (mCons (mVar 1) (mCons (ret (.int 0)) (mCons (mBin subD (ret (.int 8)) (ret (.int 1))) mNil))))) sNx)
  (sSeq (sIf (mB (mBin eqD (mVar 0) (ret (.str "f")))) (sRet (mCallA F_is_between [] (mCons (mVar 1) (mCons (ret (.int 0)) (mCons (mBin subD (ret (.int 4)) (ret (.int 1))) mNil))))) sNx)
  (sSeq (sIf (mB (mBin eqD (mVar 0) (ret (.str "p")))) (sRet (mCallA F_is_between [] (mCons (mVar 1) (mCons (mUn negD (ret (.int 40))) (mCons (ret (.int 40)) mNil))))) sNx)
  (sSeq (sIf (mB (mBin eqD (mVar 0) (ret (.str "t")))) (sRet (mCallA F_is_between [] (mCons (mVar 1) (mCons (ret (.int 0)) (mCons (ret (.int 200)) mNil))))) sNx)
  (sRet (mCallA F_is_integer [] (mCons (mVar 1) mNil))))))
def F_fits : Fm := fnM 2 2 (nox m_fits)
abbrev c_is_instruction_1 : M D := mLc (iArg zipSD (mCons (mVar 1) (mCons (mSl (mVar 0) (mPart (ret (.int 1))) mNoP) mNil))) (tgTup 2 (tgCons (tgName 2) (tgCons (tgName 3) tgNil))) (ret true) (mCallA F_fits [] (mCons (mVar 2) (mCons (mVar 3) mNil))) [2, 3]
def m_is_instruction : S := sSeq (sIf (mOr (mNot (mTru (mUn (isiD (okOf [2]) [.ty "tuple"]) (mVar 0)))) (mOr (mB (mBin eqD (mVar 0) (mTup mNil))) (mOr (mNot (mTru (mUn (isiD (okOf [2]) [.ty "str"]) (mBin ixD (mVar 0) (ret (.int 0)))))) (mB (mInK tb_FORMS true (mBin ixD (mVar 0) (ret (.int 0)))))))) (sRet (ret (.bl false))) sNx)
  (sSeq (sSet 1 (mGetK tb_FORMS (mBin ixD (mVar 0) (ret (.int 0)))))
  (sRet (bnd (mB (mBin eqD (mCb lenD (mCons (mVar 0) mNil)) (mBin addD (mCb lenD (mCons (mVar 1) mNil)) (ret (.int 1))))) fun x => if x = true then mCb allD (mCons (frz c_is_instruction_1) mNil) else ret (.bl false))))
def F_is_instruction : Fm := fnM 1 4 (nox m_is_instruction)
def m_is_within : S := sRet (bnd (mB (mBin (inD true) (mBin ixD (mVar 0) (ret (.int 0))) (mTup (mCons (ret (.str "jump")) (mCons (ret (.str "goto")) mNil))))) fun x => if x = true then ret (.bl true) else mBin leD (mBin ixD (mVar 0) (mUn negD (ret (.int 1)))) (mVar 1))
def F_is_within : Fm := fnM 2 2 (nox m_is_within)
def m_shifted : S := sSeq (sIf (mB (mBin (inD false) (mBin ixD (mVar 0) (ret (.int 0))) (mTup (mCons (ret (.str "jump")) (mCons (ret (.str "goto")) mNil))))) (sRet (mTup (mStar (mSl (mVar 0) mNoP (mPart (mUn negD (ret (.int 1))))) (mCons (mBin addD (mBin ixD (mVar 0) (mUn negD (ret (.int 1)))) (mVar 1)) mNil)))) sNx)
  (sRet (mVar 0))
def F_shifted : Fm := fnM 2 2 (nox m_shifted)
abbrev c_Program_init_1 : M D := mLc (iItm (bnd (own 0) fun d => lft (fldD "lines" d))) (tgName 3) (ret true) (mBin (inD false) (mBin ixD (mVar 3) (ret (.int 0))) (mTup (mCons (ret (.str "jump")) (mCons (ret (.str "goto")) mNil)))) [3]
abbrev b_Program_init_1 : S := sIf (mOr (mNot (mTru (mCallA F_is_instruction [] (mCons (mVar 2) mNil)))) (mNot (mTru (mCallA F_is_within [] (mCons (mVar 2) (mCons (mCb lenD (mCons (mVar 1) mNil)) mNil)))))) (fun _ => .bad) sNx
def m_Program_init : S := sSeq (sIf (mOr (mNot (mTru (mUn (isiD (okOf [2]) [.ty "list", .ty "tuple"]) (mVar 1)))) (mB (mBin gtD (mCb lenD (mCons (mVar 1) mNil)) (ret (.int 200))))) (fun _ => .bad) sNx)
  (sSeq (sFor (iItm (mVar 1)) (tgName 2) b_Program_init_1)
  (sSeq (sFldS "lines" 0 (mCb tupleD (mCons (mVar 1) mNil)))
  (sFldS "straight" 0 (mBv (mNot (mB (mCb anyD (mCons (frz c_Program_init_1) mNil))))))))
def F_Program_init : Fm := fnM 2 4 (nox m_Program_init)
def m_Program_instructions : S := sRet (mUn (fldD "lines") (mVar 0))
def F_Program_instructions : Fm := fnM 1 1 (nox m_Program_instructions)
def m_Program_is_straight : S := sDrop (mCallA F_wall [] (mCons (ret (.int 0)) mNil))
def F_Program_is_straight : Fm := fnM 1 1 (nox m_Program_is_straight)
def m_Program_len : S := sRet (mCb lenD (mCons (mUn (fldD "lines") (mVar 0)) mNil))
def F_Program_len : Fm := fnM 1 1 (nox m_Program_len)
def m_Program_eq : S := sRet (bnd (mB (mUn (isiD (okOf [2]) [.cl 2]) (mVar 1))) fun x => if x = true then mBin eqD (mUn (fldD "lines") (mVar 0)) (mUn (fldD "lines") (mVar 1)) else ret (.bl false))
def F_Program_eq : Fm := fnM 2 2 (nox m_Program_eq)
def m_Program_getitem : S := sSeq (sDrop (mCallA F_check_between [] (mCons (mVar 1) (mCons (ret (.int 0)) (mCons (mBin subD (bnd (mCons (mUn (fldD "lines") (mVar 0)) mNil) (mLenO [(2, F_Program_len)] lenD)) (ret (.int 1))) mNil)))))
  (sRet (mBin ixD (mUn (fldD "lines") (mVar 0)) (mVar 1)))
def F_Program_getitem : Fm := fnM 2 2 (nox m_Program_getitem)
def m_Program_iter : S := fun _ => .bad
def F_Program_iter : Fm := fnM 1 1 (nox m_Program_iter)
abbrev c_Program_add_1 : M D := mLc (iItm (mUn (fldD "lines") (mVar 1))) (tgName 3) (ret true) (mCallA F_shifted [] (mCons (mVar 3) (mCons (mVar 2) mNil))) [3]
def m_Program_add : S := sSeq (sSet 2 (bnd (mCons (mUn (fldD "lines") (mVar 0)) mNil) (mLenO [(2, F_Program_len)] lenD)))
  (sSeq (sIf (mB (mBin gtD (mBin addD (mVar 2) (bnd (mCons (mUn (fldD "lines") (mVar 1)) mNil) (mLenO [(2, F_Program_len)] lenD))) (ret (.int 200)))) (fun _ => .bad) sNx)
  (sRet (frz (mMakF F_Program_init 2 [] (mCons (mLst (mStar (mUn (fldD "lines") (mVar 0)) (mStar (frz c_Program_add_1) mNil))) mNil)))))
def F_Program_add : Fm := fnM 2 4 (nox m_Program_add)
abbrev c_is_name_1 : M D := mLc (iItm (mVar 0)) (tgName 1) (ret true) (mBin (inS false) (mVar 1) (ret (.str "abcdefghijklmnopqrstuvwxyz"))) [1]
def m_is_name : S := sSeq (sIf (mOr (mNot (mTru (mUn (isiD (okOf [2]) [.ty "str"]) (mVar 0)))) (mNot (mB (mChain leD leD (ret (.int 1)) (bnd (mCons (mVar 0) mNil) (mLenO [(2, F_Program_len)] lenD)) (ret (.int 8)))))) (sRet (ret (.bl false))) sNx)
  (sRet (mCb allD (mCons (frz c_is_name_1) mNil)))
def F_is_name : Fm := fnM 1 2 (nox m_is_name)
abbrev c_parse_count_1 : M D := mLc (iItm (mVar 0)) (tgName 1) (ret true) (mBin (inS false) (mVar 1) (ret (.str "0123456789"))) [1]
def m_parse_count : S := sSeq (sIf (mOr (mNot (mB (mChain leD leD (ret (.int 1)) (bnd (mCons (mVar 0) mNil) (mLenO [(2, F_Program_len)] lenD)) (ret (.int 200))))) (mNot (mTru (mCb allD (mCons (frz c_parse_count_1) mNil))))) (sRet (ret .non)) sNx)
  (sRet (mIf (mOr (mB (mCmpG [2] [(2, F_Program_eq)] false (eqS false) (mVar 0) (ret (.str "0")))) (mNot (mTru (mM1 startS (mVar 0) (ret (.str "0")))))) (mCb intS (mCons (mVar 0) mNil)) (ret .non)))
def F_parse_count : Fm := fnM 1 2 (nox m_parse_count)
def m_parse_integer : S := sSeq (sIf (mNot (mTru (mM1 startS (mVar 0) (ret (.str "-"))))) (sRet (mCallA F_parse_count [] (mCons (mVar 0) mNil))) sNx)
  (sSeq (sSet 1 (mCallA F_parse_count [] (mCons (mSl (mVar 0) (mPart (ret (.int 1))) mNoP) mNil)))
  (sRet (mIf (mOr (mB (mBin (isND false) (mVar 1) (ret .non))) (mB (mCmpG [2] [(2, F_Program_eq)] false eqD (mVar 1) (ret (.int 0))))) (ret .non) (mUn negD (mVar 1)))))
def F_parse_integer : Fm := fnM 1 2 (nox m_parse_integer)
def m_format_item : S := sRet (mIf (mB (mBin (inD false) (mVar 0) (mTup (mCons (ret (.str "r")) (mCons (ret (.str "f")) mNil))))) (mFmt2 (mVar 0) (mVar 1)) (mCb strS (mCons (mVar 1) mNil)))
def F_format_item : Fm := fnM 2 2 (nox m_format_item)
abbrev c_format_instruction_1 : M D := mLc (iArg zipSD (mCons (mVar 1) (mCons (mSl (mVar 0) (mPart (ret (.int 1))) mNoP) mNil))) (tgTup 2 (tgCons (tgName 2) (tgCons (tgName 3) tgNil))) (ret true) (mCallA F_format_item [] (mCons (mVar 2) (mCons (mVar 3) mNil))) [2, 3]
def m_format_instruction : S := sSeq (sSet 1 (mGetK tb_FORMS (mSubO [(2, F_Program_getitem)] (mVar 0) (ret (.int 0)))))
  (sRet (mM1 joinS (ret (.str " ")) (mLst (mCons (mSubO [(2, F_Program_getitem)] (mVar 0) (ret (.int 0))) (mStar (frz c_format_instruction_1) mNil)))))
def F_format_instruction : Fm := fnM 1 4 (nox m_format_instruction)
abbrev c_format_program_1 : M D := mLc (iItm (mPrp [(2, F_Program_instructions)] (mVar 0))) (tgName 1) (ret true) (mCallA F_format_instruction [] (mCons (mVar 1) mNil)) [1]
def m_format_program : S := sRet (mM1 joinS (ret (.str "\n")) (frz c_format_program_1))
def F_format_program : Fm := fnM 1 2 (nox m_format_program)
def m_parse_item : S := sSeq (sIf (mB (mBin (inD false) (mVar 0) (mTup (mCons (ret (.str "r")) (mCons (ret (.str "f")) mNil))))) (sRet (mIf (mTru (mM1 startS (mVar 1) (mVar 0))) (mCallA F_parse_count [] (mCons (mSl (mVar 1) (mPart (ret (.int 1))) mNoP) mNil)) (ret .non))) sNx)
  (sRet (mCallA F_parse_integer [] (mCons (mVar 1) mNil)))
def F_parse_item : Fm := fnM 2 2 (nox m_parse_item)
abbrev c_parse_instruction_1 : M D := mLc (iItm (mVar 3)) (tgName 5) (ret true) (mBin (isND false) (mVar 5) (ret .non)) [5]
abbrev c_parse_instruction_2 : M D := mLc (iArg zipSLD (mCons (mGetK tb_FORMS (mVar 1)) (mCons (mVar 2) mNil))) (tgTup 2 (tgCons (tgName 4) (tgCons (tgName 5) tgNil))) (ret true) (mCallA F_parse_item [] (mCons (mVar 4) (mCons (mVar 5) mNil))) [4, 5]
def m_parse_instruction : S := sSeq (sAsg (frz (mM1 splitS (mVar 0) (ret (.str " ")))) (tgStar (tgCons (tgName 1) (tgCons (tgName 2) tgNil))))
  (sSeq (sIf (mOr (mB (mInK tb_FORMS true (mVar 1))) (mB (mCmpG [2] [(2, F_Program_eq)] true neD (bnd (mCons (mGetK tb_FORMS (mVar 1)) mNil) (mLenO [(2, F_Program_len)] lenD)) (bnd (mCons (mVar 2) mNil) (mLenO [(2, F_Program_len)] lenD))))) (sRet (ret .non)) sNx)
  (sSeq (sSet 3 (frz c_parse_instruction_2))
  (sSeq (sIf (mTru (mCb anyD (mCons (frz c_parse_instruction_1) mNil))) (sRet (ret .non)) sNx)
  (sSeq (sIf (mB (mBin (inD false) (mVar 1) (mTup (mCons (ret (.str "jump")) (mCons (ret (.str "goto")) mNil))))) (sRet (mIf (mAnd (mB (mBin geD (mSubO [(2, F_Program_getitem)] (mVar 3) (mUn negD (ret (.int 1)))) (ret (.int 0)))) (mTru (mCallA F_is_instruction [] (mCons (mTup (mCons (mVar 1) (mStar (mSl (mVar 3) mNoP (mPart (mUn negD (ret (.int 1))))) (mCons (ret (.int 0)) mNil)))) mNil)))) (mTup (mCons (mVar 1) (mStar (mVar 3) mNil))) (ret .non))) sNx)
  (sRet (mIf (mTru (mCallA F_is_instruction [] (mCons (mTup (mCons (mVar 1) (mStar (mVar 3) mNil))) mNil))) (mTup (mCons (mVar 1) (mStar (mVar 3) mNil))) (ret .non)))))))
def F_parse_instruction : Fm := fnM 1 6 (nox m_parse_instruction)
def m_lines_of : S := sSeq (sIf (mNot (mTru (mUn (isiD (okOf [2]) [.ty "str"]) (mVar 0)))) (fun _ => .bad) sNx)
  (sRet (mIf (mB (mCmpG [2] [(2, F_Program_eq)] true (eqS true) (mVar 0) (ret (.str "")))) (frz (mM1 splitS (mVar 0) (ret (.str "\n")))) (mLst mNil)))
def F_lines_of : Fm := fnM 1 1 (nox m_lines_of)
abbrev b_parse_program_1 : S := sSeq (sSet 4 (mCallA F_parse_instruction [] (mCons (mVar 3) mNil)))
  (sSeq (sIf (mB (mBin (isND false) (mVar 4) (ret .non))) (fun _ => .bad) sNx)
  (sApp 1 (mVar 4)))
def m_parse_program : S := sSeq (sSetF 1 (mLst mNil))
  (sSeq (sFor (iArg enuD (mCons (mCallA F_lines_of [] (mCons (mVar 0) mNil)) mNil)) (tgTup 2 (tgCons (tgName 2) (tgCons (tgName 3) tgNil))) b_parse_program_1)
  (sRet (frz (mMakF F_Program_init 2 [] (mCons (mVar 1) mNil)))))
def F_parse_program : Fm := fnM 1 5 (nox m_parse_program)
def m_named_target : S := sSeq (sAsg (frz (mM1 splitS (mVar 0) (ret (.str " ")))) (tgStar (tgCons (tgName 1) (tgCons (tgName 2) tgNil))))
  (sSeq (sIf (mAnd (mB (mBin (inD false) (mVar 1) (mTup (mCons (ret (.str "jump")) (mCons (ret (.str "goto")) mNil))))) (mAnd (mB (mCmpG [2] [(2, F_Program_eq)] true neD (mVar 2) (mLst mNil))) (mTru (mCallA F_is_name [] (mCons (mSubO [(2, F_Program_getitem)] (mVar 2) (mUn negD (ret (.int 1)))) mNil))))) (sRet (mTup (mCons (mM1 joinS (ret (.str " ")) (mLst (mCons (mVar 1) (mStar (mSl (mVar 2) mNoP (mPart (mUn negD (ret (.int 1))))) (mCons (ret (.str "0")) mNil))))) (mCons (mSubO [(2, F_Program_getitem)] (mVar 2) (mUn negD (ret (.int 1)))) mNil)))) sNx)
  (sRet (mTup (mCons (mVar 0) (mCons (ret .non) mNil)))))
def F_named_target : Fm := fnM 1 3 (nox m_named_target)
abbrev b_assemble_1 : S := sSeq (sIf (mAnd (mB (mBin (isND true) (mVar 6) (ret .non))) (mB (mBin (dinD true) (mVar 6) (mVar 1)))) (fun _ => .bad) sNx)
  (sApp 8 (mIf (mB (mBin (isND false) (mVar 6) (ret .non))) (mVar 7) (mTup (mStar (mSl (mVar 7) mNoP (mPart (mUn negD (ret (.int 1))))) (mCons (mDgetS 1 (mVar 6)) mNil)))))
abbrev b_assemble_2 : S := sIf (mAnd (mTru (mM1 endS (mVar 4) (ret (.str ":")))) (mTru (mCallA F_is_name [] (mCons (mSl (mVar 4) mNoP (mPart (mUn negD (ret (.int 1))))) mNil)))) (sSeq (sIf (mB (mBin (dinD false) (mSl (mVar 4) mNoP (mPart (mUn negD (ret (.int 1))))) (mVar 1))) (fun _ => .bad) sNx)
  (sDputS 1 (mPk1 (fun d => lenD [d]) 2) (mSl (mVar 4) mNoP (mPart (mUn negD (ret (.int 1))))))) (sSeq (sAsg (mCallA F_named_target [] (mCons (mVar 4) mNil)) (tgTup 2 (tgCons (tgName 5) (tgCons (tgName 6) tgNil))))
  (sSeq (sSet 7 (mCallA F_parse_instruction [] (mCons (mVar 5) mNil)))
  (sSeq (sIf (mB (mBin (isND false) (mVar 7) (ret .non))) (fun _ => .bad) sNx)
  (sApp 2 (mTup (mCons (mVar 3) (mCons (mVar 7) (mCons (mVar 6) mNil))))))))
def m_assemble : S := sSeq (sParX [1, 2] (xO (ret (.dic [] [])) (xO (mLst mNil) xNil)))
  (sSeq (sFor (iArg enuD (mCons (mCallA F_lines_of [] (mCons (mVar 0) mNil)) mNil)) (tgTup 2 (tgCons (tgName 3) (tgCons (tgName 4) tgNil))) b_assemble_2)
  (sSeq (sSetF 8 (mLst mNil))
  (sSeq (sFor (iItm (mVar 2)) (tgTup 3 (tgCons (tgName 3) (tgCons (tgName 7) (tgCons (tgName 6) tgNil)))) b_assemble_1)
  (sRet (frz (mMakF F_Program_init 2 [] (mCons (mVar 8) mNil)))))))
def F_assemble : Fm := fnM 1 9 (nox m_assemble)
def m_law_pool : S := sSeq (sSet 2 (ret (.int 0)))
  (sSeq (sIf (mB (mBin ltD (mVar 1) (bnd (mCons (mVar 0) mNil) (mLenO [(2, F_Program_len)] lenD)))) (sSet 2 (mCb absD (mCons (mSubO [(2, F_Program_getitem)] (mVar 0) (mVar 1)) mNil))) sNx)
  (sSeq (sSet 3 (mBin modD (mBin mulD (mBinO [(2, F_Program_add)] addD (mBinO [(2, F_Program_add)] addD (mBinO [(2, F_Program_add)] addD (mBin modD (mVar 2) (ret (.int 2147483629))) (mBin mulD (mBin mulD (ret (.int 7919)) (mVar 1)) (mVar 1))) (mBin mulD (ret (.int 31)) (mVar 1))) (ret (.int 17))) (ret (.int 48271))) (ret (.int 2147483647))))
  (sRetF (mLst (mCons (mBin mulD (mVar 2) (mCb intD (mCons (mBin geD (mVar 2) pw_10_18) mNil))) (mCons (mBin modD (mBin mulD (mVar 3) (mVar 3)) (ret (.int 2147483629))) mNil))))))
def F_law_pool : Fm := fnM 2 4 (nox m_law_pool)
def m_law_take : S := sSeq (sIf (mB (mBin gtD (mIxS 0 (ret (.int 0))) (ret (.int 0)))) (sSeq (sSet 2 (mBin modD (mIxS 0 (ret (.int 0))) (mVar 1)))
  (sSeq (sPut 0 (mBin divD (mIxS 0 (ret (.int 0))) (mVar 1)) (ret (.int 0)))
  (sRet (mVar 2)))) sNx)
  (sSeq (sPut 0 (mBin modD (mBinO [(2, F_Program_add)] addD (mBin mulD (mIxS 0 (ret (.int 1))) (ret (.int 48271))) (ret (.int 12345))) (ret (.int 2147483647))) (ret (.int 1)))
  (sRet (mBin modD (mBin divD (mBin modD (mBin mulD (mIxS 0 (ret (.int 1))) (mIxS 0 (ret (.int 1)))) (ret (.int 2147483629))) (ret (.int 64))) (mVar 1))))
def F_law_take : Fm := fnM 2 3 (nox m_law_take)
abbrev b_law_text_1 : S := sApp 2 (mIf (mB (mCmpG [2] [(2, F_Program_eq)] false (eqS false) (mVar 3) (ret (.str "i")))) (mCb strS (mCons (mVar 4) mNil)) (mBinO [(2, F_Program_add)] addD (mVar 3) (mCb strS (mCons (mVar 4) mNil))))
def m_law_text : S := sSeq (sSetF 1 (mDic [.inr "set", .inr "add", .inr "sub", .inr "move", .inr "pick", .inr "less", .inr "same"] (mCons (ret (.str "ri")) (mCons (ret (.str "rrr")) (mCons (ret (.str "rrr")) (mCons (ret (.str "rri")) (mCons (ret (.str "rfrr")) (mCons (ret (.str "frr")) (mCons (ret (.str "frr")) mNil)))))))))
  (sSeq (sUpd 1 (ret (.dic [.inr "jump", .inr "goto"] [.str "fi", .str "i"])))
  (sSeq (sSetF 2 (mLst (mCons (mSubO [(2, F_Program_getitem)] (mVar 0) (ret (.int 0))) mNil)))
  (sSeq (sFor (iArg zipSD (mCons (mDgetS 1 (mSubO [(2, F_Program_getitem)] (mVar 0) (ret (.int 0)))) (mCons (mSl (mVar 0) (mPart (ret (.int 1))) mNoP) mNil))) (tgTup 2 (tgCons (tgName 3) (tgCons (tgName 4) tgNil))) b_law_text_1)
  (sRet (mM1 joinS (ret (.str " ")) (mVar 2))))))
def F_law_text : Fm := fnM 1 5 (nox m_law_text)
abbrev b_law_any_code_1 : S := sSeq (sSet 4 (mCallB F_law_take 0 [] (mCons (ret (.int 6)) mNil)))
  (sIf (mB (mCmpG [2] [(2, F_Program_eq)] false eqD (mVar 4) (ret (.int 0)))) (sApp 2 (mTup (mCons (ret (.str "jump")) (mCons (mCallB F_law_take 0 [] (mCons (ret (.int 4)) mNil)) (mCons (mCallB F_law_take 0 [] (mCons (mBinO [(2, F_Program_add)] addD (mVar 1) (ret (.int 1))) mNil)) mNil))))) (sIf (mB (mCmpG [2] [(2, F_Program_eq)] false eqD (mVar 4) (ret (.int 1)))) (sApp 2 (mTup (mCons (ret (.str "goto")) (mCons (mCallB F_law_take 0 [] (mCons (mBinO [(2, F_Program_add)] addD (mVar 1) (ret (.int 1))) mNil)) mNil)))) (sIf (mB (mCmpG [2] [(2, F_Program_eq)] false eqD (mVar 4) (ret (.int 2)))) (sSeq (sSet 5 (mLst (mCons (ret (.int 0)) (mCons (mUn negD (ret (.int 1))) (mCons pw_10_40 (mCons (mUn negD pw_10_30) (mCons (ret (.int 7)) mNil)))))))
  (sApp 2 (mTup (mCons (ret (.str "set")) (mCons (mCallB F_law_take 0 [] (mCons (ret (.int 8)) mNil)) (mCons (mSubO [(2, F_Program_getitem)] (mVar 5) (mCallB F_law_take 0 [] (mCons (ret (.int 5)) mNil))) mNil)))))) (sIf (mB (mCmpG [2] [(2, F_Program_eq)] false eqD (mVar 4) (ret (.int 3)))) (sSeq (sPar2 6 7 (mCons (mCallB F_law_take 0 [] (mCons (ret (.int 8)) mNil)) (mCons (mCallB F_law_take 0 [] (mCons (ret (.int 8)) mNil)) mNil)))
  (sApp 2 (mTup (mCons (ret (.str "move")) (mCons (mVar 6) (mCons (mVar 7) (mCons (mBin subD (mCallB F_law_take 0 [] (mCons (ret (.int 81)) mNil)) (ret (.int 40))) mNil))))))) (sIf (mB (mCmpG [2] [(2, F_Program_eq)] false eqD (mVar 4) (ret (.int 4)))) (sSeq (sPar2 6 8 (mCons (mCallB F_law_take 0 [] (mCons (ret (.int 8)) mNil)) (mCons (mCallB F_law_take 0 [] (mCons (ret (.int 4)) mNil)) mNil)))
  (sApp 2 (mTup (mCons (ret (.str "pick")) (mCons (mVar 6) (mCons (mVar 8) (mCons (mCallB F_law_take 0 [] (mCons (ret (.int 8)) mNil)) (mCons (mCallB F_law_take 0 [] (mCons (ret (.int 8)) mNil)) mNil)))))))) (sSeq (sPar2 9 6 (mCons (mSubO [(2, F_Program_getitem)] (mLst (mCons (ret (.str "add")) (mCons (ret (.str "sub")) (mCons (ret (.str "less")) (mCons (ret (.str "same")) mNil))))) (mCallB F_law_take 0 [] (mCons (ret (.int 4)) mNil))) (mCons (mCallB F_law_take 0 [] (mCons (ret (.int 4)) mNil)) mNil)))
  (sApp 2 (mTup (mCons (mVar 9) (mCons (mVar 6) (mCons (mCallB F_law_take 0 [] (mCons (ret (.int 8)) mNil)) (mCons (mCallB F_law_take 0 [] (mCons (ret (.int 8)) mNil)) mNil))))))))))))
def m_law_any_code : S := sSeq (sSetF 2 (mLst mNil))
  (sSeq (sFor (iArg rng1D (mCons (mVar 1) mNil)) (tgName 3) b_law_any_code_1)
  (sRet (mVar 2)))
def F_law_any_code : Fm := fnM 2 10 (nox m_law_any_code)
abbrev c_law_long_right_1 : M D := mLc (iItm (mVar 1)) (tgName 3) (ret true) (mCallA F_law_text [] (mCons (mVar 3) mNil)) [3]
def m_law_long_right : S := sSeq (sSet 0 (mBin subD (mBin mulD (mBin mulD (mBin mulD pw_10_50 pw_10_50) pw_10_50) pw_10_50) (ret (.int 1))))
  (sSeq (sSet 1 (mLst (mCons (mTup (mCons (ret (.str "set")) (mCons (ret (.int 0)) (mCons (mVar 0) mNil)))) (mCons (mTup (mCons (ret (.str "set")) (mCons (ret (.int 1)) (mCons (mUn negD (mVar 0)) mNil)))) (mCons (mTup (mCons (ret (.str "jump")) (mCons (ret (.int 3)) (mCons (ret (.int 200)) mNil)))) (mCons (mTup (mCons (ret (.str "goto")) (mCons (ret (.int 0)) mNil))) (mCons (mTup (mCons (ret (.str "goto")) (mCons (ret (.int 99)) mNil))) (mCons (mTup (mCons (ret (.str "goto")) (mCons (ret (.int 100)) mNil))) mNil))))))))
  (sSeq (sSet 1 (mBinO [(2, F_Program_add)] addD (mVar 1) (mBin mulD (mLst (mCons (mTup (mCons (ret (.str "add")) (mCons (ret (.int 7)) (mCons (ret (.int 6)) (mCons (ret (.int 5)) mNil))))) (mCons (mTup (mCons (ret (.str "set")) (mCons (ret (.int 2)) (mCons pw_10_60 mNil)))) mNil))) (ret (.int 97)))))
  (sSeq (sSet 2 (mM1 joinS (ret (.str "\n")) (frz c_law_long_right_1)))
  (sSeq (sIf (mOr (mB (mCmpG [2] [(2, F_Program_eq)] true neD (bnd (mCons (mVar 1) mNil) (mLenO [(2, F_Program_len)] lenD)) (ret (.int 200)))) (mB (mCmpG [2] [(2, F_Program_eq)] true (eqS true) (mCallA F_format_program [] (mCons (frz (mMakF F_Program_init 2 [] (mCons (mVar 1) mNil))) mNil)) (mVar 2)))) (sRet (ret (.bl false))) sNx)
  (sRet (bnd (mB (mCmpG [2] [(2, F_Program_eq)] false eqD (mCallA F_parse_program [] (mCons (mVar 2) mNil)) (frz (mMakF F_Program_init 2 [] (mCons (mVar 1) mNil))))) fun x => if x = true then mCmpG [2] [(2, F_Program_eq)] false eqD (mCallA F_assemble [] (mCons (mVar 2) mNil)) (frz (mMakF F_Program_init 2 [] (mCons (mVar 1) mNil))) else ret (.bl false)))))))
def F_law_long_right : Fm := fnM 0 4 (nox m_law_long_right)
def m_law_a_1 : S := sIf (mOr (mB (mCmpG [2] [(2, F_Program_eq)] true neD (mVar 7) (mVar 6))) (mB (mCmpG [2] [(2, F_Program_eq)] true (eqS true) (mCb reprG (mCons (mPrp [(2, F_Program_instructions)] (mVar 7)) mNil)) (mCb reprG (mCons (mCb tupleD (mCons (mVar 5) mNil)) mNil))))) (sRet (ret (.bl false))) sNx
def m_law_5 : S := sFor (iItm (mLst (mCons (mCallA F_parse_program [] (mCons (mVar 2) mNil)) (mCons (mCallA F_assemble [] (mCons (mVar 2) mNil)) mNil)))) (tgName 7) m_law_a_1
def m_law_4 : S := sIf (mOr (mB (mCmpG [2] [(2, F_Program_eq)] true (eqS true) (mCallA F_format_program [] (mCons (mVar 6) mNil)) (mVar 2))) (mB (mCmpG [2] [(2, F_Program_eq)] true (eqS true) (mCallA F_format_program [] (mCons (mVar 6) mNil)) (mVar 2)))) (sRet (ret (.bl false))) sNx
abbrev c_law_1 : M D := mLc (iItm (mVar 5)) (tgName 8) (ret true) (mCallA F_law_text [] (mCons (mVar 8) mNil)) [8]
def m_law_3 : S := sPar2 6 2 (mCons (frz (mMakF F_Program_init 2 [] (mCons (mVar 5) mNil))) (mCons (mM1 joinS (ret (.str "\n")) (frz c_law_1)) mNil))
def m_law_2 : S := sSet 5 (mCallB F_law_any_code 4 [] (mCons (mCallB F_law_take 4 [] (mCons (ret (.int 21)) mNil)) mNil))
def m_law_1 : S := sSetF 4 (mCallAF F_law_pool [] (mCons (mVar 0) (mCons (mVar 3) mNil)))
def m_law : S := sSeq (sIf (mOr (mB (mCmpG [2] [(2, F_Program_eq)] true (eqS true) (mCallA F_format_program [] (mCons (frz (mMakF F_Program_init 2 [] (mCons (mLst mNil) mNil))) mNil)) (ret (.str "")))) (mOr (mB (mCmpG [2] [(2, F_Program_eq)] true neD (mCallA F_parse_program [] (mCons (ret (.str "")) mNil)) (frz (mMakF F_Program_init 2 [] (mCons (mLst mNil) mNil))))) (mB (mCmpG [2] [(2, F_Program_eq)] true neD (mCallA F_assemble [] (mCons (ret (.str "")) mNil)) (frz (mMakF F_Program_init 2 [] (mCons (mLst mNil) mNil))))))) (sRet (ret (.bl false))) sNx)
  (sSeq (sSet 1 (mLst (mCons (mTup (mCons (ret (.str "set")) (mCons (ret (.int 2)) (mCons (mUn negD (ret (.int 5))) mNil)))) (mCons (mTup (mCons (ret (.str "move")) (mCons (ret (.int 1)) (mCons (ret (.int 0)) (mCons (ret (.int 2)) mNil))))) (mCons (mTup (mCons (ret (.str "pick")) (mCons (ret (.int 3)) (mCons (ret (.int 0)) (mCons (ret (.int 1)) (mCons (ret (.int 2)) mNil)))))) (mCons (mTup (mCons (ret (.str "less")) (mCons (ret (.int 1)) (mCons (ret (.int 0)) (mCons (ret (.int 2)) mNil))))) (mCons (mTup (mCons (ret (.str "jump")) (mCons (ret (.int 0)) (mCons (ret (.int 7)) mNil)))) mNil)))))))
  (sSeq (sSet 1 (mBinO [(2, F_Program_add)] addD (mVar 1) (mLst (mCons (mTup (mCons (ret (.str "goto")) (mCons (ret (.int 1)) mNil))) mNil))))
  (sSeq (sSet 2 (ret (.str "set r2 -5\nmove r1 r0 2\npick r3 f0 r1 r2\nless f1 r0 r2\njump f0 7\ngoto 1\nset r0 0")))
  (sSeq (sIf (mB (mCmpG [2] [(2, F_Program_eq)] true (eqS true) (mCallA F_format_program [] (mCons (frz (mMakF F_Program_init 2 [] (mCons (mBinO [(2, F_Program_add)] addD (mVar 1) (mLst (mCons (mTup (mCons (ret (.str "set")) (mCons (ret (.int 0)) (mCons (ret (.int 0)) mNil)))) mNil))) mNil))) mNil)) (mVar 2))) (sRet (ret (.bl false))) sNx)
  (sSeq (sIf (mB (mCmpG [2] [(2, F_Program_eq)] true neD (mSubO [(2, F_Program_getitem)] (mCallA F_parse_program [] (mCons (mVar 2) mNil)) (ret (.int 4))) (mTup (mCons (ret (.str "jump")) (mCons (ret (.int 0)) (mCons (ret (.int 7)) mNil)))))) (sRet (ret (.bl false))) sNx)
  (sSeq (sIf (mNot (mTru (mCallA F_law_long_right [] mNil))) (sRet (ret (.bl false))) sNx)
  (sSeq (sFor (iArg rng1D (mCons (mCb max2D (mCons (ret (.int 1)) (mCons (mCb min2D (mCons (ret (.int 10)) (mCons (bnd (mCons (mVar 0) mNil) (mLenO [(2, F_Program_len)] lenD)) mNil))) mNil))) mNil)) (tgName 3) (sSeq m_law_1
  (sSeq m_law_2
  (sSeq m_law_3
  (sSeq m_law_4
  m_law_5)))))
  (sRet (ret (.bl true))))))))))
def F_law : Fm := fnM 1 9 (nox m_law)
end LW

set_option Elab.async false
set_option linter.all false
set_option maxRecDepth 100000
set_option maxHeartbeats 400000
namespace LW
open PySem L2 DL
theorem p0 (a b : D) : ixD (.lst [a, b]) (.int 0) = some a := rfl
theorem p1 (a b : D) : ixD (.lst [a, b]) (.int 1) = some b := rfl
theorem n0 : ixN 2 0 = some 0 := rfl
theorem n1 : ixN 2 1 = some 1 := rfl
def tq (q : Int) : Int := (q * 48271 + 12345) % 2147483647
def tkV (p q n : Int) : Int := if 0 < p then p % n else tq q * tq q % 2147483629 / 64 % n
def tkP (p q n : Int) : Int := if 0 < p then p / n else p
def tkQ (p q n : Int) : Int := if 0 < p then q else tq q
abbrev Pl (p q : Int) : D := .lst [.int p, .int q]
theorem tkV_lo {p q n : Int} (h : 0 < n) : 0 ≤ tkV p q n := by
  unfold tkV
  split <;> exact Int.emod_nonneg _ (by omega)
theorem tkV_hi {p q n : Int} (h : 0 < n) : tkV p q n < n := by
  unfold tkV
  split <;> exact Int.emod_lt_of_pos _ h
theorem tq_b (q : Int) : 0 ≤ tq q ∧ tq q < 2147483647 := ⟨Int.emod_nonneg _ (by decide), Int.emod_lt_of_pos _ (by decide)⟩
theorem e_take (p q n : Int) (h : 0 < n) (hl : n.natAbs.log2 < 9000) : F_law_take [.pn (Pl p q), .sh (.int n)] = .ok (.rt (.int (tkV p q n))) [.pn (Pl (tkP p q n) (tkQ p q n)), .sh (.int n)] := by
  have m1 : mulOk2 q 48271 = true := by simp [mulOk2]
  have m2 : mulOk2 (tq q) (tq q) = true := by
    have := tq_b q
    simp [mulOk2]
    omega
  have c64 : (0 : Int) < 64 ∧ Nat.log2 (Int.natAbs 64) < 9000 := by decide
  have ca : (0 : Int) < 2147483647 := by decide
  have cb : (0 : Int) < 2147483629 := by decide
  by_cases hp : 0 < p
  · refine fn_rt rfl (e := [.pn (Pl (p / n) q), .sh (.int n), .sh (.int (p % n))]) ?_ (by simp only [tkP, tkQ, if_pos hp]; rfl)
    simp only [tkV, if_pos hp]
    simp only [DL.bnd, DL.ret, DL.lft, mVar, mCons, mNil, mCallA, callA, callAF, callB, mCallAF, mCallB, mBin, mUn, mB, mTru, truD, mNot, mAnd, mOr, mBv, mIf, mCb, mChain, mTup, mLst, sSeq, sNx, sIf, sRet, sRetF, sDrop, sSet, sSetF, sto_np, npAt, np_sh, np_ow, np_no, cm_sh, cm_no, DL.nox, fnM, DL.run,
  frz, full_lst, full_ins, nmN, DL.own, mdf, Sl.put, Sl.mut, Option.bind, cmpD, ltD, leD, gtD, geD, addD, subD, negD, modD, mMakF, mkA, sFldS, putD, fldD, mBinO, mOpO, mCmpO, mEqO, mUnO, mLenO, mSubO, mIxO, mPrp, cand_int, cand_tup, cand_lst, cand_scr, cand_str, cand_bl, cand_non, cand_ins, look0, okY_ii, okY_int, sameC_ii, mCmpG, mEqG, okE_n, okE_01, okE_int, okE_bl, okE_str, okE_non, look1, look01, look10, mTruO, mBlO, sParX, xS, xO, xNil, stoX_cons, stoX_nil, It.sl, zip2, zip3, blD, lenD, eqD, neD, Option.map_some, eqB_int,
  List.map, List.length_cons, List.length_nil, List.getElem?_cons_zero, List.getElem?_cons_succ, List.set_cons_zero, List.set_cons_succ, List.append, List.cons_append, List.nil_append, List.replicate, List.take, Nat.reduceAdd, Nat.reduceSub, Bool.not_true, Bool.not_false, decide_true, decide_false, beq_self_eq_true, bne_self_eq_false, Bool.false_eq_true, reduceIte, ↓reduceIte, lkk, lkn, lk0, Nat.reduceBEq, m_law_take, mIxS, peek, Sl.val, p0, p1, hp, h, hl, sPut, n0, n1, divD, and_self, reduceCtorEq]
  · refine fn_rt rfl (e := [.pn (Pl p (tq q)), .sh (.int n), .no]) ?_ (by simp only [tkP, tkQ, if_neg hp]; rfl)
    simp only [tkV, if_neg hp]
    have e : (q * 48271 + 12345) % 2147483647 = tq q := rfl
    simp only [DL.bnd, DL.ret, DL.lft, mVar, mCons, mNil, mCallA, callA, callAF, callB, mCallAF, mCallB, mBin, mUn, mB, mTru, truD, mNot, mAnd, mOr, mBv, mIf, mCb, mChain, mTup, mLst, sSeq, sNx, sIf, sRet, sRetF, sDrop, sSet, sSetF, sto_np, npAt, np_sh, np_ow, np_no, cm_sh, cm_no, DL.nox, fnM, DL.run,
  frz, full_lst, full_ins, nmN, DL.own, mdf, Sl.put, Sl.mut, Option.bind, cmpD, ltD, leD, gtD, geD, addD, subD, negD, modD, mMakF, mkA, sFldS, putD, fldD, mBinO, mOpO, mCmpO, mEqO, mUnO, mLenO, mSubO, mIxO, mPrp, cand_int, cand_tup, cand_lst, cand_scr, cand_str, cand_bl, cand_non, cand_ins, look0, okY_ii, okY_int, sameC_ii, mCmpG, mEqG, okE_n, okE_01, okE_int, okE_bl, okE_str, okE_non, look1, look01, look10, mTruO, mBlO, sParX, xS, xO, xNil, stoX_cons, stoX_nil, It.sl, zip2, zip3, blD, lenD, eqD, neD, Option.map_some, eqB_int,
  List.map, List.length_cons, List.length_nil, List.getElem?_cons_zero, List.getElem?_cons_succ, List.set_cons_zero, List.set_cons_succ, List.append, List.cons_append, List.nil_append, List.replicate, List.take, Nat.reduceAdd, Nat.reduceSub, Bool.not_true, Bool.not_false, decide_true, decide_false, beq_self_eq_true, bne_self_eq_false, Bool.false_eq_true, reduceIte, ↓reduceIte, lkk, lkn, lk0, Nat.reduceBEq, m_law_take, mIxS, peek, Sl.val, p0, p1, hp, h, hl, sPut, n0, n1, divD, mulD, m1, ca, cb, e, m2, c64, and_self, reduceCtorEq]
theorem ixs (ns : List Int) (k : Nat) (h : k < ns.length) : ixD (.scr ns) (.int (k : Int)) = some (.int ns[k]) := by
  have : ixN ns.length (k : Int) = some k := by
    unfold ixN
    rw [if_pos (by omega), if_pos (by omega)]
    simp
  simp [ixD, atI, this, h]
def plM (c : Int) (k : Nat) : Int := (c % 2147483629 + 7919 * (k : Int) * (k : Int) + 31 * (k : Int) + 17) * 48271 % 2147483647
theorem pool_tail (L : List (Nat × Fm)) (scr : D) (k : Nat) (hk : k < 1000) (c : Int) (x3 : Sl) (h3 : np x3 = true) : ∃ p q x, (0 ≤ c → 0 ≤ p) ∧ (sSeq (sSet 3 (mBin modD (mBin mulD (mBinO L addD (mBinO L addD (mBinO L addD (mBin modD (mVar 2) (DL.ret (.int 2147483629))) (mBin mulD (mBin mulD (DL.ret (.int 7919)) (mVar 1)) (mVar 1))) (mBin mulD (DL.ret (.int 31)) (mVar 1))) (DL.ret (.int 17))) (DL.ret (.int 48271))) (DL.ret (.int 2147483647))))
  (sRetF (mLst (mCons (mBin mulD (mVar 2) (mCb intD (mCons (mBin geD (mVar 2) pw_10_18) mNil))) (mCons (mBin modD (mBin mulD (mVar 3) (mVar 3)) (DL.ret (.int 2147483629))) mNil))))) [.sh scr, .sh (.int (k : Int)), .sh (.int c), x3] = .ok (.rto (Pl p q)) [.sh scr, .sh (.int (k : Int)), .sh (.int c), x] := by
  refine ⟨c * (if decide ((10 : Int) ^ 18 ≤ c) = true then 1 else 0), plM c k * plM c k % 2147483629, .sh (.int (plM c k)), fun h => ?_, ?_⟩
  · split <;> omega
  have m1 : mulOk2 7919 (k : Int) = true := by simp [mulOk2]
  have m2 : mulOk2 (7919 * (k : Int)) (k : Int) = true := by simp [mulOk2]; omega
  have m3 : mulOk2 31 (k : Int) = true := by simp [mulOk2]
  have m4 : ∀ x : Int, mulOk2 x 48271 = true := fun x => by simp [mulOk2]
  have m5 : ∀ x : Bool, mulOk2 c (if x = true then 1 else 0) = true := fun x => by cases x <;> simp [mulOk2]
  have m6 : mulOk2 (plM c k) (plM c k) = true := by
    have h1 : 0 ≤ plM c k := Int.emod_nonneg _ (by decide)
    have h2 : plM c k < 2147483647 := Int.emod_lt_of_pos _ (by decide)
    simp [mulOk2]
    omega
  have c1 : (0 : Int) < 2147483629 := by decide
  have c2 : (0 : Int) < 2147483647 := by decide
  have e : (c % 2147483629 + 7919 * (k : Int) * (k : Int) + 31 * (k : Int) + 17) * 48271 % 2147483647 = plM c k := rfl
  have pw : ∀ env, pw_10_18 env = .ok (.int ((10 : Int) ^ 18)) env := fun _ => rfl
  have sm : small 2 = true := rfl
  simp only [DL.bnd, DL.ret, DL.lft, mVar, mCons, mNil, mCallA, callA, callAF, callB, mCallAF, mCallB, mBin, mUn, mB, mTru, truD, mNot, mAnd, mOr, mBv, mIf, mCb, mChain, mTup, mLst, sSeq, sNx, sIf, sRet, sRetF, sDrop, sSet, sSetF, sto_np, npAt, np_sh, np_ow, np_no, cm_sh, cm_no, DL.nox, fnM, DL.run,
  frz, full_lst, full_ins, nmN, DL.own, mdf, Sl.put, Sl.mut, Option.bind, cmpD, ltD, leD, gtD, geD, addD, subD, negD, modD, mMakF, mkA, sFldS, putD, fldD, mBinO, mOpO, mCmpO, mEqO, mUnO, mLenO, mSubO, mIxO, mPrp, cand_int, cand_tup, cand_lst, cand_scr, cand_str, cand_bl, cand_non, cand_ins, look0, okY_ii, okY_int, sameC_ii, mCmpG, mEqG, okE_n, okE_01, okE_int, okE_bl, okE_str, okE_non, look1, look01, look10, mTruO, mBlO, sParX, xS, xO, xNil, stoX_cons, stoX_nil, It.sl, zip2, zip3, blD, lenD, eqD, neD, Option.map_some, eqB_int,
  List.map, List.length_cons, List.length_nil, List.getElem?_cons_zero, List.getElem?_cons_succ, List.set_cons_zero, List.set_cons_succ, List.append, List.cons_append, List.nil_append, List.replicate, List.take, Nat.reduceAdd, Nat.reduceSub, Bool.not_true, Bool.not_false, decide_true, decide_false, beq_self_eq_true, bne_self_eq_false, Bool.false_eq_true, reduceIte, ↓reduceIte, lkk, lkn, lk0, Nat.reduceBEq, c1, c2, mulD, m1, m2, m3, m4, e, h3, pw, intD, m5, m6, sm]
theorem e_pool (ns : List Int) (k : Nat) (hk : k < 1000) : ∃ p q, 0 ≤ p ∧ F_law_pool [.sh (.scr ns), .sh (.int (k : Int))] = .ok (.rto (Pl p q)) [.sh (.scr ns), .sh (.int (k : Int))] := by
  by_cases h : (k : Int) < (ns.length : Int)
  · have hk2 : k < ns.length := by omega
    obtain ⟨p, q, x, hp, e⟩ := pool_tail [(2, F_Program_add)] (.scr ns) k hk (if ns[k] < 0 then -ns[k] else ns[k]) .no rfl
    refine ⟨p, q, hp (by split <;> omega), fn_rto rfl (e := [.sh (.scr ns), .sh (.int (k : Int)), .sh (.int (if ns[k] < 0 then -ns[k] else ns[k])), x]) ?_ rfl⟩
    unfold m_law_pool
    rw [seq_nx (e1 := [.sh (.scr ns), .sh (.int (k : Int)), .sh (.int 0), .no]), seq_nx (e1 := [.sh (.scr ns), .sh (.int (k : Int)), .sh (.int (if ns[k] < 0 then -ns[k] else ns[k])), .no]), e]
    · simp only [DL.bnd, DL.ret, DL.lft, mVar, mCons, mNil, mCallA, callA, callAF, callB, mCallAF, mCallB, mBin, mUn, mB, mTru, truD, mNot, mAnd, mOr, mBv, mIf, mCb, mChain, mTup, mLst, sSeq, sNx, sIf, sRet, sRetF, sDrop, sSet, sSetF, sto_np, npAt, np_sh, np_ow, np_no, cm_sh, cm_no, DL.nox, fnM, DL.run,
  frz, full_lst, full_ins, nmN, DL.own, mdf, Sl.put, Sl.mut, Option.bind, cmpD, ltD, leD, gtD, geD, addD, subD, negD, modD, mMakF, mkA, sFldS, putD, fldD, mBinO, mOpO, mCmpO, mEqO, mUnO, mLenO, mSubO, mIxO, mPrp, cand_int, cand_tup, cand_lst, cand_scr, cand_str, cand_bl, cand_non, cand_ins, look0, okY_ii, okY_int, sameC_ii, mCmpG, mEqG, okE_n, okE_01, okE_int, okE_bl, okE_str, okE_non, look1, look01, look10, mTruO, mBlO, sParX, xS, xO, xNil, stoX_cons, stoX_nil, It.sl, zip2, zip3, blD, lenD, eqD, neD, Option.map_some, eqB_int,
  List.map, List.length_cons, List.length_nil, List.getElem?_cons_zero, List.getElem?_cons_succ, List.set_cons_zero, List.set_cons_succ, List.append, List.cons_append, List.nil_append, List.replicate, List.take, Nat.reduceAdd, Nat.reduceSub, Bool.not_true, Bool.not_false, decide_true, decide_false, beq_self_eq_true, bne_self_eq_false, Bool.false_eq_true, reduceIte, ↓reduceIte, lkk, lkn, lk0, Nat.reduceBEq, h, ixs ns k hk2, absD]
    · simp only [DL.bnd, DL.ret, DL.lft, mVar, mCons, mNil, mCallA, callA, callAF, callB, mCallAF, mCallB, mBin, mUn, mB, mTru, truD, mNot, mAnd, mOr, mBv, mIf, mCb, mChain, mTup, mLst, sSeq, sNx, sIf, sRet, sRetF, sDrop, sSet, sSetF, sto_np, npAt, np_sh, np_ow, np_no, cm_sh, cm_no, DL.nox, fnM, DL.run,
  frz, full_lst, full_ins, nmN, DL.own, mdf, Sl.put, Sl.mut, Option.bind, cmpD, ltD, leD, gtD, geD, addD, subD, negD, modD, mMakF, mkA, sFldS, putD, fldD, mBinO, mOpO, mCmpO, mEqO, mUnO, mLenO, mSubO, mIxO, mPrp, cand_int, cand_tup, cand_lst, cand_scr, cand_str, cand_bl, cand_non, cand_ins, look0, okY_ii, okY_int, sameC_ii, mCmpG, mEqG, okE_n, okE_01, okE_int, okE_bl, okE_str, okE_non, look1, look01, look10, mTruO, mBlO, sParX, xS, xO, xNil, stoX_cons, stoX_nil, It.sl, zip2, zip3, blD, lenD, eqD, neD, Option.map_some, eqB_int,
  List.map, List.length_cons, List.length_nil, List.getElem?_cons_zero, List.getElem?_cons_succ, List.set_cons_zero, List.set_cons_succ, List.append, List.cons_append, List.nil_append, List.replicate, List.take, Nat.reduceAdd, Nat.reduceSub, Bool.not_true, Bool.not_false, decide_true, decide_false, beq_self_eq_true, bne_self_eq_false, Bool.false_eq_true, reduceIte, ↓reduceIte, lkk, lkn, lk0, Nat.reduceBEq]
  · obtain ⟨p, q, x, hp, e⟩ := pool_tail [(2, F_Program_add)] (.scr ns) k hk 0 .no rfl
    refine ⟨p, q, hp (by omega), fn_rto rfl (e := [.sh (.scr ns), .sh (.int (k : Int)), .sh (.int 0), x]) ?_ rfl⟩
    unfold m_law_pool
    rw [seq_nx (e1 := [.sh (.scr ns), .sh (.int (k : Int)), .sh (.int 0), .no]), seq_nx (e1 := [.sh (.scr ns), .sh (.int (k : Int)), .sh (.int 0), .no]), e]
    · simp only [DL.bnd, DL.ret, DL.lft, mVar, mCons, mNil, mCallA, callA, callAF, callB, mCallAF, mCallB, mBin, mUn, mB, mTru, truD, mNot, mAnd, mOr, mBv, mIf, mCb, mChain, mTup, mLst, sSeq, sNx, sIf, sRet, sRetF, sDrop, sSet, sSetF, sto_np, npAt, np_sh, np_ow, np_no, cm_sh, cm_no, DL.nox, fnM, DL.run,
  frz, full_lst, full_ins, nmN, DL.own, mdf, Sl.put, Sl.mut, Option.bind, cmpD, ltD, leD, gtD, geD, addD, subD, negD, modD, mMakF, mkA, sFldS, putD, fldD, mBinO, mOpO, mCmpO, mEqO, mUnO, mLenO, mSubO, mIxO, mPrp, cand_int, cand_tup, cand_lst, cand_scr, cand_str, cand_bl, cand_non, cand_ins, look0, okY_ii, okY_int, sameC_ii, mCmpG, mEqG, okE_n, okE_01, okE_int, okE_bl, okE_str, okE_non, look1, look01, look10, mTruO, mBlO, sParX, xS, xO, xNil, stoX_cons, stoX_nil, It.sl, zip2, zip3, blD, lenD, eqD, neD, Option.map_some, eqB_int,
  List.map, List.length_cons, List.length_nil, List.getElem?_cons_zero, List.getElem?_cons_succ, List.set_cons_zero, List.set_cons_succ, List.append, List.cons_append, List.nil_append, List.replicate, List.take, Nat.reduceAdd, Nat.reduceSub, Bool.not_true, Bool.not_false, decide_true, decide_false, beq_self_eq_true, bne_self_eq_false, Bool.false_eq_true, reduceIte, ↓reduceIte, lkk, lkn, lk0, Nat.reduceBEq, h]
    · simp only [DL.bnd, DL.ret, DL.lft, mVar, mCons, mNil, mCallA, callA, callAF, callB, mCallAF, mCallB, mBin, mUn, mB, mTru, truD, mNot, mAnd, mOr, mBv, mIf, mCb, mChain, mTup, mLst, sSeq, sNx, sIf, sRet, sRetF, sDrop, sSet, sSetF, sto_np, npAt, np_sh, np_ow, np_no, cm_sh, cm_no, DL.nox, fnM, DL.run,
  frz, full_lst, full_ins, nmN, DL.own, mdf, Sl.put, Sl.mut, Option.bind, cmpD, ltD, leD, gtD, geD, addD, subD, negD, modD, mMakF, mkA, sFldS, putD, fldD, mBinO, mOpO, mCmpO, mEqO, mUnO, mLenO, mSubO, mIxO, mPrp, cand_int, cand_tup, cand_lst, cand_scr, cand_str, cand_bl, cand_non, cand_ins, look0, okY_ii, okY_int, sameC_ii, mCmpG, mEqG, okE_n, okE_01, okE_int, okE_bl, okE_str, okE_non, look1, look01, look10, mTruO, mBlO, sParX, xS, xO, xNil, stoX_cons, stoX_nil, It.sl, zip2, zip3, blD, lenD, eqD, neD, Option.map_some, eqB_int,
  List.map, List.length_cons, List.length_nil, List.getElem?_cons_zero, List.getElem?_cons_succ, List.set_cons_zero, List.set_cons_succ, List.append, List.cons_append, List.nil_append, List.replicate, List.take, Nat.reduceAdd, Nat.reduceSub, Bool.not_true, Bool.not_false, decide_true, decide_false, beq_self_eq_true, bne_self_eq_false, Bool.false_eq_true, reduceIte, ↓reduceIte, lkk, lkn, lk0, Nat.reduceBEq]
end LW

set_option Elab.async false
set_option linter.all false
set_option maxRecDepth 100000
set_option maxHeartbeats 1000000
namespace LW
open PySem L2 DL
/-! programs and their runs, plainly -/
inductive Op where
  | set (d v : Int) | add (d x y : Int) | sub (d x y : Int) | mov (d x p : Int) | pck (d f x y : Int)
  | les (f x y : Int) | sam (f x y : Int) | jmp (f t : Int) | gto (t : Int)
def toD : Op → D
  | .set d v => .tup [.str "set", .int d, .int v]
  | .add d x y => .tup [.str "add", .int d, .int x, .int y]
  | .sub d x y => .tup [.str "sub", .int d, .int x, .int y]
  | .mov d x p => .tup [.str "move", .int d, .int x, .int p]
  | .pck d f x y => .tup [.str "pick", .int d, .int f, .int x, .int y]
  | .les f x y => .tup [.str "less", .int f, .int x, .int y]
  | .sam f x y => .tup [.str "same", .int f, .int x, .int y]
  | .jmp f t => .tup [.str "jump", .int f, .int t]
  | .gto t => .tup [.str "goto", .int t]
def Rg (x : Int) : Prop := 0 ≤ x ∧ x ≤ 7
def Fl (x : Int) : Prop := 0 ≤ x ∧ x ≤ 3
/-- an instruction, its target at most n -/
def Vd (n : Int) : Op → Prop
  | .set d v => Rg d
  | .add d x y => Rg d ∧ Rg x ∧ Rg y
  | .sub d x y => Rg d ∧ Rg x ∧ Rg y
  | .mov d x p => Rg d ∧ Rg x ∧ -40 ≤ p ∧ p ≤ 40
  | .pck d f x y => Rg d ∧ Fl f ∧ Rg x ∧ Rg y
  | .les f x y => Fl f ∧ Rg x ∧ Rg y
  | .sam f x y => Fl f ∧ Rg x ∧ Rg y
  | .jmp f t => Fl f ∧ 0 ≤ t ∧ t ≤ n
  | .gto t => 0 ≤ t ∧ t ≤ n
def shf (k : Int) : Op → Op
  | .jmp f t => .jmp f (t + k)
  | .gto t => .gto (t + k)
  | o => o
def jm : Op → Bool
  | .jmp _ _ => true
  | .gto _ => true
  | _ => false
theorem Vd.up {n m : Int} (h : n ≤ m) {o : Op} (v : Vd n o) : Vd m o := by
  cases o <;> simp only [Vd] at v ⊢ <;> first | exact v | exact ⟨v.1, v.2.1, by omega⟩ | exact ⟨v.1, by omega⟩
theorem Vd.shf {n k : Int} (hk : 0 ≤ k) {o : Op} (v : Vd n o) : Vd (k + n) (shf k o) := by
  cases o <;> simp only [Vd, LW.shf] at v ⊢ <;> first | exact v | exact ⟨v.1, by omega, by omega⟩ | exact ⟨by omega, by omega⟩
/-! two, one behind the other -/
def jn (xs ys : List Op) : List Op := xs ++ ys.map (shf (xs.length : Int))
theorem jn_len (xs ys : List Op) : (jn xs ys).length = xs.length + ys.length := by simp [jn]
def VL (xs : List Op) : Prop := ∀ o ∈ xs, Vd (xs.length : Int) o
theorem VL.jn {xs ys : List Op} (hx : VL xs) (hy : VL ys) : VL (jn xs ys) := by
  intro o ho
  rw [jn_len]
  unfold LW.jn at ho
  rcases List.mem_append.mp ho with h | h
  · exact (hx o h).up (by omega)
  · obtain ⟨y, h1, rfl⟩ := List.mem_map.mp h
    have := (hy y h1).shf (k := (xs.length : Int)) (by omega)
    exact this.up (by omega)
end LW

set_option Elab.async false
set_option linter.all false
set_option maxRecDepth 100000
set_option maxHeartbeats 1000000
namespace LW
open PySem L2 DL
theorem e_is_integer (i : Int) : F_is_integer [.sh (.int i)] = .ok (.rt (.bl true)) [.sh (.int i)] := by
  simp only [DL.bnd, DL.ret, DL.lft, mVar, mCons, mNil, mCallA, callA, callAF, callB, mCallAF, mCallB, mBin, mUn, mB, mTru, truD, mNot, mAnd, mOr, mBv, mIf, mCb, mChain, mTup, mLst, sSeq, sNx, sIf, sRet, sRetF, sDrop, sSet, sSetF, sto_np, npAt, np_sh, np_ow, np_no, cm_sh, cm_no, DL.nox, fnM, DL.run,
  frz, full_lst, full_ins, nmN, DL.own, mdf, Sl.put, Sl.mut, Option.bind, cmpD, ltD, leD, gtD, geD, addD, subD, negD, modD, mMakF, mkA, sFldS, putD, fldD, mBinO, mOpO, mCmpO, mEqO, mUnO, mLenO, mSubO, mIxO, mPrp, cand_int, cand_tup, cand_lst, cand_scr, cand_str, cand_bl, cand_non, cand_ins, look0, okY_ii, okY_int, sameC_ii, mCmpG, mEqG, okE_n, okE_01, okE_int, okE_bl, okE_str, okE_non, look1, look01, look10, mTruO, mBlO, sParX, xS, xO, xNil, stoX_cons, stoX_nil, It.sl, zip2, zip3, blD, lenD, eqD, neD, Option.map_some, eqB_int,
  List.map, List.length_cons, List.length_nil, List.getElem?_cons_zero, List.getElem?_cons_succ, List.set_cons_zero, List.set_cons_succ, List.append, List.cons_append, List.nil_append, List.replicate, List.take, Nat.reduceAdd, Nat.reduceSub, Bool.not_true, Bool.not_false, decide_true, decide_false, beq_self_eq_true, bne_self_eq_false, Bool.false_eq_true, reduceIte, ↓reduceIte, lkk, lkn, lk0, Nat.reduceBEq, F_is_integer, m_is_integer, isi_int, isi_intb]
theorem e_is_between (v a b : Int) : F_is_between [.sh (.int v), .sh (.int a), .sh (.int b)] = .ok (.rt (.bl (decide (a ≤ v ∧ v ≤ b)))) [.sh (.int v), .sh (.int a), .sh (.int b)] := by
  by_cases h : a ≤ v
  · simp only [DL.bnd, DL.ret, DL.lft, mVar, mCons, mNil, mCallA, callA, callAF, callB, mCallAF, mCallB, mBin, mUn, mB, mTru, truD, mNot, mAnd, mOr, mBv, mIf, mCb, mChain, mTup, mLst, sSeq, sNx, sIf, sRet, sRetF, sDrop, sSet, sSetF, sto_np, npAt, np_sh, np_ow, np_no, cm_sh, cm_no, DL.nox, fnM, DL.run,
  frz, full_lst, full_ins, nmN, DL.own, mdf, Sl.put, Sl.mut, Option.bind, cmpD, ltD, leD, gtD, geD, addD, subD, negD, modD, mMakF, mkA, sFldS, putD, fldD, mBinO, mOpO, mCmpO, mEqO, mUnO, mLenO, mSubO, mIxO, mPrp, cand_int, cand_tup, cand_lst, cand_scr, cand_str, cand_bl, cand_non, cand_ins, look0, okY_ii, okY_int, sameC_ii, mCmpG, mEqG, okE_n, okE_01, okE_int, okE_bl, okE_str, okE_non, look1, look01, look10, mTruO, mBlO, sParX, xS, xO, xNil, stoX_cons, stoX_nil, It.sl, zip2, zip3, blD, lenD, eqD, neD, Option.map_some, eqB_int,
  List.map, List.length_cons, List.length_nil, List.getElem?_cons_zero, List.getElem?_cons_succ, List.set_cons_zero, List.set_cons_succ, List.append, List.cons_append, List.nil_append, List.replicate, List.take, Nat.reduceAdd, Nat.reduceSub, Bool.not_true, Bool.not_false, decide_true, decide_false, beq_self_eq_true, bne_self_eq_false, Bool.false_eq_true, reduceIte, ↓reduceIte, lkk, lkn, lk0, Nat.reduceBEq, F_is_between, m_is_between, e_is_integer, h, true_and]
  · simp only [DL.bnd, DL.ret, DL.lft, mVar, mCons, mNil, mCallA, callA, callAF, callB, mCallAF, mCallB, mBin, mUn, mB, mTru, truD, mNot, mAnd, mOr, mBv, mIf, mCb, mChain, mTup, mLst, sSeq, sNx, sIf, sRet, sRetF, sDrop, sSet, sSetF, sto_np, npAt, np_sh, np_ow, np_no, cm_sh, cm_no, DL.nox, fnM, DL.run,
  frz, full_lst, full_ins, nmN, DL.own, mdf, Sl.put, Sl.mut, Option.bind, cmpD, ltD, leD, gtD, geD, addD, subD, negD, modD, mMakF, mkA, sFldS, putD, fldD, mBinO, mOpO, mCmpO, mEqO, mUnO, mLenO, mSubO, mIxO, mPrp, cand_int, cand_tup, cand_lst, cand_scr, cand_str, cand_bl, cand_non, cand_ins, look0, okY_ii, okY_int, sameC_ii, mCmpG, mEqG, okE_n, okE_01, okE_int, okE_bl, okE_str, okE_non, look1, look01, look10, mTruO, mBlO, sParX, xS, xO, xNil, stoX_cons, stoX_nil, It.sl, zip2, zip3, blD, lenD, eqD, neD, Option.map_some, eqB_int,
  List.map, List.length_cons, List.length_nil, List.getElem?_cons_zero, List.getElem?_cons_succ, List.set_cons_zero, List.set_cons_succ, List.append, List.cons_append, List.nil_append, List.replicate, List.take, Nat.reduceAdd, Nat.reduceSub, Bool.not_true, Bool.not_false, decide_true, decide_false, beq_self_eq_true, bne_self_eq_false, Bool.false_eq_true, reduceIte, ↓reduceIte, lkk, lkn, lk0, Nat.reduceBEq, F_is_between, m_is_between, e_is_integer, h, false_and]
theorem e_check_between {v a b : Int} (h : a ≤ v) (h2 : v ≤ b) : F_check_between [.sh (.int v), .sh (.int a), .sh (.int b)] = .ok (.rt .non) [.sh (.int v), .sh (.int a), .sh (.int b)] := by
  simp only [DL.bnd, DL.ret, DL.lft, mVar, mCons, mNil, mCallA, callA, callAF, callB, mCallAF, mCallB, mBin, mUn, mB, mTru, truD, mNot, mAnd, mOr, mBv, mIf, mCb, mChain, mTup, mLst, sSeq, sNx, sIf, sRet, sRetF, sDrop, sSet, sSetF, sto_np, npAt, np_sh, np_ow, np_no, cm_sh, cm_no, DL.nox, fnM, DL.run,
  frz, full_lst, full_ins, nmN, DL.own, mdf, Sl.put, Sl.mut, Option.bind, cmpD, ltD, leD, gtD, geD, addD, subD, negD, modD, mMakF, mkA, sFldS, putD, fldD, mBinO, mOpO, mCmpO, mEqO, mUnO, mLenO, mSubO, mIxO, mPrp, cand_int, cand_tup, cand_lst, cand_scr, cand_str, cand_bl, cand_non, cand_ins, look0, okY_ii, okY_int, sameC_ii, mCmpG, mEqG, okE_n, okE_01, okE_int, okE_bl, okE_str, okE_non, look1, look01, look10, mTruO, mBlO, sParX, xS, xO, xNil, stoX_cons, stoX_nil, It.sl, zip2, zip3, blD, lenD, eqD, neD, Option.map_some, eqB_int,
  List.map, List.length_cons, List.length_nil, List.getElem?_cons_zero, List.getElem?_cons_succ, List.set_cons_zero, List.set_cons_succ, List.append, List.cons_append, List.nil_append, List.replicate, List.take, Nat.reduceAdd, Nat.reduceSub, Bool.not_true, Bool.not_false, decide_true, decide_false, beq_self_eq_true, bne_self_eq_false, Bool.false_eq_true, reduceIte, ↓reduceIte, lkk, lkn, lk0, Nat.reduceBEq, F_check_between, m_check_between, e_is_between, h, h2, and_self]
theorem cd_op {α : Type} (l : List (Nat × α)) (o : Op) : cand l (toD o) = none := by cases o <;> rfl
theorem sm0 : small 0 = true := rfl
theorem sm1 : small 1 = true := rfl
theorem sm2 : small 2 = true := rfl
theorem sm3 : small 3 = true := rfl
theorem sm4 : small 4 = true := rfl
theorem sm5 : small 5 = true := rfl
/-! an item of an instruction -/
def Fit (k : Str) (x : D) : Prop := F_fits [.sh (.str k), .sh x] = .ok (.rt (.bl true)) [.sh (.str k), .sh x]
theorem qrr : eqB (.str "r") (.str "r") = some true := by kernel_rfl
theorem qfr : eqB (.str "f") (.str "r") = some false := by kernel_rfl
theorem qff : eqB (.str "f") (.str "f") = some true := by kernel_rfl
theorem qpr : eqB (.str "p") (.str "r") = some false := by kernel_rfl
theorem qpf : eqB (.str "p") (.str "f") = some false := by kernel_rfl
theorem qpp : eqB (.str "p") (.str "p") = some true := by kernel_rfl
theorem qtr : eqB (.str "t") (.str "r") = some false := by kernel_rfl
theorem qtf : eqB (.str "t") (.str "f") = some false := by kernel_rfl
theorem qtp : eqB (.str "t") (.str "p") = some false := by kernel_rfl
theorem qtt : eqB (.str "t") (.str "t") = some true := by kernel_rfl
theorem qir : eqB (.str "i") (.str "r") = some false := by kernel_rfl
theorem qif : eqB (.str "i") (.str "f") = some false := by kernel_rfl
theorem qip : eqB (.str "i") (.str "p") = some false := by kernel_rfl
theorem qit : eqB (.str "i") (.str "t") = some false := by kernel_rfl
theorem fit_r {x : Int} (h : Rg x) : Fit "r" (.int x) := by
  refine fn_rt rfl (e := [.sh (.str "r"), .sh (.int x)]) ?_ rfl
  have h1 := h.1
  have h2 := h.2
  simp only [DL.bnd, DL.ret, DL.lft, mVar, mCons, mNil, mCallA, callA, callAF, callB, mCallAF, mCallB, mBin, mUn, mB, mTru, truD, mNot, mAnd, mOr, mBv, mIf, mCb, mChain, mTup, mLst, sSeq, sNx, sIf, sRet, sRetF, sDrop, sSet, sSetF, sto_np, npAt, np_sh, np_ow, np_no, cm_sh, cm_no, DL.nox, fnM, DL.run,
  frz, full_lst, full_ins, nmN, DL.own, mdf, Sl.put, Sl.mut, Option.bind, cmpD, ltD, leD, gtD, geD, addD, subD, negD, modD, mMakF, mkA, sFldS, putD, fldD, mBinO, mOpO, mCmpO, mEqO, mUnO, mLenO, mSubO, mIxO, mPrp, cand_int, cand_tup, cand_lst, cand_scr, cand_str, cand_bl, cand_non, cand_ins, look0, okY_ii, okY_int, sameC_ii, mCmpG, mEqG, okE_n, okE_01, okE_int, okE_bl, okE_str, okE_non, look1, look01, look10, mTruO, mBlO, sParX, xS, xO, xNil, stoX_cons, stoX_nil, It.sl, zip2, zip3, blD, lenD, eqD, neD, Option.map_some, eqB_int,
  List.map, List.length_cons, List.length_nil, List.getElem?_cons_zero, List.getElem?_cons_succ, List.set_cons_zero, List.set_cons_succ, List.append, List.cons_append, List.nil_append, List.replicate, List.take, Nat.reduceAdd, Nat.reduceSub, Bool.not_true, Bool.not_false, decide_true, decide_false, beq_self_eq_true, bne_self_eq_false, Bool.false_eq_true, reduceIte, ↓reduceIte, lkk, lkn, lk0, Nat.reduceBEq, cd_op, m_fits, qrr, e_is_between, Int.reduceSub, h1, h2, and_self]
theorem fit_f {x : Int} (h : Fl x) : Fit "f" (.int x) := by
  refine fn_rt rfl (e := [.sh (.str "f"), .sh (.int x)]) ?_ rfl
  have h1 := h.1
  have h2 := h.2
  simp only [DL.bnd, DL.ret, DL.lft, mVar, mCons, mNil, mCallA, callA, callAF, callB, mCallAF, mCallB, mBin, mUn, mB, mTru, truD, mNot, mAnd, mOr, mBv, mIf, mCb, mChain, mTup, mLst, sSeq, sNx, sIf, sRet, sRetF, sDrop, sSet, sSetF, sto_np, npAt, np_sh, np_ow, np_no, cm_sh, cm_no, DL.nox, fnM, DL.run,
  frz, full_lst, full_ins, nmN, DL.own, mdf, Sl.put, Sl.mut, Option.bind, cmpD, ltD, leD, gtD, geD, addD, subD, negD, modD, mMakF, mkA, sFldS, putD, fldD, mBinO, mOpO, mCmpO, mEqO, mUnO, mLenO, mSubO, mIxO, mPrp, cand_int, cand_tup, cand_lst, cand_scr, cand_str, cand_bl, cand_non, cand_ins, look0, okY_ii, okY_int, sameC_ii, mCmpG, mEqG, okE_n, okE_01, okE_int, okE_bl, okE_str, okE_non, look1, look01, look10, mTruO, mBlO, sParX, xS, xO, xNil, stoX_cons, stoX_nil, It.sl, zip2, zip3, blD, lenD, eqD, neD, Option.map_some, eqB_int,
  List.map, List.length_cons, List.length_nil, List.getElem?_cons_zero, List.getElem?_cons_succ, List.set_cons_zero, List.set_cons_succ, List.append, List.cons_append, List.nil_append, List.replicate, List.take, Nat.reduceAdd, Nat.reduceSub, Bool.not_true, Bool.not_false, decide_true, decide_false, beq_self_eq_true, bne_self_eq_false, Bool.false_eq_true, reduceIte, ↓reduceIte, lkk, lkn, lk0, Nat.reduceBEq, cd_op, m_fits, qfr, qff, e_is_between, Int.reduceSub, h1, h2, and_self]
theorem fit_p {x : Int} (h : -40 ≤ x) (h2 : x ≤ 40) : Fit "p" (.int x) := by
  refine fn_rt rfl (e := [.sh (.str "p"), .sh (.int x)]) ?_ rfl
  simp only [DL.bnd, DL.ret, DL.lft, mVar, mCons, mNil, mCallA, callA, callAF, callB, mCallAF, mCallB, mBin, mUn, mB, mTru, truD, mNot, mAnd, mOr, mBv, mIf, mCb, mChain, mTup, mLst, sSeq, sNx, sIf, sRet, sRetF, sDrop, sSet, sSetF, sto_np, npAt, np_sh, np_ow, np_no, cm_sh, cm_no, DL.nox, fnM, DL.run,
  frz, full_lst, full_ins, nmN, DL.own, mdf, Sl.put, Sl.mut, Option.bind, cmpD, ltD, leD, gtD, geD, addD, subD, negD, modD, mMakF, mkA, sFldS, putD, fldD, mBinO, mOpO, mCmpO, mEqO, mUnO, mLenO, mSubO, mIxO, mPrp, cand_int, cand_tup, cand_lst, cand_scr, cand_str, cand_bl, cand_non, cand_ins, look0, okY_ii, okY_int, sameC_ii, mCmpG, mEqG, okE_n, okE_01, okE_int, okE_bl, okE_str, okE_non, look1, look01, look10, mTruO, mBlO, sParX, xS, xO, xNil, stoX_cons, stoX_nil, It.sl, zip2, zip3, blD, lenD, eqD, neD, Option.map_some, eqB_int,
  List.map, List.length_cons, List.length_nil, List.getElem?_cons_zero, List.getElem?_cons_succ, List.set_cons_zero, List.set_cons_succ, List.append, List.cons_append, List.nil_append, List.replicate, List.take, Nat.reduceAdd, Nat.reduceSub, Bool.not_true, Bool.not_false, decide_true, decide_false, beq_self_eq_true, bne_self_eq_false, Bool.false_eq_true, reduceIte, ↓reduceIte, lkk, lkn, lk0, Nat.reduceBEq, cd_op, m_fits, qpr, qpf, qpp, e_is_between, h, h2, and_self]
theorem fit_t {x : Int} (h : 0 ≤ x) (h2 : x ≤ 200) : Fit "t" (.int x) := by
  refine fn_rt rfl (e := [.sh (.str "t"), .sh (.int x)]) ?_ rfl
  simp only [DL.bnd, DL.ret, DL.lft, mVar, mCons, mNil, mCallA, callA, callAF, callB, mCallAF, mCallB, mBin, mUn, mB, mTru, truD, mNot, mAnd, mOr, mBv, mIf, mCb, mChain, mTup, mLst, sSeq, sNx, sIf, sRet, sRetF, sDrop, sSet, sSetF, sto_np, npAt, np_sh, np_ow, np_no, cm_sh, cm_no, DL.nox, fnM, DL.run,
  frz, full_lst, full_ins, nmN, DL.own, mdf, Sl.put, Sl.mut, Option.bind, cmpD, ltD, leD, gtD, geD, addD, subD, negD, modD, mMakF, mkA, sFldS, putD, fldD, mBinO, mOpO, mCmpO, mEqO, mUnO, mLenO, mSubO, mIxO, mPrp, cand_int, cand_tup, cand_lst, cand_scr, cand_str, cand_bl, cand_non, cand_ins, look0, okY_ii, okY_int, sameC_ii, mCmpG, mEqG, okE_n, okE_01, okE_int, okE_bl, okE_str, okE_non, look1, look01, look10, mTruO, mBlO, sParX, xS, xO, xNil, stoX_cons, stoX_nil, It.sl, zip2, zip3, blD, lenD, eqD, neD, Option.map_some, eqB_int,
  List.map, List.length_cons, List.length_nil, List.getElem?_cons_zero, List.getElem?_cons_succ, List.set_cons_zero, List.set_cons_succ, List.append, List.cons_append, List.nil_append, List.replicate, List.take, Nat.reduceAdd, Nat.reduceSub, Bool.not_true, Bool.not_false, decide_true, decide_false, beq_self_eq_true, bne_self_eq_false, Bool.false_eq_true, reduceIte, ↓reduceIte, lkk, lkn, lk0, Nat.reduceBEq, cd_op, m_fits, qtr, qtf, qtp, qtt, e_is_between, h, h2, and_self]
theorem fit_i (x : Int) : Fit "i" (.int x) := by
  refine fn_rt rfl (e := [.sh (.str "i"), .sh (.int x)]) ?_ rfl
  simp only [DL.bnd, DL.ret, DL.lft, mVar, mCons, mNil, mCallA, callA, callAF, callB, mCallAF, mCallB, mBin, mUn, mB, mTru, truD, mNot, mAnd, mOr, mBv, mIf, mCb, mChain, mTup, mLst, sSeq, sNx, sIf, sRet, sRetF, sDrop, sSet, sSetF, sto_np, npAt, np_sh, np_ow, np_no, cm_sh, cm_no, DL.nox, fnM, DL.run,
  frz, full_lst, full_ins, nmN, DL.own, mdf, Sl.put, Sl.mut, Option.bind, cmpD, ltD, leD, gtD, geD, addD, subD, negD, modD, mMakF, mkA, sFldS, putD, fldD, mBinO, mOpO, mCmpO, mEqO, mUnO, mLenO, mSubO, mIxO, mPrp, cand_int, cand_tup, cand_lst, cand_scr, cand_str, cand_bl, cand_non, cand_ins, look0, okY_ii, okY_int, sameC_ii, mCmpG, mEqG, okE_n, okE_01, okE_int, okE_bl, okE_str, okE_non, look1, look01, look10, mTruO, mBlO, sParX, xS, xO, xNil, stoX_cons, stoX_nil, It.sl, zip2, zip3, blD, lenD, eqD, neD, Option.map_some, eqB_int,
  List.map, List.length_cons, List.length_nil, List.getElem?_cons_zero, List.getElem?_cons_succ, List.set_cons_zero, List.set_cons_succ, List.append, List.cons_append, List.nil_append, List.replicate, List.take, Nat.reduceAdd, Nat.reduceSub, Bool.not_true, Bool.not_false, decide_true, decide_false, beq_self_eq_true, bne_self_eq_false, Bool.false_eq_true, reduceIte, ↓reduceIte, lkk, lkn, lk0, Nat.reduceBEq, cd_op, m_fits, qir, qif, qip, qit, e_is_integer]
/-! an instruction -/
abbrev tgP : Tg := tgTup 2 (tgCons (tgName 2) (tgCons (tgName 3) tgNil))
abbrev mFit : M D := mCallA F_fits [] (mCons (mVar 2) (mCons (mVar 3) mNil))
theorem lc_fit (a b : Sl) : ∀ (ps : List (Str × D)) (acc : List D), (∀ p ∈ ps, Fit p.1 p.2) →
    lcLoop tgP (DL.ret true) mFit [2, 3] (ps.map fun p => .tup [.str p.1, p.2]) acc [a, b, .no, .no] = .ok (acc ++ ps.map fun _ => .bl true) [a, b, .no, .no]
  | [], acc, _ => by simp [lcLoop, DL.ret]
  | p :: ps, acc, h => by
    have h1 : tgP (.tup [.str p.1, p.2]) [a, b, .no, .no] = some [a, b, .sh (.str p.1), .sh p.2] := rfl
    have h2 : mFit [a, b, .sh (.str p.1), .sh p.2] = .ok (.bl true) [a, b, .sh (.str p.1), .sh p.2] := by
      have := h p List.mem_cons_self
      unfold Fit at this
      simp only [DL.bnd, DL.ret, DL.lft, mVar, mCons, mNil, mCallA, callA, callAF, callB, mCallAF, mCallB, mBin, mUn, mB, mTru, truD, mNot, mAnd, mOr, mBv, mIf, mCb, mChain, mTup, mLst, sSeq, sNx, sIf, sRet, sRetF, sDrop, sSet, sSetF, sto_np, npAt, np_sh, np_ow, np_no, cm_sh, cm_no, DL.nox, fnM, DL.run,
  frz, full_lst, full_ins, nmN, DL.own, mdf, Sl.put, Sl.mut, Option.bind, cmpD, ltD, leD, gtD, geD, addD, subD, negD, modD, mMakF, mkA, sFldS, putD, fldD, mBinO, mOpO, mCmpO, mEqO, mUnO, mLenO, mSubO, mIxO, mPrp, cand_int, cand_tup, cand_lst, cand_scr, cand_str, cand_bl, cand_non, cand_ins, look0, okY_ii, okY_int, sameC_ii, mCmpG, mEqG, okE_n, okE_01, okE_int, okE_bl, okE_str, okE_non, look1, look01, look10, mTruO, mBlO, sParX, xS, xO, xNil, stoX_cons, stoX_nil, It.sl, zip2, zip3, blD, lenD, eqD, neD, Option.map_some, eqB_int,
  List.map, List.length_cons, List.length_nil, List.getElem?_cons_zero, List.getElem?_cons_succ, List.set_cons_zero, List.set_cons_succ, List.append, List.cons_append, List.nil_append, List.replicate, List.take, Nat.reduceAdd, Nat.reduceSub, Bool.not_true, Bool.not_false, decide_true, decide_false, beq_self_eq_true, bne_self_eq_false, Bool.false_eq_true, reduceIte, ↓reduceIte, lkk, lkn, lk0, Nat.reduceBEq, cd_op, this]
    have h3 : calmE [a, b, .sh (.str p.1), .sh p.2] [2, 3] = true := rfl
    have h4 : wpE [a, b, .sh (.str p.1), .sh p.2] [2, 3] = [a, b, .no, .no] := rfl
    have ih := lc_fit a b ps (acc ++ [.bl true]) fun d' hd => h d' (List.mem_cons_of_mem _ hd)
    simp only [List.map_cons, lcLoop, h1, DL.bnd, DL.ret, if_true, h2, h3, h4, ih, List.append_assoc, List.singleton_append]
theorem all_true {α : Type} (ps : List α) : allD [.lst (ps.map fun _ => .bl true)] = some (.bl true) := by
  have : (ps.map fun _ => D.bl true) = (ps.map fun _ => true).map D.bl := by rw [List.map_map]; rfl
  rw [this]
  show (asBls _).map _ = _
  rw [asBls_map, Option.map_some]
  congr 2
  simp
theorem isi_tup (ds : List D) : isiD (okOf [2]) [.ty "tuple"] (.tup ds) = some (.bl true) := rfl
theorem isi_str (s : Str) : isiD (okOf [2]) [.ty "str"] (.str s) = some (.bl true) := rfl
theorem ne0 (o : Op) : eqB (toD o) (.tup []) = some false := by cases o <;> kernel_rfl
theorem ixh (a : D) (as : List D) : ixD (.tup (a :: as)) (.int 0) = some a := by
  have : ixN (as.length + 1) 0 = some 0 := by
    unfold ixN
    rw [if_pos (by omega), if_pos (by omega)]
    rfl
  simp [ixD, atI, this]
theorem sl1 (a : D) (as : List D) : slD (.tup (a :: as)) (some 1) none = some (.tup as) := by
  have e : HT.sIx (as.length + 1) 0 (some 1) = 1 := by
    show HT.sIx (as.length + 1) 0 (some ((1 : Nat) : Int)) = 1
    rw [HT.sIx_nat]
    omega
  simp only [slD, cutD, HT.sIx_none, List.length_cons, e, List.drop_succ_cons, List.drop_zero, Nat.add_sub_cancel, List.take_length]
theorem e_isin_of {wd fm : Str} {ps : List (Str × D)} (hl : tb_FORMS.lookup wd = some fm) (hn : fm.length = ps.length) (hz : zipSD [.str fm, .tup (ps.map (·.2))] = some (ps.map fun p => .tup [.str p.1, p.2])) (hs : small ps.length = true)
    (h0 : eqB (.tup (.str wd :: ps.map (·.2))) (.tup []) = some false) (hf : ∀ p ∈ ps, Fit p.1 p.2) : F_is_instruction [.sh (.tup (.str wd :: ps.map (·.2)))] = .ok (.rt (.bl true)) [.sh (.tup (.str wd :: ps.map (·.2)))] := by
  generalize hX : ps.map (·.2) = X at hz h0 ⊢
  have hXl : X.length = ps.length := by rw [← hX, List.length_map]
  have hL : c_is_instruction_1 [.sh (.tup (.str wd :: X)), .sh (.str fm), .no, .no]
      = .ok (.lst (ps.map fun _ => .bl true)) [.sh (.tup (.str wd :: X)), .sh (.str fm), .no, .no] := by
    have h1 : iArg zipSD (mCons (mVar 1) (mCons (mSl (mVar 0) (mPart (DL.ret (.int 1))) mNoP) mNil)) [.sh (.tup (.str wd :: X)), .sh (.str fm), .no, .no] = .ok (ps.map fun p => .tup [.str p.1, p.2]) [.sh (.tup (.str wd :: X)), .sh (.str fm), .no, .no] := by
      simp only [DL.bnd, DL.ret, DL.lft, mVar, mCons, mNil, mCallA, callA, callAF, callB, mCallAF, mCallB, mBin, mUn, mB, mTru, truD, mNot, mAnd, mOr, mBv, mIf, mCb, mChain, mTup, mLst, sSeq, sNx, sIf, sRet, sRetF, sDrop, sSet, sSetF, sto_np, npAt, np_sh, np_ow, np_no, cm_sh, cm_no, DL.nox, fnM, DL.run,
  frz, full_lst, full_ins, nmN, DL.own, mdf, Sl.put, Sl.mut, Option.bind, cmpD, ltD, leD, gtD, geD, addD, subD, negD, modD, mMakF, mkA, sFldS, putD, fldD, mBinO, mOpO, mCmpO, mEqO, mUnO, mLenO, mSubO, mIxO, mPrp, cand_int, cand_tup, cand_lst, cand_scr, cand_str, cand_bl, cand_non, cand_ins, look0, okY_ii, okY_int, sameC_ii, mCmpG, mEqG, okE_n, okE_01, okE_int, okE_bl, okE_str, okE_non, look1, look01, look10, mTruO, mBlO, sParX, xS, xO, xNil, stoX_cons, stoX_nil, It.sl, zip2, zip3, blD, lenD, eqD, neD, Option.map_some, eqB_int,
  List.map, List.length_cons, List.length_nil, List.getElem?_cons_zero, List.getElem?_cons_succ, List.set_cons_zero, List.set_cons_succ, List.append, List.cons_append, List.nil_append, List.replicate, List.take, Nat.reduceAdd, Nat.reduceSub, Bool.not_true, Bool.not_false, decide_true, decide_false, beq_self_eq_true, bne_self_eq_false, Bool.false_eq_true, reduceIte, ↓reduceIte, lkk, lkn, lk0, Nat.reduceBEq, cd_op, iArg, mSl, mPart, mNoP, sl1, hz]
    have h2 := lc_fit (.sh (.tup (.str wd :: X))) (.sh (.str fm)) ps [] hf
    unfold c_is_instruction_1 mLc
    simp only [DL.bnd, h1, List.length_map, hs, calmE, List.all_cons, List.all_nil, calmS, List.getElem?_cons_succ, List.getElem?_cons_zero, Bool.and_self, and_self, if_true, wpE, List.set_cons_succ, List.set_cons_zero, DL.nox, h2, List.nil_append]
    rfl
  refine fn_rt rfl (e := [.sh (.tup (.str wd :: X)), .sh (.str fm), .no, .no]) ?_ rfl
  unfold m_is_instruction
  generalize c_is_instruction_1 = Q at hL ⊢
  have hA := all_true ps
  have e1 : ((ps.length + 1 : Nat) : Int) = (ps.length : Int) + 1 := by omega
  simp only [DL.bnd, DL.ret, DL.lft, mVar, mCons, mNil, mCallA, callA, callAF, callB, mCallAF, mCallB, mBin, mUn, mB, mTru, truD, mNot, mAnd, mOr, mBv, mIf, mCb, mChain, mTup, mLst, sSeq, sNx, sIf, sRet, sRetF, sDrop, sSet, sSetF, sto_np, npAt, np_sh, np_ow, np_no, cm_sh, cm_no, DL.nox, fnM, DL.run,
  frz, full_lst, full_ins, nmN, DL.own, mdf, Sl.put, Sl.mut, Option.bind, cmpD, ltD, leD, gtD, geD, addD, subD, negD, modD, mMakF, mkA, sFldS, putD, fldD, mBinO, mOpO, mCmpO, mEqO, mUnO, mLenO, mSubO, mIxO, mPrp, cand_int, cand_tup, cand_lst, cand_scr, cand_str, cand_bl, cand_non, cand_ins, look0, okY_ii, okY_int, sameC_ii, mCmpG, mEqG, okE_n, okE_01, okE_int, okE_bl, okE_str, okE_non, look1, look01, look10, mTruO, mBlO, sParX, xS, xO, xNil, stoX_cons, stoX_nil, It.sl, zip2, zip3, blD, lenD, eqD, neD, Option.map_some, eqB_int,
  List.map, List.length_cons, List.length_nil, List.getElem?_cons_zero, List.getElem?_cons_succ, List.set_cons_zero, List.set_cons_succ, List.append, List.cons_append, List.nil_append, List.replicate, List.take, Nat.reduceAdd, Nat.reduceSub, Bool.not_true, Bool.not_false, decide_true, decide_false, beq_self_eq_true, bne_self_eq_false, Bool.false_eq_true, reduceIte, ↓reduceIte, lkk, lkn, lk0, Nat.reduceBEq, cd_op, isi_tup, h0, ixh, isi_str, mInK, mGetK, hl, Option.isSome_some, sm0, hL, hA, hn, hs, hXl, e1]
theorem e_isin {n : Int} (hn : n ≤ 200) : ∀ {o : Op}, Vd n o → F_is_instruction [.sh (toD o)] = .ok (.rt (.bl true)) [.sh (toD o)]
  | .set d v, h => e_isin_of (fm := "ri") (ps := [("r", .int d), ("i", .int v)]) (by kernel_rfl) (by kernel_rfl) (by kernel_rfl) rfl (ne0 (.set d v)) (by simp [fit_r h, fit_i])
  | .add d x y, h => e_isin_of (fm := "rrr") (ps := [("r", .int d), ("r", .int x), ("r", .int y)]) (by kernel_rfl) (by kernel_rfl) (by kernel_rfl) rfl (ne0 (.add d x y)) (by simp [fit_r h.1, fit_r h.2.1, fit_r h.2.2])
  | .sub d x y, h => e_isin_of (fm := "rrr") (ps := [("r", .int d), ("r", .int x), ("r", .int y)]) (by kernel_rfl) (by kernel_rfl) (by kernel_rfl) rfl (ne0 (.sub d x y)) (by simp [fit_r h.1, fit_r h.2.1, fit_r h.2.2])
  | .mov d x p, h => e_isin_of (fm := "rrp") (ps := [("r", .int d), ("r", .int x), ("p", .int p)]) (by kernel_rfl) (by kernel_rfl) (by kernel_rfl) rfl (ne0 (.mov d x p)) (by simp [fit_r h.1, fit_r h.2.1, fit_p h.2.2.1 h.2.2.2])
  | .pck d f x y, h => e_isin_of (fm := "rfrr") (ps := [("r", .int d), ("f", .int f), ("r", .int x), ("r", .int y)]) (by kernel_rfl) (by kernel_rfl) (by kernel_rfl) rfl (ne0 (.pck d f x y)) (by simp [fit_r h.1, fit_f h.2.1, fit_r h.2.2.1, fit_r h.2.2.2])
  | .les f x y, h => e_isin_of (fm := "frr") (ps := [("f", .int f), ("r", .int x), ("r", .int y)]) (by kernel_rfl) (by kernel_rfl) (by kernel_rfl) rfl (ne0 (.les f x y)) (by simp [fit_f h.1, fit_r h.2.1, fit_r h.2.2])
  | .sam f x y, h => e_isin_of (fm := "frr") (ps := [("f", .int f), ("r", .int x), ("r", .int y)]) (by kernel_rfl) (by kernel_rfl) (by kernel_rfl) rfl (ne0 (.sam f x y)) (by simp [fit_f h.1, fit_r h.2.1, fit_r h.2.2])
  | .jmp f t, h => e_isin_of (fm := "ft") (ps := [("f", .int f), ("t", .int t)]) (by kernel_rfl) (by kernel_rfl) (by kernel_rfl) rfl (ne0 (.jmp f t)) (by simp [fit_f h.1, fit_t h.2.1 (Int.le_trans h.2.2 hn)])
  | .gto t, h => e_isin_of (fm := "t") (ps := [("t", .int t)]) (by kernel_rfl) (by kernel_rfl) (by kernel_rfl) rfl (ne0 (.gto t)) (by simp [fit_t h.1 (Int.le_trans h.2 hn)])
/-! targets -/
theorem in_jm (b : Bool) (o : Op) : ∃ s : Str, ixD (toD o) (.int 0) = some (.str s) ∧ inD b (.str s) (.tup [.str "jump", .str "goto"]) = some (.bl (jm o != b)) := by
  cases o <;> exact ⟨_, rfl, by cases b <;> kernel_rfl⟩
theorem jmp_last {n : Int} {o : Op} (h : Vd n o) (j : jm o = true) : ∃ t : Int, ixD (toD o) (.int (-1)) = some (.int t) ∧ t ≤ n := by
  cases o <;> simp only [jm, Bool.false_eq_true] at j
  · exact ⟨_, rfl, h.2.2⟩
  · exact ⟨_, rfl, h.2⟩
theorem e_within {n : Int} {o : Op} (h : Vd n o) : F_is_within [.sh (toD o), .sh (.int n)] = .ok (.rt (.bl true)) [.sh (toD o), .sh (.int n)] := by
  refine fn_rt rfl (e := [.sh (toD o), .sh (.int n)]) ?_ rfl
  obtain ⟨s, h1, h2⟩ := in_jm true o
  cases j : jm o with
  | false =>
    rw [j] at h2
    have e : (false != true) = true := rfl
    rw [e] at h2
    simp only [DL.bnd, DL.ret, DL.lft, mVar, mCons, mNil, mCallA, callA, callAF, callB, mCallAF, mCallB, mBin, mUn, mB, mTru, truD, mNot, mAnd, mOr, mBv, mIf, mCb, mChain, mTup, mLst, sSeq, sNx, sIf, sRet, sRetF, sDrop, sSet, sSetF, sto_np, npAt, np_sh, np_ow, np_no, cm_sh, cm_no, DL.nox, fnM, DL.run,
  frz, full_lst, full_ins, nmN, DL.own, mdf, Sl.put, Sl.mut, Option.bind, cmpD, ltD, leD, gtD, geD, addD, subD, negD, modD, mMakF, mkA, sFldS, putD, fldD, mBinO, mOpO, mCmpO, mEqO, mUnO, mLenO, mSubO, mIxO, mPrp, cand_int, cand_tup, cand_lst, cand_scr, cand_str, cand_bl, cand_non, cand_ins, look0, okY_ii, okY_int, sameC_ii, mCmpG, mEqG, okE_n, okE_01, okE_int, okE_bl, okE_str, okE_non, look1, look01, look10, mTruO, mBlO, sParX, xS, xO, xNil, stoX_cons, stoX_nil, It.sl, zip2, zip3, blD, lenD, eqD, neD, Option.map_some, eqB_int,
  List.map, List.length_cons, List.length_nil, List.getElem?_cons_zero, List.getElem?_cons_succ, List.set_cons_zero, List.set_cons_succ, List.append, List.cons_append, List.nil_append, List.replicate, List.take, Nat.reduceAdd, Nat.reduceSub, Bool.not_true, Bool.not_false, decide_true, decide_false, beq_self_eq_true, bne_self_eq_false, Bool.false_eq_true, reduceIte, ↓reduceIte, lkk, lkn, lk0, Nat.reduceBEq, cd_op, m_is_within, h1, sm2, h2]
  | true =>
    rw [j] at h2
    have e : (true != true) = false := rfl
    rw [e] at h2
    obtain ⟨t, h3, h4⟩ := jmp_last h j
    have n1 : (-1 : Int) = -1 := rfl
    simp only [DL.bnd, DL.ret, DL.lft, mVar, mCons, mNil, mCallA, callA, callAF, callB, mCallAF, mCallB, mBin, mUn, mB, mTru, truD, mNot, mAnd, mOr, mBv, mIf, mCb, mChain, mTup, mLst, sSeq, sNx, sIf, sRet, sRetF, sDrop, sSet, sSetF, sto_np, npAt, np_sh, np_ow, np_no, cm_sh, cm_no, DL.nox, fnM, DL.run,
  frz, full_lst, full_ins, nmN, DL.own, mdf, Sl.put, Sl.mut, Option.bind, cmpD, ltD, leD, gtD, geD, addD, subD, negD, modD, mMakF, mkA, sFldS, putD, fldD, mBinO, mOpO, mCmpO, mEqO, mUnO, mLenO, mSubO, mIxO, mPrp, cand_int, cand_tup, cand_lst, cand_scr, cand_str, cand_bl, cand_non, cand_ins, look0, okY_ii, okY_int, sameC_ii, mCmpG, mEqG, okE_n, okE_01, okE_int, okE_bl, okE_str, okE_non, look1, look01, look10, mTruO, mBlO, sParX, xS, xO, xNil, stoX_cons, stoX_nil, It.sl, zip2, zip3, blD, lenD, eqD, neD, Option.map_some, eqB_int,
  List.map, List.length_cons, List.length_nil, List.getElem?_cons_zero, List.getElem?_cons_succ, List.set_cons_zero, List.set_cons_succ, List.append, List.cons_append, List.nil_append, List.replicate, List.take, Nat.reduceAdd, Nat.reduceSub, Bool.not_true, Bool.not_false, decide_true, decide_false, beq_self_eq_true, bne_self_eq_false, Bool.false_eq_true, reduceIte, ↓reduceIte, lkk, lkn, lk0, Nat.reduceBEq, cd_op, m_is_within, h1, sm2, h2, h3, h4]
end LW

set_option Elab.async false
set_option linter.all false
set_option maxRecDepth 100000
set_option maxHeartbeats 1000000
namespace LW
open PySem L2 DL
/-! data are equal to themselves -/
def Dt (n : Nat) (d : D) : Prop := ∃ x, toPD d = some x ∧ x.canLay0 = true ∧ x.depth ≤ n
theorem dt_int (n : Nat) (i : Int) : Dt n (.int i) := ⟨.int i, by simp [toPD], by simp [PyData.canLay0], by simp [PyData.depth]⟩
theorem dt_str (n : Nat) (s : Str) (h : PyData.canLay0 (.str s) = true) : Dt n (.str s) := ⟨.str s, by simp [toPD], h, by simp [PyData.depth]⟩
theorem dt_all {n : Nat} : ∀ {ds : List D}, (∀ d ∈ ds, Dt n d) → ∃ xs, toPDs ds = some xs ∧ PyData.canLayAll0 xs = true ∧ PyData.depthAll xs ≤ n
  | [], _ => ⟨[], by simp [toPDs], by simp [PyData.canLayAll0], by simp [PyData.depthAll]⟩
  | d :: ds, h => by
    obtain ⟨x, h1, h2, h3⟩ := h d List.mem_cons_self
    obtain ⟨xs, h4, h5, h6⟩ := dt_all fun d' hd => h d' (List.mem_cons_of_mem _ hd)
    exact ⟨x :: xs, by simp only [toPDs, h1, h4], by simp only [PyData.canLayAll0, h2, h5, Bool.and_self], by simp only [PyData.depthAll]; omega⟩
theorem dt_tup {n : Nat} {ds : List D} (h : ∀ d ∈ ds, Dt n d) : Dt (n + 1) (.tup ds) := by
  obtain ⟨xs, h4, h5, h6⟩ := dt_all h
  exact ⟨.tuple xs, by simp only [toPD, h4, Option.map_some], by simp only [PyData.canLay0, h5], by simp only [PyData.depth]; omega⟩
theorem dt_lst {n : Nat} {ds : List D} (h : ∀ d ∈ ds, Dt n d) : Dt (n + 1) (.lst ds) := by
  obtain ⟨xs, h4, h5, h6⟩ := dt_all h
  exact ⟨.list xs, by simp only [toPD, h4, Option.map_some], by simp only [PyData.canLay0, h5], by simp only [PyData.depth]; omega⟩
theorem eqB_refl {n : Nat} (hn : n ≤ 64) {d : D} (h : Dt n d) : eqB d d = some true := by
  obtain ⟨x, h1, h2, h3⟩ := h
  have s : SeqAt.shaped x = true := by
    unfold SeqAt.shaped
    rw [h2, Bool.true_and]
    exact decide_eq_true (by omega)
  simp only [eqB, h1, s, and_self, if_true, SeqAt.eqv_refl x h2]
theorem dt_op (o : Op) : Dt 1 (toD o) := by
  cases o <;> exact dt_tup (by
    simp only [List.mem_cons, List.not_mem_nil, or_false, forall_eq_or_imp, forall_eq, dt_int, and_true, true_and]
    try exact dt_str 0 _ (by kernel_rfl))
theorem dt_ops {xs : List Op} : ∀ d ∈ xs.map toD, Dt 1 d := fun d hd => by
  obtain ⟨o, _, rfl⟩ := List.mem_map.mp hd
  exact dt_op o
theorem eq_ops (xs : List Op) : eqB (.tup (xs.map toD)) (.tup (xs.map toD)) = some true := eqB_refl (by decide) (dt_tup dt_ops)
/-! programs -/
abbrev Pg (xs : List Op) : D := .ins 2 [.tup (xs.map toD), .bl (!((xs.map jm).any id))]
theorem ixl : ixF "lines" (nmT 2) = some 0 := rfl
theorem ixst : ixF "straight" (nmT 2) = some 1 := rfl
theorem isi_lt (ds : List D) : isiD (okOf [2]) [.ty "list", .ty "tuple"] (.lst ds) = some (.bl true) := rfl
theorem loop_init {L : List D} (hL : L.length ≤ 200) : ∀ (os : List Op) (x2 : Sl), (∀ o ∈ os, Vd (L.length : Int) o) → np x2 = true → ∃ y, np y = true ∧
    sLoop (tgName 2) b_Program_init_1 (os.map toD) [.pn (.ins 2 []), .sh (.lst L), x2, .no] = .ok .nx [.pn (.ins 2 []), .sh (.lst L), y, .no]
  | [], x2, _, h => ⟨x2, h, by simp [sLoop, sNx, DL.ret]⟩
  | o :: os, x2, hv, h => by
    obtain ⟨y, hy, e⟩ := loop_init hL os (.sh (toD o)) (fun o' ho => hv o' (List.mem_cons_of_mem _ ho)) rfl
    have v := hv o List.mem_cons_self
    have h1 := e_isin (n := (L.length : Int)) (by omega) v
    have h2 := e_within v
    refine ⟨y, hy, ?_⟩
    rw [List.map_cons, loop_nx (e1 := [.pn (.ins 2 []), .sh (.lst L), .sh (toD o), .no]) (e2 := [.pn (.ins 2 []), .sh (.lst L), .sh (toD o), .no]), e]
    · simp only [DL.bnd, DL.ret, DL.lft, mVar, mCons, mNil, mCallA, callA, callAF, callB, mCallAF, mCallB, mBin, mUn, mB, mTru, truD, mNot, mAnd, mOr, mBv, mIf, mCb, mChain, mTup, mLst, sSeq, sNx, sIf, sRet, sRetF, sDrop, sSet, sSetF, sto_np, npAt, np_sh, np_ow, np_no, cm_sh, cm_no, DL.nox, fnM, DL.run,
  frz, full_lst, full_ins, nmN, DL.own, mdf, Sl.put, Sl.mut, Option.bind, cmpD, ltD, leD, gtD, geD, addD, subD, negD, modD, mMakF, mkA, sFldS, putD, fldD, mBinO, mOpO, mCmpO, mEqO, mUnO, mLenO, mSubO, mIxO, mPrp, cand_int, cand_tup, cand_lst, cand_scr, cand_str, cand_bl, cand_non, cand_ins, look0, okY_ii, okY_int, sameC_ii, mCmpG, mEqG, okE_n, okE_01, okE_int, okE_bl, okE_str, okE_non, look1, look01, look10, mTruO, mBlO, sParX, xS, xO, xNil, stoX_cons, stoX_nil, It.sl, zip2, zip3, blD, lenD, eqD, neD, Option.map_some, eqB_int,
  List.map, List.length_cons, List.length_nil, List.getElem?_cons_zero, List.getElem?_cons_succ, List.set_cons_zero, List.set_cons_succ, List.append, List.cons_append, List.nil_append, List.replicate, List.take, Nat.reduceAdd, Nat.reduceSub, Bool.not_true, Bool.not_false, decide_true, decide_false, beq_self_eq_true, bne_self_eq_false, Bool.false_eq_true, reduceIte, ↓reduceIte, lkk, lkn, lk0, Nat.reduceBEq, cd_op, tgName, stE_np, h]
    · simp only [DL.bnd, DL.ret, DL.lft, mVar, mCons, mNil, mCallA, callA, callAF, callB, mCallAF, mCallB, mBin, mUn, mB, mTru, truD, mNot, mAnd, mOr, mBv, mIf, mCb, mChain, mTup, mLst, sSeq, sNx, sIf, sRet, sRetF, sDrop, sSet, sSetF, sto_np, npAt, np_sh, np_ow, np_no, cm_sh, cm_no, DL.nox, fnM, DL.run,
  frz, full_lst, full_ins, nmN, DL.own, mdf, Sl.put, Sl.mut, Option.bind, cmpD, ltD, leD, gtD, geD, addD, subD, negD, modD, mMakF, mkA, sFldS, putD, fldD, mBinO, mOpO, mCmpO, mEqO, mUnO, mLenO, mSubO, mIxO, mPrp, cand_int, cand_tup, cand_lst, cand_scr, cand_str, cand_bl, cand_non, cand_ins, look0, okY_ii, okY_int, sameC_ii, mCmpG, mEqG, okE_n, okE_01, okE_int, okE_bl, okE_str, okE_non, look1, look01, look10, mTruO, mBlO, sParX, xS, xO, xNil, stoX_cons, stoX_nil, It.sl, zip2, zip3, blD, lenD, eqD, neD, Option.map_some, eqB_int,
  List.map, List.length_cons, List.length_nil, List.getElem?_cons_zero, List.getElem?_cons_succ, List.set_cons_zero, List.set_cons_succ, List.append, List.cons_append, List.nil_append, List.replicate, List.take, Nat.reduceAdd, Nat.reduceSub, Bool.not_true, Bool.not_false, decide_true, decide_false, beq_self_eq_true, bne_self_eq_false, Bool.false_eq_true, reduceIte, ↓reduceIte, lkk, lkn, lk0, Nat.reduceBEq, cd_op, b_Program_init_1, h1, h2]
def fJ (d : D) : D := (inD false ((ixD d (.int 0)).getD .non) (.tup [.str "jump", .str "goto"])).getD .non
theorem fJ_op (o : Op) : fJ (toD o) = .bl (jm o) := by
  obtain ⟨s, h1, h2⟩ := in_jm false o
  unfold fJ
  rw [h1, Option.getD_some, h2, Option.getD_some]
  cases jm o <;> rfl
theorem e_pinit {xs : List Op} (hv : VL xs) (hl : xs.length ≤ 200) : F_Program_init [.pn (.ins 2 []), .sh (.lst (xs.map toD))] = .ok (.rt .non) [.pn (Pg xs), .sh (.lst (xs.map toD))] := by
  have hl2 : (xs.map toD).length ≤ 200 := by rw [List.length_map]; exact hl
  obtain ⟨y, hy, e⟩ := loop_init hl2 xs .no (by rw [List.length_map]; exact hv) rfl
  refine fn_nx rfl (e := [.pn (Pg xs), .sh (.lst (xs.map toD)), y, .no]) ?_ rfl
  have h3 : decide (200 < ((xs.map toD).length : Int)) = false := decide_eq_false (by omega)
  have h4 : sFor (iItm (mVar 1)) (tgName 2) b_Program_init_1 [.pn (.ins 2 []), .sh (.lst (xs.map toD)), .no, .no] = .ok .nx [.pn (.ins 2 []), .sh (.lst (xs.map toD)), y, .no] :=
    for_ok (ds := xs.map toD) (e1 := [.pn (.ins 2 []), .sh (.lst (xs.map toD)), .no, .no]) (by simp only [DL.bnd, DL.ret, DL.lft, mVar, mCons, mNil, mCallA, callA, callAF, callB, mCallAF, mCallB, mBin, mUn, mB, mTru, truD, mNot, mAnd, mOr, mBv, mIf, mCb, mChain, mTup, mLst, sSeq, sNx, sIf, sRet, sRetF, sDrop, sSet, sSetF, sto_np, npAt, np_sh, np_ow, np_no, cm_sh, cm_no, DL.nox, fnM, DL.run,
  frz, full_lst, full_ins, nmN, DL.own, mdf, Sl.put, Sl.mut, Option.bind, cmpD, ltD, leD, gtD, geD, addD, subD, negD, modD, mMakF, mkA, sFldS, putD, fldD, mBinO, mOpO, mCmpO, mEqO, mUnO, mLenO, mSubO, mIxO, mPrp, cand_int, cand_tup, cand_lst, cand_scr, cand_str, cand_bl, cand_non, cand_ins, look0, okY_ii, okY_int, sameC_ii, mCmpG, mEqG, okE_n, okE_01, okE_int, okE_bl, okE_str, okE_non, look1, look01, look10, mTruO, mBlO, sParX, xS, xO, xNil, stoX_cons, stoX_nil, It.sl, zip2, zip3, blD, lenD, eqD, neD, Option.map_some, eqB_int,
  List.map, List.length_cons, List.length_nil, List.getElem?_cons_zero, List.getElem?_cons_succ, List.set_cons_zero, List.set_cons_succ, List.append, List.cons_append, List.nil_append, List.replicate, List.take, Nat.reduceAdd, Nat.reduceSub, Bool.not_true, Bool.not_false, decide_true, decide_false, beq_self_eq_true, bne_self_eq_false, Bool.false_eq_true, reduceIte, ↓reduceIte, lkk, lkn, lk0, Nat.reduceBEq, cd_op, iItm, itemsD]) e
  have h5 : c_Program_init_1 [.pn (.ins 2 [.tup (xs.map toD)]), .sh (.lst (xs.map toD)), y, .no]
      = .ok (.lst ((xs.map toD).map fJ)) [.pn (.ins 2 [.tup (xs.map toD)]), .sh (.lst (xs.map toD)), y, .no] := by
    refine mLc_pure (ds := xs.map toD) (y := .no) (by simp only [DL.bnd, DL.ret, DL.lft, mVar, mCons, mNil, mCallA, callA, callAF, callB, mCallAF, mCallB, mBin, mUn, mB, mTru, truD, mNot, mAnd, mOr, mBv, mIf, mCb, mChain, mTup, mLst, sSeq, sNx, sIf, sRet, sRetF, sDrop, sSet, sSetF, sto_np, npAt, np_sh, np_ow, np_no, cm_sh, cm_no, DL.nox, fnM, DL.run,
  frz, full_lst, full_ins, nmN, DL.own, mdf, Sl.put, Sl.mut, Option.bind, cmpD, ltD, leD, gtD, geD, addD, subD, negD, modD, mMakF, mkA, sFldS, putD, fldD, mBinO, mOpO, mCmpO, mEqO, mUnO, mLenO, mSubO, mIxO, mPrp, cand_int, cand_tup, cand_lst, cand_scr, cand_str, cand_bl, cand_non, cand_ins, look0, okY_ii, okY_int, sameC_ii, mCmpG, mEqG, okE_n, okE_01, okE_int, okE_bl, okE_str, okE_non, look1, look01, look10, mTruO, mBlO, sParX, xS, xO, xNil, stoX_cons, stoX_nil, It.sl, zip2, zip3, blD, lenD, eqD, neD, Option.map_some, eqB_int,
  List.map, List.length_cons, List.length_nil, List.getElem?_cons_zero, List.getElem?_cons_succ, List.set_cons_zero, List.set_cons_succ, List.append, List.cons_append, List.nil_append, List.replicate, List.take, Nat.reduceAdd, Nat.reduceSub, Bool.not_true, Bool.not_false, decide_true, decide_false, beq_self_eq_true, bne_self_eq_false, Bool.false_eq_true, reduceIte, ↓reduceIte, lkk, lkn, lk0, Nat.reduceBEq, cd_op, iItm, itemsD, ixl]) rfl rfl (decide_eq_true (by omega)) ?_
    intro d hd
    obtain ⟨o, _, rfl⟩ := List.mem_map.mp hd
    obtain ⟨s, h1, h2⟩ := in_jm false o
    have h6 : fJ (toD o) = .bl (jm o != false) := by rw [fJ_op]; cases jm o <;> rfl
    rw [h6]
    simp only [DL.bnd, DL.ret, DL.lft, mVar, mCons, mNil, mCallA, callA, callAF, callB, mCallAF, mCallB, mBin, mUn, mB, mTru, truD, mNot, mAnd, mOr, mBv, mIf, mCb, mChain, mTup, mLst, sSeq, sNx, sIf, sRet, sRetF, sDrop, sSet, sSetF, sto_np, npAt, np_sh, np_ow, np_no, cm_sh, cm_no, DL.nox, fnM, DL.run,
  frz, full_lst, full_ins, nmN, DL.own, mdf, Sl.put, Sl.mut, Option.bind, cmpD, ltD, leD, gtD, geD, addD, subD, negD, modD, mMakF, mkA, sFldS, putD, fldD, mBinO, mOpO, mCmpO, mEqO, mUnO, mLenO, mSubO, mIxO, mPrp, cand_int, cand_tup, cand_lst, cand_scr, cand_str, cand_bl, cand_non, cand_ins, look0, okY_ii, okY_int, sameC_ii, mCmpG, mEqG, okE_n, okE_01, okE_int, okE_bl, okE_str, okE_non, look1, look01, look10, mTruO, mBlO, sParX, xS, xO, xNil, stoX_cons, stoX_nil, It.sl, zip2, zip3, blD, lenD, eqD, neD, Option.map_some, eqB_int,
  List.map, List.length_cons, List.length_nil, List.getElem?_cons_zero, List.getElem?_cons_succ, List.set_cons_zero, List.set_cons_succ, List.append, List.cons_append, List.nil_append, List.replicate, List.take, Nat.reduceAdd, Nat.reduceSub, Bool.not_true, Bool.not_false, decide_true, decide_false, beq_self_eq_true, bne_self_eq_false, Bool.false_eq_true, reduceIte, ↓reduceIte, lkk, lkn, lk0, Nat.reduceBEq, cd_op, h1, h2, sm2]
  have h6 : (xs.map toD).map fJ = (xs.map jm).map .bl := by
    rw [List.map_map, List.map_map]
    exact List.map_congr_left fun o _ => fJ_op o
  rw [h6] at h5
  have h7 : anyD [.lst ((xs.map jm).map .bl)] = some (.bl ((xs.map jm).any id)) := by
    show (asBls _).map _ = _
    rw [asBls_map, Option.map_some]
  show m_Program_init [.pn (.ins 2 []), .sh (.lst (xs.map toD)), .no, .no] = _
  unfold m_Program_init
  rw [seq_nx (e1 := [.pn (.ins 2 []), .sh (.lst (xs.map toD)), .no, .no]), seq_nx h4, seq_nx (e1 := [.pn (.ins 2 [.tup (xs.map toD)]), .sh (.lst (xs.map toD)), y, .no])]
  · generalize c_Program_init_1 = Q at h5 ⊢
    simp only [DL.bnd, DL.ret, DL.lft, mVar, mCons, mNil, mCallA, callA, callAF, callB, mCallAF, mCallB, mBin, mUn, mB, mTru, truD, mNot, mAnd, mOr, mBv, mIf, mCb, mChain, mTup, mLst, sSeq, sNx, sIf, sRet, sRetF, sDrop, sSet, sSetF, sto_np, npAt, np_sh, np_ow, np_no, cm_sh, cm_no, DL.nox, fnM, DL.run,
  frz, full_lst, full_ins, nmN, DL.own, mdf, Sl.put, Sl.mut, Option.bind, cmpD, ltD, leD, gtD, geD, addD, subD, negD, modD, mMakF, mkA, sFldS, putD, fldD, mBinO, mOpO, mCmpO, mEqO, mUnO, mLenO, mSubO, mIxO, mPrp, cand_int, cand_tup, cand_lst, cand_scr, cand_str, cand_bl, cand_non, cand_ins, look0, okY_ii, okY_int, sameC_ii, mCmpG, mEqG, okE_n, okE_01, okE_int, okE_bl, okE_str, okE_non, look1, look01, look10, mTruO, mBlO, sParX, xS, xO, xNil, stoX_cons, stoX_nil, It.sl, zip2, zip3, blD, lenD, eqD, neD, Option.map_some, eqB_int,
  List.map, List.length_cons, List.length_nil, List.getElem?_cons_zero, List.getElem?_cons_succ, List.set_cons_zero, List.set_cons_succ, List.append, List.cons_append, List.nil_append, List.replicate, List.take, Nat.reduceAdd, Nat.reduceSub, Bool.not_true, Bool.not_false, decide_true, decide_false, beq_self_eq_true, bne_self_eq_false, Bool.false_eq_true, reduceIte, ↓reduceIte, lkk, lkn, lk0, Nat.reduceBEq, cd_op, h5, h7, ixst, sm3, Nat.lt_irrefl, Nat.reduceLT, Nat.not_lt_zero]
  · simp only [DL.bnd, DL.ret, DL.lft, mVar, mCons, mNil, mCallA, callA, callAF, callB, mCallAF, mCallB, mBin, mUn, mB, mTru, truD, mNot, mAnd, mOr, mBv, mIf, mCb, mChain, mTup, mLst, sSeq, sNx, sIf, sRet, sRetF, sDrop, sSet, sSetF, sto_np, npAt, np_sh, np_ow, np_no, cm_sh, cm_no, DL.nox, fnM, DL.run,
  frz, full_lst, full_ins, nmN, DL.own, mdf, Sl.put, Sl.mut, Option.bind, cmpD, ltD, leD, gtD, geD, addD, subD, negD, modD, mMakF, mkA, sFldS, putD, fldD, mBinO, mOpO, mCmpO, mEqO, mUnO, mLenO, mSubO, mIxO, mPrp, cand_int, cand_tup, cand_lst, cand_scr, cand_str, cand_bl, cand_non, cand_ins, look0, okY_ii, okY_int, sameC_ii, mCmpG, mEqG, okE_n, okE_01, okE_int, okE_bl, okE_str, okE_non, look1, look01, look10, mTruO, mBlO, sParX, xS, xO, xNil, stoX_cons, stoX_nil, It.sl, zip2, zip3, blD, lenD, eqD, neD, Option.map_some, eqB_int,
  List.map, List.length_cons, List.length_nil, List.getElem?_cons_zero, List.getElem?_cons_succ, List.set_cons_zero, List.set_cons_succ, List.append, List.cons_append, List.nil_append, List.replicate, List.take, Nat.reduceAdd, Nat.reduceSub, Bool.not_true, Bool.not_false, decide_true, decide_false, beq_self_eq_true, bne_self_eq_false, Bool.false_eq_true, reduceIte, ↓reduceIte, lkk, lkn, lk0, Nat.reduceBEq, cd_op, tupleD, ixl, sm3, Nat.lt_irrefl, Nat.reduceLT, Nat.not_lt_zero]
  · simp only [DL.bnd, DL.ret, DL.lft, mVar, mCons, mNil, mCallA, callA, callAF, callB, mCallAF, mCallB, mBin, mUn, mB, mTru, truD, mNot, mAnd, mOr, mBv, mIf, mCb, mChain, mTup, mLst, sSeq, sNx, sIf, sRet, sRetF, sDrop, sSet, sSetF, sto_np, npAt, np_sh, np_ow, np_no, cm_sh, cm_no, DL.nox, fnM, DL.run,
  frz, full_lst, full_ins, nmN, DL.own, mdf, Sl.put, Sl.mut, Option.bind, cmpD, ltD, leD, gtD, geD, addD, subD, negD, modD, mMakF, mkA, sFldS, putD, fldD, mBinO, mOpO, mCmpO, mEqO, mUnO, mLenO, mSubO, mIxO, mPrp, cand_int, cand_tup, cand_lst, cand_scr, cand_str, cand_bl, cand_non, cand_ins, look0, okY_ii, okY_int, sameC_ii, mCmpG, mEqG, okE_n, okE_01, okE_int, okE_bl, okE_str, okE_non, look1, look01, look10, mTruO, mBlO, sParX, xS, xO, xNil, stoX_cons, stoX_nil, It.sl, zip2, zip3, blD, lenD, eqD, neD, Option.map_some, eqB_int,
  List.map, List.length_cons, List.length_nil, List.getElem?_cons_zero, List.getElem?_cons_succ, List.set_cons_zero, List.set_cons_succ, List.append, List.cons_append, List.nil_append, List.replicate, List.take, Nat.reduceAdd, Nat.reduceSub, Bool.not_true, Bool.not_false, decide_true, decide_false, beq_self_eq_true, bne_self_eq_false, Bool.false_eq_true, reduceIte, ↓reduceIte, lkk, lkn, lk0, Nat.reduceBEq, cd_op, isi_lt, h3]
theorem e_peq (xs : List Op) : F_Program_eq [.sh (Pg xs), .sh (Pg xs)] = .ok (.rt (.bl true)) [.sh (Pg xs), .sh (Pg xs)] := by
  refine fn_rt rfl (e := [.sh (Pg xs), .sh (Pg xs)]) ?_ rfl
  have i2 : isiD (okOf [2]) [.cl 2] (Pg xs) = some (.bl true) := rfl
  have h := eq_ops xs
  simp only [DL.bnd, DL.ret, DL.lft, mVar, mCons, mNil, mCallA, callA, callAF, callB, mCallAF, mCallB, mBin, mUn, mB, mTru, truD, mNot, mAnd, mOr, mBv, mIf, mCb, mChain, mTup, mLst, sSeq, sNx, sIf, sRet, sRetF, sDrop, sSet, sSetF, sto_np, npAt, np_sh, np_ow, np_no, cm_sh, cm_no, DL.nox, fnM, DL.run,
  frz, full_lst, full_ins, nmN, DL.own, mdf, Sl.put, Sl.mut, Option.bind, cmpD, ltD, leD, gtD, geD, addD, subD, negD, modD, mMakF, mkA, sFldS, putD, fldD, mBinO, mOpO, mCmpO, mEqO, mUnO, mLenO, mSubO, mIxO, mPrp, cand_int, cand_tup, cand_lst, cand_scr, cand_str, cand_bl, cand_non, cand_ins, look0, okY_ii, okY_int, sameC_ii, mCmpG, mEqG, okE_n, okE_01, okE_int, okE_bl, okE_str, okE_non, look1, look01, look10, mTruO, mBlO, sParX, xS, xO, xNil, stoX_cons, stoX_nil, It.sl, zip2, zip3, blD, lenD, eqD, neD, Option.map_some, eqB_int,
  List.map, List.length_cons, List.length_nil, List.getElem?_cons_zero, List.getElem?_cons_succ, List.set_cons_zero, List.set_cons_succ, List.append, List.cons_append, List.nil_append, List.replicate, List.take, Nat.reduceAdd, Nat.reduceSub, Bool.not_true, Bool.not_false, decide_true, decide_false, beq_self_eq_true, bne_self_eq_false, Bool.false_eq_true, reduceIte, ↓reduceIte, lkk, lkn, lk0, Nat.reduceBEq, cd_op, m_Program_eq, i2, ixl, h]
theorem e_ins (xs : List Op) : F_Program_instructions [.sh (Pg xs)] = .ok (.rt (.tup (xs.map toD))) [.sh (Pg xs)] := by
  refine fn_rt rfl (e := [.sh (Pg xs)]) ?_ rfl
  simp only [DL.bnd, DL.ret, DL.lft, mVar, mCons, mNil, mCallA, callA, callAF, callB, mCallAF, mCallB, mBin, mUn, mB, mTru, truD, mNot, mAnd, mOr, mBv, mIf, mCb, mChain, mTup, mLst, sSeq, sNx, sIf, sRet, sRetF, sDrop, sSet, sSetF, sto_np, npAt, np_sh, np_ow, np_no, cm_sh, cm_no, DL.nox, fnM, DL.run,
  frz, full_lst, full_ins, nmN, DL.own, mdf, Sl.put, Sl.mut, Option.bind, cmpD, ltD, leD, gtD, geD, addD, subD, negD, modD, mMakF, mkA, sFldS, putD, fldD, mBinO, mOpO, mCmpO, mEqO, mUnO, mLenO, mSubO, mIxO, mPrp, cand_int, cand_tup, cand_lst, cand_scr, cand_str, cand_bl, cand_non, cand_ins, look0, okY_ii, okY_int, sameC_ii, mCmpG, mEqG, okE_n, okE_01, okE_int, okE_bl, okE_str, okE_non, look1, look01, look10, mTruO, mBlO, sParX, xS, xO, xNil, stoX_cons, stoX_nil, It.sl, zip2, zip3, blD, lenD, eqD, neD, Option.map_some, eqB_int,
  List.map, List.length_cons, List.length_nil, List.getElem?_cons_zero, List.getElem?_cons_succ, List.set_cons_zero, List.set_cons_succ, List.append, List.cons_append, List.nil_append, List.replicate, List.take, Nat.reduceAdd, Nat.reduceSub, Bool.not_true, Bool.not_false, decide_true, decide_false, beq_self_eq_true, bne_self_eq_false, Bool.false_eq_true, reduceIte, ↓reduceIte, lkk, lkn, lk0, Nat.reduceBEq, cd_op, m_Program_instructions, ixl]
theorem e_pget {xs : List Op} {i : Nat} {o : Op} (h : xs[i]? = some o) : F_Program_getitem [.sh (Pg xs), .sh (.int (i : Int))] = .ok (.rt (toD o)) [.sh (Pg xs), .sh (.int (i : Int))] := by
  refine fn_rt rfl (e := [.sh (Pg xs), .sh (.int (i : Int))]) ?_ rfl
  have hi : i < xs.length := (List.getElem?_eq_some_iff.mp h).1
  have h1 := e_check_between (v := (i : Int)) (a := 0) (b := (xs.length : Int) - 1) (by omega) (by omega)
  have h2 : ixD (.tup (xs.map toD)) (.int (i : Int)) = some (toD o) := by
    have : ixN (xs.map toD).length (i : Int) = some i := by
      unfold ixN
      rw [List.length_map, if_pos (by omega), if_pos (by omega), Int.toNat_natCast]
    simp only [ixD, atI, this, Option.bind, List.getElem?_map, h, Option.map_some]
  simp only [DL.bnd, DL.ret, DL.lft, mVar, mCons, mNil, mCallA, callA, callAF, callB, mCallAF, mCallB, mBin, mUn, mB, mTru, truD, mNot, mAnd, mOr, mBv, mIf, mCb, mChain, mTup, mLst, sSeq, sNx, sIf, sRet, sRetF, sDrop, sSet, sSetF, sto_np, npAt, np_sh, np_ow, np_no, cm_sh, cm_no, DL.nox, fnM, DL.run,
  frz, full_lst, full_ins, nmN, DL.own, mdf, Sl.put, Sl.mut, Option.bind, cmpD, ltD, leD, gtD, geD, addD, subD, negD, modD, mMakF, mkA, sFldS, putD, fldD, mBinO, mOpO, mCmpO, mEqO, mUnO, mLenO, mSubO, mIxO, mPrp, cand_int, cand_tup, cand_lst, cand_scr, cand_str, cand_bl, cand_non, cand_ins, look0, okY_ii, okY_int, sameC_ii, mCmpG, mEqG, okE_n, okE_01, okE_int, okE_bl, okE_str, okE_non, look1, look01, look10, mTruO, mBlO, sParX, xS, xO, xNil, stoX_cons, stoX_nil, It.sl, zip2, zip3, blD, lenD, eqD, neD, Option.map_some, eqB_int,
  List.map, List.length_cons, List.length_nil, List.getElem?_cons_zero, List.getElem?_cons_succ, List.set_cons_zero, List.set_cons_succ, List.append, List.cons_append, List.nil_append, List.replicate, List.take, Nat.reduceAdd, Nat.reduceSub, Bool.not_true, Bool.not_false, decide_true, decide_false, beq_self_eq_true, bne_self_eq_false, Bool.false_eq_true, reduceIte, ↓reduceIte, lkk, lkn, lk0, Nat.reduceBEq, cd_op, m_Program_getitem, ixl, List.length_map, h1, h2]
end LW

set_option Elab.async false
set_option linter.all false
set_option maxRecDepth 100000
set_option maxHeartbeats 1000000
namespace LW
open PySem L2 DL PyProof.Rows
open TL (tl)
/-! texts of numbers -/
def nS (i : Int) : Str := Str.ofString (toString i)
theorem tl_nS (n : Nat) : tl (nS (n : Int)) = TL.numL n := TL.tl_num n
theorem tl_neg (n : Nat) : tl (nS (Int.negSucc n)) = 45 :: TL.numL (n + 1) := by
  show tl (Str.ofString ("-" ++ toString (n + 1))) = _
  rw [TL.tl_ofString, String.toList_append, List.map_append]
  have h := TL.tl_num (n + 1)
  rw [TL.tl_ofString] at h
  rw [show (toString (n + 1) : String).toList.map Char.toNat = TL.numL (n + 1) from h]
  rfl
theorem hd_num : ∀ n : Nat, 0 < n → ∃ d r, TL.numL n = d :: r ∧ 48 < d := by
  intro n
  induction n using Nat.strongRecOn with
  | _ n ih =>
    intro h
    by_cases c : n < 10
    · exact ⟨_, _, TL.numL_lt c, by omega⟩
    · obtain ⟨d, r, e, g⟩ := ih (n / 10) (by omega) (by omega)
      exact ⟨d, r ++ [48 + n % 10], by rw [TL.numL_step (by omega), e, List.cons_append], g⟩
theorem num0 : TL.numL 0 = [48] := TL.numL_lt (by omega)
/-! where a text begins, ends, and what is left -/
theorem start_tl (a b : Str) : Txt.startswith a b = (decide ((tl b).length ≤ (tl a).length) && TL.pre (tl b) (tl a)) := by
  unfold Txt.startswith
  rw [PySem.StrLaws.subAt_eq, List.drop_zero, Nat.zero_add, TL.len_tl, TL.len_tl]
  rfl
theorem start1 {a b : Str} {s c : Nat} {r : List Nat} (hb : tl b = [s]) (ha : tl a = c :: r) : Txt.startswith a b = decide (c = s) := by
  rw [start_tl, hb, ha]
  simp [TL.pre]
  by_cases h : c = s <;> simp [h]
theorem end_tl (a b : Str) : Txt.endswith a b = (decide ((tl b).length ≤ (tl a).length) && (((tl a).drop ((tl a).length - (tl b).length)).take (tl b).length == tl b)) := by
  unfold Txt.endswith
  rw [PySem.StrLaws.subAt_eq, Nat.zero_add, TL.len_tl, TL.len_tl]
theorem end1 {a b : Str} {s c : Nat} {r : List Nat} (hb : tl b = [s]) (ha : tl a = r ++ [c]) : Txt.endswith a b = decide (c = s) := by
  rw [end_tl, hb, ha]
  have e : (r ++ [c]).length - [s].length = r.length := by simp
  rw [e, List.drop_left]
  simp
  by_cases h : c = s <;> simp [h]
theorem tl_cut1 (a : Str) : tl (cutS a (some 1) none) = (tl a).drop 1 := by
  unfold cutS
  rw [TL.tl_mk, HT.sIx_none, show (some 1 : Option Int) = some ((1 : Nat) : Int) from rfl, HT.sIx_nat, TL.len_tl]
  show List.take ((tl a).length - min 1 (tl a).length) (List.drop (min 1 (tl a).length) (tl a)) = (tl a).drop 1
  generalize tl a = z
  cases z with
  | nil => rfl
  | cons c r =>
    have e : min 1 (c :: r).length = 1 := by simp only [List.length_cons]; omega
    rw [e, List.drop_succ_cons, List.drop_zero, List.length_cons, Nat.add_sub_cancel, List.take_length]
theorem cut1 {a b : Str} {c : Nat} (h : tl a = c :: tl b) : cutS a (some 1) none = b := by
  apply TL.ext_tl
  rw [tl_cut1, h, List.drop_succ_cons, List.drop_zero]
theorem cut1_app {a b : Str} {c : Nat} (h : tl a = [c]) : cutS (a ++ b) (some 1) none = b := cut1 (by rw [TL.tl_append, h]; rfl)
/-! the length of a text joined of others -/
theorem lenJ {S : List Nat} : ∀ {ps : List (List Nat)} {k : Nat}, (∀ p ∈ ps, p.length ≤ k) → (TL.joinL S ps).length ≤ ps.length * (k + S.length)
  | [], _, _ => by simp [TL.joinL]
  | [p], k, h => by
    have := h p List.mem_cons_self
    simp only [TL.joinL, List.length_cons, List.length_nil, Nat.zero_add, Nat.one_mul]
    omega
  | p :: q :: r, k, h => by
    have h1 := h p List.mem_cons_self
    have ih := lenJ (S := S) (ps := q :: r) (k := k) fun z hz => h z (List.mem_cons_of_mem _ hz)
    simp only [TL.joinL, List.length_append, List.length_cons] at ih ⊢
    rw [Nat.succ_mul]
    omega
theorem sumL {ps : List Str} {k : Nat} (h : ∀ p ∈ ps, p.length ≤ k) : (ps.map (·.length)).sum ≤ ps.length * k := by
  induction ps with
  | nil => simp
  | cons p ps ih =>
    have h1 := h p List.mem_cons_self
    have h2 := ih fun z hz => h z (List.mem_cons_of_mem _ hz)
    simp only [List.map_cons, List.sum_cons, List.length_cons, Nat.succ_mul]
    omega
theorem len_join {y : Str} {ps : List Str} {k : Nat} (h : ∀ p ∈ ps, p.length ≤ k) : (Txt.join y ps).length ≤ ps.length * (k + y.length) := by
  rw [TL.join_eq, TL.len_tl, TL.tl_join, TL.len_tl y, ← List.length_map (as := ps) (f := tl)]
  refine lenJ fun p hp => ?_
  obtain ⟨z, hz, rfl⟩ := List.mem_map.mp hp
  rw [← TL.len_tl]
  exact h z hz
theorem mem_joinL {S : List Nat} {s : Nat} (hS : s ∉ S) : ∀ {ps : List (List Nat)}, (∀ p ∈ ps, s ∉ p) → s ∉ TL.joinL S ps
  | [], _ => by simp [TL.joinL]
  | [p], h => h p List.mem_cons_self
  | p :: q :: r, h => by
    have ih := mem_joinL (S := S) hS (ps := q :: r) fun z hz => h z (List.mem_cons_of_mem _ hz)
    have h1 := h p List.mem_cons_self
    simp only [TL.joinL, List.mem_append, not_or]
    exact ⟨h1, hS, ih⟩
theorem mem_join {y : Str} {s : Nat} (hy : s ∉ tl y) {ps : List Str} (h : ∀ p ∈ ps, s ∉ tl p) : s ∉ tl (Txt.join y ps) := by
  rw [TL.join_eq, TL.tl_join]
  refine mem_joinL hy fun p hp => ?_
  obtain ⟨z, hz, rfl⟩ := List.mem_map.mp hp
  exact h z hz
theorem strs_map (ps : List Str) : strsOf (ps.map .str) = some ps := by
  induction ps with
  | nil => rfl
  | cons p ps ih => simp [strsOf, ih]
theorem join_ok {y : Str} {ps : List Str} (h : small ((ps.map (·.length)).sum + ps.length * y.length) = true) : joinS y (.lst (ps.map .str)) = some (.str (Txt.join y ps)) := by
  show (strsOf (ps.map .str)).bind _ = _
  rw [strs_map]
  exact if_pos h
theorem split_ok {a b : Str} {ps : List Str} {s : Nat} (hb : tl b = [s]) (hs : s < 256) (ha : a = Txt.join b ps) (hn : ps ≠ []) (hp : ∀ p ∈ ps, s ∉ tl p) (hz : small (a.length + 2) = true) : splitS a (.str b) = some (.lst (ps.map .str)) := by
  have hl : b.length = 1 := by rw [TL.len_tl, hb]; rfl
  have hk : b.cps.all (· < 256) = true := by
    rw [← Array.all_toList, show b.cps.toList = [s] from hb]
    simp [hs]
  have h1 : (b.length == 0) = false := by rw [hl]; rfl
  unfold splitS
  simp only [h1, hz, and_self, if_true]
  rw [ha, TL.split_join hb hk hn hp]
end LW

set_option Elab.async false
set_option linter.all false
set_option maxRecDepth 100000
set_option maxHeartbeats 1000000
namespace LW
open PySem L2 DL PyProof.Rows
open TL (tl)
theorem lc_map {α : Type} {v : Nat} {m : M D} {env : En} {gi go : α → D} (hv : env[v]? = some .no) : ∀ (os : List α) (acc : List D), (∀ o ∈ os, m (env.set v (.sh (gi o))) = .ok (go o) (env.set v (.sh (gi o)))) → lcLoop (tgName v) (DL.ret true) m [v] (os.map gi) acc env = .ok (acc ++ os.map go) env
  | [], acc, _ => by simp [lcLoop, DL.ret]
  | d :: ds, acc, h => by
    have hlt : v < env.length := (List.getElem?_eq_some_iff.mp hv).1
    have h1 : tgName v (gi d) env = some (env.set v (.sh (gi d))) := by
      simp [tgName, stE, hv]
    have h2 := h d List.mem_cons_self
    have h3 : calmE (env.set v (.sh (gi d))) [v] = true := by
      simp [calmE, List.getElem?_set_self hlt, calmS]
    have h4 : wpE (env.set v (.sh (gi d))) [v] = env := by
      simp only [wpE, List.set_set]
      rw [List.getElem?_eq_getElem hlt] at hv
      rw [← Option.some.inj hv, List.set_getElem_self]
    have ih := lc_map (m := m) (gi := gi) (go := go) hv ds (acc ++ [go d]) fun d' hd => h d' (List.mem_cons_of_mem _ hd)
    simp only [List.map_cons, lcLoop, h1, DL.bnd, DL.ret, if_true, h2, h3, h4, ih, List.append_assoc, List.singleton_append]
theorem mLc_map {α : Type} {v : Nat} {mi : M (List D)} {m : M D} {env : En} {gi go : α → D} {os : List α} {y : Sl} (hmi : mi env = .ok (os.map gi) env) (hv : env[v]? = some y) (hc : cm y = true) (hs : small os.length = true) (hm : ∀ o ∈ os, m (env.set v (.sh (gi o))) = .ok (go o) (env.set v (.sh (gi o)))) :
    mLc mi (tgName v) (DL.ret true) m [v] env = .ok (.lst (os.map go)) env := by
  have hlt : v < env.length := (List.getElem?_eq_some_iff.mp hv).1
  have c1 : calmE env [v] = true := by
    simp only [calmE, List.all_cons, List.all_nil, Bool.and_true, hv, calmS_cm, hc]
  have h := lc_map (v := v) (m := m) (env := env.set v .no) (gi := gi) (go := go) (List.getElem?_set_self hlt) os [] (by simpa using hm)
  have h4 : rsE (env.set v .no) env [v] = env := by
    simp only [rsE, List.set_set]
    have : env.getD v .no = env[v] := by simp [List.getD, List.getElem?_eq_getElem hlt]
    rw [this, List.set_getElem_self]
  simp only [mLc, DL.bnd, hmi, c1, List.length_map, hs, and_self, if_true, DL.nox, wpE, h, h4, List.nil_append]
theorem lc_of {α : Type} {t : Tg} {vs : List Nat} {m : M D} {env0 : En} (st : α → En) (gi go : α → D) : ∀ (os : List α) (acc : List D), (∀ o ∈ os, t (gi o) env0 = some (st o) ∧ m (st o) = .ok (go o) (st o) ∧ calmE (st o) vs = true ∧ wpE (st o) vs = env0) → lcLoop t (DL.ret true) m vs (os.map gi) acc env0 = .ok (acc ++ os.map go) env0
  | [], acc, _ => by simp [lcLoop, DL.ret]
  | d :: ds, acc, h => by
    obtain ⟨h1, h2, h3, h4⟩ := h d List.mem_cons_self
    have ih := lc_of (m := m) st gi go ds (acc ++ [go d]) fun d' hd => h d' (List.mem_cons_of_mem _ hd)
    simp only [List.map_cons, lcLoop, h1, DL.bnd, DL.ret, if_true, h2, h3, h4, ih, List.append_assoc, List.singleton_append]
theorem mLc_of {α : Type} {mi : M (List D)} {t : Tg} {vs : List Nat} {m : M D} {env : En} (st : α → En) (gi go : α → D) {os : List α} (hmi : mi env = .ok (os.map gi) env) (hc : calmE env vs = true) (hw : wpE env vs = env) (hr : rsE env env vs = env) (hs : small os.length = true)
    (hm : ∀ o ∈ os, t (gi o) env = some (st o) ∧ m (st o) = .ok (go o) (st o) ∧ calmE (st o) vs = true ∧ wpE (st o) vs = env) :
    mLc mi t (DL.ret true) m vs env = .ok (.lst (os.map go)) env := by
  have h := lc_of (m := m) st gi go os [] hm
  simp only [mLc, DL.bnd, hmi, hc, List.length_map, hs, and_self, if_true, DL.nox, hw, h, hr, List.nil_append]
theorem cd_str (L : List (Nat × Fm)) (a : Str) : cand L (.str a) = none := rfl
theorem cd_int (L : List (Nat × Fm)) (a : Int) : cand L (.int a) = none := rfl
theorem cd_lst (L : List (Nat × Fm)) (a : List D) : cand L (.lst a) = none := rfl
/-! counts -/
theorem dig_in {c : Nat} (h : 48 ≤ c ∧ c ≤ 57) : inS false (.str ⟨#[c]⟩) (.str "0123456789") = some (.bl true) := by
  have : c = 48 ∨ c = 49 ∨ c = 50 ∨ c = 51 ∨ c = 52 ∨ c = 53 ∨ c = 54 ∨ c = 55 ∨ c = 56 ∨ c = 57 := by omega
  rcases this with e | e | e | e | e | e | e | e | e | e <;> subst e <;> kernel_rfl
theorem dig_out {c : Nat} (h : c ≤ 96) : inS false (.str ⟨#[c]⟩) (.str "abcdefghijklmnopqrstuvwxyz") = some (.bl false) := by
  have e : tl ("abcdefghijklmnopqrstuvwxyz" : Str) = [97, 98, 99, 100, 101, 102, 103, 104, 105, 106, 107, 108, 109, 110, 111, 112, 113, 114, 115, 116, 117, 118, 119, 120, 121, 122] := by kernel_rfl
  show some (D.bl (decide (c ∈ tl ("abcdefghijklmnopqrstuvwxyz" : Str)))) = _
  rw [e]
  have : ¬ c ∈ [97, 98, 99, 100, 101, 102, 103, 104, 105, 106, 107, 108, 109, 110, 111, 112, 113, 114, 115, 116, 117, 118, 119, 120, 121, 122] := by
    simp only [List.mem_cons, List.not_mem_nil, or_false]
    omega
  rw [decide_eq_false this]
theorem tl_zero : tl ("0" : Str) = [48] := by kernel_rfl
theorem e_pcount (n : Nat) (h : (TL.numL n).length ≤ 200) : F_parse_count [.sh (.str (nS n))] = .ok (.rt (.int n)) [.sh (.str (nS n))] := by
  have hi : intText? (nS n) = some (n : Int) := TL.int_num (by omega)
  have ha := tl_nS n
  generalize nS (n : Int) = a at hi ha ⊢
  have hlen : a.length = (TL.numL n).length := by rw [TL.len_tl, ha]
  have h1 : 1 ≤ (a.length : Int) := by
    rw [hlen]
    have := List.length_pos_iff.mpr (TL.numL_ne n)
    omega
  have h2 : (a.length : Int) ≤ 200 := by omega
  have hs : small a.length = true := decide_eq_true (by omega)
  have h640 : a.length ≤ 640 := by omega
  refine fn_rt rfl (e := [.sh (.str a), .no]) ?_ rfl
  have hQ : c_parse_count_1 [.sh (.str a), .no] = .ok (.lst ((tl a).map fun _ => .bl true)) [.sh (.str a), .no] := by
    refine mLc_map (os := tl a) (gi := fun c => .str ⟨#[c]⟩) (go := fun _ => .bl true) (y := .no) (by simp only [DL.bnd, DL.ret, DL.lft, mVar, mCons, mNil, mCallA, callA, callAF, callB, mCallAF, mCallB, mBin, mUn, mB, mTru, truD, mNot, mAnd, mOr, mBv, mIf, mCb, mChain, mTup, mLst, sSeq, sNx, sIf, sRet, sRetF, sDrop, sSet, sSetF, sto_np, npAt, np_sh, np_ow, np_no, cm_sh, cm_no, DL.nox, fnM, DL.run,
  frz, full_lst, full_ins, nmN, DL.own, mdf, Sl.put, Sl.mut, Option.bind, cmpD, ltD, leD, gtD, geD, addD, subD, negD, modD, mMakF, mkA, sFldS, putD, fldD, mBinO, mOpO, mCmpO, mEqO, mUnO, mLenO, mSubO, mIxO, mPrp, cand_int, cand_tup, cand_lst, cand_scr, cand_str, cand_bl, cand_non, cand_ins, look0, okY_ii, okY_int, sameC_ii, mCmpG, mEqG, okE_n, okE_01, okE_int, okE_bl, okE_str, okE_non, look1, look01, look10, mTruO, mBlO, sParX, xS, xO, xNil, stoX_cons, stoX_nil, It.sl, zip2, zip3, blD, lenD, eqD, neD, Option.map_some, eqB_int,
  List.map, List.length_cons, List.length_nil, List.getElem?_cons_zero, List.getElem?_cons_succ, List.set_cons_zero, List.set_cons_succ, List.append, List.cons_append, List.nil_append, List.replicate, List.take, Nat.reduceAdd, Nat.reduceSub, Bool.not_true, Bool.not_false, decide_true, decide_false, beq_self_eq_true, bne_self_eq_false, Bool.false_eq_true, reduceIte, ↓reduceIte, lkk, lkn, lk0, Nat.reduceBEq, iItm, itemsD]) rfl rfl (by rw [← TL.len_tl]; exact hs) fun c hc => ?_
    have := dig_in (c := c) (by rw [ha] at hc; exact TL.numL_digits n c hc)
    simp only [DL.bnd, DL.ret, DL.lft, mVar, mCons, mNil, mCallA, callA, callAF, callB, mCallAF, mCallB, mBin, mUn, mB, mTru, truD, mNot, mAnd, mOr, mBv, mIf, mCb, mChain, mTup, mLst, sSeq, sNx, sIf, sRet, sRetF, sDrop, sSet, sSetF, sto_np, npAt, np_sh, np_ow, np_no, cm_sh, cm_no, DL.nox, fnM, DL.run,
  frz, full_lst, full_ins, nmN, DL.own, mdf, Sl.put, Sl.mut, Option.bind, cmpD, ltD, leD, gtD, geD, addD, subD, negD, modD, mMakF, mkA, sFldS, putD, fldD, mBinO, mOpO, mCmpO, mEqO, mUnO, mLenO, mSubO, mIxO, mPrp, cand_int, cand_tup, cand_lst, cand_scr, cand_str, cand_bl, cand_non, cand_ins, look0, okY_ii, okY_int, sameC_ii, mCmpG, mEqG, okE_n, okE_01, okE_int, okE_bl, okE_str, okE_non, look1, look01, look10, mTruO, mBlO, sParX, xS, xO, xNil, stoX_cons, stoX_nil, It.sl, zip2, zip3, blD, lenD, eqD, neD, Option.map_some, eqB_int,
  List.map, List.length_cons, List.length_nil, List.getElem?_cons_zero, List.getElem?_cons_succ, List.set_cons_zero, List.set_cons_succ, List.append, List.cons_append, List.nil_append, List.replicate, List.take, Nat.reduceAdd, Nat.reduceSub, Bool.not_true, Bool.not_false, decide_true, decide_false, beq_self_eq_true, bne_self_eq_false, Bool.false_eq_true, reduceIte, ↓reduceIte, lkk, lkn, lk0, Nat.reduceBEq, this]
  have hA := all_true (tl a)
  unfold m_parse_count
  generalize c_parse_count_1 = Q at hQ ⊢
  by_cases c : n = 0
  · subst c
    have e : a = "0" := TL.ext_tl (by rw [ha, tl_zero, num0])
    have q : eqS false (.str a) (.str "0") = some (.bl true) := by rw [e]; rfl
    simp only [DL.bnd, DL.ret, DL.lft, mVar, mCons, mNil, mCallA, callA, callAF, callB, mCallAF, mCallB, mBin, mUn, mB, mTru, truD, mNot, mAnd, mOr, mBv, mIf, mCb, mChain, mTup, mLst, sSeq, sNx, sIf, sRet, sRetF, sDrop, sSet, sSetF, sto_np, npAt, np_sh, np_ow, np_no, cm_sh, cm_no, DL.nox, fnM, DL.run,
  frz, full_lst, full_ins, nmN, DL.own, mdf, Sl.put, Sl.mut, Option.bind, cmpD, ltD, leD, gtD, geD, addD, subD, negD, modD, mMakF, mkA, sFldS, putD, fldD, mBinO, mOpO, mCmpO, mEqO, mUnO, mLenO, mSubO, mIxO, mPrp, cand_int, cand_tup, cand_lst, cand_scr, cand_str, cand_bl, cand_non, cand_ins, look0, okY_ii, okY_int, sameC_ii, mCmpG, mEqG, okE_n, okE_01, okE_int, okE_bl, okE_str, okE_non, look1, look01, look10, mTruO, mBlO, sParX, xS, xO, xNil, stoX_cons, stoX_nil, It.sl, zip2, zip3, blD, lenD, eqD, neD, Option.map_some, eqB_int,
  List.map, List.length_cons, List.length_nil, List.getElem?_cons_zero, List.getElem?_cons_succ, List.set_cons_zero, List.set_cons_succ, List.append, List.cons_append, List.nil_append, List.replicate, List.take, Nat.reduceAdd, Nat.reduceSub, Bool.not_true, Bool.not_false, decide_true, decide_false, beq_self_eq_true, bne_self_eq_false, Bool.false_eq_true, reduceIte, ↓reduceIte, lkk, lkn, lk0, Nat.reduceBEq, cd_str, lenD, hs, h1, h2, hQ, hA, q, intS, h640, hi]
  · obtain ⟨d, r, e, g⟩ := hd_num n (by omega)
    have q : eqS false (.str a) (.str "0") = some (.bl false) := by
      have : a ≠ "0" := fun e2 => by
        rw [e2, tl_zero, e] at ha
        cases ha
        omega
      show some (D.bl (decide (a = "0") != false)) = _
      rw [decide_eq_false this]
      rfl
    have q2 : startS a (.str "0") = some (.bl false) := by
      show some (D.bl (Txt.startswith a "0")) = _
      rw [start1 tl_zero (ha.trans e), decide_eq_false (by omega)]
    simp only [DL.bnd, DL.ret, DL.lft, mVar, mCons, mNil, mCallA, callA, callAF, callB, mCallAF, mCallB, mBin, mUn, mB, mTru, truD, mNot, mAnd, mOr, mBv, mIf, mCb, mChain, mTup, mLst, sSeq, sNx, sIf, sRet, sRetF, sDrop, sSet, sSetF, sto_np, npAt, np_sh, np_ow, np_no, cm_sh, cm_no, DL.nox, fnM, DL.run,
  frz, full_lst, full_ins, nmN, DL.own, mdf, Sl.put, Sl.mut, Option.bind, cmpD, ltD, leD, gtD, geD, addD, subD, negD, modD, mMakF, mkA, sFldS, putD, fldD, mBinO, mOpO, mCmpO, mEqO, mUnO, mLenO, mSubO, mIxO, mPrp, cand_int, cand_tup, cand_lst, cand_scr, cand_str, cand_bl, cand_non, cand_ins, look0, okY_ii, okY_int, sameC_ii, mCmpG, mEqG, okE_n, okE_01, okE_int, okE_bl, okE_str, okE_non, look1, look01, look10, mTruO, mBlO, sParX, xS, xO, xNil, stoX_cons, stoX_nil, It.sl, zip2, zip3, blD, lenD, eqD, neD, Option.map_some, eqB_int,
  List.map, List.length_cons, List.length_nil, List.getElem?_cons_zero, List.getElem?_cons_succ, List.set_cons_zero, List.set_cons_succ, List.append, List.cons_append, List.nil_append, List.replicate, List.take, Nat.reduceAdd, Nat.reduceSub, Bool.not_true, Bool.not_false, decide_true, decide_false, beq_self_eq_true, bne_self_eq_false, Bool.false_eq_true, reduceIte, ↓reduceIte, lkk, lkn, lk0, Nat.reduceBEq, cd_str, lenD, hs, h1, h2, hQ, hA, q, q2, intS, h640, hi, mM1]
end LW

set_option Elab.async false
set_option linter.all false
set_option maxRecDepth 100000
set_option maxHeartbeats 1000000
namespace LW
open PySem L2 DL PyProof.Rows
open TL (tl)
theorem tl_minus : tl ("-" : Str) = [45] := by kernel_rfl
theorem num_hd (n : Nat) : ∃ d r, TL.numL n = d :: r ∧ 48 ≤ d ∧ d ≤ 57 := by
  cases h : TL.numL n with
  | nil => exact absurd h (TL.numL_ne n)
  | cons d r => exact ⟨d, r, rfl, TL.numL_digits n d (by rw [h]; exact List.mem_cons_self)⟩
/-! a number small enough to be read -/
def Sm (x : Int) : Prop := (TL.numL x.natAbs).length ≤ 200 ∧ x.natAbs.log2 < 1920
theorem nS_len {x : Int} (h : Sm x) : (nS x).length ≤ 201 := by
  rw [TL.len_tl]
  cases x with
  | ofNat n =>
    have h1 : (TL.numL n).length ≤ 200 := h.1
    rw [show tl (nS (Int.ofNat n)) = TL.numL n from tl_nS n]
    omega
  | negSucc n =>
    have h1 : (TL.numL (n + 1)).length ≤ 200 := h.1
    rw [tl_neg, List.length_cons]
    omega
theorem e_pint {x : Int} (h : Sm x) : F_parse_integer [.sh (.str (nS x))] = .ok (.rt (.int x)) [.sh (.str (nS x))] := by
  have hl := nS_len h
  have hsm : small (nS x).length = true := decide_eq_true (by omega)
  cases x with
  | ofNat n =>
    have h1 : (TL.numL n).length ≤ 200 := h.1
    refine fn_rt rfl (e := [.sh (.str (nS (n : Int))), .no]) ?_ rfl
    obtain ⟨d, r, e, g1, g2⟩ := num_hd n
    have q : startS (nS (n : Int)) (.str "-") = some (.bl false) := by
      show some (D.bl (Txt.startswith _ "-")) = _
      rw [start1 tl_minus ((tl_nS n).trans e), decide_eq_false (by omega)]
    have hc := e_pcount n h1
    show m_parse_integer [.sh (.str (nS (n : Int))), .no] = .ok (.rt (.int (n : Int))) _
    generalize nS (n : Int) = a at q hc ⊢
    simp only [DL.bnd, DL.ret, DL.lft, mVar, mCons, mNil, mCallA, callA, callAF, callB, mCallAF, mCallB, mBin, mUn, mB, mTru, truD, mNot, mAnd, mOr, mBv, mIf, mCb, mChain, mTup, mLst, sSeq, sNx, sIf, sRet, sRetF, sDrop, sSet, sSetF, sto_np, npAt, np_sh, np_ow, np_no, cm_sh, cm_no, DL.nox, fnM, DL.run,
  frz, full_lst, full_ins, nmN, DL.own, mdf, Sl.put, Sl.mut, Option.bind, cmpD, ltD, leD, gtD, geD, addD, subD, negD, modD, mMakF, mkA, sFldS, putD, fldD, mBinO, mOpO, mCmpO, mEqO, mUnO, mLenO, mSubO, mIxO, mPrp, cand_int, cand_tup, cand_lst, cand_scr, cand_str, cand_bl, cand_non, cand_ins, look0, okY_ii, okY_int, sameC_ii, mCmpG, mEqG, okE_n, okE_01, okE_int, okE_bl, okE_str, okE_non, look1, look01, look10, mTruO, mBlO, sParX, xS, xO, xNil, stoX_cons, stoX_nil, It.sl, zip2, zip3, blD, lenD, eqD, neD, Option.map_some, eqB_int,
  List.map, List.length_cons, List.length_nil, List.getElem?_cons_zero, List.getElem?_cons_succ, List.set_cons_zero, List.set_cons_succ, List.append, List.cons_append, List.nil_append, List.replicate, List.take, Nat.reduceAdd, Nat.reduceSub, Bool.not_true, Bool.not_false, decide_true, decide_false, beq_self_eq_true, bne_self_eq_false, Bool.false_eq_true, reduceIte, ↓reduceIte, lkk, lkn, lk0, Nat.reduceBEq, m_parse_integer, mM1, q, hc]
  | negSucc n =>
    have h1 : (TL.numL (n + 1)).length ≤ 200 := h.1
    have ht := tl_neg n
    have hcut : cutS (nS (Int.negSucc n)) (some 1) none = nS ((n + 1 : Nat) : Int) := cut1 (c := 45) (by rw [ht, tl_nS])
    have hc := e_pcount (n + 1) h1
    generalize nS (Int.negSucc n) = a at ht hcut hsm ⊢
    generalize nS ((n + 1 : Nat) : Int) = b at hcut hc
    refine fn_rt rfl (e := [.sh (.str a), .sh (.int ((n + 1 : Nat) : Int))]) ?_ rfl
    have q : startS a (.str "-") = some (.bl true) := by
      show some (D.bl (Txt.startswith _ "-")) = _
      rw [start1 tl_minus ht, decide_eq_true rfl]
    have q0 : decide (((n + 1 : Nat) : Int) = 0) = false := decide_eq_false (by omega)
    have qn : Int.negSucc n = -((n + 1 : Nat) : Int) := Int.negSucc_eq n
    rw [qn]
    simp only [DL.bnd, DL.ret, DL.lft, mVar, mCons, mNil, mCallA, callA, callAF, callB, mCallAF, mCallB, mBin, mUn, mB, mTru, truD, mNot, mAnd, mOr, mBv, mIf, mCb, mChain, mTup, mLst, sSeq, sNx, sIf, sRet, sRetF, sDrop, sSet, sSetF, sto_np, npAt, np_sh, np_ow, np_no, cm_sh, cm_no, DL.nox, fnM, DL.run,
  frz, full_lst, full_ins, nmN, DL.own, mdf, Sl.put, Sl.mut, Option.bind, cmpD, ltD, leD, gtD, geD, addD, subD, negD, modD, mMakF, mkA, sFldS, putD, fldD, mBinO, mOpO, mCmpO, mEqO, mUnO, mLenO, mSubO, mIxO, mPrp, cand_int, cand_tup, cand_lst, cand_scr, cand_str, cand_bl, cand_non, cand_ins, look0, okY_ii, okY_int, sameC_ii, mCmpG, mEqG, okE_n, okE_01, okE_int, okE_bl, okE_str, okE_non, look1, look01, look10, mTruO, mBlO, sParX, xS, xO, xNil, stoX_cons, stoX_nil, It.sl, zip2, zip3, blD, lenD, eqD, neD, Option.map_some, eqB_int,
  List.map, List.length_cons, List.length_nil, List.getElem?_cons_zero, List.getElem?_cons_succ, List.set_cons_zero, List.set_cons_succ, List.append, List.cons_append, List.nil_append, List.replicate, List.take, Nat.reduceAdd, Nat.reduceSub, Bool.not_true, Bool.not_false, decide_true, decide_false, beq_self_eq_true, bne_self_eq_false, Bool.false_eq_true, reduceIte, ↓reduceIte, lkk, lkn, lk0, Nat.reduceBEq, m_parse_integer, mM1, q, mSl, mPart, mNoP, slD, hsm, hcut, hc, cd_int, isND, q0, negD]
end LW

set_option Elab.async false
set_option linter.all false
set_option maxRecDepth 100000
set_option maxHeartbeats 1000000
namespace LW
open PySem L2 DL PyProof.Rows
open TL (tl)
/-! an item of an instruction, and its text -/
def kS (c : Nat) : Str := ⟨#[c]⟩
def isRF (c : Nat) : Bool := decide (c = 114 ∨ c = 102)
def itx (p : Nat × Int) : Str := if isRF p.1 = true then kS p.1 ++ nS p.2 else nS p.2
def Kd (c : Nat) : Prop := c = 114 ∨ c = 102 ∨ c = 112 ∨ c = 116 ∨ c = 105
theorem tl_kS (c : Nat) : tl (kS c) = [c] := rfl
theorem in_rf {c : Nat} (h : Kd c) : inD false (.str (kS c)) (.tup [.str "r", .str "f"]) = some (.bl (isRF c)) := by
  rcases h with e | e | e | e | e <;> subst e <;> kernel_rfl
theorem itx_len {p : Nat × Int} (h : Sm p.2) : (itx p).length ≤ 202 := by
  have := nS_len h
  unfold itx
  split
  · rw [TL.len_tl, TL.tl_append, List.length_append, ← TL.len_tl, ← TL.len_tl]
    have e : (kS p.1).length = 1 := rfl
    omega
  · omega
theorem fmt_str {a : Str} (h : small a.length = true) : fmtS (.str a) = some a := by
  show (if small a.length = true then some a else none) = _
  exact if_pos h
theorem e_fitem {c : Nat} {x : Int} (h : Kd c) (hs : Sm x) : F_format_item [.sh (.str (kS c)), .sh (.int x)] = .ok (.rt (.str (itx (c, x)))) [.sh (.str (kS c)), .sh (.int x)] := by
  have hl := itx_len (p := (c, x)) hs
  have h1 := in_rf h
  have f1 : fmtS (.int x) = some (nS x) := if_pos hs.2
  have f3 : small (kS c).length = true := rfl
  have f2 : fmtS (.str (kS c)) = some (kS c) := fmt_str f3
  have f4 : strS [.int x] = some (.str (nS x)) := if_pos hs.2
  refine fn_rt rfl (e := [.sh (.str (kS c)), .sh (.int x)]) ?_ rfl
  cases b : isRF c with
  | true =>
    have e : itx (c, x) = kS c ++ nS x := if_pos b
    rw [b] at h1
    rw [e] at hl ⊢
    have f5 : small (kS c ++ nS x).length = true := decide_eq_true (by omega)
    simp only [DL.bnd, DL.ret, DL.lft, mVar, mCons, mNil, mCallA, callA, callAF, callB, mCallAF, mCallB, mBin, mUn, mB, mTru, truD, mNot, mAnd, mOr, mBv, mIf, mCb, mChain, mTup, mLst, sSeq, sNx, sIf, sRet, sRetF, sDrop, sSet, sSetF, sto_np, npAt, np_sh, np_ow, np_no, cm_sh, cm_no, DL.nox, fnM, DL.run,
  frz, full_lst, full_ins, nmN, DL.own, mdf, Sl.put, Sl.mut, Option.bind, cmpD, ltD, leD, gtD, geD, addD, subD, negD, modD, mMakF, mkA, sFldS, putD, fldD, mBinO, mOpO, mCmpO, mEqO, mUnO, mLenO, mSubO, mIxO, mPrp, cand_int, cand_tup, cand_lst, cand_scr, cand_str, cand_bl, cand_non, cand_ins, look0, okY_ii, okY_int, sameC_ii, mCmpG, mEqG, okE_n, okE_01, okE_int, okE_bl, okE_str, okE_non, look1, look01, look10, mTruO, mBlO, sParX, xS, xO, xNil, stoX_cons, stoX_nil, It.sl, zip2, zip3, blD, lenD, eqD, neD, Option.map_some, eqB_int,
  List.map, List.length_cons, List.length_nil, List.getElem?_cons_zero, List.getElem?_cons_succ, List.set_cons_zero, List.set_cons_succ, List.append, List.cons_append, List.nil_append, List.replicate, List.take, Nat.reduceAdd, Nat.reduceSub, Bool.not_true, Bool.not_false, decide_true, decide_false, beq_self_eq_true, bne_self_eq_false, Bool.false_eq_true, reduceIte, ↓reduceIte, lkk, lkn, lk0, Nat.reduceBEq, m_format_item, sm2, h1, mFmt2, f1, f2, f3, f5]
  | false =>
    have e : itx (c, x) = nS x := if_neg (by rw [b]; simp)
    rw [b] at h1
    rw [e] at hl ⊢
    simp only [DL.bnd, DL.ret, DL.lft, mVar, mCons, mNil, mCallA, callA, callAF, callB, mCallAF, mCallB, mBin, mUn, mB, mTru, truD, mNot, mAnd, mOr, mBv, mIf, mCb, mChain, mTup, mLst, sSeq, sNx, sIf, sRet, sRetF, sDrop, sSet, sSetF, sto_np, npAt, np_sh, np_ow, np_no, cm_sh, cm_no, DL.nox, fnM, DL.run,
  frz, full_lst, full_ins, nmN, DL.own, mdf, Sl.put, Sl.mut, Option.bind, cmpD, ltD, leD, gtD, geD, addD, subD, negD, modD, mMakF, mkA, sFldS, putD, fldD, mBinO, mOpO, mCmpO, mEqO, mUnO, mLenO, mSubO, mIxO, mPrp, cand_int, cand_tup, cand_lst, cand_scr, cand_str, cand_bl, cand_non, cand_ins, look0, okY_ii, okY_int, sameC_ii, mCmpG, mEqG, okE_n, okE_01, okE_int, okE_bl, okE_str, okE_non, look1, look01, look10, mTruO, mBlO, sParX, xS, xO, xNil, stoX_cons, stoX_nil, It.sl, zip2, zip3, blD, lenD, eqD, neD, Option.map_some, eqB_int,
  List.map, List.length_cons, List.length_nil, List.getElem?_cons_zero, List.getElem?_cons_succ, List.set_cons_zero, List.set_cons_succ, List.append, List.cons_append, List.nil_append, List.replicate, List.take, Nat.reduceAdd, Nat.reduceSub, Bool.not_true, Bool.not_false, decide_true, decide_false, beq_self_eq_true, bne_self_eq_false, Bool.false_eq_true, reduceIte, ↓reduceIte, lkk, lkn, lk0, Nat.reduceBEq, m_format_item, sm2, h1, f4]
theorem e_pitem {c : Nat} {x : Int} (h : Kd c) (hs : Sm x) (h0 : isRF c = true → 0 ≤ x) : F_parse_item [.sh (.str (kS c)), .sh (.str (itx (c, x)))] = .ok (.rt (.int x)) [.sh (.str (kS c)), .sh (.str (itx (c, x)))] := by
  have hl := itx_len (p := (c, x)) hs
  have h1 := in_rf h
  refine fn_rt rfl (e := [.sh (.str (kS c)), .sh (.str (itx (c, x)))]) ?_ rfl
  cases b : isRF c with
  | true =>
    have e : itx (c, x) = kS c ++ nS x := if_pos b
    rw [b] at h1
    rw [e] at hl ⊢
    have f5 : small (kS c ++ nS x).length = true := decide_eq_true (by omega)
    have hc : cutS (kS c ++ nS x) (some 1) none = nS x := cut1_app (tl_kS c)
    have q : startS (kS c ++ nS x) (.str (kS c)) = some (.bl true) := by
      show some (D.bl (Txt.startswith _ _)) = _
      rw [start1 (r := tl (nS x)) (tl_kS c) (by rw [TL.tl_append]; rfl), decide_eq_true rfl]
    obtain ⟨n, rfl⟩ := Int.eq_ofNat_of_zero_le (h0 b)
    have hp := e_pcount n hs.1
    generalize kS c ++ nS (n : Int) = a at f5 hc q ⊢
    generalize kS c = k at h1 q ⊢
    generalize nS (n : Int) = z at hc hp
    simp only [DL.bnd, DL.ret, DL.lft, mVar, mCons, mNil, mCallA, callA, callAF, callB, mCallAF, mCallB, mBin, mUn, mB, mTru, truD, mNot, mAnd, mOr, mBv, mIf, mCb, mChain, mTup, mLst, sSeq, sNx, sIf, sRet, sRetF, sDrop, sSet, sSetF, sto_np, npAt, np_sh, np_ow, np_no, cm_sh, cm_no, DL.nox, fnM, DL.run,
  frz, full_lst, full_ins, nmN, DL.own, mdf, Sl.put, Sl.mut, Option.bind, cmpD, ltD, leD, gtD, geD, addD, subD, negD, modD, mMakF, mkA, sFldS, putD, fldD, mBinO, mOpO, mCmpO, mEqO, mUnO, mLenO, mSubO, mIxO, mPrp, cand_int, cand_tup, cand_lst, cand_scr, cand_str, cand_bl, cand_non, cand_ins, look0, okY_ii, okY_int, sameC_ii, mCmpG, mEqG, okE_n, okE_01, okE_int, okE_bl, okE_str, okE_non, look1, look01, look10, mTruO, mBlO, sParX, xS, xO, xNil, stoX_cons, stoX_nil, It.sl, zip2, zip3, blD, lenD, eqD, neD, Option.map_some, eqB_int,
  List.map, List.length_cons, List.length_nil, List.getElem?_cons_zero, List.getElem?_cons_succ, List.set_cons_zero, List.set_cons_succ, List.append, List.cons_append, List.nil_append, List.replicate, List.take, Nat.reduceAdd, Nat.reduceSub, Bool.not_true, Bool.not_false, decide_true, decide_false, beq_self_eq_true, bne_self_eq_false, Bool.false_eq_true, reduceIte, ↓reduceIte, lkk, lkn, lk0, Nat.reduceBEq, m_parse_item, sm2, h1, mM1, q, mSl, mPart, mNoP, slD, f5, hc, hp]
  | false =>
    have e : itx (c, x) = nS x := if_neg (by rw [b]; simp)
    rw [b] at h1
    rw [e] at hl ⊢
    have hp := e_pint hs
    generalize kS c = k at h1 ⊢
    generalize nS x = z at hp ⊢
    simp only [DL.bnd, DL.ret, DL.lft, mVar, mCons, mNil, mCallA, callA, callAF, callB, mCallAF, mCallB, mBin, mUn, mB, mTru, truD, mNot, mAnd, mOr, mBv, mIf, mCb, mChain, mTup, mLst, sSeq, sNx, sIf, sRet, sRetF, sDrop, sSet, sSetF, sto_np, npAt, np_sh, np_ow, np_no, cm_sh, cm_no, DL.nox, fnM, DL.run,
  frz, full_lst, full_ins, nmN, DL.own, mdf, Sl.put, Sl.mut, Option.bind, cmpD, ltD, leD, gtD, geD, addD, subD, negD, modD, mMakF, mkA, sFldS, putD, fldD, mBinO, mOpO, mCmpO, mEqO, mUnO, mLenO, mSubO, mIxO, mPrp, cand_int, cand_tup, cand_lst, cand_scr, cand_str, cand_bl, cand_non, cand_ins, look0, okY_ii, okY_int, sameC_ii, mCmpG, mEqG, okE_n, okE_01, okE_int, okE_bl, okE_str, okE_non, look1, look01, look10, mTruO, mBlO, sParX, xS, xO, xNil, stoX_cons, stoX_nil, It.sl, zip2, zip3, blD, lenD, eqD, neD, Option.map_some, eqB_int,
  List.map, List.length_cons, List.length_nil, List.getElem?_cons_zero, List.getElem?_cons_succ, List.set_cons_zero, List.set_cons_succ, List.append, List.cons_append, List.nil_append, List.replicate, List.take, Nat.reduceAdd, Nat.reduceSub, Bool.not_true, Bool.not_false, decide_true, decide_false, beq_self_eq_true, bne_self_eq_false, Bool.false_eq_true, reduceIte, ↓reduceIte, lkk, lkn, lk0, Nat.reduceBEq, m_parse_item, sm2, h1, hp]
/-! an instruction, and its text -/
def txt (w : Str) (ps : List (Nat × Int)) : Str := Txt.join " " (w :: ps.map itx)
def Fine (p : Nat × Int) : Prop := Kd p.1 ∧ Sm p.2 ∧ (isRF p.1 = true → 0 ≤ p.2)
theorem zip_ps : ∀ ps : List (Nat × Int), zipL ((ps.map (·.1)).map fun c => .str ⟨#[c]⟩) (ps.map fun p => .int p.2) = ps.map fun p => .tup [.str (kS p.1), .int p.2]
  | [] => rfl
  | p :: ps => by
    have ih := zip_ps ps
    simp only [List.map_cons, zipL]
    rw [ih]
    rfl
theorem zip_px : ∀ ps : List (Nat × Int), zipL ((ps.map (·.1)).map fun c => .str ⟨#[c]⟩) (ps.map fun p => .str (itx p)) = ps.map fun p => .tup [.str (kS p.1), .str (itx p)]
  | [] => rfl
  | p :: ps => by
    have ih := zip_px ps
    simp only [List.map_cons, zipL]
    rw [ih]
    rfl
theorem strs_it (w : Str) (ps : List (Nat × Int)) : (D.str w :: ps.map fun p => .str (itx p)) = (w :: ps.map itx).map .str := by
  rw [List.map_cons, List.map_map]
  rfl
theorem txt_sum {w : Str} {ps : List (Nat × Int)} (hw : w.length ≤ 4) (hn : ps.length ≤ 4) (hp : ∀ p ∈ ps, Fine p) : ∀ z ∈ w :: ps.map itx, z.length ≤ 202 := by
  intro z hz
  rcases List.mem_cons.mp hz with rfl | hz
  · omega
  · obtain ⟨p, h, rfl⟩ := List.mem_map.mp hz
    exact itx_len (hp p h).2.1
theorem txt_len {w : Str} {ps : List (Nat × Int)} (hw : w.length ≤ 4) (hn : ps.length ≤ 4) (hp : ∀ p ∈ ps, Fine p) : (txt w ps).length ≤ 1015 := by
  have h := len_join (y := " ") (txt_sum hw hn hp)
  have e : (" " : Str).length = 1 := rfl
  rw [List.length_cons, List.length_map, e] at h
  have : (ps.length + 1) * (202 + 1) ≤ 5 * (202 + 1) := Nat.mul_le_mul_right _ (by omega)
  exact Nat.le_trans h this
theorem txt_join {w : Str} {ps : List (Nat × Int)} (hw : w.length ≤ 4) (hn : ps.length ≤ 4) (hp : ∀ p ∈ ps, Fine p) : joinS " " (.lst (.str w :: ps.map fun p => .str (itx p))) = some (.str (txt w ps)) := by
  rw [strs_it]
  refine join_ok (decide_eq_true ?_)
  have h := sumL (txt_sum hw hn hp)
  have e : (" " : Str).length = 1 := rfl
  rw [List.length_cons, List.length_map] at h ⊢
  rw [e]
  have : (ps.length + 1) * 202 ≤ 5 * 202 := Nat.mul_le_mul_right _ (by omega)
  omega
theorem sg_itx {s : Nat} (h : s < 45 ∨ 57 < s) {p : Nat × Int} (hk : Kd p.1) (h2 : s ≠ 114 ∧ s ≠ 102) : s ∉ tl (itx p) := by
  have hn : s ∉ tl (nS p.2) := by
    cases p.2 with
    | ofNat n =>
      rw [show tl (nS (Int.ofNat n)) = TL.numL n from tl_nS n]
      exact TL.numL_free (by omega)
    | negSucc n =>
      rw [tl_neg, List.mem_cons, not_or]
      exact ⟨by omega, TL.numL_free (by omega)⟩
  unfold itx
  split
  · rename_i q
    rw [TL.tl_append, List.mem_append, not_or]
    refine ⟨?_, hn⟩
    rw [tl_kS, List.mem_singleton]
    have := of_decide_eq_true q
    omega
  · exact hn
theorem tl_sp : tl (" " : Str) = [32] := by kernel_rfl
theorem txt_split {w : Str} {ps : List (Nat × Int)} (hw : w.length ≤ 4) (hn : ps.length ≤ 4) (hp : ∀ p ∈ ps, Fine p) (h32 : 32 ∉ tl w) : splitS (txt w ps) (.str " ") = some (.lst (.str w :: ps.map fun p => .str (itx p))) := by
  rw [strs_it]
  refine split_ok tl_sp (by omega) rfl (by simp) ?_ (decide_eq_true (by have := txt_len hw hn hp; omega))
  intro z hz
  rcases List.mem_cons.mp hz with rfl | hz
  · exact h32
  · obtain ⟨p, h, rfl⟩ := List.mem_map.mp hz
    exact sg_itx (by omega) (hp p h).1 (by omega)
end LW

set_option Elab.async false
set_option linter.all false
set_option maxRecDepth 100000
set_option maxHeartbeats 1000000
namespace LW
open PySem L2 DL PyProof.Rows
open TL (tl)
/-- an instruction of a word and what stands behind it -/
def tupO (w : Str) (ps : List (Nat × Int)) : D := .tup (.str w :: ps.map fun p => .int p.2)
theorem zipT {fm : Str} {ps : List (Nat × Int)} (hf : tl fm = ps.map (·.1)) : zipSD [.str fm, .tup (ps.map fun p => .int p.2)] = some (ps.map fun p => .tup [.str (kS p.1), .int p.2]) := by
  show some (zipL ((tl fm).map _) _) = _
  rw [hf, zip_ps]
theorem zipTL {fm : Str} {ps : List (Nat × Int)} (hf : tl fm = ps.map (·.1)) : zipSLD [.str fm, .lst (ps.map fun p => .str (itx p))] = some (ps.map fun p => .tup [.str (kS p.1), .str (itx p)]) := by
  show some (zipL ((tl fm).map _) _) = _
  rw [hf, zip_px]
section
variable {w fm : Str} {ps : List (Nat × Int)} (hl : tb_FORMS.lookup w = some fm) (hf : tl fm = ps.map (·.1)) (hw : w.length ≤ 4) (hn : ps.length ≤ 4) (hp : ∀ p ∈ ps, Fine p) (h32 : 32 ∉ tl w)
include hl hf hw hn hp
theorem e_fins_of : F_format_instruction [.sh (tupO w ps)] = .ok (.rt (.str (txt w ps))) [.sh (tupO w ps)] := by
  have hQ : c_format_instruction_1 [.sh (tupO w ps), .sh (.str fm), .no, .no] = .ok (.lst (ps.map fun p => .str (itx p))) [.sh (tupO w ps), .sh (.str fm), .no, .no] := by
    refine mLc_of (st := fun p => [.sh (tupO w ps), .sh (.str fm), .sh (.str (kS p.1)), .sh (.int p.2)]) (gi := fun p => .tup [.str (kS p.1), .int p.2]) (go := fun p => .str (itx p)) ?_ rfl rfl rfl (decide_eq_true (by omega)) fun p h => ⟨rfl, ?_, rfl, rfl⟩
    · have hz := zipT hf
      have hs : slD (tupO w ps) (some 1) none = some (.tup (ps.map fun p => .int p.2)) := sl1 _ _
      simp only [DL.bnd, DL.ret, DL.lft, mVar, mCons, mNil, mCallA, callA, callAF, callB, mCallAF, mCallB, mBin, mUn, mB, mTru, truD, mNot, mAnd, mOr, mBv, mIf, mCb, mChain, mTup, mLst, sSeq, sNx, sIf, sRet, sRetF, sDrop, sSet, sSetF, sto_np, npAt, np_sh, np_ow, np_no, cm_sh, cm_no, DL.nox, fnM, DL.run,
  frz, full_lst, full_ins, nmN, DL.own, mdf, Sl.put, Sl.mut, Option.bind, cmpD, ltD, leD, gtD, geD, addD, subD, negD, modD, mMakF, mkA, sFldS, putD, fldD, mBinO, mOpO, mCmpO, mEqO, mUnO, mLenO, mSubO, mIxO, mPrp, cand_int, cand_tup, cand_lst, cand_scr, cand_str, cand_bl, cand_non, cand_ins, look0, okY_ii, okY_int, sameC_ii, mCmpG, mEqG, okE_n, okE_01, okE_int, okE_bl, okE_str, okE_non, look1, look01, look10, mTruO, mBlO, sParX, xS, xO, xNil, stoX_cons, stoX_nil, It.sl, zip2, zip3, blD, lenD, eqD, neD, Option.map_some, eqB_int,
  List.map, List.length_cons, List.length_nil, List.getElem?_cons_zero, List.getElem?_cons_succ, List.set_cons_zero, List.set_cons_succ, List.append, List.cons_append, List.nil_append, List.replicate, List.take, Nat.reduceAdd, Nat.reduceSub, Bool.not_true, Bool.not_false, decide_true, decide_false, beq_self_eq_true, bne_self_eq_false, Bool.false_eq_true, reduceIte, ↓reduceIte, lkk, lkn, lk0, Nat.reduceBEq, iArg, mSl, mPart, mNoP, hs, hz]
    · have := e_fitem (hp p h).1 (hp p h).2.1
      simp only [DL.bnd, DL.ret, DL.lft, mVar, mCons, mNil, mCallA, callA, callAF, callB, mCallAF, mCallB, mBin, mUn, mB, mTru, truD, mNot, mAnd, mOr, mBv, mIf, mCb, mChain, mTup, mLst, sSeq, sNx, sIf, sRet, sRetF, sDrop, sSet, sSetF, sto_np, npAt, np_sh, np_ow, np_no, cm_sh, cm_no, DL.nox, fnM, DL.run,
  frz, full_lst, full_ins, nmN, DL.own, mdf, Sl.put, Sl.mut, Option.bind, cmpD, ltD, leD, gtD, geD, addD, subD, negD, modD, mMakF, mkA, sFldS, putD, fldD, mBinO, mOpO, mCmpO, mEqO, mUnO, mLenO, mSubO, mIxO, mPrp, cand_int, cand_tup, cand_lst, cand_scr, cand_str, cand_bl, cand_non, cand_ins, look0, okY_ii, okY_int, sameC_ii, mCmpG, mEqG, okE_n, okE_01, okE_int, okE_bl, okE_str, okE_non, look1, look01, look10, mTruO, mBlO, sParX, xS, xO, xNil, stoX_cons, stoX_nil, It.sl, zip2, zip3, blD, lenD, eqD, neD, Option.map_some, eqB_int,
  List.map, List.length_cons, List.length_nil, List.getElem?_cons_zero, List.getElem?_cons_succ, List.set_cons_zero, List.set_cons_succ, List.append, List.cons_append, List.nil_append, List.replicate, List.take, Nat.reduceAdd, Nat.reduceSub, Bool.not_true, Bool.not_false, decide_true, decide_false, beq_self_eq_true, bne_self_eq_false, Bool.false_eq_true, reduceIte, ↓reduceIte, lkk, lkn, lk0, Nat.reduceBEq, this]
  have hj := txt_join hw hn hp
  have hi : ixD (tupO w ps) (.int 0) = some (.str w) := ixh _ _
  have hc : ∀ L : List (Nat × Fm), cand L (tupO w ps) = none := fun _ => rfl
  refine fn_rt rfl (e := [.sh (tupO w ps), .sh (.str fm), .no, .no]) ?_ rfl
  unfold m_format_instruction
  generalize c_format_instruction_1 = Q at hQ ⊢
  generalize tupO w ps = T at hQ hi hc ⊢
  have hz : small (ps.length + 1) = true := decide_eq_true (by omega)
  simp only [DL.bnd, DL.ret, DL.lft, mVar, mCons, mNil, mCallA, callA, callAF, callB, mCallAF, mCallB, mBin, mUn, mB, mTru, truD, mNot, mAnd, mOr, mBv, mIf, mCb, mChain, mTup, mLst, sSeq, sNx, sIf, sRet, sRetF, sDrop, sSet, sSetF, sto_np, npAt, np_sh, np_ow, np_no, cm_sh, cm_no, DL.nox, fnM, DL.run,
  frz, full_lst, full_ins, nmN, DL.own, mdf, Sl.put, Sl.mut, Option.bind, cmpD, ltD, leD, gtD, geD, addD, subD, negD, modD, mMakF, mkA, sFldS, putD, fldD, mBinO, mOpO, mCmpO, mEqO, mUnO, mLenO, mSubO, mIxO, mPrp, cand_int, cand_tup, cand_lst, cand_scr, cand_str, cand_bl, cand_non, cand_ins, look0, okY_ii, okY_int, sameC_ii, mCmpG, mEqG, okE_n, okE_01, okE_int, okE_bl, okE_str, okE_non, look1, look01, look10, mTruO, mBlO, sParX, xS, xO, xNil, stoX_cons, stoX_nil, It.sl, zip2, zip3, blD, lenD, eqD, neD, Option.map_some, eqB_int,
  List.map, List.length_cons, List.length_nil, List.getElem?_cons_zero, List.getElem?_cons_succ, List.set_cons_zero, List.set_cons_succ, List.append, List.cons_append, List.nil_append, List.replicate, List.take, Nat.reduceAdd, Nat.reduceSub, Bool.not_true, Bool.not_false, decide_true, decide_false, beq_self_eq_true, bne_self_eq_false, Bool.false_eq_true, reduceIte, ↓reduceIte, lkk, lkn, lk0, Nat.reduceBEq, hc, hi, mGetK, hl, hQ, mStar, starL, mM1, hj, List.append_nil, List.length_map, hz]
end
def oS : Option D → Sl
  | none => .no
  | some d => .sh d
/-! the law's own text -/
def lkc (c : Nat) : Nat := if isRF c = true then c else 105
def LKS : D := .dic [.inr "set", .inr "add", .inr "sub", .inr "move", .inr "pick", .inr "less", .inr "same", .inr "jump", .inr "goto"] [.str "ri", .str "rrr", .str "rrr", .str "rri", .str "rfrr", .str "frr", .str "frr", .str "fi", .str "i"]
theorem lk_i {c : Nat} (h : Kd c) : eqS false (.str (kS (lkc c))) (.str "i") = some (.bl (!isRF c)) := by
  rcases h with e | e | e | e | e <;> subst e <;> kernel_rfl
theorem add_str {a b : Str} (h : a.length + b.length ≤ 16777216) : addD (.str a) (.str b) = some (.str (a ++ b)) := by
  show (if _ then _ else _) = _
  exact if_pos h
theorem b_lt {T : D} {c : Nat} {x : Int} (h : Kd c) (hs : Sm x) {Y : List D} (hy : Y.length ≤ 100) :
    b_law_text_1 [.sh T, .ow LKS, .ow (.lst Y), .sh (.str (kS (lkc c))), .sh (.int x)] = .ok .nx [.sh T, .ow LKS, .ow (.lst (Y ++ [.str (itx (c, x))])), .sh (.str (kS (lkc c))), .sh (.int x)] := by
  have hl := nS_len hs
  have h1 := lk_i h
  have f4 : strS [.int x] = some (.str (nS x)) := if_pos hs.2
  have hz : small (Y.length + 1) = true := decide_eq_true (by omega)
  refine (app_ow (xs := Y) (xs' := Y) (z := .str (itx (c, x))) (e1 := [.sh T, .ow LKS, .ow (.lst Y), .sh (.str (kS (lkc c))), .sh (.int x)]) rfl ?_ rfl hz).trans rfl
  generalize LKS = L
  cases b : isRF c with
  | true =>
    have e : itx (c, x) = kS c ++ nS x := if_pos b
    have e2 : lkc c = c := if_pos b
    have h1' : eqS false (.str (kS (lkc c))) (.str "i") = some (.bl false) := by rw [b] at h1; exact h1
    rw [e2] at h1' ⊢
    rw [e]
    have f5 : addD (.str (kS c)) (.str (nS x)) = some (.str (kS c ++ nS x)) := add_str (by
      have : (kS c).length = 1 := rfl
      omega)
    generalize kS c = k at h1' f5 ⊢
    generalize eqS false = q at h1' ⊢
    generalize addD = q2 at f5 ⊢
    simp only [DL.bnd, DL.ret, DL.lft, mVar, mCons, mNil, mCallA, callA, callAF, callB, mCallAF, mCallB, mBin, mUn, mB, mTru, truD, mNot, mAnd, mOr, mBv, mIf, mCb, mChain, mTup, mLst, sSeq, sNx, sIf, sRet, sRetF, sDrop, sSet, sSetF, sto_np, npAt, np_sh, np_ow, np_no, cm_sh, cm_no, DL.nox, fnM, DL.run,
  frz, full_lst, full_ins, nmN, DL.own, mdf, Sl.put, Sl.mut, Option.bind, cmpD, ltD, leD, gtD, geD, addD, subD, negD, modD, mMakF, mkA, sFldS, putD, fldD, mBinO, mOpO, mCmpO, mEqO, mUnO, mLenO, mSubO, mIxO, mPrp, cand_int, cand_tup, cand_lst, cand_scr, cand_str, cand_bl, cand_non, cand_ins, look0, okY_ii, okY_int, sameC_ii, mCmpG, mEqG, okE_n, okE_01, okE_int, okE_bl, okE_str, okE_non, look1, look01, look10, mTruO, mBlO, sParX, xS, xO, xNil, stoX_cons, stoX_nil, It.sl, zip2, zip3, blD, lenD, eqD, neD, Option.map_some, eqB_int,
  List.map, List.length_cons, List.length_nil, List.getElem?_cons_zero, List.getElem?_cons_succ, List.set_cons_zero, List.set_cons_succ, List.append, List.cons_append, List.nil_append, List.replicate, List.take, Nat.reduceAdd, Nat.reduceSub, Bool.not_true, Bool.not_false, decide_true, decide_false, beq_self_eq_true, bne_self_eq_false, Bool.false_eq_true, reduceIte, ↓reduceIte, lkk, lkn, lk0, Nat.reduceBEq, h1', f4, f5, cd_str]
  | false =>
    have e : itx (c, x) = nS x := if_neg (by rw [b]; simp)
    have h1' : eqS false (.str (kS (lkc c))) (.str "i") = some (.bl true) := by rw [b] at h1; exact h1
    rw [e]
    generalize kS (lkc c) = k at h1' ⊢
    generalize eqS false = q at h1' ⊢
    simp only [DL.bnd, DL.ret, DL.lft, mVar, mCons, mNil, mCallA, callA, callAF, callB, mCallAF, mCallB, mBin, mUn, mB, mTru, truD, mNot, mAnd, mOr, mBv, mIf, mCb, mChain, mTup, mLst, sSeq, sNx, sIf, sRet, sRetF, sDrop, sSet, sSetF, sto_np, npAt, np_sh, np_ow, np_no, cm_sh, cm_no, DL.nox, fnM, DL.run,
  frz, full_lst, full_ins, nmN, DL.own, mdf, Sl.put, Sl.mut, Option.bind, cmpD, ltD, leD, gtD, geD, addD, subD, negD, modD, mMakF, mkA, sFldS, putD, fldD, mBinO, mOpO, mCmpO, mEqO, mUnO, mLenO, mSubO, mIxO, mPrp, cand_int, cand_tup, cand_lst, cand_scr, cand_str, cand_bl, cand_non, cand_ins, look0, okY_ii, okY_int, sameC_ii, mCmpG, mEqG, okE_n, okE_01, okE_int, okE_bl, okE_str, okE_non, look1, look01, look10, mTruO, mBlO, sParX, xS, xO, xNil, stoX_cons, stoX_nil, It.sl, zip2, zip3, blD, lenD, eqD, neD, Option.map_some, eqB_int,
  List.map, List.length_cons, List.length_nil, List.getElem?_cons_zero, List.getElem?_cons_succ, List.set_cons_zero, List.set_cons_succ, List.append, List.cons_append, List.nil_append, List.replicate, List.take, Nat.reduceAdd, Nat.reduceSub, Bool.not_true, Bool.not_false, decide_true, decide_false, beq_self_eq_true, bne_self_eq_false, Bool.false_eq_true, reduceIte, ↓reduceIte, lkk, lkn, lk0, Nat.reduceBEq, h1', f4, cd_str]
theorem lt_loop {T : D} : ∀ (ps : List (Nat × Int)) (Y : List D) (x3 x4 : Option D), (∀ p ∈ ps, Fine p) → Y.length + ps.length ≤ 100 →
    ∃ x3' x4', sLoop (tgTup 2 (tgCons (tgName 3) (tgCons (tgName 4) tgNil))) b_law_text_1 (ps.map fun p => .tup [.str (kS (lkc p.1)), .int p.2]) [.sh T, .ow LKS, .ow (.lst Y), oS x3, oS x4] = .ok .nx [.sh T, .ow LKS, .ow (.lst (Y ++ ps.map fun p => .str (itx p))), oS x3', oS x4']
  | [], Y, x3, x4, _, _ => ⟨x3, x4, by simp only [List.map_nil, sLoop, List.append_nil, sNx, DL.ret]⟩
  | p :: ps, Y, x3, x4, h, hl => by
    rw [List.length_cons] at hl
    have h0 := h p List.mem_cons_self
    have hb := b_lt (T := T) h0.1 h0.2.1 (Y := Y) (by omega)
    obtain ⟨y3, y4, ih⟩ := lt_loop (T := T) ps (Y ++ [.str (itx p)]) (some (.str (kS (lkc p.1)))) (some (.int p.2)) (fun z hz => h z (List.mem_cons_of_mem _ hz)) (by rw [List.length_append]; simp only [List.length_cons, List.length_nil]; omega)
    refine ⟨y3, y4, ?_⟩
    have ht : tgTup 2 (tgCons (tgName 3) (tgCons (tgName 4) tgNil)) (.tup [.str (kS (lkc p.1)), .int p.2]) [.sh T, .ow LKS, .ow (.lst Y), oS x3, oS x4] = some [.sh T, .ow LKS, .ow (.lst Y), .sh (.str (kS (lkc p.1))), .sh (.int p.2)] := by
      cases x3 <;> cases x4 <;> rfl
    rw [List.map_cons, loop_nx ht hb, List.map_cons, List.append_cons Y (D.str (itx p)) (ps.map fun p => D.str (itx p))]
    exact ih
theorem zip_pl : ∀ ps : List (Nat × Int), zipL ((ps.map fun p => lkc p.1).map fun c => .str ⟨#[c]⟩) (ps.map fun p => .int p.2) = ps.map fun p => .tup [.str (kS (lkc p.1)), .int p.2]
  | [] => rfl
  | p :: ps => by
    have ih := zip_pl ps
    simp only [List.map_cons, zipL]
    rw [ih]
    rfl
theorem e_ltxt_of {w lf : Str} {ps : List (Nat × Int)} (hl : dgetD LKS (.str w) = some (.str lf)) (hf : tl lf = ps.map fun p => lkc p.1) (hw : w.length ≤ 4) (hn : ps.length ≤ 4) (hp : ∀ p ∈ ps, Fine p) :
    F_law_text [.sh (tupO w ps)] = .ok (.rt (.str (txt w ps))) [.sh (tupO w ps)] := by
  have hi : ixD (tupO w ps) (.int 0) = some (.str w) := ixh _ _
  have hc : ∀ L : List (Nat × Fm), cand L (tupO w ps) = none := fun _ => rfl
  have hs : slD (tupO w ps) (some 1) none = some (.tup (ps.map fun p => .int p.2)) := sl1 _ _
  have hz : zipSD [.str lf, .tup (ps.map fun p => .int p.2)] = some (ps.map fun p => .tup [.str (kS (lkc p.1)), .int p.2]) := by
    show some (zipL ((tl lf).map _) _) = _
    rw [hf, zip_pl]
  have hj := txt_join hw hn hp
  obtain ⟨x3, x4, hL⟩ := lt_loop (T := tupO w ps) ps [.str w] none none hp (by simp only [List.length_cons, List.length_nil]; omega)
  generalize hT : tupO w ps = T at *
  clear hT
  refine fn_rt rfl (e := [.sh T, .ow LKS, .sh (.lst (.str w :: ps.map fun p => .str (itx p))), oS x3, oS x4]) ?_ rfl
  show m_law_text [.sh T, .no, .no, .no, .no] = _
  unfold m_law_text
  have hd : Sl.ow LKS = .ow LKS := rfl
  rw [seq_nx (e1 := [.sh T, .ow (.dic [.inr "set", .inr "add", .inr "sub", .inr "move", .inr "pick", .inr "less", .inr "same"] [.str "ri", .str "rrr", .str "rrr", .str "rri", .str "rfrr", .str "frr", .str "frr"]), .no, .no, .no]),
    seq_nx (e1 := [.sh T, .ow LKS, .no, .no, .no]), seq_nx (e1 := [.sh T, .ow LKS, .ow (.lst [.str w]), .no, .no]), seq_nx (e1 := [.sh T, .ow LKS, .ow (.lst (.str w :: ps.map fun p => .str (itx p))), oS x3, oS x4])]
  · simp only [DL.bnd, DL.ret, DL.lft, mVar, mCons, mNil, mCallA, callA, callAF, callB, mCallAF, mCallB, mBin, mUn, mB, mTru, truD, mNot, mAnd, mOr, mBv, mIf, mCb, mChain, mTup, mLst, sSeq, sNx, sIf, sRet, sRetF, sDrop, sSet, sSetF, sto_np, npAt, np_sh, np_ow, np_no, cm_sh, cm_no, DL.nox, fnM, DL.run,
  frz, full_lst, full_ins, nmN, DL.own, mdf, Sl.put, Sl.mut, Option.bind, cmpD, ltD, leD, gtD, geD, addD, subD, negD, modD, mMakF, mkA, sFldS, putD, fldD, mBinO, mOpO, mCmpO, mEqO, mUnO, mLenO, mSubO, mIxO, mPrp, cand_int, cand_tup, cand_lst, cand_scr, cand_str, cand_bl, cand_non, cand_ins, look0, okY_ii, okY_int, sameC_ii, mCmpG, mEqG, okE_n, okE_01, okE_int, okE_bl, okE_str, okE_non, look1, look01, look10, mTruO, mBlO, sParX, xS, xO, xNil, stoX_cons, stoX_nil, It.sl, zip2, zip3, blD, lenD, eqD, neD, Option.map_some, eqB_int,
  List.map, List.length_cons, List.length_nil, List.getElem?_cons_zero, List.getElem?_cons_succ, List.set_cons_zero, List.set_cons_succ, List.append, List.cons_append, List.nil_append, List.replicate, List.take, Nat.reduceAdd, Nat.reduceSub, Bool.not_true, Bool.not_false, decide_true, decide_false, beq_self_eq_true, bne_self_eq_false, Bool.false_eq_true, reduceIte, ↓reduceIte, lkk, lkn, lk0, Nat.reduceBEq, mM1, hj]
  · unfold sFor
    have hm : iArg zipSD (mCons (mDgetS 1 (mSubO [(2, F_Program_getitem)] (mVar 0) (DL.ret (.int 0)))) (mCons (mSl (mVar 0) (mPart (DL.ret (.int 1))) mNoP) mNil)) [.sh T, .ow LKS, .ow (.lst [.str w]), .no, .no] = .ok (ps.map fun p => .tup [.str (kS (lkc p.1)), .int p.2]) [.sh T, .ow LKS, .ow (.lst [.str w]), .no, .no] := by
      generalize LKS = L at hl ⊢
      simp only [DL.bnd, DL.ret, DL.lft, mVar, mCons, mNil, mCallA, callA, callAF, callB, mCallAF, mCallB, mBin, mUn, mB, mTru, truD, mNot, mAnd, mOr, mBv, mIf, mCb, mChain, mTup, mLst, sSeq, sNx, sIf, sRet, sRetF, sDrop, sSet, sSetF, sto_np, npAt, np_sh, np_ow, np_no, cm_sh, cm_no, DL.nox, fnM, DL.run,
  frz, full_lst, full_ins, nmN, DL.own, mdf, Sl.put, Sl.mut, Option.bind, cmpD, ltD, leD, gtD, geD, addD, subD, negD, modD, mMakF, mkA, sFldS, putD, fldD, mBinO, mOpO, mCmpO, mEqO, mUnO, mLenO, mSubO, mIxO, mPrp, cand_int, cand_tup, cand_lst, cand_scr, cand_str, cand_bl, cand_non, cand_ins, look0, okY_ii, okY_int, sameC_ii, mCmpG, mEqG, okE_n, okE_01, okE_int, okE_bl, okE_str, okE_non, look1, look01, look10, mTruO, mBlO, sParX, xS, xO, xNil, stoX_cons, stoX_nil, It.sl, zip2, zip3, blD, lenD, eqD, neD, Option.map_some, eqB_int,
  List.map, List.length_cons, List.length_nil, List.getElem?_cons_zero, List.getElem?_cons_succ, List.set_cons_zero, List.set_cons_succ, List.append, List.cons_append, List.nil_append, List.replicate, List.take, Nat.reduceAdd, Nat.reduceSub, Bool.not_true, Bool.not_false, decide_true, decide_false, beq_self_eq_true, bne_self_eq_false, Bool.false_eq_true, reduceIte, ↓reduceIte, lkk, lkn, lk0, Nat.reduceBEq, iArg, mDgetS, hc, hi, hl, mSl, mPart, mNoP, hs, hz]
    simp only [DL.bnd, hm]
    exact hL
  · generalize LKS = L
    simp only [DL.bnd, DL.ret, DL.lft, mVar, mCons, mNil, mCallA, callA, callAF, callB, mCallAF, mCallB, mBin, mUn, mB, mTru, truD, mNot, mAnd, mOr, mBv, mIf, mCb, mChain, mTup, mLst, sSeq, sNx, sIf, sRet, sRetF, sDrop, sSet, sSetF, sto_np, npAt, np_sh, np_ow, np_no, cm_sh, cm_no, DL.nox, fnM, DL.run,
  frz, full_lst, full_ins, nmN, DL.own, mdf, Sl.put, Sl.mut, Option.bind, cmpD, ltD, leD, gtD, geD, addD, subD, negD, modD, mMakF, mkA, sFldS, putD, fldD, mBinO, mOpO, mCmpO, mEqO, mUnO, mLenO, mSubO, mIxO, mPrp, cand_int, cand_tup, cand_lst, cand_scr, cand_str, cand_bl, cand_non, cand_ins, look0, okY_ii, okY_int, sameC_ii, mCmpG, mEqG, okE_n, okE_01, okE_int, okE_bl, okE_str, okE_non, look1, look01, look10, mTruO, mBlO, sParX, xS, xO, xNil, stoX_cons, stoX_nil, It.sl, zip2, zip3, blD, lenD, eqD, neD, Option.map_some, eqB_int,
  List.map, List.length_cons, List.length_nil, List.getElem?_cons_zero, List.getElem?_cons_succ, List.set_cons_zero, List.set_cons_succ, List.append, List.cons_append, List.nil_append, List.replicate, List.take, Nat.reduceAdd, Nat.reduceSub, Bool.not_true, Bool.not_false, decide_true, decide_false, beq_self_eq_true, bne_self_eq_false, Bool.false_eq_true, reduceIte, ↓reduceIte, lkk, lkn, lk0, Nat.reduceBEq, hc, hi, sm1]
  · rfl
  · simp only [DL.bnd, DL.ret, DL.lft, mVar, mCons, mNil, mCallA, callA, callAF, callB, mCallAF, mCallB, mBin, mUn, mB, mTru, truD, mNot, mAnd, mOr, mBv, mIf, mCb, mChain, mTup, mLst, sSeq, sNx, sIf, sRet, sRetF, sDrop, sSet, sSetF, sto_np, npAt, np_sh, np_ow, np_no, cm_sh, cm_no, DL.nox, fnM, DL.run,
  frz, full_lst, full_ins, nmN, DL.own, mdf, Sl.put, Sl.mut, Option.bind, cmpD, ltD, leD, gtD, geD, addD, subD, negD, modD, mMakF, mkA, sFldS, putD, fldD, mBinO, mOpO, mCmpO, mEqO, mUnO, mLenO, mSubO, mIxO, mPrp, cand_int, cand_tup, cand_lst, cand_scr, cand_str, cand_bl, cand_non, cand_ins, look0, okY_ii, okY_int, sameC_ii, mCmpG, mEqG, okE_n, okE_01, okE_int, okE_bl, okE_str, okE_non, look1, look01, look10, mTruO, mBlO, sParX, xS, xO, xNil, stoX_cons, stoX_nil, It.sl, zip2, zip3, blD, lenD, eqD, neD, Option.map_some, eqB_int,
  List.map, List.length_cons, List.length_nil, List.getElem?_cons_zero, List.getElem?_cons_succ, List.set_cons_zero, List.set_cons_succ, List.append, List.cons_append, List.nil_append, List.replicate, List.take, Nat.reduceAdd, Nat.reduceSub, Bool.not_true, Bool.not_false, decide_true, decide_false, beq_self_eq_true, bne_self_eq_false, Bool.false_eq_true, reduceIte, ↓reduceIte, lkk, lkn, lk0, Nat.reduceBEq, mDic]
end LW

set_option Elab.async false
set_option linter.all false
set_option maxRecDepth 100000
set_option maxHeartbeats 1000000
namespace LW
open PySem L2 DL PyProof.Rows
open TL (tl)
theorem seq_rt1 {a b : S} {env e1 : En} {d : D} (h : a env = .ok (.rt d) e1) : sSeq a b env = .ok (.rt d) e1 := by
  simp only [sSeq, h]
theorem asg_ok {m : M D} {t : Tg} {env e1 e2 : En} {d : D} (h1 : m env = .ok d e1) (h2 : t d e1 = some e2) : sAsg m t env = .ok .nx e2 := by
  simp only [sAsg, DL.bnd, h1, h2]
theorem if_no2 {c : DL.M Bool} {S : DL.S} {env : En} (h : c env = .ok false env) : sIf c S sNx env = .ok .nx env := by
  simp only [sIf, DL.bnd, h, Bool.false_eq_true, if_false, sNx, DL.ret]
theorem if_yes2 {c : DL.M Bool} {S : DL.S} {env : En} (h : c env = .ok true env) : sIf c S sNx env = S env := by
  simp only [sIf, DL.bnd, h, if_true]
theorem any_false {α : Type} (ps : List α) : anyD [.lst (ps.map fun _ => .bl false)] = some (.bl false) := by
  have : (ps.map fun _ => D.bl false) = (ps.map fun _ => false).map D.bl := by rw [List.map_map]; rfl
  rw [this]
  show (asBls _).map _ = _
  rw [asBls_map, Option.map_some]
  congr 2
  simp
abbrev JG : D := .tup [.str "jump", .str "goto"]
section
variable {w fm : Str} {ps : List (Nat × Int)} (hl : tb_FORMS.lookup w = some fm) (hf : tl fm = ps.map (·.1)) (hw : w.length ≤ 4) (hn : ps.length ≤ 4) (hp : ∀ p ∈ ps, Fine p) (h32 : 32 ∉ tl w)
include hl hf hw hn hp h32
theorem e_pins_of (hJ : (inD false (.str w) JG = some (.bl false) ∧ F_is_instruction [.sh (tupO w ps)] = .ok (.rt (.bl true)) [.sh (tupO w ps)]) ∨ (inD false (.str w) JG = some (.bl true) ∧ ∃ v fr, ixD (.lst (ps.map fun p => .int p.2)) (.int (-1)) = some (.int v) ∧ 0 ≤ v ∧ slD (.lst (ps.map fun p => .int p.2)) none (some (-1)) = some (.lst fr) ∧ small (fr.length + 2) = true ∧ F_is_instruction [.sh (.tup (.str w :: (fr ++ [.int 0])))] = .ok (.rt (.bl true)) [.sh (.tup (.str w :: (fr ++ [.int 0])))])) :
    F_parse_instruction [.sh (.str (txt w ps))] = .ok (.rt (tupO w ps)) [.sh (.str (txt w ps))] := by
  have hsp := txt_split hw hn hp h32
  have hfl : fm.length = ps.length := by rw [TL.len_tl, hf, List.length_map]
  have hs1 : small fm.length = true := decide_eq_true (by omega)
  have hs2 : small (ps.length + 1) = true := decide_eq_true (by omega)
  generalize txt w ps = t at hsp ⊢
  generalize hX : (ps.map fun p => D.str (itx p)) = X at hsp
  have hXl : X.length = ps.length := by rw [← hX, List.length_map]
  have hQ2 : c_parse_instruction_2 [.sh (.str t), .sh (.str w), .sh (.lst X), .no, .no, .no] = .ok (.lst (ps.map fun p => .int p.2)) [.sh (.str t), .sh (.str w), .sh (.lst X), .no, .no, .no] := by
    refine mLc_of (st := fun p => [.sh (.str t), .sh (.str w), .sh (.lst X), .no, .sh (.str (kS p.1)), .sh (.str (itx p))]) (gi := fun p => .tup [.str (kS p.1), .str (itx p)]) (go := fun p => .int p.2) ?_ rfl rfl rfl (decide_eq_true (by omega)) fun p h => ⟨rfl, ?_, rfl, rfl⟩
    · have hz := zipTL hf
      rw [hX] at hz
      simp only [DL.bnd, DL.ret, DL.lft, mVar, mCons, mNil, mCallA, callA, callAF, callB, mCallAF, mCallB, mBin, mUn, mB, mTru, truD, mNot, mAnd, mOr, mBv, mIf, mCb, mChain, mTup, mLst, sSeq, sNx, sIf, sRet, sRetF, sDrop, sSet, sSetF, sto_np, npAt, np_sh, np_ow, np_no, cm_sh, cm_no, DL.nox, fnM, DL.run,
  frz, full_lst, full_ins, nmN, DL.own, mdf, Sl.put, Sl.mut, Option.bind, cmpD, ltD, leD, gtD, geD, addD, subD, negD, modD, mMakF, mkA, sFldS, putD, fldD, mBinO, mOpO, mCmpO, mEqO, mUnO, mLenO, mSubO, mIxO, mPrp, cand_int, cand_tup, cand_lst, cand_scr, cand_str, cand_bl, cand_non, cand_ins, look0, okY_ii, okY_int, sameC_ii, mCmpG, mEqG, okE_n, okE_01, okE_int, okE_bl, okE_str, okE_non, look1, look01, look10, mTruO, mBlO, sParX, xS, xO, xNil, stoX_cons, stoX_nil, It.sl, zip2, zip3, blD, lenD, eqD, neD, Option.map_some, eqB_int,
  List.map, List.length_cons, List.length_nil, List.getElem?_cons_zero, List.getElem?_cons_succ, List.set_cons_zero, List.set_cons_succ, List.append, List.cons_append, List.nil_append, List.replicate, List.take, Nat.reduceAdd, Nat.reduceSub, Bool.not_true, Bool.not_false, decide_true, decide_false, beq_self_eq_true, bne_self_eq_false, Bool.false_eq_true, reduceIte, ↓reduceIte, lkk, lkn, lk0, Nat.reduceBEq, iArg, mGetK, hl, hz]
    · have := e_pitem (hp p h).1 (hp p h).2.1 (hp p h).2.2
      simp only [DL.bnd, DL.ret, DL.lft, mVar, mCons, mNil, mCallA, callA, callAF, callB, mCallAF, mCallB, mBin, mUn, mB, mTru, truD, mNot, mAnd, mOr, mBv, mIf, mCb, mChain, mTup, mLst, sSeq, sNx, sIf, sRet, sRetF, sDrop, sSet, sSetF, sto_np, npAt, np_sh, np_ow, np_no, cm_sh, cm_no, DL.nox, fnM, DL.run,
  frz, full_lst, full_ins, nmN, DL.own, mdf, Sl.put, Sl.mut, Option.bind, cmpD, ltD, leD, gtD, geD, addD, subD, negD, modD, mMakF, mkA, sFldS, putD, fldD, mBinO, mOpO, mCmpO, mEqO, mUnO, mLenO, mSubO, mIxO, mPrp, cand_int, cand_tup, cand_lst, cand_scr, cand_str, cand_bl, cand_non, cand_ins, look0, okY_ii, okY_int, sameC_ii, mCmpG, mEqG, okE_n, okE_01, okE_int, okE_bl, okE_str, okE_non, look1, look01, look10, mTruO, mBlO, sParX, xS, xO, xNil, stoX_cons, stoX_nil, It.sl, zip2, zip3, blD, lenD, eqD, neD, Option.map_some, eqB_int,
  List.map, List.length_cons, List.length_nil, List.getElem?_cons_zero, List.getElem?_cons_succ, List.set_cons_zero, List.set_cons_succ, List.append, List.cons_append, List.nil_append, List.replicate, List.take, Nat.reduceAdd, Nat.reduceSub, Bool.not_true, Bool.not_false, decide_true, decide_false, beq_self_eq_true, bne_self_eq_false, Bool.false_eq_true, reduceIte, ↓reduceIte, lkk, lkn, lk0, Nat.reduceBEq, this]
  generalize hY : (ps.map fun p => D.int p.2) = Y at hQ2 hJ
  have hYl : Y.length = ps.length := by rw [← hY, List.length_map]
  have hT : tupO w ps = .tup (.str w :: Y) := by rw [← hY]; rfl
  rw [hT] at hJ ⊢
  have hQ1 : c_parse_instruction_1 [.sh (.str t), .sh (.str w), .sh (.lst X), .sh (.lst Y), .no, .no] = .ok (.lst (ps.map fun _ => .bl false)) [.sh (.str t), .sh (.str w), .sh (.lst X), .sh (.lst Y), .no, .no] := by
    refine mLc_map (os := ps) (gi := fun p => .int p.2) (go := fun _ => .bl false) (y := .no) (by rw [hY]; simp only [DL.bnd, DL.ret, DL.lft, mVar, mCons, mNil, mCallA, callA, callAF, callB, mCallAF, mCallB, mBin, mUn, mB, mTru, truD, mNot, mAnd, mOr, mBv, mIf, mCb, mChain, mTup, mLst, sSeq, sNx, sIf, sRet, sRetF, sDrop, sSet, sSetF, sto_np, npAt, np_sh, np_ow, np_no, cm_sh, cm_no, DL.nox, fnM, DL.run,
  frz, full_lst, full_ins, nmN, DL.own, mdf, Sl.put, Sl.mut, Option.bind, cmpD, ltD, leD, gtD, geD, addD, subD, negD, modD, mMakF, mkA, sFldS, putD, fldD, mBinO, mOpO, mCmpO, mEqO, mUnO, mLenO, mSubO, mIxO, mPrp, cand_int, cand_tup, cand_lst, cand_scr, cand_str, cand_bl, cand_non, cand_ins, look0, okY_ii, okY_int, sameC_ii, mCmpG, mEqG, okE_n, okE_01, okE_int, okE_bl, okE_str, okE_non, look1, look01, look10, mTruO, mBlO, sParX, xS, xO, xNil, stoX_cons, stoX_nil, It.sl, zip2, zip3, blD, lenD, eqD, neD, Option.map_some, eqB_int,
  List.map, List.length_cons, List.length_nil, List.getElem?_cons_zero, List.getElem?_cons_succ, List.set_cons_zero, List.set_cons_succ, List.append, List.cons_append, List.nil_append, List.replicate, List.take, Nat.reduceAdd, Nat.reduceSub, Bool.not_true, Bool.not_false, decide_true, decide_false, beq_self_eq_true, bne_self_eq_false, Bool.false_eq_true, reduceIte, ↓reduceIte, lkk, lkn, lk0, Nat.reduceBEq, iItm, itemsD]) rfl rfl (decide_eq_true (by omega)) fun p h => ?_
    simp only [DL.bnd, DL.ret, DL.lft, mVar, mCons, mNil, mCallA, callA, callAF, callB, mCallAF, mCallB, mBin, mUn, mB, mTru, truD, mNot, mAnd, mOr, mBv, mIf, mCb, mChain, mTup, mLst, sSeq, sNx, sIf, sRet, sRetF, sDrop, sSet, sSetF, sto_np, npAt, np_sh, np_ow, np_no, cm_sh, cm_no, DL.nox, fnM, DL.run,
  frz, full_lst, full_ins, nmN, DL.own, mdf, Sl.put, Sl.mut, Option.bind, cmpD, ltD, leD, gtD, geD, addD, subD, negD, modD, mMakF, mkA, sFldS, putD, fldD, mBinO, mOpO, mCmpO, mEqO, mUnO, mLenO, mSubO, mIxO, mPrp, cand_int, cand_tup, cand_lst, cand_scr, cand_str, cand_bl, cand_non, cand_ins, look0, okY_ii, okY_int, sameC_ii, mCmpG, mEqG, okE_n, okE_01, okE_int, okE_bl, okE_str, okE_non, look1, look01, look10, mTruO, mBlO, sParX, xS, xO, xNil, stoX_cons, stoX_nil, It.sl, zip2, zip3, blD, lenD, eqD, neD, Option.map_some, eqB_int,
  List.map, List.length_cons, List.length_nil, List.getElem?_cons_zero, List.getElem?_cons_succ, List.set_cons_zero, List.set_cons_succ, List.append, List.cons_append, List.nil_append, List.replicate, List.take, Nat.reduceAdd, Nat.reduceSub, Bool.not_true, Bool.not_false, decide_true, decide_false, beq_self_eq_true, bne_self_eq_false, Bool.false_eq_true, reduceIte, ↓reduceIte, lkk, lkn, lk0, Nat.reduceBEq, isND]
  have hA := any_false ps
  refine fn_rt rfl (e := [.sh (.str t), .sh (.str w), .sh (.lst X), .sh (.lst Y), .no, .no]) ?_ rfl
  show m_parse_instruction [.sh (.str t), .no, .no, .no, .no, .no] = _
  unfold m_parse_instruction
  generalize c_parse_instruction_2 = Q2 at hQ2 ⊢
  generalize c_parse_instruction_1 = Q1 at hQ1 ⊢
  have hfull : full (.lst (.str w :: X)) = true := rfl
  rw [seq_nx (e1 := [.sh (.str t), .sh (.str w), .sh (.lst X), .no, .no, .no]), seq_nx (e1 := [.sh (.str t), .sh (.str w), .sh (.lst X), .no, .no, .no]),
    seq_nx (e1 := [.sh (.str t), .sh (.str w), .sh (.lst X), .sh (.lst Y), .no, .no]), seq_nx (e1 := [.sh (.str t), .sh (.str w), .sh (.lst X), .sh (.lst Y), .no, .no])]
  · rcases hJ with ⟨j1, j2⟩ | ⟨j1, v, fr, j2, j3, j4, j5, j6⟩
    · rw [seq_nx (if_no2 (by simp only [DL.bnd, DL.ret, DL.lft, mVar, mCons, mNil, mCallA, callA, callAF, callB, mCallAF, mCallB, mBin, mUn, mB, mTru, truD, mNot, mAnd, mOr, mBv, mIf, mCb, mChain, mTup, mLst, sSeq, sNx, sIf, sRet, sRetF, sDrop, sSet, sSetF, sto_np, npAt, np_sh, np_ow, np_no, cm_sh, cm_no, DL.nox, fnM, DL.run,
  frz, full_lst, full_ins, nmN, DL.own, mdf, Sl.put, Sl.mut, Option.bind, cmpD, ltD, leD, gtD, geD, addD, subD, negD, modD, mMakF, mkA, sFldS, putD, fldD, mBinO, mOpO, mCmpO, mEqO, mUnO, mLenO, mSubO, mIxO, mPrp, cand_int, cand_tup, cand_lst, cand_scr, cand_str, cand_bl, cand_non, cand_ins, look0, okY_ii, okY_int, sameC_ii, mCmpG, mEqG, okE_n, okE_01, okE_int, okE_bl, okE_str, okE_non, look1, look01, look10, mTruO, mBlO, sParX, xS, xO, xNil, stoX_cons, stoX_nil, It.sl, zip2, zip3, blD, lenD, eqD, neD, Option.map_some, eqB_int,
  List.map, List.length_cons, List.length_nil, List.getElem?_cons_zero, List.getElem?_cons_succ, List.set_cons_zero, List.set_cons_succ, List.append, List.cons_append, List.nil_append, List.replicate, List.take, Nat.reduceAdd, Nat.reduceSub, Bool.not_true, Bool.not_false, decide_true, decide_false, beq_self_eq_true, bne_self_eq_false, Bool.false_eq_true, reduceIte, ↓reduceIte, lkk, lkn, lk0, Nat.reduceBEq, sm2, j1]))]
      have hz : small (Y.length + 1) = true := by rw [hYl]; exact hs2
      simp only [DL.bnd, DL.ret, DL.lft, mVar, mCons, mNil, mCallA, callA, callAF, callB, mCallAF, mCallB, mBin, mUn, mB, mTru, truD, mNot, mAnd, mOr, mBv, mIf, mCb, mChain, mTup, mLst, sSeq, sNx, sIf, sRet, sRetF, sDrop, sSet, sSetF, sto_np, npAt, np_sh, np_ow, np_no, cm_sh, cm_no, DL.nox, fnM, DL.run,
  frz, full_lst, full_ins, nmN, DL.own, mdf, Sl.put, Sl.mut, Option.bind, cmpD, ltD, leD, gtD, geD, addD, subD, negD, modD, mMakF, mkA, sFldS, putD, fldD, mBinO, mOpO, mCmpO, mEqO, mUnO, mLenO, mSubO, mIxO, mPrp, cand_int, cand_tup, cand_lst, cand_scr, cand_str, cand_bl, cand_non, cand_ins, look0, okY_ii, okY_int, sameC_ii, mCmpG, mEqG, okE_n, okE_01, okE_int, okE_bl, okE_str, okE_non, look1, look01, look10, mTruO, mBlO, sParX, xS, xO, xNil, stoX_cons, stoX_nil, It.sl, zip2, zip3, blD, lenD, eqD, neD, Option.map_some, eqB_int,
  List.map, List.length_cons, List.length_nil, List.getElem?_cons_zero, List.getElem?_cons_succ, List.set_cons_zero, List.set_cons_succ, List.append, List.cons_append, List.nil_append, List.replicate, List.take, Nat.reduceAdd, Nat.reduceSub, Bool.not_true, Bool.not_false, decide_true, decide_false, beq_self_eq_true, bne_self_eq_false, Bool.false_eq_true, reduceIte, ↓reduceIte, lkk, lkn, lk0, Nat.reduceBEq, mStar, starL, List.append_nil, hz, j2]
    · have hz : small (Y.length + 1) = true := by rw [hYl]; exact hs2
      have j3' : (v ≥ 0) = True := eq_true j3
      have hz2 : small (fr.length + 1 + 1) = true := j5
      refine seq_rt1 ?_
      rw [if_yes2 (by simp only [DL.bnd, DL.ret, DL.lft, mVar, mCons, mNil, mCallA, callA, callAF, callB, mCallAF, mCallB, mBin, mUn, mB, mTru, truD, mNot, mAnd, mOr, mBv, mIf, mCb, mChain, mTup, mLst, sSeq, sNx, sIf, sRet, sRetF, sDrop, sSet, sSetF, sto_np, npAt, np_sh, np_ow, np_no, cm_sh, cm_no, DL.nox, fnM, DL.run,
  frz, full_lst, full_ins, nmN, DL.own, mdf, Sl.put, Sl.mut, Option.bind, cmpD, ltD, leD, gtD, geD, addD, subD, negD, modD, mMakF, mkA, sFldS, putD, fldD, mBinO, mOpO, mCmpO, mEqO, mUnO, mLenO, mSubO, mIxO, mPrp, cand_int, cand_tup, cand_lst, cand_scr, cand_str, cand_bl, cand_non, cand_ins, look0, okY_ii, okY_int, sameC_ii, mCmpG, mEqG, okE_n, okE_01, okE_int, okE_bl, okE_str, okE_non, look1, look01, look10, mTruO, mBlO, sParX, xS, xO, xNil, stoX_cons, stoX_nil, It.sl, zip2, zip3, blD, lenD, eqD, neD, Option.map_some, eqB_int,
  List.map, List.length_cons, List.length_nil, List.getElem?_cons_zero, List.getElem?_cons_succ, List.set_cons_zero, List.set_cons_succ, List.append, List.cons_append, List.nil_append, List.replicate, List.take, Nat.reduceAdd, Nat.reduceSub, Bool.not_true, Bool.not_false, decide_true, decide_false, beq_self_eq_true, bne_self_eq_false, Bool.false_eq_true, reduceIte, ↓reduceIte, lkk, lkn, lk0, Nat.reduceBEq, sm2, j1])]
      have e1 : (-1 : Int) = -1 := rfl
      simp only [DL.bnd, DL.ret, DL.lft, mVar, mCons, mNil, mCallA, callA, callAF, callB, mCallAF, mCallB, mBin, mUn, mB, mTru, truD, mNot, mAnd, mOr, mBv, mIf, mCb, mChain, mTup, mLst, sSeq, sNx, sIf, sRet, sRetF, sDrop, sSet, sSetF, sto_np, npAt, np_sh, np_ow, np_no, cm_sh, cm_no, DL.nox, fnM, DL.run,
  frz, full_lst, full_ins, nmN, DL.own, mdf, Sl.put, Sl.mut, Option.bind, cmpD, ltD, leD, gtD, geD, addD, subD, negD, modD, mMakF, mkA, sFldS, putD, fldD, mBinO, mOpO, mCmpO, mEqO, mUnO, mLenO, mSubO, mIxO, mPrp, cand_int, cand_tup, cand_lst, cand_scr, cand_str, cand_bl, cand_non, cand_ins, look0, okY_ii, okY_int, sameC_ii, mCmpG, mEqG, okE_n, okE_01, okE_int, okE_bl, okE_str, okE_non, look1, look01, look10, mTruO, mBlO, sParX, xS, xO, xNil, stoX_cons, stoX_nil, It.sl, zip2, zip3, blD, lenD, eqD, neD, Option.map_some, eqB_int,
  List.map, List.length_cons, List.length_nil, List.getElem?_cons_zero, List.getElem?_cons_succ, List.set_cons_zero, List.set_cons_succ, List.append, List.cons_append, List.nil_append, List.replicate, List.take, Nat.reduceAdd, Nat.reduceSub, Bool.not_true, Bool.not_false, decide_true, decide_false, beq_self_eq_true, bne_self_eq_false, Bool.false_eq_true, reduceIte, ↓reduceIte, lkk, lkn, lk0, Nat.reduceBEq, cd_lst, mStar, starL, List.append_nil, hz, j2, j3, mSl, mPart, mNoP, j4, j6, List.length_append, hz2]
  · exact if_no2 (by simp only [DL.bnd, DL.ret, DL.lft, mVar, mCons, mNil, mCallA, callA, callAF, callB, mCallAF, mCallB, mBin, mUn, mB, mTru, truD, mNot, mAnd, mOr, mBv, mIf, mCb, mChain, mTup, mLst, sSeq, sNx, sIf, sRet, sRetF, sDrop, sSet, sSetF, sto_np, npAt, np_sh, np_ow, np_no, cm_sh, cm_no, DL.nox, fnM, DL.run,
  frz, full_lst, full_ins, nmN, DL.own, mdf, Sl.put, Sl.mut, Option.bind, cmpD, ltD, leD, gtD, geD, addD, subD, negD, modD, mMakF, mkA, sFldS, putD, fldD, mBinO, mOpO, mCmpO, mEqO, mUnO, mLenO, mSubO, mIxO, mPrp, cand_int, cand_tup, cand_lst, cand_scr, cand_str, cand_bl, cand_non, cand_ins, look0, okY_ii, okY_int, sameC_ii, mCmpG, mEqG, okE_n, okE_01, okE_int, okE_bl, okE_str, okE_non, look1, look01, look10, mTruO, mBlO, sParX, xS, xO, xNil, stoX_cons, stoX_nil, It.sl, zip2, zip3, blD, lenD, eqD, neD, Option.map_some, eqB_int,
  List.map, List.length_cons, List.length_nil, List.getElem?_cons_zero, List.getElem?_cons_succ, List.set_cons_zero, List.set_cons_succ, List.append, List.cons_append, List.nil_append, List.replicate, List.take, Nat.reduceAdd, Nat.reduceSub, Bool.not_true, Bool.not_false, decide_true, decide_false, beq_self_eq_true, bne_self_eq_false, Bool.false_eq_true, reduceIte, ↓reduceIte, lkk, lkn, lk0, Nat.reduceBEq, hQ1, hA])
  · simp only [DL.bnd, DL.ret, DL.lft, mVar, mCons, mNil, mCallA, callA, callAF, callB, mCallAF, mCallB, mBin, mUn, mB, mTru, truD, mNot, mAnd, mOr, mBv, mIf, mCb, mChain, mTup, mLst, sSeq, sNx, sIf, sRet, sRetF, sDrop, sSet, sSetF, sto_np, npAt, np_sh, np_ow, np_no, cm_sh, cm_no, DL.nox, fnM, DL.run,
  frz, full_lst, full_ins, nmN, DL.own, mdf, Sl.put, Sl.mut, Option.bind, cmpD, ltD, leD, gtD, geD, addD, subD, negD, modD, mMakF, mkA, sFldS, putD, fldD, mBinO, mOpO, mCmpO, mEqO, mUnO, mLenO, mSubO, mIxO, mPrp, cand_int, cand_tup, cand_lst, cand_scr, cand_str, cand_bl, cand_non, cand_ins, look0, okY_ii, okY_int, sameC_ii, mCmpG, mEqG, okE_n, okE_01, okE_int, okE_bl, okE_str, okE_non, look1, look01, look10, mTruO, mBlO, sParX, xS, xO, xNil, stoX_cons, stoX_nil, It.sl, zip2, zip3, blD, lenD, eqD, neD, Option.map_some, eqB_int,
  List.map, List.length_cons, List.length_nil, List.getElem?_cons_zero, List.getElem?_cons_succ, List.set_cons_zero, List.set_cons_succ, List.append, List.cons_append, List.nil_append, List.replicate, List.take, Nat.reduceAdd, Nat.reduceSub, Bool.not_true, Bool.not_false, decide_true, decide_false, beq_self_eq_true, bne_self_eq_false, Bool.false_eq_true, reduceIte, ↓reduceIte, lkk, lkn, lk0, Nat.reduceBEq, hQ2]
  · refine if_no2 ?_
    have hl2 : ((ps.length : Int) = (ps.length : Int)) = True := eq_self _
    have hs0 : small ps.length = true := decide_eq_true (by omega)
    have he : eqB (.int (ps.length : Int)) (.int (ps.length : Int)) = some true := by rw [eqB_int, decide_eq_true rfl]
    simp only [DL.bnd, DL.ret, DL.lft, mVar, mCons, mNil, mCallA, callA, callAF, callB, mCallAF, mCallB, mBin, mUn, mB, mTru, truD, mNot, mAnd, mOr, mBv, mIf, mCb, mChain, mTup, mLst, sSeq, sNx, sIf, sRet, sRetF, sDrop, sSet, sSetF, sto_np, npAt, np_sh, np_ow, np_no, cm_sh, cm_no, DL.nox, fnM, DL.run,
  frz, full_lst, full_ins, nmN, DL.own, mdf, Sl.put, Sl.mut, Option.bind, cmpD, ltD, leD, gtD, geD, addD, subD, negD, modD, mMakF, mkA, sFldS, putD, fldD, mBinO, mOpO, mCmpO, mEqO, mUnO, mLenO, mSubO, mIxO, mPrp, cand_int, cand_tup, cand_lst, cand_scr, cand_str, cand_bl, cand_non, cand_ins, look0, okY_ii, okY_int, sameC_ii, mCmpG, mEqG, okE_n, okE_01, okE_int, okE_bl, okE_str, okE_non, look1, look01, look10, mTruO, mBlO, sParX, xS, xO, xNil, stoX_cons, stoX_nil, It.sl, zip2, zip3, blD, lenD, eqD, neD, Option.map_some, eqB_int,
  List.map, List.length_cons, List.length_nil, List.getElem?_cons_zero, List.getElem?_cons_succ, List.set_cons_zero, List.set_cons_succ, List.append, List.cons_append, List.nil_append, List.replicate, List.take, Nat.reduceAdd, Nat.reduceSub, Bool.not_true, Bool.not_false, decide_true, decide_false, beq_self_eq_true, bne_self_eq_false, Bool.false_eq_true, reduceIte, ↓reduceIte, lkk, lkn, lk0, Nat.reduceBEq, mInK, mGetK, hl, cd_str, cd_lst, cd_int, hs0, he, hs1, hfl, hXl, lenD, Option.isSome_some]
  · exact asg_ok (d := .lst (.str w :: X)) (e1 := [.sh (.str t), .no, .no, .no, .no, .no]) (by simp only [DL.bnd, DL.ret, DL.lft, mVar, mCons, mNil, mCallA, callA, callAF, callB, mCallAF, mCallB, mBin, mUn, mB, mTru, truD, mNot, mAnd, mOr, mBv, mIf, mCb, mChain, mTup, mLst, sSeq, sNx, sIf, sRet, sRetF, sDrop, sSet, sSetF, sto_np, npAt, np_sh, np_ow, np_no, cm_sh, cm_no, DL.nox, fnM, DL.run,
  frz, full_lst, full_ins, nmN, DL.own, mdf, Sl.put, Sl.mut, Option.bind, cmpD, ltD, leD, gtD, geD, addD, subD, negD, modD, mMakF, mkA, sFldS, putD, fldD, mBinO, mOpO, mCmpO, mEqO, mUnO, mLenO, mSubO, mIxO, mPrp, cand_int, cand_tup, cand_lst, cand_scr, cand_str, cand_bl, cand_non, cand_ins, look0, okY_ii, okY_int, sameC_ii, mCmpG, mEqG, okE_n, okE_01, okE_int, okE_bl, okE_str, okE_non, look1, look01, look10, mTruO, mBlO, sParX, xS, xO, xNil, stoX_cons, stoX_nil, It.sl, zip2, zip3, blD, lenD, eqD, neD, Option.map_some, eqB_int,
  List.map, List.length_cons, List.length_nil, List.getElem?_cons_zero, List.getElem?_cons_succ, List.set_cons_zero, List.set_cons_succ, List.append, List.cons_append, List.nil_append, List.replicate, List.take, Nat.reduceAdd, Nat.reduceSub, Bool.not_true, Bool.not_false, decide_true, decide_false, beq_self_eq_true, bne_self_eq_false, Bool.false_eq_true, reduceIte, ↓reduceIte, lkk, lkn, lk0, Nat.reduceBEq, mM1, hsp, hfull]) rfl
end
end LW

set_option Elab.async false
set_option linter.all false
set_option maxRecDepth 100000
set_option maxHeartbeats 1000000
namespace LW
open PySem L2 DL PyProof.Rows
open TL (tl)
def wd : Op → Str
  | .set _ _ => "set"
  | .add _ _ _ => "add"
  | .sub _ _ _ => "sub"
  | .mov _ _ _ => "move"
  | .pck _ _ _ _ => "pick"
  | .les _ _ _ => "less"
  | .sam _ _ _ => "same"
  | .jmp _ _ => "jump"
  | .gto _ => "goto"
def its : Op → List (Nat × Int)
  | .set d v => [(114, d), (105, v)]
  | .add d x y => [(114, d), (114, x), (114, y)]
  | .sub d x y => [(114, d), (114, x), (114, y)]
  | .mov d x p => [(114, d), (114, x), (112, p)]
  | .pck d f x y => [(114, d), (102, f), (114, x), (114, y)]
  | .les f x y => [(102, f), (114, x), (114, y)]
  | .sam f x y => [(102, f), (114, x), (114, y)]
  | .jmp f t => [(102, f), (116, t)]
  | .gto t => [(116, t)]
def fmO : Op → Str
  | .set _ _ => "ri"
  | .add _ _ _ => "rrr"
  | .sub _ _ _ => "rrr"
  | .mov _ _ _ => "rrp"
  | .pck _ _ _ _ => "rfrr"
  | .les _ _ _ => "frr"
  | .sam _ _ _ => "frr"
  | .jmp _ _ => "ft"
  | .gto _ => "t"
def lfO : Op → Str
  | .mov _ _ _ => "rri"
  | .jmp _ _ => "fi"
  | .gto _ => "i"
  | o => fmO o
theorem toD_tup (o : Op) : toD o = tupO (wd o) (its o) := by cases o <;> rfl
theorem fm_look (o : Op) : tb_FORMS.lookup (wd o) = some (fmO o) := by cases o <;> kernel_rfl
theorem fm_tl (o : Op) : tl (fmO o) = (its o).map (·.1) := by cases o <;> kernel_rfl
theorem lf_look (o : Op) : dgetD LKS (.str (wd o)) = some (.str (lfO o)) := by cases o <;> kernel_rfl
theorem lf_tl (o : Op) : tl (lfO o) = (its o).map fun p => lkc p.1 := by cases o <;> kernel_rfl
theorem wd_len (o : Op) : (wd o).length ≤ 4 := by cases o <;> exact of_decide_eq_true (by kernel_rfl)
theorem its_len (o : Op) : (its o).length ≤ 4 := by cases o <;> simp [its]
theorem wd_low (o : Op) : ∀ c ∈ tl (wd o), 97 ≤ c := by
  cases o with
  | set _ _ => rw [show tl (wd (.set _ _)) = [115, 101, 116] by kernel_rfl]; decide
  | add _ _ _ => rw [show tl (wd (.add _ _ _)) = [97, 100, 100] by kernel_rfl]; decide
  | sub _ _ _ => rw [show tl (wd (.sub _ _ _)) = [115, 117, 98] by kernel_rfl]; decide
  | mov _ _ _ => rw [show tl (wd (.mov _ _ _)) = [109, 111, 118, 101] by kernel_rfl]; decide
  | pck _ _ _ _ => rw [show tl (wd (.pck _ _ _ _)) = [112, 105, 99, 107] by kernel_rfl]; decide
  | les _ _ _ => rw [show tl (wd (.les _ _ _)) = [108, 101, 115, 115] by kernel_rfl]; decide
  | sam _ _ _ => rw [show tl (wd (.sam _ _ _)) = [115, 97, 109, 101] by kernel_rfl]; decide
  | jmp _ _ => rw [show tl (wd (.jmp _ _)) = [106, 117, 109, 112] by kernel_rfl]; decide
  | gto _ => rw [show tl (wd (.gto _)) = [103, 111, 116, 111] by kernel_rfl]; decide
/-! small numbers -/
theorem sm_of {x : Int} (h : x.natAbs < 1000) : Sm x := by
  refine ⟨Nat.le_trans (TL.numL_len (k := 3) (by omega) h) (by omega), ?_⟩
  by_cases c : x.natAbs = 0
  · rw [c]; decide
  · exact Nat.lt_of_lt_of_le ((Nat.log2_lt c).mpr (Nat.lt_trans h (by decide : 1000 < 2 ^ 10))) (by omega)
def SmO : Op → Prop
  | .set _ v => Sm v
  | _ => True
theorem fi_r {x : Int} (h : Rg x) : Fine (114, x) := ⟨.inl rfl, sm_of (by have := h.1; have := h.2; show x.natAbs < 1000; omega), fun _ => h.1⟩
theorem fi_f {x : Int} (h : Fl x) : Fine (102, x) := ⟨.inr (.inl rfl), sm_of (by have := h.1; have := h.2; show x.natAbs < 1000; omega), fun _ => h.1⟩
theorem fi_p {x : Int} (h : -40 ≤ x) (h2 : x ≤ 40) : Fine (112, x) := ⟨.inr (.inr (.inl rfl)), sm_of (by show x.natAbs < 1000; omega), fun q => nomatch q⟩
theorem fi_t {x : Int} (h : 0 ≤ x) (h2 : x ≤ 200) : Fine (116, x) := ⟨.inr (.inr (.inr (.inl rfl))), sm_of (by show x.natAbs < 1000; omega), fun q => nomatch q⟩
theorem fi_i {x : Int} (h : Sm x) : Fine (105, x) := ⟨.inr (.inr (.inr (.inr rfl))), h, fun q => nomatch q⟩
section
variable {n : Int} (hn : n ≤ 200)
include hn
theorem its_fine : ∀ {o : Op}, Vd n o → SmO o → ∀ p ∈ its o, Fine p
  | .set d v, h, s => by simp only [its, List.forall_mem_cons, List.not_mem_nil, false_imp_iff, implies_true, and_true]; exact ⟨fi_r h, fi_i s⟩
  | .add d x y, h, s => by simp only [its, List.forall_mem_cons, List.not_mem_nil, false_imp_iff, implies_true, and_true]; exact ⟨fi_r h.1, fi_r h.2.1, fi_r h.2.2⟩
  | .sub d x y, h, s => by simp only [its, List.forall_mem_cons, List.not_mem_nil, false_imp_iff, implies_true, and_true]; exact ⟨fi_r h.1, fi_r h.2.1, fi_r h.2.2⟩
  | .mov d x p, h, s => by simp only [its, List.forall_mem_cons, List.not_mem_nil, false_imp_iff, implies_true, and_true]; exact ⟨fi_r h.1, fi_r h.2.1, fi_p h.2.2.1 h.2.2.2⟩
  | .pck d f x y, h, s => by simp only [its, List.forall_mem_cons, List.not_mem_nil, false_imp_iff, implies_true, and_true]; exact ⟨fi_r h.1, fi_f h.2.1, fi_r h.2.2.1, fi_r h.2.2.2⟩
  | .les f x y, h, s => by simp only [its, List.forall_mem_cons, List.not_mem_nil, false_imp_iff, implies_true, and_true]; exact ⟨fi_f h.1, fi_r h.2.1, fi_r h.2.2⟩
  | .sam f x y, h, s => by simp only [its, List.forall_mem_cons, List.not_mem_nil, false_imp_iff, implies_true, and_true]; exact ⟨fi_f h.1, fi_r h.2.1, fi_r h.2.2⟩
  | .jmp f t, h, s => by simp only [its, List.forall_mem_cons, List.not_mem_nil, false_imp_iff, implies_true, and_true]; exact ⟨fi_f h.1, fi_t h.2.1 (Int.le_trans h.2.2 hn)⟩
  | .gto t, h, s => by simp only [its, List.forall_mem_cons, List.not_mem_nil, false_imp_iff, implies_true, and_true]; exact fi_t h.1 (Int.le_trans h.2 hn)
def txO (o : Op) : Str := txt (wd o) (its o)
omit hn in
theorem w32 (o : Op) : 32 ∉ tl (wd o) := fun h => by have := wd_low o 32 h; omega
theorem e_fins {o : Op} (v : Vd n o) (s : SmO o) : F_format_instruction [.sh (toD o)] = .ok (.rt (.str (txO o))) [.sh (toD o)] := by
  rw [toD_tup]
  exact e_fins_of (fm_look o) (fm_tl o) (wd_len o) (its_len o) (its_fine hn v s)
theorem e_ltxt {o : Op} (v : Vd n o) (s : SmO o) : F_law_text [.sh (toD o)] = .ok (.rt (.str (txO o))) [.sh (toD o)] := by
  rw [toD_tup]
  exact e_ltxt_of (lf_look o) (lf_tl o) (wd_len o) (its_len o) (its_fine hn v s)
theorem e_pins {o : Op} (v : Vd n o) (s : SmO o) : F_parse_instruction [.sh (.str (txO o))] = .ok (.rt (toD o)) [.sh (.str (txO o))] := by
  have hi := e_isin hn v
  rw [toD_tup] at hi ⊢
  refine e_pins_of (fm_look o) (fm_tl o) (wd_len o) (its_len o) (its_fine hn v s) (w32 o) ?_
  cases o with
  | jmp f t =>
    refine .inr ⟨by kernel_rfl, t, [.int f], rfl, v.2.1, rfl, rfl, ?_⟩
    exact e_isin (n := 200) (by omega) (o := .jmp f 0) ⟨v.1, by omega, by omega⟩
  | gto t =>
    refine .inr ⟨by kernel_rfl, t, [], rfl, v.1, rfl, rfl, ?_⟩
    exact e_isin (n := 200) (by omega) (o := .gto 0) ⟨by omega, by omega⟩
  | _ => exact .inl ⟨by kernel_rfl, hi⟩
theorem sg_txO {s : Nat} (h : (s < 32 ∨ 57 < s) ∧ s < 97) {o : Op} (v : Vd n o) (q : SmO o) : s ∉ tl (txO o) := by
  refine mem_join (by rw [tl_sp]; simp; omega) ?_
  intro z hz
  rcases List.mem_cons.mp hz with rfl | hz
  · exact fun m => by have := wd_low o s m; omega
  · obtain ⟨p, hp, rfl⟩ := List.mem_map.mp hz
    exact sg_itx (by omega) (its_fine hn v q p hp).1 (by omega)
theorem len_txO {o : Op} (v : Vd n o) (q : SmO o) : (txO o).length ≤ 1015 := txt_len (wd_len o) (its_len o) (its_fine hn v q)
end
end LW

set_option Elab.async false
set_option linter.all false
set_option maxRecDepth 100000
set_option maxHeartbeats 1000000
namespace LW
open PySem L2 DL PyProof.Rows
open TL (tl)
theorem eqB_nil {ds : List D} (h : ∀ d ∈ ds, Dt 60 d) : eqB (.lst ds) (.lst []) = some (decide (ds = [])) := by
  obtain ⟨x, h1, h2, h3⟩ := dt_lst h
  obtain ⟨ps, q1, q2, q3⟩ := dt_all h
  have e1 : toPD (.lst ds) = some (.list ps) := by rw [toPD, q1]; rfl
  rw [e1] at h1
  cases h1
  have s : SeqAt.shaped (.list ps) = true := by
    unfold SeqAt.shaped
    rw [h2, Bool.true_and]
    exact decide_eq_true (by omega)
  have s0 : SeqAt.shaped (.list []) = true := by decide +kernel
  have e0 : toPD (.lst []) = some (.list []) := rfl
  unfold eqB
  rw [e1, e0]
  dsimp only
  rw [if_pos ⟨s, s0⟩]
  cases ds with
  | nil => cases q1; rfl
  | cons d ds =>
    cases ps with
    | nil => simp only [toPDs] at q1; split at q1 <;> cases q1
    | cons p ps => rfl
theorem strOk_of {z : Str} (h : ∀ c ∈ tl z, c < 1114112) : PyData.strOk z = true := by
  unfold PyData.strOk
  rw [← Array.all_toList, List.all_eq_true]
  intro c hc
  exact decide_eq_true (h c hc)
theorem itx_low {p : Nat × Int} (hk : Kd p.1) : ∀ c ∈ tl (itx p), c < 1114112 := by
  have hn : ∀ c ∈ tl (nS p.2), c < 1114112 := by
    cases p.2 with
    | ofNat n =>
      rw [show tl (nS (Int.ofNat n)) = TL.numL n from tl_nS n]
      intro c hc
      have := TL.numL_digits n c hc
      omega
    | negSucc n =>
      rw [tl_neg]
      intro c hc
      rcases List.mem_cons.mp hc with rfl | hc
      · omega
      · have := TL.numL_digits (n + 1) c hc
        omega
  unfold itx
  split
  · rw [TL.tl_append]
    intro c hc
    rcases List.mem_append.mp hc with hc | hc
    · rw [tl_kS, List.mem_singleton] at hc
      unfold Kd at hk
      omega
    · exact hn c hc
  · exact hn
theorem eq_its {ps : List (Nat × Int)} (hne : ps ≠ []) (h : ∀ p ∈ ps, Kd p.1) : eqB (.lst (ps.map fun p => .str (itx p))) (.lst []) = some false := by
  rw [eqB_nil]
  · cases ps with
    | nil => exact absurd rfl hne
    | cons p ps => simp
  · intro d hd
    obtain ⟨p, hp, rfl⟩ := List.mem_map.mp hd
    exact dt_str _ _ (by simp only [PyData.canLay0]; exact strOk_of (itx_low (h p hp)))
theorem all_false {α : Type} {ps : List α} (h : ps ≠ []) : allD [.lst (ps.map fun _ => .bl false)] = some (.bl false) := by
  have : (ps.map fun _ => D.bl false) = (ps.map fun _ => false).map D.bl := by rw [List.map_map]; rfl
  rw [this]
  show (asBls _).map _ = _
  rw [asBls_map, Option.map_some]
  cases ps with
  | nil => exact absurd rfl h
  | cons p ps => rfl
theorem e_isname {n : Nat} (h : (TL.numL n).length ≤ 8) : F_is_name [.sh (.str (nS n))] = .ok (.rt (.bl false)) [.sh (.str (nS n))] := by
  have ha := tl_nS n
  generalize nS (n : Int) = a at ha ⊢
  have hlen : a.length = (TL.numL n).length := by rw [TL.len_tl, ha]
  have h1 : 1 ≤ (a.length : Int) := by
    rw [hlen]
    have := List.length_pos_iff.mpr (TL.numL_ne n)
    omega
  have h2 : (a.length : Int) ≤ 8 := by omega
  have hs : small a.length = true := decide_eq_true (by omega)
  refine fn_rt rfl (e := [.sh (.str a), .no]) ?_ rfl
  have hQ : c_is_name_1 [.sh (.str a), .no] = .ok (.lst ((tl a).map fun _ => .bl false)) [.sh (.str a), .no] := by
    refine mLc_map (os := tl a) (gi := fun c => .str ⟨#[c]⟩) (go := fun _ => .bl false) (y := .no) (by simp only [DL.bnd, DL.ret, DL.lft, mVar, mCons, mNil, mCallA, callA, callAF, callB, mCallAF, mCallB, mBin, mUn, mB, mTru, truD, mNot, mAnd, mOr, mBv, mIf, mCb, mChain, mTup, mLst, sSeq, sNx, sIf, sRet, sRetF, sDrop, sSet, sSetF, sto_np, npAt, np_sh, np_ow, np_no, cm_sh, cm_no, DL.nox, fnM, DL.run,
  frz, full_lst, full_ins, nmN, DL.own, mdf, Sl.put, Sl.mut, Option.bind, cmpD, ltD, leD, gtD, geD, addD, subD, negD, modD, mMakF, mkA, sFldS, putD, fldD, mBinO, mOpO, mCmpO, mEqO, mUnO, mLenO, mSubO, mIxO, mPrp, cand_int, cand_tup, cand_lst, cand_scr, cand_str, cand_bl, cand_non, cand_ins, look0, okY_ii, okY_int, sameC_ii, mCmpG, mEqG, okE_n, okE_01, okE_int, okE_bl, okE_str, okE_non, look1, look01, look10, mTruO, mBlO, sParX, xS, xO, xNil, stoX_cons, stoX_nil, It.sl, zip2, zip3, blD, lenD, eqD, neD, Option.map_some, eqB_int,
  List.map, List.length_cons, List.length_nil, List.getElem?_cons_zero, List.getElem?_cons_succ, List.set_cons_zero, List.set_cons_succ, List.append, List.cons_append, List.nil_append, List.replicate, List.take, Nat.reduceAdd, Nat.reduceSub, Bool.not_true, Bool.not_false, decide_true, decide_false, beq_self_eq_true, bne_self_eq_false, Bool.false_eq_true, reduceIte, ↓reduceIte, lkk, lkn, lk0, Nat.reduceBEq, iItm, itemsD]) rfl rfl (by rw [← TL.len_tl]; exact hs) fun c hc => ?_
    have := dig_out (c := c) (by rw [ha] at hc; have := TL.numL_digits n c hc; omega)
    simp only [DL.bnd, DL.ret, DL.lft, mVar, mCons, mNil, mCallA, callA, callAF, callB, mCallAF, mCallB, mBin, mUn, mB, mTru, truD, mNot, mAnd, mOr, mBv, mIf, mCb, mChain, mTup, mLst, sSeq, sNx, sIf, sRet, sRetF, sDrop, sSet, sSetF, sto_np, npAt, np_sh, np_ow, np_no, cm_sh, cm_no, DL.nox, fnM, DL.run,
  frz, full_lst, full_ins, nmN, DL.own, mdf, Sl.put, Sl.mut, Option.bind, cmpD, ltD, leD, gtD, geD, addD, subD, negD, modD, mMakF, mkA, sFldS, putD, fldD, mBinO, mOpO, mCmpO, mEqO, mUnO, mLenO, mSubO, mIxO, mPrp, cand_int, cand_tup, cand_lst, cand_scr, cand_str, cand_bl, cand_non, cand_ins, look0, okY_ii, okY_int, sameC_ii, mCmpG, mEqG, okE_n, okE_01, okE_int, okE_bl, okE_str, okE_non, look1, look01, look10, mTruO, mBlO, sParX, xS, xO, xNil, stoX_cons, stoX_nil, It.sl, zip2, zip3, blD, lenD, eqD, neD, Option.map_some, eqB_int,
  List.map, List.length_cons, List.length_nil, List.getElem?_cons_zero, List.getElem?_cons_succ, List.set_cons_zero, List.set_cons_succ, List.append, List.cons_append, List.nil_append, List.replicate, List.take, Nat.reduceAdd, Nat.reduceSub, Bool.not_true, Bool.not_false, decide_true, decide_false, beq_self_eq_true, bne_self_eq_false, Bool.false_eq_true, reduceIte, ↓reduceIte, lkk, lkn, lk0, Nat.reduceBEq, this]
  have hA := all_false (ps := tl a) (by rw [ha]; exact TL.numL_ne n)
  unfold m_is_name
  generalize c_is_name_1 = Q at hQ ⊢
  simp only [DL.bnd, DL.ret, DL.lft, mVar, mCons, mNil, mCallA, callA, callAF, callB, mCallAF, mCallB, mBin, mUn, mB, mTru, truD, mNot, mAnd, mOr, mBv, mIf, mCb, mChain, mTup, mLst, sSeq, sNx, sIf, sRet, sRetF, sDrop, sSet, sSetF, sto_np, npAt, np_sh, np_ow, np_no, cm_sh, cm_no, DL.nox, fnM, DL.run,
  frz, full_lst, full_ins, nmN, DL.own, mdf, Sl.put, Sl.mut, Option.bind, cmpD, ltD, leD, gtD, geD, addD, subD, negD, modD, mMakF, mkA, sFldS, putD, fldD, mBinO, mOpO, mCmpO, mEqO, mUnO, mLenO, mSubO, mIxO, mPrp, cand_int, cand_tup, cand_lst, cand_scr, cand_str, cand_bl, cand_non, cand_ins, look0, okY_ii, okY_int, sameC_ii, mCmpG, mEqG, okE_n, okE_01, okE_int, okE_bl, okE_str, okE_non, look1, look01, look10, mTruO, mBlO, sParX, xS, xO, xNil, stoX_cons, stoX_nil, It.sl, zip2, zip3, blD, lenD, eqD, neD, Option.map_some, eqB_int,
  List.map, List.length_cons, List.length_nil, List.getElem?_cons_zero, List.getElem?_cons_succ, List.set_cons_zero, List.set_cons_succ, List.append, List.cons_append, List.nil_append, List.replicate, List.take, Nat.reduceAdd, Nat.reduceSub, Bool.not_true, Bool.not_false, decide_true, decide_false, beq_self_eq_true, bne_self_eq_false, Bool.false_eq_true, reduceIte, ↓reduceIte, lkk, lkn, lk0, Nat.reduceBEq, isi_str, cd_str, lenD, hs, h1, h2, hQ, hA]
section
variable {n : Int} (hn : n ≤ 200)
include hn
theorem e_named {o : Op} (v : Vd n o) (s : SmO o) : F_named_target [.sh (.str (txO o))] = .ok (.rt (.tup [.str (txO o), .non])) [.sh (.str (txO o))] := by
  have hsp : splitS (txO o) (.str " ") = _ := txt_split (wd_len o) (its_len o) (its_fine hn v s) (w32 o)
  generalize txO o = t at hsp ⊢
  have fin : ∀ {e : En}, e[0]? = some (.sh (.str t)) → sRet (mTup (mCons (mVar 0) (mCons (DL.ret .non) mNil))) e = .ok (.rt (.tup [.str t, .non])) e := fun {e} he => by
    simp only [DL.bnd, DL.ret, DL.lft, mVar, mCons, mNil, mCallA, callA, callAF, callB, mCallAF, mCallB, mBin, mUn, mB, mTru, truD, mNot, mAnd, mOr, mBv, mIf, mCb, mChain, mTup, mLst, sSeq, sNx, sIf, sRet, sRetF, sDrop, sSet, sSetF, sto_np, npAt, np_sh, np_ow, np_no, cm_sh, cm_no, DL.nox, fnM, DL.run,
  frz, full_lst, full_ins, nmN, DL.own, mdf, Sl.put, Sl.mut, Option.bind, cmpD, ltD, leD, gtD, geD, addD, subD, negD, modD, mMakF, mkA, sFldS, putD, fldD, mBinO, mOpO, mCmpO, mEqO, mUnO, mLenO, mSubO, mIxO, mPrp, cand_int, cand_tup, cand_lst, cand_scr, cand_str, cand_bl, cand_non, cand_ins, look0, okY_ii, okY_int, sameC_ii, mCmpG, mEqG, okE_n, okE_01, okE_int, okE_bl, okE_str, okE_non, look1, look01, look10, mTruO, mBlO, sParX, xS, xO, xNil, stoX_cons, stoX_nil, It.sl, zip2, zip3, blD, lenD, eqD, neD, Option.map_some, eqB_int,
  List.map, List.length_cons, List.length_nil, List.getElem?_cons_zero, List.getElem?_cons_succ, List.set_cons_zero, List.set_cons_succ, List.append, List.cons_append, List.nil_append, List.replicate, List.take, Nat.reduceAdd, Nat.reduceSub, Bool.not_true, Bool.not_false, decide_true, decide_false, beq_self_eq_true, bne_self_eq_false, Bool.false_eq_true, reduceIte, ↓reduceIte, lkk, lkn, lk0, Nat.reduceBEq, he, sm2]
  have num : ∀ {x : Int}, 0 ≤ x → x ≤ 200 → F_is_name [.sh (.str (itx (116, x)))] = .ok (.rt (.bl false)) [.sh (.str (itx (116, x)))] := fun {x} h0 h1 => by
    obtain ⟨k, rfl⟩ := Int.eq_ofNat_of_zero_le h0
    exact e_isname (Nat.le_trans (TL.numL_len (k := 3) (by omega) (by omega)) (by omega))
  have go : ∀ X, (its o).map (fun p => D.str (itx p)) = X → F_named_target [.sh (.str t)] = .ok (.rt (.tup [.str t, .non])) [.sh (.str t)] := fun X hX => by
    rw [hX] at hsp
    have hfull : full (.lst (.str (wd o) :: X)) = true := rfl
    refine fn_rt rfl (e := [.sh (.str t), .sh (.str (wd o)), .sh (.lst X)]) ?_ rfl
    show m_named_target [.sh (.str t), .no, .no] = _
    unfold m_named_target
    rw [seq_nx (asg_ok (d := .lst (.str (wd o) :: X)) (e1 := [.sh (.str t), .no, .no]) (by simp only [DL.bnd, DL.ret, DL.lft, mVar, mCons, mNil, mCallA, callA, callAF, callB, mCallAF, mCallB, mBin, mUn, mB, mTru, truD, mNot, mAnd, mOr, mBv, mIf, mCb, mChain, mTup, mLst, sSeq, sNx, sIf, sRet, sRetF, sDrop, sSet, sSetF, sto_np, npAt, np_sh, np_ow, np_no, cm_sh, cm_no, DL.nox, fnM, DL.run,
  frz, full_lst, full_ins, nmN, DL.own, mdf, Sl.put, Sl.mut, Option.bind, cmpD, ltD, leD, gtD, geD, addD, subD, negD, modD, mMakF, mkA, sFldS, putD, fldD, mBinO, mOpO, mCmpO, mEqO, mUnO, mLenO, mSubO, mIxO, mPrp, cand_int, cand_tup, cand_lst, cand_scr, cand_str, cand_bl, cand_non, cand_ins, look0, okY_ii, okY_int, sameC_ii, mCmpG, mEqG, okE_n, okE_01, okE_int, okE_bl, okE_str, okE_non, look1, look01, look10, mTruO, mBlO, sParX, xS, xO, xNil, stoX_cons, stoX_nil, It.sl, zip2, zip3, blD, lenD, eqD, neD, Option.map_some, eqB_int,
  List.map, List.length_cons, List.length_nil, List.getElem?_cons_zero, List.getElem?_cons_succ, List.set_cons_zero, List.set_cons_succ, List.append, List.cons_append, List.nil_append, List.replicate, List.take, Nat.reduceAdd, Nat.reduceSub, Bool.not_true, Bool.not_false, decide_true, decide_false, beq_self_eq_true, bne_self_eq_false, Bool.false_eq_true, reduceIte, ↓reduceIte, lkk, lkn, lk0, Nat.reduceBEq, mM1, hsp, hfull]) (show _ = some [.sh (.str t), .sh (.str (wd o)), .sh (.lst X)] from rfl))]
    rw [seq_nx (e1 := [.sh (.str t), .sh (.str (wd o)), .sh (.lst X)])]
    · exact fin rfl
    · refine if_no2 ?_
      cases o with
      | jmp f x =>
        have hx := num v.2.1 (Int.le_trans v.2.2 hn)
        have hi : inD false (.str (wd (.jmp f x))) JG = some (.bl true) := by kernel_rfl
        subst hX
        have i0 : ixD (.lst ((its (.jmp f x)).map fun p => D.str (itx p))) (.int (-1)) = some (.str (itx (116, x))) := rfl
        have q0 : eqB (.lst ((its (.jmp f x)).map fun p => D.str (itx p))) (.lst []) = some false := eq_its (by simp [its]) fun p hp => (its_fine hn v s p hp).1
        generalize ((its (.jmp f x)).map fun p => D.str (itx p)) = X at i0 q0 ⊢
        generalize wd (.jmp f x) = w at hi ⊢
        simp only [DL.bnd, DL.ret, DL.lft, mVar, mCons, mNil, mCallA, callA, callAF, callB, mCallAF, mCallB, mBin, mUn, mB, mTru, truD, mNot, mAnd, mOr, mBv, mIf, mCb, mChain, mTup, mLst, sSeq, sNx, sIf, sRet, sRetF, sDrop, sSet, sSetF, sto_np, npAt, np_sh, np_ow, np_no, cm_sh, cm_no, DL.nox, fnM, DL.run,
  frz, full_lst, full_ins, nmN, DL.own, mdf, Sl.put, Sl.mut, Option.bind, cmpD, ltD, leD, gtD, geD, addD, subD, negD, modD, mMakF, mkA, sFldS, putD, fldD, mBinO, mOpO, mCmpO, mEqO, mUnO, mLenO, mSubO, mIxO, mPrp, cand_int, cand_tup, cand_lst, cand_scr, cand_str, cand_bl, cand_non, cand_ins, look0, okY_ii, okY_int, sameC_ii, mCmpG, mEqG, okE_n, okE_01, okE_int, okE_bl, okE_str, okE_non, look1, look01, look10, mTruO, mBlO, sParX, xS, xO, xNil, stoX_cons, stoX_nil, It.sl, zip2, zip3, blD, lenD, eqD, neD, Option.map_some, eqB_int,
  List.map, List.length_cons, List.length_nil, List.getElem?_cons_zero, List.getElem?_cons_succ, List.set_cons_zero, List.set_cons_succ, List.append, List.cons_append, List.nil_append, List.replicate, List.take, Nat.reduceAdd, Nat.reduceSub, Bool.not_true, Bool.not_false, decide_true, decide_false, beq_self_eq_true, bne_self_eq_false, Bool.false_eq_true, reduceIte, ↓reduceIte, lkk, lkn, lk0, Nat.reduceBEq, sm0, sm2, hi, cd_lst, cd_str, q0, i0, hx]
      | gto x =>
        have hx := num v.1 (Int.le_trans v.2 hn)
        have hi : inD false (.str (wd (.gto x))) JG = some (.bl true) := by kernel_rfl
        subst hX
        have i0 : ixD (.lst ((its (.gto x)).map fun p => D.str (itx p))) (.int (-1)) = some (.str (itx (116, x))) := rfl
        have q0 : eqB (.lst ((its (.gto x)).map fun p => D.str (itx p))) (.lst []) = some false := eq_its (by simp [its]) fun p hp => (its_fine hn v s p hp).1
        generalize ((its (.gto x)).map fun p => D.str (itx p)) = X at i0 q0 ⊢
        generalize wd (.gto x) = w at hi ⊢
        simp only [DL.bnd, DL.ret, DL.lft, mVar, mCons, mNil, mCallA, callA, callAF, callB, mCallAF, mCallB, mBin, mUn, mB, mTru, truD, mNot, mAnd, mOr, mBv, mIf, mCb, mChain, mTup, mLst, sSeq, sNx, sIf, sRet, sRetF, sDrop, sSet, sSetF, sto_np, npAt, np_sh, np_ow, np_no, cm_sh, cm_no, DL.nox, fnM, DL.run,
  frz, full_lst, full_ins, nmN, DL.own, mdf, Sl.put, Sl.mut, Option.bind, cmpD, ltD, leD, gtD, geD, addD, subD, negD, modD, mMakF, mkA, sFldS, putD, fldD, mBinO, mOpO, mCmpO, mEqO, mUnO, mLenO, mSubO, mIxO, mPrp, cand_int, cand_tup, cand_lst, cand_scr, cand_str, cand_bl, cand_non, cand_ins, look0, okY_ii, okY_int, sameC_ii, mCmpG, mEqG, okE_n, okE_01, okE_int, okE_bl, okE_str, okE_non, look1, look01, look10, mTruO, mBlO, sParX, xS, xO, xNil, stoX_cons, stoX_nil, It.sl, zip2, zip3, blD, lenD, eqD, neD, Option.map_some, eqB_int,
  List.map, List.length_cons, List.length_nil, List.getElem?_cons_zero, List.getElem?_cons_succ, List.set_cons_zero, List.set_cons_succ, List.append, List.cons_append, List.nil_append, List.replicate, List.take, Nat.reduceAdd, Nat.reduceSub, Bool.not_true, Bool.not_false, decide_true, decide_false, beq_self_eq_true, bne_self_eq_false, Bool.false_eq_true, reduceIte, ↓reduceIte, lkk, lkn, lk0, Nat.reduceBEq, sm0, sm2, hi, cd_lst, cd_str, q0, i0, hx]
      | _ =>
        generalize hw : wd _ = w
        have hi : inD false (.str w) JG = some (.bl false) := by rw [← hw]; kernel_rfl
        simp only [DL.bnd, DL.ret, DL.lft, mVar, mCons, mNil, mCallA, callA, callAF, callB, mCallAF, mCallB, mBin, mUn, mB, mTru, truD, mNot, mAnd, mOr, mBv, mIf, mCb, mChain, mTup, mLst, sSeq, sNx, sIf, sRet, sRetF, sDrop, sSet, sSetF, sto_np, npAt, np_sh, np_ow, np_no, cm_sh, cm_no, DL.nox, fnM, DL.run,
  frz, full_lst, full_ins, nmN, DL.own, mdf, Sl.put, Sl.mut, Option.bind, cmpD, ltD, leD, gtD, geD, addD, subD, negD, modD, mMakF, mkA, sFldS, putD, fldD, mBinO, mOpO, mCmpO, mEqO, mUnO, mLenO, mSubO, mIxO, mPrp, cand_int, cand_tup, cand_lst, cand_scr, cand_str, cand_bl, cand_non, cand_ins, look0, okY_ii, okY_int, sameC_ii, mCmpG, mEqG, okE_n, okE_01, okE_int, okE_bl, okE_str, okE_non, look1, look01, look10, mTruO, mBlO, sParX, xS, xO, xNil, stoX_cons, stoX_nil, It.sl, zip2, zip3, blD, lenD, eqD, neD, Option.map_some, eqB_int,
  List.map, List.length_cons, List.length_nil, List.getElem?_cons_zero, List.getElem?_cons_succ, List.set_cons_zero, List.set_cons_succ, List.append, List.cons_append, List.nil_append, List.replicate, List.take, Nat.reduceAdd, Nat.reduceSub, Bool.not_true, Bool.not_false, decide_true, decide_false, beq_self_eq_true, bne_self_eq_false, Bool.false_eq_true, reduceIte, ↓reduceIte, lkk, lkn, lk0, Nat.reduceBEq, sm2, hi]
  exact go _ rfl
omit hn in
theorem end_no {a b : Str} {s : Nat} (hb : tl b = [s]) (h : s ∉ tl a) : Txt.endswith a b = false := by
  rcases List.eq_nil_or_concat (tl a) with e | ⟨r, c, e⟩
  · rw [end_tl, hb, e]
    rfl
  · rw [List.concat_eq_append] at e
    rw [end1 hb e, decide_eq_false]
    rintro rfl
    rw [e] at h
    simp at h
theorem no_colon {o : Op} (v : Vd n o) (s : SmO o) : endS (txO o) (.str ":") = some (.bl false) := by
  show some (D.bl (Txt.endswith _ _)) = _
  rw [end_no (s := 58) (by kernel_rfl) (sg_txO hn (by omega) v s)]
end
end LW

set_option Elab.async false
set_option linter.all false
set_option maxRecDepth 100000
set_option maxHeartbeats 1000000
namespace LW
open PySem L2 DL PyProof.Rows
open TL (tl)
/-! the text of a program -/
def ptx (os : List Op) : Str := Txt.join "\n" (os.map txO)
theorem tl_nl : tl ("\n" : Str) = [10] := by kernel_rfl
theorem cdP (L : Fm) (xs : List Op) : cand [(2, L)] (Pg xs) = some L := rfl
theorem e_pmake {xs : List Op} (hv : VL xs) (hl : xs.length ≤ 200) (env : En) : mkA F_Program_init 2 [.lst (xs.map toD)] env = .ok (Pg xs) env := by
  have h := e_pinit hv hl
  generalize xs.map toD = X at h ⊢
  simp only [DL.bnd, DL.ret, DL.lft, mVar, mCons, mNil, mCallA, callA, callAF, callB, mCallAF, mCallB, mBin, mUn, mB, mTru, truD, mNot, mAnd, mOr, mBv, mIf, mCb, mChain, mTup, mLst, sSeq, sNx, sIf, sRet, sRetF, sDrop, sSet, sSetF, sto_np, npAt, np_sh, np_ow, np_no, cm_sh, cm_no, DL.nox, fnM, DL.run,
  frz, full_lst, full_ins, nmN, DL.own, mdf, Sl.put, Sl.mut, Option.bind, cmpD, ltD, leD, gtD, geD, addD, subD, negD, modD, mMakF, mkA, sFldS, putD, fldD, mBinO, mOpO, mCmpO, mEqO, mUnO, mLenO, mSubO, mIxO, mPrp, cand_int, cand_tup, cand_lst, cand_scr, cand_str, cand_bl, cand_non, cand_ins, look0, okY_ii, okY_int, sameC_ii, mCmpG, mEqG, okE_n, okE_01, okE_int, okE_bl, okE_str, okE_non, look1, look01, look10, mTruO, mBlO, sParX, xS, xO, xNil, stoX_cons, stoX_nil, It.sl, zip2, zip3, blD, lenD, eqD, neD, Option.map_some, eqB_int,
  List.map, List.length_cons, List.length_nil, List.getElem?_cons_zero, List.getElem?_cons_succ, List.set_cons_zero, List.set_cons_succ, List.append, List.cons_append, List.nil_append, List.replicate, List.take, Nat.reduceAdd, Nat.reduceSub, Bool.not_true, Bool.not_false, decide_true, decide_false, beq_self_eq_true, bne_self_eq_false, Bool.false_eq_true, reduceIte, ↓reduceIte, lkk, lkn, lk0, Nat.reduceBEq, h]
theorem e_punit {xs : List Op} (hv : VL xs) (hl : xs.length ≤ 200) {m : M D} {env e1 : En} (hm : m env = .ok (.lst (xs.map toD)) e1) : frz (mMakF F_Program_init 2 [] (mCons m mNil)) env = .ok (Pg xs) e1 := by
  have h := e_pmake hv hl e1
  have hf : full (Pg xs) = true := rfl
  simp only [frz, mMakF, mCons, mNil, DL.bnd, DL.ret, hm, List.append_nil, h, hf, if_true]
section
variable {xs : List Op} (hv : VL xs) (hl : xs.length ≤ 200) (hs : ∀ o ∈ xs, SmO o)
include hv hl hs
theorem len_at : ∀ z ∈ xs.map txO, z.length ≤ 1015 := by
  intro z hz
  obtain ⟨o, ho, rfl⟩ := List.mem_map.mp hz
  exact len_txO (n := (xs.length : Int)) (by omega) (hv o ho) (hs o ho)
theorem ptx_join : joinS "\n" (.lst (xs.map fun o => .str (txO o))) = some (.str (ptx xs)) := by
  have e : (xs.map fun o => D.str (txO o)) = (xs.map txO).map .str := by rw [List.map_map]; rfl
  rw [e]
  refine join_ok (decide_eq_true ?_)
  have h := sumL (len_at hv hl hs)
  have e : ("\n" : Str).length = 1 := rfl
  rw [List.length_map] at h ⊢
  rw [e]
  have : xs.length * 1015 ≤ 200 * 1015 := Nat.mul_le_mul_right _ hl
  omega
theorem ptx_len : (ptx xs).length ≤ 203200 := by
  have h := len_join (y := "\n") (len_at hv hl hs)
  have e : ("\n" : Str).length = 1 := rfl
  rw [List.length_map, e] at h
  have : xs.length * (1015 + 1) ≤ 200 * (1015 + 1) := Nat.mul_le_mul_right _ hl
  exact Nat.le_trans h this
theorem ptx_split (hne : xs ≠ []) : splitS (ptx xs) (.str "\n") = some (.lst (xs.map fun o => .str (txO o))) := by
  have e : (xs.map fun o => D.str (txO o)) = (xs.map txO).map .str := by rw [List.map_map]; rfl
  rw [e]
  refine split_ok tl_nl (by omega) rfl (by simpa using hne) ?_ (decide_eq_true (by have := ptx_len hv hl hs; omega))
  intro z hz
  obtain ⟨o, ho, rfl⟩ := List.mem_map.mp hz
  exact sg_txO (n := (xs.length : Int)) (by omega) (by omega) (hv o ho) (hs o ho)
omit hv hl hs in
theorem joinL_ne {S p : List Nat} {ps : List (List Nat)} (h : p ≠ []) : TL.joinL S (p :: ps) ≠ [] := by
  cases ps with
  | nil => exact h
  | cons q r => simp [TL.joinL, h]
omit hv hl hs in
theorem txO_ne (o : Op) : tl (txO o) ≠ [] := by
  unfold txO txt
  rw [TL.join_eq, TL.tl_join, List.map_cons]
  refine joinL_ne fun h => ?_
  have h1 : 1 ≤ (wd o).length := by cases o <;> exact of_decide_eq_true (by kernel_rfl)
  rw [TL.len_tl, h] at h1
  exact absurd h1 (by decide)
omit hv hl hs in
theorem ptx_ne (h : xs ≠ []) : ptx xs ≠ "" := by
  intro e
  have e2 : tl (ptx xs) = [] := by rw [e]; rfl
  cases xs with
  | nil => exact h rfl
  | cons o xs =>
    unfold ptx at e2
    rw [TL.join_eq, TL.tl_join, List.map_cons, List.map_cons] at e2
    exact joinL_ne (txO_ne o) e2
theorem e_fprog : F_format_program [.sh (Pg xs)] = .ok (.rt (.str (ptx xs))) [.sh (Pg xs)] := by
  have hi := e_ins xs
  have hQ : c_format_program_1 [.sh (Pg xs), .no] = .ok (.lst (xs.map fun o => .str (txO o))) [.sh (Pg xs), .no] := by
    refine mLc_map (os := xs) (gi := toD) (go := fun o => .str (txO o)) (y := .no) ?_ rfl rfl (decide_eq_true (by omega)) fun o ho => ?_
    · have hc := cdP F_Program_instructions xs
      generalize Pg xs = P at hi hc ⊢
      simp only [DL.bnd, DL.ret, DL.lft, mVar, mCons, mNil, mCallA, callA, callAF, callB, mCallAF, mCallB, mBin, mUn, mB, mTru, truD, mNot, mAnd, mOr, mBv, mIf, mCb, mChain, mTup, mLst, sSeq, sNx, sIf, sRet, sRetF, sDrop, sSet, sSetF, sto_np, npAt, np_sh, np_ow, np_no, cm_sh, cm_no, DL.nox, fnM, DL.run,
  frz, full_lst, full_ins, nmN, DL.own, mdf, Sl.put, Sl.mut, Option.bind, cmpD, ltD, leD, gtD, geD, addD, subD, negD, modD, mMakF, mkA, sFldS, putD, fldD, mBinO, mOpO, mCmpO, mEqO, mUnO, mLenO, mSubO, mIxO, mPrp, cand_int, cand_tup, cand_lst, cand_scr, cand_str, cand_bl, cand_non, cand_ins, look0, okY_ii, okY_int, sameC_ii, mCmpG, mEqG, okE_n, okE_01, okE_int, okE_bl, okE_str, okE_non, look1, look01, look10, mTruO, mBlO, sParX, xS, xO, xNil, stoX_cons, stoX_nil, It.sl, zip2, zip3, blD, lenD, eqD, neD, Option.map_some, eqB_int,
  List.map, List.length_cons, List.length_nil, List.getElem?_cons_zero, List.getElem?_cons_succ, List.set_cons_zero, List.set_cons_succ, List.append, List.cons_append, List.nil_append, List.replicate, List.take, Nat.reduceAdd, Nat.reduceSub, Bool.not_true, Bool.not_false, decide_true, decide_false, beq_self_eq_true, bne_self_eq_false, Bool.false_eq_true, reduceIte, ↓reduceIte, lkk, lkn, lk0, Nat.reduceBEq, iItm, mPrp, hc, hi, itemsD]
    · have := e_fins (n := (xs.length : Int)) (by omega) (hv o ho) (hs o ho)
      simp only [DL.bnd, DL.ret, DL.lft, mVar, mCons, mNil, mCallA, callA, callAF, callB, mCallAF, mCallB, mBin, mUn, mB, mTru, truD, mNot, mAnd, mOr, mBv, mIf, mCb, mChain, mTup, mLst, sSeq, sNx, sIf, sRet, sRetF, sDrop, sSet, sSetF, sto_np, npAt, np_sh, np_ow, np_no, cm_sh, cm_no, DL.nox, fnM, DL.run,
  frz, full_lst, full_ins, nmN, DL.own, mdf, Sl.put, Sl.mut, Option.bind, cmpD, ltD, leD, gtD, geD, addD, subD, negD, modD, mMakF, mkA, sFldS, putD, fldD, mBinO, mOpO, mCmpO, mEqO, mUnO, mLenO, mSubO, mIxO, mPrp, cand_int, cand_tup, cand_lst, cand_scr, cand_str, cand_bl, cand_non, cand_ins, look0, okY_ii, okY_int, sameC_ii, mCmpG, mEqG, okE_n, okE_01, okE_int, okE_bl, okE_str, okE_non, look1, look01, look10, mTruO, mBlO, sParX, xS, xO, xNil, stoX_cons, stoX_nil, It.sl, zip2, zip3, blD, lenD, eqD, neD, Option.map_some, eqB_int,
  List.map, List.length_cons, List.length_nil, List.getElem?_cons_zero, List.getElem?_cons_succ, List.set_cons_zero, List.set_cons_succ, List.append, List.cons_append, List.nil_append, List.replicate, List.take, Nat.reduceAdd, Nat.reduceSub, Bool.not_true, Bool.not_false, decide_true, decide_false, beq_self_eq_true, bne_self_eq_false, Bool.false_eq_true, reduceIte, ↓reduceIte, lkk, lkn, lk0, Nat.reduceBEq, this]
  have hj := ptx_join hv hl hs
  refine fn_rt rfl (e := [.sh (Pg xs), .no]) ?_ rfl
  unfold m_format_program
  generalize c_format_program_1 = Q at hQ ⊢
  generalize Pg xs = P at hQ ⊢
  simp only [DL.bnd, DL.ret, DL.lft, mVar, mCons, mNil, mCallA, callA, callAF, callB, mCallAF, mCallB, mBin, mUn, mB, mTru, truD, mNot, mAnd, mOr, mBv, mIf, mCb, mChain, mTup, mLst, sSeq, sNx, sIf, sRet, sRetF, sDrop, sSet, sSetF, sto_np, npAt, np_sh, np_ow, np_no, cm_sh, cm_no, DL.nox, fnM, DL.run,
  frz, full_lst, full_ins, nmN, DL.own, mdf, Sl.put, Sl.mut, Option.bind, cmpD, ltD, leD, gtD, geD, addD, subD, negD, modD, mMakF, mkA, sFldS, putD, fldD, mBinO, mOpO, mCmpO, mEqO, mUnO, mLenO, mSubO, mIxO, mPrp, cand_int, cand_tup, cand_lst, cand_scr, cand_str, cand_bl, cand_non, cand_ins, look0, okY_ii, okY_int, sameC_ii, mCmpG, mEqG, okE_n, okE_01, okE_int, okE_bl, okE_str, okE_non, look1, look01, look10, mTruO, mBlO, sParX, xS, xO, xNil, stoX_cons, stoX_nil, It.sl, zip2, zip3, blD, lenD, eqD, neD, Option.map_some, eqB_int,
  List.map, List.length_cons, List.length_nil, List.getElem?_cons_zero, List.getElem?_cons_succ, List.set_cons_zero, List.set_cons_succ, List.append, List.cons_append, List.nil_append, List.replicate, List.take, Nat.reduceAdd, Nat.reduceSub, Bool.not_true, Bool.not_false, decide_true, decide_false, beq_self_eq_true, bne_self_eq_false, Bool.false_eq_true, reduceIte, ↓reduceIte, lkk, lkn, lk0, Nat.reduceBEq, hQ, mM1, hj]
theorem e_lines : F_lines_of [.sh (.str (ptx xs))] = .ok (.rt (.lst (xs.map fun o => .str (txO o)))) [.sh (.str (ptx xs))] := by
  refine fn_rt rfl (e := [.sh (.str (ptx xs))]) ?_ rfl
  unfold m_lines_of
  by_cases c : xs = []
  · subst c
    have q : eqS true (.str (ptx [])) (.str "") = some (.bl false) := by kernel_rfl
    generalize ptx [] = t at q ⊢
    generalize eqS true = r at q ⊢
    simp only [DL.bnd, DL.ret, DL.lft, mVar, mCons, mNil, mCallA, callA, callAF, callB, mCallAF, mCallB, mBin, mUn, mB, mTru, truD, mNot, mAnd, mOr, mBv, mIf, mCb, mChain, mTup, mLst, sSeq, sNx, sIf, sRet, sRetF, sDrop, sSet, sSetF, sto_np, npAt, np_sh, np_ow, np_no, cm_sh, cm_no, DL.nox, fnM, DL.run,
  frz, full_lst, full_ins, nmN, DL.own, mdf, Sl.put, Sl.mut, Option.bind, cmpD, ltD, leD, gtD, geD, addD, subD, negD, modD, mMakF, mkA, sFldS, putD, fldD, mBinO, mOpO, mCmpO, mEqO, mUnO, mLenO, mSubO, mIxO, mPrp, cand_int, cand_tup, cand_lst, cand_scr, cand_str, cand_bl, cand_non, cand_ins, look0, okY_ii, okY_int, sameC_ii, mCmpG, mEqG, okE_n, okE_01, okE_int, okE_bl, okE_str, okE_non, look1, look01, look10, mTruO, mBlO, sParX, xS, xO, xNil, stoX_cons, stoX_nil, It.sl, zip2, zip3, blD, lenD, eqD, neD, Option.map_some, eqB_int,
  List.map, List.length_cons, List.length_nil, List.getElem?_cons_zero, List.getElem?_cons_succ, List.set_cons_zero, List.set_cons_succ, List.append, List.cons_append, List.nil_append, List.replicate, List.take, Nat.reduceAdd, Nat.reduceSub, Bool.not_true, Bool.not_false, decide_true, decide_false, beq_self_eq_true, bne_self_eq_false, Bool.false_eq_true, reduceIte, ↓reduceIte, lkk, lkn, lk0, Nat.reduceBEq, isi_str, cd_str, q, sm0]
    done
  · have q : eqS true (.str (ptx xs)) (.str "") = some (.bl true) := by
      show some (D.bl (decide (ptx xs = "") != true)) = _
      rw [decide_eq_false (ptx_ne c)]
      rfl
    have h := ptx_split hv hl hs c
    have hf : full (.lst (xs.map fun o => D.str (txO o))) = true := rfl
    generalize ptx xs = t at q h ⊢
    generalize eqS true = r at q ⊢
    simp only [DL.bnd, DL.ret, DL.lft, mVar, mCons, mNil, mCallA, callA, callAF, callB, mCallAF, mCallB, mBin, mUn, mB, mTru, truD, mNot, mAnd, mOr, mBv, mIf, mCb, mChain, mTup, mLst, sSeq, sNx, sIf, sRet, sRetF, sDrop, sSet, sSetF, sto_np, npAt, np_sh, np_ow, np_no, cm_sh, cm_no, DL.nox, fnM, DL.run,
  frz, full_lst, full_ins, nmN, DL.own, mdf, Sl.put, Sl.mut, Option.bind, cmpD, ltD, leD, gtD, geD, addD, subD, negD, modD, mMakF, mkA, sFldS, putD, fldD, mBinO, mOpO, mCmpO, mEqO, mUnO, mLenO, mSubO, mIxO, mPrp, cand_int, cand_tup, cand_lst, cand_scr, cand_str, cand_bl, cand_non, cand_ins, look0, okY_ii, okY_int, sameC_ii, mCmpG, mEqG, okE_n, okE_01, okE_int, okE_bl, okE_str, okE_non, look1, look01, look10, mTruO, mBlO, sParX, xS, xO, xNil, stoX_cons, stoX_nil, It.sl, zip2, zip3, blD, lenD, eqD, neD, Option.map_some, eqB_int,
  List.map, List.length_cons, List.length_nil, List.getElem?_cons_zero, List.getElem?_cons_succ, List.set_cons_zero, List.set_cons_succ, List.append, List.cons_append, List.nil_append, List.replicate, List.take, Nat.reduceAdd, Nat.reduceSub, Bool.not_true, Bool.not_false, decide_true, decide_false, beq_self_eq_true, bne_self_eq_false, Bool.false_eq_true, reduceIte, ↓reduceIte, lkk, lkn, lk0, Nat.reduceBEq, isi_str, cd_str, q, mM1, h, hf]
end
end LW

set_option Elab.async false
set_option linter.all false
set_option maxRecDepth 100000
set_option maxHeartbeats 1000000
namespace LW
open PySem L2 DL PyProof.Rows
open TL (tl)
theorem if_f {c : DL.M Bool} {A B : DL.S} {env e1 : En} (h : c env = .ok false e1) : sIf c A B env = B e1 := by
  simp only [sIf, DL.bnd, h, Bool.false_eq_true, if_false]
theorem isn_op (o : Op) : isND false (toD o) .non = some (.bl false) := by cases o <;> rfl
section
variable {n : Int} (hn : n ≤ 200)
include hn
theorem b_pp {T : D} {o : Op} (v : Vd n o) (s : SmO o) {k : Nat} {Y : List D} (hy : Y.length ≤ 1000) (x4 : Option D) :
    b_parse_program_1 [.sh T, .ow (.lst Y), .sh (.int (k : Int)), .sh (.str (txO o)), oS x4] = .ok .nx [.sh T, .ow (.lst (Y ++ [toD o])), .sh (.int (k : Int)), .sh (.str (txO o)), .sh (toD o)] := by
  have hp := e_pins hn v s
  have hi := isn_op o
  have hz : small (Y.length + 1) = true := decide_eq_true (by omega)
  generalize txO o = t at hp ⊢
  generalize toD o = d at hp hi ⊢
  unfold b_parse_program_1
  have h4 : np (oS x4) = true := by cases x4 <;> rfl
  rw [seq_nx (e1 := [.sh T, .ow (.lst Y), .sh (.int (k : Int)), .sh (.str t), .sh d]), seq_nx (if_no2 (by simp only [DL.bnd, DL.ret, DL.lft, mVar, mCons, mNil, mCallA, callA, callAF, callB, mCallAF, mCallB, mBin, mUn, mB, mTru, truD, mNot, mAnd, mOr, mBv, mIf, mCb, mChain, mTup, mLst, sSeq, sNx, sIf, sRet, sRetF, sDrop, sSet, sSetF, sto_np, npAt, np_sh, np_ow, np_no, cm_sh, cm_no, DL.nox, fnM, DL.run,
  frz, full_lst, full_ins, nmN, DL.own, mdf, Sl.put, Sl.mut, Option.bind, cmpD, ltD, leD, gtD, geD, addD, subD, negD, modD, mMakF, mkA, sFldS, putD, fldD, mBinO, mOpO, mCmpO, mEqO, mUnO, mLenO, mSubO, mIxO, mPrp, cand_int, cand_tup, cand_lst, cand_scr, cand_str, cand_bl, cand_non, cand_ins, look0, okY_ii, okY_int, sameC_ii, mCmpG, mEqG, okE_n, okE_01, okE_int, okE_bl, okE_str, okE_non, look1, look01, look10, mTruO, mBlO, sParX, xS, xO, xNil, stoX_cons, stoX_nil, It.sl, zip2, zip3, blD, lenD, eqD, neD, Option.map_some, eqB_int,
  List.map, List.length_cons, List.length_nil, List.getElem?_cons_zero, List.getElem?_cons_succ, List.set_cons_zero, List.set_cons_succ, List.append, List.cons_append, List.nil_append, List.replicate, List.take, Nat.reduceAdd, Nat.reduceSub, Bool.not_true, Bool.not_false, decide_true, decide_false, beq_self_eq_true, bne_self_eq_false, Bool.false_eq_true, reduceIte, ↓reduceIte, lkk, lkn, lk0, Nat.reduceBEq, hi]))]
  · exact (app_ow (xs := Y) (xs' := Y) (z := d) (e1 := [.sh T, .ow (.lst Y), .sh (.int (k : Int)), .sh (.str t), .sh d]) rfl (by simp only [DL.bnd, DL.ret, DL.lft, mVar, mCons, mNil, mCallA, callA, callAF, callB, mCallAF, mCallB, mBin, mUn, mB, mTru, truD, mNot, mAnd, mOr, mBv, mIf, mCb, mChain, mTup, mLst, sSeq, sNx, sIf, sRet, sRetF, sDrop, sSet, sSetF, sto_np, npAt, np_sh, np_ow, np_no, cm_sh, cm_no, DL.nox, fnM, DL.run,
  frz, full_lst, full_ins, nmN, DL.own, mdf, Sl.put, Sl.mut, Option.bind, cmpD, ltD, leD, gtD, geD, addD, subD, negD, modD, mMakF, mkA, sFldS, putD, fldD, mBinO, mOpO, mCmpO, mEqO, mUnO, mLenO, mSubO, mIxO, mPrp, cand_int, cand_tup, cand_lst, cand_scr, cand_str, cand_bl, cand_non, cand_ins, look0, okY_ii, okY_int, sameC_ii, mCmpG, mEqG, okE_n, okE_01, okE_int, okE_bl, okE_str, okE_non, look1, look01, look10, mTruO, mBlO, sParX, xS, xO, xNil, stoX_cons, stoX_nil, It.sl, zip2, zip3, blD, lenD, eqD, neD, Option.map_some, eqB_int,
  List.map, List.length_cons, List.length_nil, List.getElem?_cons_zero, List.getElem?_cons_succ, List.set_cons_zero, List.set_cons_succ, List.append, List.cons_append, List.nil_append, List.replicate, List.take, Nat.reduceAdd, Nat.reduceSub, Bool.not_true, Bool.not_false, decide_true, decide_false, beq_self_eq_true, bne_self_eq_false, Bool.false_eq_true, reduceIte, ↓reduceIte, lkk, lkn, lk0, Nat.reduceBEq]) rfl hz).trans rfl
  · simp only [DL.bnd, DL.ret, DL.lft, mVar, mCons, mNil, mCallA, callA, callAF, callB, mCallAF, mCallB, mBin, mUn, mB, mTru, truD, mNot, mAnd, mOr, mBv, mIf, mCb, mChain, mTup, mLst, sSeq, sNx, sIf, sRet, sRetF, sDrop, sSet, sSetF, sto_np, npAt, np_sh, np_ow, np_no, cm_sh, cm_no, DL.nox, fnM, DL.run,
  frz, full_lst, full_ins, nmN, DL.own, mdf, Sl.put, Sl.mut, Option.bind, cmpD, ltD, leD, gtD, geD, addD, subD, negD, modD, mMakF, mkA, sFldS, putD, fldD, mBinO, mOpO, mCmpO, mEqO, mUnO, mLenO, mSubO, mIxO, mPrp, cand_int, cand_tup, cand_lst, cand_scr, cand_str, cand_bl, cand_non, cand_ins, look0, okY_ii, okY_int, sameC_ii, mCmpG, mEqG, okE_n, okE_01, okE_int, okE_bl, okE_str, okE_non, look1, look01, look10, mTruO, mBlO, sParX, xS, xO, xNil, stoX_cons, stoX_nil, It.sl, zip2, zip3, blD, lenD, eqD, neD, Option.map_some, eqB_int,
  List.map, List.length_cons, List.length_nil, List.getElem?_cons_zero, List.getElem?_cons_succ, List.set_cons_zero, List.set_cons_succ, List.append, List.cons_append, List.nil_append, List.replicate, List.take, Nat.reduceAdd, Nat.reduceSub, Bool.not_true, Bool.not_false, decide_true, decide_false, beq_self_eq_true, bne_self_eq_false, Bool.false_eq_true, reduceIte, ↓reduceIte, lkk, lkn, lk0, Nat.reduceBEq, hp, h4]
theorem pp_loop {T : D} : ∀ (os : List Op) (k : Nat) (Y : List D) (x2 x3 x4 : Option D), (∀ o ∈ os, Vd n o ∧ SmO o) → Y.length + os.length ≤ 1000 →
    ∃ x2' x3' x4', sLoop (tgTup 2 (tgCons (tgName 2) (tgCons (tgName 3) tgNil))) b_parse_program_1 (enuL k (os.map fun o => .str (txO o))) [.sh T, .ow (.lst Y), oS x2, oS x3, oS x4] = .ok .nx [.sh T, .ow (.lst (Y ++ os.map toD)), oS x2', oS x3', oS x4']
  | [], k, Y, x2, x3, x4, _, _ => ⟨x2, x3, x4, by simp only [List.map_nil, enuL, sLoop, List.append_nil, sNx, DL.ret]⟩
  | o :: os, k, Y, x2, x3, x4, h, hl => by
    rw [List.length_cons] at hl
    have h0 := h o List.mem_cons_self
    have hb := b_pp hn (T := T) h0.1 h0.2 (k := k) (Y := Y) (by omega) x4
    obtain ⟨y2, y3, y4, ih⟩ := pp_loop (T := T) os (k + 1) (Y ++ [toD o]) (some (.int (k : Int))) (some (.str (txO o))) (some (toD o)) (fun z hz => h z (List.mem_cons_of_mem _ hz)) (by rw [List.length_append]; simp only [List.length_cons, List.length_nil]; omega)
    refine ⟨y2, y3, y4, ?_⟩
    have ht : tgTup 2 (tgCons (tgName 2) (tgCons (tgName 3) tgNil)) (.tup [.int (k : Int), .str (txO o)]) [.sh T, .ow (.lst Y), oS x2, oS x3, oS x4] = some [.sh T, .ow (.lst Y), .sh (.int (k : Int)), .sh (.str (txO o)), oS x4] := by
      cases x2 <;> cases x3 <;> rfl
    rw [List.map_cons, enuL, loop_nx ht hb, List.map_cons, List.append_cons Y (toD o) (os.map toD)]
    exact ih
end
section
variable {xs : List Op} (hv : VL xs) (hl : xs.length ≤ 200) (hs : ∀ o ∈ xs, SmO o)
include hv hl hs
theorem e_pprog : F_parse_program [.sh (.str (ptx xs))] = .ok (.rt (Pg xs)) [.sh (.str (ptx xs))] := by
  have hL := e_lines hv hl hs
  obtain ⟨x2, x3, x4, hlo⟩ := pp_loop (n := (xs.length : Int)) (by omega) (T := .str (ptx xs)) xs 0 [] none none none (fun o ho => ⟨hv o ho, hs o ho⟩) (by simp only [List.length_nil]; omega)
  generalize ptx xs = t at hL hlo ⊢
  refine fn_rt rfl (e := [.sh (.str t), .sh (.lst (xs.map toD)), oS x2, oS x3, oS x4]) ?_ rfl
  show m_parse_program [.sh (.str t), .no, .no, .no, .no] = _
  unfold m_parse_program
  rw [seq_nx (e1 := [.sh (.str t), .ow (.lst []), .no, .no, .no]), seq_nx (e1 := [.sh (.str t), .ow (.lst (xs.map toD)), oS x2, oS x3, oS x4])]
  · have h := e_punit hv hl (m := mVar 1) (env := [.sh (.str t), .ow (.lst (xs.map toD)), oS x2, oS x3, oS x4]) (e1 := [.sh (.str t), .sh (.lst (xs.map toD)), oS x2, oS x3, oS x4]) rfl
    simp only [sRet, DL.bnd, h, DL.ret]
  · refine for_ok (ds := enuL 0 (xs.map fun o => .str (txO o))) (e1 := [.sh (.str t), .ow (.lst []), .no, .no, .no]) ?_ hlo
    simp only [DL.bnd, DL.ret, DL.lft, mVar, mCons, mNil, mCallA, callA, callAF, callB, mCallAF, mCallB, mBin, mUn, mB, mTru, truD, mNot, mAnd, mOr, mBv, mIf, mCb, mChain, mTup, mLst, sSeq, sNx, sIf, sRet, sRetF, sDrop, sSet, sSetF, sto_np, npAt, np_sh, np_ow, np_no, cm_sh, cm_no, DL.nox, fnM, DL.run,
  frz, full_lst, full_ins, nmN, DL.own, mdf, Sl.put, Sl.mut, Option.bind, cmpD, ltD, leD, gtD, geD, addD, subD, negD, modD, mMakF, mkA, sFldS, putD, fldD, mBinO, mOpO, mCmpO, mEqO, mUnO, mLenO, mSubO, mIxO, mPrp, cand_int, cand_tup, cand_lst, cand_scr, cand_str, cand_bl, cand_non, cand_ins, look0, okY_ii, okY_int, sameC_ii, mCmpG, mEqG, okE_n, okE_01, okE_int, okE_bl, okE_str, okE_non, look1, look01, look10, mTruO, mBlO, sParX, xS, xO, xNil, stoX_cons, stoX_nil, It.sl, zip2, zip3, blD, lenD, eqD, neD, Option.map_some, eqB_int,
  List.map, List.length_cons, List.length_nil, List.getElem?_cons_zero, List.getElem?_cons_succ, List.set_cons_zero, List.set_cons_succ, List.append, List.cons_append, List.nil_append, List.replicate, List.take, Nat.reduceAdd, Nat.reduceSub, Bool.not_true, Bool.not_false, decide_true, decide_false, beq_self_eq_true, bne_self_eq_false, Bool.false_eq_true, reduceIte, ↓reduceIte, lkk, lkn, lk0, Nat.reduceBEq, iArg, hL, enuD]
  · simp only [DL.bnd, DL.ret, DL.lft, mVar, mCons, mNil, mCallA, callA, callAF, callB, mCallAF, mCallB, mBin, mUn, mB, mTru, truD, mNot, mAnd, mOr, mBv, mIf, mCb, mChain, mTup, mLst, sSeq, sNx, sIf, sRet, sRetF, sDrop, sSet, sSetF, sto_np, npAt, np_sh, np_ow, np_no, cm_sh, cm_no, DL.nox, fnM, DL.run,
  frz, full_lst, full_ins, nmN, DL.own, mdf, Sl.put, Sl.mut, Option.bind, cmpD, ltD, leD, gtD, geD, addD, subD, negD, modD, mMakF, mkA, sFldS, putD, fldD, mBinO, mOpO, mCmpO, mEqO, mUnO, mLenO, mSubO, mIxO, mPrp, cand_int, cand_tup, cand_lst, cand_scr, cand_str, cand_bl, cand_non, cand_ins, look0, okY_ii, okY_int, sameC_ii, mCmpG, mEqG, okE_n, okE_01, okE_int, okE_bl, okE_str, okE_non, look1, look01, look10, mTruO, mBlO, sParX, xS, xO, xNil, stoX_cons, stoX_nil, It.sl, zip2, zip3, blD, lenD, eqD, neD, Option.map_some, eqB_int,
  List.map, List.length_cons, List.length_nil, List.getElem?_cons_zero, List.getElem?_cons_succ, List.set_cons_zero, List.set_cons_succ, List.append, List.cons_append, List.nil_append, List.replicate, List.take, Nat.reduceAdd, Nat.reduceSub, Bool.not_true, Bool.not_false, decide_true, decide_false, beq_self_eq_true, bne_self_eq_false, Bool.false_eq_true, reduceIte, ↓reduceIte, lkk, lkn, lk0, Nat.reduceBEq, sm0]
/-! with labels -/
abbrev asE (T : D) (R : Sl) (F : List D) (x3 x4 x5 x6 x7 x8 : Sl) : En := [.sh T, R, .ow (.lst F), x3, x4, x5, x6, x7, x8]
def fnd (k : Nat) : List Op → List D
  | [] => []
  | o :: os => .tup [.int (k : Int), toD o, .non] :: fnd (k + 1) os
omit hv hl hs in
theorem b_as {T R : D} {n : Int} (hn : n ≤ 200) {o : Op} (v : Vd n o) (s : SmO o) {k : Nat} {Y : List D} (hy : Y.length ≤ 1000) (x5 x6 x7 : Option D) :
    b_assemble_2 (asE T (.ow R) Y (.sh (.int (k : Int))) (.sh (.str (txO o))) (oS x5) (oS x6) (oS x7) .no) = .ok .nx (asE T (.ow R) (Y ++ [.tup [.int (k : Int), toD o, .non]]) (.sh (.int (k : Int))) (.sh (.str (txO o))) (.sh (.str (txO o))) (.sh .non) (.sh (toD o)) .no) := by
  have hp := e_pins hn v s
  have hnm := e_named hn v s
  have hc := no_colon hn v s
  have hi := isn_op o
  have hz : small (Y.length + 1) = true := decide_eq_true (by omega)
  generalize txO o = t at hp hnm hc ⊢
  generalize toD o = d at hp hi ⊢
  have h5 : np (oS x5) = true := by cases x5 <;> rfl
  have h6 : np (oS x6) = true := by cases x6 <;> rfl
  have h7 : np (oS x7) = true := by cases x7 <;> rfl
  unfold b_assemble_2 asE
  rw [if_f (e1 := [.sh T, .ow R, .ow (.lst Y), .sh (.int (k : Int)), .sh (.str t), oS x5, oS x6, oS x7, .no])]
  · rw [seq_nx (asg_ok (d := .tup [.str t, .non]) (e1 := [.sh T, .ow R, .ow (.lst Y), .sh (.int (k : Int)), .sh (.str t), oS x5, oS x6, oS x7, .no]) (by simp only [DL.bnd, DL.ret, DL.lft, mVar, mCons, mNil, mCallA, callA, callAF, callB, mCallAF, mCallB, mBin, mUn, mB, mTru, truD, mNot, mAnd, mOr, mBv, mIf, mCb, mChain, mTup, mLst, sSeq, sNx, sIf, sRet, sRetF, sDrop, sSet, sSetF, sto_np, npAt, np_sh, np_ow, np_no, cm_sh, cm_no, DL.nox, fnM, DL.run,
  frz, full_lst, full_ins, nmN, DL.own, mdf, Sl.put, Sl.mut, Option.bind, cmpD, ltD, leD, gtD, geD, addD, subD, negD, modD, mMakF, mkA, sFldS, putD, fldD, mBinO, mOpO, mCmpO, mEqO, mUnO, mLenO, mSubO, mIxO, mPrp, cand_int, cand_tup, cand_lst, cand_scr, cand_str, cand_bl, cand_non, cand_ins, look0, okY_ii, okY_int, sameC_ii, mCmpG, mEqG, okE_n, okE_01, okE_int, okE_bl, okE_str, okE_non, look1, look01, look10, mTruO, mBlO, sParX, xS, xO, xNil, stoX_cons, stoX_nil, It.sl, zip2, zip3, blD, lenD, eqD, neD, Option.map_some, eqB_int,
  List.map, List.length_cons, List.length_nil, List.getElem?_cons_zero, List.getElem?_cons_succ, List.set_cons_zero, List.set_cons_succ, List.append, List.cons_append, List.nil_append, List.replicate, List.take, Nat.reduceAdd, Nat.reduceSub, Bool.not_true, Bool.not_false, decide_true, decide_false, beq_self_eq_true, bne_self_eq_false, Bool.false_eq_true, reduceIte, ↓reduceIte, lkk, lkn, lk0, Nat.reduceBEq, hnm]) (show _ = some [.sh T, .ow R, .ow (.lst Y), .sh (.int (k : Int)), .sh (.str t), .sh (.str t), .sh .non, oS x7, .no] by cases x5 <;> cases x6 <;> rfl))]
    rw [seq_nx (e1 := [.sh T, .ow R, .ow (.lst Y), .sh (.int (k : Int)), .sh (.str t), .sh (.str t), .sh .non, .sh d, .no]), seq_nx (if_no2 (by simp only [DL.bnd, DL.ret, DL.lft, mVar, mCons, mNil, mCallA, callA, callAF, callB, mCallAF, mCallB, mBin, mUn, mB, mTru, truD, mNot, mAnd, mOr, mBv, mIf, mCb, mChain, mTup, mLst, sSeq, sNx, sIf, sRet, sRetF, sDrop, sSet, sSetF, sto_np, npAt, np_sh, np_ow, np_no, cm_sh, cm_no, DL.nox, fnM, DL.run,
  frz, full_lst, full_ins, nmN, DL.own, mdf, Sl.put, Sl.mut, Option.bind, cmpD, ltD, leD, gtD, geD, addD, subD, negD, modD, mMakF, mkA, sFldS, putD, fldD, mBinO, mOpO, mCmpO, mEqO, mUnO, mLenO, mSubO, mIxO, mPrp, cand_int, cand_tup, cand_lst, cand_scr, cand_str, cand_bl, cand_non, cand_ins, look0, okY_ii, okY_int, sameC_ii, mCmpG, mEqG, okE_n, okE_01, okE_int, okE_bl, okE_str, okE_non, look1, look01, look10, mTruO, mBlO, sParX, xS, xO, xNil, stoX_cons, stoX_nil, It.sl, zip2, zip3, blD, lenD, eqD, neD, Option.map_some, eqB_int,
  List.map, List.length_cons, List.length_nil, List.getElem?_cons_zero, List.getElem?_cons_succ, List.set_cons_zero, List.set_cons_succ, List.append, List.cons_append, List.nil_append, List.replicate, List.take, Nat.reduceAdd, Nat.reduceSub, Bool.not_true, Bool.not_false, decide_true, decide_false, beq_self_eq_true, bne_self_eq_false, Bool.false_eq_true, reduceIte, ↓reduceIte, lkk, lkn, lk0, Nat.reduceBEq, hi]))]
    · exact (app_ow (xs := Y) (xs' := Y) (z := .tup [.int (k : Int), d, .non]) (e1 := [.sh T, .ow R, .ow (.lst Y), .sh (.int (k : Int)), .sh (.str t), .sh (.str t), .sh .non, .sh d, .no]) rfl (by simp only [DL.bnd, DL.ret, DL.lft, mVar, mCons, mNil, mCallA, callA, callAF, callB, mCallAF, mCallB, mBin, mUn, mB, mTru, truD, mNot, mAnd, mOr, mBv, mIf, mCb, mChain, mTup, mLst, sSeq, sNx, sIf, sRet, sRetF, sDrop, sSet, sSetF, sto_np, npAt, np_sh, np_ow, np_no, cm_sh, cm_no, DL.nox, fnM, DL.run,
  frz, full_lst, full_ins, nmN, DL.own, mdf, Sl.put, Sl.mut, Option.bind, cmpD, ltD, leD, gtD, geD, addD, subD, negD, modD, mMakF, mkA, sFldS, putD, fldD, mBinO, mOpO, mCmpO, mEqO, mUnO, mLenO, mSubO, mIxO, mPrp, cand_int, cand_tup, cand_lst, cand_scr, cand_str, cand_bl, cand_non, cand_ins, look0, okY_ii, okY_int, sameC_ii, mCmpG, mEqG, okE_n, okE_01, okE_int, okE_bl, okE_str, okE_non, look1, look01, look10, mTruO, mBlO, sParX, xS, xO, xNil, stoX_cons, stoX_nil, It.sl, zip2, zip3, blD, lenD, eqD, neD, Option.map_some, eqB_int,
  List.map, List.length_cons, List.length_nil, List.getElem?_cons_zero, List.getElem?_cons_succ, List.set_cons_zero, List.set_cons_succ, List.append, List.cons_append, List.nil_append, List.replicate, List.take, Nat.reduceAdd, Nat.reduceSub, Bool.not_true, Bool.not_false, decide_true, decide_false, beq_self_eq_true, bne_self_eq_false, Bool.false_eq_true, reduceIte, ↓reduceIte, lkk, lkn, lk0, Nat.reduceBEq, sm3]) rfl hz).trans rfl
    · simp only [DL.bnd, DL.ret, DL.lft, mVar, mCons, mNil, mCallA, callA, callAF, callB, mCallAF, mCallB, mBin, mUn, mB, mTru, truD, mNot, mAnd, mOr, mBv, mIf, mCb, mChain, mTup, mLst, sSeq, sNx, sIf, sRet, sRetF, sDrop, sSet, sSetF, sto_np, npAt, np_sh, np_ow, np_no, cm_sh, cm_no, DL.nox, fnM, DL.run,
  frz, full_lst, full_ins, nmN, DL.own, mdf, Sl.put, Sl.mut, Option.bind, cmpD, ltD, leD, gtD, geD, addD, subD, negD, modD, mMakF, mkA, sFldS, putD, fldD, mBinO, mOpO, mCmpO, mEqO, mUnO, mLenO, mSubO, mIxO, mPrp, cand_int, cand_tup, cand_lst, cand_scr, cand_str, cand_bl, cand_non, cand_ins, look0, okY_ii, okY_int, sameC_ii, mCmpG, mEqG, okE_n, okE_01, okE_int, okE_bl, okE_str, okE_non, look1, look01, look10, mTruO, mBlO, sParX, xS, xO, xNil, stoX_cons, stoX_nil, It.sl, zip2, zip3, blD, lenD, eqD, neD, Option.map_some, eqB_int,
  List.map, List.length_cons, List.length_nil, List.getElem?_cons_zero, List.getElem?_cons_succ, List.set_cons_zero, List.set_cons_succ, List.append, List.cons_append, List.nil_append, List.replicate, List.take, Nat.reduceAdd, Nat.reduceSub, Bool.not_true, Bool.not_false, decide_true, decide_false, beq_self_eq_true, bne_self_eq_false, Bool.false_eq_true, reduceIte, ↓reduceIte, lkk, lkn, lk0, Nat.reduceBEq, hp, h7]
  · simp only [DL.bnd, DL.ret, DL.lft, mVar, mCons, mNil, mCallA, callA, callAF, callB, mCallAF, mCallB, mBin, mUn, mB, mTru, truD, mNot, mAnd, mOr, mBv, mIf, mCb, mChain, mTup, mLst, sSeq, sNx, sIf, sRet, sRetF, sDrop, sSet, sSetF, sto_np, npAt, np_sh, np_ow, np_no, cm_sh, cm_no, DL.nox, fnM, DL.run,
  frz, full_lst, full_ins, nmN, DL.own, mdf, Sl.put, Sl.mut, Option.bind, cmpD, ltD, leD, gtD, geD, addD, subD, negD, modD, mMakF, mkA, sFldS, putD, fldD, mBinO, mOpO, mCmpO, mEqO, mUnO, mLenO, mSubO, mIxO, mPrp, cand_int, cand_tup, cand_lst, cand_scr, cand_str, cand_bl, cand_non, cand_ins, look0, okY_ii, okY_int, sameC_ii, mCmpG, mEqG, okE_n, okE_01, okE_int, okE_bl, okE_str, okE_non, look1, look01, look10, mTruO, mBlO, sParX, xS, xO, xNil, stoX_cons, stoX_nil, It.sl, zip2, zip3, blD, lenD, eqD, neD, Option.map_some, eqB_int,
  List.map, List.length_cons, List.length_nil, List.getElem?_cons_zero, List.getElem?_cons_succ, List.set_cons_zero, List.set_cons_succ, List.append, List.cons_append, List.nil_append, List.replicate, List.take, Nat.reduceAdd, Nat.reduceSub, Bool.not_true, Bool.not_false, decide_true, decide_false, beq_self_eq_true, bne_self_eq_false, Bool.false_eq_true, reduceIte, ↓reduceIte, lkk, lkn, lk0, Nat.reduceBEq, mM1, hc]
omit hv hl hs in
theorem as_loop {T R : D} {n : Int} (hn : n ≤ 200) : ∀ (os : List Op) (k : Nat) (Y : List D) (x3 x4 x5 x6 x7 : Option D), (∀ o ∈ os, Vd n o ∧ SmO o) → Y.length + os.length ≤ 1000 →
    ∃ x3' x4' x5' x6' x7', sLoop (tgTup 2 (tgCons (tgName 3) (tgCons (tgName 4) tgNil))) b_assemble_2 (enuL k (os.map fun o => .str (txO o))) (asE T (.ow R) Y (oS x3) (oS x4) (oS x5) (oS x6) (oS x7) .no) = .ok .nx (asE T (.ow R) (Y ++ fnd k os) (oS x3') (oS x4') (oS x5') (oS x6') (oS x7') .no)
  | [], k, Y, x3, x4, x5, x6, x7, _, _ => ⟨x3, x4, x5, x6, x7, by simp only [List.map_nil, enuL, sLoop, fnd, List.append_nil, sNx, DL.ret]⟩
  | o :: os, k, Y, x3, x4, x5, x6, x7, h, hl => by
    rw [List.length_cons] at hl
    have h0 := h o List.mem_cons_self
    have hb := b_as (T := T) (R := R) hn h0.1 h0.2 (k := k) (Y := Y) (by omega) x5 x6 x7
    obtain ⟨y3, y4, y5, y6, y7, ih⟩ := as_loop (T := T) (R := R) hn os (k + 1) (Y ++ [.tup [.int (k : Int), toD o, .non]]) (some (.int (k : Int))) (some (.str (txO o))) (some (.str (txO o))) (some .non) (some (toD o)) (fun z hz => h z (List.mem_cons_of_mem _ hz)) (by rw [List.length_append]; simp only [List.length_cons, List.length_nil]; omega)
    refine ⟨y3, y4, y5, y6, y7, ?_⟩
    have ht : tgTup 2 (tgCons (tgName 3) (tgCons (tgName 4) tgNil)) (.tup [.int (k : Int), .str (txO o)]) (asE T (.ow R) Y (oS x3) (oS x4) (oS x5) (oS x6) (oS x7) .no) = some (asE T (.ow R) Y (.sh (.int (k : Int))) (.sh (.str (txO o))) (oS x5) (oS x6) (oS x7) .no) := by
      cases x3 <;> cases x4 <;> rfl
    rw [List.map_cons, enuL, loop_nx ht hb, fnd, List.append_cons Y (D.tup [.int (k : Int), toD o, .non]) (fnd (k + 1) os)]
    exact ih
abbrev rsE2 (T R F : D) (x3 x4 x5 x6 x7 : Sl) (Y : List D) : En := [.sh T, R |> .ow, .sh F, x3, x4, x5, x6, x7, .ow (.lst Y)]
omit hv hl hs in
theorem b_rs {T R F : D} {o : Op} {k : Nat} {Y : List D} (hy : Y.length ≤ 1000) (x4 x5 : Sl) :
    b_assemble_1 (rsE2 T R F (.sh (.int (k : Int))) x4 x5 (.sh .non) (.sh (toD o)) Y) = .ok .nx (rsE2 T R F (.sh (.int (k : Int))) x4 x5 (.sh .non) (.sh (toD o)) (Y ++ [toD o])) := by
  have hz : small (Y.length + 1) = true := decide_eq_true (by omega)
  have i1 : isND true .non .non = some (.bl false) := rfl
  have i2 : isND false .non .non = some (.bl true) := rfl
  generalize toD o = d
  unfold b_assemble_1 rsE2
  rw [seq_nx (if_no2 (by simp only [DL.bnd, DL.ret, DL.lft, mVar, mCons, mNil, mCallA, callA, callAF, callB, mCallAF, mCallB, mBin, mUn, mB, mTru, truD, mNot, mAnd, mOr, mBv, mIf, mCb, mChain, mTup, mLst, sSeq, sNx, sIf, sRet, sRetF, sDrop, sSet, sSetF, sto_np, npAt, np_sh, np_ow, np_no, cm_sh, cm_no, DL.nox, fnM, DL.run,
  frz, full_lst, full_ins, nmN, DL.own, mdf, Sl.put, Sl.mut, Option.bind, cmpD, ltD, leD, gtD, geD, addD, subD, negD, modD, mMakF, mkA, sFldS, putD, fldD, mBinO, mOpO, mCmpO, mEqO, mUnO, mLenO, mSubO, mIxO, mPrp, cand_int, cand_tup, cand_lst, cand_scr, cand_str, cand_bl, cand_non, cand_ins, look0, okY_ii, okY_int, sameC_ii, mCmpG, mEqG, okE_n, okE_01, okE_int, okE_bl, okE_str, okE_non, look1, look01, look10, mTruO, mBlO, sParX, xS, xO, xNil, stoX_cons, stoX_nil, It.sl, zip2, zip3, blD, lenD, eqD, neD, Option.map_some, eqB_int,
  List.map, List.length_cons, List.length_nil, List.getElem?_cons_zero, List.getElem?_cons_succ, List.set_cons_zero, List.set_cons_succ, List.append, List.cons_append, List.nil_append, List.replicate, List.take, Nat.reduceAdd, Nat.reduceSub, Bool.not_true, Bool.not_false, decide_true, decide_false, beq_self_eq_true, bne_self_eq_false, Bool.false_eq_true, reduceIte, ↓reduceIte, lkk, lkn, lk0, Nat.reduceBEq, i1]))]
  exact (app_ow (xs := Y) (xs' := Y) (z := d) (e1 := [.sh T, .ow R, .sh F, .sh (.int (k : Int)), x4, x5, .sh .non, .sh d, .ow (.lst Y)]) rfl (by simp only [DL.bnd, DL.ret, DL.lft, mVar, mCons, mNil, mCallA, callA, callAF, callB, mCallAF, mCallB, mBin, mUn, mB, mTru, truD, mNot, mAnd, mOr, mBv, mIf, mCb, mChain, mTup, mLst, sSeq, sNx, sIf, sRet, sRetF, sDrop, sSet, sSetF, sto_np, npAt, np_sh, np_ow, np_no, cm_sh, cm_no, DL.nox, fnM, DL.run,
  frz, full_lst, full_ins, nmN, DL.own, mdf, Sl.put, Sl.mut, Option.bind, cmpD, ltD, leD, gtD, geD, addD, subD, negD, modD, mMakF, mkA, sFldS, putD, fldD, mBinO, mOpO, mCmpO, mEqO, mUnO, mLenO, mSubO, mIxO, mPrp, cand_int, cand_tup, cand_lst, cand_scr, cand_str, cand_bl, cand_non, cand_ins, look0, okY_ii, okY_int, sameC_ii, mCmpG, mEqG, okE_n, okE_01, okE_int, okE_bl, okE_str, okE_non, look1, look01, look10, mTruO, mBlO, sParX, xS, xO, xNil, stoX_cons, stoX_nil, It.sl, zip2, zip3, blD, lenD, eqD, neD, Option.map_some, eqB_int,
  List.map, List.length_cons, List.length_nil, List.getElem?_cons_zero, List.getElem?_cons_succ, List.set_cons_zero, List.set_cons_succ, List.append, List.cons_append, List.nil_append, List.replicate, List.take, Nat.reduceAdd, Nat.reduceSub, Bool.not_true, Bool.not_false, decide_true, decide_false, beq_self_eq_true, bne_self_eq_false, Bool.false_eq_true, reduceIte, ↓reduceIte, lkk, lkn, lk0, Nat.reduceBEq, i2]) rfl hz).trans rfl
omit hv hl hs in
theorem rs_loop {T R F : D} : ∀ (os : List Op) (k : Nat) (Y : List D) (x3 x4 x5 x6 x7 : Option D), Y.length + os.length ≤ 1000 →
    ∃ x3' x6' x7', sLoop (tgTup 3 (tgCons (tgName 3) (tgCons (tgName 7) (tgCons (tgName 6) tgNil)))) b_assemble_1 (fnd k os) (rsE2 T R F (oS x3) (oS x4) (oS x5) (oS x6) (oS x7) Y) = .ok .nx (rsE2 T R F (oS x3') (oS x4) (oS x5) (oS x6') (oS x7') (Y ++ os.map toD))
  | [], k, Y, x3, x4, x5, x6, x7, _ => ⟨x3, x6, x7, by simp only [fnd, sLoop, List.map_nil, List.append_nil, sNx, DL.ret]⟩
  | o :: os, k, Y, x3, x4, x5, x6, x7, hl => by
    rw [List.length_cons] at hl
    have hb := b_rs (T := T) (R := R) (F := F) (o := o) (k := k) (Y := Y) (by omega) (oS x4) (oS x5)
    obtain ⟨y3, y6, y7, ih⟩ := rs_loop (T := T) (R := R) (F := F) os (k + 1) (Y ++ [toD o]) (some (.int (k : Int))) x4 x5 (some .non) (some (toD o)) (by rw [List.length_append]; simp only [List.length_cons, List.length_nil]; omega)
    refine ⟨y3, y6, y7, ?_⟩
    have ht : tgTup 3 (tgCons (tgName 3) (tgCons (tgName 7) (tgCons (tgName 6) tgNil))) (.tup [.int (k : Int), toD o, .non]) (rsE2 T R F (oS x3) (oS x4) (oS x5) (oS x6) (oS x7) Y) = some (rsE2 T R F (.sh (.int (k : Int))) (oS x4) (oS x5) (.sh .non) (.sh (toD o)) Y) := by
      cases x3 <;> cases x6 <;> cases x7 <;> rfl
    rw [fnd, loop_nx ht hb, List.map_cons, List.append_cons Y (toD o) (os.map toD)]
    exact ih
theorem e_asm : F_assemble [.sh (.str (ptx xs))] = .ok (.rt (Pg xs)) [.sh (.str (ptx xs))] := by
  have hL := e_lines hv hl hs
  obtain ⟨x3, x4, x5, x6, x7, hlo⟩ := as_loop (n := (xs.length : Int)) (T := .str (ptx xs)) (R := .dic [] []) (by omega) xs 0 [] none none none none none (fun o ho => ⟨hv o ho, hs o ho⟩) (by simp only [List.length_nil]; omega)
  generalize ptx xs = t at hL hlo ⊢
  obtain ⟨y3, y6, y7, hl2⟩ := rs_loop (T := .str t) (R := .dic [] []) (F := .lst (fnd 0 xs)) xs 0 [] x3 x4 x5 x6 x7 (by simp only [List.length_nil]; omega)
  refine fn_rt rfl (e := [.sh (.str t), .ow (.dic [] []), .sh (.lst (fnd 0 xs)), oS y3, oS x4, oS x5, oS y6, oS y7, .sh (.lst (xs.map toD))]) ?_ rfl
  show m_assemble [.sh (.str t), .no, .no, .no, .no, .no, .no, .no, .no] = _
  unfold m_assemble
  rw [seq_nx (e1 := [.sh (.str t), .ow (.dic [] []), .ow (.lst []), .no, .no, .no, .no, .no, .no]), seq_nx (e1 := [.sh (.str t), .ow (.dic [] []), .ow (.lst (fnd 0 xs)), oS x3, oS x4, oS x5, oS x6, oS x7, .no]),
    seq_nx (e1 := [.sh (.str t), .ow (.dic [] []), .ow (.lst (fnd 0 xs)), oS x3, oS x4, oS x5, oS x6, oS x7, .ow (.lst [])]), seq_nx (e1 := [.sh (.str t), .ow (.dic [] []), .sh (.lst (fnd 0 xs)), oS y3, oS x4, oS x5, oS y6, oS y7, .ow (.lst (xs.map toD))])]
  · have h := e_punit hv hl (m := mVar 8) (env := [.sh (.str t), .ow (.dic [] []), .sh (.lst (fnd 0 xs)), oS y3, oS x4, oS x5, oS y6, oS y7, .ow (.lst (xs.map toD))]) (e1 := [.sh (.str t), .ow (.dic [] []), .sh (.lst (fnd 0 xs)), oS y3, oS x4, oS x5, oS y6, oS y7, .sh (.lst (xs.map toD))]) rfl
    simp only [sRet, DL.bnd, h, DL.ret]
  · refine for_ok (ds := fnd 0 xs) (e1 := [.sh (.str t), .ow (.dic [] []), .sh (.lst (fnd 0 xs)), oS x3, oS x4, oS x5, oS x6, oS x7, .ow (.lst [])]) ?_ hl2
    simp only [DL.bnd, DL.ret, DL.lft, mVar, mCons, mNil, mCallA, callA, callAF, callB, mCallAF, mCallB, mBin, mUn, mB, mTru, truD, mNot, mAnd, mOr, mBv, mIf, mCb, mChain, mTup, mLst, sSeq, sNx, sIf, sRet, sRetF, sDrop, sSet, sSetF, sto_np, npAt, np_sh, np_ow, np_no, cm_sh, cm_no, DL.nox, fnM, DL.run,
  frz, full_lst, full_ins, nmN, DL.own, mdf, Sl.put, Sl.mut, Option.bind, cmpD, ltD, leD, gtD, geD, addD, subD, negD, modD, mMakF, mkA, sFldS, putD, fldD, mBinO, mOpO, mCmpO, mEqO, mUnO, mLenO, mSubO, mIxO, mPrp, cand_int, cand_tup, cand_lst, cand_scr, cand_str, cand_bl, cand_non, cand_ins, look0, okY_ii, okY_int, sameC_ii, mCmpG, mEqG, okE_n, okE_01, okE_int, okE_bl, okE_str, okE_non, look1, look01, look10, mTruO, mBlO, sParX, xS, xO, xNil, stoX_cons, stoX_nil, It.sl, zip2, zip3, blD, lenD, eqD, neD, Option.map_some, eqB_int,
  List.map, List.length_cons, List.length_nil, List.getElem?_cons_zero, List.getElem?_cons_succ, List.set_cons_zero, List.set_cons_succ, List.append, List.cons_append, List.nil_append, List.replicate, List.take, Nat.reduceAdd, Nat.reduceSub, Bool.not_true, Bool.not_false, decide_true, decide_false, beq_self_eq_true, bne_self_eq_false, Bool.false_eq_true, reduceIte, ↓reduceIte, lkk, lkn, lk0, Nat.reduceBEq, iItm, itemsD]
  · simp only [DL.bnd, DL.ret, DL.lft, mVar, mCons, mNil, mCallA, callA, callAF, callB, mCallAF, mCallB, mBin, mUn, mB, mTru, truD, mNot, mAnd, mOr, mBv, mIf, mCb, mChain, mTup, mLst, sSeq, sNx, sIf, sRet, sRetF, sDrop, sSet, sSetF, sto_np, npAt, np_sh, np_ow, np_no, cm_sh, cm_no, DL.nox, fnM, DL.run,
  frz, full_lst, full_ins, nmN, DL.own, mdf, Sl.put, Sl.mut, Option.bind, cmpD, ltD, leD, gtD, geD, addD, subD, negD, modD, mMakF, mkA, sFldS, putD, fldD, mBinO, mOpO, mCmpO, mEqO, mUnO, mLenO, mSubO, mIxO, mPrp, cand_int, cand_tup, cand_lst, cand_scr, cand_str, cand_bl, cand_non, cand_ins, look0, okY_ii, okY_int, sameC_ii, mCmpG, mEqG, okE_n, okE_01, okE_int, okE_bl, okE_str, okE_non, look1, look01, look10, mTruO, mBlO, sParX, xS, xO, xNil, stoX_cons, stoX_nil, It.sl, zip2, zip3, blD, lenD, eqD, neD, Option.map_some, eqB_int,
  List.map, List.length_cons, List.length_nil, List.getElem?_cons_zero, List.getElem?_cons_succ, List.set_cons_zero, List.set_cons_succ, List.append, List.cons_append, List.nil_append, List.replicate, List.take, Nat.reduceAdd, Nat.reduceSub, Bool.not_true, Bool.not_false, decide_true, decide_false, beq_self_eq_true, bne_self_eq_false, Bool.false_eq_true, reduceIte, ↓reduceIte, lkk, lkn, lk0, Nat.reduceBEq, sm0]
  · refine for_ok (ds := enuL 0 (xs.map fun o => .str (txO o))) (e1 := [.sh (.str t), .ow (.dic [] []), .ow (.lst []), .no, .no, .no, .no, .no, .no]) ?_ hlo
    simp only [DL.bnd, DL.ret, DL.lft, mVar, mCons, mNil, mCallA, callA, callAF, callB, mCallAF, mCallB, mBin, mUn, mB, mTru, truD, mNot, mAnd, mOr, mBv, mIf, mCb, mChain, mTup, mLst, sSeq, sNx, sIf, sRet, sRetF, sDrop, sSet, sSetF, sto_np, npAt, np_sh, np_ow, np_no, cm_sh, cm_no, DL.nox, fnM, DL.run,
  frz, full_lst, full_ins, nmN, DL.own, mdf, Sl.put, Sl.mut, Option.bind, cmpD, ltD, leD, gtD, geD, addD, subD, negD, modD, mMakF, mkA, sFldS, putD, fldD, mBinO, mOpO, mCmpO, mEqO, mUnO, mLenO, mSubO, mIxO, mPrp, cand_int, cand_tup, cand_lst, cand_scr, cand_str, cand_bl, cand_non, cand_ins, look0, okY_ii, okY_int, sameC_ii, mCmpG, mEqG, okE_n, okE_01, okE_int, okE_bl, okE_str, okE_non, look1, look01, look10, mTruO, mBlO, sParX, xS, xO, xNil, stoX_cons, stoX_nil, It.sl, zip2, zip3, blD, lenD, eqD, neD, Option.map_some, eqB_int,
  List.map, List.length_cons, List.length_nil, List.getElem?_cons_zero, List.getElem?_cons_succ, List.set_cons_zero, List.set_cons_succ, List.append, List.cons_append, List.nil_append, List.replicate, List.take, Nat.reduceAdd, Nat.reduceSub, Bool.not_true, Bool.not_false, decide_true, decide_false, beq_self_eq_true, bne_self_eq_false, Bool.false_eq_true, reduceIte, ↓reduceIte, lkk, lkn, lk0, Nat.reduceBEq, iArg, hL, enuD]
  · rfl
end
end LW

set_option Elab.async false
set_option linter.all false
set_option maxRecDepth 100000
set_option maxHeartbeats 1000000
namespace LW
open PySem L2 DL PyProof.Rows
open TL (tl)
theorem tk (p q n : Int) (h : 0 < n) (hl : n.natAbs.log2 < 9000) : ∃ v p' q', 0 ≤ v ∧ v < n ∧ F_law_take [.pn (Pl p q), .sh (.int n)] = .ok (.rt (.int v)) [.pn (Pl p' q'), .sh (.int n)] :=
  ⟨_, _, _, tkV_lo h, tkV_hi h, e_take p q n h hl⟩
theorem lg_of {n : Int} (h0 : 0 < n) (h : n < 1000) : n.natAbs.log2 < 9000 := by
  have c : n.natAbs ≠ 0 := by omega
  exact Nat.lt_of_lt_of_le ((Nat.log2_lt c).mpr (Nat.lt_of_lt_of_le (by omega : n.natAbs < 1000) (by decide : 1000 ≤ 2 ^ 10))) (by omega)
theorem sm_pow {x : Int} {k : Nat} (h : x.natAbs < 10 ^ k) (h0 : 0 < k) (hk : k ≤ 200) : Sm x := by
  refine ⟨Nat.le_trans (TL.numL_len h0 h) hk, ?_⟩
  by_cases c : x.natAbs = 0
  · rw [c]; decide
  · refine Nat.lt_of_lt_of_le ((Nat.log2_lt (k := 4 * k) c).mpr (Nat.lt_of_lt_of_le h ?_)) (by omega)
    rw [Nat.pow_mul]
    exact Nat.pow_le_pow_left (by decide) k
theorem sm_neg {x : Int} (h : Sm x) : Sm (-x) := by
  unfold Sm at *
  rw [Int.natAbs_neg]
  exact h
theorem p40 : ∃ N : Int, (∀ env, pw_10_40 env = .ok (.int N) env) ∧ Sm N := ⟨10 ^ 40, fun _ => rfl, sm_pow (k := 41) (by decide) (by decide) (by decide)⟩
theorem p30 : ∃ N : Int, (∀ env, pw_10_30 env = .ok (.int N) env) ∧ Sm N := ⟨10 ^ 30, fun _ => rfl, sm_pow (k := 31) (by decide) (by decide) (by decide)⟩
theorem y5 {P : Int → Prop} {t : Int} (h0 : 0 ≤ t) (h1 : t < 5) {x y z u v : Int} (hx : P x) (hy : P y) (hz : P z) (hu : P u) (hv : P v) : ∃ r, ixD (.lst [.int x, .int y, .int z, .int u, .int v]) (.int t) = some (.int r) ∧ P r := by
  have : t = 0 ∨ t = 1 ∨ t = 2 ∨ t = 3 ∨ t = 4 := by omega
  rcases this with rfl | rfl | rfl | rfl | rfl
  · exact ⟨x, rfl, hx⟩
  · exact ⟨y, rfl, hy⟩
  · exact ⟨z, rfl, hz⟩
  · exact ⟨u, rfl, hu⟩
  · exact ⟨v, rfl, hv⟩
theorem y4s {t : Int} (h0 : 0 ≤ t) (h1 : t < 4) (x y z u : Str) : ∃ r, ixD (.lst [.str x, .str y, .str z, .str u]) (.int t) = some (.str r) ∧ (r = x ∨ r = y ∨ r = z ∨ r = u) := by
  have : t = 0 ∨ t = 1 ∨ t = 2 ∨ t = 3 := by omega
  rcases this with rfl | rfl | rfl | rfl
  · exact ⟨x, rfl, by simp⟩
  · exact ⟨y, rfl, by simp⟩
  · exact ⟨z, rfl, by simp⟩
  · exact ⟨u, rfl, by simp⟩
abbrev dE (p q z : Int) (Y : List D) (x3 x4 x5 x6 x7 x8 x9 : Sl) : En := [.pn (Pl p q), .sh (.int z), .ow (.lst Y), x3, x4, x5, x6, x7, x8, x9]
theorem np_oS (x : Option D) : np (oS x) = true := by cases x <;> rfl
theorem if_t {c : DL.M Bool} {A B : DL.S} {env e1 : En} (h : c env = .ok true e1) : sIf c A B env = A e1 := by
  simp only [sIf, DL.bnd, h, if_true]
theorem b_any (p q : Int) {z : Int} (z0 : 0 ≤ z) (z1 : z ≤ 20) {Y : List D} (hy : Y.length ≤ 100) (x3 : Sl) (x4 x5 x6 x7 x8 x9 : Option D) :
    ∃ p' q' o, ∃ y4 y5 y6 y7 y8 y9 : Option D, Vd z o ∧ SmO o ∧ b_law_any_code_1 (dE p q z Y x3 (oS x4) (oS x5) (oS x6) (oS x7) (oS x8) (oS x9)) = .ok .nx (dE p' q' z (Y ++ [toD o]) x3 (oS y4) (oS y5) (oS y6) (oS y7) (oS y8) (oS y9)) := by
  obtain ⟨W, p1, q1, W0, W1, e1⟩ := tk p q 6 (by decide) (by decide)
  have hz : small (Y.length + 1) = true := decide_eq_true (by omega)
  have h4 := np_oS x4
  have h5 := np_oS x5
  have h6 := np_oS x6
  have h7 := np_oS x7
  have h8 := np_oS x8
  have h9 := np_oS x9
  unfold b_law_any_code_1
  rw [seq_nx (e1 := dE p1 q1 z Y x3 (.sh (.int W)) (oS x5) (oS x6) (oS x7) (oS x8) (oS x9)) (by simp only [DL.bnd, DL.ret, DL.lft, mVar, mCons, mNil, mCallA, callA, callAF, callB, mCallAF, mCallB, mBin, mUn, mB, mTru, truD, mNot, mAnd, mOr, mBv, mIf, mCb, mChain, mTup, mLst, sSeq, sNx, sIf, sRet, sRetF, sDrop, sSet, sSetF, sto_np, npAt, np_sh, np_ow, np_no, cm_sh, cm_no, DL.nox, fnM, DL.run,
  frz, full_lst, full_ins, nmN, DL.own, mdf, Sl.put, Sl.mut, Option.bind, cmpD, ltD, leD, gtD, geD, addD, subD, negD, modD, mMakF, mkA, sFldS, putD, fldD, mBinO, mOpO, mCmpO, mEqO, mUnO, mLenO, mSubO, mIxO, mPrp, cand_int, cand_tup, cand_lst, cand_scr, cand_str, cand_bl, cand_non, cand_ins, look0, okY_ii, okY_int, sameC_ii, mCmpG, mEqG, okE_n, okE_01, okE_int, okE_bl, okE_str, okE_non, look1, look01, look10, mTruO, mBlO, sParX, xS, xO, xNil, stoX_cons, stoX_nil, It.sl, zip2, zip3, blD, lenD, eqD, neD, Option.map_some, eqB_int,
  List.map, List.length_cons, List.length_nil, List.getElem?_cons_zero, List.getElem?_cons_succ, List.set_cons_zero, List.set_cons_succ, List.append, List.cons_append, List.nil_append, List.replicate, List.take, Nat.reduceAdd, Nat.reduceSub, Bool.not_true, Bool.not_false, decide_true, decide_false, beq_self_eq_true, bne_self_eq_false, Bool.false_eq_true, reduceIte, ↓reduceIte, lkk, lkn, lk0, Nat.reduceBEq, e1, h4])]
  clear e1 h4
  by_cases c0 : W = 0
  · obtain ⟨f, p2, q2, f0, f1, e2⟩ := tk p1 q1 4 (by decide) (by decide)
    obtain ⟨t, p3, q3, t0, t1, e3⟩ := tk p2 q2 (z + 1) (by omega) (lg_of (by omega) (by omega))
    refine ⟨p3, q3, .jmp f t, some (.int W), x5, x6, x7, x8, x9, ⟨⟨f0, by omega⟩, t0, by omega⟩, trivial, ?_⟩
    rw [if_t (e1 := dE p1 q1 z Y x3 (.sh (.int W)) (oS x5) (oS x6) (oS x7) (oS x8) (oS x9)) (by simp only [DL.bnd, DL.ret, DL.lft, mVar, mCons, mNil, mCallA, callA, callAF, callB, mCallAF, mCallB, mBin, mUn, mB, mTru, truD, mNot, mAnd, mOr, mBv, mIf, mCb, mChain, mTup, mLst, sSeq, sNx, sIf, sRet, sRetF, sDrop, sSet, sSetF, sto_np, npAt, np_sh, np_ow, np_no, cm_sh, cm_no, DL.nox, fnM, DL.run,
  frz, full_lst, full_ins, nmN, DL.own, mdf, Sl.put, Sl.mut, Option.bind, cmpD, ltD, leD, gtD, geD, addD, subD, negD, modD, mMakF, mkA, sFldS, putD, fldD, mBinO, mOpO, mCmpO, mEqO, mUnO, mLenO, mSubO, mIxO, mPrp, cand_int, cand_tup, cand_lst, cand_scr, cand_str, cand_bl, cand_non, cand_ins, look0, okY_ii, okY_int, sameC_ii, mCmpG, mEqG, okE_n, okE_01, okE_int, okE_bl, okE_str, okE_non, look1, look01, look10, mTruO, mBlO, sParX, xS, xO, xNil, stoX_cons, stoX_nil, It.sl, zip2, zip3, blD, lenD, eqD, neD, Option.map_some, eqB_int,
  List.map, List.length_cons, List.length_nil, List.getElem?_cons_zero, List.getElem?_cons_succ, List.set_cons_zero, List.set_cons_succ, List.append, List.cons_append, List.nil_append, List.replicate, List.take, Nat.reduceAdd, Nat.reduceSub, Bool.not_true, Bool.not_false, decide_true, decide_false, beq_self_eq_true, bne_self_eq_false, Bool.false_eq_true, reduceIte, ↓reduceIte, lkk, lkn, lk0, Nat.reduceBEq, cd_int, c0])]
    exact (app_ow (xs := Y) (xs' := Y) (z := toD (.jmp f t)) (e1 := dE p3 q3 z Y x3 (.sh (.int W)) (oS x5) (oS x6) (oS x7) (oS x8) (oS x9)) rfl (by simp only [DL.bnd, DL.ret, DL.lft, mVar, mCons, mNil, mCallA, callA, callAF, callB, mCallAF, mCallB, mBin, mUn, mB, mTru, truD, mNot, mAnd, mOr, mBv, mIf, mCb, mChain, mTup, mLst, sSeq, sNx, sIf, sRet, sRetF, sDrop, sSet, sSetF, sto_np, npAt, np_sh, np_ow, np_no, cm_sh, cm_no, DL.nox, fnM, DL.run,
  frz, full_lst, full_ins, nmN, DL.own, mdf, Sl.put, Sl.mut, Option.bind, cmpD, ltD, leD, gtD, geD, addD, subD, negD, modD, mMakF, mkA, sFldS, putD, fldD, mBinO, mOpO, mCmpO, mEqO, mUnO, mLenO, mSubO, mIxO, mPrp, cand_int, cand_tup, cand_lst, cand_scr, cand_str, cand_bl, cand_non, cand_ins, look0, okY_ii, okY_int, sameC_ii, mCmpG, mEqG, okE_n, okE_01, okE_int, okE_bl, okE_str, okE_non, look1, look01, look10, mTruO, mBlO, sParX, xS, xO, xNil, stoX_cons, stoX_nil, It.sl, zip2, zip3, blD, lenD, eqD, neD, Option.map_some, eqB_int,
  List.map, List.length_cons, List.length_nil, List.getElem?_cons_zero, List.getElem?_cons_succ, List.set_cons_zero, List.set_cons_succ, List.append, List.cons_append, List.nil_append, List.replicate, List.take, Nat.reduceAdd, Nat.reduceSub, Bool.not_true, Bool.not_false, decide_true, decide_false, beq_self_eq_true, bne_self_eq_false, Bool.false_eq_true, reduceIte, ↓reduceIte, lkk, lkn, lk0, Nat.reduceBEq, e2, e3, cd_int, sm3, toD]) rfl hz).trans rfl
  rw [if_f (e1 := dE p1 q1 z Y x3 (.sh (.int W)) (oS x5) (oS x6) (oS x7) (oS x8) (oS x9)) (by simp only [DL.bnd, DL.ret, DL.lft, mVar, mCons, mNil, mCallA, callA, callAF, callB, mCallAF, mCallB, mBin, mUn, mB, mTru, truD, mNot, mAnd, mOr, mBv, mIf, mCb, mChain, mTup, mLst, sSeq, sNx, sIf, sRet, sRetF, sDrop, sSet, sSetF, sto_np, npAt, np_sh, np_ow, np_no, cm_sh, cm_no, DL.nox, fnM, DL.run,
  frz, full_lst, full_ins, nmN, DL.own, mdf, Sl.put, Sl.mut, Option.bind, cmpD, ltD, leD, gtD, geD, addD, subD, negD, modD, mMakF, mkA, sFldS, putD, fldD, mBinO, mOpO, mCmpO, mEqO, mUnO, mLenO, mSubO, mIxO, mPrp, cand_int, cand_tup, cand_lst, cand_scr, cand_str, cand_bl, cand_non, cand_ins, look0, okY_ii, okY_int, sameC_ii, mCmpG, mEqG, okE_n, okE_01, okE_int, okE_bl, okE_str, okE_non, look1, look01, look10, mTruO, mBlO, sParX, xS, xO, xNil, stoX_cons, stoX_nil, It.sl, zip2, zip3, blD, lenD, eqD, neD, Option.map_some, eqB_int,
  List.map, List.length_cons, List.length_nil, List.getElem?_cons_zero, List.getElem?_cons_succ, List.set_cons_zero, List.set_cons_succ, List.append, List.cons_append, List.nil_append, List.replicate, List.take, Nat.reduceAdd, Nat.reduceSub, Bool.not_true, Bool.not_false, decide_true, decide_false, beq_self_eq_true, bne_self_eq_false, Bool.false_eq_true, reduceIte, ↓reduceIte, lkk, lkn, lk0, Nat.reduceBEq, cd_int, c0])]
  by_cases c1 : W = 1
  · obtain ⟨t, p3, q3, t0, t1, e3⟩ := tk p1 q1 (z + 1) (by omega) (lg_of (by omega) (by omega))
    refine ⟨p3, q3, .gto t, some (.int W), x5, x6, x7, x8, x9, ⟨t0, by omega⟩, trivial, ?_⟩
    rw [if_t (e1 := dE p1 q1 z Y x3 (.sh (.int W)) (oS x5) (oS x6) (oS x7) (oS x8) (oS x9)) (by simp only [DL.bnd, DL.ret, DL.lft, mVar, mCons, mNil, mCallA, callA, callAF, callB, mCallAF, mCallB, mBin, mUn, mB, mTru, truD, mNot, mAnd, mOr, mBv, mIf, mCb, mChain, mTup, mLst, sSeq, sNx, sIf, sRet, sRetF, sDrop, sSet, sSetF, sto_np, npAt, np_sh, np_ow, np_no, cm_sh, cm_no, DL.nox, fnM, DL.run,
  frz, full_lst, full_ins, nmN, DL.own, mdf, Sl.put, Sl.mut, Option.bind, cmpD, ltD, leD, gtD, geD, addD, subD, negD, modD, mMakF, mkA, sFldS, putD, fldD, mBinO, mOpO, mCmpO, mEqO, mUnO, mLenO, mSubO, mIxO, mPrp, cand_int, cand_tup, cand_lst, cand_scr, cand_str, cand_bl, cand_non, cand_ins, look0, okY_ii, okY_int, sameC_ii, mCmpG, mEqG, okE_n, okE_01, okE_int, okE_bl, okE_str, okE_non, look1, look01, look10, mTruO, mBlO, sParX, xS, xO, xNil, stoX_cons, stoX_nil, It.sl, zip2, zip3, blD, lenD, eqD, neD, Option.map_some, eqB_int,
  List.map, List.length_cons, List.length_nil, List.getElem?_cons_zero, List.getElem?_cons_succ, List.set_cons_zero, List.set_cons_succ, List.append, List.cons_append, List.nil_append, List.replicate, List.take, Nat.reduceAdd, Nat.reduceSub, Bool.not_true, Bool.not_false, decide_true, decide_false, beq_self_eq_true, bne_self_eq_false, Bool.false_eq_true, reduceIte, ↓reduceIte, lkk, lkn, lk0, Nat.reduceBEq, cd_int, c1])]
    exact (app_ow (xs := Y) (xs' := Y) (z := toD (.gto t)) (e1 := dE p3 q3 z Y x3 (.sh (.int W)) (oS x5) (oS x6) (oS x7) (oS x8) (oS x9)) rfl (by simp only [DL.bnd, DL.ret, DL.lft, mVar, mCons, mNil, mCallA, callA, callAF, callB, mCallAF, mCallB, mBin, mUn, mB, mTru, truD, mNot, mAnd, mOr, mBv, mIf, mCb, mChain, mTup, mLst, sSeq, sNx, sIf, sRet, sRetF, sDrop, sSet, sSetF, sto_np, npAt, np_sh, np_ow, np_no, cm_sh, cm_no, DL.nox, fnM, DL.run,
  frz, full_lst, full_ins, nmN, DL.own, mdf, Sl.put, Sl.mut, Option.bind, cmpD, ltD, leD, gtD, geD, addD, subD, negD, modD, mMakF, mkA, sFldS, putD, fldD, mBinO, mOpO, mCmpO, mEqO, mUnO, mLenO, mSubO, mIxO, mPrp, cand_int, cand_tup, cand_lst, cand_scr, cand_str, cand_bl, cand_non, cand_ins, look0, okY_ii, okY_int, sameC_ii, mCmpG, mEqG, okE_n, okE_01, okE_int, okE_bl, okE_str, okE_non, look1, look01, look10, mTruO, mBlO, sParX, xS, xO, xNil, stoX_cons, stoX_nil, It.sl, zip2, zip3, blD, lenD, eqD, neD, Option.map_some, eqB_int,
  List.map, List.length_cons, List.length_nil, List.getElem?_cons_zero, List.getElem?_cons_succ, List.set_cons_zero, List.set_cons_succ, List.append, List.cons_append, List.nil_append, List.replicate, List.take, Nat.reduceAdd, Nat.reduceSub, Bool.not_true, Bool.not_false, decide_true, decide_false, beq_self_eq_true, bne_self_eq_false, Bool.false_eq_true, reduceIte, ↓reduceIte, lkk, lkn, lk0, Nat.reduceBEq, e3, cd_int, sm2, toD]) rfl hz).trans rfl
  rw [if_f (e1 := dE p1 q1 z Y x3 (.sh (.int W)) (oS x5) (oS x6) (oS x7) (oS x8) (oS x9)) (by simp only [DL.bnd, DL.ret, DL.lft, mVar, mCons, mNil, mCallA, callA, callAF, callB, mCallAF, mCallB, mBin, mUn, mB, mTru, truD, mNot, mAnd, mOr, mBv, mIf, mCb, mChain, mTup, mLst, sSeq, sNx, sIf, sRet, sRetF, sDrop, sSet, sSetF, sto_np, npAt, np_sh, np_ow, np_no, cm_sh, cm_no, DL.nox, fnM, DL.run,
  frz, full_lst, full_ins, nmN, DL.own, mdf, Sl.put, Sl.mut, Option.bind, cmpD, ltD, leD, gtD, geD, addD, subD, negD, modD, mMakF, mkA, sFldS, putD, fldD, mBinO, mOpO, mCmpO, mEqO, mUnO, mLenO, mSubO, mIxO, mPrp, cand_int, cand_tup, cand_lst, cand_scr, cand_str, cand_bl, cand_non, cand_ins, look0, okY_ii, okY_int, sameC_ii, mCmpG, mEqG, okE_n, okE_01, okE_int, okE_bl, okE_str, okE_non, look1, look01, look10, mTruO, mBlO, sParX, xS, xO, xNil, stoX_cons, stoX_nil, It.sl, zip2, zip3, blD, lenD, eqD, neD, Option.map_some, eqB_int,
  List.map, List.length_cons, List.length_nil, List.getElem?_cons_zero, List.getElem?_cons_succ, List.set_cons_zero, List.set_cons_succ, List.append, List.cons_append, List.nil_append, List.replicate, List.take, Nat.reduceAdd, Nat.reduceSub, Bool.not_true, Bool.not_false, decide_true, decide_false, beq_self_eq_true, bne_self_eq_false, Bool.false_eq_true, reduceIte, ↓reduceIte, lkk, lkn, lk0, Nat.reduceBEq, cd_int, c1])]
  by_cases c2 : W = 2
  · obtain ⟨d, p2, q2, d0, d1, e2⟩ := tk p1 q1 8 (by decide) (by decide)
    obtain ⟨t, p3, q3, t0, t1, e3⟩ := tk p2 q2 5 (by decide) (by decide)
    obtain ⟨A, hA, sA⟩ := p40
    obtain ⟨B, hB, sB⟩ := p30
    obtain ⟨r, hr, sr⟩ := y5 (P := Sm) t0 t1 (x := 0) (y := -1) (z := A) (u := -B) (v := 7) (sm_of (by decide)) (sm_of (by decide)) sA (sm_neg sB) (sm_of (by decide))
    refine ⟨p3, q3, .set d r, some (.int W), some (.lst [.int 0, .int (-1), .int A, .int (-B), .int 7]), x6, x7, x8, x9, ⟨d0, by omega⟩, sr, ?_⟩
    rw [if_t (e1 := dE p1 q1 z Y x3 (.sh (.int W)) (oS x5) (oS x6) (oS x7) (oS x8) (oS x9)) (by simp only [DL.bnd, DL.ret, DL.lft, mVar, mCons, mNil, mCallA, callA, callAF, callB, mCallAF, mCallB, mBin, mUn, mB, mTru, truD, mNot, mAnd, mOr, mBv, mIf, mCb, mChain, mTup, mLst, sSeq, sNx, sIf, sRet, sRetF, sDrop, sSet, sSetF, sto_np, npAt, np_sh, np_ow, np_no, cm_sh, cm_no, DL.nox, fnM, DL.run,
  frz, full_lst, full_ins, nmN, DL.own, mdf, Sl.put, Sl.mut, Option.bind, cmpD, ltD, leD, gtD, geD, addD, subD, negD, modD, mMakF, mkA, sFldS, putD, fldD, mBinO, mOpO, mCmpO, mEqO, mUnO, mLenO, mSubO, mIxO, mPrp, cand_int, cand_tup, cand_lst, cand_scr, cand_str, cand_bl, cand_non, cand_ins, look0, okY_ii, okY_int, sameC_ii, mCmpG, mEqG, okE_n, okE_01, okE_int, okE_bl, okE_str, okE_non, look1, look01, look10, mTruO, mBlO, sParX, xS, xO, xNil, stoX_cons, stoX_nil, It.sl, zip2, zip3, blD, lenD, eqD, neD, Option.map_some, eqB_int,
  List.map, List.length_cons, List.length_nil, List.getElem?_cons_zero, List.getElem?_cons_succ, List.set_cons_zero, List.set_cons_succ, List.append, List.cons_append, List.nil_append, List.replicate, List.take, Nat.reduceAdd, Nat.reduceSub, Bool.not_true, Bool.not_false, decide_true, decide_false, beq_self_eq_true, bne_self_eq_false, Bool.false_eq_true, reduceIte, ↓reduceIte, lkk, lkn, lk0, Nat.reduceBEq, cd_int, c2])]
    rw [seq_nx (e1 := dE p1 q1 z Y x3 (.sh (.int W)) (.sh (.lst [.int 0, .int (-1), .int A, .int (-B), .int 7])) (oS x6) (oS x7) (oS x8) (oS x9)) (by simp only [DL.bnd, DL.ret, DL.lft, mVar, mCons, mNil, mCallA, callA, callAF, callB, mCallAF, mCallB, mBin, mUn, mB, mTru, truD, mNot, mAnd, mOr, mBv, mIf, mCb, mChain, mTup, mLst, sSeq, sNx, sIf, sRet, sRetF, sDrop, sSet, sSetF, sto_np, npAt, np_sh, np_ow, np_no, cm_sh, cm_no, DL.nox, fnM, DL.run,
  frz, full_lst, full_ins, nmN, DL.own, mdf, Sl.put, Sl.mut, Option.bind, cmpD, ltD, leD, gtD, geD, addD, subD, negD, modD, mMakF, mkA, sFldS, putD, fldD, mBinO, mOpO, mCmpO, mEqO, mUnO, mLenO, mSubO, mIxO, mPrp, cand_int, cand_tup, cand_lst, cand_scr, cand_str, cand_bl, cand_non, cand_ins, look0, okY_ii, okY_int, sameC_ii, mCmpG, mEqG, okE_n, okE_01, okE_int, okE_bl, okE_str, okE_non, look1, look01, look10, mTruO, mBlO, sParX, xS, xO, xNil, stoX_cons, stoX_nil, It.sl, zip2, zip3, blD, lenD, eqD, neD, Option.map_some, eqB_int,
  List.map, List.length_cons, List.length_nil, List.getElem?_cons_zero, List.getElem?_cons_succ, List.set_cons_zero, List.set_cons_succ, List.append, List.cons_append, List.nil_append, List.replicate, List.take, Nat.reduceAdd, Nat.reduceSub, Bool.not_true, Bool.not_false, decide_true, decide_false, beq_self_eq_true, bne_self_eq_false, Bool.false_eq_true, reduceIte, ↓reduceIte, lkk, lkn, lk0, Nat.reduceBEq, hA, hB, sm5, h5])]
    exact (app_ow (xs := Y) (xs' := Y) (z := toD (.set d r)) (e1 := dE p3 q3 z Y x3 (.sh (.int W)) (.sh (.lst [.int 0, .int (-1), .int A, .int (-B), .int 7])) (oS x6) (oS x7) (oS x8) (oS x9)) rfl (by simp only [DL.bnd, DL.ret, DL.lft, mVar, mCons, mNil, mCallA, callA, callAF, callB, mCallAF, mCallB, mBin, mUn, mB, mTru, truD, mNot, mAnd, mOr, mBv, mIf, mCb, mChain, mTup, mLst, sSeq, sNx, sIf, sRet, sRetF, sDrop, sSet, sSetF, sto_np, npAt, np_sh, np_ow, np_no, cm_sh, cm_no, DL.nox, fnM, DL.run,
  frz, full_lst, full_ins, nmN, DL.own, mdf, Sl.put, Sl.mut, Option.bind, cmpD, ltD, leD, gtD, geD, addD, subD, negD, modD, mMakF, mkA, sFldS, putD, fldD, mBinO, mOpO, mCmpO, mEqO, mUnO, mLenO, mSubO, mIxO, mPrp, cand_int, cand_tup, cand_lst, cand_scr, cand_str, cand_bl, cand_non, cand_ins, look0, okY_ii, okY_int, sameC_ii, mCmpG, mEqG, okE_n, okE_01, okE_int, okE_bl, okE_str, okE_non, look1, look01, look10, mTruO, mBlO, sParX, xS, xO, xNil, stoX_cons, stoX_nil, It.sl, zip2, zip3, blD, lenD, eqD, neD, Option.map_some, eqB_int,
  List.map, List.length_cons, List.length_nil, List.getElem?_cons_zero, List.getElem?_cons_succ, List.set_cons_zero, List.set_cons_succ, List.append, List.cons_append, List.nil_append, List.replicate, List.take, Nat.reduceAdd, Nat.reduceSub, Bool.not_true, Bool.not_false, decide_true, decide_false, beq_self_eq_true, bne_self_eq_false, Bool.false_eq_true, reduceIte, ↓reduceIte, lkk, lkn, lk0, Nat.reduceBEq, e2, e3, cd_lst, hr, sm3, toD]) rfl hz).trans rfl
  rw [if_f (e1 := dE p1 q1 z Y x3 (.sh (.int W)) (oS x5) (oS x6) (oS x7) (oS x8) (oS x9)) (by simp only [DL.bnd, DL.ret, DL.lft, mVar, mCons, mNil, mCallA, callA, callAF, callB, mCallAF, mCallB, mBin, mUn, mB, mTru, truD, mNot, mAnd, mOr, mBv, mIf, mCb, mChain, mTup, mLst, sSeq, sNx, sIf, sRet, sRetF, sDrop, sSet, sSetF, sto_np, npAt, np_sh, np_ow, np_no, cm_sh, cm_no, DL.nox, fnM, DL.run,
  frz, full_lst, full_ins, nmN, DL.own, mdf, Sl.put, Sl.mut, Option.bind, cmpD, ltD, leD, gtD, geD, addD, subD, negD, modD, mMakF, mkA, sFldS, putD, fldD, mBinO, mOpO, mCmpO, mEqO, mUnO, mLenO, mSubO, mIxO, mPrp, cand_int, cand_tup, cand_lst, cand_scr, cand_str, cand_bl, cand_non, cand_ins, look0, okY_ii, okY_int, sameC_ii, mCmpG, mEqG, okE_n, okE_01, okE_int, okE_bl, okE_str, okE_non, look1, look01, look10, mTruO, mBlO, sParX, xS, xO, xNil, stoX_cons, stoX_nil, It.sl, zip2, zip3, blD, lenD, eqD, neD, Option.map_some, eqB_int,
  List.map, List.length_cons, List.length_nil, List.getElem?_cons_zero, List.getElem?_cons_succ, List.set_cons_zero, List.set_cons_succ, List.append, List.cons_append, List.nil_append, List.replicate, List.take, Nat.reduceAdd, Nat.reduceSub, Bool.not_true, Bool.not_false, decide_true, decide_false, beq_self_eq_true, bne_self_eq_false, Bool.false_eq_true, reduceIte, ↓reduceIte, lkk, lkn, lk0, Nat.reduceBEq, cd_int, c2])]
  by_cases c3 : W = 3
  · obtain ⟨d, p2, q2, d0, d1, e2⟩ := tk p1 q1 8 (by decide) (by decide)
    obtain ⟨x, p3, q3, x0, x1, e3⟩ := tk p2 q2 8 (by decide) (by decide)
    obtain ⟨t, p4, q4, t0, t1, e4⟩ := tk p3 q3 81 (by decide) (by decide)
    refine ⟨p4, q4, .mov d x (t - 40), some (.int W), x5, some (.int d), some (.int x), x8, x9, ⟨⟨d0, by omega⟩, ⟨x0, by omega⟩, by omega, by omega⟩, trivial, ?_⟩
    rw [if_t (e1 := dE p1 q1 z Y x3 (.sh (.int W)) (oS x5) (oS x6) (oS x7) (oS x8) (oS x9)) (by simp only [DL.bnd, DL.ret, DL.lft, mVar, mCons, mNil, mCallA, callA, callAF, callB, mCallAF, mCallB, mBin, mUn, mB, mTru, truD, mNot, mAnd, mOr, mBv, mIf, mCb, mChain, mTup, mLst, sSeq, sNx, sIf, sRet, sRetF, sDrop, sSet, sSetF, sto_np, npAt, np_sh, np_ow, np_no, cm_sh, cm_no, DL.nox, fnM, DL.run,
  frz, full_lst, full_ins, nmN, DL.own, mdf, Sl.put, Sl.mut, Option.bind, cmpD, ltD, leD, gtD, geD, addD, subD, negD, modD, mMakF, mkA, sFldS, putD, fldD, mBinO, mOpO, mCmpO, mEqO, mUnO, mLenO, mSubO, mIxO, mPrp, cand_int, cand_tup, cand_lst, cand_scr, cand_str, cand_bl, cand_non, cand_ins, look0, okY_ii, okY_int, sameC_ii, mCmpG, mEqG, okE_n, okE_01, okE_int, okE_bl, okE_str, okE_non, look1, look01, look10, mTruO, mBlO, sParX, xS, xO, xNil, stoX_cons, stoX_nil, It.sl, zip2, zip3, blD, lenD, eqD, neD, Option.map_some, eqB_int,
  List.map, List.length_cons, List.length_nil, List.getElem?_cons_zero, List.getElem?_cons_succ, List.set_cons_zero, List.set_cons_succ, List.append, List.cons_append, List.nil_append, List.replicate, List.take, Nat.reduceAdd, Nat.reduceSub, Bool.not_true, Bool.not_false, decide_true, decide_false, beq_self_eq_true, bne_self_eq_false, Bool.false_eq_true, reduceIte, ↓reduceIte, lkk, lkn, lk0, Nat.reduceBEq, cd_int, c3])]
    rw [seq_nx (e1 := dE p3 q3 z Y x3 (.sh (.int W)) (oS x5) (.sh (.int d)) (.sh (.int x)) (oS x8) (oS x9)) (by simp only [DL.bnd, DL.ret, DL.lft, mVar, mCons, mNil, mCallA, callA, callAF, callB, mCallAF, mCallB, mBin, mUn, mB, mTru, truD, mNot, mAnd, mOr, mBv, mIf, mCb, mChain, mTup, mLst, sSeq, sNx, sIf, sRet, sRetF, sDrop, sSet, sSetF, sto_np, npAt, np_sh, np_ow, np_no, cm_sh, cm_no, DL.nox, fnM, DL.run,
  frz, full_lst, full_ins, nmN, DL.own, mdf, Sl.put, Sl.mut, Option.bind, cmpD, ltD, leD, gtD, geD, addD, subD, negD, modD, mMakF, mkA, sFldS, putD, fldD, mBinO, mOpO, mCmpO, mEqO, mUnO, mLenO, mSubO, mIxO, mPrp, cand_int, cand_tup, cand_lst, cand_scr, cand_str, cand_bl, cand_non, cand_ins, look0, okY_ii, okY_int, sameC_ii, mCmpG, mEqG, okE_n, okE_01, okE_int, okE_bl, okE_str, okE_non, look1, look01, look10, mTruO, mBlO, sParX, xS, xO, xNil, stoX_cons, stoX_nil, It.sl, zip2, zip3, blD, lenD, eqD, neD, Option.map_some, eqB_int,
  List.map, List.length_cons, List.length_nil, List.getElem?_cons_zero, List.getElem?_cons_succ, List.set_cons_zero, List.set_cons_succ, List.append, List.cons_append, List.nil_append, List.replicate, List.take, Nat.reduceAdd, Nat.reduceSub, Bool.not_true, Bool.not_false, decide_true, decide_false, beq_self_eq_true, bne_self_eq_false, Bool.false_eq_true, reduceIte, ↓reduceIte, lkk, lkn, lk0, Nat.reduceBEq, e2, e3, sPar2, sStos, h6, h7])]
    exact (app_ow (xs := Y) (xs' := Y) (z := toD (.mov d x (t - 40))) (e1 := dE p4 q4 z Y x3 (.sh (.int W)) (oS x5) (.sh (.int d)) (.sh (.int x)) (oS x8) (oS x9)) rfl (by simp only [DL.bnd, DL.ret, DL.lft, mVar, mCons, mNil, mCallA, callA, callAF, callB, mCallAF, mCallB, mBin, mUn, mB, mTru, truD, mNot, mAnd, mOr, mBv, mIf, mCb, mChain, mTup, mLst, sSeq, sNx, sIf, sRet, sRetF, sDrop, sSet, sSetF, sto_np, npAt, np_sh, np_ow, np_no, cm_sh, cm_no, DL.nox, fnM, DL.run,
  frz, full_lst, full_ins, nmN, DL.own, mdf, Sl.put, Sl.mut, Option.bind, cmpD, ltD, leD, gtD, geD, addD, subD, negD, modD, mMakF, mkA, sFldS, putD, fldD, mBinO, mOpO, mCmpO, mEqO, mUnO, mLenO, mSubO, mIxO, mPrp, cand_int, cand_tup, cand_lst, cand_scr, cand_str, cand_bl, cand_non, cand_ins, look0, okY_ii, okY_int, sameC_ii, mCmpG, mEqG, okE_n, okE_01, okE_int, okE_bl, okE_str, okE_non, look1, look01, look10, mTruO, mBlO, sParX, xS, xO, xNil, stoX_cons, stoX_nil, It.sl, zip2, zip3, blD, lenD, eqD, neD, Option.map_some, eqB_int,
  List.map, List.length_cons, List.length_nil, List.getElem?_cons_zero, List.getElem?_cons_succ, List.set_cons_zero, List.set_cons_succ, List.append, List.cons_append, List.nil_append, List.replicate, List.take, Nat.reduceAdd, Nat.reduceSub, Bool.not_true, Bool.not_false, decide_true, decide_false, beq_self_eq_true, bne_self_eq_false, Bool.false_eq_true, reduceIte, ↓reduceIte, lkk, lkn, lk0, Nat.reduceBEq, e4, sm4, toD]) rfl hz).trans rfl
  rw [if_f (e1 := dE p1 q1 z Y x3 (.sh (.int W)) (oS x5) (oS x6) (oS x7) (oS x8) (oS x9)) (by simp only [DL.bnd, DL.ret, DL.lft, mVar, mCons, mNil, mCallA, callA, callAF, callB, mCallAF, mCallB, mBin, mUn, mB, mTru, truD, mNot, mAnd, mOr, mBv, mIf, mCb, mChain, mTup, mLst, sSeq, sNx, sIf, sRet, sRetF, sDrop, sSet, sSetF, sto_np, npAt, np_sh, np_ow, np_no, cm_sh, cm_no, DL.nox, fnM, DL.run,
  frz, full_lst, full_ins, nmN, DL.own, mdf, Sl.put, Sl.mut, Option.bind, cmpD, ltD, leD, gtD, geD, addD, subD, negD, modD, mMakF, mkA, sFldS, putD, fldD, mBinO, mOpO, mCmpO, mEqO, mUnO, mLenO, mSubO, mIxO, mPrp, cand_int, cand_tup, cand_lst, cand_scr, cand_str, cand_bl, cand_non, cand_ins, look0, okY_ii, okY_int, sameC_ii, mCmpG, mEqG, okE_n, okE_01, okE_int, okE_bl, okE_str, okE_non, look1, look01, look10, mTruO, mBlO, sParX, xS, xO, xNil, stoX_cons, stoX_nil, It.sl, zip2, zip3, blD, lenD, eqD, neD, Option.map_some, eqB_int,
  List.map, List.length_cons, List.length_nil, List.getElem?_cons_zero, List.getElem?_cons_succ, List.set_cons_zero, List.set_cons_succ, List.append, List.cons_append, List.nil_append, List.replicate, List.take, Nat.reduceAdd, Nat.reduceSub, Bool.not_true, Bool.not_false, decide_true, decide_false, beq_self_eq_true, bne_self_eq_false, Bool.false_eq_true, reduceIte, ↓reduceIte, lkk, lkn, lk0, Nat.reduceBEq, cd_int, c3])]
  by_cases c4 : W = 4
  · obtain ⟨d, p2, q2, d0, d1, e2⟩ := tk p1 q1 8 (by decide) (by decide)
    obtain ⟨f, p3, q3, f0, f1, e3⟩ := tk p2 q2 4 (by decide) (by decide)
    obtain ⟨x, p4, q4, x0, x1, e4⟩ := tk p3 q3 8 (by decide) (by decide)
    obtain ⟨y, p5, q5, y0, y1, e5⟩ := tk p4 q4 8 (by decide) (by decide)
    refine ⟨p5, q5, .pck d f x y, some (.int W), x5, some (.int d), x7, some (.int f), x9, ⟨⟨d0, by omega⟩, ⟨f0, by omega⟩, ⟨x0, by omega⟩, ⟨y0, by omega⟩⟩, trivial, ?_⟩
    rw [if_t (e1 := dE p1 q1 z Y x3 (.sh (.int W)) (oS x5) (oS x6) (oS x7) (oS x8) (oS x9)) (by simp only [DL.bnd, DL.ret, DL.lft, mVar, mCons, mNil, mCallA, callA, callAF, callB, mCallAF, mCallB, mBin, mUn, mB, mTru, truD, mNot, mAnd, mOr, mBv, mIf, mCb, mChain, mTup, mLst, sSeq, sNx, sIf, sRet, sRetF, sDrop, sSet, sSetF, sto_np, npAt, np_sh, np_ow, np_no, cm_sh, cm_no, DL.nox, fnM, DL.run,
  frz, full_lst, full_ins, nmN, DL.own, mdf, Sl.put, Sl.mut, Option.bind, cmpD, ltD, leD, gtD, geD, addD, subD, negD, modD, mMakF, mkA, sFldS, putD, fldD, mBinO, mOpO, mCmpO, mEqO, mUnO, mLenO, mSubO, mIxO, mPrp, cand_int, cand_tup, cand_lst, cand_scr, cand_str, cand_bl, cand_non, cand_ins, look0, okY_ii, okY_int, sameC_ii, mCmpG, mEqG, okE_n, okE_01, okE_int, okE_bl, okE_str, okE_non, look1, look01, look10, mTruO, mBlO, sParX, xS, xO, xNil, stoX_cons, stoX_nil, It.sl, zip2, zip3, blD, lenD, eqD, neD, Option.map_some, eqB_int,
  List.map, List.length_cons, List.length_nil, List.getElem?_cons_zero, List.getElem?_cons_succ, List.set_cons_zero, List.set_cons_succ, List.append, List.cons_append, List.nil_append, List.replicate, List.take, Nat.reduceAdd, Nat.reduceSub, Bool.not_true, Bool.not_false, decide_true, decide_false, beq_self_eq_true, bne_self_eq_false, Bool.false_eq_true, reduceIte, ↓reduceIte, lkk, lkn, lk0, Nat.reduceBEq, cd_int, c4])]
    rw [seq_nx (e1 := dE p3 q3 z Y x3 (.sh (.int W)) (oS x5) (.sh (.int d)) (oS x7) (.sh (.int f)) (oS x9)) (by simp only [DL.bnd, DL.ret, DL.lft, mVar, mCons, mNil, mCallA, callA, callAF, callB, mCallAF, mCallB, mBin, mUn, mB, mTru, truD, mNot, mAnd, mOr, mBv, mIf, mCb, mChain, mTup, mLst, sSeq, sNx, sIf, sRet, sRetF, sDrop, sSet, sSetF, sto_np, npAt, np_sh, np_ow, np_no, cm_sh, cm_no, DL.nox, fnM, DL.run,
  frz, full_lst, full_ins, nmN, DL.own, mdf, Sl.put, Sl.mut, Option.bind, cmpD, ltD, leD, gtD, geD, addD, subD, negD, modD, mMakF, mkA, sFldS, putD, fldD, mBinO, mOpO, mCmpO, mEqO, mUnO, mLenO, mSubO, mIxO, mPrp, cand_int, cand_tup, cand_lst, cand_scr, cand_str, cand_bl, cand_non, cand_ins, look0, okY_ii, okY_int, sameC_ii, mCmpG, mEqG, okE_n, okE_01, okE_int, okE_bl, okE_str, okE_non, look1, look01, look10, mTruO, mBlO, sParX, xS, xO, xNil, stoX_cons, stoX_nil, It.sl, zip2, zip3, blD, lenD, eqD, neD, Option.map_some, eqB_int,
  List.map, List.length_cons, List.length_nil, List.getElem?_cons_zero, List.getElem?_cons_succ, List.set_cons_zero, List.set_cons_succ, List.append, List.cons_append, List.nil_append, List.replicate, List.take, Nat.reduceAdd, Nat.reduceSub, Bool.not_true, Bool.not_false, decide_true, decide_false, beq_self_eq_true, bne_self_eq_false, Bool.false_eq_true, reduceIte, ↓reduceIte, lkk, lkn, lk0, Nat.reduceBEq, e2, e3, sPar2, sStos, h6, h8])]
    exact (app_ow (xs := Y) (xs' := Y) (z := toD (.pck d f x y)) (e1 := dE p5 q5 z Y x3 (.sh (.int W)) (oS x5) (.sh (.int d)) (oS x7) (.sh (.int f)) (oS x9)) rfl (by simp only [DL.bnd, DL.ret, DL.lft, mVar, mCons, mNil, mCallA, callA, callAF, callB, mCallAF, mCallB, mBin, mUn, mB, mTru, truD, mNot, mAnd, mOr, mBv, mIf, mCb, mChain, mTup, mLst, sSeq, sNx, sIf, sRet, sRetF, sDrop, sSet, sSetF, sto_np, npAt, np_sh, np_ow, np_no, cm_sh, cm_no, DL.nox, fnM, DL.run,
  frz, full_lst, full_ins, nmN, DL.own, mdf, Sl.put, Sl.mut, Option.bind, cmpD, ltD, leD, gtD, geD, addD, subD, negD, modD, mMakF, mkA, sFldS, putD, fldD, mBinO, mOpO, mCmpO, mEqO, mUnO, mLenO, mSubO, mIxO, mPrp, cand_int, cand_tup, cand_lst, cand_scr, cand_str, cand_bl, cand_non, cand_ins, look0, okY_ii, okY_int, sameC_ii, mCmpG, mEqG, okE_n, okE_01, okE_int, okE_bl, okE_str, okE_non, look1, look01, look10, mTruO, mBlO, sParX, xS, xO, xNil, stoX_cons, stoX_nil, It.sl, zip2, zip3, blD, lenD, eqD, neD, Option.map_some, eqB_int,
  List.map, List.length_cons, List.length_nil, List.getElem?_cons_zero, List.getElem?_cons_succ, List.set_cons_zero, List.set_cons_succ, List.append, List.cons_append, List.nil_append, List.replicate, List.take, Nat.reduceAdd, Nat.reduceSub, Bool.not_true, Bool.not_false, decide_true, decide_false, beq_self_eq_true, bne_self_eq_false, Bool.false_eq_true, reduceIte, ↓reduceIte, lkk, lkn, lk0, Nat.reduceBEq, e4, e5, sm5, toD]) rfl hz).trans rfl
  rw [if_f (e1 := dE p1 q1 z Y x3 (.sh (.int W)) (oS x5) (oS x6) (oS x7) (oS x8) (oS x9)) (by simp only [DL.bnd, DL.ret, DL.lft, mVar, mCons, mNil, mCallA, callA, callAF, callB, mCallAF, mCallB, mBin, mUn, mB, mTru, truD, mNot, mAnd, mOr, mBv, mIf, mCb, mChain, mTup, mLst, sSeq, sNx, sIf, sRet, sRetF, sDrop, sSet, sSetF, sto_np, npAt, np_sh, np_ow, np_no, cm_sh, cm_no, DL.nox, fnM, DL.run,
  frz, full_lst, full_ins, nmN, DL.own, mdf, Sl.put, Sl.mut, Option.bind, cmpD, ltD, leD, gtD, geD, addD, subD, negD, modD, mMakF, mkA, sFldS, putD, fldD, mBinO, mOpO, mCmpO, mEqO, mUnO, mLenO, mSubO, mIxO, mPrp, cand_int, cand_tup, cand_lst, cand_scr, cand_str, cand_bl, cand_non, cand_ins, look0, okY_ii, okY_int, sameC_ii, mCmpG, mEqG, okE_n, okE_01, okE_int, okE_bl, okE_str, okE_non, look1, look01, look10, mTruO, mBlO, sParX, xS, xO, xNil, stoX_cons, stoX_nil, It.sl, zip2, zip3, blD, lenD, eqD, neD, Option.map_some, eqB_int,
  List.map, List.length_cons, List.length_nil, List.getElem?_cons_zero, List.getElem?_cons_succ, List.set_cons_zero, List.set_cons_succ, List.append, List.cons_append, List.nil_append, List.replicate, List.take, Nat.reduceAdd, Nat.reduceSub, Bool.not_true, Bool.not_false, decide_true, decide_false, beq_self_eq_true, bne_self_eq_false, Bool.false_eq_true, reduceIte, ↓reduceIte, lkk, lkn, lk0, Nat.reduceBEq, cd_int, c4])]
  obtain ⟨u, p2, q2, u0, u1, e2⟩ := tk p1 q1 4 (by decide) (by decide)
  obtain ⟨f, p3, q3, f0, f1, e3⟩ := tk p2 q2 4 (by decide) (by decide)
  obtain ⟨x, p4, q4, x0, x1, e4⟩ := tk p3 q3 8 (by decide) (by decide)
  obtain ⟨y, p5, q5, y0, y1, e5⟩ := tk p4 q4 8 (by decide) (by decide)
  obtain ⟨r, hr, hr2⟩ := y4s u0 u1 "add" "sub" "less" "same"
  have key : ∀ o : Op, Vd z o → SmO o → toD o = .tup [.str r, .int f, .int x, .int y] → ∃ p' q' o, ∃ y4 y5 y6 y7 y8 y9 : Option D, Vd z o ∧ SmO o ∧ sSeq (sPar2 9 6 (mCons (mSubO [(2, F_Program_getitem)] (mLst (mCons (DL.ret (.str "add")) (mCons (DL.ret (.str "sub")) (mCons (DL.ret (.str "less")) (mCons (DL.ret (.str "same")) mNil))))) (mCallB F_law_take 0 [] (mCons (DL.ret (.int 4)) mNil))) (mCons (mCallB F_law_take 0 [] (mCons (DL.ret (.int 4)) mNil)) mNil)))
      (sApp 2 (mTup (mCons (mVar 9) (mCons (mVar 6) (mCons (mCallB F_law_take 0 [] (mCons (DL.ret (.int 8)) mNil)) (mCons (mCallB F_law_take 0 [] (mCons (DL.ret (.int 8)) mNil)) mNil)))))) (dE p1 q1 z Y x3 (.sh (.int W)) (oS x5) (oS x6) (oS x7) (oS x8) (oS x9)) = .ok .nx (dE p' q' z (Y ++ [toD o]) x3 (oS y4) (oS y5) (oS y6) (oS y7) (oS y8) (oS y9)) := fun o v s ho => by
    refine ⟨p5, q5, o, some (.int W), x5, some (.int f), x7, x8, some (.str r), v, s, ?_⟩
    rw [seq_nx (e1 := dE p3 q3 z Y x3 (.sh (.int W)) (oS x5) (.sh (.int f)) (oS x7) (oS x8) (.sh (.str r))) (by simp only [DL.bnd, DL.ret, DL.lft, mVar, mCons, mNil, mCallA, callA, callAF, callB, mCallAF, mCallB, mBin, mUn, mB, mTru, truD, mNot, mAnd, mOr, mBv, mIf, mCb, mChain, mTup, mLst, sSeq, sNx, sIf, sRet, sRetF, sDrop, sSet, sSetF, sto_np, npAt, np_sh, np_ow, np_no, cm_sh, cm_no, DL.nox, fnM, DL.run,
  frz, full_lst, full_ins, nmN, DL.own, mdf, Sl.put, Sl.mut, Option.bind, cmpD, ltD, leD, gtD, geD, addD, subD, negD, modD, mMakF, mkA, sFldS, putD, fldD, mBinO, mOpO, mCmpO, mEqO, mUnO, mLenO, mSubO, mIxO, mPrp, cand_int, cand_tup, cand_lst, cand_scr, cand_str, cand_bl, cand_non, cand_ins, look0, okY_ii, okY_int, sameC_ii, mCmpG, mEqG, okE_n, okE_01, okE_int, okE_bl, okE_str, okE_non, look1, look01, look10, mTruO, mBlO, sParX, xS, xO, xNil, stoX_cons, stoX_nil, It.sl, zip2, zip3, blD, lenD, eqD, neD, Option.map_some, eqB_int,
  List.map, List.length_cons, List.length_nil, List.getElem?_cons_zero, List.getElem?_cons_succ, List.set_cons_zero, List.set_cons_succ, List.append, List.cons_append, List.nil_append, List.replicate, List.take, Nat.reduceAdd, Nat.reduceSub, Bool.not_true, Bool.not_false, decide_true, decide_false, beq_self_eq_true, bne_self_eq_false, Bool.false_eq_true, reduceIte, ↓reduceIte, lkk, lkn, lk0, Nat.reduceBEq, e2, e3, sm4, cd_lst, hr, sPar2, sStos, h6, h9])]
    exact (app_ow (xs := Y) (xs' := Y) (z := toD o) (e1 := dE p5 q5 z Y x3 (.sh (.int W)) (oS x5) (.sh (.int f)) (oS x7) (oS x8) (.sh (.str r))) rfl (by rw [ho]; simp only [DL.bnd, DL.ret, DL.lft, mVar, mCons, mNil, mCallA, callA, callAF, callB, mCallAF, mCallB, mBin, mUn, mB, mTru, truD, mNot, mAnd, mOr, mBv, mIf, mCb, mChain, mTup, mLst, sSeq, sNx, sIf, sRet, sRetF, sDrop, sSet, sSetF, sto_np, npAt, np_sh, np_ow, np_no, cm_sh, cm_no, DL.nox, fnM, DL.run,
  frz, full_lst, full_ins, nmN, DL.own, mdf, Sl.put, Sl.mut, Option.bind, cmpD, ltD, leD, gtD, geD, addD, subD, negD, modD, mMakF, mkA, sFldS, putD, fldD, mBinO, mOpO, mCmpO, mEqO, mUnO, mLenO, mSubO, mIxO, mPrp, cand_int, cand_tup, cand_lst, cand_scr, cand_str, cand_bl, cand_non, cand_ins, look0, okY_ii, okY_int, sameC_ii, mCmpG, mEqG, okE_n, okE_01, okE_int, okE_bl, okE_str, okE_non, look1, look01, look10, mTruO, mBlO, sParX, xS, xO, xNil, stoX_cons, stoX_nil, It.sl, zip2, zip3, blD, lenD, eqD, neD, Option.map_some, eqB_int,
  List.map, List.length_cons, List.length_nil, List.getElem?_cons_zero, List.getElem?_cons_succ, List.set_cons_zero, List.set_cons_succ, List.append, List.cons_append, List.nil_append, List.replicate, List.take, Nat.reduceAdd, Nat.reduceSub, Bool.not_true, Bool.not_false, decide_true, decide_false, beq_self_eq_true, bne_self_eq_false, Bool.false_eq_true, reduceIte, ↓reduceIte, lkk, lkn, lk0, Nat.reduceBEq, e4, e5, sm4]) rfl hz).trans rfl
  have hf : Rg f := ⟨f0, by omega⟩
  have hx : Rg x := ⟨x0, by omega⟩
  have hy : Rg y := ⟨y0, by omega⟩
  have hf2 : Fl f := ⟨f0, by omega⟩
  rcases hr2 with rfl | rfl | rfl | rfl
  · exact key (.add f x y) ⟨hf, hx, hy⟩ trivial rfl
  · exact key (.sub f x y) ⟨hf, hx, hy⟩ trivial rfl
  · exact key (.les f x y) ⟨hf2, hx, hy⟩ trivial rfl
  · exact key (.sam f x y) ⟨hf2, hx, hy⟩ trivial rfl
end LW

set_option Elab.async false
set_option linter.all false
set_option maxRecDepth 100000
set_option maxHeartbeats 1000000
namespace LW
open PySem L2 DL PyProof.Rows
open TL (tl)
theorem any_loop {z : Int} (z0 : 0 ≤ z) (z1 : z ≤ 20) : ∀ (ks : List Nat) (p q : Int) (Y : List D) (x3 x4 x5 x6 x7 x8 x9 : Option D), Y.length + ks.length ≤ 100 →
    ∃ (p' q' : Int) (os : List Op), ∃ y3 y4 y5 y6 y7 y8 y9 : Option D, os.length = ks.length ∧ (∀ o ∈ os, Vd z o ∧ SmO o) ∧ sLoop (tgName 3) b_law_any_code_1 (ks.map fun i => .int ((i : Nat) : Int)) (dE p q z Y (oS x3) (oS x4) (oS x5) (oS x6) (oS x7) (oS x8) (oS x9)) = .ok .nx (dE p' q' z (Y ++ os.map toD) (oS y3) (oS y4) (oS y5) (oS y6) (oS y7) (oS y8) (oS y9))
  | [], p, q, Y, x3, x4, x5, x6, x7, x8, x9, _ => ⟨p, q, [], x3, x4, x5, x6, x7, x8, x9, rfl, by simp, by simp only [List.map_nil, sLoop, List.append_nil, sNx, DL.ret]⟩
  | k :: ks, p, q, Y, x3, x4, x5, x6, x7, x8, x9, hl => by
    rw [List.length_cons] at hl
    obtain ⟨p1, q1, o, y4, y5, y6, y7, y8, y9, v, s, hb⟩ := b_any p q z0 z1 (Y := Y) (by omega) (.sh (.int (k : Int))) x4 x5 x6 x7 x8 x9
    obtain ⟨p2, q2, os, u3, u4, u5, u6, u7, u8, u9, l, h, ih⟩ := any_loop z0 z1 ks p1 q1 (Y ++ [toD o]) (some (.int (k : Int))) y4 y5 y6 y7 y8 y9 (by rw [List.length_append]; simp only [List.length_cons, List.length_nil]; omega)
    refine ⟨p2, q2, o :: os, u3, u4, u5, u6, u7, u8, u9, by rw [List.length_cons, List.length_cons, l], ?_, ?_⟩
    · intro o' ho
      rcases List.mem_cons.mp ho with rfl | ho
      · exact ⟨v, s⟩
      · exact h o' ho
    · have ht : tgName 3 (.int (k : Int)) (dE p q z Y (oS x3) (oS x4) (oS x5) (oS x6) (oS x7) (oS x8) (oS x9)) = some (dE p q z Y (.sh (.int (k : Int))) (oS x4) (oS x5) (oS x6) (oS x7) (oS x8) (oS x9)) := by
        cases x3 <;> rfl
      rw [List.map_cons, loop_nx ht hb, List.map_cons, List.append_cons Y (toD o) (os.map toD)]
      exact ih
theorem rng_nat (n : Nat) (h : n ≤ 1000000) (x : M (List D)) (env e1 : En) (hx : x env = .ok [.int (n : Int)] e1) : iArg rng1D x env = .ok ((List.range n).map fun i => .int ((i : Nat) : Int)) e1 := by
  have h2 : ((n : Int) ≤ 1000000 ∧ -1000000 ≤ (n : Int)) := ⟨by omega, by omega⟩
  simp only [iArg, DL.bnd, hx, rng1D, DL.lft, h2, and_self, if_true, Int.toNat_natCast]
theorem e_any (p q : Int) {n : Nat} (hn : n ≤ 20) : ∃ (p' q' : Int) (os : List Op), os.length = n ∧ VL os ∧ (∀ o ∈ os, SmO o) ∧ F_law_any_code [.pn (Pl p q), .sh (.int (n : Int))] = .ok (.rt (.lst (os.map toD))) [.pn (Pl p' q'), .sh (.int (n : Int))] := by
  obtain ⟨p', q', os, y3, y4, y5, y6, y7, y8, y9, l, h, hL⟩ := any_loop (z := (n : Int)) (by omega) (by omega) (List.range n) p q [] none none none none none none none (by rw [List.length_range]; simp only [List.length_nil]; omega)
  rw [List.length_range] at l
  refine ⟨p', q', os, l, fun o ho => by rw [l]; exact (h o ho).1, fun o ho => (h o ho).2, ?_⟩
  refine fn_rt rfl (e := [.pn (Pl p' q'), .sh (.int (n : Int)), .sh (.lst (os.map toD)), oS y3, oS y4, oS y5, oS y6, oS y7, oS y8, oS y9]) ?_ rfl
  show m_law_any_code [.pn (Pl p q), .sh (.int (n : Int)), .no, .no, .no, .no, .no, .no, .no, .no] = _
  unfold m_law_any_code
  rw [seq_nx (e1 := dE p q (n : Int) [] .no .no .no .no .no .no .no), seq_nx (e1 := dE p' q' (n : Int) (os.map toD) (oS y3) (oS y4) (oS y5) (oS y6) (oS y7) (oS y8) (oS y9))]
  · simp only [DL.bnd, DL.ret, DL.lft, mVar, mCons, mNil, mCallA, callA, callAF, callB, mCallAF, mCallB, mBin, mUn, mB, mTru, truD, mNot, mAnd, mOr, mBv, mIf, mCb, mChain, mTup, mLst, sSeq, sNx, sIf, sRet, sRetF, sDrop, sSet, sSetF, sto_np, npAt, np_sh, np_ow, np_no, cm_sh, cm_no, DL.nox, fnM, DL.run,
  frz, full_lst, full_ins, nmN, DL.own, mdf, Sl.put, Sl.mut, Option.bind, cmpD, ltD, leD, gtD, geD, addD, subD, negD, modD, mMakF, mkA, sFldS, putD, fldD, mBinO, mOpO, mCmpO, mEqO, mUnO, mLenO, mSubO, mIxO, mPrp, cand_int, cand_tup, cand_lst, cand_scr, cand_str, cand_bl, cand_non, cand_ins, look0, okY_ii, okY_int, sameC_ii, mCmpG, mEqG, okE_n, okE_01, okE_int, okE_bl, okE_str, okE_non, look1, look01, look10, mTruO, mBlO, sParX, xS, xO, xNil, stoX_cons, stoX_nil, It.sl, zip2, zip3, blD, lenD, eqD, neD, Option.map_some, eqB_int,
  List.map, List.length_cons, List.length_nil, List.getElem?_cons_zero, List.getElem?_cons_succ, List.set_cons_zero, List.set_cons_succ, List.append, List.cons_append, List.nil_append, List.replicate, List.take, Nat.reduceAdd, Nat.reduceSub, Bool.not_true, Bool.not_false, decide_true, decide_false, beq_self_eq_true, bne_self_eq_false, Bool.false_eq_true, reduceIte, ↓reduceIte, lkk, lkn, lk0, Nat.reduceBEq]
  · exact for_ok (e1 := dE p q (n : Int) [] .no .no .no .no .no .no .no) (rng_nat n (by omega) _ _ _ (by simp only [DL.bnd, DL.ret, DL.lft, mVar, mCons, mNil, mCallA, callA, callAF, callB, mCallAF, mCallB, mBin, mUn, mB, mTru, truD, mNot, mAnd, mOr, mBv, mIf, mCb, mChain, mTup, mLst, sSeq, sNx, sIf, sRet, sRetF, sDrop, sSet, sSetF, sto_np, npAt, np_sh, np_ow, np_no, cm_sh, cm_no, DL.nox, fnM, DL.run,
  frz, full_lst, full_ins, nmN, DL.own, mdf, Sl.put, Sl.mut, Option.bind, cmpD, ltD, leD, gtD, geD, addD, subD, negD, modD, mMakF, mkA, sFldS, putD, fldD, mBinO, mOpO, mCmpO, mEqO, mUnO, mLenO, mSubO, mIxO, mPrp, cand_int, cand_tup, cand_lst, cand_scr, cand_str, cand_bl, cand_non, cand_ins, look0, okY_ii, okY_int, sameC_ii, mCmpG, mEqG, okE_n, okE_01, okE_int, okE_bl, okE_str, okE_non, look1, look01, look10, mTruO, mBlO, sParX, xS, xO, xNil, stoX_cons, stoX_nil, It.sl, zip2, zip3, blD, lenD, eqD, neD, Option.map_some, eqB_int,
  List.map, List.length_cons, List.length_nil, List.getElem?_cons_zero, List.getElem?_cons_succ, List.set_cons_zero, List.set_cons_succ, List.append, List.cons_append, List.nil_append, List.replicate, List.take, Nat.reduceAdd, Nat.reduceSub, Bool.not_true, Bool.not_false, decide_true, decide_false, beq_self_eq_true, bne_self_eq_false, Bool.false_eq_true, reduceIte, ↓reduceIte, lkk, lkn, lk0, Nat.reduceBEq])) hL
  · simp only [DL.bnd, DL.ret, DL.lft, mVar, mCons, mNil, mCallA, callA, callAF, callB, mCallAF, mCallB, mBin, mUn, mB, mTru, truD, mNot, mAnd, mOr, mBv, mIf, mCb, mChain, mTup, mLst, sSeq, sNx, sIf, sRet, sRetF, sDrop, sSet, sSetF, sto_np, npAt, np_sh, np_ow, np_no, cm_sh, cm_no, DL.nox, fnM, DL.run,
  frz, full_lst, full_ins, nmN, DL.own, mdf, Sl.put, Sl.mut, Option.bind, cmpD, ltD, leD, gtD, geD, addD, subD, negD, modD, mMakF, mkA, sFldS, putD, fldD, mBinO, mOpO, mCmpO, mEqO, mUnO, mLenO, mSubO, mIxO, mPrp, cand_int, cand_tup, cand_lst, cand_scr, cand_str, cand_bl, cand_non, cand_ins, look0, okY_ii, okY_int, sameC_ii, mCmpG, mEqG, okE_n, okE_01, okE_int, okE_bl, okE_str, okE_non, look1, look01, look10, mTruO, mBlO, sParX, xS, xO, xNil, stoX_cons, stoX_nil, It.sl, zip2, zip3, blD, lenD, eqD, neD, Option.map_some, eqB_int,
  List.map, List.length_cons, List.length_nil, List.getElem?_cons_zero, List.getElem?_cons_succ, List.set_cons_zero, List.set_cons_succ, List.append, List.cons_append, List.nil_append, List.replicate, List.take, Nat.reduceAdd, Nat.reduceSub, Bool.not_true, Bool.not_false, decide_true, decide_false, beq_self_eq_true, bne_self_eq_false, Bool.false_eq_true, reduceIte, ↓reduceIte, lkk, lkn, lk0, Nat.reduceBEq, sm0]
/-! texts of data -/
def Rq (B N : Nat) (d : D) : Prop := ∃ p : PyData, toPD d = some p ∧ p.showable = true ∧ p.leavesShort 2000 = true ∧ p.bulk ≤ B ∧ p.depth ≤ N
theorem rq_all {B N : Nat} : ∀ {ds : List D}, (∀ d ∈ ds, Rq B N d) → ∃ ps : List PyData, toPDs ds = some ps ∧ PyData.showableAll ps = true ∧ PyData.leavesShortAll 2000 ps = true ∧ PyData.bulkAll ps ≤ (B + 1) * ds.length ∧ PyData.depthAll ps ≤ N
  | [], _ => ⟨[], by simp [toPDs], by simp [PyData.showableAll], by simp [PyData.leavesShortAll], by simp [PyData.bulkAll], by simp [PyData.depthAll]⟩
  | d :: ds, h => by
    obtain ⟨p, h1, h2, h3, h4, h5⟩ := h d List.mem_cons_self
    obtain ⟨ps, k1, k2, k3, k4, k5⟩ := rq_all fun d' hd => h d' (List.mem_cons_of_mem _ hd)
    refine ⟨p :: ps, by simp only [toPDs, h1, k1], by simp only [PyData.showableAll, h2, k2, Bool.and_self], by simp only [PyData.leavesShortAll, h3, k3, Bool.and_self], ?_, by simp only [PyData.depthAll]; omega⟩
    simp only [PyData.bulkAll, List.length_cons]
    rw [Nat.mul_add]
    omega
theorem rq_tup {B N : Nat} {ds : List D} (h : ∀ d ∈ ds, Rq B N d) : Rq ((B + 1) * ds.length) (N + 1) (.tup ds) := by
  obtain ⟨ps, k1, k2, k3, k4, k5⟩ := rq_all h
  exact ⟨.tuple ps, by simp only [toPD, k1, Option.map_some], by simp only [PyData.showable, k2], by simp only [PyData.leavesShort, k3], by simp only [PyData.bulk]; exact k4, by simp only [PyData.depth]; omega⟩
theorem Rq.up {B B' N N' : Nat} {d : D} (h : Rq B N d) (hb : B ≤ B') (hn : N ≤ N') : Rq B' N' d := by
  obtain ⟨p, h1, h2, h3, h4, h5⟩ := h
  exact ⟨p, h1, h2, h3, by omega, by omega⟩
theorem rq_repr {B N : Nat} {d : D} (h : Rq B N d) (hb : B ≤ 8000) (hn : N ≤ 90) : ∃ r, reprG [d] = some (.str r) := by
  obtain ⟨p, h1, h2, h3, h4, h5⟩ := h
  have ok : reprOk p = true := by
    unfold reprOk
    rw [h2, h3, decide_eq_true (by omega : p.bulk ≤ 8000), decide_eq_true (by omega : p.depth ≤ 90)]
    rfl
  refine ⟨p.shown, ?_⟩
  show ((toPD d).bind fun p => if reprOk p = true then some (D.str p.shown) else none) = _
  rw [h1]
  exact if_pos ok
theorem rq_int {i : Int} (h : Sm i) (B N : Nat) : Rq B N (.int i) := by
  refine ⟨.int i, by simp [toPD], ?_, ?_, by simp [PyData.bulk], by simp [PyData.depth]⟩
  · simp only [PyData.showable]
    exact decide_eq_true h.2
  · simp only [PyData.leavesShort]
    refine decide_eq_true ?_
    rw [PyData.shown_int]
    exact Nat.le_trans (nS_len h) (by decide)
theorem rq_wd (o : Op) (N : Nat) : Rq 4 N (.str (wd o)) := by
  refine ⟨.str (wd o), by simp [toPD], by simp [PyData.showable], ?_, ?_, by simp [PyData.depth]⟩
  · simp only [PyData.leavesShort]
    cases o <;> kernel_rfl
  · simp only [PyData.bulk]
    exact wd_len o
theorem rq_op {n : Int} (hn : n ≤ 200) {o : Op} (v : Vd n o) (s : SmO o) : Rq 25 1 (toD o) := by
  have h : Rq ((4 + 1) * (D.str (wd o) :: (its o).map fun p => .int p.2).length) (0 + 1) (toD o) := by
    rw [toD_tup]
    refine rq_tup fun d hd => ?_
    rcases List.mem_cons.mp hd with rfl | hd
    · exact rq_wd o 0
    · obtain ⟨p, hp, rfl⟩ := List.mem_map.mp hd
      exact rq_int (its_fine hn v s p hp).2.1 4 0
  refine h.up ?_ (by omega)
  rw [List.length_cons, List.length_map]
  have := its_len o
  omega
theorem e_repr {os : List Op} (hv : VL os) (hl : os.length ≤ 20) (hs : ∀ o ∈ os, SmO o) : ∃ r, reprG [.tup (os.map toD)] = some (.str r) := by
  refine rq_repr (rq_tup (B := 25) (N := 1) fun d hd => ?_) ?_ (by omega)
  · obtain ⟨o, ho, rfl⟩ := List.mem_map.mp hd
    exact rq_op (n := (os.length : Int)) (by omega) (hv o ho) (hs o ho)
  · rw [List.length_map]
    omega
end LW

set_option Elab.async false
set_option linter.all false
set_option maxRecDepth 100000
set_option maxHeartbeats 1000000
namespace LW
open PySem L2 DL PyProof.Rows
open TL (tl)
theorem sm6 : small 6 = true := rfl
/-! the long program -/
def LR (N M : Int) : List Op := [.set 0 N, .set 1 (-N), .jmp 3 200, .gto 0, .gto 99, .gto 100] ++ (List.replicate 97 [Op.add 7 6 5, .set 2 M]).flatten
theorem LR_len (N M : Int) : (LR N M).length = 200 := by
  unfold LR
  rw [List.length_append, List.length_flatten, List.map_replicate]
  simp
theorem LR_mem {N M : Int} {o : Op} (h : o ∈ LR N M) : o = .set 0 N ∨ o = .set 1 (-N) ∨ o = .jmp 3 200 ∨ o = .gto 0 ∨ o = .gto 99 ∨ o = .gto 100 ∨ o = .add 7 6 5 ∨ o = .set 2 M := by
  unfold LR at h
  rcases List.mem_append.mp h with h | h
  · simp only [List.mem_cons, List.not_mem_nil, or_false] at h
    rcases h with h | h | h | h | h | h <;> simp [h]
  · obtain ⟨l, hl, ho⟩ := List.mem_flatten.mp h
    rw [List.eq_of_mem_replicate hl] at ho
    simp only [List.mem_cons, List.not_mem_nil, or_false] at ho
    rcases ho with h | h <;> simp [h]
theorem LR_vl (N M : Int) : VL (LR N M) := by
  intro o ho
  rw [LR_len]
  rcases LR_mem ho with rfl | rfl | rfl | rfl | rfl | rfl | rfl | rfl <;> simp only [Vd, Rg, Fl] <;> omega
theorem LR_sm {N M : Int} (hN : Sm N) (hM : Sm M) : ∀ o ∈ LR N M, SmO o := by
  intro o ho
  rcases LR_mem ho with rfl | rfl | rfl | rfl | rfl | rfl | rfl | rfl
  · exact hN
  · exact sm_neg hN
  · trivial
  · trivial
  · trivial
  · trivial
  · trivial
  · exact hM
theorem LR_map (N M : Int) : (LR N M).map toD = [toD (.set 0 N), toD (.set 1 (-N)), toD (.jmp 3 200), toD (.gto 0), toD (.gto 99), toD (.gto 100)] ++ (List.replicate 97 [toD (.add 7 6 5), toD (.set 2 M)]).flatten := by
  unfold LR
  rw [List.map_append, List.map_flatten, List.map_replicate]
  rfl
theorem p60 : ∃ N : Int, (∀ env, pw_10_60 env = .ok (.int N) env) ∧ Sm N := ⟨10 ^ 60, fun _ => rfl, sm_pow (k := 61) (by decide) (by decide) (by decide)⟩
def mGreat : M D := mBin subD (mBin mulD (mBin mulD (mBin mulD pw_10_50 pw_10_50) pw_10_50) pw_10_50) (DL.ret (.int 1))
theorem pgreat : ∃ N : Int, (∀ env, mGreat env = .ok (.int N) env) ∧ Sm N := ⟨10 ^ 50 * 10 ^ 50 * 10 ^ 50 * 10 ^ 50 - 1, fun env => by kernel_rfl, sm_pow (k := 200) (of_decide_eq_true (by kernel_rfl)) (by decide) (by decide)⟩
/-- texts of lines -/
theorem lc_txt {xs : List Op} (hv : VL xs) (hl : xs.length ≤ 200) (hs : ∀ o ∈ xs, SmO o) {i v : Nat} {env : En} (h0 : mVar i env = .ok (.lst (xs.map toD)) env) (hv0 : env[v]? = some .no) (hlt : v < env.length) :
    mLc (iItm (mVar i)) (tgName v) (DL.ret true) (mCallA F_law_text [] (mCons (mVar v) mNil)) [v] env = .ok (.lst (xs.map fun o => .str (txO o))) env := by
  refine mLc_map (os := xs) (gi := toD) (go := fun o => .str (txO o)) (y := .no) ?_ hv0 rfl (decide_eq_true (by omega)) fun o ho => ?_
  · simp only [iItm, DL.bnd, h0, itemsD, DL.lft]
  · have h := e_ltxt (n := (xs.length : Int)) (by omega) (hv o ho) (hs o ho)
    have hm : mVar v (env.set v (.sh (toD o))) = .ok (toD o) (env.set v (.sh (toD o))) := by
      simp only [mVar, List.getElem?_set_self hlt]
    simp only [mCallA, mCons, mNil, DL.bnd, DL.ret, hm, List.append_nil, callA, List.map_cons, List.map_nil, h]
theorem join_txt {xs : List Op} (hv : VL xs) (hl : xs.length ≤ 200) (hs : ∀ o ∈ xs, SmO o) {Q : M D} {env : En} (hQ : Q env = .ok (.lst (xs.map fun o => .str (txO o))) env) : mM1 joinS (DL.ret (.str "\n")) (frz Q) env = .ok (.str (ptx xs)) env := by
  have hj := ptx_join hv hl hs
  have hf : full (.lst (xs.map fun o => D.str (txO o))) = true := rfl
  simp only [mM1, DL.bnd, DL.ret, frz, hQ, hf, if_true, DL.lft, hj]
theorem eqS_same (s : Str) : eqS true (.str s) (.str s) = some (.bl false) := by
  show some (D.bl (decide (s = s) != true)) = _
  rw [decide_eq_true rfl]
  rfl
theorem okE_P (xs : List Op) : okE [2] (Pg xs) = true := rfl
theorem e_long : F_law_long_right [] = .ok (.rt (.bl true)) [] := by
  obtain ⟨N, hN, sN⟩ := pgreat
  obtain ⟨M, hM, sM⟩ := p60
  have hv := LR_vl N M
  have hl : (LR N M).length ≤ 200 := by rw [LR_len]; omega
  have hs := LR_sm sN sM
  have hlen := LR_len N M
  have hmap := LR_map N M
  have hf := e_fprog hv hl hs
  have hp := e_pprog hv hl hs
  have ha := e_asm hv hl hs
  have hq := e_peq (LR N M)
  have hc : ∀ F, cand [(2, F)] (Pg (LR N M)) = some F := fun F => cdP F _
  have hok := okE_P (LR N M)
  have hnl : (((LR N M).map toD).length : Int) = 200 := by rw [List.length_map, hlen]; rfl
  generalize hX : (LR N M).map toD = X at hmap hnl
  have hL := lc_txt hv hl hs (i := 1) (v := 3) (env := [.sh (.int N), .sh (.lst X), .no, .no]) (by rw [hX]; rfl) rfl (by simp)
  have hJ := join_txt hv hl hs hL
  have hmk : ∀ t, frz (mMakF F_Program_init 2 [] (mCons (mVar 1) mNil)) [.sh (.int N), .sh (.lst X), t, .no] = .ok (Pg (LR N M)) [.sh (.int N), .sh (.lst X), t, .no] := fun t => e_punit hv hl (by rw [hX]; rfl)
  generalize Pg (LR N M) = P at hf hp ha hq hc hok hmk
  generalize ptx (LR N M) = T at hf hp ha hJ
  have hes := eqS_same T
  refine fn_rt rfl (e := [.sh (.int N), .sh (.lst X), .sh (.str T), .no]) ?_ rfl
  show m_law_long_right [.no, .no, .no, .no] = _
  unfold m_law_long_right
  show sSeq (sSet 0 mGreat) _ _ = _
  rw [seq_nx (e1 := [.sh (.int N), .no, .no, .no]), seq_nx (e1 := [.sh (.int N), .sh (.lst [toD (.set 0 N), toD (.set 1 (-N)), toD (.jmp 3 200), toD (.gto 0), toD (.gto 99), toD (.gto 100)]), .no, .no]),
    seq_nx (e1 := [.sh (.int N), .sh (.lst X), .no, .no]), seq_nx (e1 := [.sh (.int N), .sh (.lst X), .sh (.str T), .no]), seq_nx (if_no2 ?_)]
  · generalize frz (mMakF F_Program_init 2 [] (mCons (mVar 1) mNil)) = MK at hmk ⊢
    have tb : (true != false) = true := rfl
    simp only [DL.bnd, DL.ret, DL.lft, mVar, mCons, mNil, mCallA, callA, callAF, callB, mCallAF, mCallB, mBin, mUn, mB, mTru, truD, mNot, mAnd, mOr, mBv, mIf, mCb, mChain, mTup, mLst, sSeq, sNx, sIf, sRet, sRetF, sDrop, sSet, sSetF, sto_np, npAt, np_sh, np_ow, np_no, cm_sh, cm_no, DL.nox, fnM, DL.run,
  frz, full_lst, full_ins, nmN, DL.own, mdf, Sl.put, Sl.mut, Option.bind, cmpD, ltD, leD, gtD, geD, addD, subD, negD, modD, mMakF, mkA, sFldS, putD, fldD, mBinO, mOpO, mCmpO, mEqO, mUnO, mLenO, mSubO, mIxO, mPrp, cand_int, cand_tup, cand_lst, cand_scr, cand_str, cand_bl, cand_non, cand_ins, look0, okY_ii, okY_int, sameC_ii, mCmpG, mEqG, okE_n, okE_01, okE_int, okE_bl, okE_str, okE_non, look1, look01, look10, mTruO, mBlO, sParX, xS, xO, xNil, stoX_cons, stoX_nil, It.sl, zip2, zip3, blD, lenD, eqD, neD, Option.map_some, eqB_int,
  List.map, List.length_cons, List.length_nil, List.getElem?_cons_zero, List.getElem?_cons_succ, List.set_cons_zero, List.set_cons_succ, List.append, List.cons_append, List.nil_append, List.replicate, List.take, Nat.reduceAdd, Nat.reduceSub, Bool.not_true, Bool.not_false, decide_true, decide_false, beq_self_eq_true, bne_self_eq_false, Bool.false_eq_true, reduceIte, ↓reduceIte, lkk, lkn, lk0, Nat.reduceBEq, hp, ha, hmk, hc, hok, hq, tb]
  · generalize c_law_long_right_1 = Q at hJ ⊢
    have hcl : cand [(2, F_Program_len)] (.lst X) = none := rfl
    have he : eqB (.int 200) (.int 200) = some true := by kernel_rfl
    generalize frz (mMakF F_Program_init 2 [] (mCons (mVar 1) mNil)) = MK at hmk ⊢
    generalize eqS true = es at hes ⊢
    simp only [DL.bnd, DL.ret, DL.lft, mVar, mCons, mNil, mCallA, callA, callAF, callB, mCallAF, mCallB, mBin, mUn, mB, mTru, truD, mNot, mAnd, mOr, mBv, mIf, mCb, mChain, mTup, mLst, sSeq, sNx, sIf, sRet, sRetF, sDrop, sSet, sSetF, sto_np, npAt, np_sh, np_ow, np_no, cm_sh, cm_no, DL.nox, fnM, DL.run,
  frz, full_lst, full_ins, nmN, DL.own, mdf, Sl.put, Sl.mut, Option.bind, cmpD, ltD, leD, gtD, geD, addD, subD, negD, modD, mMakF, mkA, sFldS, putD, fldD, mBinO, mOpO, mCmpO, mEqO, mUnO, mLenO, mSubO, mIxO, mPrp, cand_int, cand_tup, cand_lst, cand_scr, cand_str, cand_bl, cand_non, cand_ins, look0, okY_ii, okY_int, sameC_ii, mCmpG, mEqG, okE_n, okE_01, okE_int, okE_bl, okE_str, okE_non, look1, look01, look10, mTruO, mBlO, sParX, xS, xO, xNil, stoX_cons, stoX_nil, It.sl, zip2, zip3, blD, lenD, eqD, neD, Option.map_some, eqB_int,
  List.map, List.length_cons, List.length_nil, List.getElem?_cons_zero, List.getElem?_cons_succ, List.set_cons_zero, List.set_cons_succ, List.append, List.cons_append, List.nil_append, List.replicate, List.take, Nat.reduceAdd, Nat.reduceSub, Bool.not_true, Bool.not_false, decide_true, decide_false, beq_self_eq_true, bne_self_eq_false, Bool.false_eq_true, reduceIte, ↓reduceIte, lkk, lkn, lk0, Nat.reduceBEq, hcl, hnl, lenD, cd_int, cd_str, hmk, hf, hes, he]
  · simp only [sSet, DL.bnd, hJ]
    simp only [DL.bnd, DL.ret, DL.lft, mVar, mCons, mNil, mCallA, callA, callAF, callB, mCallAF, mCallB, mBin, mUn, mB, mTru, truD, mNot, mAnd, mOr, mBv, mIf, mCb, mChain, mTup, mLst, sSeq, sNx, sIf, sRet, sRetF, sDrop, sSet, sSetF, sto_np, npAt, np_sh, np_ow, np_no, cm_sh, cm_no, DL.nox, fnM, DL.run,
  frz, full_lst, full_ins, nmN, DL.own, mdf, Sl.put, Sl.mut, Option.bind, cmpD, ltD, leD, gtD, geD, addD, subD, negD, modD, mMakF, mkA, sFldS, putD, fldD, mBinO, mOpO, mCmpO, mEqO, mUnO, mLenO, mSubO, mIxO, mPrp, cand_int, cand_tup, cand_lst, cand_scr, cand_str, cand_bl, cand_non, cand_ins, look0, okY_ii, okY_int, sameC_ii, mCmpG, mEqG, okE_n, okE_01, okE_int, okE_bl, okE_str, okE_non, look1, look01, look10, mTruO, mBlO, sParX, xS, xO, xNil, stoX_cons, stoX_nil, It.sl, zip2, zip3, blD, lenD, eqD, neD, Option.map_some, eqB_int,
  List.map, List.length_cons, List.length_nil, List.getElem?_cons_zero, List.getElem?_cons_succ, List.set_cons_zero, List.set_cons_succ, List.append, List.cons_append, List.nil_append, List.replicate, List.take, Nat.reduceAdd, Nat.reduceSub, Bool.not_true, Bool.not_false, decide_true, decide_false, beq_self_eq_true, bne_self_eq_false, Bool.false_eq_true, reduceIte, ↓reduceIte, lkk, lkn, lk0, Nat.reduceBEq]
  · have hmul : mulD (.lst [.tup [.str "add", .int 7, .int 6, .int 5], .tup [.str "set", .int 2, .int M]]) (.int 97) = some (.lst (List.replicate 97 [toD (.add 7 6 5), toD (.set 2 M)]).flatten) := by
      show (if -1000000 ≤ (97 : Int) ∧ (97 : Int) ≤ 1000000 ∧ 2 * Int.toNat 97 ≤ 16777216 then some (D.lst (List.replicate (Int.toNat 97) [toD (.add 7 6 5), toD (.set 2 M)]).flatten) else none) = _
      exact if_pos ⟨by decide, by decide, by decide⟩
    generalize (List.replicate 97 [toD (.add 7 6 5), toD (.set 2 M)]).flatten = BB at hmap hmul
    generalize [toD (.set 0 N), toD (.set 1 (-N)), toD (.jmp 3 200), toD (.gto 0), toD (.gto 99), toD (.gto 100)] = A at hmap ⊢
    have hadd : addD (.lst A) (.lst BB) = some (.lst X) := by
      rw [hmap]
      show (if A.length + BB.length ≤ 16777216 then some (D.lst (A ++ BB)) else none) = _
      refine if_pos ?_
      have h2 : X.length = 200 := by omega
      rw [hmap, List.length_append] at h2
      omega
    generalize addD = ad at hadd ⊢
    generalize mulD = mu at hmul ⊢
    simp only [DL.bnd, DL.ret, DL.lft, mVar, mCons, mNil, mCallA, callA, callAF, callB, mCallAF, mCallB, mBin, mUn, mB, mTru, truD, mNot, mAnd, mOr, mBv, mIf, mCb, mChain, mTup, mLst, sSeq, sNx, sIf, sRet, sRetF, sDrop, sSet, sSetF, sto_np, npAt, np_sh, np_ow, np_no, cm_sh, cm_no, DL.nox, fnM, DL.run,
  frz, full_lst, full_ins, nmN, DL.own, mdf, Sl.put, Sl.mut, Option.bind, cmpD, ltD, leD, gtD, geD, addD, subD, negD, modD, mMakF, mkA, sFldS, putD, fldD, mBinO, mOpO, mCmpO, mEqO, mUnO, mLenO, mSubO, mIxO, mPrp, cand_int, cand_tup, cand_lst, cand_scr, cand_str, cand_bl, cand_non, cand_ins, look0, okY_ii, okY_int, sameC_ii, mCmpG, mEqG, okE_n, okE_01, okE_int, okE_bl, okE_str, okE_non, look1, look01, look10, mTruO, mBlO, sParX, xS, xO, xNil, stoX_cons, stoX_nil, It.sl, zip2, zip3, blD, lenD, eqD, neD, Option.map_some, eqB_int,
  List.map, List.length_cons, List.length_nil, List.getElem?_cons_zero, List.getElem?_cons_succ, List.set_cons_zero, List.set_cons_succ, List.append, List.cons_append, List.nil_append, List.replicate, List.take, Nat.reduceAdd, Nat.reduceSub, Bool.not_true, Bool.not_false, decide_true, decide_false, beq_self_eq_true, bne_self_eq_false, Bool.false_eq_true, reduceIte, ↓reduceIte, lkk, lkn, lk0, Nat.reduceBEq, cd_lst, hM, sm2, sm3, sm4, hmul, hadd]
  · simp only [DL.bnd, DL.ret, DL.lft, mVar, mCons, mNil, mCallA, callA, callAF, callB, mCallAF, mCallB, mBin, mUn, mB, mTru, truD, mNot, mAnd, mOr, mBv, mIf, mCb, mChain, mTup, mLst, sSeq, sNx, sIf, sRet, sRetF, sDrop, sSet, sSetF, sto_np, npAt, np_sh, np_ow, np_no, cm_sh, cm_no, DL.nox, fnM, DL.run,
  frz, full_lst, full_ins, nmN, DL.own, mdf, Sl.put, Sl.mut, Option.bind, cmpD, ltD, leD, gtD, geD, addD, subD, negD, modD, mMakF, mkA, sFldS, putD, fldD, mBinO, mOpO, mCmpO, mEqO, mUnO, mLenO, mSubO, mIxO, mPrp, cand_int, cand_tup, cand_lst, cand_scr, cand_str, cand_bl, cand_non, cand_ins, look0, okY_ii, okY_int, sameC_ii, mCmpG, mEqG, okE_n, okE_01, okE_int, okE_bl, okE_str, okE_non, look1, look01, look10, mTruO, mBlO, sParX, xS, xO, xNil, stoX_cons, stoX_nil, It.sl, zip2, zip3, blD, lenD, eqD, neD, Option.map_some, eqB_int,
  List.map, List.length_cons, List.length_nil, List.getElem?_cons_zero, List.getElem?_cons_succ, List.set_cons_zero, List.set_cons_succ, List.append, List.cons_append, List.nil_append, List.replicate, List.take, Nat.reduceAdd, Nat.reduceSub, Bool.not_true, Bool.not_false, decide_true, decide_false, beq_self_eq_true, bne_self_eq_false, Bool.false_eq_true, reduceIte, ↓reduceIte, lkk, lkn, lk0, Nat.reduceBEq, sm3, sm2, sm6, toD]
  · simp only [DL.bnd, DL.ret, DL.lft, mVar, mCons, mNil, mCallA, callA, callAF, callB, mCallAF, mCallB, mBin, mUn, mB, mTru, truD, mNot, mAnd, mOr, mBv, mIf, mCb, mChain, mTup, mLst, sSeq, sNx, sIf, sRet, sRetF, sDrop, sSet, sSetF, sto_np, npAt, np_sh, np_ow, np_no, cm_sh, cm_no, DL.nox, fnM, DL.run,
  frz, full_lst, full_ins, nmN, DL.own, mdf, Sl.put, Sl.mut, Option.bind, cmpD, ltD, leD, gtD, geD, addD, subD, negD, modD, mMakF, mkA, sFldS, putD, fldD, mBinO, mOpO, mCmpO, mEqO, mUnO, mLenO, mSubO, mIxO, mPrp, cand_int, cand_tup, cand_lst, cand_scr, cand_str, cand_bl, cand_non, cand_ins, look0, okY_ii, okY_int, sameC_ii, mCmpG, mEqG, okE_n, okE_01, okE_int, okE_bl, okE_str, okE_non, look1, look01, look10, mTruO, mBlO, sParX, xS, xO, xNil, stoX_cons, stoX_nil, It.sl, zip2, zip3, blD, lenD, eqD, neD, Option.map_some, eqB_int,
  List.map, List.length_cons, List.length_nil, List.getElem?_cons_zero, List.getElem?_cons_succ, List.set_cons_zero, List.set_cons_succ, List.append, List.cons_append, List.nil_append, List.replicate, List.take, Nat.reduceAdd, Nat.reduceSub, Bool.not_true, Bool.not_false, decide_true, decide_false, beq_self_eq_true, bne_self_eq_false, Bool.false_eq_true, reduceIte, ↓reduceIte, lkk, lkn, lk0, Nat.reduceBEq, hN]
end LW

set_option Elab.async false
set_option linter.all false
set_option maxRecDepth 100000
set_option maxHeartbeats 4000000
namespace LW
open PySem L2 DL PyProof.Rows
open TL (tl)
abbrev LE (ns : List Int) (x1 x2 x3 x4 x5 x6 x7 x8 : Sl) : En := [.sh (.scr ns), x1, x2, x3, x4, x5, x6, x7, x8]
def K7 : List Op := [.set 2 (-5), .mov 1 0 2, .pck 3 0 1 2, .les 1 0 2, .jmp 0 7, .gto 1, .set 0 0]
theorem K7_vl : VL K7 := by
  intro o ho
  simp only [K7, List.mem_cons, List.not_mem_nil, or_false] at ho
  rcases ho with rfl | rfl | rfl | rfl | rfl | rfl | rfl <;> simp only [K7, Vd, Rg, Fl, List.length_cons, List.length_nil] <;> omega
theorem K7_sm : ∀ o ∈ K7, SmO o := by
  intro o ho
  simp only [K7, List.mem_cons, List.not_mem_nil, or_false] at ho
  rcases ho with rfl | rfl | rfl | rfl | rfl | rfl | rfl <;> first | trivial | exact sm_of (by decide)
theorem K7_txt : ptx K7 = "set r2 -5\nmove r1 r0 2\npick r3 f0 r1 r2\nless f1 r0 r2\njump f0 7\ngoto 1\nset r0 0" := by kernel_rfl
theorem nil_vl : VL [] := fun o h => nomatch h
theorem nil_sm : ∀ o ∈ ([] : List Op), SmO o := fun o h => nomatch h
abbrev KN : Sl := .sh (.lst ((K7.take 6).map toD))
def Mid (ns : List Int) (e : En) : Prop := ∃ x2 x3 x4 x5 x6 x7, e = LE ns KN x2 x3 x4 x5 x6 x7 .no ∧ np x2 = true ∧ np x3 = true ∧ np x4 = true ∧ np x5 = true ∧ np x6 = true ∧ np x7 = true
abbrev bodyL : S := sSeq m_law_1 (sSeq m_law_2 (sSeq m_law_3 (sSeq m_law_4 m_law_5)))
theorem seq_tr {a b : S} {env e1 : En} {r : Rs Ctl} (h : a env = .ok .nx e1) (h2 : b e1 = r) : sSeq a b env = r := (seq_nx h).trans h2
theorem l1 (ns : List Int) (k : Nat) (hk : k < 1000) (x1 x2 x4 x5 x6 x7 : Sl) (h4 : np x4 = true) : ∃ p q, m_law_1 (LE ns x1 x2 (.sh (.int (k : Int))) x4 x5 x6 x7 .no) = .ok .nx (LE ns x1 x2 (.sh (.int (k : Int))) (.ow (Pl p q)) x5 x6 x7 .no) := by
  obtain ⟨p, q, _, e⟩ := e_pool ns k hk
  exact ⟨p, q, by simp only [DL.bnd, DL.ret, DL.lft, mVar, mCons, mNil, mCallA, callA, callAF, callB, mCallAF, mCallB, mBin, mUn, mB, mTru, truD, mNot, mAnd, mOr, mBv, mIf, mCb, mChain, mTup, mLst, sSeq, sNx, sIf, sRet, sRetF, sDrop, sSet, sSetF, sto_np, npAt, np_sh, np_ow, np_no, cm_sh, cm_no, DL.nox, fnM, DL.run,
  frz, full_lst, full_ins, nmN, DL.own, mdf, Sl.put, Sl.mut, Option.bind, cmpD, ltD, leD, gtD, geD, addD, subD, negD, modD, mMakF, mkA, sFldS, putD, fldD, mBinO, mOpO, mCmpO, mEqO, mUnO, mLenO, mSubO, mIxO, mPrp, cand_int, cand_tup, cand_lst, cand_scr, cand_str, cand_bl, cand_non, cand_ins, look0, okY_ii, okY_int, sameC_ii, mCmpG, mEqG, okE_n, okE_01, okE_int, okE_bl, okE_str, okE_non, look1, look01, look10, mTruO, mBlO, sParX, xS, xO, xNil, stoX_cons, stoX_nil, It.sl, zip2, zip3, blD, lenD, eqD, neD, Option.map_some, eqB_int,
  List.map, List.length_cons, List.length_nil, List.getElem?_cons_zero, List.getElem?_cons_succ, List.set_cons_zero, List.set_cons_succ, List.append, List.cons_append, List.nil_append, List.replicate, List.take, Nat.reduceAdd, Nat.reduceSub, Bool.not_true, Bool.not_false, decide_true, decide_false, beq_self_eq_true, bne_self_eq_false, Bool.false_eq_true, reduceIte, ↓reduceIte, lkk, lkn, lk0, Nat.reduceBEq, m_law_1, e, h4]⟩
theorem l2 (ns : List Int) (p q : Int) (x1 x2 x3 x5 x6 x7 : Sl) (h5 : np x5 = true) : ∃ (p' q' : Int) (os : List Op), VL os ∧ os.length ≤ 20 ∧ (∀ o ∈ os, SmO o) ∧ m_law_2 (LE ns x1 x2 x3 (.ow (Pl p q)) x5 x6 x7 .no) = .ok .nx (LE ns x1 x2 x3 (.ow (Pl p' q')) (.sh (.lst (os.map toD))) x6 x7 .no) := by
  obtain ⟨v, p1, q1, v0, v1, et⟩ := tk p q 21 (by decide) (by decide)
  obtain ⟨n, rfl⟩ := Int.eq_ofNat_of_zero_le v0
  obtain ⟨p2, q2, os, l, hv, hs, e⟩ := e_any p1 q1 (n := n) (by omega)
  refine ⟨p2, q2, os, hv, by omega, hs, ?_⟩
  generalize os.map toD = X at e ⊢
  simp only [DL.bnd, DL.ret, DL.lft, mVar, mCons, mNil, mCallA, callA, callAF, callB, mCallAF, mCallB, mBin, mUn, mB, mTru, truD, mNot, mAnd, mOr, mBv, mIf, mCb, mChain, mTup, mLst, sSeq, sNx, sIf, sRet, sRetF, sDrop, sSet, sSetF, sto_np, npAt, np_sh, np_ow, np_no, cm_sh, cm_no, DL.nox, fnM, DL.run,
  frz, full_lst, full_ins, nmN, DL.own, mdf, Sl.put, Sl.mut, Option.bind, cmpD, ltD, leD, gtD, geD, addD, subD, negD, modD, mMakF, mkA, sFldS, putD, fldD, mBinO, mOpO, mCmpO, mEqO, mUnO, mLenO, mSubO, mIxO, mPrp, cand_int, cand_tup, cand_lst, cand_scr, cand_str, cand_bl, cand_non, cand_ins, look0, okY_ii, okY_int, sameC_ii, mCmpG, mEqG, okE_n, okE_01, okE_int, okE_bl, okE_str, okE_non, look1, look01, look10, mTruO, mBlO, sParX, xS, xO, xNil, stoX_cons, stoX_nil, It.sl, zip2, zip3, blD, lenD, eqD, neD, Option.map_some, eqB_int,
  List.map, List.length_cons, List.length_nil, List.getElem?_cons_zero, List.getElem?_cons_succ, List.set_cons_zero, List.set_cons_succ, List.append, List.cons_append, List.nil_append, List.replicate, List.take, Nat.reduceAdd, Nat.reduceSub, Bool.not_true, Bool.not_false, decide_true, decide_false, beq_self_eq_true, bne_self_eq_false, Bool.false_eq_true, reduceIte, ↓reduceIte, lkk, lkn, lk0, Nat.reduceBEq, m_law_2, et, e, h5]
section
variable {os : List Op} (hv : VL os) (hl : os.length ≤ 20) (hs : ∀ o ∈ os, SmO o) (ns : List Int)
include hv hl hs
theorem l3 (x1 x2 x3 x4 x6 x7 : Sl) (h2 : np x2 = true) (h6 : np x6 = true) : m_law_3 (LE ns x1 x2 x3 x4 (.sh (.lst (os.map toD))) x6 x7 .no) = .ok .nx (LE ns x1 (.sh (.str (ptx os))) x3 x4 (.sh (.lst (os.map toD))) (.sh (Pg os)) x7 .no) := by
  have hmk := e_punit hv (by omega) (m := mVar 5) (env := LE ns x1 x2 x3 x4 (.sh (.lst (os.map toD))) x6 x7 .no) rfl
  have hL := lc_txt hv (by omega) hs (i := 5) (v := 8) (env := LE ns x1 x2 x3 x4 (.sh (.lst (os.map toD))) x6 x7 .no) rfl rfl (by simp)
  have hJ := join_txt hv (by omega) hs hL
  unfold m_law_3
  have hJ' : mM1 joinS (DL.ret (.str "\n")) (frz c_law_1) (LE ns x1 x2 x3 x4 (.sh (.lst (os.map toD))) x6 x7 .no) = .ok (.str (ptx os)) (LE ns x1 x2 x3 x4 (.sh (.lst (os.map toD))) x6 x7 .no) := hJ
  clear hJ hL
  generalize mM1 joinS (DL.ret (.str "\n")) (frz c_law_1) = JN at hJ' ⊢
  generalize frz (mMakF F_Program_init 2 [] (mCons (mVar 5) mNil)) = MK at hmk ⊢
  generalize Pg os = P at hmk ⊢
  generalize ptx os = T at hJ' ⊢
  generalize os.map toD = X at hJ' hmk ⊢
  simp only [DL.bnd, DL.ret, DL.lft, mVar, mCons, mNil, mCallA, callA, callAF, callB, mCallAF, mCallB, mBin, mUn, mB, mTru, truD, mNot, mAnd, mOr, mBv, mIf, mCb, mChain, mTup, mLst, sSeq, sNx, sIf, sRet, sRetF, sDrop, sSet, sSetF, sto_np, npAt, np_sh, np_ow, np_no, cm_sh, cm_no, DL.nox, fnM, DL.run,
  frz, full_lst, full_ins, nmN, DL.own, mdf, Sl.put, Sl.mut, Option.bind, cmpD, ltD, leD, gtD, geD, addD, subD, negD, modD, mMakF, mkA, sFldS, putD, fldD, mBinO, mOpO, mCmpO, mEqO, mUnO, mLenO, mSubO, mIxO, mPrp, cand_int, cand_tup, cand_lst, cand_scr, cand_str, cand_bl, cand_non, cand_ins, look0, okY_ii, okY_int, sameC_ii, mCmpG, mEqG, okE_n, okE_01, okE_int, okE_bl, okE_str, okE_non, look1, look01, look10, mTruO, mBlO, sParX, xS, xO, xNil, stoX_cons, stoX_nil, It.sl, zip2, zip3, blD, lenD, eqD, neD, Option.map_some, eqB_int,
  List.map, List.length_cons, List.length_nil, List.getElem?_cons_zero, List.getElem?_cons_succ, List.set_cons_zero, List.set_cons_succ, List.append, List.cons_append, List.nil_append, List.replicate, List.take, Nat.reduceAdd, Nat.reduceSub, Bool.not_true, Bool.not_false, decide_true, decide_false, beq_self_eq_true, bne_self_eq_false, Bool.false_eq_true, reduceIte, ↓reduceIte, lkk, lkn, lk0, Nat.reduceBEq, hmk, hJ', sPar2, sStos, h2, h6]
theorem l4 (x1 x3 x4 x5 x7 : Sl) : m_law_4 (LE ns x1 (.sh (.str (ptx os))) x3 x4 x5 (.sh (Pg os)) x7 .no) = .ok .nx (LE ns x1 (.sh (.str (ptx os))) x3 x4 x5 (.sh (Pg os)) x7 .no) := by
  have hf := e_fprog hv (by omega) hs
  have hes := eqS_same (ptx os)
  generalize Pg os = P at hf ⊢
  generalize ptx os = T at hf hes ⊢
  unfold m_law_4
  refine if_no2 ?_
  generalize eqS true = es at hes ⊢
  simp only [DL.bnd, DL.ret, DL.lft, mVar, mCons, mNil, mCallA, callA, callAF, callB, mCallAF, mCallB, mBin, mUn, mB, mTru, truD, mNot, mAnd, mOr, mBv, mIf, mCb, mChain, mTup, mLst, sSeq, sNx, sIf, sRet, sRetF, sDrop, sSet, sSetF, sto_np, npAt, np_sh, np_ow, np_no, cm_sh, cm_no, DL.nox, fnM, DL.run,
  frz, full_lst, full_ins, nmN, DL.own, mdf, Sl.put, Sl.mut, Option.bind, cmpD, ltD, leD, gtD, geD, addD, subD, negD, modD, mMakF, mkA, sFldS, putD, fldD, mBinO, mOpO, mCmpO, mEqO, mUnO, mLenO, mSubO, mIxO, mPrp, cand_int, cand_tup, cand_lst, cand_scr, cand_str, cand_bl, cand_non, cand_ins, look0, okY_ii, okY_int, sameC_ii, mCmpG, mEqG, okE_n, okE_01, okE_int, okE_bl, okE_str, okE_non, look1, look01, look10, mTruO, mBlO, sParX, xS, xO, xNil, stoX_cons, stoX_nil, It.sl, zip2, zip3, blD, lenD, eqD, neD, Option.map_some, eqB_int,
  List.map, List.length_cons, List.length_nil, List.getElem?_cons_zero, List.getElem?_cons_succ, List.set_cons_zero, List.set_cons_succ, List.append, List.cons_append, List.nil_append, List.replicate, List.take, Nat.reduceAdd, Nat.reduceSub, Bool.not_true, Bool.not_false, decide_true, decide_false, beq_self_eq_true, bne_self_eq_false, Bool.false_eq_true, reduceIte, ↓reduceIte, lkk, lkn, lk0, Nat.reduceBEq, hf, hes, cd_str]
theorem l5a (x1 x3 x4 : Sl) : m_law_a_1 (LE ns x1 (.sh (.str (ptx os))) x3 x4 (.sh (.lst (os.map toD))) (.sh (Pg os)) (.sh (Pg os)) .no) = .ok .nx (LE ns x1 (.sh (.str (ptx os))) x3 x4 (.sh (.lst (os.map toD))) (.sh (Pg os)) (.sh (Pg os)) .no) := by
  have hq := e_peq os
  have hc : ∀ F, cand [(2, F)] (Pg os) = some F := fun F => cdP F _
  have hok := okE_P os
  obtain ⟨r, hr⟩ := e_repr hv hl hs
  have hi := e_ins os
  have hes := eqS_same r
  have htp : tupleD [.lst (os.map toD)] = some (.tup (os.map toD)) := rfl
  generalize ptx os = T
  generalize os.map toD = X at hr hi htp ⊢
  generalize Pg os = P at hq hc hok hi ⊢
  unfold m_law_a_1
  refine if_no2 ?_
  generalize eqS true = es at hes ⊢
  generalize reprG = rg at hr ⊢
  generalize tupleD = tpd at htp ⊢
  have tb : (true != true) = false := rfl
  simp only [DL.bnd, DL.ret, DL.lft, mVar, mCons, mNil, mCallA, callA, callAF, callB, mCallAF, mCallB, mBin, mUn, mB, mTru, truD, mNot, mAnd, mOr, mBv, mIf, mCb, mChain, mTup, mLst, sSeq, sNx, sIf, sRet, sRetF, sDrop, sSet, sSetF, sto_np, npAt, np_sh, np_ow, np_no, cm_sh, cm_no, DL.nox, fnM, DL.run,
  frz, full_lst, full_ins, nmN, DL.own, mdf, Sl.put, Sl.mut, Option.bind, cmpD, ltD, leD, gtD, geD, addD, subD, negD, modD, mMakF, mkA, sFldS, putD, fldD, mBinO, mOpO, mCmpO, mEqO, mUnO, mLenO, mSubO, mIxO, mPrp, cand_int, cand_tup, cand_lst, cand_scr, cand_str, cand_bl, cand_non, cand_ins, look0, okY_ii, okY_int, sameC_ii, mCmpG, mEqG, okE_n, okE_01, okE_int, okE_bl, okE_str, okE_non, look1, look01, look10, mTruO, mBlO, sParX, xS, xO, xNil, stoX_cons, stoX_nil, It.sl, zip2, zip3, blD, lenD, eqD, neD, Option.map_some, eqB_int,
  List.map, List.length_cons, List.length_nil, List.getElem?_cons_zero, List.getElem?_cons_succ, List.set_cons_zero, List.set_cons_succ, List.append, List.cons_append, List.nil_append, List.replicate, List.take, Nat.reduceAdd, Nat.reduceSub, Bool.not_true, Bool.not_false, decide_true, decide_false, beq_self_eq_true, bne_self_eq_false, Bool.false_eq_true, reduceIte, ↓reduceIte, lkk, lkn, lk0, Nat.reduceBEq, hc, hok, hq, tb, mPrp, hi, hr, htp, hes, cd_str]
theorem l5 (x1 x3 x4 x7 : Sl) (h7 : np x7 = true) : m_law_5 (LE ns x1 (.sh (.str (ptx os))) x3 x4 (.sh (.lst (os.map toD))) (.sh (Pg os)) x7 .no) = .ok .nx (LE ns x1 (.sh (.str (ptx os))) x3 x4 (.sh (.lst (os.map toD))) (.sh (Pg os)) (.sh (Pg os)) .no) := by
  have hp := e_pprog hv (by omega) hs
  have ha := e_asm hv (by omega) hs
  have ha5 := l5a hv hl hs ns x1 x3 x4
  unfold m_law_5
  generalize m_law_a_1 = B at ha5 ⊢
  generalize Pg os = P at hp ha ha5 ⊢
  generalize ptx os = T at hp ha ha5 ⊢
  generalize os.map toD = X at ha5 ⊢
  have h1 : ∀ y : Sl, np y = true → tgName 7 P (LE ns x1 (.sh (.str T)) x3 x4 (.sh (.lst X)) (.sh P) y .no) = some (LE ns x1 (.sh (.str T)) x3 x4 (.sh (.lst X)) (.sh P) (.sh P) .no) := fun y hy => by
    cases y <;> first | rfl | cases hy
  refine for_ok (ds := [P, P]) (e1 := LE ns x1 (.sh (.str T)) x3 x4 (.sh (.lst X)) (.sh P) x7 .no) (by simp only [DL.bnd, DL.ret, DL.lft, mVar, mCons, mNil, mCallA, callA, callAF, callB, mCallAF, mCallB, mBin, mUn, mB, mTru, truD, mNot, mAnd, mOr, mBv, mIf, mCb, mChain, mTup, mLst, sSeq, sNx, sIf, sRet, sRetF, sDrop, sSet, sSetF, sto_np, npAt, np_sh, np_ow, np_no, cm_sh, cm_no, DL.nox, fnM, DL.run,
  frz, full_lst, full_ins, nmN, DL.own, mdf, Sl.put, Sl.mut, Option.bind, cmpD, ltD, leD, gtD, geD, addD, subD, negD, modD, mMakF, mkA, sFldS, putD, fldD, mBinO, mOpO, mCmpO, mEqO, mUnO, mLenO, mSubO, mIxO, mPrp, cand_int, cand_tup, cand_lst, cand_scr, cand_str, cand_bl, cand_non, cand_ins, look0, okY_ii, okY_int, sameC_ii, mCmpG, mEqG, okE_n, okE_01, okE_int, okE_bl, okE_str, okE_non, look1, look01, look10, mTruO, mBlO, sParX, xS, xO, xNil, stoX_cons, stoX_nil, It.sl, zip2, zip3, blD, lenD, eqD, neD, Option.map_some, eqB_int,
  List.map, List.length_cons, List.length_nil, List.getElem?_cons_zero, List.getElem?_cons_succ, List.set_cons_zero, List.set_cons_succ, List.append, List.cons_append, List.nil_append, List.replicate, List.take, Nat.reduceAdd, Nat.reduceSub, Bool.not_true, Bool.not_false, decide_true, decide_false, beq_self_eq_true, bne_self_eq_false, Bool.false_eq_true, reduceIte, ↓reduceIte, lkk, lkn, lk0, Nat.reduceBEq, iItm, itemsD, hp, ha, sm2]) ?_
  rw [loop_nx (h1 x7 h7) ha5, loop_nx (h1 (.sh P) rfl) ha5]
  rfl
end
theorem turn (ns : List Int) (k : Nat) (hk : k < 1000) {e : En} (h : Mid ns e) : ∃ e1 e2, tgName 3 (.int ((k : Nat) : Int)) e = some e1 ∧ bodyL e1 = .ok .nx e2 ∧ Mid ns e2 := by
  obtain ⟨x2, x3, x4, x5, x6, x7, rfl, n2, n3, n4, n5, n6, n7⟩ := h
  obtain ⟨p, q, h1⟩ := l1 ns k hk KN x2 x4 x5 x6 x7 n4
  obtain ⟨p', q', os, hv, hl, hs, h2⟩ := l2 ns p q KN x2 (.sh (.int (k : Int))) x5 x6 x7 n5
  have h3 := l3 hv hl hs ns KN x2 (.sh (.int (k : Int))) (.ow (Pl p' q')) x6 x7 n2 n6
  have h4 := l4 hv hl hs ns KN (.sh (.int (k : Int))) (.ow (Pl p' q')) (.sh (.lst (os.map toD))) x7
  have h5 := l5 hv hl hs ns KN (.sh (.int (k : Int))) (.ow (Pl p' q')) x7 n7
  refine ⟨LE ns KN x2 (.sh (.int (k : Int))) x4 x5 x6 x7 .no, _, ?_, seq_tr h1 (seq_tr h2 (seq_tr h3 (seq_tr h4 h5))), ?_⟩
  · cases x3 <;> first | rfl | cases n3
  · exact ⟨_, _, _, _, _, _, rfl, rfl, rfl, rfl, rfl, rfl, rfl⟩
theorem turns (ns : List Int) : ∀ (ks : List Nat) (e : En), (∀ k ∈ ks, k < 1000) → Mid ns e → ∃ e2, sLoop (tgName 3) bodyL (ks.map fun i => .int ((i : Nat) : Int)) e = .ok .nx e2 ∧ Mid ns e2
  | [], e, _, h => ⟨e, by simp [sLoop, sNx, DL.ret], h⟩
  | k :: ks, e, hk, h => by
    obtain ⟨e1, e2, h1, h2, h3⟩ := turn ns k (hk k List.mem_cons_self) h
    obtain ⟨e3, h4, h5⟩ := turns ns ks e2 (fun k' z => hk k' (List.mem_cons_of_mem _ z)) h3
    exact ⟨e3, by rw [List.map_cons, loop_nx h1 h2, h4], h5⟩
abbrev TXL : Str := "set r2 -5\nmove r1 r0 2\npick r3 f0 r1 r2\nless f1 r0 r2\njump f0 7\ngoto 1\nset r0 0"
theorem c1 (ns : List Int) : sIf (mOr (mB (mCmpG [2] [(2, F_Program_eq)] true (eqS true) (mCallA F_format_program [] (mCons (frz (mMakF F_Program_init 2 [] (mCons (mLst mNil) mNil))) mNil)) (DL.ret (.str "")))) (mOr (mB (mCmpG [2] [(2, F_Program_eq)] true neD (mCallA F_parse_program [] (mCons (DL.ret (.str "")) mNil)) (frz (mMakF F_Program_init 2 [] (mCons (mLst mNil) mNil))))) (mB (mCmpG [2] [(2, F_Program_eq)] true neD (mCallA F_assemble [] (mCons (DL.ret (.str "")) mNil)) (frz (mMakF F_Program_init 2 [] (mCons (mLst mNil) mNil))))))) (sRet (DL.ret (.bl false))) sNx (LE ns .no .no .no .no .no .no .no .no) = .ok .nx (LE ns .no .no .no .no .no .no .no .no) := by
  refine if_no2 ?_
  have hf := e_fprog nil_vl (by decide) nil_sm
  have hp := e_pprog nil_vl (by decide) nil_sm
  have ha := e_asm nil_vl (by decide) nil_sm
  have hq := e_peq []
  have hc : ∀ F : Fm, cand [(2, F)] (Pg []) = some F := fun F => cdP F _
  have hok := okE_P []
  have hmk : frz (mMakF F_Program_init 2 [] (mCons (mLst mNil) mNil)) (LE ns .no .no .no .no .no .no .no .no) = .ok (Pg []) (LE ns .no .no .no .no .no .no .no .no) := e_punit nil_vl (by decide) rfl
  have ht : ptx [] = (Str.ofString "") := by kernel_rfl
  rw [ht] at hf hp ha
  have hes := eqS_same (Str.ofString "")
  generalize frz (mMakF F_Program_init 2 [] (mCons (mLst mNil) mNil)) = MK at hmk ⊢
  generalize Pg [] = P at hf hp ha hq hc hok hmk
  generalize (Str.ofString "") = T at hf hp ha hes ⊢
  generalize eqS true = es at hes ⊢
  have tb : (true != true) = false := rfl
  simp only [DL.bnd, DL.ret, DL.lft, mVar, mCons, mNil, mCallA, callA, callAF, callB, mCallAF, mCallB, mBin, mUn, mB, mTru, truD, mNot, mAnd, mOr, mBv, mIf, mCb, mChain, mTup, mLst, sSeq, sNx, sIf, sRet, sRetF, sDrop, sSet, sSetF, sto_np, npAt, np_sh, np_ow, np_no, cm_sh, cm_no, DL.nox, fnM, DL.run,
  frz, full_lst, full_ins, nmN, DL.own, mdf, Sl.put, Sl.mut, Option.bind, cmpD, ltD, leD, gtD, geD, addD, subD, negD, modD, mMakF, mkA, sFldS, putD, fldD, mBinO, mOpO, mCmpO, mEqO, mUnO, mLenO, mSubO, mIxO, mPrp, cand_int, cand_tup, cand_lst, cand_scr, cand_str, cand_bl, cand_non, cand_ins, look0, okY_ii, okY_int, sameC_ii, mCmpG, mEqG, okE_n, okE_01, okE_int, okE_bl, okE_str, okE_non, look1, look01, look10, mTruO, mBlO, sParX, xS, xO, xNil, stoX_cons, stoX_nil, It.sl, zip2, zip3, blD, lenD, eqD, neD, Option.map_some, eqB_int,
  List.map, List.length_cons, List.length_nil, List.getElem?_cons_zero, List.getElem?_cons_succ, List.set_cons_zero, List.set_cons_succ, List.append, List.cons_append, List.nil_append, List.replicate, List.take, Nat.reduceAdd, Nat.reduceSub, Bool.not_true, Bool.not_false, decide_true, decide_false, beq_self_eq_true, bne_self_eq_false, Bool.false_eq_true, reduceIte, ↓reduceIte, lkk, lkn, lk0, Nat.reduceBEq, hmk, hf, hes, cd_str, hp, hc, hok, hq, ha, tb]
theorem c5 (ns : List Int) {T : Str} (hT : T = ptx K7) : sIf (mB (mCmpG [2] [(2, F_Program_eq)] true (eqS true) (mCallA F_format_program [] (mCons (frz (mMakF F_Program_init 2 [] (mCons (mBinO [(2, F_Program_add)] addD (mVar 1) (mLst (mCons (mTup (mCons (DL.ret (.str "set")) (mCons (DL.ret (.int 0)) (mCons (DL.ret (.int 0)) mNil)))) mNil))) mNil))) mNil)) (mVar 2))) (sRet (DL.ret (.bl false))) sNx (LE ns KN (.sh (.str T)) .no .no .no .no .no .no) = .ok .nx (LE ns KN (.sh (.str T)) .no .no .no .no .no .no) := by
  refine if_no2 ?_
  have hf := e_fprog K7_vl (by decide) K7_sm
  have hmk : frz (mMakF F_Program_init 2 [] (mCons (mBinO [(2, F_Program_add)] addD (mVar 1) (mLst (mCons (mTup (mCons (DL.ret (.str "set")) (mCons (DL.ret (.int 0)) (mCons (DL.ret (.int 0)) mNil)))) mNil))) mNil)) (LE ns KN (.sh (.str T)) .no .no .no .no .no .no) = .ok (Pg K7) (LE ns KN (.sh (.str T)) .no .no .no .no .no .no) := e_punit K7_vl (by decide) rfl
  rw [← hT] at hf
  have hes := eqS_same T
  clear hT
  generalize frz (mMakF F_Program_init 2 [] (mCons (mBinO [(2, F_Program_add)] addD (mVar 1) (mLst (mCons (mTup (mCons (DL.ret (.str "set")) (mCons (DL.ret (.int 0)) (mCons (DL.ret (.int 0)) mNil)))) mNil))) mNil)) = MK at hmk ⊢
  generalize Pg K7 = P at hf hmk
  generalize KN = K at hmk ⊢
  generalize eqS true = es at hes ⊢
  simp only [DL.bnd, DL.ret, DL.lft, mVar, mCons, mNil, mCallA, callA, callAF, callB, mCallAF, mCallB, mBin, mUn, mB, mTru, truD, mNot, mAnd, mOr, mBv, mIf, mCb, mChain, mTup, mLst, sSeq, sNx, sIf, sRet, sRetF, sDrop, sSet, sSetF, sto_np, npAt, np_sh, np_ow, np_no, cm_sh, cm_no, DL.nox, fnM, DL.run,
  frz, full_lst, full_ins, nmN, DL.own, mdf, Sl.put, Sl.mut, Option.bind, cmpD, ltD, leD, gtD, geD, addD, subD, negD, modD, mMakF, mkA, sFldS, putD, fldD, mBinO, mOpO, mCmpO, mEqO, mUnO, mLenO, mSubO, mIxO, mPrp, cand_int, cand_tup, cand_lst, cand_scr, cand_str, cand_bl, cand_non, cand_ins, look0, okY_ii, okY_int, sameC_ii, mCmpG, mEqG, okE_n, okE_01, okE_int, okE_bl, okE_str, okE_non, look1, look01, look10, mTruO, mBlO, sParX, xS, xO, xNil, stoX_cons, stoX_nil, It.sl, zip2, zip3, blD, lenD, eqD, neD, Option.map_some, eqB_int,
  List.map, List.length_cons, List.length_nil, List.getElem?_cons_zero, List.getElem?_cons_succ, List.set_cons_zero, List.set_cons_succ, List.append, List.cons_append, List.nil_append, List.replicate, List.take, Nat.reduceAdd, Nat.reduceSub, Bool.not_true, Bool.not_false, decide_true, decide_false, beq_self_eq_true, bne_self_eq_false, Bool.false_eq_true, reduceIte, ↓reduceIte, lkk, lkn, lk0, Nat.reduceBEq, hmk, hf, hes, cd_str]
theorem c6 (ns : List Int) {T : Str} (hT : T = ptx K7) : sIf (mB (mCmpG [2] [(2, F_Program_eq)] true neD (mSubO [(2, F_Program_getitem)] (mCallA F_parse_program [] (mCons (mVar 2) mNil)) (DL.ret (.int 4))) (mTup (mCons (DL.ret (.str "jump")) (mCons (DL.ret (.int 0)) (mCons (DL.ret (.int 7)) mNil)))))) (sRet (DL.ret (.bl false))) sNx (LE ns KN (.sh (.str T)) .no .no .no .no .no .no) = .ok .nx (LE ns KN (.sh (.str T)) .no .no .no .no .no .no) := by
  refine if_no2 ?_
  have hp := e_pprog K7_vl (by decide) K7_sm
  rw [← hT] at hp
  clear hT
  have hg : F_Program_getitem [.sh (Pg K7), .sh (.int ((4 : Nat) : Int))] = .ok (.rt (toD (.jmp 0 7))) [.sh (Pg K7), .sh (.int ((4 : Nat) : Int))] := e_pget (xs := K7) (i := 4) (o := .jmp 0 7) rfl
  have hc : ∀ F : Fm, cand [(2, F)] (Pg K7) = some F := fun F => cdP F _
  have hq : eqB (toD (.jmp 0 7)) (.tup [.str "jump", .int 0, .int 7]) = some true := by kernel_rfl
  have hc2 : ∀ F : Fm, cand [(2, F)] (toD (.jmp 0 7)) = none := fun F => rfl
  have e4 : ((4 : Nat) : Int) = 4 := rfl
  rw [e4] at hg
  generalize toD (.jmp 0 7) = J at hg hq hc2
  generalize Pg K7 = P at hp hg hc
  generalize KN = K
  simp only [DL.bnd, DL.ret, DL.lft, mVar, mCons, mNil, mCallA, callA, callAF, callB, mCallAF, mCallB, mBin, mUn, mB, mTru, truD, mNot, mAnd, mOr, mBv, mIf, mCb, mChain, mTup, mLst, sSeq, sNx, sIf, sRet, sRetF, sDrop, sSet, sSetF, sto_np, npAt, np_sh, np_ow, np_no, cm_sh, cm_no, DL.nox, fnM, DL.run,
  frz, full_lst, full_ins, nmN, DL.own, mdf, Sl.put, Sl.mut, Option.bind, cmpD, ltD, leD, gtD, geD, addD, subD, negD, modD, mMakF, mkA, sFldS, putD, fldD, mBinO, mOpO, mCmpO, mEqO, mUnO, mLenO, mSubO, mIxO, mPrp, cand_int, cand_tup, cand_lst, cand_scr, cand_str, cand_bl, cand_non, cand_ins, look0, okY_ii, okY_int, sameC_ii, mCmpG, mEqG, okE_n, okE_01, okE_int, okE_bl, okE_str, okE_non, look1, look01, look10, mTruO, mBlO, sParX, xS, xO, xNil, stoX_cons, stoX_nil, It.sl, zip2, zip3, blD, lenD, eqD, neD, Option.map_some, eqB_int,
  List.map, List.length_cons, List.length_nil, List.getElem?_cons_zero, List.getElem?_cons_succ, List.set_cons_zero, List.set_cons_succ, List.append, List.cons_append, List.nil_append, List.replicate, List.take, Nat.reduceAdd, Nat.reduceSub, Bool.not_true, Bool.not_false, decide_true, decide_false, beq_self_eq_true, bne_self_eq_false, Bool.false_eq_true, reduceIte, ↓reduceIte, lkk, lkn, lk0, Nat.reduceBEq, hp, hg, hc, hc2, hq, sm3]
theorem c2 (ns : List Int) : sSet 1 (mLst (mCons (mTup (mCons (DL.ret (.str "set")) (mCons (DL.ret (.int 2)) (mCons (mUn negD (DL.ret (.int 5))) mNil)))) (mCons (mTup (mCons (DL.ret (.str "move")) (mCons (DL.ret (.int 1)) (mCons (DL.ret (.int 0)) (mCons (DL.ret (.int 2)) mNil))))) (mCons (mTup (mCons (DL.ret (.str "pick")) (mCons (DL.ret (.int 3)) (mCons (DL.ret (.int 0)) (mCons (DL.ret (.int 1)) (mCons (DL.ret (.int 2)) mNil)))))) (mCons (mTup (mCons (DL.ret (.str "less")) (mCons (DL.ret (.int 1)) (mCons (DL.ret (.int 0)) (mCons (DL.ret (.int 2)) mNil))))) (mCons (mTup (mCons (DL.ret (.str "jump")) (mCons (DL.ret (.int 0)) (mCons (DL.ret (.int 7)) mNil)))) mNil)))))) (LE ns .no .no .no .no .no .no .no .no) = .ok .nx (LE ns (.sh (.lst ((K7.take 5).map toD))) .no .no .no .no .no .no .no) := rfl
theorem c3 (ns : List Int) : sSet 1 (mBinO [(2, F_Program_add)] addD (mVar 1) (mLst (mCons (mTup (mCons (DL.ret (.str "goto")) (mCons (DL.ret (.int 1)) mNil))) mNil))) (LE ns (.sh (.lst ((K7.take 5).map toD))) .no .no .no .no .no .no .no) = .ok .nx (LE ns KN .no .no .no .no .no .no .no) := rfl
theorem c4 (ns : List Int) (x1 : Sl) (d : D) : sSet 2 (DL.ret d) (LE ns x1 .no .no .no .no .no .no .no) = .ok .nx (LE ns x1 (.sh d) .no .no .no .no .no .no) := rfl
theorem c4t (ns : List Int) {T : Str} (hT : TXL = T) : sSet 2 (DL.ret (.str "set r2 -5\nmove r1 r0 2\npick r3 f0 r1 r2\nless f1 r0 r2\njump f0 7\ngoto 1\nset r0 0")) (LE ns KN .no .no .no .no .no .no .no) = .ok .nx (LE ns KN (.sh (.str T)) .no .no .no .no .no .no) := by
  rw [← hT]
  exact c4 ns KN _
theorem call0 {F : Fm} (h : F [] = .ok (.rt (.bl true)) []) (env : En) : mNot (mTru (mCallA F [] mNil)) env = .ok false env := by
  simp only [mNot, mTru, mCallA, mNil, DL.bnd, DL.ret, callA, List.append_nil, List.map_nil, h, DL.lft, truD, Bool.not_true]
theorem c7 (ns : List Int) (x1 x2 : Sl) : sIf (mNot (mTru (mCallA F_law_long_right [] mNil))) (sRet (DL.ret (.bl false))) sNx (LE ns x1 x2 .no .no .no .no .no .no) = .ok .nx (LE ns x1 x2 .no .no .no .no .no .no) := if_no2 (call0 e_long _)
theorem pre (ns : List Int) {T : Str} (hT : TXL = T) (hT2 : T = ptx K7) {R : Rs Ctl} (h : (sSeq (sFor (iArg rng1D (mCons (mCb max2D (mCons (DL.ret (.int 1)) (mCons (mCb min2D (mCons (DL.ret (.int 10)) (mCons (bnd (mCons (mVar 0) mNil) (mLenO [(2, F_Program_len)] lenD)) mNil))) mNil))) mNil)) (tgName 3) bodyL) (sRet (DL.ret (.bl true)))) (LE ns KN (.sh (.str T)) .no .no .no .no .no .no) = R) : m_law (LE ns .no .no .no .no .no .no .no .no) = R := by
  unfold m_law
  rw [seq_nx (c1 ns), seq_nx (c2 ns), seq_nx (c3 ns), seq_nx (c4t ns hT), seq_nx (c5 ns hT2), seq_nx (c6 ns hT2), seq_nx (c7 ns _ _)]
  exact h
theorem law_true (ns : List Int) : ∃ e, F_law [.sh (.scr ns)] = .ok (.rt (.bl true)) e := by
  obtain ⟨N, hN, hN2⟩ : ∃ N : Nat, N < 1000 ∧ (if (if (ns.length : Int) < 10 then (ns.length : Int) else 10) > 1 then (if (ns.length : Int) < 10 then (ns.length : Int) else 10) else 1) = (N : Int) := by
    by_cases h : (ns.length : Int) < 10
    · by_cases h2 : (ns.length : Int) > 1
      · exact ⟨ns.length, by omega, by rw [if_pos h, if_pos h2]⟩
      · exact ⟨1, by omega, by rw [if_pos h, if_neg h2]; rfl⟩
    · exact ⟨10, by omega, by rw [if_neg h]; rfl⟩
  obtain ⟨T, hT⟩ : ∃ T, TXL = T := ⟨_, rfl⟩
  obtain ⟨e, h1, h2⟩ := turns ns (List.range N) (LE ns KN (.sh (.str T)) .no .no .no .no .no .no) (fun k hk => by have := List.mem_range.mp hk; omega) ⟨_, _, _, _, _, _, rfl, rfl, rfl, rfl, rfl, rfl, rfl⟩
  obtain ⟨x2, x3, x4, x5, x6, x7, rfl, _⟩ := h2
  refine ⟨[.sh (.scr ns)], fn_rt rfl (e := LE ns KN x2 x3 x4 x5 x6 x7 .no) (pre ns hT (hT.symm.trans K7_txt.symm) ?_) rfl⟩
  generalize KN = K at h1 ⊢
  exact seq_tr (for_ok (rng_nat N (by omega) _ _ _ (by simp only [DL.bnd, DL.ret, DL.lft, mVar, mCons, mNil, mCallA, callA, callAF, callB, mCallAF, mCallB, mBin, mUn, mB, mTru, truD, mNot, mAnd, mOr, mBv, mIf, mCb, mChain, mTup, mLst, sSeq, sNx, sIf, sRet, sRetF, sDrop, sSet, sSetF, sto_np, npAt, np_sh, np_ow, np_no, cm_sh, cm_no, DL.nox, fnM, DL.run,
  frz, full_lst, full_ins, nmN, DL.own, mdf, Sl.put, Sl.mut, Option.bind, cmpD, ltD, leD, gtD, geD, addD, subD, negD, modD, mMakF, mkA, sFldS, putD, fldD, mBinO, mOpO, mCmpO, mEqO, mUnO, mLenO, mSubO, mIxO, mPrp, cand_int, cand_tup, cand_lst, cand_scr, cand_str, cand_bl, cand_non, cand_ins, look0, okY_ii, okY_int, sameC_ii, mCmpG, mEqG, okE_n, okE_01, okE_int, okE_bl, okE_str, okE_non, look1, look01, look10, mTruO, mBlO, sParX, xS, xO, xNil, stoX_cons, stoX_nil, It.sl, zip2, zip3, blD, lenD, eqD, neD, Option.map_some, eqB_int,
  List.map, List.length_cons, List.length_nil, List.getElem?_cons_zero, List.getElem?_cons_succ, List.set_cons_zero, List.set_cons_succ, List.append, List.cons_append, List.nil_append, List.replicate, List.take, Nat.reduceAdd, Nat.reduceSub, Bool.not_true, Bool.not_false, decide_true, decide_false, beq_self_eq_true, bne_self_eq_false, Bool.false_eq_true, reduceIte, ↓reduceIte, lkk, lkn, lk0, Nat.reduceBEq, max2D, min2D, hN2])) h1) rfl
end LW

set_option Elab.async false
set_option linter.all false
set_option maxRecDepth 100000
set_option maxHeartbeats 1000000
namespace LW
open PySem L2 PyProof.Rows DL
section
variable {P : Program} {w : World} {K : PySem.W.Frag} {mg : Str → Option Value} {base : Heap}
theorem w_is_integer (b0 : BasT fx fn tbs w K mg) {f : Addr} (cdv : Value) (A : Around) (outer : List Env) (s : Shared) (H : Hp) (E : XK) (hr : Room 0 (A.deeper (envOfC "is_integer" (defScope st_is_integer) s.heap.objs.size f cdv))) : PSsM  (cxOf (L2.CX P w) P w K mg base ["value"] "is_integer" (defScope st_is_integer) f cdv A outer s H E).nox (gOf K cs) WF (defBody st_is_integer) m_is_integer :=
  have nd := sc_is_integer.nd
  ss_one (s_ret (m_and (m_isi (b0.isf 0) (m_var 0) (ce_ty (b0.free 3) rfl) (b0.free 2)) (m_one (m_not (m_isi (b0.isf 0) (m_var 0) (ce_ty (b0.free 1) rfl) (b0.free 2))))))
theorem ok_is_integer (b0 : BasT fx fn tbs w K mg) : ∃ fd, FnOk P w K mg base (L2.CX P w) 1 (He.ga K "is_integer") fd ["value"] (spM K (gOf K cs) 1 F_is_integer) ∧ FunD K "is_integer" "is_integer" (defArgs st_is_integer) (defBody st_is_integer) (defScope st_is_integer) (dx_is_integer.dfl K) [] (He.ga K "is_integer") fd := by
  obtain ⟨fd, F⟩ := b0.c.def_ 1 (d := dx_is_integer) rfl
  exact ⟨fd, df_N F sc_is_integer fun cdv A outer s H E hr => w_is_integer b0 cdv A outer s H E hr, F⟩
theorem d_is_integer (b0 : BasT fx fn tbs w K mg) : Def0 P w K mg base (gOf K cs) "is_integer" 1 F_is_integer 1 [] := by
  obtain ⟨fd, ok, F⟩ := ok_is_integer (P := P) (w := w) (base := base) b0
  exact mkDef0 ok (b0.glo 32) F.kp (F.bindsN (ps := ["value"]) fun _ _ _ _ _ _ us hl => match us, hl with | [_], _ => rfl) fnM_ar
theorem w_is_between (b0 : BasT fx fn tbs w K mg) {f : Addr} (cdv : Value) (A : Around) (outer : List Env) (s : Shared) (H : Hp) (E : XK) (hr : Room 1 (A.deeper (envOfC "is_between" (defScope st_is_between) s.heap.objs.size f cdv))) : PSsM  (cxOf (L2.CX P w) P w K mg base ["value", "low", "high"] "is_between" (defScope st_is_between) f cdv A outer s H E).nox (gOf K cs) WF (defBody st_is_between) m_is_between :=
  have nd := sc_is_between.nd
  ss_one (s_ret (m_and (m_call (d_is_integer b0) hr pas0 (a_cons (m_var 0) a_nil)) (m_one (m_chain op_le op_le (m_var 1) (m_var 0) (m_var 2)))))
theorem ok_is_between (b0 : BasT fx fn tbs w K mg) : ∃ fd, FnOk P w K mg base (L2.CX P w) 2 (He.ga K "is_between") fd ["value", "low", "high"] (spM K (gOf K cs) 3 F_is_between) ∧ FunD K "is_between" "is_between" (defArgs st_is_between) (defBody st_is_between) (defScope st_is_between) (dx_is_between.dfl K) [] (He.ga K "is_between") fd := by
  obtain ⟨fd, F⟩ := b0.c.def_ 2 (d := dx_is_between) rfl
  exact ⟨fd, df_N F sc_is_between fun cdv A outer s H E hr => w_is_between b0 cdv A outer s H E hr, F⟩
theorem d_is_between (b0 : BasT fx fn tbs w K mg) : Def0 P w K mg base (gOf K cs) "is_between" 3 F_is_between 2 [] := by
  obtain ⟨fd, ok, F⟩ := ok_is_between (P := P) (w := w) (base := base) b0
  exact mkDef0 ok (b0.glo 33) F.kp (F.bindsN (ps := ["value", "low", "high"]) fun _ _ _ _ _ _ us hl => match us, hl with | [_, _, _], _ => rfl) fnM_ar
theorem w_check_between (b0 : BasT fx fn tbs w K mg) {f : Addr} (cdv : Value) (A : Around) (outer : List Env) (s : Shared) (H : Hp) (E : XK) (hr : Room 2 (A.deeper (envOfC "check_between" (defScope st_check_between) s.heap.objs.size f cdv))) : PSsM  (cxOf (L2.CX P w) P w K mg base ["value", "low", "high"] "check_between" (defScope st_check_between) f cdv A outer s H E).nox (gOf K cs) WF (defBody st_check_between) m_check_between :=
  have nd := sc_check_between.nd
  ss_one (s_if (t_not (t_tru (m_call (d_is_between b0) hr pas0 (a_cons (m_var 0) (a_cons (m_var 1) (a_cons (m_var 2) a_nil)))))) (ss_one s_never) ss_nil)
theorem ok_check_between (b0 : BasT fx fn tbs w K mg) : ∃ fd, FnOk P w K mg base (L2.CX P w) 3 (He.ga K "check_between") fd ["value", "low", "high"] (spM K (gOf K cs) 3 F_check_between) ∧ FunD K "check_between" "check_between" (defArgs st_check_between) (defBody st_check_between) (defScope st_check_between) (dx_check_between.dfl K) [] (He.ga K "check_between") fd := by
  obtain ⟨fd, F⟩ := b0.c.def_ 3 (d := dx_check_between) rfl
  exact ⟨fd, df_N F sc_check_between fun cdv A outer s H E hr => w_check_between b0 cdv A outer s H E hr, F⟩
theorem d_check_between (b0 : BasT fx fn tbs w K mg) : Def0 P w K mg base (gOf K cs) "check_between" 3 F_check_between 3 [] := by
  obtain ⟨fd, ok, F⟩ := ok_check_between (P := P) (w := w) (base := base) b0
  exact mkDef0 ok (b0.glo 34) F.kp (F.bindsN (ps := ["value", "low", "high"]) fun _ _ _ _ _ _ us hl => match us, hl with | [_, _, _], _ => rfl) fnM_ar
theorem w_fits (b0 : BasT fx fn tbs w K mg) {f : Addr} (cdv : Value) (A : Around) (outer : List Env) (s : Shared) (H : Hp) (E : XK) (hr : Room 2 (A.deeper (envOfC "fits" (defScope st_fits) s.heap.objs.size f cdv))) : PSsM  (cxOf (L2.CX P w) P w K mg base ["kind", "value"] "fits" (defScope st_fits) f cdv A outer s H E).nox (gOf K cs) WF (defBody st_fits) m_fits :=
  have nd := sc_fits.nd
  ss_cons (s_if (t_eq hr (m_var 0) m_str) (ss_one (s_ret (m_call (d_is_between b0) hr pas0 (a_cons (m_var 1) (a_cons m_int (a_cons (m_sub (m_gint rfl (b0.int 7)) m_int) a_nil)))))) ss_nil)
  (ss_cons (s_if (t_eq hr (m_var 0) m_str) (ss_one (s_ret (m_call (d_is_between b0) hr pas0 (a_cons (m_var 1) (a_cons m_int (a_cons (m_sub (m_gint rfl (b0.int 6)) m_int) a_nil)))))) ss_nil)
  (ss_cons (s_if (t_eq hr (m_var 0) m_str) (ss_one (s_ret (m_call (d_is_between b0) hr pas0 (a_cons (m_var 1) (a_cons (m_neg (m_gint rfl (b0.int 5))) (a_cons (m_gint rfl (b0.int 5)) a_nil)))))) ss_nil)
  (ss_cons (s_if (t_eq hr (m_var 0) m_str) (ss_one (s_ret (m_call (d_is_between b0) hr pas0 (a_cons (m_var 1) (a_cons m_int (a_cons (m_gint rfl (b0.int 4)) a_nil)))))) ss_nil)
  (ss_one (s_ret (m_call (d_is_integer b0) hr pas0 (a_cons (m_var 1) a_nil)))))))
theorem ok_fits (b0 : BasT fx fn tbs w K mg) : ∃ fd, FnOk P w K mg base (L2.CX P w) 3 (He.ga K "fits") fd ["kind", "value"] (spM K (gOf K cs) 2 F_fits) ∧ FunD K "fits" "fits" (defArgs st_fits) (defBody st_fits) (defScope st_fits) (dx_fits.dfl K) [] (He.ga K "fits") fd := by
  obtain ⟨fd, F⟩ := b0.c.def_ 4 (d := dx_fits) rfl
  exact ⟨fd, df_N F sc_fits fun cdv A outer s H E hr => w_fits b0 cdv A outer s H E hr, F⟩
theorem d_fits (b0 : BasT fx fn tbs w K mg) : Def0 P w K mg base (gOf K cs) "fits" 2 F_fits 3 [] := by
  obtain ⟨fd, ok, F⟩ := ok_fits (P := P) (w := w) (base := base) b0
  exact mkDef0 ok (b0.glo 35) F.kp (F.bindsN (ps := ["kind", "value"]) fun _ _ _ _ _ _ us hl => match us, hl with | [_, _], _ => rfl) fnM_ar
theorem w_is_instruction (b0 : BasT fx fn tbs w K mg) {f : Addr} (cdv : Value) (A : Around) (outer : List Env) (s : Shared) (H : Hp) (E : XK) (hr : Room 3 (A.deeper (envOfC "is_instruction" (defScope st_is_instruction) s.heap.objs.size f cdv))) : PSsM  (cxOf (L2.CX P w) P w K mg base ["value", "form", "kind", "item"] "is_instruction" (defScope st_is_instruction) f cdv A outer s H E).nox (gOf K cs) WF (defBody st_is_instruction) m_is_instruction :=
  have nd := sc_is_instruction.nd
  ss_cons (s_if (PWM.t (w_or (t_not (t_tru (m_isi (b0.isf 0) (m_var 0) (ce_ty (b0.free 13) rfl) (b0.free 2)))) (w_or (t_eq hr (m_var 0) (m_tup a_nil)) (w_or (t_not (t_tru (m_isi (b0.isf 0) (m_ix (m_var 0) m_int) (ce_ty (b0.free 12) rfl) (b0.free 2)))) (w_or1 (t_notInK (b0.tab 0 (t := ("FORMS", tb_FORMS))) (b0.glo 11) (m_ix (m_var 0) m_int))))))) (ss_one (s_ret m_bl)) ss_nil)
  (ss_cons (s_set (i := 1) (m_getK (b0.tab 0 (t := ("FORMS", tb_FORMS))) (b0.glo 11) (m_ix (m_var 0) m_int)) nd)
  (ss_one (s_ret (m_and (m_eq hr (m_cb call_len rc_len (b0.free 10) rfl (a_cons (m_var 0) a_nil)) (m_add (m_cb call_len rc_len (b0.free 10) rfl (a_cons (m_var 1) a_nil)) m_int)) (m_one (m_cb (cr_all rfl) rc_all (b0.free 9) rfl (a_cons (PEF.sh (f_lc (own := [("kind", 2), ("item", 3)]) (i_zipS (a_cons (m_var 1) (a_cons (m_sl (m_var 0) (o_some m_int) o_none) a_nil)) (b0.free 8)) (blkOk_by (by rfl)) nd (fun _ => g_tup (gs_cons (g_name 2 nd) (gs_cons (g_name 3 nd) gs_nil))) (fun _ => ts_nil) (fun _ => m_call (d_fits b0) hr pas0 (a_cons (m_var 2) (a_cons (m_var 3) a_nil))))) a_nil)))))))
theorem ok_is_instruction (b0 : BasT fx fn tbs w K mg) : ∃ fd, FnOk P w K mg base (L2.CX P w) 4 (He.ga K "is_instruction") fd ["value"] (spM K (gOf K cs) 1 F_is_instruction) ∧ FunD K "is_instruction" "is_instruction" (defArgs st_is_instruction) (defBody st_is_instruction) (defScope st_is_instruction) (dx_is_instruction.dfl K) [] (He.ga K "is_instruction") fd := by
  obtain ⟨fd, F⟩ := b0.c.def_ 5 (d := dx_is_instruction) rfl
  exact ⟨fd, df_N F sc_is_instruction fun cdv A outer s H E hr => w_is_instruction b0 cdv A outer s H E hr, F⟩
theorem d_is_instruction (b0 : BasT fx fn tbs w K mg) : Def0 P w K mg base (gOf K cs) "is_instruction" 1 F_is_instruction 4 [] := by
  obtain ⟨fd, ok, F⟩ := ok_is_instruction (P := P) (w := w) (base := base) b0
  exact mkDef0 ok (b0.glo 36) F.kp (F.bindsN (ps := ["value"]) fun _ _ _ _ _ _ us hl => match us, hl with | [_], _ => rfl) fnM_ar
theorem w_is_within (b0 : BasT fx fn tbs w K mg) {f : Addr} (cdv : Value) (A : Around) (outer : List Env) (s : Shared) (H : Hp) (E : XK) (hr : Room 0 (A.deeper (envOfC "is_within" (defScope st_is_within) s.heap.objs.size f cdv))) : PSsM  (cxOf (L2.CX P w) P w K mg base ["value", "size"] "is_within" (defScope st_is_within) f cdv A outer s H E).nox (gOf K cs) WF (defBody st_is_within) m_is_within :=
  have nd := sc_is_within.nd
  ss_one (s_ret (m_or (m_notIn (m_ix (m_var 0) m_int) (m_tup (a_cons m_str (a_cons m_str a_nil)))) (m_one (m_le (m_ix (m_var 0) (m_neg m_int)) (m_var 1)))))
theorem ok_is_within (b0 : BasT fx fn tbs w K mg) : ∃ fd, FnOk P w K mg base (L2.CX P w) 1 (He.ga K "is_within") fd ["value", "size"] (spM K (gOf K cs) 2 F_is_within) ∧ FunD K "is_within" "is_within" (defArgs st_is_within) (defBody st_is_within) (defScope st_is_within) (dx_is_within.dfl K) [] (He.ga K "is_within") fd := by
  obtain ⟨fd, F⟩ := b0.c.def_ 6 (d := dx_is_within) rfl
  exact ⟨fd, df_N F sc_is_within fun cdv A outer s H E hr => w_is_within b0 cdv A outer s H E hr, F⟩
theorem d_is_within (b0 : BasT fx fn tbs w K mg) : Def0 P w K mg base (gOf K cs) "is_within" 2 F_is_within 1 [] := by
  obtain ⟨fd, ok, F⟩ := ok_is_within (P := P) (w := w) (base := base) b0
  exact mkDef0 ok (b0.glo 37) F.kp (F.bindsN (ps := ["value", "size"]) fun _ _ _ _ _ _ us hl => match us, hl with | [_, _], _ => rfl) fnM_ar
theorem w_shifted (b0 : BasT fx fn tbs w K mg) {f : Addr} (cdv : Value) (A : Around) (outer : List Env) (s : Shared) (H : Hp) (E : XK) (hr : Room 0 (A.deeper (envOfC "shifted" (defScope st_shifted) s.heap.objs.size f cdv))) : PSsM  (cxOf (L2.CX P w) P w K mg base ["instruction", "places"] "shifted" (defScope st_shifted) f cdv A outer s H E).nox (gOf K cs) WF (defBody st_shifted) m_shifted :=
  have nd := sc_shifted.nd
  ss_cons (s_if (t_in (m_ix (m_var 0) m_int) (m_tup (a_cons m_str (a_cons m_str a_nil)))) (ss_one (s_ret (m_tup (a_star (m_sl (m_var 0) o_none (o_some (m_neg m_int))) (a_cons (m_add (m_ix (m_var 0) (m_neg m_int)) (m_var 1)) a_nil))))) ss_nil)
  (ss_one (s_ret (m_var 0)))
theorem ok_shifted (b0 : BasT fx fn tbs w K mg) : ∃ fd, FnOk P w K mg base (L2.CX P w) 1 (He.ga K "shifted") fd ["instruction", "places"] (spM K (gOf K cs) 2 F_shifted) ∧ FunD K "shifted" "shifted" (defArgs st_shifted) (defBody st_shifted) (defScope st_shifted) (dx_shifted.dfl K) [] (He.ga K "shifted") fd := by
  obtain ⟨fd, F⟩ := b0.c.def_ 7 (d := dx_shifted) rfl
  exact ⟨fd, df_N F sc_shifted fun cdv A outer s H E hr => w_shifted b0 cdv A outer s H E hr, F⟩
theorem d_shifted (b0 : BasT fx fn tbs w K mg) : Def0 P w K mg base (gOf K cs) "shifted" 2 F_shifted 1 [] := by
  obtain ⟨fd, ok, F⟩ := ok_shifted (P := P) (w := w) (base := base) b0
  exact mkDef0 ok (b0.glo 38) F.kp (F.bindsN (ps := ["instruction", "places"]) fun _ _ _ _ _ _ us hl => match us, hl with | [_, _], _ => rfl) fnM_ar
theorem w_Program_init (b0 : BasT fx fn tbs w K mg) {f : Addr} (cdv : Value) (A : Around) (outer : List Env) (s : Shared) (H : Hp) (E : XK) (hr : Room 4 (A.deeper (envOfC "Program.__init__" (defScope st_Program_init) s.heap.objs.size f cdv))) : PSsM  (cxOf (L2.CX P w) P w K mg base ["self", "instructions", "value", "line"] "Program.__init__" (defScope st_Program_init) f cdv A outer s H E).nox (gOf K cs) WF (defBody st_Program_init) m_Program_init :=
  have nd := sc_Program_init.nd
  ss_cons (s_if (PWM.t (w_or (t_not (t_tru (m_isiT (b0.isf 0) (m_var 1) (ces_cons (ce_ty (b0.free 16) rfl) (ces_cons (ce_ty (b0.free 13) rfl) ces_nil)) (b0.free 2)))) (w_or1 (t_gt (m_cb call_len rc_len (b0.free 10) rfl (a_cons (m_var 1) a_nil)) (m_gint rfl (b0.int 4)))))) (ss_one s_never) ss_nil)
  (ss_cons (s_for po0 (i_seq (m_var 1)) (g_name 2 nd) (ss_one (s_if (PWM.t (w_or (t_not (t_tru (m_call (d_is_instruction b0) hr pas0 (a_cons (m_var 2) a_nil)))) (w_or1 (t_not (t_tru (m_call (d_is_within b0) hr pas0 (a_cons (m_var 2) (a_cons (m_cb call_len rc_len (b0.free 10) rfl (a_cons (m_var 1) a_nil)) a_nil)))))))) (ss_one s_never) ss_nil)))
  (ss_cons (s_fld 0 (b0.fld 14) (m_ct call_tuple_of rc_tuple (b0.free 13) rfl (a_cons (m_var 1) a_nil)))
  (ss_one (s_fld 0 (b0.fld 14) (m_not (m_cb (cr_any rfl) rc_any (b0.free 15) rfl (a_cons (PEF.sh (f_lc (own := [("line", 3)]) (i_seq (m_fldS 0 (b0.fld 14))) (blkOk_by (by rfl)) nd (fun _ => g_name 3 nd) (fun _ => ts_nil) (fun _ => m_in (m_ix (m_var 3) m_int) (m_tup (a_cons m_str (a_cons m_str a_nil)))))) a_nil)))))))
theorem ok_Program_init (b0 : BasT fx fn tbs w K mg) : ∃ fd, FnOk P w K mg base (L2.CX P w) 5 (He.ma K (He.ga K "Program") "__init__") fd ["self", "instructions"] (spM K (gOf K cs) 2 F_Program_init) ∧ FunD K "__init__" "Program.__init__" (defArgs st_Program_init) (defBody st_Program_init) (defScope st_Program_init) (dx_Program_init.dfl K) [] (He.ma K (He.ga K "Program") "__init__") fd := by
  obtain ⟨fd, F⟩ := b0.c.def_ 8 (d := dx_Program_init) rfl
  exact ⟨fd, df_N F sc_Program_init fun cdv A outer s H E hr => w_Program_init b0 cdv A outer s H E hr, F⟩
theorem k_Program_init (b0 : BasT fx fn tbs w K mg) : Mak P w K mg base (gOf K cs) "Program" 2 2 F_Program_init 5 [] := by
  obtain ⟨fd, ok, F⟩ := ok_Program_init (P := P) (w := w) (base := base) b0
  exact mkMak ok (b0.mkr 57) (b0.glo 17) (F.bindsN (ps := ["self", "instructions"]) fun _ _ _ _ _ _ us hl => match us, hl with | [_, _], _ => rfl) rfl fnM_ar
theorem w_Program_instructions (b0 : BasT fx fn tbs w K mg) {f : Addr} (cdv : Value) (A : Around) (outer : List Env) (s : Shared) (H : Hp) (E : XK) (hr : Room 0 (A.deeper (envOfC "Program.instructions" (defScope st_Program_instructions) s.heap.objs.size f cdv))) : PSsM  (cxOf (L2.CX P w) P w K mg base ["self"] "Program.instructions" (defScope st_Program_instructions) f cdv A outer s H E).nox (gOf K cs) WF (defBody st_Program_instructions) m_Program_instructions :=
  have nd := sc_Program_instructions.nd
  ss_one (s_ret (m_fld (b0.fld 14) (m_var 0)))
theorem ok_Program_instructions (b0 : BasT fx fn tbs w K mg) : ∃ fd, FnOk P w K mg base (L2.CX P w) 1 (prG K "Program" "instructions") fd ["self"] (spM K (gOf K cs) 1 F_Program_instructions) ∧ FunD K "instructions" "Program.instructions" (defArgs st_Program_instructions) (defBody st_Program_instructions) (defScope st_Program_instructions) (dx_Program_instructions.dfl K) [] (prG K "Program" "instructions") fd := by
  obtain ⟨fd, F⟩ := b0.c.def_ 9 (d := dx_Program_instructions) rfl
  exact ⟨fd, df_N F sc_Program_instructions fun cdv A outer s H E hr => w_Program_instructions b0 cdv A outer s H E hr, F⟩
theorem p_Program_instructions (b0 : BasT fx fn tbs w K mg) : Prp P w K mg base (gOf K cs) 2 "instructions" F_Program_instructions 1 := by
  obtain ⟨fd, ok, F⟩ := ok_Program_instructions (P := P) (w := w) (base := base) b0
  exact mkPrp ok (b0.prp 58) (F.bindsN (ps := ["self"]) fun _ _ _ _ _ _ us hl => match us, hl with | [_], _ => rfl) (b0.cls 59) fnM_ar
theorem w_Program_len (b0 : BasT fx fn tbs w K mg) {f : Addr} (cdv : Value) (A : Around) (outer : List Env) (s : Shared) (H : Hp) (E : XK) (hr : Room 0 (A.deeper (envOfC "Program.__len__" (defScope st_Program_len) s.heap.objs.size f cdv))) : PSsM  (cxOf (L2.CX P w) P w K mg base ["self"] "Program.__len__" (defScope st_Program_len) f cdv A outer s H E).nox (gOf K cs) WF (defBody st_Program_len) m_Program_len :=
  have nd := sc_Program_len.nd
  ss_one (s_ret (m_cb call_len rc_len (b0.free 10) rfl (a_cons (m_fld (b0.fld 14) (m_var 0)) a_nil)))
theorem ok_Program_len (b0 : BasT fx fn tbs w K mg) : ∃ fd, FnOk P w K mg base (L2.CX P w) 1 (He.ma K (He.ga K "Program") "__len__") fd ["self"] (spM K (gOf K cs) 1 F_Program_len) ∧ FunD K "__len__" "Program.__len__" (defArgs st_Program_len) (defBody st_Program_len) (defScope st_Program_len) (dx_Program_len.dfl K) [] (He.ma K (He.ga K "Program") "__len__") fd := by
  obtain ⟨fd, F⟩ := b0.c.def_ 11 (d := dx_Program_len) rfl
  exact ⟨fd, df_N F sc_Program_len fun cdv A outer s H E hr => w_Program_len b0 cdv A outer s H E hr, F⟩
theorem o_Program_len (b0 : BasT fx fn tbs w K mg) : Opr P w K mg base (gOf K cs) 2 "__len__" 1 F_Program_len 1 := by
  obtain ⟨fd, ok, F⟩ := ok_Program_len (P := P) (w := w) (base := base) b0
  exact mkOpr ok (b0.opr 61) (F.bindsN (ps := ["self"]) fun _ _ _ _ _ _ us hl => match us, hl with | [_], _ => rfl) fnM_ar
theorem w_Program_eq (b0 : BasT fx fn tbs w K mg) {f : Addr} (cdv : Value) (A : Around) (outer : List Env) (s : Shared) (H : Hp) (E : XK) (hr : Room 0 (A.deeper (envOfC "Program.__eq__" (defScope st_Program_eq) s.heap.objs.size f cdv))) : PSsM  (cxOf (L2.CX P w) P w K mg base ["self", "other"] "Program.__eq__" (defScope st_Program_eq) f cdv A outer s H E).nox (gOf K cs) WF (defBody st_Program_eq) m_Program_eq :=
  have nd := sc_Program_eq.nd
  ss_one (s_ret (m_and (m_isi (b0.isf 0) (m_var 1) (ce_cl (b0.glo 17)) (b0.free 2)) (m_one (m_eq hr (m_fld (b0.fld 14) (m_var 0)) (m_fld (b0.fld 14) (m_var 1))))))
theorem ok_Program_eq (b0 : BasT fx fn tbs w K mg) : ∃ fd, FnOk P w K mg base (L2.CX P w) 1 (He.ma K (He.ga K "Program") "__eq__") fd ["self", "other"] (spM K (gOf K cs) 2 F_Program_eq) ∧ FunD K "__eq__" "Program.__eq__" (defArgs st_Program_eq) (defBody st_Program_eq) (defScope st_Program_eq) (dx_Program_eq.dfl K) [] (He.ma K (He.ga K "Program") "__eq__") fd := by
  obtain ⟨fd, F⟩ := b0.c.def_ 12 (d := dx_Program_eq) rfl
  exact ⟨fd, df_N F sc_Program_eq fun cdv A outer s H E hr => w_Program_eq b0 cdv A outer s H E hr, F⟩
theorem o_Program_eq (b0 : BasT fx fn tbs w K mg) : Opr P w K mg base (gOf K cs) 2 "__eq__" 2 F_Program_eq 1 := by
  obtain ⟨fd, ok, F⟩ := ok_Program_eq (P := P) (w := w) (base := base) b0
  exact mkOpr ok (b0.opr 62) (F.bindsN (ps := ["self", "other"]) fun _ _ _ _ _ _ us hl => match us, hl with | [_, _], _ => rfl) fnM_ar
theorem w_Program_getitem (b0 : BasT fx fn tbs w K mg) {f : Addr} (cdv : Value) (A : Around) (outer : List Env) (s : Shared) (H : Hp) (E : XK) (hr : Room 3 (A.deeper (envOfC "Program.__getitem__" (defScope st_Program_getitem) s.heap.objs.size f cdv))) : PSsM  (cxOf (L2.CX P w) P w K mg base ["self", "index"] "Program.__getitem__" (defScope st_Program_getitem) f cdv A outer s H E).nox (gOf K cs) WF (defBody st_Program_getitem) m_Program_getitem :=
  have nd := sc_Program_getitem.nd
  ss_cons (s_expr (m_call (d_check_between b0) hr pas0 (a_cons (m_var 1) (a_cons m_int (a_cons (m_sub (m_lenO (.cons (o_Program_len b0) .nil) hr pas0 (b0.free 10) (a_cons (m_fld (b0.fld 14) (m_var 0)) a_nil)) m_int) a_nil)))))
  (ss_one (s_ret (m_ix (m_fld (b0.fld 14) (m_var 0)) (m_var 1))))
theorem ok_Program_getitem (b0 : BasT fx fn tbs w K mg) : ∃ fd, FnOk P w K mg base (L2.CX P w) 4 (He.ma K (He.ga K "Program") "__getitem__") fd ["self", "index"] (spM K (gOf K cs) 2 F_Program_getitem) ∧ FunD K "__getitem__" "Program.__getitem__" (defArgs st_Program_getitem) (defBody st_Program_getitem) (defScope st_Program_getitem) (dx_Program_getitem.dfl K) [] (He.ma K (He.ga K "Program") "__getitem__") fd := by
  obtain ⟨fd, F⟩ := b0.c.def_ 13 (d := dx_Program_getitem) rfl
  exact ⟨fd, df_N F sc_Program_getitem fun cdv A outer s H E hr => w_Program_getitem b0 cdv A outer s H E hr, F⟩
theorem o_Program_getitem (b0 : BasT fx fn tbs w K mg) : Opr P w K mg base (gOf K cs) 2 "__getitem__" 2 F_Program_getitem 4 := by
  obtain ⟨fd, ok, F⟩ := ok_Program_getitem (P := P) (w := w) (base := base) b0
  exact mkOpr ok (b0.opr 63) (F.bindsN (ps := ["self", "index"]) fun _ _ _ _ _ _ us hl => match us, hl with | [_, _], _ => rfl) fnM_ar
theorem w_Program_add (b0 : BasT fx fn tbs w K mg) {f : Addr} (cdv : Value) (A : Around) (outer : List Env) (s : Shared) (H : Hp) (E : XK) (hr : Room 6 (A.deeper (envOfC "Program.__add__" (defScope st_Program_add) s.heap.objs.size f cdv))) : PSsM  (cxOf (L2.CX P w) P w K mg base ["self", "other", "size", "line"] "Program.__add__" (defScope st_Program_add) f cdv A outer s H E).nox (gOf K cs) WF (defBody st_Program_add) m_Program_add :=
  have nd := sc_Program_add.nd
  ss_cons (s_set (i := 2) (m_lenO (.cons (o_Program_len b0) .nil) hr pas0 (b0.free 10) (a_cons (m_fld (b0.fld 14) (m_var 0)) a_nil)) nd)
  (ss_cons (s_if (t_gt (m_add (m_var 2) (m_lenO (.cons (o_Program_len b0) .nil) hr pas0 (b0.free 10) (a_cons (m_fld (b0.fld 14) (m_var 1)) a_nil))) (m_gint rfl (b0.int 4))) (ss_one s_never) ss_nil)
  (ss_one (s_ret (PEF.sh (f_make (k_Program_init b0) hr pas0 (a_cons (m_lst (a_star (m_fld (b0.fld 14) (m_var 0)) (a_star (PEF.sh (f_lc (own := [("line", 3)]) (i_seq (m_fld (b0.fld 14) (m_var 1))) (blkOk_by (by rfl)) nd (fun _ => g_name 3 nd) (fun _ => ts_nil) (fun _ => m_call (d_shifted b0) hr pas0 (a_cons (m_var 3) (a_cons (m_var 2) a_nil))))) a_nil))) a_nil))))))
theorem ok_Program_add (b0 : BasT fx fn tbs w K mg) : ∃ fd, FnOk P w K mg base (L2.CX P w) 7 (He.ma K (He.ga K "Program") "__add__") fd ["self", "other"] (spM K (gOf K cs) 2 F_Program_add) ∧ FunD K "__add__" "Program.__add__" (defArgs st_Program_add) (defBody st_Program_add) (defScope st_Program_add) (dx_Program_add.dfl K) [] (He.ma K (He.ga K "Program") "__add__") fd := by
  obtain ⟨fd, F⟩ := b0.c.def_ 15 (d := dx_Program_add) rfl
  exact ⟨fd, df_N F sc_Program_add fun cdv A outer s H E hr => w_Program_add b0 cdv A outer s H E hr, F⟩
theorem o_Program_add (b0 : BasT fx fn tbs w K mg) : Opr P w K mg base (gOf K cs) 2 "__add__" 2 F_Program_add 7 := by
  obtain ⟨fd, ok, F⟩ := ok_Program_add (P := P) (w := w) (base := base) b0
  exact mkOpr ok (b0.opr 65) (F.bindsN (ps := ["self", "other"]) fun _ _ _ _ _ _ us hl => match us, hl with | [_, _], _ => rfl) fnM_ar
theorem w_is_name (b0 : BasT fx fn tbs w K mg) {f : Addr} (cdv : Value) (A : Around) (outer : List Env) (s : Shared) (H : Hp) (E : XK) (hr : Room 2 (A.deeper (envOfC "is_name" (defScope st_is_name) s.heap.objs.size f cdv))) : PSsM  (cxOf (L2.CX P w) P w K mg base ["value", "sign"] "is_name" (defScope st_is_name) f cdv A outer s H E).nox (gOf K cs) WF (defBody st_is_name) m_is_name :=
  have nd := sc_is_name.nd
  ss_cons (s_if (PWM.t (w_or (t_not (t_tru (m_isi (b0.isf 0) (m_var 0) (ce_ty (b0.free 12) rfl) (b0.free 2)))) (w_or1 (t_not (t_chain op_le op_le m_int (m_lenO (.cons (o_Program_len b0) .nil) hr pas0 (b0.free 10) (a_cons (m_var 0) a_nil)) (m_gint rfl (b0.int 19))))))) (ss_one (s_ret m_bl)) ss_nil)
  (ss_one (s_ret (m_cb (cr_all rfl) rc_all (b0.free 9) rfl (a_cons (PEF.sh (f_lc (own := [("sign", 1)]) (i_seq (m_var 0)) (blkOk_by (by rfl)) nd (fun _ => g_name 1 nd) (fun _ => ts_nil) (fun _ => m_inS (m_var 1) (m_gstr rfl (b0.str 18))))) a_nil))))
theorem ok_is_name (b0 : BasT fx fn tbs w K mg) : ∃ fd, FnOk P w K mg base (L2.CX P w) 3 (He.ga K "is_name") fd ["value"] (spM K (gOf K cs) 1 F_is_name) ∧ FunD K "is_name" "is_name" (defArgs st_is_name) (defBody st_is_name) (defScope st_is_name) (dx_is_name.dfl K) [] (He.ga K "is_name") fd := by
  obtain ⟨fd, F⟩ := b0.c.def_ 16 (d := dx_is_name) rfl
  exact ⟨fd, df_N F sc_is_name fun cdv A outer s H E hr => w_is_name b0 cdv A outer s H E hr, F⟩
theorem d_is_name (b0 : BasT fx fn tbs w K mg) : Def0 P w K mg base (gOf K cs) "is_name" 1 F_is_name 3 [] := by
  obtain ⟨fd, ok, F⟩ := ok_is_name (P := P) (w := w) (base := base) b0
  exact mkDef0 ok (b0.glo 39) F.kp (F.bindsN (ps := ["value"]) fun _ _ _ _ _ _ us hl => match us, hl with | [_], _ => rfl) fnM_ar
theorem w_parse_count (b0 : BasT fx fn tbs w K mg) {f : Addr} (cdv : Value) (A : Around) (outer : List Env) (s : Shared) (H : Hp) (E : XK) (hr : Room 2 (A.deeper (envOfC "parse_count" (defScope st_parse_count) s.heap.objs.size f cdv))) : PSsM  (cxOf (L2.CX P w) P w K mg base ["text", "sign"] "parse_count" (defScope st_parse_count) f cdv A outer s H E).nox (gOf K cs) WF (defBody st_parse_count) m_parse_count :=
  have nd := sc_parse_count.nd
  ss_cons (s_if (PWM.t (w_or (t_not (t_chain op_le op_le m_int (m_lenO (.cons (o_Program_len b0) .nil) hr pas0 (b0.free 10) (a_cons (m_var 0) a_nil)) (m_gint rfl (b0.int 22)))) (w_or1 (t_not (t_tru (m_cb (cr_all rfl) rc_all (b0.free 9) rfl (a_cons (PEF.sh (f_lc (own := [("sign", 1)]) (i_seq (m_var 0)) (blkOk_by (by rfl)) nd (fun _ => g_name 1 nd) (fun _ => ts_nil) (fun _ => m_inS (m_var 1) (m_gstr rfl (b0.str 21))))) a_nil))))))) (ss_one (s_ret m_non)) ss_nil)
  (ss_one (s_ret (m_ifx (PWM.t (w_or (t_eqGS (b0.sub 20) (.cons (o_Program_eq b0) .nil) (.cons rfl .nil) hr pas0 (m_var 0) m_str) (w_or1 (t_not (t_tru (m_start (m_var 0) m_str)))))) (m_ct call_int_str rc_intS (b0.free 3) rfl (a_cons (m_var 0) a_nil)) m_non)))
theorem ok_parse_count (b0 : BasT fx fn tbs w K mg) : ∃ fd, FnOk P w K mg base (L2.CX P w) 3 (He.ga K "parse_count") fd ["text"] (spM K (gOf K cs) 1 F_parse_count) ∧ FunD K "parse_count" "parse_count" (defArgs st_parse_count) (defBody st_parse_count) (defScope st_parse_count) (dx_parse_count.dfl K) [] (He.ga K "parse_count") fd := by
  obtain ⟨fd, F⟩ := b0.c.def_ 17 (d := dx_parse_count) rfl
  exact ⟨fd, df_N F sc_parse_count fun cdv A outer s H E hr => w_parse_count b0 cdv A outer s H E hr, F⟩
theorem d_parse_count (b0 : BasT fx fn tbs w K mg) : Def0 P w K mg base (gOf K cs) "parse_count" 1 F_parse_count 3 [] := by
  obtain ⟨fd, ok, F⟩ := ok_parse_count (P := P) (w := w) (base := base) b0
  exact mkDef0 ok (b0.glo 40) F.kp (F.bindsN (ps := ["text"]) fun _ _ _ _ _ _ us hl => match us, hl with | [_], _ => rfl) fnM_ar
theorem w_parse_integer (b0 : BasT fx fn tbs w K mg) {f : Addr} (cdv : Value) (A : Around) (outer : List Env) (s : Shared) (H : Hp) (E : XK) (hr : Room 3 (A.deeper (envOfC "parse_integer" (defScope st_parse_integer) s.heap.objs.size f cdv))) : PSsM  (cxOf (L2.CX P w) P w K mg base ["text", "number"] "parse_integer" (defScope st_parse_integer) f cdv A outer s H E).nox (gOf K cs) WF (defBody st_parse_integer) m_parse_integer :=
  have nd := sc_parse_integer.nd
  ss_cons (s_if (t_not (t_tru (m_start (m_var 0) m_str))) (ss_one (s_ret (m_call (d_parse_count b0) hr pas0 (a_cons (m_var 0) a_nil)))) ss_nil)
  (ss_cons (s_set (i := 1) (m_call (d_parse_count b0) hr pas0 (a_cons (m_sl (m_var 0) (o_some m_int) o_none) a_nil)) nd)
  (ss_one (s_ret (m_ifx (PWM.t (w_or (t_isN (m_var 1) m_non) (w_or1 (t_eqG (b0.sub 20) (.cons (o_Program_eq b0) .nil) (.cons rfl .nil) hr pas0 (m_var 1) m_int)))) m_non (m_neg (m_var 1))))))
theorem ok_parse_integer (b0 : BasT fx fn tbs w K mg) : ∃ fd, FnOk P w K mg base (L2.CX P w) 4 (He.ga K "parse_integer") fd ["text"] (spM K (gOf K cs) 1 F_parse_integer) ∧ FunD K "parse_integer" "parse_integer" (defArgs st_parse_integer) (defBody st_parse_integer) (defScope st_parse_integer) (dx_parse_integer.dfl K) [] (He.ga K "parse_integer") fd := by
  obtain ⟨fd, F⟩ := b0.c.def_ 18 (d := dx_parse_integer) rfl
  exact ⟨fd, df_N F sc_parse_integer fun cdv A outer s H E hr => w_parse_integer b0 cdv A outer s H E hr, F⟩
theorem d_parse_integer (b0 : BasT fx fn tbs w K mg) : Def0 P w K mg base (gOf K cs) "parse_integer" 1 F_parse_integer 4 [] := by
  obtain ⟨fd, ok, F⟩ := ok_parse_integer (P := P) (w := w) (base := base) b0
  exact mkDef0 ok (b0.glo 41) F.kp (F.bindsN (ps := ["text"]) fun _ _ _ _ _ _ us hl => match us, hl with | [_], _ => rfl) fnM_ar
theorem w_format_item (b0 : BasT fx fn tbs w K mg) {f : Addr} (cdv : Value) (A : Around) (outer : List Env) (s : Shared) (H : Hp) (E : XK) (hr : Room 0 (A.deeper (envOfC "format_item" (defScope st_format_item) s.heap.objs.size f cdv))) : PSsM  (cxOf (L2.CX P w) P w K mg base ["kind", "item"] "format_item" (defScope st_format_item) f cdv A outer s H E).nox (gOf K cs) WF (defBody st_format_item) m_format_item :=
  have nd := sc_format_item.nd
  ss_one (s_ret (m_ifx (t_in (m_var 0) (m_tup (a_cons m_str (a_cons m_str a_nil)))) (m_fmt2 (m_var 0) (m_var 1)) (m_ct call_str_int rc_strS (b0.free 12) rfl (a_cons (m_var 1) a_nil))))
theorem ok_format_item (b0 : BasT fx fn tbs w K mg) : ∃ fd, FnOk P w K mg base (L2.CX P w) 1 (He.ga K "format_item") fd ["kind", "item"] (spM K (gOf K cs) 2 F_format_item) ∧ FunD K "format_item" "format_item" (defArgs st_format_item) (defBody st_format_item) (defScope st_format_item) (dx_format_item.dfl K) [] (He.ga K "format_item") fd := by
  obtain ⟨fd, F⟩ := b0.c.def_ 19 (d := dx_format_item) rfl
  exact ⟨fd, df_N F sc_format_item fun cdv A outer s H E hr => w_format_item b0 cdv A outer s H E hr, F⟩
theorem d_format_item (b0 : BasT fx fn tbs w K mg) : Def0 P w K mg base (gOf K cs) "format_item" 2 F_format_item 1 [] := by
  obtain ⟨fd, ok, F⟩ := ok_format_item (P := P) (w := w) (base := base) b0
  exact mkDef0 ok (b0.glo 42) F.kp (F.bindsN (ps := ["kind", "item"]) fun _ _ _ _ _ _ us hl => match us, hl with | [_, _], _ => rfl) fnM_ar
theorem w_format_instruction (b0 : BasT fx fn tbs w K mg) {f : Addr} (cdv : Value) (A : Around) (outer : List Env) (s : Shared) (H : Hp) (E : XK) (hr : Room 5 (A.deeper (envOfC "format_instruction" (defScope st_format_instruction) s.heap.objs.size f cdv))) : PSsM  (cxOf (L2.CX P w) P w K mg base ["instruction", "form", "kind", "item"] "format_instruction" (defScope st_format_instruction) f cdv A outer s H E).nox (gOf K cs) WF (defBody st_format_instruction) m_format_instruction :=
  have nd := sc_format_instruction.nd
  ss_cons (s_set (i := 1) (m_getK (b0.tab 0 (t := ("FORMS", tb_FORMS))) (b0.glo 11) (m_ixO (.cons (o_Program_getitem b0) .nil) hr pas0 (m_var 0) m_int)) nd)
  (ss_one (s_ret (m_join m_str (m_lst (a_cons (m_ixO (.cons (o_Program_getitem b0) .nil) hr pas0 (m_var 0) m_int) (a_star (PEF.sh (f_lc (own := [("kind", 2), ("item", 3)]) (i_zipS (a_cons (m_var 1) (a_cons (m_sl (m_var 0) (o_some m_int) o_none) a_nil)) (b0.free 8)) (blkOk_by (by rfl)) nd (fun _ => g_tup (gs_cons (g_name 2 nd) (gs_cons (g_name 3 nd) gs_nil))) (fun _ => ts_nil) (fun _ => m_call (d_format_item b0) hr pas0 (a_cons (m_var 2) (a_cons (m_var 3) a_nil))))) a_nil))))))
theorem ok_format_instruction (b0 : BasT fx fn tbs w K mg) : ∃ fd, FnOk P w K mg base (L2.CX P w) 6 (He.ga K "format_instruction") fd ["instruction"] (spM K (gOf K cs) 1 F_format_instruction) ∧ FunD K "format_instruction" "format_instruction" (defArgs st_format_instruction) (defBody st_format_instruction) (defScope st_format_instruction) (dx_format_instruction.dfl K) [] (He.ga K "format_instruction") fd := by
  obtain ⟨fd, F⟩ := b0.c.def_ 20 (d := dx_format_instruction) rfl
  exact ⟨fd, df_N F sc_format_instruction fun cdv A outer s H E hr => w_format_instruction b0 cdv A outer s H E hr, F⟩
theorem d_format_instruction (b0 : BasT fx fn tbs w K mg) : Def0 P w K mg base (gOf K cs) "format_instruction" 1 F_format_instruction 6 [] := by
  obtain ⟨fd, ok, F⟩ := ok_format_instruction (P := P) (w := w) (base := base) b0
  exact mkDef0 ok (b0.glo 43) F.kp (F.bindsN (ps := ["instruction"]) fun _ _ _ _ _ _ us hl => match us, hl with | [_], _ => rfl) fnM_ar
theorem w_format_program (b0 : BasT fx fn tbs w K mg) {f : Addr} (cdv : Value) (A : Around) (outer : List Env) (s : Shared) (H : Hp) (E : XK) (hr : Room 6 (A.deeper (envOfC "format_program" (defScope st_format_program) s.heap.objs.size f cdv))) : PSsM  (cxOf (L2.CX P w) P w K mg base ["program", "item"] "format_program" (defScope st_format_program) f cdv A outer s H E).nox (gOf K cs) WF (defBody st_format_program) m_format_program :=
  have nd := sc_format_program.nd
  ss_one (s_ret (m_join m_str (PEF.sh (f_lc (own := [("item", 1)]) (i_seq (m_prp (.cons (p_Program_instructions b0) .nil) (m_var 0) hr)) (blkOk_by (by rfl)) nd (fun _ => g_name 1 nd) (fun _ => ts_nil) (fun _ => m_call (d_format_instruction b0) hr pas0 (a_cons (m_var 1) a_nil))))))
theorem ok_format_program (b0 : BasT fx fn tbs w K mg) : ∃ fd, FnOk P w K mg base (L2.CX P w) 7 (He.ga K "format_program") fd ["program"] (spM K (gOf K cs) 1 F_format_program) ∧ FunD K "format_program" "format_program" (defArgs st_format_program) (defBody st_format_program) (defScope st_format_program) (dx_format_program.dfl K) [] (He.ga K "format_program") fd := by
  obtain ⟨fd, F⟩ := b0.c.def_ 21 (d := dx_format_program) rfl
  exact ⟨fd, df_N F sc_format_program fun cdv A outer s H E hr => w_format_program b0 cdv A outer s H E hr, F⟩
theorem d_format_program (b0 : BasT fx fn tbs w K mg) : Def0 P w K mg base (gOf K cs) "format_program" 1 F_format_program 7 [] := by
  obtain ⟨fd, ok, F⟩ := ok_format_program (P := P) (w := w) (base := base) b0
  exact mkDef0 ok (b0.glo 44) F.kp (F.bindsN (ps := ["program"]) fun _ _ _ _ _ _ us hl => match us, hl with | [_], _ => rfl) fnM_ar
theorem w_parse_item (b0 : BasT fx fn tbs w K mg) {f : Addr} (cdv : Value) (A : Around) (outer : List Env) (s : Shared) (H : Hp) (E : XK) (hr : Room 4 (A.deeper (envOfC "parse_item" (defScope st_parse_item) s.heap.objs.size f cdv))) : PSsM  (cxOf (L2.CX P w) P w K mg base ["kind", "word"] "parse_item" (defScope st_parse_item) f cdv A outer s H E).nox (gOf K cs) WF (defBody st_parse_item) m_parse_item :=
  have nd := sc_parse_item.nd
  ss_cons (s_if (t_in (m_var 0) (m_tup (a_cons m_str (a_cons m_str a_nil)))) (ss_one (s_ret (m_ifx (t_tru (m_start (m_var 1) (m_var 0))) (m_call (d_parse_count b0) hr pas0 (a_cons (m_sl (m_var 1) (o_some m_int) o_none) a_nil)) m_non))) ss_nil)
  (ss_one (s_ret (m_call (d_parse_integer b0) hr pas0 (a_cons (m_var 1) a_nil))))
theorem ok_parse_item (b0 : BasT fx fn tbs w K mg) : ∃ fd, FnOk P w K mg base (L2.CX P w) 5 (He.ga K "parse_item") fd ["kind", "word"] (spM K (gOf K cs) 2 F_parse_item) ∧ FunD K "parse_item" "parse_item" (defArgs st_parse_item) (defBody st_parse_item) (defScope st_parse_item) (dx_parse_item.dfl K) [] (He.ga K "parse_item") fd := by
  obtain ⟨fd, F⟩ := b0.c.def_ 22 (d := dx_parse_item) rfl
  exact ⟨fd, df_N F sc_parse_item fun cdv A outer s H E hr => w_parse_item b0 cdv A outer s H E hr, F⟩
theorem d_parse_item (b0 : BasT fx fn tbs w K mg) : Def0 P w K mg base (gOf K cs) "parse_item" 2 F_parse_item 5 [] := by
  obtain ⟨fd, ok, F⟩ := ok_parse_item (P := P) (w := w) (base := base) b0
  exact mkDef0 ok (b0.glo 45) F.kp (F.bindsN (ps := ["kind", "word"]) fun _ _ _ _ _ _ us hl => match us, hl with | [_, _], _ => rfl) fnM_ar
theorem w_parse_instruction (b0 : BasT fx fn tbs w K mg) {f : Addr} (cdv : Value) (A : Around) (outer : List Env) (s : Shared) (H : Hp) (E : XK) (hr : Room 5 (A.deeper (envOfC "parse_instruction" (defScope st_parse_instruction) s.heap.objs.size f cdv))) : PSsM  (cxOf (L2.CX P w) P w K mg base ["line", "word", "words", "items", "kind", "item"] "parse_instruction" (defScope st_parse_instruction) f cdv A outer s H E).nox (gOf K cs) WF (defBody st_parse_instruction) m_parse_instruction :=
  have nd := sc_parse_instruction.nd
  ss_cons (s_asg (PEF.sh (f_split (m_var 0) m_str)) (g_star (gs_cons (g_name 1 nd) (gs_cons (g_name 2 nd) gs_nil))))
  (ss_cons (s_if (PWM.t (w_or (t_notInK (b0.tab 0 (t := ("FORMS", tb_FORMS))) (b0.glo 11) (m_var 1)) (w_or1 (t_neG (b0.sub 20) (.cons (o_Program_eq b0) .nil) (.cons rfl .nil) (.cons (b0.opn 23) .nil) hr pas0 (m_lenO (.cons (o_Program_len b0) .nil) hr pas0 (b0.free 10) (a_cons (m_getK (b0.tab 0 (t := ("FORMS", tb_FORMS))) (b0.glo 11) (m_var 1)) a_nil)) (m_lenO (.cons (o_Program_len b0) .nil) hr pas0 (b0.free 10) (a_cons (m_var 2) a_nil)))))) (ss_one (s_ret m_non)) ss_nil)
  (ss_cons (s_lc (i := 3) (own := [("kind", 4), ("item", 5)]) (by exact (i_zipSl (a_cons (m_getK (b0.tab 0 (t := ("FORMS", tb_FORMS))) (b0.glo 11) (m_var 1)) (a_cons (m_var 2) a_nil)) (b0.free 8))) (blkOk_by (by rfl)) nd (fun _ => g_tup (gs_cons (g_name 4 nd) (gs_cons (g_name 5 nd) gs_nil))) (fun _ => ts_nil) (fun _ => m_call (d_parse_item b0) hr pas0 (a_cons (m_var 4) (a_cons (m_var 5) a_nil))) (by rfl))
  (ss_cons (s_if (t_tru (m_cb (cr_any rfl) rc_any (b0.free 15) rfl (a_cons (PEF.sh (f_lc (own := [("item", 5)]) (i_seq (m_var 3)) (blkOk_by (by rfl)) nd (fun _ => g_name 5 nd) (fun _ => ts_nil) (fun _ => m_isN (m_var 5) m_non))) a_nil))) (ss_one (s_ret m_non)) ss_nil)
  (ss_cons (s_if (t_in (m_var 1) (m_tup (a_cons m_str (a_cons m_str a_nil)))) (ss_one (s_ret (m_ifx (PWM.t (w_and (t_ge (m_ixO (.cons (o_Program_getitem b0) .nil) hr pas0 (m_var 3) (m_neg m_int)) m_int) (w_and1 (t_tru (m_call (d_is_instruction b0) hr pas0 (a_cons (m_tup (a_cons (m_var 1) (a_star (m_sl (m_var 3) o_none (o_some (m_neg m_int))) (a_cons m_int a_nil)))) a_nil)))))) (m_tup (a_cons (m_var 1) (a_star (m_var 3) a_nil))) m_non))) ss_nil)
  (ss_one (s_ret (m_ifx (t_tru (m_call (d_is_instruction b0) hr pas0 (a_cons (m_tup (a_cons (m_var 1) (a_star (m_var 3) a_nil))) a_nil))) (m_tup (a_cons (m_var 1) (a_star (m_var 3) a_nil))) m_non)))))))
theorem ok_parse_instruction (b0 : BasT fx fn tbs w K mg) : ∃ fd, FnOk P w K mg base (L2.CX P w) 6 (He.ga K "parse_instruction") fd ["line"] (spM K (gOf K cs) 1 F_parse_instruction) ∧ FunD K "parse_instruction" "parse_instruction" (defArgs st_parse_instruction) (defBody st_parse_instruction) (defScope st_parse_instruction) (dx_parse_instruction.dfl K) [] (He.ga K "parse_instruction") fd := by
  obtain ⟨fd, F⟩ := b0.c.def_ 23 (d := dx_parse_instruction) rfl
  exact ⟨fd, df_N F sc_parse_instruction fun cdv A outer s H E hr => w_parse_instruction b0 cdv A outer s H E hr, F⟩
theorem d_parse_instruction (b0 : BasT fx fn tbs w K mg) : Def0 P w K mg base (gOf K cs) "parse_instruction" 1 F_parse_instruction 6 [] := by
  obtain ⟨fd, ok, F⟩ := ok_parse_instruction (P := P) (w := w) (base := base) b0
  exact mkDef0 ok (b0.glo 46) F.kp (F.bindsN (ps := ["line"]) fun _ _ _ _ _ _ us hl => match us, hl with | [_], _ => rfl) fnM_ar
theorem w_lines_of (b0 : BasT fx fn tbs w K mg) {f : Addr} (cdv : Value) (A : Around) (outer : List Env) (s : Shared) (H : Hp) (E : XK) (hr : Room 2 (A.deeper (envOfC "lines_of" (defScope st_lines_of) s.heap.objs.size f cdv))) : PSsM  (cxOf (L2.CX P w) P w K mg base ["text"] "lines_of" (defScope st_lines_of) f cdv A outer s H E).nox (gOf K cs) WF (defBody st_lines_of) m_lines_of :=
  have nd := sc_lines_of.nd
  ss_cons (s_if (t_not (t_tru (m_isi (b0.isf 0) (m_var 0) (ce_ty (b0.free 12) rfl) (b0.free 2)))) (ss_one s_never) ss_nil)
  (ss_one (s_ret (m_ifx (t_neGS (b0.sub 20) (.cons (o_Program_eq b0) .nil) (.cons rfl .nil) (.cons (b0.opn 23) .nil) hr pas0 (m_var 0) m_str) (PEF.sh (f_split (m_var 0) m_str)) (m_lst a_nil))))
theorem ok_lines_of (b0 : BasT fx fn tbs w K mg) : ∃ fd, FnOk P w K mg base (L2.CX P w) 3 (He.ga K "lines_of") fd ["text"] (spM K (gOf K cs) 1 F_lines_of) ∧ FunD K "lines_of" "lines_of" (defArgs st_lines_of) (defBody st_lines_of) (defScope st_lines_of) (dx_lines_of.dfl K) [] (He.ga K "lines_of") fd := by
  obtain ⟨fd, F⟩ := b0.c.def_ 24 (d := dx_lines_of) rfl
  exact ⟨fd, df_N F sc_lines_of fun cdv A outer s H E hr => w_lines_of b0 cdv A outer s H E hr, F⟩
theorem d_lines_of (b0 : BasT fx fn tbs w K mg) : Def0 P w K mg base (gOf K cs) "lines_of" 1 F_lines_of 3 [] := by
  obtain ⟨fd, ok, F⟩ := ok_lines_of (P := P) (w := w) (base := base) b0
  exact mkDef0 ok (b0.glo 47) F.kp (F.bindsN (ps := ["text"]) fun _ _ _ _ _ _ us hl => match us, hl with | [_], _ => rfl) fnM_ar
theorem w_parse_program (b0 : BasT fx fn tbs w K mg) {f : Addr} (cdv : Value) (A : Around) (outer : List Env) (s : Shared) (H : Hp) (E : XK) (hr : Room 6 (A.deeper (envOfC "parse_program" (defScope st_parse_program) s.heap.objs.size f cdv))) : PSsM  (cxOf (L2.CX P w) P w K mg base ["text", "result", "index", "line", "instruction"] "parse_program" (defScope st_parse_program) f cdv A outer s H E).nox (gOf K cs) WF (defBody st_parse_program) m_parse_program :=
  have nd := sc_parse_program.nd
  ss_cons (s_setF (i := 1) (f_lst a_nil) nd)
  (ss_cons (s_for po0 (i_enum (a_cons (m_call (d_lines_of b0) hr pas0 (a_cons (m_var 0) a_nil)) a_nil) (b0.free 24)) (g_tup (gs_cons (g_name 2 nd) (gs_cons (g_name 3 nd) gs_nil))) (ss_cons (s_set (i := 4) (m_call (d_parse_instruction b0) hr pas0 (a_cons (m_var 3) a_nil)) nd)
  (ss_cons (s_if (t_isN (m_var 4) m_non) (ss_one s_never) ss_nil)
  (ss_one (s_app 1 (m_var 4))))))
  (ss_one (s_ret (PEF.sh (f_make (k_Program_init b0) hr pas0 (a_cons (m_var 1) a_nil))))))
theorem ok_parse_program (b0 : BasT fx fn tbs w K mg) : ∃ fd, FnOk P w K mg base (L2.CX P w) 7 (He.ga K "parse_program") fd ["text"] (spM K (gOf K cs) 1 F_parse_program) ∧ FunD K "parse_program" "parse_program" (defArgs st_parse_program) (defBody st_parse_program) (defScope st_parse_program) (dx_parse_program.dfl K) [] (He.ga K "parse_program") fd := by
  obtain ⟨fd, F⟩ := b0.c.def_ 25 (d := dx_parse_program) rfl
  exact ⟨fd, df_N F sc_parse_program fun cdv A outer s H E hr => w_parse_program b0 cdv A outer s H E hr, F⟩
theorem d_parse_program (b0 : BasT fx fn tbs w K mg) : Def0 P w K mg base (gOf K cs) "parse_program" 1 F_parse_program 7 [] := by
  obtain ⟨fd, ok, F⟩ := ok_parse_program (P := P) (w := w) (base := base) b0
  exact mkDef0 ok (b0.glo 48) F.kp (F.bindsN (ps := ["text"]) fun _ _ _ _ _ _ us hl => match us, hl with | [_], _ => rfl) fnM_ar
theorem w_named_target (b0 : BasT fx fn tbs w K mg) {f : Addr} (cdv : Value) (A : Around) (outer : List Env) (s : Shared) (H : Hp) (E : XK) (hr : Room 5 (A.deeper (envOfC "named_target" (defScope st_named_target) s.heap.objs.size f cdv))) : PSsM  (cxOf (L2.CX P w) P w K mg base ["line", "word", "words"] "named_target" (defScope st_named_target) f cdv A outer s H E).nox (gOf K cs) WF (defBody st_named_target) m_named_target :=
  have nd := sc_named_target.nd
  ss_cons (s_asg (PEF.sh (f_split (m_var 0) m_str)) (g_star (gs_cons (g_name 1 nd) (gs_cons (g_name 2 nd) gs_nil))))
  (ss_cons (s_if (PWM.t (w_and (t_in (m_var 1) (m_tup (a_cons m_str (a_cons m_str a_nil)))) (w_and (t_neG (b0.sub 20) (.cons (o_Program_eq b0) .nil) (.cons rfl .nil) (.cons (b0.opn 23) .nil) hr pas0 (m_var 2) (m_lst a_nil)) (w_and1 (t_tru (m_call (d_is_name b0) hr pas0 (a_cons (m_ixO (.cons (o_Program_getitem b0) .nil) hr pas0 (m_var 2) (m_neg m_int)) a_nil))))))) (ss_one (s_ret (m_tup (a_cons (m_join m_str (m_lst (a_cons (m_var 1) (a_star (m_sl (m_var 2) o_none (o_some (m_neg m_int))) (a_cons m_str a_nil))))) (a_cons (m_ixO (.cons (o_Program_getitem b0) .nil) hr pas0 (m_var 2) (m_neg m_int)) a_nil))))) ss_nil)
  (ss_one (s_ret (m_tup (a_cons (m_var 0) (a_cons m_non a_nil))))))
theorem ok_named_target (b0 : BasT fx fn tbs w K mg) : ∃ fd, FnOk P w K mg base (L2.CX P w) 6 (He.ga K "named_target") fd ["line"] (spM K (gOf K cs) 1 F_named_target) ∧ FunD K "named_target" "named_target" (defArgs st_named_target) (defBody st_named_target) (defScope st_named_target) (dx_named_target.dfl K) [] (He.ga K "named_target") fd := by
  obtain ⟨fd, F⟩ := b0.c.def_ 26 (d := dx_named_target) rfl
  exact ⟨fd, df_N F sc_named_target fun cdv A outer s H E hr => w_named_target b0 cdv A outer s H E hr, F⟩
theorem d_named_target (b0 : BasT fx fn tbs w K mg) : Def0 P w K mg base (gOf K cs) "named_target" 1 F_named_target 6 [] := by
  obtain ⟨fd, ok, F⟩ := ok_named_target (P := P) (w := w) (base := base) b0
  exact mkDef0 ok (b0.glo 49) F.kp (F.bindsN (ps := ["line"]) fun _ _ _ _ _ _ us hl => match us, hl with | [_], _ => rfl) fnM_ar
theorem w_assemble (b0 : BasT fx fn tbs w K mg) {f : Addr} (cdv : Value) (A : Around) (outer : List Env) (s : Shared) (H : Hp) (E : XK) (hr : Room 6 (A.deeper (envOfC "assemble" (defScope st_assemble) s.heap.objs.size f cdv))) : PSsM  (cxOf (L2.CX P w) P w K mg base ["text", "labels", "found", "index", "line", "plain", "name", "instruction", "result"] "assemble" (defScope st_assemble) f cdv A outer s H E).nox (gOf K cs) WF (defBody st_assemble) m_assemble :=
  have nd := sc_assemble.nd
  ss_cons (s_parX2 1 2 (x_o f_dic0 (x_o (f_lst a_nil) x_nil)) nd)
  (ss_cons (s_for po0 (i_enum (a_cons (m_call (d_lines_of b0) hr pas0 (a_cons (m_var 0) a_nil)) a_nil) (b0.free 24)) (g_tup (gs_cons (g_name 3 nd) (gs_cons (g_name 4 nd) gs_nil))) (ss_one (s_if (PWM.t (w_and (t_tru (m_end (m_var 4) m_str)) (w_and1 (t_tru (m_call (d_is_name b0) hr pas0 (a_cons (m_sl (m_var 4) o_none (o_some (m_neg m_int))) a_nil)))))) (ss_cons (s_if (t_din hr (m_sl (m_var 4) o_none (o_some (m_neg m_int))) (m_var 1)) (ss_one s_never) ss_nil)
  (ss_one (s_dput 1 hr (m_cbS 2 call_len rc_len (b0.free 10) rfl) (m_sl (m_var 4) o_none (o_some (m_neg m_int)))))) (ss_cons (s_asg (m_call (d_named_target b0) hr pas0 (a_cons (m_var 4) a_nil)) (g_tup (gs_cons (g_name 5 nd) (gs_cons (g_name 6 nd) gs_nil))))
  (ss_cons (s_set (i := 7) (m_call (d_parse_instruction b0) hr pas0 (a_cons (m_var 5) a_nil)) nd)
  (ss_cons (s_if (t_isN (m_var 7) m_non) (ss_one s_never) ss_nil)
  (ss_one (s_app 2 (m_tup (a_cons (m_var 3) (a_cons (m_var 7) (a_cons (m_var 6) a_nil))))))))))))
  (ss_cons (s_setF (i := 8) (f_lst a_nil) nd)
  (ss_cons (s_for po0 (i_seq (m_var 2)) (g_tup (gs_cons (g_name 3 nd) (gs_cons (g_name 7 nd) (gs_cons (g_name 6 nd) gs_nil)))) (ss_cons (s_if (PWM.t (w_and (t_notN (m_var 6) m_non) (w_and1 (t_dnin hr (m_var 6) (m_var 1))))) (ss_one s_never) ss_nil)
  (ss_one (s_app 8 (m_ifx (t_isN (m_var 6) m_non) (m_var 7) (m_tup (a_star (m_sl (m_var 7) o_none (o_some (m_neg m_int))) (a_cons (m_dgetS 1 hr (m_var 6)) a_nil))))))))
  (ss_one (s_ret (PEF.sh (f_make (k_Program_init b0) hr pas0 (a_cons (m_var 8) a_nil))))))))
theorem ok_assemble (b0 : BasT fx fn tbs w K mg) : ∃ fd, FnOk P w K mg base (L2.CX P w) 7 (He.ga K "assemble") fd ["text"] (spM K (gOf K cs) 1 F_assemble) ∧ FunD K "assemble" "assemble" (defArgs st_assemble) (defBody st_assemble) (defScope st_assemble) (dx_assemble.dfl K) [] (He.ga K "assemble") fd := by
  obtain ⟨fd, F⟩ := b0.c.def_ 27 (d := dx_assemble) rfl
  exact ⟨fd, df_N F sc_assemble fun cdv A outer s H E hr => w_assemble b0 cdv A outer s H E hr, F⟩
theorem d_assemble (b0 : BasT fx fn tbs w K mg) : Def0 P w K mg base (gOf K cs) "assemble" 1 F_assemble 7 [] := by
  obtain ⟨fd, ok, F⟩ := ok_assemble (P := P) (w := w) (base := base) b0
  exact mkDef0 ok (b0.glo 50) F.kp (F.bindsN (ps := ["text"]) fun _ _ _ _ _ _ us hl => match us, hl with | [_], _ => rfl) fnM_ar
theorem w_law_pool (b0 : BasT fx fn tbs w K mg) {f : Addr} (cdv : Value) (A : Around) (outer : List Env) (s : Shared) (H : Hp) (E : XK) (hr : Room 7 (A.deeper (envOfC "_law_pool" (defScope st_law_pool) s.heap.objs.size f cdv))) : PSsM  (cxOf (L2.CX P w) P w K mg base ["_law_script", "_law_k", "_law_cell", "_law_mixed"] "_law_pool" (defScope st_law_pool) f cdv A outer s H E).nox (gOf K cs) WF (defBody st_law_pool) m_law_pool :=
  have nd := sc_law_pool.nd
  ss_cons (s_set (i := 2) m_int nd)
  (ss_cons (s_if (t_lt (m_var 1) (m_lenO (.cons (o_Program_len b0) .nil) hr pas0 (b0.free 10) (a_cons (m_var 0) a_nil))) (ss_one (s_set (i := 2) (m_cb call_abs rc_abs (b0.free 26) rfl (a_cons (m_ixO (.cons (o_Program_getitem b0) .nil) hr pas0 (m_var 0) (m_var 1)) a_nil)) nd)) ss_nil)
  (ss_cons (s_set (i := 3) (m_mod (m_mul (m_addO (.cons (o_Program_add b0) .nil) (.cons (b0.opb 25) .nil) hr pas0 (m_addO (.cons (o_Program_add b0) .nil) (.cons (b0.opb 25) .nil) hr pas0 (m_addO (.cons (o_Program_add b0) .nil) (.cons (b0.opb 25) .nil) hr pas0 (m_mod (m_var 2) m_int) (m_mul (m_mul m_int (m_var 1)) (m_var 1))) (m_mul m_int (m_var 1))) m_int) m_int) m_int) nd)
  (ss_one (s_retF (f_lst (a_cons (m_mul (m_var 2) (m_ct call_int1 rc_int (b0.free 3) rfl (a_cons (m_ge (m_var 2) (m_pow m_int m_int)) a_nil))) (a_cons (m_mod (m_mul (m_var 3) (m_var 3)) m_int) a_nil)))))))
theorem ok_law_pool (b0 : BasT fx fn tbs w K mg) : ∃ fd, FnOk P w K mg base (L2.CX P w) 8 (He.ga K "_law_pool") fd ["_law_script", "_law_k"] (spM K (gOf K cs) 2 F_law_pool) ∧ FunD K "_law_pool" "_law_pool" (defArgs st_law_pool) (defBody st_law_pool) (defScope st_law_pool) (dx_law_pool.dfl K) [] (He.ga K "_law_pool") fd := by
  obtain ⟨fd, F⟩ := b0.c.def_ 28 (d := dx_law_pool) rfl
  exact ⟨fd, df_N F sc_law_pool fun cdv A outer s H E hr => w_law_pool b0 cdv A outer s H E hr, F⟩
theorem d_law_pool (b0 : BasT fx fn tbs w K mg) : Def0 P w K mg base (gOf K cs) "_law_pool" 2 F_law_pool 8 [] := by
  obtain ⟨fd, ok, F⟩ := ok_law_pool (P := P) (w := w) (base := base) b0
  exact mkDef0 ok (b0.glo 51) F.kp (F.bindsN (ps := ["_law_script", "_law_k"]) fun _ _ _ _ _ _ us hl => match us, hl with | [_, _], _ => rfl) fnM_ar
theorem w_law_take (b0 : BasT fx fn tbs w K mg) {f : Addr} (cdv : Value) (A : Around) (outer : List Env) (s : Shared) (H : Hp) (E : XK) (hr : Room 7 (A.deeper (envOfC "_law_take" (defScope st_law_take) s.heap.objs.size f cdv))) : PSsM  (cxOf (L2.CX P w) P w K mg base ["_law_pool_here", "_law_count", "_law_result"] "_law_take" (defScope st_law_take) f cdv A outer s H E).nox (gOf K cs) WF (defBody st_law_take) m_law_take :=
  have nd := sc_law_take.nd
  ss_cons (s_if (t_gt (m_ixS 0 m_int) m_int) (ss_cons (s_set (i := 2) (m_mod (m_ixS 0 m_int) (m_var 1)) nd)
  (ss_cons (s_put 0 (m_div (m_ixS 0 m_int) (m_var 1)) m_int)
  (ss_one (s_ret (m_var 2))))) ss_nil)
  (ss_cons (s_put 0 (m_mod (m_addO (.cons (o_Program_add b0) .nil) (.cons (b0.opb 25) .nil) hr pas0 (m_mul (m_ixS 0 m_int) m_int) m_int) m_int) m_int)
  (ss_one (s_ret (m_mod (m_div (m_mod (m_mul (m_ixS 0 m_int) (m_ixS 0 m_int)) m_int) m_int) (m_var 1)))))
theorem ok_law_take (b0 : BasT fx fn tbs w K mg) : ∃ fd, FnOk P w K mg base (L2.CX P w) 8 (He.ga K "_law_take") fd ["_law_pool_here", "_law_count"] (spM K (gOf K cs) 2 F_law_take) ∧ FunD K "_law_take" "_law_take" (defArgs st_law_take) (defBody st_law_take) (defScope st_law_take) (dx_law_take.dfl K) [] (He.ga K "_law_take") fd := by
  obtain ⟨fd, F⟩ := b0.c.def_ 29 (d := dx_law_take) rfl
  exact ⟨fd, df_N F sc_law_take fun cdv A outer s H E hr => w_law_take b0 cdv A outer s H E hr, F⟩
theorem d_law_take (b0 : BasT fx fn tbs w K mg) : Def0 P w K mg base (gOf K cs) "_law_take" 2 F_law_take 8 [] := by
  obtain ⟨fd, ok, F⟩ := ok_law_take (P := P) (w := w) (base := base) b0
  exact mkDef0 ok (b0.glo 52) F.kp (F.bindsN (ps := ["_law_pool_here", "_law_count"]) fun _ _ _ _ _ _ us hl => match us, hl with | [_, _], _ => rfl) fnM_ar
theorem w_law_text (b0 : BasT fx fn tbs w K mg) {f : Addr} (cdv : Value) (A : Around) (outer : List Env) (s : Shared) (H : Hp) (E : XK) (hr : Room 7 (A.deeper (envOfC "_law_text" (defScope st_law_text) s.heap.objs.size f cdv))) : PSsM  (cxOf (L2.CX P w) P w K mg base ["_law_line", "_law_kinds", "_law_words", "_law_kind", "_law_item"] "_law_text" (defScope st_law_text) f cdv A outer s H E).nox (gOf K cs) WF (defBody st_law_text) m_law_text :=
  have nd := sc_law_text.nd
  ss_cons (s_setF (i := 1) (f_disp (pv_s m_str (pv_s m_str (pv_s m_str (pv_s m_str (pv_s m_str (pv_s m_str (pv_s m_str pv_nil)))))))) nd)
  (ss_cons (s_upd 1 (m_disp (pd_ss (pd_ss pd_nil))))
  (ss_cons (s_setF (i := 2) (f_lst (a_cons (m_ixO (.cons (o_Program_getitem b0) .nil) hr pas0 (m_var 0) m_int) a_nil)) nd)
  (ss_cons (s_for po0 (i_zipS (a_cons (m_dgetS 1 hr (m_ixO (.cons (o_Program_getitem b0) .nil) hr pas0 (m_var 0) m_int)) (a_cons (m_sl (m_var 0) (o_some m_int) o_none) a_nil)) (b0.free 8)) (g_tup (gs_cons (g_name 3 nd) (gs_cons (g_name 4 nd) gs_nil))) (ss_one (s_app 2 (m_ifx (t_eqGS (b0.sub 20) (.cons (o_Program_eq b0) .nil) (.cons rfl .nil) hr pas0 (m_var 3) m_str) (m_ct call_str_int rc_strS (b0.free 12) rfl (a_cons (m_var 4) a_nil)) (m_addO (.cons (o_Program_add b0) .nil) (.cons (b0.opb 25) .nil) hr pas0 (m_var 3) (m_ct call_str_int rc_strS (b0.free 12) rfl (a_cons (m_var 4) a_nil)))))))
  (ss_one (s_ret (m_join m_str (m_var 2)))))))
theorem ok_law_text (b0 : BasT fx fn tbs w K mg) : ∃ fd, FnOk P w K mg base (L2.CX P w) 8 (He.ga K "_law_text") fd ["_law_line"] (spM K (gOf K cs) 1 F_law_text) ∧ FunD K "_law_text" "_law_text" (defArgs st_law_text) (defBody st_law_text) (defScope st_law_text) (dx_law_text.dfl K) [] (He.ga K "_law_text") fd := by
  obtain ⟨fd, F⟩ := b0.c.def_ 30 (d := dx_law_text) rfl
  exact ⟨fd, df_N F sc_law_text fun cdv A outer s H E hr => w_law_text b0 cdv A outer s H E hr, F⟩
theorem d_law_text (b0 : BasT fx fn tbs w K mg) : Def0 P w K mg base (gOf K cs) "_law_text" 1 F_law_text 8 [] := by
  obtain ⟨fd, ok, F⟩ := ok_law_text (P := P) (w := w) (base := base) b0
  exact mkDef0 ok (b0.glo 53) F.kp (F.bindsN (ps := ["_law_line"]) fun _ _ _ _ _ _ us hl => match us, hl with | [_], _ => rfl) fnM_ar
theorem w_law_any_code (b0 : BasT fx fn tbs w K mg) {f : Addr} (cdv : Value) (A : Around) (outer : List Env) (s : Shared) (H : Hp) (E : XK) (hr : Room 8 (A.deeper (envOfC "_law_any_code" (defScope st_law_any_code) s.heap.objs.size f cdv))) : PSsM  (cxOf (L2.CX P w) P w K mg base ["_law_pool_here", "_law_many", "_law_found", "_law_turn", "_law_way", "_law_some", "_law_a", "_law_b", "_law_flag", "_law_word"] "_law_any_code" (defScope st_law_any_code) f cdv A outer s H E).nox (gOf K cs) WF (defBody st_law_any_code) m_law_any_code :=
  have nd := sc_law_any_code.nd
  ss_cons (s_setF (i := 2) (f_lst a_nil) nd)
  (ss_cons (s_for po0 (i_rng1 (a_cons (m_var 1) a_nil) (b0.free 27)) (g_name 3 nd) (ss_cons (s_set (i := 4) (m_callL 0 (d_law_take b0) hr pas0 (a_cons m_int a_nil)) nd)
  (ss_one (s_if (t_eqG (b0.sub 20) (.cons (o_Program_eq b0) .nil) (.cons rfl .nil) hr pas0 (m_var 4) m_int) (ss_one (s_app 2 (m_tup (a_cons m_str (a_cons (m_callL 0 (d_law_take b0) hr pas0 (a_cons m_int a_nil)) (a_cons (m_callL 0 (d_law_take b0) hr pas0 (a_cons (m_addO (.cons (o_Program_add b0) .nil) (.cons (b0.opb 25) .nil) hr pas0 (m_var 1) m_int) a_nil)) a_nil)))))) (ss_one (s_if (t_eqG (b0.sub 20) (.cons (o_Program_eq b0) .nil) (.cons rfl .nil) hr pas0 (m_var 4) m_int) (ss_one (s_app 2 (m_tup (a_cons m_str (a_cons (m_callL 0 (d_law_take b0) hr pas0 (a_cons (m_addO (.cons (o_Program_add b0) .nil) (.cons (b0.opb 25) .nil) hr pas0 (m_var 1) m_int) a_nil)) a_nil))))) (ss_one (s_if (t_eqG (b0.sub 20) (.cons (o_Program_eq b0) .nil) (.cons rfl .nil) hr pas0 (m_var 4) m_int) (ss_cons (s_set (i := 5) (m_lst (a_cons m_int (a_cons (m_neg m_int) (a_cons (m_pow m_int m_int) (a_cons (m_neg (m_pow m_int m_int)) (a_cons m_int a_nil)))))) nd)
  (ss_one (s_app 2 (m_tup (a_cons m_str (a_cons (m_callL 0 (d_law_take b0) hr pas0 (a_cons m_int a_nil)) (a_cons (m_ixO (.cons (o_Program_getitem b0) .nil) hr pas0 (m_var 5) (m_callL 0 (d_law_take b0) hr pas0 (a_cons m_int a_nil))) a_nil))))))) (ss_one (s_if (t_eqG (b0.sub 20) (.cons (o_Program_eq b0) .nil) (.cons rfl .nil) hr pas0 (m_var 4) m_int) (ss_cons (s_par2 6 7 (a_cons (m_callL 0 (d_law_take b0) hr pas0 (a_cons m_int a_nil)) (a_cons (m_callL 0 (d_law_take b0) hr pas0 (a_cons m_int a_nil)) a_nil)) nd)
  (ss_one (s_app 2 (m_tup (a_cons m_str (a_cons (m_var 6) (a_cons (m_var 7) (a_cons (m_sub (m_callL 0 (d_law_take b0) hr pas0 (a_cons m_int a_nil)) m_int) a_nil)))))))) (ss_one (s_if (t_eqG (b0.sub 20) (.cons (o_Program_eq b0) .nil) (.cons rfl .nil) hr pas0 (m_var 4) m_int) (ss_cons (s_par2 6 8 (a_cons (m_callL 0 (d_law_take b0) hr pas0 (a_cons m_int a_nil)) (a_cons (m_callL 0 (d_law_take b0) hr pas0 (a_cons m_int a_nil)) a_nil)) nd)
  (ss_one (s_app 2 (m_tup (a_cons m_str (a_cons (m_var 6) (a_cons (m_var 8) (a_cons (m_callL 0 (d_law_take b0) hr pas0 (a_cons m_int a_nil)) (a_cons (m_callL 0 (d_law_take b0) hr pas0 (a_cons m_int a_nil)) a_nil))))))))) (ss_cons (s_par2 9 6 (a_cons (m_ixO (.cons (o_Program_getitem b0) .nil) hr pas0 (m_lst (a_cons m_str (a_cons m_str (a_cons m_str (a_cons m_str a_nil))))) (m_callL 0 (d_law_take b0) hr pas0 (a_cons m_int a_nil))) (a_cons (m_callL 0 (d_law_take b0) hr pas0 (a_cons m_int a_nil)) a_nil)) nd)
  (ss_one (s_app 2 (m_tup (a_cons (m_var 9) (a_cons (m_var 6) (a_cons (m_callL 0 (d_law_take b0) hr pas0 (a_cons m_int a_nil)) (a_cons (m_callL 0 (d_law_take b0) hr pas0 (a_cons m_int a_nil)) a_nil))))))))))))))))))))
  (ss_one (s_ret (m_var 2))))
theorem ok_law_any_code (b0 : BasT fx fn tbs w K mg) : ∃ fd, FnOk P w K mg base (L2.CX P w) 9 (He.ga K "_law_any_code") fd ["_law_pool_here", "_law_many"] (spM K (gOf K cs) 2 F_law_any_code) ∧ FunD K "_law_any_code" "_law_any_code" (defArgs st_law_any_code) (defBody st_law_any_code) (defScope st_law_any_code) (dx_law_any_code.dfl K) [] (He.ga K "_law_any_code") fd := by
  obtain ⟨fd, F⟩ := b0.c.def_ 31 (d := dx_law_any_code) rfl
  exact ⟨fd, df_N F sc_law_any_code fun cdv A outer s H E hr => w_law_any_code b0 cdv A outer s H E hr, F⟩
theorem d_law_any_code (b0 : BasT fx fn tbs w K mg) : Def0 P w K mg base (gOf K cs) "_law_any_code" 2 F_law_any_code 9 [] := by
  obtain ⟨fd, ok, F⟩ := ok_law_any_code (P := P) (w := w) (base := base) b0
  exact mkDef0 ok (b0.glo 54) F.kp (F.bindsN (ps := ["_law_pool_here", "_law_many"]) fun _ _ _ _ _ _ us hl => match us, hl with | [_, _], _ => rfl) fnM_ar
theorem w_law_long_right (b0 : BasT fx fn tbs w K mg) {f : Addr} (cdv : Value) (A : Around) (outer : List Env) (s : Shared) (H : Hp) (E : XK) (hr : Room 8 (A.deeper (envOfC "_law_long_right" (defScope st_law_long_right) s.heap.objs.size f cdv))) : PSsM  (cxOf (L2.CX P w) P w K mg base ["_law_great", "_law_code", "_law_text_here", "_law_line"] "_law_long_right" (defScope st_law_long_right) f cdv A outer s H E).nox (gOf K cs) WF (defBody st_law_long_right) m_law_long_right :=
  have nd := sc_law_long_right.nd
  ss_cons (s_set (i := 0) (m_sub (m_mul (m_mul (m_mul (m_pow m_int m_int) (m_pow m_int m_int)) (m_pow m_int m_int)) (m_pow m_int m_int)) m_int) nd)
  (ss_cons (s_set (i := 1) (m_lst (a_cons (m_tup (a_cons m_str (a_cons m_int (a_cons (m_var 0) a_nil)))) (a_cons (m_tup (a_cons m_str (a_cons m_int (a_cons (m_neg (m_var 0)) a_nil)))) (a_cons (m_tup (a_cons m_str (a_cons m_int (a_cons m_int a_nil)))) (a_cons (m_tup (a_cons m_str (a_cons m_int a_nil))) (a_cons (m_tup (a_cons m_str (a_cons m_int a_nil))) (a_cons (m_tup (a_cons m_str (a_cons m_int a_nil))) a_nil))))))) nd)
  (ss_cons (s_set (i := 1) (m_addO (.cons (o_Program_add b0) .nil) (.cons (b0.opb 25) .nil) hr pas0 (m_var 1) (m_mul (m_lst (a_cons (m_tup (a_cons m_str (a_cons m_int (a_cons m_int (a_cons m_int a_nil))))) (a_cons (m_tup (a_cons m_str (a_cons m_int (a_cons (m_pow m_int m_int) a_nil)))) a_nil))) m_int)) nd)
  (ss_cons (s_set (i := 2) (m_join m_str (PEF.sh (f_lc (own := [("_law_line", 3)]) (i_seq (m_var 1)) (blkOk_by (by rfl)) nd (fun _ => g_name 3 nd) (fun _ => ts_nil) (fun _ => m_call (d_law_text b0) hr pas0 (a_cons (m_var 3) a_nil))))) nd)
  (ss_cons (s_if (PWM.t (w_or (t_neG (b0.sub 20) (.cons (o_Program_eq b0) .nil) (.cons rfl .nil) (.cons (b0.opn 23) .nil) hr pas0 (m_lenO (.cons (o_Program_len b0) .nil) hr pas0 (b0.free 10) (a_cons (m_var 1) a_nil)) m_int) (w_or1 (t_neGS (b0.sub 20) (.cons (o_Program_eq b0) .nil) (.cons rfl .nil) (.cons (b0.opn 23) .nil) hr pas0 (m_call (d_format_program b0) hr pas0 (a_cons (PEF.sh (f_make (k_Program_init b0) hr pas0 (a_cons (m_var 1) a_nil))) a_nil)) (m_var 2))))) (ss_one (s_ret m_bl)) ss_nil)
  (ss_one (s_ret (m_and (m_eqG (b0.sub 20) (.cons (o_Program_eq b0) .nil) (.cons rfl .nil) hr pas0 (m_call (d_parse_program b0) hr pas0 (a_cons (m_var 2) a_nil)) (PEF.sh (f_make (k_Program_init b0) hr pas0 (a_cons (m_var 1) a_nil)))) (m_one (m_eqG (b0.sub 20) (.cons (o_Program_eq b0) .nil) (.cons rfl .nil) hr pas0 (m_call (d_assemble b0) hr pas0 (a_cons (m_var 2) a_nil)) (PEF.sh (f_make (k_Program_init b0) hr pas0 (a_cons (m_var 1) a_nil))))))))))))
theorem ok_law_long_right (b0 : BasT fx fn tbs w K mg) : ∃ fd, FnOk P w K mg base (L2.CX P w) 9 (He.ga K "_law_long_right") fd [] (spM K (gOf K cs) 0 F_law_long_right) ∧ FunD K "_law_long_right" "_law_long_right" (defArgs st_law_long_right) (defBody st_law_long_right) (defScope st_law_long_right) (dx_law_long_right.dfl K) [] (He.ga K "_law_long_right") fd := by
  obtain ⟨fd, F⟩ := b0.c.def_ 32 (d := dx_law_long_right) rfl
  exact ⟨fd, df_N F sc_law_long_right fun cdv A outer s H E hr => w_law_long_right b0 cdv A outer s H E hr, F⟩
theorem d_law_long_right (b0 : BasT fx fn tbs w K mg) : Def0 P w K mg base (gOf K cs) "_law_long_right" 0 F_law_long_right 9 [] := by
  obtain ⟨fd, ok, F⟩ := ok_law_long_right (P := P) (w := w) (base := base) b0
  exact mkDef0 ok (b0.glo 55) F.kp (F.bindsN (ps := []) fun _ _ _ _ _ _ us hl => match us, hl with | [], _ => rfl) fnM_ar
theorem w_law (b0 : BasT fx fn tbs w K mg) {f : Addr} (cdv : Value) (A : Around) (outer : List Env) (s : Shared) (H : Hp) (E : XK) (hr : Room 9 (A.deeper (envOfC "law" (defScope st_law) s.heap.objs.size f cdv))) (ng : NoG A) : PSsM  (cxOf (L2.CX P w) P w K mg base ["_law_script", "_law_known", "_law_text_here", "_law_k", "_law_pool_here", "_law_code", "_law_program", "_law_found", "_law_line"] "law" (defScope st_law) f cdv A outer s H E).nox (gOf K cs) WF (defBody st_law) m_law :=
  have nd := sc_law.nd
  ss_cons (s_if (PWM.t (w_or (t_neGS (b0.sub 20) (.cons (o_Program_eq b0) .nil) (.cons rfl .nil) (.cons (b0.opn 23) .nil) hr pas0 (m_call (d_format_program b0) hr pas0 (a_cons (PEF.sh (f_make (k_Program_init b0) hr pas0 (a_cons (m_lst a_nil) a_nil))) a_nil)) m_str) (w_or (t_neG (b0.sub 20) (.cons (o_Program_eq b0) .nil) (.cons rfl .nil) (.cons (b0.opn 23) .nil) hr pas0 (m_call (d_parse_program b0) hr pas0 (a_cons m_str a_nil)) (PEF.sh (f_make (k_Program_init b0) hr pas0 (a_cons (m_lst a_nil) a_nil)))) (w_or1 (t_neG (b0.sub 20) (.cons (o_Program_eq b0) .nil) (.cons rfl .nil) (.cons (b0.opn 23) .nil) hr pas0 (m_call (d_assemble b0) hr pas0 (a_cons m_str a_nil)) (PEF.sh (f_make (k_Program_init b0) hr pas0 (a_cons (m_lst a_nil) a_nil)))))))) (ss_one (s_ret m_bl)) ss_nil)
  (ss_cons (s_set (i := 1) (m_lst (a_cons (m_tup (a_cons m_str (a_cons m_int (a_cons (m_neg m_int) a_nil)))) (a_cons (m_tup (a_cons m_str (a_cons m_int (a_cons m_int (a_cons m_int a_nil))))) (a_cons (m_tup (a_cons m_str (a_cons m_int (a_cons m_int (a_cons m_int (a_cons m_int a_nil)))))) (a_cons (m_tup (a_cons m_str (a_cons m_int (a_cons m_int (a_cons m_int a_nil))))) (a_cons (m_tup (a_cons m_str (a_cons m_int (a_cons m_int a_nil)))) a_nil)))))) nd)
  (ss_cons (s_set (i := 1) (m_addO (.cons (o_Program_add b0) .nil) (.cons (b0.opb 25) .nil) hr pas0 (m_var 1) (m_lst (a_cons (m_tup (a_cons m_str (a_cons m_int a_nil))) a_nil))) nd)
  (ss_cons (s_set (i := 2) m_str nd)
  (ss_cons (s_if (t_neGS (b0.sub 20) (.cons (o_Program_eq b0) .nil) (.cons rfl .nil) (.cons (b0.opn 23) .nil) hr pas0 (m_call (d_format_program b0) hr pas0 (a_cons (PEF.sh (f_make (k_Program_init b0) hr pas0 (a_cons (m_addO (.cons (o_Program_add b0) .nil) (.cons (b0.opb 25) .nil) hr pas0 (m_var 1) (m_lst (a_cons (m_tup (a_cons m_str (a_cons m_int (a_cons m_int a_nil)))) a_nil))) a_nil))) a_nil)) (m_var 2)) (ss_one (s_ret m_bl)) ss_nil)
  (ss_cons (s_if (t_neG (b0.sub 20) (.cons (o_Program_eq b0) .nil) (.cons rfl .nil) (.cons (b0.opn 23) .nil) hr pas0 (m_ixO (.cons (o_Program_getitem b0) .nil) hr pas0 (m_call (d_parse_program b0) hr pas0 (a_cons (m_var 2) a_nil)) m_int) (m_tup (a_cons m_str (a_cons m_int (a_cons m_int a_nil))))) (ss_one (s_ret m_bl)) ss_nil)
  (ss_cons (s_if (t_not (t_tru (m_call0 (d_law_long_right b0) hr pas0))) (ss_one (s_ret m_bl)) ss_nil)
  (ss_cons (s_for po0 (i_rng1 (a_cons (m_cb (call_max2 rfl) rc_max2 (b0.free 29) rfl (a_cons m_int (a_cons (m_cb (call_min2 rfl) rc_min2 (b0.free 28) rfl (a_cons m_int (a_cons (m_lenO (.cons (o_Program_len b0) .nil) hr pas0 (b0.free 10) (a_cons (m_var 0) a_nil)) a_nil))) a_nil))) a_nil) (b0.free 27)) (g_name 3 nd) (ss_cons (s_setF (i := 4) (f_call (d_law_pool b0) hr pas0 (a_cons (m_var 0) (a_cons (m_var 3) a_nil))) nd)
  (ss_cons (s_set (i := 5) (m_callL 4 (d_law_any_code b0) hr pas0 (a_cons (m_callL 4 (d_law_take b0) hr pas0 (a_cons m_int a_nil)) a_nil)) nd)
  (ss_cons (s_par2 6 2 (a_cons (PEF.sh (f_make (k_Program_init b0) hr pas0 (a_cons (m_var 5) a_nil))) (a_cons (m_join m_str (PEF.sh (f_lc (own := [("_law_line", 8)]) (i_seq (m_var 5)) (blkOk_by (by rfl)) nd (fun _ => g_name 8 nd) (fun _ => ts_nil) (fun _ => m_call (d_law_text b0) hr pas0 (a_cons (m_var 8) a_nil))))) a_nil)) nd)
  (ss_cons (s_if (PWM.t (w_or (t_neGS (b0.sub 20) (.cons (o_Program_eq b0) .nil) (.cons rfl .nil) (.cons (b0.opn 23) .nil) hr pas0 (m_call (d_format_program b0) hr pas0 (a_cons (m_var 6) a_nil)) (m_var 2)) (w_or1 (t_neGS (b0.sub 20) (.cons (o_Program_eq b0) .nil) (.cons rfl .nil) (.cons (b0.opn 23) .nil) hr pas0 (m_call (d_format_program b0) hr pas0 (a_cons (m_var 6) a_nil)) (m_var 2))))) (ss_one (s_ret m_bl)) ss_nil)
  (ss_one (s_for po0 (i_seq (m_lst (a_cons (m_call (d_parse_program b0) hr pas0 (a_cons (m_var 2) a_nil)) (a_cons (m_call (d_assemble b0) hr pas0 (a_cons (m_var 2) a_nil)) a_nil)))) (g_name 7 nd) (ss_one (s_if (PWM.t (w_or (t_neG (b0.sub 20) (.cons (o_Program_eq b0) .nil) (.cons rfl .nil) (.cons (b0.opn 23) .nil) hr pas0 (m_var 7) (m_var 6)) (w_or1 (t_neGS (b0.sub 20) (.cons (o_Program_eq b0) .nil) (.cons rfl .nil) (.cons (b0.opn 23) .nil) hr pas0 (m_cb (call_repr_dp (by exact ng) hr) rc_reprG (b0.free 30) rfl (a_cons (m_prp (.cons (p_Program_instructions b0) .nil) (m_var 7) hr) a_nil)) (m_cb (call_repr_dp (by exact ng) hr) rc_reprG (b0.free 30) rfl (a_cons (m_ct call_tuple_of rc_tuple (b0.free 13) rfl (a_cons (m_var 5) a_nil)) a_nil)))))) (ss_one (s_ret m_bl)) ss_nil)))))))))
  (ss_one (s_ret m_bl)))))))))
theorem ok_law (b0 : BasT fx fn tbs w K mg) : ∃ fd, FnG P w K mg base (L2.CX P w) 10 (He.ga K "law") fd ["_law_script"] (spM K (gOf K cs) 1 F_law) ∧ FunD K "law" "law" (defArgs st_law) (defBody st_law) (defScope st_law) (dx_law.dfl K) [] (He.ga K "law") fd := by
  obtain ⟨fd, F⟩ := b0.c.def_ 33 (d := dx_law) rfl
  exact ⟨fd, df_NG F sc_law fun cdv A outer s H E ng hr => w_law b0 cdv A outer s H E hr ng, F⟩
end
end LW

set_option Elab.async false
set_option linter.all false
set_option maxRecDepth 100000
set_option maxHeartbeats 400000
namespace DL
open PySem L2 PyProof.Rows
/-! ### the law's def, where nothing catches -/
/-- the law's promise at the script -/
theorem sp_end {K : PySem.W.Frag} {g : G} {F : Fm} {ns : List Int} {H : Hp} {a : Addr} (hF : ∃ e, F [.sh (.scr ns)] = .ok (.rt (.bl true)) e) (hS : SqL K H a (ns.map V.int)) : spM K g 1 F [.ref a] H (fun v _ => v = .bl true) E0 := by
  obtain ⟨e, hF⟩ := hF
  refine ⟨H, [.sh (.scr ns)], sr_sh (ds := [.scr ns]) (Ex.refl H) (.cons (.scr hS) .nil), rfl, ?_⟩
  rw [hF]
  intro σ' Hf' H' st v r
  cases r
  rfl
end DL

set_option Elab.async false
set_option linter.all false
set_option maxRecDepth 100000
set_option maxHeartbeats 400000
namespace DL
open PySem L2 PySem.Spec PyProof.Rows
/-! ### the law's def, where no repr is under way -/
theorem fn0G {P : Program} {w : World} {K : PySem.W.Frag} {mg : Str → Option Value} {base : Heap} {k : Nat} {f : Addr} {fd : FuncData} {ps : List Str} {sp : Sp} (F : FnG P w K mg base (L2.CX P w) k f fd ps sp) :
    FnG P w K mg base CX0 k f fd ps (fun vs H Q _ => sp vs H Q E0) :=
  ⟨fun vs H Q E h => F.len vs H Q E0 h, fun A outer s H args us vs Q E hg hr he hb hv hs => codeAny_mono (F.run A outer s H args us vs Q E0 hg hr he hb hv hs) fun r s' h => by
    cases r with
    | ok fl => cases fl <;> exact h
    | error e =>
      obtain ⟨_, _, _, _, _, _, _, _, _, _, _, _, z⟩ := h
      exact z.elim⟩
/-- what is tracked at the end's start: the script alone, unless it is one of the module's own things -/
def hOf (K : PySem.W.Frag) (a : Addr) (o : Obj) (xs : List V) : Hp := fun b => if b = a ∧ K.lookup a = none then some (.frz o (.lst xs)) else none
theorem hOf_some {K : PySem.W.Frag} {a b : Addr} {o : Obj} {xs : List V} {u : HO} (h : hOf K a o xs b = some u) : b = a ∧ K.lookup a = none ∧ u = .frz o (.lst xs) := by
  unfold hOf at h
  split at h
  · rename_i c
    exact ⟨c.1, c.2, (Option.some.inj h).symm⟩
  · cases h
theorem law_callG {P : Program} {w : World} {K : PySem.W.Frag} {mg mb : Str → Option Value} {k : Nat} {fa a : Addr} {fd : FuncData} {x : Str} {sp : Sp} {s₁ : Shared} {vs : List Value} {ns : List Int}
    (KX : K.In s₁.heap) (hns : s₁.heap.Ns mainGlobals mg) (hb : s₁.heap.Ns builtinsNs mb) (hbb : ∀ x : Str, x ≠ "__name__" → mb x = bootBuiltins x) (hlim : s₁.heap.NoLimit) (hg : s₁.gens = #[])
    (ha : s₁.heap.get? a = some { cls := .type "list", data := .seq vs.toArray }) (hi : IntsAre vs ns) (hl : ns.length ≤ sizeLine) (hr : Room k callerA)
    (F : ∀ base : Heap, K.In base → base.Ns mainGlobals mg → FnG P w K mg base CX0 k fa fd [x] sp) (hbind : ∀ (s : Shared) (u : Value), BindsTo s fd ⟨[u], []⟩ [(x, u)])
    (hsp : ∀ H : Hp, SqL K H a (ns.map V.int) → sp [.ref a] H (fun v _ => v = .bl true) fun _ _ _ => False) :
    codeAny (model P w) callerA (.call (.ref fa) ⟨[.ref a], []⟩) (fun r s' => r = .ok (.ret (.bool true)) ∧ OldK s₁.heap s'.heap ∧ s'.os = s₁.os ∧ AllBare s'.gens) s₁ := by
  have rv := vals_ints hi
  have lenV := hi.length
  generalize hO : ({ cls := .type "list", data := .seq vs.toArray } : Obj) = o at ha
  have hS : SqL K (hOf K a o (ns.map V.int)) a (ns.map V.int) := by
    cases hk : K.lookup a with
    | none => exact .inl (.inr ⟨o, if_pos ⟨rfl, hk⟩⟩)
    | some o' =>
      have e := KX a o' hk
      rw [ha] at e
      cases e
      subst hO
      exact .inr ⟨_, vs.toArray, _, hk, rfl, rfl, rfl, by rw [List.size_toArray, lenV]; exact hl, by simpa using rv⟩
  have hok : HOk P w (hOf K a o (ns.map V.int)) s₁.heap := fun b u z => by
    obtain ⟨rfl, _, rfl⟩ := hOf_some z
    subst hO
    exact ⟨ha, by rw [List.length_map]; exact hl, vs, _, rv, ha⟩
  generalize hH : hOf K a o (ns.map V.int) = H at hS hok
  have hA : ∀ b u, H b = some u → b = a ∧ K.lookup a = none ∧ u = .frz o (.lst (ns.map V.int)) := fun b u z => hOf_some (by rw [hH]; exact z)
  have hid : ∀ {b : Addr} {q : Obj}, s₁.heap.get? b = some q → (b = a → K.lookup a ≠ none ∨ q ≠ o) → (hidT s₁.heap H).get? b = some q := fun {b q} e n => hidT_get e (by
    cases z : H b with
    | none => rfl
    | some u =>
      obtain ⟨rfl, z2, _⟩ := hA b u z
      rcases n rfl with n | n
      · exact absurd z2 n
      · rw [ha] at e; exact absurd (Option.some.inj e).symm n)
  have nsK : ∀ {b : Addr} {m : Str → Option Value}, s₁.heap.Ns b m → (hidT s₁.heap H).Ns b m := fun {b m} ⟨q, es, ep, e, d, r⟩ => ⟨q, es, ep, hid e (fun _ => .inr fun z => by subst z; subst hO; cases d), d, r⟩
  have hKb : K.In (hidT s₁.heap H) := fun b q e => hid (KX b q e) fun z => .inl (by subst z; rw [e]; exact fun h => nomatch h)
  have hM : Mod K mg (hidT s₁.heap H) := ⟨hKb, nsK hns, ⟨mb, nsK hb, hbb⟩, let ⟨mc, h1, h2⟩ := hlim; ⟨mc, nsK h1, h2⟩⟩
  have e0 : Env0 P w K mg (hidT s₁.heap H) callerA [] s₁ H := ⟨rfl, hM, fun b q e => of_hidT e, Nat.le_of_eq (hidT_size _ _), trivial, (fun b hb => nomatch hb), hok, .of_eq hg⟩
  refine codeAny_mono ((F _ hKb (nsK hns)).run callerA [] s₁ H ⟨[.ref a], []⟩ [.ref a] [.ref a] _ (fun _ _ _ => False) rfl hr e0 (hbind s₁ (.ref a)) (.cons rfl .nil) (hsp H hS)) fun r s' h => ?_
  cases r with
  | error e => exact False.elim h
  | ok fl =>
    cases fl with
    | ret u =>
      obtain ⟨v, H', os, bare, un, hok', r', q⟩ := h
      subst q
      cases (show u = Value.bool true from r')
      refine ⟨rfl, OldK.of_keep fun b q e => ?_, os, bare⟩
      cases z : H b with
      | none => exact un.keep b q e z (fun z => nomatch z) (fun z => nomatch z)
      | some u =>
        obtain ⟨rfl, _, rfl⟩ := hA b u z
        have e2 := (hok' b _ (un.frzs b o _ z)).1
        rw [ha] at e
        cases e
        exact e2
    | next => exact False.elim h
    | brk => exact False.elim h
    | cont => exact False.elim h
theorem walk_ofG {l : PySem.W.OpenLaw} {n k : Nat} {q : Program} {loose : List Str} {XP : (Str → Option Value) → Heap → Prop} {YP : World → Heap → Prop} {d : DefRec} {x : Str}
    (hn : l.most = some n) (hn2 : n ≤ sizeLine) (hdf : d.params.defaults = []) (hr : Room k callerA)
    (F : ∀ (w : World) (mg : Str → Option Value) (fa : Addr) (h : Heap), YP w h → h.Ns mainGlobals mg → mg d.name = some (.ref fa) →
      ∃ (K : PySem.W.Frag) (fd : FuncData) (sp : Sp), K.In h ∧ (∀ (s : Shared) (u : Value), BindsTo s fd ⟨[u], []⟩ [(x, u)]) ∧
        (∀ (H : Hp) (a : Addr) (ns : List Int), SqL K H a (ns.map V.int) → sp [.ref a] H (fun v _ => v = .bl true) fun _ _ _ => False) ∧
        ∀ base : Heap, K.In base → base.Ns mainGlobals mg → FnG l.prog w K mg base CX0 k fa fd [x] sp) :
    PySem.W.WalkO q loose XP YP l.row.toRowW d [] (fun f vs => PySem.call f vs) := by
  refine Att.attach_call hn hdf fun w s₀ s₁ mg mb fa o pm cd doc a vs ns G Y ho hd hcd hmg hobj hints hlen hg => ?_
  obtain ⟨K, fd, sp, KX, hb, hsp, hF⟩ := F w mg fa _ Y G.T.g hmg
  exact law_callG KX G.T.g G.T.b G.T.builtins G.T.nolimit hg hobj hints (Nat.le_trans hlen hn2) hr hF hb fun H hS => hsp H a ns hS
end DL

set_option Elab.async false
set_option linter.all false
set_option maxRecDepth 100000
set_option maxHeartbeats 0
namespace LW
open PySem PySem.Spec PyProof.Rows L2 DL
theorem facts {P : Program} {w : World} {K : PySem.W.Frag} {h : Heap} {mg : Str → Option Value} {f : Addr} (X : K.In h) (G : h.Ns mainGlobals mg) (hfa : mg ("law" : Str) = some (.ref f)) (c : SaysTb fx fn tbs w K) :
    ∃ fd : FuncData, (∀ (s : Shared) (v : Value), BindsTo s fd ⟨[v], []⟩ [("_law_script", v)]) ∧ ∀ base : Heap, K.In base → base.Ns mainGlobals mg → FnG P w K mg base CX0 10 f fd ["_law_script"] (fun vs H Q _ => spM K (gOf K cs) 1 F_law vs H Q DL.E0) := by
  have b0 : BasT fx fn tbs w K mg := BasT.of ⟨h, X, G⟩ c
  have e := hfa.symm.trans (b0.glo (x := "law") 56)
  cases e
  obtain ⟨fd, F⟩ := b0.c.def_ 33 (d := dx_law) rfl
  have b := FunD.bindsA (ps := ["_law_script"]) F fun _ _ _ _ _ _ us hl => match us, hl with | [_], _ => rfl
  refine ⟨fd, fun s v => b s [v] rfl, fun base _ _ => ?_⟩
  obtain ⟨fd2, ok, F2⟩ := ok_law (P := P) (w := w) (base := base) b0
  have e2 : fd2 = fd := by
    obtain ⟨oc, od, dV, kV, doc, pm, an, cdv, ct, osl, rfl, lk, _⟩ := F.ex
    obtain ⟨oc2, od2, dV2, kV2, doc2, pm2, an2, cdv2, ct2, osl2, rfl, lk2, _⟩ := F2.ex
    have q := lk.symm.trans lk2
    simp only [Option.some.injEq, Obj.mk.injEq, Data.func.injEq] at q
    exact q.2.2.1.symm
  rw [← e2]
  exact fn0G ok
end LW
open PySem PySem.W PySem.Calls PyProof.Rows
theorem PySem.Challenge.cw_carryrounds_k71_programs_written_holds : PySem.Challenge.rw_carryrounds_k71_programs_written.Holds := by
  w_on; o_law
  refine HandSHeadRun.head_any (r := OpenLaw.row PySem.Challenge.rw_carryrounds_k71_programs_written) (q := view (OpenLaw.row PySem.Challenge.rw_carryrounds_k71_programs_written).prog [45]) (H := LW.hk) (ob := LW.ob) (M := 14000) (loose := ((["_wall", "CarryError", "InvalidNumber", "InvalidProgram", "ParseError", "is_integer", "is_between", "check_between", "REGISTERS", "FLAGS", "MOST_INSTRUCTIONS", "MOST_PLACES", "FORMS", "fits", "is_instruction", "is_within", "shifted", "Program", "LETTERS", "MOST_LETTERS", "is_name", "DIGITS", "MOST_DIGITS", "parse_count", "parse_integer", "format_item", "format_instruction", "format_program", "parse_item", "parse_instruction"] : List PySem.Str) ++ (["lines_of", "parse_program", "named_target", "assemble", "_law_pool", "_law_take", "_law_text", "_law_any_code", "_law_long_right"] : List PySem.Str))) (d := HandSHeadRun.topDef (OpenLaw.row PySem.Challenge.rw_carryrounds_k71_programs_written).prog 45) (kwd := []) LW.ob_eq
    (by kernel_rfl) (fun s => by kernel_rfl) LW.run (by kernel_rfl) (by kernel_rfl) (by kernel_rfl) (by rfl) (by first | assumption | decide +kernel) (by decide +kernel) ⟨rfl, rfl, rfl, rfl, rfl, by decide +kernel⟩ ?hw ?hc
  case hw => w_witness2
  case hc =>
    refine DL.walk_ofG (l := PySem.Challenge.rw_carryrounds_k71_programs_written) (n := 63) (k := 10) (x := "_law_script") rfl (by decide) (by kernel_rfl) ⟨rfl, by decide, by decide⟩ ?F
    intro w mg fa h Y G hmg0
    obtain ⟨K, KX, c⟩ := Y
    have hmg : mg ("law" : PySem.Str) = some (.ref fa) := by
      have e : (HandSHeadRun.topDef (OpenLaw.row PySem.Challenge.rw_carryrounds_k71_programs_written).prog 45).name = ("law" : PySem.Str) := by kernel_rfl
      rw [← e]
      exact hmg0
    obtain ⟨fd, hb, hF⟩ := LW.facts (P := (PySem.Challenge.rw_carryrounds_k71_programs_written).prog) (w := w) KX G hmg c
    exact ⟨K, fd, fun vs H Q _ => DL.spM K (DL.gOf K LW.cs) 1 LW.F_law vs H Q DL.E0, KX, hb, fun H a ns hS => DL.sp_end (LW.law_true ns) hS, hF⟩
