import PyProof.Rows.All
import Wide.All
import OpenK.AllK
import Wide.FinOn
import HandS.ForMost
import HandS.Base
import HandS.Call
import HandS.List
import HandS.Slots
import HandS.Exc
import HandS.TupAny
import HandS.TupMul
import HandS.Wide
import HandS.Flow
import HandS.IsInst
import HandS.Deep
import HandS.Text
import HandS.Words
import HandS.Comp
import HandS.Iter
import HandS.Zip
import HandS.TryOnly
import HandS.Defaults
import HandS.SlotsOwn
import HandS.MakeKwOnly
import HandS.Style
import HandS.Star
import HandS.ClsMeth
import PyProof.InstNe
import HandS.TupSets
import HandS.SortInts
import HandS.SetFor
import HandS.Strs
import HandS.SortKw
import HandS.Dict
import HandS.Walk
import HandS.SortRule
import HandS.Small
import HandS.DictComp
import HandS.TupLen
import HandS.Conv
import PyProof.SetRoads
import HandS.ExcOwn
import HandS.ExcInit
import HandS.WordsExc
import KE.KExcSuper
import KE.KExcIs
import KE.KSuper
import HandS.ExcValue
import KE.SortData
import KE.DatumOrd
import KE.KOpsOwn
import OpenK.KMeth
import PyProof.ReprRoads
import PyProof.ReprBulk
import HandS.HeadEnd
import KE.DataCmp
import PyProof.Rows.IntBool
import HandS.More
import PyProof.LongRange
import HandS.ExcField
import KE.KDictZip
import OpenK.KOps
import KE.KeyNested
import KE.KStateDown
import HandS.Head0
import HandS.Head1
import HandS.Head2
import HandS.HeadHook1
import HandS.HeadHook2
import PySem.Challenge.RW_quietshare_k44_alarms_alike_or_a_log_tha
set_option Elab.async false
set_option linter.all false
set_option maxRecDepth 100000
set_option maxHeartbeats 4000000
namespace Q
open PySem PySem.Spec PyProof.Rows L2 He
inductive Cst where
  | bl (b : Bool) | int (i : Int)
def Cst.is : Cst → Value → Bool
  | .bl b, .bool c => b == c
  | .int i, .int j _ => i == j
  | _, _ => false
def kwIn (K : PySem.W.Frag) (f : Addr) (x : Str) (c : Cst) : Bool := match K.lookup f with
  | some ⟨_, _, .func fd, _⟩ => (match fd.kwdefaults with
    | .ref E => (match PySem.W.nsIn K E x with
      | some (some u) => c.is u
      | _ => false)
    | _ => false)
  | _ => false
def clsAt (st : Stmt) (j : Nat) : Stmt := match st with
  | .ClassDef _ _ _ body _ _ _ _ _ _ _ => body.getD j (.Pass ⟨0, 0, 0, 0⟩)
  | _ => .Pass ⟨0, 0, 0, 0⟩
def clN : Nat → Str
  | 0 => "Share" | 1 => "Log" | 2 => "Flow" | 3 => "Net" | 4 => "Sums" | 5 => "Watch" | 6 => "Desk" | 7 => "NoMinute" | 8 => "NoWay" | 9 => "NothingDone" | 10 => "Unlike" | 11 => "TooMany" | 12 => "Contradiction" | 13 => "BadText" | 14 => "BadLine"
  | 15 => "Flow_walks" | 16 => "Flow_tracks"
  | _ => ""
def clK (K : PySem.W.Frag) (c : Nat) : Addr := ga K (clN c)
def kinds : List String := ["NoneType", "bool", "int", "str", "tuple", "list"]
inductive EV where
  | own (c : Nat) | bi (T : String)
def EV.val (K : PySem.W.Frag) : EV → Value
  | .own c => .ref (clK K c)
  | .bi T => .type T
inductive Qf where
  | glo (x : Str) | free (x : Str) | int (x : Str) (i : Int) | str (x z : Str)
  | cls (c : Nat)
  | slot (c : Nat) (f : Str) (i : Nat)
  | mkr (c : Nat)
  | meth (c : Nat) (m : Str)
  | isi (c : Nat)
  | eq (c : Nat)
  | call (c : Nat)
  | sta (c : Nat) (m : Str)
  | exc (c : Nat)
  | exq (c : Nat)
  | kits (c : Nat) (vs : List EV) (b : Bool)
  | kit (c : Nat) (v : EV) (b : Bool)
  | exm (c : Nat) (v : EV) (b : Bool)
  | exms (c : Nat) (vs : List EV) (b : Bool)
  | mul (c : Nat)
  | addc (c : Nat)
  | iaddc (c : Nat)
  | inc (c : Nat)
  | kwd (x k : Str) (c : Cst)
  | exs (c : Nat) (f : Str)
  | als (x y : Str)
  | seti (c : Nat)
  | geti (c : Nat)
  | lenc (c : Nat)
def exB (c : Nat) : String := if c ≤ 9 then "LookupError" else "ValueError"
def exN (c : Nat) : String := if c ≤ 9 then "LookupError.__new__" else "ValueError.__new__"
def exI (c : Nat) : String := if c ≤ 9 then "LookupError.__init__" else "ValueError.__init__"
def exM (c : Nat) : List Value := if c ≤ 9 then [.type "LookupError", .type "Exception", .type "BaseException", .type "object"] else [.type "ValueError", .type "Exception", .type "BaseException", .type "object"]
def supIn (K : PySem.W.Frag) (C f : Addr) : Bool := match K.lookup f with
  | some ⟨_, _, .func fd, _⟩ => (match fd.code with
    | .ref cda => (match K.lookup cda with
      | some ⟨_, _, .fields vs, _⟩ => (match (vs[2]? : Option Value) with
        | some (.str z _) => z == ("/claim/cut.py" : Str)
        | _ => false)
      | _ => false)
    | _ => false) && (match fd.closure with
    | [(_, cc)] => (match K.lookup cc with
      | some ⟨_, _, .cell (some (.ref D)), _⟩ => decide (D = C)
      | _ => false)
    | _ => false)
  | _ => false
def staP (K : PySem.W.Frag) (C : Addr) (m : Str) : Addr := match PySem.W.findCls K (.ref C) (.type "type") m with
  | some (.get _ (.ref p) .none _) => p
  | _ => 0
def staA (K : PySem.W.Frag) (C : Addr) (m : Str) : Addr := match PySem.W.recIn K (staP K C m) "staticmethod" with
  | some (.ref g :: _) => g
  | _ => 0
def ob {α : Type} [DecidableEq α] (a b : α) : Bool := decide (a = b)
theorem ob_ok {α : Type} [DecidableEq α] {a b : α} (h : ob a b = true) : a = b := of_decide_eq_true h
def Qf.ok (K : PySem.W.Frag) : Qf → Bool
  | .glo x => (Fa.glo x).ok K
  | .free x => (Fa.free x).ok K
  | .seti c => let C := clK K c; PySem.W.noSeq K C && (He.eqO (PySem.W.findIn K (.ref C) "__setitem__") (some (some (.ref (ma K C "__setitem__")))) && PySem.W.isFn K (.ref (ma K C "__setitem__")))
  | .geti c => let C := clK K c; let g := ma K C "__getitem__"; He.eqO (PySem.W.findIn K (.ref C) "__getitem__") (some (some (.ref g))) && (PySem.W.fnIn K g && PySem.W.isFn K (.ref g))
  | .lenc c => let C := clK K c; let g := ma K C "__len__"; He.eqO (PySem.W.findIn K (.ref C) "__len__") (some (some (.ref g))) && PySem.W.isFn K (.ref g)
  | .als x y => He.eqO (PySem.W.nsIn K mainGlobals x) (some (some (.ref (ga K y))))
  | .int x i => (Fa.int x i).ok K
  | .str x z => (Fa.str x z).ok K
  | .cls c => He.eqO (PySem.W.nsIn K mainGlobals (clN c)) (some (some (.ref (clK K c)))) && (PySem.W.plainGet K (clK K c) Str.empty && (PySem.W.isClsIn K (clK K c) && (PySem.W.plainOver K (clK K c) && He.eqO (PySem.W.findIn K (.ref (clK K c)) "__setattr__") (some (some (.builtin "object.__setattr__"))))))
  | .slot c f i => let C := clK K c; let p := ma K C f; He.eqO (PySem.W.findIn K (.ref C) f) (some (some (.ref p))) && (He.eqO (PySem.W.specialIn K (.ref p) "__get__") (some (some (.builtin "member_descriptor.__get__"))) && (ob (PySem.W.takesIn K (.ref p)) (some true) && (ob (PySem.W.typeIn K (.ref p)) (some (.type "member_descriptor")) && (ob (PySem.W.slotIn K p C) (some i) && decide (i < 1000)))))
  | .mkr c => (Fa.mkr (clN c)).ok K
  | .meth c m => (Fa.meth (clN c) m).ok K
  | .isi c => let C := clK K c; He.eqO (PySem.W.findIn K (.ref C) "__class__") (some (some (.builtin "object.__class__"))) && (He.eqO (PySem.W.specialIn K (.builtin "object.__class__") "__get__") (some (some (.builtin "getset_descriptor.__get__"))) && (ob (PySem.W.takesIn K (.builtin "object.__class__")) (some true) && (ob (PySem.W.mroIn K C (.type "object")) (some true) &&
      (ob (PySem.W.kitOne K (.ref C) (.ref C)) (some true) && kinds.all fun t => ob (PySem.W.kitOne K (.type t) (.ref C)) (some false)))))
  | .eq c => let C := clK K c; let g := ma K C "__eq__"; He.eqO (PySem.W.findIn K (.ref C) "__eq__") (some (some (.ref g))) && (PySem.W.isFn K (.ref g) && (He.eqO (PySem.W.findIn K (.ref C) "__ne__") (some (some (.builtin "object.__ne__"))) && (ob (PySem.W.mroIn K C (.type "object")) (some true) && (PySem.W.notFirst K C (.ref C) && kinds.all fun t => PySem.W.notFirst K C (.type t)))))
  | .call c => let C := clK K c; let g := ma K C "__call__"; He.eqO (PySem.W.findIn K (.ref C) "__call__") (some (some (.ref g))) && (PySem.W.isFn K (.ref g) && PySem.W.fnIn K g)
  | .sta c m => let C := clK K c; PySem.W.readsIn K C (.type "type") && (He.eqO (PySem.W.specialIn K (.ref C) "__getattribute__") (some (some (.builtin "type.__getattribute__"))) && ((match PySem.W.findCls K (.ref C) (.type "type") m with
      | some (.get (.builtin g) (.ref p) .none (.ref D)) => ob g "staticmethod.__get__" && (ob p (staP K C m) && ob D C)
      | _ => false) && ((match PySem.W.recIn K (staP K C m) "staticmethod" with
      | some (.ref g :: _) => ob g (staA K C m)
      | _ => false) && PySem.W.keepIn K (.ref (staA K C m)))))
  | .exc c => let C := clK K c; let f := ma K C "__init__"; PySem.W.excInitIn K C (exM c) (exN c) && (He.eqO (PySem.W.findIn K (.ref C) "__init__") (some (some (.ref f))) && (ob (PySem.W.typeIn K (.ref f)) (some (.type "function")) && (supIn K C f && ((PySem.W.clsIn K C).isSome && (ob (PySem.W.mroIn K C (.ref C)) (some true) && (He.eqO (PySem.W.nsIn K mainGlobals "super") (some none) && (He.eqO (PySem.W.nsIn K cStatics "thirdparty.any") (some none) && (He.eqO (PySem.W.ks_superIn K C C "__init__") (some (some (.builtin (exI c)))) && (ob (PySem.W.subIn K (.ref C) (.type (exB c))) (some true) && (ob (PySem.W.subIn K (.ref C) (.type "BaseException")) (some true) && (ob (PySem.W.typeIn K (.ref C)) (some (.type "type")) && (PySem.W.keepIn K (.ref C) && (He.eqO (PySem.W.nsIn K mainGlobals (clN c)) (some (some (.ref C))))))))))))))))
  | .exq c => let C := clK K c; (PySem.W.clsIn K C).isSome && (He.eqO (PySem.W.findIn K (.ref C) "__getattribute__") (some (some (.builtin "BaseException.__getattribute__"))) && (He.eqO (PySem.W.findIn K (.ref C) "__getattr__") (some none) && (ob (PySem.W.subIn K (.ref C) (.type "BaseException")) (some true) && (He.eqO (PySem.W.findIn K (.ref C) "__class__") (some (some (.builtin "object.__class__"))) && (He.eqO (PySem.W.specialIn K (.builtin "object.__class__") "__get__") (some (some (.builtin "getset_descriptor.__get__"))) && (ob (PySem.W.takesIn K (.builtin "object.__class__")) (some true) && (ob (PySem.W.mroIn K C (.type "object")) (some true) && (He.eqO (PySem.W.nsIn K mainGlobals (clN c)) (some (some (.ref C)))))))))))
  | .kit c v b => ob (PySem.W.kitOne K (.ref (clK K c)) (v.val K)) (some b)
  | .kits c vs b => ob (PySem.W.kitAny K (.ref (clK K c)) (vs.map fun v => v.val K)) (some b)
  | .exm c v b => ob (PySem.W.exmOne K (.ref (clK K c)) (v.val K)) (some b)
  | .exms c vs b => ob (PySem.W.exmAny K (.ref (clK K c)) (vs.map fun v => v.val K)) (some b)
  | .mul c => let C := clK K c; PySem.W.selfFirst K C && (He.eqO (PySem.W.findIn K (.ref C) (dunder "mul")) (some (some (.ref (ma K C "__mul__")))) && (He.eqO (PySem.W.findIn K (.ref C) (dunderR "mul")) (some (some (.ref (ma K C "__rmul__")))) && (PySem.W.isFn K (.ref (ma K C "__mul__")) && (PySem.W.isFn K (.ref (ma K C "__rmul__")) && (ob (PySem.W.subIn K (.ref C) (.type "int")) (some false) && ((PySem.W.findIn K (.type "int") (dunder "mul")).isSome && ((PySem.W.findIn K (.type "int") (dunderR "mul")).isSome && ob (PySem.W.subIn K (.type "int") (.ref C)) (some false))))))))
  | .addc c => let C := clK K c; PySem.W.selfFirst K C && (He.eqO (PySem.W.findIn K (.ref C) (dunder "add")) (some (some (.ref (ma K C "__add__")))) && PySem.W.isFn K (.ref (ma K C "__add__")))
  | .iaddc c => let C := clK K c; PySem.W.selfFirst K C && (He.eqO (PySem.W.findIn K (.ref C) (dunderI "add")) (some (some (.ref (ma K C "__iadd__")))) && PySem.W.isFn K (.ref (ma K C "__iadd__")))
  | .inc c => let C := clK K c; He.eqO (PySem.W.findIn K (.ref C) "__contains__") (some (some (.ref (ma K C "__contains__")))) && PySem.W.isFn K (.ref (ma K C "__contains__"))
  | .kwd x k c => kwIn K (ga K x) k c
  | .exs c f => let C := clK K c; He.eqO (PySem.W.findIn K (.ref C) "__setattr__") (some (some (.builtin "object.__setattr__"))) && (PySem.W.excOver K C (exM c) && (PySem.W.hasDictIn K C && (He.eqO (PySem.W.findIn K (.ref C) f) (some none) && (He.eqO (PySem.W.findIn K (.ref C) "__getattribute__") (some (some (.builtin "BaseException.__getattribute__"))) && (He.eqO (PySem.W.findIn K (.ref C) "__getattr__") (some none) && ob (PySem.W.subIn K (.ref C) (.type "BaseException")) (some true))))))
inductive Dat where
  | glo (x : Str) | meth (c : Nat) (m : Str) | sta (c : Nat) (m : Str) | exc (c : Nat)
def Dat.cn : Dat → List Str
  | .exc _ => ["__class__"]
  | _ => []
def Dat.ad (K : PySem.W.Frag) : Dat → Addr
  | .exc c => ma K (clK K c) "__init__"
  | .glo x => ga K x
  | .meth c m => ma K (clK K c) m
  | .sta c m => staA K (clK K c) m
structure DefQ where
  at_ : Dat
  name : Str
  qual : Str
  st : Stmt
abbrev FnQ : Type := Option (Str × Str × Arguments × FuncBody × Scope × Addr × List Str × Addr)
def fnQ (K : PySem.W.Frag) (d : DefQ) : FnQ := match K.lookup (d.at_.ad K) with
  | some ⟨_, _, .func fd, _⟩ => some (fd.name, fd.qualname, fd.params, fd.body, fd.scope, fd.globals, fd.closure.map (·.1), fd.builtins)
  | _ => none
def DefQ.val (d : DefQ) : FnQ := some (d.name, d.qual, defArgs d.st, .stmts (defBody d.st), defScope d.st, mainGlobals, d.at_.cn, builtinsNs)
def DefQ.ok (K : PySem.W.Frag) (d : DefQ) : Bool := PySem.W.keepIn K (.ref (d.at_.ad K)) && (match K.lookup (d.at_.ad K) with
  | some ⟨_, _, .func fd, _⟩ => PySem.W.codeIn K fd.code d.qual && (match fd.defaults with
    | .none => true
    | _ => false)
  | _ => false)
def adrN {α : Type} : List Addr → Nat → List Addr → (Nat → List Addr → α) → α
  | [], m, acc, k => k m acc
  | a :: r, m, acc, k => HandSHeadRun.frNat a fun a => match Nat.land (Nat.shiftRight m a) 1 with
    | 0 => HandSHeadRun.frNat (Nat.lor m (Nat.shiftLeft 1 a)) fun m => adrN r m (a :: acc) k
    | _ => adrN r m acc k
def adrR {α : Type} (g : Addr → Option Obj) : List Addr → Nat → List Addr → (Nat → List Addr → α) → α
  | [], m, acc, k => k m acc
  | a :: r, m, acc, k => match g a with
    | some o => adrN (refsD o) m acc fun m acc => adrR g r m acc k
    | none => adrR g r m acc k
def adrL (g : Addr → Option Obj) : Nat → List Addr → Nat → List Addr
  | 0, fr, _ => fr
  | n + 1, fr, m => fr ++ adrR g fr m [] fun m fr => adrL g n fr m
def asQ (g : Addr → Option Obj) (n : Nat) : List Addr := adrN [mainGlobals, PySem.cStatics] 0 [] fun m fr => adrL g n fr m
abbrev AlQ : Type := Bool × List FnQ
def obsQ (fa : List Qf) (fn : List DefQ) (K : PySem.W.Frag) : AlQ := ((fa.all fun f => f.ok K) && fn.all fun d => d.ok K, fn.map fun d => fnQ K d)
def valQ (fn : List DefQ) : AlQ := (true, fn.map DefQ.val)
def SaysQ (fa : List Qf) (fn : List DefQ) (K : PySem.W.Frag) : Prop := obsQ fa fn K = valQ fn
def obsQG (n : Nat) (fa : List Qf) (fn : List DefQ) (g : Addr → Option Obj) : AlQ := obsQ fa fn (frG g (asQ g n))
def hookQ (n : Nat) (fa : List Qf) (fn : List DefQ) : PySem.W.Hook where
  α := AlQ
  obs := fun s => obsQG n fa fn s.heap.get?
  val := fun _ => valQ fn
  says := fun _ h => ∃ K : PySem.W.Frag, K.In h ∧ SaysQ fa fn K
  of := fun _ _ e => ⟨_, frG_in, e⟩
  keeps := fun _ _ _ ⟨K, hK, c⟩ k => ⟨K, PySem.W.Frag.In.keeps hK k, c⟩
theorem obsQG_eq {n : Nat} {fa : List Qf} {fn : List DefQ} {g : Addr → Option Obj} {s : Shared} (h : ∀ a, g a = s.heap.get? a) : obsQG n fa fn g = (hookQ n fa fn).obs s := by
  have e : g = s.heap.get? := funext h
  rw [e] <;> rfl
end Q
namespace Lw
open PySem L2 Q
def top (i : Nat) : Stmt := PySem.Challenge.pw_quietshare_k44_alarms_alike_or_a_log_tha.main.body.getD i (.Pass ⟨0, 0, 0, 0⟩)
abbrev s_l_cells : Stmt := top 27
abbrev s_p_tupled : Stmt := top 1
abbrev s_p_choices : Stmt := top 20
abbrev s_p_agree : Stmt := top 7
abbrev s_p_turning : Stmt := top 10
abbrev s_p_arcs_of : Stmt := top 9
abbrev s_p_path : Stmt := top 11
abbrev s_p_ring : Stmt := top 13
abbrev s_p_check : Stmt := top 14
abbrev s_p_log_by : Stmt := top 15
abbrev s_p_ranks : Stmt := top 16
abbrev s_p_fitting : Stmt := top 17
abbrev s_p_going_off : Stmt := top 21
abbrev s_p_parting_alarms : Stmt := top 22
abbrev s_p_alike_alarms : Stmt := top 23
abbrev s_l_refused : Stmt := top 43
abbrev s_l_same : Stmt := top 30
abbrev s_l_ways : Stmt := top 36
abbrev s_l_ring : Stmt := top 38
abbrev s_l_idle : Stmt := top 39
abbrev s_l_due : Stmt := top 40
abbrev s_l_lists : Stmt := top 29
abbrev s_l_above : Stmt := top 33
abbrev s_l_calls : Stmt := top 32
abbrev s_l_off : Stmt := top 37
abbrev s_l_pair_right : Stmt := top 41
abbrev s_l_by_hand_right : Stmt := top 44
abbrev s_l_take : Stmt := top 26
abbrev s_l_of : Stmt := top 28
abbrev s_l_alarm : Stmt := top 34
abbrev s_l_limit : Stmt := top 31
abbrev s_l_alarms : Stmt := top 35
abbrev s_l_varied : Stmt := top 42
abbrev s_l_right : Stmt := top 45
abbrev s_l_box : Stmt := top 25
abbrev s_l_law : Stmt := top 46
abbrev s_exc_10 : Stmt := clsAt (top 3) 0
abbrev s_exc_11 : Stmt := clsAt (top 4) 0
abbrev s_exc_12 : Stmt := clsAt (top 5) 0
def fns : List DefQ := [⟨.glo "_law_cells", "_law_cells", "_law_cells", s_l_cells⟩, ⟨.glo "tupled", "tupled", "tupled", s_p_tupled⟩, ⟨.glo "choices", "choices", "choices", s_p_choices⟩, ⟨.glo "agree", "agree", "agree", s_p_agree⟩, ⟨.glo "turning", "turning", "turning", s_p_turning⟩, ⟨.glo "arcs_of", "arcs_of", "arcs_of", s_p_arcs_of⟩, ⟨.glo "path", "path", "path", s_p_path⟩, ⟨.glo "ring", "ring", "ring", s_p_ring⟩, ⟨.glo "check", "check", "check", s_p_check⟩, ⟨.glo "log_by", "log_by", "log_by", s_p_log_by⟩, ⟨.glo "ranks", "ranks", "ranks", s_p_ranks⟩, ⟨.glo "fitting", "fitting", "fitting", s_p_fitting⟩, ⟨.glo "going_off", "going_off", "going_off", s_p_going_off⟩, ⟨.glo "parting_alarms", "parting_alarms", "parting_alarms", s_p_parting_alarms⟩, ⟨.glo "alike_alarms", "alike_alarms", "alike_alarms", s_p_alike_alarms⟩, ⟨.glo "_law_refused", "_law_refused", "_law_refused", s_l_refused⟩, ⟨.glo "_law_same", "_law_same", "_law_same", s_l_same⟩, ⟨.glo "_law_ways", "_law_ways", "_law_ways", s_l_ways⟩, ⟨.glo "_law_ring", "_law_ring", "_law_ring", s_l_ring⟩, ⟨.glo "_law_idle", "_law_idle", "_law_idle", s_l_idle⟩, ⟨.glo "_law_due", "_law_due", "_law_due", s_l_due⟩, ⟨.glo "_law_lists", "_law_lists", "_law_lists", s_l_lists⟩, ⟨.glo "_law_above", "_law_above", "_law_above", s_l_above⟩, ⟨.glo "_law_calls", "_law_calls", "_law_calls", s_l_calls⟩, ⟨.glo "_law_off", "_law_off", "_law_off", s_l_off⟩, ⟨.glo "_law_pair_right", "_law_pair_right", "_law_pair_right", s_l_pair_right⟩, ⟨.glo "_law_by_hand_right", "_law_by_hand_right", "_law_by_hand_right", s_l_by_hand_right⟩, ⟨.glo "_law_take", "_law_take", "_law_take", s_l_take⟩, ⟨.glo "_law_of", "_law_of", "_law_of", s_l_of⟩, ⟨.glo "_law_alarm", "_law_alarm", "_law_alarm", s_l_alarm⟩, ⟨.glo "_law_limit", "_law_limit", "_law_limit", s_l_limit⟩, ⟨.glo "_law_alarms", "_law_alarms", "_law_alarms", s_l_alarms⟩, ⟨.glo "_law_varied", "_law_varied", "_law_varied", s_l_varied⟩, ⟨.glo "_law_right", "_law_right", "_law_right", s_l_right⟩, ⟨.glo "_law_box", "_law_box", "_law_box", s_l_box⟩, ⟨.glo "law", "law", "law", s_l_law⟩, ⟨.exc 10, "__init__", "Unlike.__init__", s_exc_10⟩, ⟨.exc 11, "__init__", "TooMany.__init__", s_exc_11⟩, ⟨.exc 12, "__init__", "Contradiction.__init__", s_exc_12⟩]
def fas : List Qf := [.glo "_law_cells", .glo "tupled", .glo "choices", .glo "agree", .glo "turning", .glo "arcs_of", .glo "path", .glo "ring", .glo "check", .glo "log_by", .glo "ranks", .glo "fitting", .glo "going_off", .glo "parting_alarms", .glo "alike_alarms", .glo "_law_refused", .glo "_law_same", .glo "_law_ways", .glo "_law_ring", .glo "_law_idle", .glo "_law_due", .glo "_law_lists", .glo "_law_above", .glo "_law_calls", .glo "_law_off", .glo "_law_pair_right", .glo "_law_by_hand_right", .glo "_law_take", .glo "_law_of", .glo "_law_alarm", .glo "_law_limit", .glo "_law_alarms", .glo "_law_varied", .glo "_law_right", .glo "_law_box", .glo "law", .int "MOST_CHOICES" 64, .exq 10, .exq 11, .exq 12, .exs 12 "ring", .exc 10, .exc 11, .exc 12, .exm 10 (.own 10) true, .exm 11 (.own 10) false, .exm 12 (.own 10) false, .kit 10 (.bi "ValueError") true, .kit 11 (.bi "ValueError") true, .kit 12 (.bi "ValueError") true, .free "ValueError", .free "abs", .free "all", .free "any", .free "bool", .free "enumerate", .free "int", .free "isinstance", .free "len", .free "list", .free "max", .free "min", .free "range", .free "set", .free "sorted", .free "str", .free "sum", .free "tuple", .free "zip"]
def loose : List PySem.Str := (["tupled", "Unlike", "TooMany", "Contradiction", "agree", "arcs_of", "turning", "path", "ring", "check", "log_by", "ranks", "fitting", "MOST_CHOICES", "choices", "going_off", "parting_alarms", "alike_alarms", "_law_box", "_law_take"] : List PySem.Str) ++ (["_law_cells", "_law_of", "_law_lists", "_law_same", "_law_limit", "_law_calls", "_law_above", "_law_alarm", "_law_alarms", "_law_ways", "_law_off", "_law_ring", "_law_idle", "_law_due", "_law_pair_right", "_law_varied", "_law_refused", "_law_by_hand_right", "_law_right"] : List PySem.Str)
abbrev RR : PySem.W.OpenRow := PySem.W.OpenLaw.row PySem.Challenge.rw_quietshare_k44_alarms_alike_or_a_log_tha
abbrev hkR : PySem.W.Hook := hookQ 5 fas fns
def obR (s : PySem.W.SharedT) : AlQ := obsQG 5 fas fns (HandSHeadRun.getT s)
theorem obR_eq (s : PySem.W.SharedT) : obR s = hkR.obs s.abs := obsQG_eq (HandSHeadRun.getT_eq s)
section
open PySem PySem.W PySem.Calls
theorem comb3 {δ α β γ : Type} {x : Option δ} {f : δ → α} {g : δ → β} {h : δ → γ} {a : α} {b : β} {c : γ} (A : x.map f = some a) (B : x.map g = some b) (C : x.map h = some c) : x.map (fun s => (f s, g s, h s)) = some (a, b, c) := by
  cases x with
  | none => cases A
  | some s =>
    have A1 := Option.some.inj A
    have B1 := Option.some.inj B
    have C1 := Option.some.inj C
    subst A1 B1 C1
    rfl
theorem runA (w : World) (os : OsState) : (HandSHeadRun.endF (HandSHeadRun.stepQ (HandSHeadRun.denQ HandSHeadRun.tabQ) RR.prog w) 8000 RR.prog w os).map (fun s => HandSHeadRun.looksF RR.prog (boot_heap w.params) s.abs) = some true := by
  kernel_rfl
theorem runB (w : World) (os : OsState) : (HandSHeadRun.endF (HandSHeadRun.stepQ (HandSHeadRun.denQ HandSHeadRun.tabQ) RR.prog w) 8000 RR.prog w os).map (fun s => HandSHeadRun.seenQ (PySem.W.view RR.prog [46]) loose (importedModules RR.prog.main.body) (fun s => xlAt (PySem.W.view RR.prog [46]) [] s && recOk RR.toRowW.records s) s.abs) = some (openGood (PySem.W.view RR.prog [46]) loose) := by
  kernel_rfl
def fas0 : List Qf := [.glo "_law_cells", .glo "tupled", .glo "choices", .glo "agree", .glo "turning", .glo "arcs_of", .glo "path", .glo "ring", .glo "check", .glo "log_by", .glo "ranks", .glo "fitting", .glo "going_off", .glo "parting_alarms", .glo "alike_alarms", .glo "_law_refused", .glo "_law_same", .glo "_law_ways", .glo "_law_ring", .glo "_law_idle", .glo "_law_due", .glo "_law_lists", .glo "_law_above", .glo "_law_calls", .glo "_law_off", .glo "_law_pair_right", .glo "_law_by_hand_right", .glo "_law_take", .glo "_law_of", .glo "_law_alarm", .glo "_law_limit", .glo "_law_alarms", .glo "_law_varied", .glo "_law_right", .glo "_law_box", .glo "law", .int "MOST_CHOICES" 64, .exq 10, .exq 11, .exq 12, .exs 12 "ring", .exc 10, .exc 11, .exc 12, .exm 10 (.own 10) true, .exm 11 (.own 10) false, .exm 12 (.own 10) false, .kit 10 (.bi "ValueError") true, .kit 11 (.bi "ValueError") true, .kit 12 (.bi "ValueError") true, .free "ValueError", .free "abs", .free "all", .free "any", .free "bool", .free "enumerate", .free "int", .free "isinstance", .free "len", .free "list", .free "max", .free "min", .free "range", .free "set", .free "sorted", .free "str", .free "sum", .free "tuple", .free "zip"]
def fns0 : List DefQ := [⟨.glo "_law_cells", "_law_cells", "_law_cells", s_l_cells⟩, ⟨.glo "tupled", "tupled", "tupled", s_p_tupled⟩, ⟨.glo "choices", "choices", "choices", s_p_choices⟩, ⟨.glo "agree", "agree", "agree", s_p_agree⟩, ⟨.glo "turning", "turning", "turning", s_p_turning⟩, ⟨.glo "arcs_of", "arcs_of", "arcs_of", s_p_arcs_of⟩, ⟨.glo "path", "path", "path", s_p_path⟩, ⟨.glo "ring", "ring", "ring", s_p_ring⟩, ⟨.glo "check", "check", "check", s_p_check⟩, ⟨.glo "log_by", "log_by", "log_by", s_p_log_by⟩, ⟨.glo "ranks", "ranks", "ranks", s_p_ranks⟩, ⟨.glo "fitting", "fitting", "fitting", s_p_fitting⟩, ⟨.glo "going_off", "going_off", "going_off", s_p_going_off⟩, ⟨.glo "parting_alarms", "parting_alarms", "parting_alarms", s_p_parting_alarms⟩, ⟨.glo "alike_alarms", "alike_alarms", "alike_alarms", s_p_alike_alarms⟩, ⟨.glo "_law_refused", "_law_refused", "_law_refused", s_l_refused⟩, ⟨.glo "_law_same", "_law_same", "_law_same", s_l_same⟩, ⟨.glo "_law_ways", "_law_ways", "_law_ways", s_l_ways⟩, ⟨.glo "_law_ring", "_law_ring", "_law_ring", s_l_ring⟩, ⟨.glo "_law_idle", "_law_idle", "_law_idle", s_l_idle⟩, ⟨.glo "_law_due", "_law_due", "_law_due", s_l_due⟩, ⟨.glo "_law_lists", "_law_lists", "_law_lists", s_l_lists⟩, ⟨.glo "_law_above", "_law_above", "_law_above", s_l_above⟩, ⟨.glo "_law_calls", "_law_calls", "_law_calls", s_l_calls⟩, ⟨.glo "_law_off", "_law_off", "_law_off", s_l_off⟩, ⟨.glo "_law_pair_right", "_law_pair_right", "_law_pair_right", s_l_pair_right⟩, ⟨.glo "_law_by_hand_right", "_law_by_hand_right", "_law_by_hand_right", s_l_by_hand_right⟩, ⟨.glo "_law_take", "_law_take", "_law_take", s_l_take⟩, ⟨.glo "_law_of", "_law_of", "_law_of", s_l_of⟩, ⟨.glo "_law_alarm", "_law_alarm", "_law_alarm", s_l_alarm⟩, ⟨.glo "_law_limit", "_law_limit", "_law_limit", s_l_limit⟩, ⟨.glo "_law_alarms", "_law_alarms", "_law_alarms", s_l_alarms⟩, ⟨.glo "_law_varied", "_law_varied", "_law_varied", s_l_varied⟩, ⟨.glo "_law_right", "_law_right", "_law_right", s_l_right⟩, ⟨.glo "_law_box", "_law_box", "_law_box", s_l_box⟩, ⟨.glo "law", "law", "law", s_l_law⟩, ⟨.exc 10, "__init__", "Unlike.__init__", s_exc_10⟩, ⟨.exc 11, "__init__", "TooMany.__init__", s_exc_11⟩, ⟨.exc 12, "__init__", "Contradiction.__init__", s_exc_12⟩]
theorem runC0 (w : World) (os : OsState) : (HandSHeadRun.endF (HandSHeadRun.stepQ (HandSHeadRun.denQ HandSHeadRun.tabQ) RR.prog w) 8000 RR.prog w os).map (fun s => obsQG 5 fas0 fns0 (HandSHeadRun.getT s)) = some (valQ fns0) := by
  kernel_rfl
theorem fas_eq : fas0 = fas := rfl
theorem fns_eq : fns0 = fns := rfl
theorem runC (w : World) (os : OsState) : (HandSHeadRun.endF (HandSHeadRun.stepQ (HandSHeadRun.denQ HandSHeadRun.tabQ) RR.prog w) 8000 RR.prog w os).map obR = some (hkR.val w) := by
  have h := (runC0 w os)
  rw [fas_eq, fns_eq] at h
  exact h
theorem runR (w : World) : HandSHeadRun.RunEq RR (PySem.W.view RR.prog [46]) hkR obR 8000 loose w := fun os => comb3 (runA w os) (runB w os) (runC w os)
end
end Lw
namespace Q
open PySem L2
inductive D where
  | non | bl (b : Bool) | int (i : Int) | str (x : Str) | tup (xs : List D) | lst (xs : List D) | fro (xs : List D) | obj (c : Nat) (fs : List D) | exn (c : Nat) (fs : List D) | ref (k : Nat)
inductive Cell where
  | lst (xs : List D) | frz (xs : List D) | dk (lk : Bool) (kvs : List (Key × D)) | dt (lk : Bool) (kvs : List (List Key × D)) | ob (c : Nat) (fs : List (Option D))
def Cell.live : Cell → Bool
  | .lst _ => true
  | .frz _ => false
  | .dk lk _ => !lk
  | .dt lk _ => !lk
  | .ob _ _ => true
abbrev Store := List Cell
abbrev Env := List (Option D)
structure Exn where
  cls : Nat
  fs : List D
inductive Res (β : Type) where
  | ok (a : β) (S : Store) | ex (e : Exn) (S : Store) | no
def Res.bind {β γ : Type} (r : Res β) (f : β → Store → Res γ) : Res γ := match r with
  | .ok a S => f a S
  | .ex e S => .ex e S
  | .no => .no
@[simp] theorem bind_ok {β γ : Type} (a : β) (S : Store) (f : β → Store → Res γ) : (Res.ok a S).bind f = f a S := rfl
@[simp] theorem bind_no {β γ : Type} (f : β → Store → Res γ) : (Res.no : Res β).bind f = .no := rfl
@[simp] theorem bind_ex {β γ : Type} (e : Exn) (S : Store) (f : β → Store → Res γ) : (Res.ex e S : Res β).bind f = .ex e S := rfl
structure Gm where
  K : PySem.W.Frag
  cl : Nat → Addr
def ObAt (G : Hp) (a C : Addr) (vs : List V) : Prop := ∃ dx, G a = some (SlX.SlO a C dx (vs.map some)) ∧ G dx = some (.xd [])
def ExK (cls : Value) (d : Option Addr) (a : Addr) : HO := .ext fun h => ∃ (oe : Obj) (ws : Array Value), h.get? a = some oe ∧ Zc cls d oe ∧ oe.data = .fields ws
def ExF (G : Hp) (d : Option Addr) (vs : List V) : Prop := (vs = [] ∧ d = none) ∨ ∃ (nm : Str) (v : V) (dd : Addr), vs = [.str nm, v] ∧ d = some dd ∧ G dd = some (.xd [(nm, v)])
def ExAt (G : Hp) (a C : Addr) (vs : List V) : Prop := ∃ d, G a = some (ExK (.ref C) d a) ∧ ExF G d vs
theorem ExF.keep {G G' : Hp} (k : ∀ a fs, G a = some (.xd fs) → G' a = some (.xd fs)) {d : Option Addr} {vs : List V} (h : ExF G d vs) : ExF G' d vs := by
  rcases h with h | ⟨nm, v, dd, e1, e2, e3⟩
  · exact .inl h
  · exact .inr ⟨nm, v, dd, e1, e2, k _ _ e3⟩
section
variable (Γ : Gm) (α : List Addr) (G : Hp)
mutual
def Rep : D → V → Prop
  | .non, v => v = .non
  | .bl b, v => v = .bl b
  | .int i, v => v = .int i
  | .str s, v => v = .str s
  | .tup ds, v => ∃ a vs, v = .ref a ∧ G a = some (.tup vs) ∧ RepL ds vs
  | .lst ds, v => ∃ a vs, v = .ref a ∧ G a = some (.lst vs) ∧ RepL ds vs
  | .fro ds, v => ∃ a vs, v = .ref a ∧ SqL Γ.K G a vs ∧ RepL ds vs
  | .obj c fs, v => ∃ a vs, v = .ref a ∧ ObAt G a (Γ.cl c) vs ∧ RepL fs vs
  | .exn c fs, v => ∃ a vs, v = .ref a ∧ ExAt G a (Γ.cl c) vs ∧ RepL fs vs
  | .ref k, v => ∃ a, v = .ref a ∧ α[k]? = some a
def RepL : List D → List V → Prop
  | [], vs => vs = []
  | d :: ds, vs => ∃ v r, vs = v :: r ∧ Rep d v ∧ RepL ds r
end
end
def Sub (G H : Hp) : Prop := ∀ a o, G a = some o → H a = some o
theorem Sub.refl (G : Hp) : Sub G G := fun _ _ h => h
theorem Sub.trans {G H J : Hp} (a : Sub G H) (b : Sub H J) : Sub G J := fun x o h => b x o (a x o h)
theorem Sub.new {H : Hp} {p : Addr} {o : HO} (h : H p = none) : Sub H (upd H p o) := fun a u e => by
  rw [upd_ne (ne_of_none e h)]; exact e
theorem Sub.rd {G H : Hp} (s : Sub G H) {a : Addr} {u : HO} (h : Rd G a u) : Rd H a u := by
  rcases h with h | ⟨o, h⟩
  · exact .inl (s a _ h)
  · exact .inr ⟨o, s a _ h⟩
theorem Sub.sqL {K : PySem.W.Frag} {G H : Hp} (s : Sub G H) {a : Addr} {xs : List V} (h : SqL K G a xs) : SqL K H a xs := by
  rcases h with h | h
  · exact .inl (s.rd h)
  · exact .inr h
theorem Sub.sqT {K : PySem.W.Frag} {G H : Hp} (s : Sub G H) {a : Addr} {xs : List V} (h : SqT K G a xs) : SqT K H a xs := by
  rcases h with h | h
  · exact .inl (s.rd h)
  · exact .inr h
theorem Sub.none {G H : Hp} (s : Sub G H) {a : Addr} (h : H a = none) : G a = none := by
  cases q : G a with
  | none => rfl
  | some o => rw [s a o q] at h; cases h
section
variable {Γ : Gm} {α α' : List Addr} {G G' : Hp}
mutual
theorem Rep.mono (hp : ∃ β, α' = α ++ β) (hs : Sub G G') : ∀ (d : D) (v : V), Rep Γ α G d v → Rep Γ α' G' d v
  | .non, v, h => by simpa [Rep] using h
  | .bl b, v, h => by simpa [Rep] using h
  | .int i, v, h => by simpa [Rep] using h
  | .str s, v, h => by simpa [Rep] using h
  | .tup ds, v, h => by
    unfold Rep at h ⊢
    obtain ⟨a, vs, e, q, r⟩ := h
    exact ⟨a, vs, e, hs _ _ q, RepL.mono hp hs ds vs r⟩
  | .lst ds, v, h => by
    unfold Rep at h ⊢
    obtain ⟨a, vs, e, q, r⟩ := h
    exact ⟨a, vs, e, hs _ _ q, RepL.mono hp hs ds vs r⟩
  | .fro ds, v, h => by
    unfold Rep at h ⊢
    obtain ⟨a, vs, e, q, r⟩ := h
    exact ⟨a, vs, e, hs.sqL q, RepL.mono hp hs ds vs r⟩
  | .obj c fs, v, h => by
    unfold Rep at h ⊢
    obtain ⟨a, vs, e, ⟨dx, h1, h2⟩, r⟩ := h
    exact ⟨a, vs, e, ⟨dx, hs _ _ h1, hs _ _ h2⟩, RepL.mono hp hs fs vs r⟩
  | .exn c fs, v, h => by
    unfold Rep at h ⊢
    obtain ⟨a, vs, e, ⟨d, h1, h2⟩, r⟩ := h
    exact ⟨a, vs, e, ⟨d, hs _ _ h1, h2.keep fun _ _ z => hs _ _ z⟩, RepL.mono hp hs fs vs r⟩
  | .ref k, v, h => by
    unfold Rep at h ⊢
    obtain ⟨a, e, q⟩ := h
    obtain ⟨β, rfl⟩ := hp
    exact ⟨a, e, by rw [List.getElem?_append_left (List.getElem?_eq_some_iff.mp q).1]; exact q⟩
theorem RepL.mono (hp : ∃ β, α' = α ++ β) (hs : Sub G G') : ∀ (ds : List D) (vs : List V), RepL Γ α G ds vs → RepL Γ α' G' ds vs
  | [], vs, h => by simpa [RepL] using h
  | d :: ds, vs, h => by
    unfold RepL at h ⊢
    obtain ⟨v, r, e, h1, h2⟩ := h
    exact ⟨v, r, e, Rep.mono hp hs d v h1, RepL.mono hp hs ds r h2⟩
end
theorem RepL.length : ∀ {ds : List D} {vs : List V}, RepL Γ α G ds vs → ds.length = vs.length
  | [], vs, h => by unfold RepL at h; subst h; rfl
  | d :: ds, vs, h => by
    unfold RepL at h
    obtain ⟨v, r, rfl, _, h2⟩ := h
    simp [RepL.length h2]
theorem RepL.get : ∀ {ds : List D} {vs : List V} {i : Nat} {d : D}, RepL Γ α G ds vs → ds[i]? = some d → ∃ v, vs[i]? = some v ∧ Rep Γ α G d v
  | [], _, _, _, _, h => by simp at h
  | d :: ds, vs, 0, e, r, h => by
    unfold RepL at r
    obtain ⟨v, w, rfl, h1, _⟩ := r
    simp at h
    subst h
    exact ⟨v, rfl, h1⟩
  | d :: ds, vs, i + 1, e, r, h => by
    unfold RepL at r
    obtain ⟨v, w, rfl, _, h2⟩ := r
    simpa using RepL.get h2 (by simpa using h)
theorem RepL.append : ∀ {ds es : List D} {vs ws : List V}, RepL Γ α G ds vs → RepL Γ α G es ws → RepL Γ α G (ds ++ es) (vs ++ ws)
  | [], es, vs, ws, h, h' => by
    unfold RepL at h; subst h; exact h'
  | d :: ds, es, vs, ws, h, h' => by
    unfold RepL at h
    obtain ⟨v, r, rfl, h1, h2⟩ := h
    show RepL Γ α G (d :: (ds ++ es)) (v :: (r ++ ws))
    unfold RepL
    exact ⟨v, _, rfl, h1, RepL.append h2 h'⟩
theorem RepL.set : ∀ {ds : List D} {vs : List V} (i : Nat) {d : D} {v : V}, RepL Γ α G ds vs → Rep Γ α G d v → RepL Γ α G (ds.set i d) (vs.set i v)
  | [], vs, i, d, v, h, _ => by unfold RepL at h; subst h; simp [RepL]
  | e :: ds, vs, 0, d, v, h, hv => by
    unfold RepL at h
    obtain ⟨w, r, rfl, h1, h2⟩ := h
    show RepL Γ α G (d :: ds) (v :: r)
    unfold RepL
    exact ⟨v, r, rfl, hv, h2⟩
  | e :: ds, vs, i + 1, d, v, h, hv => by
    unfold RepL at h
    obtain ⟨w, r, rfl, h1, h2⟩ := h
    show RepL Γ α G (e :: ds.set i d) (w :: r.set i v)
    unfold RepL
    exact ⟨w, _, rfl, h1, RepL.set i h2 hv⟩
theorem RepL.take : ∀ {ds : List D} {vs : List V} (n : Nat), RepL Γ α G ds vs → RepL Γ α G (ds.take n) (vs.take n)
  | ds, vs, 0, h => by simp [RepL]
  | [], vs, n + 1, h => by unfold RepL at h; subst h; simp [RepL]
  | d :: ds, vs, n + 1, h => by
    unfold RepL at h
    obtain ⟨w, r, rfl, h1, h2⟩ := h
    show RepL Γ α G (d :: ds.take n) (w :: r.take n)
    unfold RepL
    exact ⟨w, _, rfl, h1, RepL.take n h2⟩
theorem RepL.drop : ∀ {ds : List D} {vs : List V} (n : Nat), RepL Γ α G ds vs → RepL Γ α G (ds.drop n) (vs.drop n)
  | ds, vs, 0, h => h
  | [], vs, n + 1, h => by unfold RepL at h; subst h; simp [RepL]
  | d :: ds, vs, n + 1, h => by
    unfold RepL at h
    obtain ⟨w, r, rfl, h1, h2⟩ := h
    exact RepL.drop n h2
end
def RepKV (Γ : Gm) (α : List Addr) (G : Hp) {κ : Type} : List (κ × D) → List (κ × V) → Prop
  | [], ws => ws = []
  | kd :: r, ws => ∃ v t, ws = (kd.1, v) :: t ∧ Rep Γ α G kd.2 v ∧ RepKV Γ α G r t
def RepO (Γ : Gm) (α : List Addr) (G : Hp) (fs : List (Option D)) (vs : List (Option V)) : Prop := ∀ (i : Nat) (d : D), fs[i]? = some (some d) → ∃ v, vs[i]? = some (some v) ∧ Rep Γ α G d v
def RepC (Γ : Gm) (α : List Addr) (G : Hp) (a : Addr) : Cell → HO → Prop
  | .lst ds, o => ∃ vs, o = .lst vs ∧ RepL Γ α G ds vs
  | .frz ds, o => ∃ vs, o = .lst vs ∧ RepL Γ α G ds vs
  | .dk lk kvs, o => ∃ ws, RepKV Γ α G kvs ws ∧ ((lk = false ∧ o = .dK ws) ∨ (lk = true ∧ ∃ od, o = .frz od (.dK ws)))
  | .dt lk kvs, o => ∃ ws, RepKV Γ α G kvs ws ∧ ((lk = false ∧ o = .dT ws) ∨ (lk = true ∧ ∃ od, o = .frz od (.dT ws)))
  | .ob c fs, o => ∃ dx vs, o = SlX.SlO a (Γ.cl c) dx vs ∧ G dx = some (.xd []) ∧ RepO Γ α G fs vs
def CellOk (Γ : Gm) (α : List Addr) (G H : Hp) (a : Addr) (c : Cell) : Prop := ∃ o, RepC Γ α G a c o ∧ ((c.live = true ∧ H a = some o ∧ G a = none) ∨ (c.live = false ∧ G a = some o))
section
variable {Γ : Gm} {α α' : List Addr} {G G' H H' : Hp} {a : Addr}
theorem RepKV.mono {κ : Type} (hp : ∃ β, α' = α ++ β) (hs : Sub G G') : ∀ {kvs : List (κ × D)} {ws : List (κ × V)}, RepKV Γ α G kvs ws → RepKV Γ α' G' kvs ws
  | [], ws, h => by simpa [RepKV] using h
  | (k, d) :: r, ws, h => by
    unfold RepKV at h ⊢
    obtain ⟨v, t, e, h1, h2⟩ := h
    exact ⟨v, t, e, Rep.mono hp hs _ _ h1, RepKV.mono hp hs h2⟩
theorem RepO.mono (hp : ∃ β, α' = α ++ β) (hs : Sub G G') {fs : List (Option D)} {vs : List (Option V)} (h : RepO Γ α G fs vs) : RepO Γ α' G' fs vs := fun i d hd => by
  obtain ⟨v, e, r⟩ := h i d hd
  exact ⟨v, e, Rep.mono hp hs _ _ r⟩
theorem RepC.mono (hp : ∃ β, α' = α ++ β) (hs : Sub G G') {c : Cell} {o : HO} (h : RepC Γ α G a c o) : RepC Γ α' G' a c o := by
  cases c with
  | lst ds => obtain ⟨vs, e, r⟩ := h; exact ⟨vs, e, RepL.mono hp hs _ _ r⟩
  | frz ds => obtain ⟨vs, e, r⟩ := h; exact ⟨vs, e, RepL.mono hp hs _ _ r⟩
  | dk lk kvs => obtain ⟨ws, r, e⟩ := h; exact ⟨ws, r.mono hp hs, e⟩
  | dt lk kvs => obtain ⟨ws, r, e⟩ := h; exact ⟨ws, r.mono hp hs, e⟩
  | ob c fs => obtain ⟨dx, vs, e, hx, r⟩ := h; exact ⟨dx, vs, e, hs _ _ hx, r.mono hp hs⟩
theorem RepC.ntup {c : Cell} {o : HO} (h : RepC Γ α G a c o) : ∀ xs, o ≠ .tup xs := by
  intro xs z
  cases c with
  | lst ds => obtain ⟨vs, e, r⟩ := h; rw [e] at z; cases z
  | frz ds => obtain ⟨vs, e, r⟩ := h; rw [e] at z; cases z
  | dk lk kvs =>
    obtain ⟨ws, r, e⟩ := h
    rcases e with ⟨_, e⟩ | ⟨_, od, e⟩ <;> (rw [e] at z; cases z)
  | dt lk kvs =>
    obtain ⟨ws, r, e⟩ := h
    rcases e with ⟨_, e⟩ | ⟨_, od, e⟩ <;> (rw [e] at z; cases z)
  | ob c fs => obtain ⟨dx, vs, e, hx, r⟩ := h; rw [e] at z; unfold SlX.SlO at z; cases z
theorem CellOk.mono {c : Cell} (h : CellOk Γ α G H a c) (hp : ∃ β, α' = α ++ β) (hs : Sub G G') (hl : c.live = true → H' a = H a ∧ (G a = none → G' a = none)) : CellOk Γ α' G' H' a c := by
  obtain ⟨o, r, h⟩ := h
  refine ⟨o, r.mono hp hs, ?_⟩
  rcases h with ⟨l, h1, h2⟩ | ⟨l, h1⟩
  · exact .inl ⟨l, by rw [(hl l).1]; exact h1, (hl l).2 h2⟩
  · exact .inr ⟨l, hs _ _ h1⟩
theorem CellOk.ntup {c : Cell} (h : CellOk Γ α G H a c) (hs : Sub G H) : ∀ xs, H a ≠ some (.tup xs) := by
  intro xs z
  obtain ⟨o, r, h⟩ := h
  rcases h with ⟨_, h1, _⟩ | ⟨_, h1⟩
  · rw [h1] at z; exact r.ntup xs (Option.some.inj z)
  · rw [hs _ _ h1] at z; exact r.ntup xs (Option.some.inj z)
theorem CellOk.lst {ds : List D} (h : CellOk Γ α G H a (.lst ds)) : ∃ vs, H a = some (.lst vs) ∧ RepL Γ α G ds vs ∧ G a = none := by
  obtain ⟨o, ⟨vs, e, r⟩, h⟩ := h
  subst e
  rcases h with ⟨_, h1, h2⟩ | ⟨l, _⟩
  · exact ⟨vs, h1, r, h2⟩
  · cases l
theorem CellOk.frz {ds : List D} (h : CellOk Γ α G H a (.frz ds)) : ∃ vs, G a = some (.lst vs) ∧ RepL Γ α G ds vs := by
  obtain ⟨o, ⟨vs, e, r⟩, h⟩ := h
  subst e
  rcases h with ⟨l, _⟩ | ⟨_, h1⟩
  · cases l
  · exact ⟨vs, h1, r⟩
theorem CellOk.mkL {ds : List D} {vs : List V} (h1 : H a = some (.lst vs)) (r : RepL Γ α G ds vs) (h2 : G a = none) : CellOk Γ α G H a (.lst ds) := ⟨_, ⟨vs, rfl, r⟩, .inl ⟨rfl, h1, h2⟩⟩
theorem CellOk.mkF {ds : List D} {vs : List V} (h1 : G a = some (.lst vs)) (r : RepL Γ α G ds vs) : CellOk Γ α G H a (.frz ds) := ⟨_, ⟨vs, rfl, r⟩, .inr ⟨rfl, h1⟩⟩
end
structure Rl (Γ : Gm) (α : List Addr) (G : Hp) (S : Store) (H : Hp) : Prop where
  sub : Sub G H
  len : α.length = S.length
  nd : α.Nodup
  tr : ∀ a ∈ α, H a ≠ none
  ok : ∀ (k : Nat) (c : Cell) (a : Addr), S[k]? = some c → α[k]? = some a → CellOk Γ α G H a c
structure Ext (α : List Addr) (G H : Hp) (α' : List Addr) (G' H' : Hp) : Prop where
  pre : ∃ β, α' = α ++ β
  sub : Sub G G'
  fr : ∀ a o, H a = some o → a ∉ α → H' a = some o
  na : ∀ a ∈ α', a ∈ α ∨ H a = none
  ng : ∀ a, G' a ≠ none → G a ≠ none ∨ a ∈ α ∨ H a = none ∨ ∃ xs, H a = some (.tup xs)
theorem Ext.refl (α : List Addr) (G H : Hp) : Ext α G H α G H := ⟨⟨[], by simp⟩, Sub.refl G, fun _ _ h _ => h, fun _ h => .inl h, fun _ h => .inl h⟩
theorem Ext.back {α α' : List Addr} {G H G' H' : Hp} (e : Ext α G H α' G' H') {a : Addr} (h : H' a = none) : a ∈ α ∨ H a = none := by
  by_cases m : a ∈ α
  · exact .inl m
  · cases q : H a with
    | none => exact .inr rfl
    | some o => rw [e.fr a o q m] at h; cases h
theorem Ext.mem {α α' : List Addr} {G H G' H' : Hp} (e : Ext α G H α' G' H') {a : Addr} (h : a ∈ α) : a ∈ α' := by
  obtain ⟨β, rfl⟩ := e.pre
  exact List.mem_append_left _ h
theorem Ext.trans {α α1 α2 : List Addr} {G H G1 H1 G2 H2 : Hp} (a : Ext α G H α1 G1 H1) (b : Ext α1 G1 H1 α2 G2 H2) : Ext α G H α2 G2 H2 := by
  refine ⟨?_, a.sub.trans b.sub, fun x o h m => ?_, fun x m => ?_, fun x h => ?_⟩
  · obtain ⟨β, rfl⟩ := a.pre
    obtain ⟨γ, rfl⟩ := b.pre
    exact ⟨β ++ γ, by simp⟩
  · refine b.fr x o (a.fr x o h m) fun m1 => ?_
    rcases a.na x m1 with z | z
    · exact m z
    · rw [z] at h; cases h
  · rcases b.na x m with z | z
    · exact a.na x z
    · exact a.back z
  · rcases b.ng x h with z | z | z | ⟨xs, z⟩
    · exact a.ng x z
    · rcases a.na x z with z | z
      · exact .inr (.inl z)
      · exact .inr (.inr (.inl z))
    · rcases a.back z with z | z
      · exact .inr (.inl z)
      · exact .inr (.inr (.inl z))
    · by_cases m : x ∈ α
      · exact .inr (.inl m)
      · cases q : H x with
        | none => exact .inr (.inr (.inl rfl))
        | some o =>
          have q2 := a.fr x o q m
          rw [z] at q2
          cases q2
          exact .inr (.inr (.inr ⟨xs, rfl⟩))
def ExR (Γ : Gm) (α : List Addr) (G : Hp) (e : Exn) (c : Value) (x : Option Addr) (H : Hp) : Prop := c = .ref (Γ.cl e.cls) ∧ ∃ vs, RepL Γ α G e.fs vs ∧ ExF G x vs
section
variable (Γ : Gm)
def Post {β γ : Type} (R : List Addr → Hp → β → γ → Prop) (α : List Addr) (G H : Hp) (r : Res β) (Q : γ → Hp → Prop) (E : XK) : Prop := match r with
  | .ok d S' => ∀ α' G' H' v, Ext α G H α' G' H' → Rl Γ α' G' S' H' → R α' G' d v → Q v H'
  | .ex e S' => ∀ α' G' H' c x, Ext α G H α' G' H' → Rl Γ α' G' S' H' → ExR Γ α' G' e c x H' → E c x H'
  | .no => False
end
section
variable {Γ : Gm} {β γ δ ε : Type} {R : List Addr → Hp → β → γ → Prop} {R' : List Addr → Hp → δ → ε → Prop} {α α1 : List Addr} {G H G1 H1 : Hp} {Q : γ → Hp → Prop} {Q' : ε → Hp → Prop} {E : XK}
theorem Post.mono {r : Res β} (h : Post Γ R α G H r Q E) (e : Ext α G H α1 G1 H1) : Post Γ R α1 G1 H1 r Q E := by
  cases r with
  | ok d S' => exact fun α' G' H' v x rl rp => h α' G' H' v (e.trans x) rl rp
  | ex d S' => exact fun α' G' H' c x y rl rp => h α' G' H' c x (e.trans y) rl rp
  | no => exact h
theorem post_bind {r : Res β} {f : β → Store → Res δ} (h : Post Γ R' α G H (r.bind f) Q' E)
    (k : ∀ a S1 α1 G1 H1 x, r = .ok a S1 → Ext α G H α1 G1 H1 → Rl Γ α1 G1 S1 H1 → R α1 G1 a x → Post Γ R' α1 G1 H1 (f a S1) Q' E → Q x H1) : Post Γ R α G H r Q E := by
  cases r with
  | ok d S' =>
    intro α' G' H' v e rl rp
    exact k d S' α' G' H' v rfl e rl rp (Post.mono h e)
  | ex e S' => exact h
  | no => exact h
theorem post_ok {a : β} {S : Store} {x : γ} (h : Post Γ R α G H (.ok a S) Q E) (rl : Rl Γ α G S H) (rp : R α G a x) : Q x H := h α G H x (Ext.refl α G H) rl rp
end
def EnvR (Γ : Gm) (α : List Addr) (G : Hp) (ρ : Env) (σ : L2.St) : Prop := ρ.length = σ.length ∧ ∀ (i : Nat) d, ρ[i]? = some (some d) → ∃ v, σ[i]? = some (some v) ∧ Rep Γ α G d v
theorem EnvR.mono {Γ : Gm} {α α' : List Addr} {G H G' H' : Hp} {ρ : Env} {σ : L2.St} (h : EnvR Γ α G ρ σ) (e : Ext α G H α' G' H') : EnvR Γ α' G' ρ σ :=
  ⟨h.1, fun i d hi => let ⟨v, a, b⟩ := h.2 i d hi; ⟨v, a, Rep.mono e.pre e.sub _ _ b⟩⟩
theorem EnvR.set {Γ : Gm} {α : List Addr} {G : Hp} {ρ : Env} {σ : L2.St} (h : EnvR Γ α G ρ σ) (i : Nat) {d : D} {v : V} (r : Rep Γ α G d v) : EnvR Γ α G (ρ.set i (some d)) (σ.set i (some v)) := by
  refine ⟨by simp [h.1], fun j e hj => ?_⟩
  by_cases hij : i = j
  · subst hij
    have hl : i < ρ.length := by
      have := (List.getElem?_eq_some_iff.mp hj).1
      simpa using this
    rw [List.getElem?_set_self hl] at hj
    cases hj
    exact ⟨v, List.getElem?_set_self (by rw [← h.1]; exact hl), r⟩
  · rw [List.getElem?_set_ne hij] at hj
    obtain ⟨w, h1, h2⟩ := h.2 j e hj
    exact ⟨w, by rw [List.getElem?_set_ne hij]; exact h1, h2⟩
abbrev ME := Env → Store → Res D
abbrev MT := Env → Store → Res Bool
abbrev MA := Env → Store → Res (List D)
inductive Fl where
  | nx (ρ : Env) | rt (d : D) | bk (ρ : Env) | ct (ρ : Env)
abbrev MS := Env → Store → Res Fl
def RB : List Addr → Hp → Bool → Bool → Prop := fun _ _ a b => a = b
section
variable (Γ : Gm) (E : XK)
def SndE (t : TE) (m : ME) : Prop := ∀ (ρ : Env) (S : Store) (σ : L2.St) (α : List Addr) (G H : Hp) (Q : VK), EnvR Γ α G ρ σ → Rl Γ α G S H → Post Γ (Rep Γ) α G H (m ρ S) Q E → t σ H Q
def SndT (t : TT) (m : MT) : Prop := ∀ (ρ : Env) (S : Store) (σ : L2.St) (α : List Addr) (G H : Hp) (Q : Bool → Hp → Prop), EnvR Γ α G ρ σ → Rl Γ α G S H → Post Γ RB α G H (m ρ S) Q E → t σ H Q
def SndA (t : TA) (m : MA) : Prop := ∀ (ρ : Env) (S : Store) (σ : L2.St) (α : List Addr) (G H : Hp) (Q : List V → Hp → Prop), EnvR Γ α G ρ σ → Rl Γ α G S H → Post Γ (RepL Γ) α G H (m ρ S) Q E → t σ H Q
def PostS (α : List Addr) (G H : Hp) (r : Res Fl) (Dn : Ends) : Prop := match r with
  | .ok (.nx ρ) S' => ∀ α' G' H' σ', Ext α G H α' G' H' → Rl Γ α' G' S' H' → EnvR Γ α' G' ρ σ' → Dn.nx σ' H'
  | .ok (.rt d) S' => ∀ α' G' H' v, Ext α G H α' G' H' → Rl Γ α' G' S' H' → Rep Γ α' G' d v → Dn.rt v H'
  | .ok (.bk ρ) S' => ∀ α' G' H' σ', Ext α G H α' G' H' → Rl Γ α' G' S' H' → EnvR Γ α' G' ρ σ' → Dn.bk σ' H'
  | .ok (.ct ρ) S' => ∀ α' G' H' σ', Ext α G H α' G' H' → Rl Γ α' G' S' H' → EnvR Γ α' G' ρ σ' → Dn.ct σ' H'
  | .ex e S' => ∀ α' G' H' c x, Ext α G H α' G' H' → Rl Γ α' G' S' H' → ExR Γ α' G' e c x H' → E c x H'
  | .no => False
def SndS (t : TS) (m : MS) : Prop := ∀ (ρ : Env) (S : Store) (σ : L2.St) (α : List Addr) (G H : Hp) (Dn : Ends), EnvR Γ α G ρ σ → Rl Γ α G S H → PostS Γ E α G H (m ρ S) Dn → t Dn σ H
end
theorem PostS.mono {Γ : Gm} {E : XK} {α α1 : List Addr} {G H G1 H1 : Hp} {r : Res Fl} {Dn : Ends} (h : PostS Γ E α G H r Dn) (e : Ext α G H α1 G1 H1) : PostS Γ E α1 G1 H1 r Dn := by
  cases r with
  | ok f S' => cases f <;> exact fun α' G' H' v x rl rp => h α' G' H' v (e.trans x) rl rp
  | ex d S' => exact fun α' G' H' c x y rl rp => h α' G' H' c x (e.trans y) rl rp
  | no => exact h
theorem posts_bind {Γ : Gm} {E : XK} {β γ : Type} {R : List Addr → Hp → β → γ → Prop} {α : List Addr} {G H : Hp} {r : Res β} {f : β → Store → Res Fl} {Dn : Ends} {Q : γ → Hp → Prop} (h : PostS Γ E α G H (r.bind f) Dn)
    (k : ∀ a S1 α1 G1 H1 x, r = .ok a S1 → Ext α G H α1 G1 H1 → Rl Γ α1 G1 S1 H1 → R α1 G1 a x → PostS Γ E α1 G1 H1 (f a S1) Dn → Q x H1) : Post Γ R α G H r Q E := by
  cases r with
  | ok d S' =>
    intro α' G' H' v e rl rp
    exact k d S' α' G' H' v rfl e rl rp (PostS.mono h e)
  | ex e S' => exact h
  | no => exact h
structure QE (X : Cx) (cl : Nat → Addr) (E : XK) (e : Expr) (m : ME) : Prop where
  ex : ∃ t, PE X e t ∧ SndE ⟨X.K, cl⟩ E t m
structure QT (X : Cx) (cl : Nat → Addr) (E : XK) (e : Expr) (m : MT) : Prop where
  ex : ∃ t, PT X e t ∧ SndT ⟨X.K, cl⟩ E t m
structure QW (X : Cx) (cl : Nat → Addr) (E : XK) (e : Expr) (m : MT) : Prop where
  ex : ∃ t, PW X e t ∧ SndT ⟨X.K, cl⟩ E t m
structure QA (X : Cx) (cl : Nat → Addr) (E : XK) (es : List Expr) (m : MA) : Prop where
  ex : ∃ t, PA X es t ∧ SndA ⟨X.K, cl⟩ E t m
structure QS (X : Cx) (cl : Nat → Addr) (E : XK) (st : Stmt) (m : MS) : Prop where
  ex : ∃ t, PS X st t ∧ SndS ⟨X.K, cl⟩ E t m
structure QSs (X : Cx) (cl : Nat → Addr) (E : XK) (st : List Stmt) (m : MS) : Prop where
  ex : ∃ t, PSs X st t ∧ SndS ⟨X.K, cl⟩ E t m
end Q
namespace Q
open PySem L2
theorem Sub.upd2 {G H : Hp} (s : Sub G H) (p : Addr) (o : HO) : Sub (upd G p o) (upd H p o) := fun a u e => by
  by_cases h : a = p
  · subst h; rw [upd_same] at e ⊢; exact e
  · rw [upd_ne h] at e ⊢; exact s a u e
section
variable {Γ : Gm} {α : List Addr} {G H : Hp} {S : Store}
theorem Rl.ntup (R : Rl Γ α G S H) {a : Addr} (h : a ∈ α) : ∀ xs, H a ≠ some (.tup xs) := by
  obtain ⟨k, hk⟩ := List.mem_iff_getElem?.mp h
  have hl : k < S.length := by rw [← R.len]; exact (List.getElem?_eq_some_iff.mp hk).1
  exact (R.ok k S[k] a (List.getElem?_eq_getElem hl) hk).ntup R.sub
theorem Rl.gnone (R : Rl Γ α G S H) {p : Addr} (h : H p = none) : G p = none := R.sub.none h
theorem Rl.get (R : Rl Γ α G S H) {k : Nat} {c : Cell} (h : S[k]? = some c) : ∃ a, α[k]? = some a ∧ a ∈ α ∧ CellOk Γ α G H a c := by
  have hl : k < α.length := by rw [R.len]; exact (List.getElem?_eq_some_iff.mp h).1
  exact ⟨α[k], List.getElem?_eq_getElem hl, List.getElem_mem hl, R.ok k c _ h (List.getElem?_eq_getElem hl)⟩
theorem Rl.new (R : Rl Γ α G S H) {p : Addr} (hp : H p = none) (o : HO) : Rl Γ α (upd G p o) S (upd H p o) ∧ Ext α G H α (upd G p o) (upd H p o) := by
  have ne : ∀ a ∈ α, a ≠ p := fun a m e => by subst e; exact R.tr a m hp
  have sg : Sub G (upd G p o) := Sub.new (R.gnone hp)
  refine ⟨⟨R.sub.upd2 p o, R.len, R.nd, fun a m => by rw [upd_ne (ne a m)]; exact R.tr a m, fun k c a hc ha => ?_⟩, ⟨⟨[], by simp⟩, sg, fun a u e _ => ?_, fun a m => .inl m, fun a h => ?_⟩⟩
  · have hm : a ∈ α := List.mem_of_getElem? ha
    exact (R.ok k c a hc ha).mono ⟨[], by simp⟩ sg fun _ => ⟨upd_ne (ne a hm), fun h3 => by rw [upd_ne (ne a hm)]; exact h3⟩
  · rw [upd_ne (ne_of_none e hp)]; exact e
  · by_cases e : a = p
    · subst e; exact .inr (.inr (.inl hp))
    · rw [upd_ne e] at h; exact .inl h
theorem Rl.out (R : Rl Γ α G S H) {p : Addr} (hp : H p = none) (o : HO) : Rl Γ α G S (upd H p o) ∧ Ext α G H α G (upd H p o) := by
  have ne : ∀ a ∈ α, a ≠ p := fun a m e => by subst e; exact R.tr a m hp
  refine ⟨⟨R.sub.trans (Sub.new hp), R.len, R.nd, fun a m => by rw [upd_ne (ne a m)]; exact R.tr a m, fun k c a hc ha => ?_⟩, ⟨⟨[], by simp⟩, Sub.refl G, fun a u e _ => ?_, fun a m => .inl m, fun a h => .inl h⟩⟩
  · have hm : a ∈ α := List.mem_of_getElem? ha
    exact (R.ok k c a hc ha).mono ⟨[], by simp⟩ (Sub.refl G) fun _ => ⟨upd_ne (ne a hm), fun h3 => h3⟩
  · rw [upd_ne (ne_of_none e hp)]; exact e
theorem Rl.cellC (R : Rl Γ α G S H) {p : Addr} (hp : H p = none) {c0 : Cell} {o0 : HO} (hl : c0.live = true) (r : RepC Γ α G p c0 o0) :
    Rl Γ (α ++ [p]) G (S ++ [c0]) (upd H p o0) ∧ Ext α G H (α ++ [p]) G (upd H p o0) ∧ Rep Γ (α ++ [p]) G (.ref S.length) (.ref p) := by
  have ne : ∀ a ∈ α, a ≠ p := fun a m e => by subst e; exact R.tr a m hp
  refine ⟨⟨R.sub.trans (Sub.new hp), by simp [R.len], ?_, fun a m => ?_, fun k c a hc ha => ?_⟩, ⟨⟨[p], rfl⟩, Sub.refl G, fun a u e _ => by rw [upd_ne (ne_of_none e hp)]; exact e, fun a m => ?_, fun a h => .inl h⟩, ?_⟩
  · rw [List.nodup_append]
    exact ⟨R.nd, by simp, fun a m b mb => by simp at mb; subst mb; exact ne a m⟩
  · by_cases e : a = p
    · subst e; rw [upd_same]; simp
    · rw [upd_ne e]
      rcases List.mem_append.mp m with m | m
      · exact R.tr a m
      · simp at m; exact absurd m e
  · by_cases hk : k < α.length
    · rw [List.getElem?_append_left hk] at ha
      rw [List.getElem?_append_left (by rw [← R.len]; exact hk)] at hc
      have hm : a ∈ α := List.mem_of_getElem? ha
      exact (R.ok k c a hc ha).mono ⟨[p], rfl⟩ (Sub.refl G) fun _ => ⟨upd_ne (ne a hm), fun h3 => h3⟩
    · rw [List.getElem?_append_right (by omega)] at ha
      rw [List.getElem?_append_right (by rw [← R.len]; omega)] at hc
      have e1 : k - α.length = 0 := by
        have := (List.getElem?_eq_some_iff.mp ha).1
        simp at this
        omega
      have e2 : k - S.length = 0 := by rw [← R.len]; exact e1
      rw [e1] at ha
      rw [e2] at hc
      simp at ha hc
      subst ha
      subst hc
      exact ⟨o0, r.mono ⟨[_], rfl⟩ (Sub.refl G), .inl ⟨hl, upd_same, R.gnone hp⟩⟩
  · rcases List.mem_append.mp m with m | m
    · exact .inl m
    · simp at m; subst m; exact .inr hp
  · unfold Rep
    exact ⟨p, rfl, by rw [← R.len]; simp⟩
theorem Rl.cell (R : Rl Γ α G S H) {p : Addr} (hp : H p = none) {ds : List D} {vs : List V} (r : RepL Γ α G ds vs) :
    Rl Γ (α ++ [p]) G (S ++ [.lst ds]) (upd H p (.lst vs)) ∧ Ext α G H (α ++ [p]) G (upd H p (.lst vs)) ∧ Rep Γ (α ++ [p]) G (.ref S.length) (.ref p) := R.cellC hp rfl ⟨vs, rfl, r⟩
theorem Rl.putC (R : Rl Γ α G S H) {k : Nat} {a : Addr} {c0 c1 : Cell} {o1 : HO} (hk : S[k]? = some c0) (ha : α[k]? = some a) (hl : c0.live = true) (hl1 : c1.live = true) (r : RepC Γ α G a c1 o1) :
    Rl Γ α G (S.set k c1) (upd H a o1) ∧ Ext α G H α G (upd H a o1) := by
  have hm : a ∈ α := List.mem_of_getElem? ha
  have a3 : G a = none := by
    obtain ⟨o, _, h⟩ := R.ok k _ a hk ha
    rcases h with ⟨_, _, h⟩ | ⟨l, _⟩
    · exact h
    · rw [hl] at l; cases l
  refine ⟨⟨fun b o e => ?_, by simp [R.len], R.nd, fun b m => ?_, fun j c b hc hb => ?_⟩, ⟨⟨[], by simp⟩, Sub.refl G, fun b u e nb => ?_, fun b m => .inl m, fun b h => .inl h⟩⟩
  · have hb : b ≠ a := fun z => by subst z; rw [a3] at e; cases e
    rw [upd_ne hb]
    exact R.sub b o e
  · by_cases e : b = a
    · subst e; rw [upd_same]; simp
    · rw [upd_ne e]; exact R.tr b m
  · by_cases hjk : k = j
    · subst hjk
      rw [List.getElem?_set_self (List.getElem?_eq_some_iff.mp hk).1] at hc
      rw [ha] at hb
      cases hb
      cases hc
      exact ⟨o1, r, .inl ⟨hl1, upd_same, a3⟩⟩
    · rw [List.getElem?_set_ne hjk] at hc
      have hb' : b ≠ a := fun z => by
        subst z
        obtain ⟨h1, e1⟩ := List.getElem?_eq_some_iff.mp ha
        obtain ⟨h2, e2⟩ := List.getElem?_eq_some_iff.mp hb
        exact hjk ((List.getElem_inj R.nd).mp (e1.trans e2.symm))
      exact (R.ok j c b hc hb).mono ⟨[], by simp⟩ (Sub.refl G) fun _ => ⟨upd_ne hb', fun h3 => h3⟩
  · have hb : b ≠ a := fun z => by subst z; exact nb hm
    rw [upd_ne hb]
    exact e
theorem Rl.put (R : Rl Γ α G S H) {k : Nat} {a : Addr} {ds es : List D} {ws : List V} (hk : S[k]? = some (.lst ds)) (ha : α[k]? = some a) (r : RepL Γ α G es ws) :
    Rl Γ α G (S.set k (.lst es)) (upd H a (.lst ws)) ∧ Ext α G H α G (upd H a (.lst ws)) := R.putC hk ha rfl rfl ⟨ws, rfl, r⟩
theorem Rl.freeze (R : Rl Γ α G S H) {k : Nat} {a : Addr} {ds : List D} (hk : S[k]? = some (.lst ds)) (ha : α[k]? = some a) :
    ∃ vs, RepL Γ α G ds vs ∧ Rl Γ α (upd G a (.lst vs)) (S.set k (.frz ds)) H ∧ Ext α G H α (upd G a (.lst vs)) H := by
  have hm : a ∈ α := List.mem_of_getElem? ha
  obtain ⟨vs, a1, a2, a3⟩ := (R.ok k _ a hk ha).lst
  have sg : Sub G (upd G a (.lst vs)) := Sub.new a3
  refine ⟨vs, a2, ⟨fun b o e => ?_, by simp [R.len], R.nd, R.tr, fun j c b hc hb => ?_⟩, ⟨⟨[], by simp⟩, sg, fun b u e _ => e, fun b m => .inl m, fun b h => ?_⟩⟩
  · by_cases e' : b = a
    · subst e'; rw [upd_same] at e; cases e; exact a1
    · rw [upd_ne e'] at e; exact R.sub b o e
  · by_cases hjk : k = j
    · subst hjk
      rw [List.getElem?_set_self (List.getElem?_eq_some_iff.mp hk).1] at hc
      rw [ha] at hb
      cases hb
      cases hc
      exact .mkF upd_same (RepL.mono ⟨[], by simp⟩ sg _ _ a2)
    · rw [List.getElem?_set_ne hjk] at hc
      have hb' : b ≠ a := fun z => by
        subst z
        obtain ⟨h1, e1⟩ := List.getElem?_eq_some_iff.mp ha
        obtain ⟨h2, e2⟩ := List.getElem?_eq_some_iff.mp hb
        exact hjk ((List.getElem_inj R.nd).mp (e1.trans e2.symm))
      exact (R.ok j c b hc hb).mono ⟨[], by simp⟩ sg fun _ => ⟨rfl, fun h3 => by rw [upd_ne hb']; exact h3⟩
  · by_cases e : b = a
    · subst e; exact .inr (.inl hm)
    · rw [upd_ne e] at h; exact .inl h
end
def lstOf (S : Store) : D → Option (List D)
  | .lst xs => some xs
  | .ref k => match S[k]? with
    | some (.lst xs) => some xs
    | some (.frz xs) => some xs
    | _ => none
  | _ => none
def rdL (S : Store) : D → Option (List D)
  | .fro xs => some xs
  | d => lstOf S d
section
variable {Γ : Gm} {α : List Addr} {G H : Hp} {S : Store}
theorem lstOf_at (R : Rl Γ α G S H) {d : D} {v : V} {xs : List D} (r : Rep Γ α G d v) (h : lstOf S d = some xs) : ∃ a vs, v = .ref a ∧ H a = some (.lst vs) ∧ RepL Γ α G xs vs := by
  cases d with
  | lst ys =>
    have e : ys = xs := Option.some.inj h
    subst e
    unfold Rep at r
    obtain ⟨a, vs, e, q, r⟩ := r
    exact ⟨a, vs, e, R.sub _ _ q, r⟩
  | ref k =>
    unfold Rep at r
    obtain ⟨a, e, ha⟩ := r
    unfold lstOf at h
    cases hc : S[k]? with
    | none => simp [hc] at h
    | some c =>
      have z := R.ok k c a hc ha
      cases c with
      | lst ys =>
        simp [hc] at h
        subst h
        obtain ⟨vs, h1, h2, h3⟩ := z.lst
        exact ⟨a, vs, e, h1, h2⟩
      | frz ys =>
        simp [hc] at h
        subst h
        obtain ⟨vs, h1, h2⟩ := z.frz
        exact ⟨a, vs, e, R.sub _ _ h1, h2⟩
      | _ => simp [hc] at h
  | _ => simp [lstOf] at h
theorem rdL_at (R : Rl Γ α G S H) {d : D} {v : V} {xs : List D} (r : Rep Γ α G d v) (h : rdL S d = some xs) : ∃ a vs, v = .ref a ∧ SqL Γ.K H a vs ∧ RepL Γ α G xs vs := by
  have go : lstOf S d = some xs → ∃ a vs, v = .ref a ∧ SqL Γ.K H a vs ∧ RepL Γ α G xs vs := fun h => by
    obtain ⟨a, vs, e, q, r⟩ := lstOf_at R r h
    exact ⟨a, vs, e, .inl (.inl q), r⟩
  cases d with
  | fro ys =>
    have e : ys = xs := Option.some.inj h
    subst e
    unfold Rep at r
    obtain ⟨a, vs, e, q, r⟩ := r
    exact ⟨a, vs, e, R.sub.sqL q, r⟩
  | _ => exact go h
theorem tup_at (R : Rl Γ α G S H) {v : V} {xs : List D} (r : Rep Γ α G (.tup xs) v) : ∃ a vs, v = .ref a ∧ SqT Γ.K H a vs ∧ RepL Γ α G xs vs := by
  unfold Rep at r
  obtain ⟨a, vs, e, q, r⟩ := r
  exact ⟨a, vs, e, .inl (.inl (R.sub _ _ q)), r⟩
theorem sz {n : Nat} (h : n ≤ 100000) : n ≤ sizeLine := Nat.le_trans h (by decide)
theorem rep_lst {p : Addr} {xs : List D} {vs : List V} (h : G p = some (.lst vs)) (r : RepL Γ α G xs vs) : Rep Γ α G (.lst xs) (.ref p) := by unfold Rep; exact ⟨p, vs, rfl, h, r⟩
theorem rep_tup {p : Addr} {xs : List D} {vs : List V} (h : G p = some (.tup vs)) (r : RepL Γ α G xs vs) : Rep Γ α G (.tup xs) (.ref p) := by unfold Rep; exact ⟨p, vs, rfl, h, r⟩
theorem post_lst {Q : VK} {E : XK} {xs : List D} {vs : List V} (R : Rl Γ α G S H) (r : RepL Γ α G xs vs) (h : Post Γ (Rep Γ) α G H (.ok (.lst xs) S) Q E) {p : Addr} (hp : H p = none) : Q (.ref p) (upd H p (.lst vs)) := by
  obtain ⟨R', e⟩ := R.new hp (.lst vs)
  exact h _ _ _ _ e R' (rep_lst upd_same (RepL.mono e.pre e.sub _ _ r))
theorem post_tup {Q : VK} {E : XK} {xs : List D} {vs : List V} (R : Rl Γ α G S H) (r : RepL Γ α G xs vs) (h : Post Γ (Rep Γ) α G H (.ok (.tup xs) S) Q E) {p : Addr} (hp : H p = none) : Q (.ref p) (upd H p (.tup vs)) := by
  obtain ⟨R', e⟩ := R.new hp (.tup vs)
  exact h _ _ _ _ e R' (rep_tup upd_same (RepL.mono e.pre e.sub _ _ r))
theorem post_cell {Q : VK} {E : XK} {xs : List D} {vs : List V} (R : Rl Γ α G S H) (r : RepL Γ α G xs vs) (h : Post Γ (Rep Γ) α G H (.ok (.ref S.length) (S ++ [.lst xs])) Q E) {p : Addr} (hp : H p = none) : Q (.ref p) (upd H p (.lst vs)) := by
  obtain ⟨R', e, r'⟩ := R.cell hp r
  exact h _ _ _ _ e R' r'
end
end Q
namespace Q
open PySem L2
def mVar (i : Nat) : ME := fun ρ S => match ρ[i]? with
  | some (some d) => .ok d S
  | _ => .no
def mC (d : D) : ME := fun _ S => .ok d S
section
variable {X : Cx} {cl : Nat → Addr} {E : XK} {a b c e : Expr} {ma mb mc m : ME} {pos : Pos}
theorem snd_var {Γ : Gm} (i : Nat) : SndE Γ E (tVar i) (mVar i) := fun ρ S σ α G H Q hρ hR h => by
  unfold mVar at h
  cases q : ρ[i]? with
  | none => simp [q, Post] at h
  | some o =>
    cases o with
    | none => simp [q, Post] at h
    | some d =>
      simp only [q] at h
      obtain ⟨v, hv, r⟩ := hρ.2 i d q
      exact ⟨v, hv, post_ok h hR r⟩
theorem snd_c {Γ : Gm} {v : V} {d : D} (hr : ∀ α G, Rep Γ α G d v) : SndE Γ E (tC v) (mC d) := fun ρ S σ α G H Q hρ hR h => post_ok h hR (hr _ _)
theorem q_var (i : Nat) {x : Str} {pos : Pos} (hN : X.N[i]? = some x := by rfl) (hv : Vis X.env.scope x := by first | exact Or.inl rfl | exact Or.inr (Or.inl rfl) | exact Or.inr (Or.inr rfl)) (hd : (x == ("__debug__" : Str)) = false := by decide)
    (hcd : (x == ("__classdict__" : Str)) = false := by decide) : QE X cl E (.Name x pos) (mVar i) := ⟨_, pe_var hN hv hd hcd, snd_var i⟩
theorem q_int {i j pos} : QE X cl E (.Constant (.int i) j pos) (mC (.int i)) := ⟨_, pe_int, snd_c fun _ _ => by simp [Rep]⟩
theorem q_bl {i j pos} : QE X cl E (.Constant (.bool i) j pos) (mC (.bl i)) := ⟨_, pe_bl, snd_c fun _ _ => by simp [Rep]⟩
theorem q_non {j pos} : QE X cl E (.Constant .none j pos) (mC .non) := ⟨_, pe_non, snd_c fun _ _ => by simp [Rep]⟩
theorem q_str {i j pos} : QE X cl E (.Constant (.str i) j pos) (mC (.str i)) := ⟨_, pe_str, snd_c fun _ _ => by simp [Rep]⟩
theorem q_globI {x : Str} {i : Int} {t : Tok} {pos : Pos} (hg : Gl X x) (hm : X.mg x = some (.int i t)) (hd : (x == ("__debug__" : Str)) = false := by decide) : QE X cl E (.Name x pos) (mC (.int i)) :=
  ⟨_, pe_glob (v := .int i) hg hm ⟨_, rfl⟩ hd, snd_c fun _ _ => by simp [Rep]⟩
def SndR (Γ : Gm) (E : XK) (r : R2) (f : D → D → Store → Res D) : Prop := ∀ (a b : D) (S : Store) (α : List Addr) (G H : Hp) (x y : V) (Q : VK), Rl Γ α G S H → Rep Γ α G a x → Rep Γ α G b y → Post Γ (Rep Γ) α G H (f a b S) Q E → r x y H Q
structure QR (X : Cx) (cl : Nat → Addr) (E : XK) (op : Value → Value → Sem Value) (f : D → D → Store → Res D) : Prop where
  ex : ∃ r, OpR X op r ∧ SndR ⟨X.K, cl⟩ E r f
def mOp (f : D → D → Store → Res D) (ma mb : ME) : ME := fun ρ S => (ma ρ S).bind fun x S1 => (mb ρ S1).bind fun y S2 => f x y S2
theorem snd_op {Γ : Gm} {r : R2} {f : D → D → Store → Res D} {ta tb : TE} (hr : SndR Γ E r f) (ha : SndE Γ E ta ma) (hb : SndE Γ E tb mb) : SndE Γ E (tOp r ta tb) (mOp f ma mb) := fun ρ S σ α G H Q hρ hR h =>
  ha ρ S σ α G H _ hρ hR (post_bind h fun x S1 α1 G1 H1 v _ e1 R1 r1 h1 =>
    hb ρ S1 σ α1 G1 H1 _ (hρ.mono e1) R1 (post_bind h1 fun y S2 α2 G2 H2 w _ e2 R2 r2 h2 =>
      hr x y S2 α2 G2 H2 v w Q R2 (Rep.mono e2.pre e2.sub _ _ r1) r2 h2))
theorem q_op {op : Operator} {f : D → D → Store → Res D} (ho : QR X cl E (binaryOp op) f) (ha : QE X cl E a ma) (hb : QE X cl E b mb) : QE X cl E (.BinOp a op b pos) (mOp f ma mb) := by
  obtain ⟨r, h1, h2⟩ := ho.ex
  obtain ⟨ta, a1, a2⟩ := ha.ex
  obtain ⟨tb, b1, b2⟩ := hb.ex
  exact ⟨_, pe_op h1 a1 b1, snd_op h2 a2 b2⟩
theorem q_cmp {op : CmpOp} {f : D → D → Store → Res D} (ho : QR X cl E (compareOp op) f) (ha : QE X cl E a ma) (hb : QE X cl E b mb) (hm : behindInMarks op b = false := by first | rfl | exact nomark _) : QE X cl E (.Compare a [op] [b] pos) (mOp f ma mb) := by
  obtain ⟨r, h1, h2⟩ := ho.ex
  obtain ⟨ta, a1, a2⟩ := ha.ex
  obtain ⟨tb, b1, b2⟩ := hb.ex
  exact ⟨_, pe_cmpR h1 a1 b1 hm, snd_op h2 a2 b2⟩
theorem OpR.or {f : Value → Value → Sem Value} {r r' : R2} (h : OpR X f r) (h' : OpR X f r') : OpR X f (fun x y H Q => r x y H Q ∨ r' x y H Q) := fun pins s σ H x y v u Q I rx ry q => by
  rcases q with q | q
  · exact h pins s σ H x y v u Q I rx ry q
  · exact h' pins s σ H x y v u Q I rx ry q
def Res.orE {β : Type} (r s : Res β) : Res β := match r with
  | .no => s
  | r => r
@[simp] theorem orE_ok {β : Type} (a : β) (S : Store) (s : Res β) : (Res.ok a S).orE s = .ok a S := rfl
@[simp] theorem orE_no {β : Type} (s : Res β) : (Res.no : Res β).orE s = s := rfl
theorem QR.or {op : Value → Value → Sem Value} {f g : D → D → Store → Res D} (h : QR X cl E op f) (h' : QR X cl E op g) : QR X cl E op (fun a b S => (f a b S).orE (g a b S)) := by
  obtain ⟨r, h1, h2⟩ := h.ex
  obtain ⟨r', h1', h2'⟩ := h'.ex
  refine ⟨_, h1.or h1', fun a b S α G H x y Q hR ra rb hp => ?_⟩
  simp only at hp
  cases q : f a b S with
  | no =>
    rw [q] at hp
    exact .inr (h2' a b S α G H x y Q hR ra rb hp)
  | ok d S' =>
    rw [q] at hp
    exact .inl (h2 a b S α G H x y Q hR ra rb (by rw [q]; exact hp))
  | ex d S' =>
    rw [q] at hp
    exact .inl (h2 a b S α G H x y Q hR ra rb (by rw [q]; exact hp))
def fI (C : Int → Int → Bool) (g : Int → Int → D) : D → D → Store → Res D := fun a b S => match a, b with
  | .int i, .int j => if C i j = true then .ok (g i j) S else .no
  | _, _ => .no
def fI0 (g : Int → Int → D) : D → D → Store → Res D := fun a b S => match a, b with
  | .int i, .int j => .ok (g i j) S
  | _, _ => .no
theorem snd_I {Γ : Gm} {C : Int → Int → Prop} {C' : Int → Int → Bool} {g : Int → Int → V} {g' : Int → Int → D} (hc : ∀ i j, C' i j = true → C i j) (hg : ∀ α G i j, Rep Γ α G (g' i j) (g i j)) : SndR Γ E (rI C g) (fI C' g') := by
  intro a b S α G H x y Q hR ra rb h
  cases a <;> cases b <;> try exact h.elim
  rename_i i j
  simp only [Rep] at ra rb
  unfold fI at h
  simp only at h
  split at h
  · rename_i hh
    exact ⟨i, j, ra, rb, hc i j hh, post_ok h hR (hg _ _ _ _)⟩
  · exact h.elim
theorem snd_I0 {Γ : Gm} {g : Int → Int → V} {g' : Int → Int → D} (hg : ∀ α G i j, Rep Γ α G (g' i j) (g i j)) : SndR Γ E (rI0 g) (fI0 g') := by
  intro a b S α G H x y Q hR ra rb h
  cases a <;> cases b <;> try exact h.elim
  rename_i i j
  simp only [Rep] at ra rb
  exact ⟨i, j, ra, rb, post_ok (a := g' i j) h hR (hg _ _ _ _)⟩
def mulOk (i j : Int) : Bool := decide (i.natAbs < 2 ^ 64) || decide (j.natAbs < 2 ^ 64) || decide (i.natAbs.log2 + j.natAbs.log2 < 1000000)
def divOk (_ j : Int) : Bool := decide (0 < j ∧ j.natAbs.log2 < 9000)
def modOk (_ j : Int) : Bool := decide (0 < j)
def powOk (i j : Int) : Bool := decide (0 ≤ j ∧ j.natAbs ≤ 1000000 ∧ i.natAbs < 2 ^ 64)
def opAddI := fI0 fun i j => .int (i + j)
def opSubI := fI0 fun i j => .int (i - j)
def opMulI := fI mulOk fun i j => .int (i * j)
def opDivI := fI divOk fun i j => .int (i / j)
def opModI := fI modOk fun i j => .int (i % j)
def opPowI := fI powOk fun i j => .int (i ^ j.toNat)
theorem addI : QR X cl E (binaryOp .Add) opAddI := ⟨_, op_add, snd_I0 fun _ _ _ _ => by simp [Rep]⟩
theorem subI : QR X cl E (binaryOp .Sub) opSubI := ⟨_, op_sub, snd_I0 fun _ _ _ _ => by simp [Rep]⟩
theorem mulI : QR X cl E (binaryOp .Mult) opMulI := by
  refine ⟨_, OpR.or op_mul op_mulW, fun a b S α G H x y Q hR ra rb h => ?_⟩
  cases a <;> cases b <;> try exact h.elim
  rename_i i j
  simp only [Rep] at ra rb
  unfold opMulI fI at h
  simp only at h
  split at h
  · rename_i hh
    have q := post_ok (x := V.int (i * j)) h hR (by simp [Rep])
    unfold mulOk at hh
    simp only [Bool.or_eq_true, decide_eq_true_eq] at hh
    rcases hh with (hh | hh) | hh
    · exact .inl ⟨i, j, ra, rb, .inl (by omega), q⟩
    · exact .inl ⟨i, j, ra, rb, .inr (by omega), q⟩
    · exact .inr ⟨i, j, ra, rb, hh, q⟩
  · exact h.elim
theorem divI : QR X cl E (binaryOp .FloorDiv) opDivI := ⟨_, op_fdivW, snd_I (fun i j h => by simpa [divOk, CDivW] using h) fun _ _ _ _ => by simp [Rep]⟩
theorem modI : QR X cl E (binaryOp .Mod) opModI := ⟨_, op_mod, snd_I (fun i j h => by simpa [modOk] using h) fun _ _ _ _ => by simp [Rep]⟩
theorem powI : QR X cl E (binaryOp .Pow) opPowI := ⟨_, op_pow, snd_I (fun i j h => by
  have h2 : 0 ≤ j ∧ j.natAbs ≤ 1000000 ∧ i.natAbs < 2 ^ 64 := of_decide_eq_true h
  have h3 : 0 ≤ j ∧ j ≤ 1000000 ∧ i.natAbs < 2 ^ 64 := ⟨h2.1, by omega, h2.2.2⟩
  simpa [CPow] using h3) fun _ _ _ _ => by simp [Rep]⟩
def opLt := fI0 fun i j => .bl (decide (i < j))
def opLe := fI0 fun i j => .bl (decide (i ≤ j))
def opGt := fI0 fun i j => .bl (decide (j < i))
def opGe := fI0 fun i j => .bl (decide (j ≤ i))
theorem ltI : QR X cl E (compareOp .Lt) opLt := ⟨_, op_lt, snd_I0 fun _ _ _ _ => by simp [Rep]⟩
theorem leI : QR X cl E (compareOp .LtE) opLe := ⟨_, op_le, snd_I0 fun _ _ _ _ => by simp [Rep]⟩
theorem gtI : QR X cl E (compareOp .Gt) opGt := ⟨_, op_gt, snd_I0 fun _ _ _ _ => by simp [Rep]⟩
theorem geI : QR X cl E (compareOp .GtE) opGe := ⟨_, op_ge, snd_I0 fun _ _ _ _ => by simp [Rep]⟩
def opCat : D → D → Store → Res D := fun a b S => match a, b with
  | .str s, .str t => if s.length + t.length ≤ 100000 then .ok (.str (s ++ t)) S else .no
  | .tup xs, .tup ys => if xs.length + ys.length ≤ 100000 then .ok (.tup (xs ++ ys)) S else .no
  | a, b => match lstOf S a, lstOf S b with
    | some xs, some ys => if xs.length + ys.length ≤ 100000 then .ok (.lst (xs ++ ys)) S else .no
    | _, _ => .no
theorem repL_nil {Γ : Gm} {α : List Addr} {G : Hp} {xs : List D} {vs : List V} (r : RepL Γ α G xs vs) : xs = [] ↔ vs = [] := by
  have := r.length
  constructor
  · intro h; subst h; simpa using this.symm
  · intro h; subst h; simpa using this
theorem catQ (hc : True) : QR X cl E (binaryOp .Add) opCat := by
  refine ⟨_, OpR.or op_add_str (OpR.or op_catA op_cat), fun a b S α G H x y Q hR ra rb h => ?_⟩
  have lists : (match lstOf S a, lstOf S b with
      | some xs, some ys => if xs.length + ys.length ≤ 100000 then Res.ok (.lst (xs ++ ys)) S else .no
      | _, _ => .no) = opCat a b S → rCat x y H Q := fun e => by
    rw [← e] at h
    cases h1 : lstOf S a with
    | none => simp [h1, Post] at h
    | some xs =>
      cases h2 : lstOf S b with
      | none => simp [h1, h2, Post] at h
      | some ys =>
        simp only [h1, h2] at h
        split at h
        · rename_i hs
          obtain ⟨p, vs, rfl, q1, r1⟩ := lstOf_at hR ra h1
          obtain ⟨p2, ws, rfl, q2, r2⟩ := lstOf_at hR rb h2
          exact ⟨p, p2, vs, ws, rfl, rfl, q1, q2, by rw [← r1.length, ← r2.length]; exact sz hs, fun z hz => post_lst hR (r1.append r2) h hz⟩
        · exact h.elim
  cases a <;> cases b <;> first
    | exact .inr (.inr (lists rfl))
    | skip
  · rename_i s t
    simp only [Rep] at ra rb
    simp only [opCat] at h
    split at h
    · rename_i hs
      exact .inl ⟨s, t, ra, rb, sz hs, post_ok h hR (by simp [Rep])⟩
    · exact h.elim
  · rename_i xs ys
    simp only [opCat] at h
    split at h
    · rename_i hs
      obtain ⟨p, vs, rfl, q1, r1⟩ := tup_at hR ra
      obtain ⟨p2, ws, rfl, q2, r2⟩ := tup_at hR rb
      refine .inr (.inl ⟨p, p2, vs, ws, rfl, rfl, q1, q2, by rw [← r1.length, ← r2.length]; exact sz hs, fun e => ?_, fun e e2 => ?_, fun e e2 z hz => post_tup hR (r1.append r2) h hz⟩)
      · have e' := (repL_nil r1).mpr e
        subst e'
        exact post_ok h hR rb
      · have e' := (repL_nil r2).mpr e2
        subst e'
        rw [List.append_nil] at h
        exact post_ok h hR ra
    · exact h.elim
def opAdd : D → D → Store → Res D := fun a b S => (opAddI a b S).orE (opCat a b S)
theorem addQ : QR X cl E (binaryOp .Add) opAdd := addI.or (catQ trivial)
def opRep : D → D → Store → Res D := fun a b S => match lstOf S a, b with
  | some xs, .int k => if (-100000 ≤ k ∧ k ≤ 100000) ∧ xs.length * k.toNat ≤ 100000 then .ok (.lst (List.replicate k.toNat xs).flatten) S else .no
  | _, _ => .no
theorem RepL.flat {Γ : Gm} {α : List Addr} {G : Hp} {xs : List D} {vs : List V} (r : RepL Γ α G xs vs) : ∀ n : Nat, RepL Γ α G (List.replicate n xs).flatten (List.replicate n vs).flatten
  | 0 => by simp [RepL]
  | n + 1 => by
    simp only [List.replicate_succ, List.flatten_cons]
    exact r.append (RepL.flat r n)
theorem repQ : QR X cl E (binaryOp .Mult) opRep := by
  refine ⟨_, op_rep, fun a b S α G H x y Q hR ra rb h => ?_⟩
  unfold opRep at h
  cases h1 : lstOf S a with
  | none => simp [h1, Post] at h
  | some xs =>
    cases b <;> simp only [h1] at h <;> try exact h.elim
    rename_i k
    split at h
    · rename_i hs
      obtain ⟨p, vs, rfl, q1, r1⟩ := lstOf_at hR ra h1
      simp only [Rep] at rb
      refine ⟨p, k, vs, rfl, rb, q1, ?_, ?_, by rw [← r1.length]; exact sz hs.2, fun z hz => post_lst hR (r1.flat _) h hz⟩
      · have : (100000 : Int) < 2 ^ 63 := by decide
        omega
      · have : (100000 : Int) < 2 ^ 63 := by decide
        omega
    · exact h.elim
end
end Q
namespace L2
open PySem PySem.Spec PyProof.Rows
theorem tuple_mul_one (l : Addr) (items : Array Value) (n : Nat) (dd : Option Addr) (sl : Array (Option Value)) (x : Int) (u : Tok) (hx : x = 1) :
    Meets (Builtin.«tuple.__mul__» { pos := [.ref l, .int x u] }) fun _ R s => s.heap.get? l = some { cls := .type "tuple", dict := dd, data := .seq items n, slots := sl } ∧ R (.ok (.ret (.ref l))) s := by
  refine Meets.of_wp fun prog w A R s h => ?_
  obtain ⟨hl, h⟩ := h
  have ht : IsTup s.heap l items := ⟨_, hl, rfl, n, rfl⟩
  have hT : s.TypeIs (.ref l) "tuple" := ⟨_, hl, rfl⟩
  apply wpAny_bind (m := asIndex (.int x u))
  refine wpAny_bind (wpAny_pure (wpAny_pure ?_))
  refine wpAny_ite_false (by subst hx; decide) (wpAny_bind (tupleItemsOf_ ht ?_))
  refine wpAny_ite_true (by subst hx; simp) (wpAny_bind (wpAny_bind (wpAny_typeOf hT (wpAny_pure ?_))))
  refine wpAny_ite_true rfl (wpAny_bind (wpAny_rule ?_))
  exact wpAny_pure ⟨_, rfl, h⟩
theorem tuple_mul_none (l : Addr) (items : Array Value) (n : Nat) (dd : Option Addr) (sl : Array (Option Value)) (x : Int) (u : Tok) (hx : x ≤ 0) (hx2 : -(2 ^ 60) ≤ x) (hi : items.isEmpty = false) :
    Meets (Builtin.«tuple.__mul__» { pos := [.ref l, .int x u] }) fun _ R s => s.heap.get? l = some { cls := .type "tuple", dict := dd, data := .seq items n, slots := sl } ∧ R (.ok (.ret (.ref s.heap.objs.size))) { heap := s.heap.push { cls := .type "tuple", data := .seq #[] }, gens := s.gens, drawn := s.drawn, toks := s.toks, os := s.os } := by
  refine Meets.of_wp fun prog w A R s h => ?_
  obtain ⟨hl, h⟩ := h
  have ht : IsTup s.heap l items := ⟨_, hl, rfl, n, rfl⟩
  apply wpAny_bind (m := asIndex (.int x u))
  refine wpAny_bind (wpAny_pure (wpAny_pure ?_))
  refine wpAny_ite_false (by simp; omega) (wpAny_bind (tupleItemsOf_ ht ?_))
  have h1 : (x == 1) = false := by simp; omega
  refine wpAny_ite_false (by rw [hi, h1]; rfl) ?_
  refine wpAny_ite_true (by simp [hx]) (wpAny_bind ?_)
  refine wpAny_newObj_type ?_ (by show (0 : Nat) ≤ sizeLine; omega)
  exact wpAny_pure ⟨_, rfl, h⟩
def rRepT1 (K : PySem.W.Frag) : R2 := fun x y H Q => ∃ (l : Addr) (k : Int) (xs : List V), x = .ref l ∧ y = .int k ∧ SqT K H l xs ∧ xs ≠ [] ∧ -1000 ≤ k ∧ k ≤ 1 ∧ (k = 1 → Q (.ref l) H) ∧ (k ≤ 0 → ∀ p, H p = none → Q (.ref p) (upd H p (.tup [])))
theorem op_repT1 {X : Cx} : OpR X (binaryOp .Mult) (rRepT1 X.K) := by
  intro pins s σ H x y v u Q I rx ry h
  obtain ⟨l, k, xs, rfl, rfl, hx, hne, hk0, hk1, q1, q0⟩ := h
  cases rx
  obtain ⟨t, rfl⟩ := ry
  obtain ⟨its, r, ⟨o, ho, hc, n, hd⟩, hz⟩ := I.tuple hx
  obtain ⟨cls, dd, data, sl⟩ := o
  simp only at hc hd
  subst hc hd
  have hie : its.toArray.isEmpty = false := by
    cases its with
    | nil => cases r; exact absurd rfl hne
    | cons a b => rfl
  have go : wpAny (model X.prog X.w) X.A (call (.builtin "tuple.__mul__") [.ref l, .int k t]) (EP X pins σ Q) X.xe s := by
    by_cases h1 : k = 1
    · exact call_meets F.slot_tuple_mul ⟨_, ho, rfl⟩ F.entry_tuple_mul (F.args_tuple_mul_2 _ _) (tuple_mul_one l its.toArray n dd sl k t h1) ⟨ho, .ref l, H, I, rfl, q1 h1⟩
    · refine call_meets F.slot_tuple_mul ⟨_, ho, rfl⟩ F.entry_tuple_mul (F.args_tuple_mul_2 _ _) (tuple_mul_none l its.toArray n dd sl k t (by omega) (by omega) hie) ⟨ho, ?_⟩
      refine ⟨.ref _, upd H _ (.tup []), I.laid (fun b ob q => Heap.get?_push_of_some _ q) (Nat.le_refl _) ⟨by simp, [], .nil, ?_⟩, rfl, q0 (by omega) _ (I.hok.fresh (Nat.le_refl _))⟩
      exact IsTup.new _ _
  exact wpAny_binaryOp_repeat_ref (T := "tuple") (U := "int") (by decide) ⟨_, ho, rfl⟩ (fun s' => typeIs_int s' k t) noFill_tuple_mul F.fills_int_mul F.slot_int_rmul repeat_tuple F.slot_int_index.lookup
    (call_meets F.slot_int_rmul (typeIs_int s k t) F.entry_int_rmul (F.args_int_rmul_2 _ _) (int_rmul_tuple k t l its.toArray n dd sl) ⟨ho, rfl, ⟨_, ho, rfl⟩, go⟩)
end L2
namespace Q
open PySem L2
section
variable {X : Cx} {cl : Nat → Addr} {E : XK} {a b c e : Expr} {ma mb mc m : ME} {pos : Pos}
def opRepT : D → D → Store → Res D := fun a b S => match a, b with
  | .tup xs, .int k => if 0 < xs.length ∧ -1000 ≤ k ∧ k ≤ 1000 ∧ xs.length ≤ 1000 then .ok (.tup (List.replicate k.toNat xs).flatten) S else .no
  | _, _ => .no
theorem repTQ : QR X cl E (binaryOp .Mult) opRepT := by
  refine ⟨_, OpR.or op_repT op_repT1, fun a b S α G H x y Q hR ra rb h => ?_⟩
  cases a <;> cases b <;> try exact h.elim
  rename_i xs k
  simp only [opRepT] at h
  split at h
  · rename_i hs
    obtain ⟨p, vs, rfl, q1, r1⟩ := tup_at hR ra
    simp only [Rep] at rb
    have hne : vs ≠ [] := fun e => by
      have := (repL_nil r1).mpr e
      subst this
      simp at hs
    by_cases hk : 2 ≤ k
    · exact .inl ⟨p, k, vs, rfl, rb, q1, hne, hk, hs.2.2.1, by rw [← r1.length]; exact hs.2.2.2, fun z hz => post_tup hR (r1.flat _) h hz⟩
    · refine .inr ⟨p, k, vs, rfl, rb, q1, hne, hs.2.1, by omega, fun e => ?_, fun e z hz => ?_⟩
      · subst e
        have e2 : (List.replicate (1 : Int).toNat xs).flatten = xs := by
          show (List.replicate 1 xs).flatten = xs
          simp
        rw [e2] at h
        exact post_ok h hR ra
      · have e2 : (List.replicate k.toNat xs).flatten = [] := by
          rw [show k.toNat = 0 by omega]
          rfl
        rw [e2] at h
        exact post_tup hR (by simp [RepL]) h hz
  · exact h.elim
def opMul : D → D → Store → Res D := fun a b S => (opMulI a b S).orE ((opRep a b S).orE (opRepT a b S))
theorem mulQ : QR X cl E (binaryOp .Mult) opMul := mulI.or (repQ.or repTQ)
mutual
def deq : D → D → Bool
  | .non, .non => true
  | .bl a, .bl b => a == b
  | .bl a, .int j => (if a then 1 else 0) == j
  | .int i, .bl b => i == (if b then 1 else 0)
  | .int i, .int j => i == j
  | .str x, .str y => x == y
  | .tup xs, .tup ys => deqL xs ys
  | .lst xs, .lst ys => deqL xs ys
  | _, _ => false
def deqL : List D → List D → Bool
  | [], [] => true
  | x :: xs, y :: ys => deq x y && deqL xs ys
  | _, _ => false
end
mutual
def toPy : D → PyData
  | .non => .none
  | .bl b => .bool b
  | .int i => .int i
  | .str s => .str s
  | .tup xs => .tuple (toPyL xs)
  | .lst xs => .list (toPyL xs)
  | .fro _ | .obj _ _ | .exn _ _ | .ref _ => .none
def toPyL : List D → List PyData
  | [] => []
  | x :: xs => toPy x :: toPyL xs
end
def shal : Nat → D → Bool
  | _, .non => true
  | _, .bl _ => true
  | _, .int _ => true
  | _, .str s => PyData.strOk s
  | n + 1, .tup xs => xs.all (shal n)
  | n + 1, .lst xs => xs.all (shal n)
  | _, _ => false
theorem toPyL_map : ∀ xs : List D, toPyL xs = xs.map toPy
  | [] => rfl
  | x :: xs => by simp [toPyL, toPyL_map xs]
theorem depthAll_le {n : Nat} : ∀ {xs : List PyData}, (∀ x ∈ xs, x.depth ≤ n) → PyData.depthAll xs ≤ n
  | [], _ => by simp [PyData.depthAll]
  | x :: xs, h => by
    simp only [PyData.depthAll]
    have h1 := h x (by simp)
    have h2 := depthAll_le (xs := xs) fun y hy => h y (by simp [hy])
    omega
theorem canLayAll {xs : List PyData} : (∀ x ∈ xs, x.canLay0 = true) → PyData.canLayAll0 xs = true := by
  induction xs with
  | nil => intro _; rfl
  | cons x xs ih =>
    intro h
    simp only [PyData.canLayAll0, Bool.and_eq_true]
    exact ⟨h x (by simp), ih fun y hy => h y (by simp [hy])⟩
theorem shal_lay : ∀ (n : Nat) (d : D), shal n d = true → (toPy d).canLay0 = true ∧ (toPy d).depth ≤ n
  | n, .non, _ => by simp [toPy, PyData.canLay0, PyData.depth]
  | n, .bl _, _ => by simp [toPy, PyData.canLay0, PyData.depth]
  | n, .int _, _ => by simp [toPy, PyData.canLay0, PyData.depth]
  | n, .str s, h => by
    have : PyData.strOk s = true := by cases n <;> simpa [shal] using h
    simp [toPy, PyData.canLay0, PyData.depth, this]
  | n + 1, .tup xs, h => by
    have h' : ∀ x ∈ xs, shal n x = true := by simpa [shal] using h
    have k : ∀ y ∈ toPyL xs, y.canLay0 = true ∧ y.depth ≤ n := fun y hy => by
      rw [toPyL_map] at hy
      obtain ⟨x, hx, rfl⟩ := List.mem_map.mp hy
      exact shal_lay n x (h' x hx)
    exact ⟨canLayAll fun y hy => (k y hy).1, by
      simp only [toPy, PyData.depth]
      have := depthAll_le fun y hy => (k y hy).2
      omega⟩
  | n + 1, .lst xs, h => by
    have h' : ∀ x ∈ xs, shal n x = true := by simpa [shal] using h
    have k : ∀ y ∈ toPyL xs, y.canLay0 = true ∧ y.depth ≤ n := fun y hy => by
      rw [toPyL_map] at hy
      obtain ⟨x, hx, rfl⟩ := List.mem_map.mp hy
      exact shal_lay n x (h' x hx)
    exact ⟨canLayAll fun y hy => (k y hy).1, by
      simp only [toPy, PyData.depth]
      have := depthAll_le fun y hy => (k y hy).2
      omega⟩
  | 0, .tup xs, h => by simp [shal] at h
  | 0, .lst xs, h => by simp [shal] at h
  | 0, .fro _, h => by simp [shal] at h
  | 0, .obj _ _, h => by simp [shal] at h
  | 0, .exn _ _, h => by simp [shal] at h
  | 0, .ref _, h => by simp [shal] at h
  | n + 1, .fro _, h => by simp [shal] at h
  | n + 1, .obj _ _, h => by simp [shal] at h
  | n + 1, .exn _ _, h => by simp [shal] at h
  | n + 1, .ref _, h => by simp [shal] at h
theorem shal_shaped {d : D} (h : shal 20 d = true) : SeqAt.shaped (toPy d) = true := by
  obtain ⟨h1, h2⟩ := shal_lay 20 d h
  unfold SeqAt.shaped
  rw [h1, decide_eq_true (by omega)]
  rfl
mutual
theorem deq_py : ∀ (n m : Nat) (a b : D), shal n a = true → shal m b = true → PyData.eqv (toPy a) (toPy b) = deq a b
  | n, m, a, b, ha, hb => by
    cases a <;> cases b <;> first
      | (simp only [toPy, deq, PyData.eqv]; done)
      | (cases n <;> simp [shal] at ha; done)
      | (cases m <;> simp [shal] at hb; done)
      | skip
    all_goals
      rename_i xs ys
      cases n with
      | zero => simp [shal] at ha
      | succ n =>
        cases m with
        | zero => simp [shal] at hb
        | succ m =>
          simp only [toPy, deq, PyData.eqv]
          exact deqL_py n m xs ys (by simpa [shal] using ha) (by simpa [shal] using hb)
theorem deqL_py : ∀ (n m : Nat) (a b : List D), (∀ x ∈ a, shal n x = true) → (∀ x ∈ b, shal m x = true) → PyData.eqvAll (toPyL a) (toPyL b) = deqL a b
  | n, m, [], [], _, _ => rfl
  | n, m, [], _ :: _, _, _ => rfl
  | n, m, _ :: _, [], _, _ => rfl
  | n, m, x :: xs, y :: ys, ha, hb => by
    simp only [toPyL, PyData.eqvAll, deqL]
    rw [deq_py n m x y (ha x (by simp)) (hb y (by simp)), deqL_py n m xs ys (fun z hz => ha z (by simp [hz])) (fun z hz => hb z (by simp [hz]))]
end
mutual
theorem rep_dp {Γ : Gm} {α : List Addr} {G H : Hp} (s : Sub G H) : ∀ (n : Nat) (d : D) (v : V), shal n d = true → Rep Γ α G d v → Dp Γ.K H v (toPy d)
  | n, .non, v, _, r => by simp only [Rep] at r; subst r; exact .non
  | n, .bl b, v, _, r => by simp only [Rep] at r; subst r; exact .bl b
  | n, .int b, v, _, r => by simp only [Rep] at r; subst r; exact .int b
  | n, .str b, v, _, r => by simp only [Rep] at r; subst r; exact .str b
  | n + 1, .tup xs, v, h, r => by
    unfold Rep at r
    obtain ⟨a, vs, rfl, q, r⟩ := r
    exact .tup (.inl (.inl (s _ _ q))) (repL_dp s n xs vs (by simpa [shal] using h) r)
  | n + 1, .lst xs, v, h, r => by
    unfold Rep at r
    obtain ⟨a, vs, rfl, q, r⟩ := r
    exact .lst (.inl (.inl (s _ _ q))) (repL_dp s n xs vs (by simpa [shal] using h) r)
  | 0, .tup xs, v, h, _ => by simp [shal] at h
  | 0, .lst xs, v, h, _ => by simp [shal] at h
  | n, .fro _, v, h, _ => by cases n <;> simp [shal] at h
  | n, .obj _ _, v, h, _ => by cases n <;> simp [shal] at h
  | n, .exn _ _, v, h, _ => by cases n <;> simp [shal] at h
  | n, .ref _, v, h, _ => by cases n <;> simp [shal] at h
theorem repL_dp {Γ : Gm} {α : List Addr} {G H : Hp} (s : Sub G H) : ∀ (n : Nat) (ds : List D) (vs : List V), (∀ x ∈ ds, shal n x = true) → RepL Γ α G ds vs → DpAll Γ.K H vs (toPyL ds)
  | n, [], vs, _, r => by unfold RepL at r; subst r; exact .nil
  | n, d :: ds, vs, h, r => by
    unfold RepL at r
    obtain ⟨v, w, rfl, h1, h2⟩ := r
    exact .cons (rep_dp s n d v (h d (by simp)) h1) (repL_dp s n ds w (fun z hz => h z (by simp [hz])) h2)
end
def deref (S : Store) (d : D) : D := match d with
  | .ref k => match S[k]? with
    | some (.lst xs) => .lst xs
    | some (.frz xs) => .lst xs
    | _ => d
  | d => d
theorem deref_dp {Γ : Gm} {α : List Addr} {G H : Hp} {S : Store} (R : Rl Γ α G S H) {d : D} {v : V} (h : shal 20 (deref S d) = true) (r : Rep Γ α G d v) : Dp Γ.K H v (toPy (deref S d)) := by
  cases d with
  | ref k =>
    cases q : lstOf S (.ref k) with
    | none =>
      have : deref S (.ref k) = .ref k := by
        unfold lstOf at q
        unfold deref
        cases hc : S[k]? with
        | none => simp [hc]
        | some c => cases c <;> simp [hc] at q ⊢
      rw [this] at h
      simp [shal] at h
    | some xs =>
      have e : deref S (.ref k) = .lst xs := by
        unfold lstOf at q
        unfold deref
        cases hc : S[k]? with
        | none => simp [hc] at q
        | some c => cases c <;> simp [hc] at q <;> subst q <;> simp [hc]
      obtain ⟨a, vs, rfl, q1, r1⟩ := lstOf_at R r q
      rw [e] at h ⊢
      have h' : ∀ x ∈ xs, shal 19 x = true := by simpa [shal] using h
      exact .lst (.inl (.inl q1)) (repL_dp R.sub 19 xs vs h' r1)
  | _ => exact rep_dp R.sub 20 _ v h r
def opEq : D → D → Store → Res D := fun a b S => match a, b with
  | .int i, .int j => .ok (.bl (i == j)) S
  | .str i, .str j => .ok (.bl (i == j)) S
  | .bl i, .bl j => .ok (.bl (i == j)) S
  | a, b => if shal 20 (deref S a) && shal 20 (deref S b) then .ok (.bl (deq (deref S a) (deref S b))) S else .no
def opNe : D → D → Store → Res D := fun a b S => match a, b with
  | .int i, .int j => .ok (.bl (!(i == j))) S
  | .str i, .str j => .ok (.bl (!(i == j))) S
  | .bl i, .bl j => .ok (.bl (!(i == j))) S
  | a, b => if shal 20 (deref S a) && shal 20 (deref S b) then .ok (.bl (!deq (deref S a) (deref S b))) S else .no
theorem eqQ {k : Nat} (hr : Room k X.A) : QR X cl E (compareOp .Eq) opEq := by
  refine ⟨_, OpR.or op_eq (op_eqD hr.units), fun a b S α G H x y Q hR ra rb h => ?_⟩
  have deep : (if shal 20 (deref S a) && shal 20 (deref S b) then Res.ok (.bl (deq (deref S a) (deref S b))) S else .no) = opEq a b S → rEqD X.K x y H Q := fun e => by
    rw [← e] at h
    split at h
    · rename_i hs
      rw [Bool.and_eq_true] at hs
      refine ⟨_, _, deref_dp (Γ := ⟨X.K, cl⟩) hR hs.1 ra, deref_dp (Γ := ⟨X.K, cl⟩) hR hs.2 rb, shal_shaped hs.1, shal_shaped hs.2, ?_⟩
      rw [deq_py 20 20 _ _ hs.1 hs.2]
      exact post_ok h hR (by simp [Rep])
    · exact h.elim
  cases a <;> cases b <;> first
    | exact .inr (deep rfl)
    | skip
  all_goals
    simp only [Rep] at ra rb
    subst ra rb
    refine .inl ⟨rfl, ?_⟩
    simp only [opEq] at h
    first | rw [dec_int] | rw [dec_bl] | rw [dec_str]
    exact post_ok h hR (by simp [Rep])
theorem neQ {k : Nat} (hr : Room k X.A) : QR X cl E (compareOp .NotEq) opNe := by
  refine ⟨_, OpR.or op_ne (op_neD hr.units), fun a b S α G H x y Q hR ra rb h => ?_⟩
  have deep : (if shal 20 (deref S a) && shal 20 (deref S b) then Res.ok (.bl (!deq (deref S a) (deref S b))) S else .no) = opNe a b S → rNeD X.K x y H Q := fun e => by
    rw [← e] at h
    split at h
    · rename_i hs
      rw [Bool.and_eq_true] at hs
      refine ⟨_, _, deref_dp (Γ := ⟨X.K, cl⟩) hR hs.1 ra, deref_dp (Γ := ⟨X.K, cl⟩) hR hs.2 rb, shal_shaped hs.1, shal_shaped hs.2, ?_⟩
      rw [deq_py 20 20 _ _ hs.1 hs.2]
      exact post_ok h hR (by simp [Rep])
    · exact h.elim
  cases a <;> cases b <;> first
    | exact .inr (deep rfl)
    | skip
  all_goals
    simp only [Rep] at ra rb
    subst ra rb
    refine .inl ⟨rfl, ?_⟩
    simp only [opNe] at h
    first | rw [dec_int] | rw [dec_bl] | rw [dec_str]
    exact post_ok h hR (by simp [Rep])
end
end Q
namespace Q
open PySem L2
section
variable {X : Cx} {cl : Nat → Addr} {E : XK} {a b c e : Expr} {ma mb mc m : ME} {mt mu : MT} {pos : Pos}
def truth (S : Store) : D → Option Bool
  | .non => some false
  | .bl b => some b
  | .int i => some (i != 0)
  | .tup xs => some (!xs.isEmpty)
  | .str s => if s.length ≤ 100000 then some ((s.length : Int) != 0) else none
  | .obj _ _ => none
  | .exn _ _ => none
  | d => (rdL S d).map fun xs => !xs.isEmpty
def oRes {β : Type} (o : Option β) (S : Store) : Res β := match o with
  | some b => .ok b S
  | none => .no
@[simp] theorem oRes_some {β : Type} (b : β) (S : Store) : oRes (some b) S = .ok b S := rfl
@[simp] theorem oRes_none {β : Type} (S : Store) : oRes (none : Option β) S = .no := rfl
def mTest (m : ME) : MT := fun ρ S => (m ρ S).bind fun d S1 => oRes (truth S1 d) S1
theorem isEmpty_rep {Γ : Gm} {α : List Addr} {G : Hp} {xs : List D} {vs : List V} (r : RepL Γ α G xs vs) : xs.isEmpty = vs.isEmpty := by
  have := r.length
  cases xs <;> cases vs <;> simp_all
theorem truth_at {Γ : Gm} {α : List Addr} {G H : Hp} {S : Store} (R : Rl Γ α G S H) {d : D} {v : V} {k : Bool} (r : Rep Γ α G d v) (h : truth S d = some k) : TruV Γ.K v H k := by
  have lists : (rdL S d).map (fun xs => !xs.isEmpty) = some k → TruV Γ.K v H k := fun h => by
    cases q : rdL S d with
    | none => simp [q] at h
    | some xs =>
      simp only [q, Option.map_some, Option.some.injEq] at h
      obtain ⟨p, vs, rfl, q1, r1⟩ := rdL_at R r q
      exact .inl ⟨vs, q1, by rw [← isEmpty_rep r1]; exact h.symm⟩
  cases d with
  | non => simp only [Rep] at r; subst r; simp only [truth, Option.some.injEq] at h; exact h.symm
  | bl b => simp only [Rep] at r; subst r; simp only [truth, Option.some.injEq] at h; exact h.symm
  | int i => simp only [Rep] at r; subst r; simp only [truth, Option.some.injEq] at h; exact h.symm
  | str i =>
    simp only [Rep] at r
    subst r
    simp only [truth] at h
    split at h
    · rename_i hs
      exact ⟨sz hs, (Option.some.inj h).symm⟩
    · cases h
  | tup xs =>
    obtain ⟨p, vs, rfl, q1, r1⟩ := tup_at R r
    simp only [truth, Option.some.injEq] at h
    exact .inr (.inl ⟨vs, q1, by rw [← isEmpty_rep r1]; exact h.symm⟩)
  | obj _ _ => simp [truth] at h
  | exn _ _ => simp [truth] at h
  | lst xs => exact lists h
  | fro xs => exact lists h
  | ref k => exact lists h
theorem q_test (h : QE X cl E e m) (he : ∀ whole, isTrue e X.env whole = (do let v ← whole; standAt e.pos; holding [v] (truthy v)) := by intro _; rfl) : QT X cl E e (mTest m) := by
  obtain ⟨t, h1, h2⟩ := h.ex
  refine ⟨_, pt_truth h1 he, fun ρ S σ α G H Q hρ hR hp => h2 ρ S σ α G H _ hρ hR (post_bind hp fun d S1 α1 G1 H1 v _ e1 R1 r1 hp1 => ?_)⟩
  cases q : truth S1 d with
  | none => simp [q, Post] at hp1
  | some k =>
    simp only [q, oRes_some] at hp1
    exact ⟨k, truth_at R1 r1 q, post_ok hp1 R1 rfl⟩
def mTB (m : ME) : MT := fun ρ S => (m ρ S).bind fun d S1 => match d with
  | .bl b => .ok b S1
  | _ => .no
theorem snd_tb {Γ : Gm} {t : TE} (h : SndE Γ E t m) : SndT Γ E (tTest t) (mTB m) := fun ρ S σ α G H Q hρ hR hp => h ρ S σ α G H _ hρ hR (post_bind hp fun d S1 α1 G1 H1 v _ e1 R1 r1 hp1 => by
    cases d <;> first
      | (simp only [Post] at hp1; done)
      | skip
    simp only [Rep] at r1
    exact ⟨_, r1, post_ok hp1 R1 rfl⟩)
theorem q_tcmp {op : CmpOp} {f : D → D → Store → Res D} (ho : QR X cl E (compareOp op) f) (ha : QE X cl E a ma) (hb : QE X cl E b mb) (hm : behindInMarks op b = false := by first | rfl | exact nomark _) : QT X cl E (.Compare a [op] [b] pos) (mTB (mOp f ma mb)) := by
  obtain ⟨r, h1, h2⟩ := ho.ex
  obtain ⟨ta, a1, a2⟩ := ha.ex
  obtain ⟨tb, b1, b2⟩ := hb.ex
  exact ⟨_, pt_cmpR h1 a1 b1 hm, snd_tb (snd_op h2 a2 b2)⟩
def mNotT (m : MT) : MT := fun ρ S => (m ρ S).bind fun b S1 => .ok (!b) S1
def mAndT (m n : MT) : MT := fun ρ S => (m ρ S).bind fun b S1 => match b with
  | true => n ρ S1
  | false => .ok false S1
def mOrT (m n : MT) : MT := fun ρ S => (m ρ S).bind fun b S1 => match b with
  | true => .ok true S1
  | false => n ρ S1
theorem snd_notT {Γ : Gm} {t : TT} (h : SndT Γ E t mt) : SndT Γ E (tNot t) (mNotT mt) := fun ρ S σ α G H Q hρ hR hp => h ρ S σ α G H _ hρ hR (post_bind hp fun b S1 α1 G1 H1 v _ e1 R1 r1 hp1 => by
  have r1 : b = v := r1
  subst r1
  exact post_ok hp1 R1 rfl)
theorem snd_andT {Γ : Gm} {t u : TT} (h : SndT Γ E t mt) (k : SndT Γ E u mu) : SndT Γ E (tAnd t u) (mAndT mt mu) := fun ρ S σ α G H Q hρ hR hp => h ρ S σ α G H _ hρ hR (post_bind hp fun b S1 α1 G1 H1 v _ e1 R1 r1 hp1 => by
  have r1 : b = v := r1
  subst r1
  cases b with
  | true => exact iteT (k ρ S1 σ α1 G1 H1 Q (hρ.mono e1) R1 hp1)
  | false => exact iteF (post_ok hp1 R1 rfl))
theorem snd_orT {Γ : Gm} {t u : TT} (h : SndT Γ E t mt) (k : SndT Γ E u mu) : SndT Γ E (tOr t u) (mOrT mt mu) := fun ρ S σ α G H Q hρ hR hp => h ρ S σ α G H _ hρ hR (post_bind hp fun b S1 α1 G1 H1 v _ e1 R1 r1 hp1 => by
  have r1 : b = v := r1
  subst r1
  cases b with
  | true => exact iteT (post_ok hp1 R1 rfl)
  | false => exact iteF (k ρ S1 σ α1 G1 H1 Q (hρ.mono e1) R1 hp1))
theorem q_not (h : QT X cl E a mt) : QT X cl E (.UnaryOp .Not a pos) (mNotT mt) := by
  obtain ⟨t, h1, h2⟩ := h.ex
  exact ⟨_, pt_not h1, snd_notT h2⟩
theorem q_w (h : QW X cl E e mt) : QT X cl E e mt := by
  obtain ⟨t, h1, h2⟩ := h.ex
  exact ⟨_, h1.pt, h2⟩
theorem q_and1 (h : QT X cl E a mt) : QW X cl E (.BoolOp .And [a] pos) mt := by
  obtain ⟨t, h1, h2⟩ := h.ex
  exact ⟨_, pw_and1 h1, h2⟩
theorem q_or1 (h : QT X cl E a mt) : QW X cl E (.BoolOp .Or [a] pos) mt := by
  obtain ⟨t, h1, h2⟩ := h.ex
  exact ⟨_, pw_or1 h1, h2⟩
theorem q_and {rest : List Expr} (h : QT X cl E a mt) (k : QW X cl E (.BoolOp .And (b :: rest) pos) mu) : QW X cl E (.BoolOp .And (a :: b :: rest) pos) (mAndT mt mu) := by
  obtain ⟨t, h1, h2⟩ := h.ex
  obtain ⟨u, k1, k2⟩ := k.ex
  exact ⟨_, pw_and h1 k1, snd_andT h2 k2⟩
theorem q_or {rest : List Expr} (h : QT X cl E a mt) (k : QW X cl E (.BoolOp .Or (b :: rest) pos) mu) : QW X cl E (.BoolOp .Or (a :: b :: rest) pos) (mOrT mt mu) := by
  obtain ⟨t, h1, h2⟩ := h.ex
  obtain ⟨u, k1, k2⟩ := k.ex
  exact ⟨_, pw_or h1 k1, snd_orT h2 k2⟩
def mAndV (m n : ME) : ME := fun ρ S => (m ρ S).bind fun d S1 => (oRes (truth S1 d) S1).bind fun b S2 => match b with
  | true => n ρ S2
  | false => .ok d S2
def mOrV (m n : ME) : ME := fun ρ S => (m ρ S).bind fun d S1 => (oRes (truth S1 d) S1).bind fun b S2 => match b with
  | true => .ok d S2
  | false => n ρ S2
def mNotV (m : ME) : ME := fun ρ S => (m ρ S).bind fun d S1 => (oRes (truth S1 d) S1).bind fun b S2 => .ok (.bl (!b)) S2
theorem q_oneV {op : BoolOp} (h : QE X cl E a m) : QE X cl E (.BoolOp op [a] pos) m := by
  obtain ⟨t, h1, h2⟩ := h.ex
  exact ⟨_, pe_one h1, h2⟩
theorem q_andV {rest : List Expr} (h : QE X cl E a ma) (k : QE X cl E (.BoolOp .And (b :: rest) pos) mb) : QE X cl E (.BoolOp .And (a :: b :: rest) pos) (mAndV ma mb) := by
  obtain ⟨t, h1, h2⟩ := h.ex
  obtain ⟨u, k1, k2⟩ := k.ex
  refine ⟨_, pe_andT h1 k1, fun ρ S σ α G H Q hρ hR hp => h2 ρ S σ α G H _ hρ hR (post_bind hp fun d S1 α1 G1 H1 v _ e1 R1 r1 hp1 => ?_)⟩
  cases q : truth S1 d with
  | none => simp [q, Post] at hp1
  | some k =>
    simp only [q, oRes_some, bind_ok] at hp1
    refine ⟨k, truth_at R1 r1 q, ?_⟩
    cases k with
    | true => exact iteT (k2 ρ S1 σ α1 G1 H1 Q (hρ.mono e1) R1 hp1)
    | false => exact iteF (post_ok hp1 R1 r1)
theorem q_orV {rest : List Expr} (h : QE X cl E a ma) (k : QE X cl E (.BoolOp .Or (b :: rest) pos) mb) : QE X cl E (.BoolOp .Or (a :: b :: rest) pos) (mOrV ma mb) := by
  obtain ⟨t, h1, h2⟩ := h.ex
  obtain ⟨u, k1, k2⟩ := k.ex
  refine ⟨_, pe_orT h1 k1, fun ρ S σ α G H Q hρ hR hp => h2 ρ S σ α G H _ hρ hR (post_bind hp fun d S1 α1 G1 H1 v _ e1 R1 r1 hp1 => ?_)⟩
  cases q : truth S1 d with
  | none => simp [q, Post] at hp1
  | some k =>
    simp only [q, oRes_some, bind_ok] at hp1
    refine ⟨k, truth_at R1 r1 q, ?_⟩
    cases k with
    | true => exact iteT (post_ok hp1 R1 r1)
    | false => exact iteF (k2 ρ S1 σ α1 G1 H1 Q (hρ.mono e1) R1 hp1)
theorem q_notV (h : QE X cl E a ma) : QE X cl E (.UnaryOp .Not a pos) (mNotV ma) := by
  obtain ⟨t, h1, h2⟩ := h.ex
  refine ⟨_, pe_notT h1, fun ρ S σ α G H Q hρ hR hp => h2 ρ S σ α G H _ hρ hR (post_bind hp fun d S1 α1 G1 H1 v _ e1 R1 r1 hp1 => ?_)⟩
  cases q : truth S1 d with
  | none => simp [q, Post] at hp1
  | some k =>
    simp only [q, oRes_some, bind_ok] at hp1
    exact ⟨k, truth_at R1 r1 q, post_ok (x := V.bl (!k)) hp1 R1 (by simp [Rep])⟩
def mIfE (t : MT) (m n : ME) : ME := fun ρ S => (t ρ S).bind fun b S1 => match b with
  | true => m ρ S1
  | false => n ρ S1
theorem q_ifE {c : Expr} (hc : QT X cl E c mt) (ha : QE X cl E a ma) (hb : QE X cl E b mb) : QE X cl E (.IfExp c a b pos) (mIfE mt ma mb) := by
  obtain ⟨t, h1, h2⟩ := hc.ex
  obtain ⟨u, k1, k2⟩ := ha.ex
  obtain ⟨w, l1, l2⟩ := hb.ex
  refine ⟨_, pe_ifExp h1 k1 l1, fun ρ S σ α G H Q hρ hR hp => h2 ρ S σ α G H _ hρ hR (post_bind hp fun b S1 α1 G1 H1 v _ e1 R1 r1 hp1 => ?_)⟩
  have r1 : b = v := r1
  subst r1
  cases b with
  | true => exact iteT (k2 ρ S1 σ α1 G1 H1 Q (hρ.mono e1) R1 hp1)
  | false => exact iteF (l2 ρ S1 σ α1 G1 H1 Q (hρ.mono e1) R1 hp1)
def isNon : D → Bool
  | .non => true
  | _ => false
def mIsN (m : ME) : ME := fun ρ S => (m ρ S).bind fun d S1 => .ok (.bl (isNon d)) S1
def mNotN (m : ME) : ME := fun ρ S => (m ρ S).bind fun d S1 => .ok (.bl (!isNon d)) S1
theorem isNon_at {Γ : Gm} {α : List Addr} {G : Hp} {d : D} {v : V} (r : Rep Γ α G d v) : decide (v = .non) = isNon d := by
  cases d <;> (unfold Rep at r; first
    | (subst r; simp [isNon]; done)
    | (obtain ⟨a, vs, rfl, _⟩ := r; simp [isNon]; done)
    | (obtain ⟨a, rfl, _⟩ := r; simp [isNon]; done))
theorem snd_isN {Γ : Gm} {t : TE} (h : SndE Γ E t m) : SndE Γ E (tIsN t) (mIsN m) := fun ρ S σ α G H Q hρ hR hp => h ρ S σ α G H _ hρ hR (post_bind hp fun d S1 α1 G1 H1 v _ e1 R1 r1 hp1 => by
  rw [isNon_at r1]
  exact post_ok hp1 R1 (by simp [Rep]))
theorem snd_notN {Γ : Gm} {t : TE} (h : SndE Γ E t m) : SndE Γ E (tNotN t) (mNotN m) := fun ρ S σ α G H Q hρ hR hp => h ρ S σ α G H _ hρ hR (post_bind hp fun d S1 α1 G1 H1 v _ e1 R1 r1 hp1 => by
  rw [isNon_at r1]
  exact post_ok hp1 R1 (by simp [Rep]))
theorem q_isN {j pos'} (h : QE X cl E a m) : QE X cl E (.Compare a [.Is] [.Constant .none j pos'] pos) (mIsN m) := by
  obtain ⟨t, h1, h2⟩ := h.ex
  exact ⟨_, pe_cmp (pc_isN h1), snd_isN h2⟩
theorem snd_tB {Γ : Gm} {t : TE} (h : SndE Γ E t m) : SndT Γ E (tB t) (mTB m) := snd_tb h
theorem q_tisN {j pos'} (h : QE X cl E a m) : QT X cl E (.Compare a [.Is] [.Constant .none j pos'] pos) (mTB (mIsN m)) := by
  obtain ⟨t, h1, h2⟩ := h.ex
  exact ⟨_, pt_cmp (pc_isN h1), snd_tB (snd_isN h2)⟩
theorem q_tnotN {j pos'} (h : QE X cl E a m) : QT X cl E (.Compare a [.IsNot] [.Constant .none j pos'] pos) (mTB (mNotN m)) := by
  obtain ⟨t, h1, h2⟩ := h.ex
  exact ⟨_, pt_cmp (pc_notN h1), snd_tB (snd_notN h2)⟩
def mNil : MA := fun _ S => .ok [] S
def mCons (m : ME) (n : MA) : MA := fun ρ S => (m ρ S).bind fun d S1 => (n ρ S1).bind fun ds S2 => .ok (d :: ds) S2
theorem snd_nil {Γ : Gm} : SndA Γ E tNil mNil := fun ρ S σ α G H Q hρ hR hp => post_ok (x := ([] : List V)) hp hR (by simp [RepL])
theorem snd_cons {Γ : Gm} {t : TE} {u : TA} {n : MA} (h : SndE Γ E t m) (k : SndA Γ E u n) : SndA Γ E (tCons t u) (mCons m n) := fun ρ S σ α G H Q hρ hR hp =>
  h ρ S σ α G H _ hρ hR (post_bind hp fun d S1 α1 G1 H1 v _ e1 R1 r1 hp1 => k ρ S1 σ α1 G1 H1 _ (hρ.mono e1) R1 (post_bind hp1 fun ds S2 α2 G2 H2 vs _ e2 R2 r2 hp2 =>
    post_ok hp2 R2 (by show RepL _ _ _ (d :: ds) (v :: vs); unfold RepL; exact ⟨v, vs, rfl, Rep.mono e2.pre e2.sub _ _ r1, r2⟩)))
theorem q_nil : QA X cl E [] mNil := ⟨_, pa_nil, snd_nil⟩
theorem q_cons {es : List Expr} {n : MA} (h : QE X cl E e m) (k : QA X cl E es n) (hs : starEach (e :: es) X.env = (false, eval e X.env) :: starEach es X.env := by rfl) : QA X cl E (e :: es) (mCons m n) := by
  obtain ⟨t, h1, h2⟩ := h.ex
  obtain ⟨u, k1, k2⟩ := k.ex
  exact ⟨_, pa_cons h1 k1 hs, snd_cons h2 k2⟩
def mTup (n : MA) : ME := fun ρ S => (n ρ S).bind fun ds S1 => if ds.length ≤ 100000 then .ok (.tup ds) S1 else .no
def mLst (n : MA) : ME := fun ρ S => (n ρ S).bind fun ds S1 => if ds.length ≤ 100000 then .ok (.lst ds) S1 else .no
def mCell (n : MA) : ME := fun ρ S => (n ρ S).bind fun ds S1 => if ds.length ≤ 100000 then .ok (.ref S1.length) (S1 ++ [.lst ds]) else .no
theorem q_tup {es : List Expr} {n : MA} {x1} (h : QA X cl E es n) : QE X cl E (.Tuple es x1 pos) (mTup n) := by
  obtain ⟨t, h1, h2⟩ := h.ex
  refine ⟨_, pe_tup h1, fun ρ S σ α G H Q hρ hR hp => h2 ρ S σ α G H _ hρ hR (post_bind hp fun ds S1 α1 G1 H1 vs _ e1 R1 r1 hp1 => ?_)⟩
  split at hp1
  · rename_i hs
    exact ⟨by rw [← r1.length]; exact sz hs, fun p hz => post_tup R1 r1 hp1 hz⟩
  · exact hp1.elim
theorem q_lst {es : List Expr} {n : MA} (h : QA X cl E es n) : QE X cl E (.List es pos) (mLst n) := by
  obtain ⟨t, h1, h2⟩ := h.ex
  refine ⟨_, pe_lst h1, fun ρ S σ α G H Q hρ hR hp => h2 ρ S σ α G H _ hρ hR (post_bind hp fun ds S1 α1 G1 H1 vs _ e1 R1 r1 hp1 => ?_)⟩
  split at hp1
  · rename_i hs
    exact ⟨by rw [← r1.length]; exact sz hs, fun p hz => post_lst R1 r1 hp1 hz⟩
  · exact hp1.elim
theorem q_cell {es : List Expr} {n : MA} (h : QA X cl E es n) : QE X cl E (.List es pos) (mCell n) := by
  obtain ⟨t, h1, h2⟩ := h.ex
  refine ⟨_, pe_lst h1, fun ρ S σ α G H Q hρ hR hp => h2 ρ S σ α G H _ hρ hR (post_bind hp fun ds S1 α1 G1 H1 vs _ e1 R1 r1 hp1 => ?_)⟩
  split at hp1
  · rename_i hs
    exact ⟨by rw [← r1.length]; exact sz hs, fun p hz => post_cell R1 r1 hp1 hz⟩
  · exact hp1.elim
def fz (d : D) (S : Store) : Res D := match d with
  | .ref k => match S[k]? with
    | some (.lst xs) => .ok (.lst xs) (S.set k (.frz xs))
    | some (.frz xs) => .ok (.lst xs) S
    | _ => .no
  | d => .ok d S
def mFrz (m : ME) : ME := fun ρ S => (m ρ S).bind fz
theorem fz_at {Γ : Gm} {α : List Addr} {G H : Hp} {S : Store} {d : D} {v : V} {Q : VK} (R : Rl Γ α G S H) (r : Rep Γ α G d v) (hp : Post Γ (Rep Γ) α G H (fz d S) Q E) : Q v H := by
  cases d with
  | ref k =>
    simp only [fz] at hp
    unfold Rep at r
    obtain ⟨a, rfl, ha⟩ := r
    cases hc : S[k]? with
    | none => simp [hc, Post] at hp
    | some c =>
      cases c with
      | lst xs =>
        simp only [hc] at hp
        obtain ⟨vs, r1, R1, e1⟩ := R.freeze hc ha
        exact hp _ _ _ _ e1 R1 (rep_lst upd_same (RepL.mono e1.pre e1.sub _ _ r1))
      | frz xs =>
        simp only [hc] at hp
        obtain ⟨vs, h1, h2⟩ := (R.ok k _ a hc ha).frz
        exact post_ok hp R (rep_lst h1 h2)
      | _ => simp [hc, Post] at hp
  | _ => exact post_ok hp R r
theorem snd_frz {Γ : Gm} {t : TE} (h : SndE Γ E t m) : SndE Γ E t (mFrz m) := fun ρ S σ α G H Q hρ hR hp => h ρ S σ α G H _ hρ hR (post_bind hp fun d S1 α1 G1 H1 v _ e1 R1 r1 hp1 => fz_at R1 r1 hp1)
theorem q_frz (h : QE X cl E e m) : QE X cl E e (mFrz m) := by
  obtain ⟨t, h1, h2⟩ := h.ex
  exact ⟨t, h1, snd_frz h2⟩
def opIx : D → D → Store → Res D := fun a b S => match b with
  | .int i => match a with
    | .tup xs => oRes (atI xs i) S
    | .str s => if s.length ≤ 100000 then match atI s.cps.toList i with
        | some c => .ok (.str ⟨#[c]⟩) S
        | none => .no
      else .no
    | a => match rdL S a with
      | some xs => oRes (atI xs i) S
      | none => .no
  | _ => .no
theorem atI_rep {Γ : Gm} {α : List Addr} {G : Hp} {xs : List D} {vs : List V} {i : Int} {d : D} (r : RepL Γ α G xs vs) (h : atI xs i = some d) : ∃ v, atI vs i = some v ∧ Rep Γ α G d v := by
  unfold atI at h ⊢
  rw [r.length] at h
  cases q : ixN vs.length i with
  | none => simp [q] at h
  | some j =>
    simp only [q, Option.bind_some] at h ⊢
    exact r.get h
structure QIx (X : Cx) (cl : Nat → Addr) (E : XK) (f : D → D → Store → Res D) : Prop where
  ex : ∃ r, IxR X r ∧ SndR ⟨X.K, cl⟩ E r f
theorem ixQ : QIx X cl E opIx := by
  refine ⟨_, ix_seq, fun a b S α G H x y Q hR ra rb h => ?_⟩
  cases b <;> try exact h.elim
  rename_i i
  simp only [opIx] at h
  simp only [Rep] at rb
  have lists : ∀ o, rdL S a = o → Post ⟨X.K, cl⟩ (Rep ⟨X.K, cl⟩) α G H (match o with
      | some xs => oRes (atI xs i) S
      | none => .no) Q E → rIx X.K x y H Q := fun o q h => by
    cases o with
    | none => exact h.elim
    | some xs =>
      obtain ⟨p, vs, rfl, q1, r1⟩ := rdL_at hR ra q
      cases z : atI xs i with
      | none => simp [z, Post] at h
      | some d =>
        simp only [z, oRes_some] at h
        obtain ⟨v, e, rv⟩ := atI_rep r1 z
        exact .inl ⟨p, vs, i, v, rfl, rb, q1, e, post_ok h hR rv⟩
  cases a with
  | tup xs =>
    obtain ⟨p, vs, rfl, q1, r1⟩ := tup_at hR ra
    simp only at h
    cases z : atI xs i with
    | none => simp [z, Post] at h
    | some d =>
      simp only [z, oRes_some] at h
      obtain ⟨v, e, rv⟩ := atI_rep r1 z
      exact .inr (.inl ⟨p, vs, i, v, rfl, rb, q1, e, post_ok h hR rv⟩)
  | str s =>
    simp only at h
    simp only [Rep] at ra
    split at h
    · rename_i hs
      cases z : atI s.cps.toList i with
      | none => simp [z, Post] at h
      | some c =>
        simp only [z] at h
        exact .inr (.inr ⟨s, i, c, ra, rb, sz hs, z, post_ok h hR (by simp [Rep])⟩)
    · exact h.elim
  | _ => exact lists _ rfl h
theorem q_ix (ha : QE X cl E a ma) (hb : QE X cl E b mb) (hs : PlainIx b := by exact fun _ _ => rfl) : QE X cl E (.Subscript a b pos) (mOp opIx ma mb) := by
  obtain ⟨r, h1, h2⟩ := (ixQ (X := X) (cl := cl) (E := E)).ex
  obtain ⟨ta, a1, a2⟩ := ha.ex
  obtain ⟨tb, b1, b2⟩ := hb.ex
  exact ⟨_, pe_ix h1 a1 b1 hs, snd_op h2 a2 b2⟩
abbrev MO := Env → Store → Res (Option Int)
def RO : List Addr → Hp → Option Int → Option Int → Prop := fun _ _ a b => a = b
def SndO (Γ : Gm) (E : XK) (t : TO) (m : MO) : Prop := ∀ (ρ : Env) (S : Store) (σ : L2.St) (α : List Addr) (G H : Hp) (Q : Option Int → Hp → Prop), EnvR Γ α G ρ σ → Rl Γ α G S H → Post Γ RO α G H (m ρ S) Q E → t σ H Q
structure QO (X : Cx) (cl : Nat → Addr) (E : XK) (e : Option Expr) (m : MO) : Prop where
  ex : ∃ t, PO X e t ∧ SndO ⟨X.K, cl⟩ E t m
def mNoO : MO := fun _ S => .ok none S
def mSoO (m : ME) : MO := fun ρ S => (m ρ S).bind fun d S1 => match d with
  | .int i => .ok (some i) S1
  | _ => .no
theorem q_noO : QO X cl E none mNoO := ⟨_, po_none, fun ρ S σ α G H Q hρ hR hp => post_ok hp hR rfl⟩
theorem q_soO (h : QE X cl E e m) : QO X cl E (some e) (mSoO m) := by
  obtain ⟨t, h1, h2⟩ := h.ex
  refine ⟨_, po_some h1, fun ρ S σ α G H Q hρ hR hp => h2 ρ S σ α G H _ hρ hR (post_bind hp fun d S1 α1 G1 H1 v _ e1 R1 r1 hp1 => ?_)⟩
  cases d <;> try exact hp1.elim
  simp only [Rep] at r1
  exact ⟨_, r1, post_ok hp1 R1 rfl⟩
def cutD (xs : List D) (lo hi : Option Int) : List D := (xs.drop (HT.sIx xs.length 0 lo)).take (HT.sIx xs.length xs.length hi - HT.sIx xs.length 0 lo)
theorem cut_rep {Γ : Gm} {α : List Addr} {G : Hp} {xs : List D} {vs : List V} (r : RepL Γ α G xs vs) (lo hi : Option Int) : RepL Γ α G (cutD xs lo hi) (cutV vs lo hi) := by
  unfold cutD cutV
  rw [r.length]
  exact (r.drop _).take _
def opSl : D → Option Int → Option Int → Store → Res D := fun a lo hi S => match a with
  | .tup xs => .ok (.tup (cutD xs lo hi)) S
  | .str s => if s.length ≤ 100000 then .ok (.str (cutS s lo hi)) S else .no
  | a => match rdL S a with
    | some xs => .ok (.lst (cutD xs lo hi)) S
    | none => .no
def mSl (m : ME) (l h : MO) : ME := fun ρ S => (m ρ S).bind fun d S1 => (l ρ S1).bind fun lo S2 => (h ρ S2).bind fun hi S3 => opSl d lo hi S3
theorem cutD_whole {xs : List D} {lo hi : Option Int} (h : HT.sIx xs.length 0 lo = 0 ∧ HT.sIx xs.length xs.length hi = xs.length) : cutD xs lo hi = xs := by
  unfold cutD
  rw [h.1, h.2]
  simp
theorem snd_sl {Γ : Gm} : ∀ (d : D) (lo hi : Option Int) (S : Store) (α : List Addr) (G H : Hp) (x : V) (Q : VK), Rl Γ α G S H → Rep Γ α G d x → Post Γ (Rep Γ) α G H (opSl d lo hi S) Q E → (rSlL Γ.K x lo hi H Q ∨ rSlA Γ.K x lo hi H Q ∨ rSlS x lo hi H Q) := by
  intro d lo hi S α G H x Q hR ra h
  have lists : ∀ o, rdL S d = o → Post Γ (Rep Γ) α G H (match o with
      | some xs => Res.ok (.lst (cutD xs lo hi)) S
      | none => .no) Q E → rSlL Γ.K x lo hi H Q := fun o q h => by
    cases o with
    | none => exact h.elim
    | some xs =>
      obtain ⟨p, vs, rfl, q1, r1⟩ := rdL_at hR ra q
      exact ⟨p, vs, rfl, q1, fun z hz => post_lst hR (cut_rep r1 lo hi) h hz⟩
  cases d with
  | tup xs =>
    obtain ⟨p, vs, rfl, q1, r1⟩ := tup_at hR ra
    simp only [opSl] at h
    refine .inr (.inl ⟨p, vs, rfl, q1, fun w => ?_, fun _ z hz => post_tup hR (cut_rep r1 lo hi) h hz⟩)
    rw [← r1.length] at w
    rw [cutD_whole w] at h
    exact post_ok h hR ra
  | str s =>
    simp only [opSl] at h
    simp only [Rep] at ra
    split at h
    · rename_i hs
      exact .inr (.inr ⟨s, ra, sz hs, post_ok h hR (by simp [Rep])⟩)
    · exact h.elim
  | _ => exact .inl (lists _ rfl h)
theorem q_sl {lo hi : Option Expr} {l h : MO} {p2 : Pos} (ha : QE X cl E a ma) (hl : QO X cl E lo l) (hh : QO X cl E hi h) : QE X cl E (.Subscript a (.Slice lo hi none p2) pos) (mSl ma l h) := by
  obtain ⟨t, h1, h2⟩ := ha.ex
  obtain ⟨u, k1, k2⟩ := hl.ex
  obtain ⟨w, l1, l2⟩ := hh.ex
  refine ⟨_, pe_slice (sl_list.or (sl_tupA.or sl_str)) h1 k1 l1, fun ρ S σ α G H Q hρ hR hp => h2 ρ S σ α G H _ hρ hR (post_bind hp fun d S1 α1 G1 H1 v _ e1 R1 r1 hp1 => ?_)⟩
  refine k2 ρ S1 σ α1 G1 H1 _ (hρ.mono e1) R1 (post_bind hp1 fun o S2 α2 G2 H2 o' _ e2 R2 r2 hp2 => ?_)
  refine l2 ρ S2 σ α2 G2 H2 _ ((hρ.mono e1).mono e2) R2 (post_bind hp2 fun i S3 α3 G3 H3 i' _ e3 R3 r3 hp3 => ?_)
  have r2 : o = o' := r2
  have r3 : i = i' := r3
  subst r2 r3
  exact snd_sl d o i S3 α3 G3 H3 v Q R3 (Rep.mono e3.pre e3.sub _ _ (Rep.mono e2.pre e2.sub _ _ r1)) hp3
def mNeg (m : ME) : ME := fun ρ S => (m ρ S).bind fun d S1 => match d with
  | .int i => .ok (.int (-i)) S1
  | _ => .no
theorem q_neg (h : QE X cl E a m) : QE X cl E (.UnaryOp .USub a pos) (mNeg m) := by
  obtain ⟨t, h1, h2⟩ := h.ex
  refine ⟨_, pe_un un_neg h1, fun ρ S σ α G H Q hρ hR hp => h2 ρ S σ α G H _ hρ hR (post_bind hp fun d S1 α1 G1 H1 v _ e1 R1 r1 hp1 => ?_)⟩
  cases d <;> try exact hp1.elim
  simp only [Rep] at r1
  exact ⟨_, r1, post_ok hp1 R1 (by simp [Rep])⟩
end
end Q
namespace Q
open PySem L2
section
variable {X : Cx} {cl : Nat → Addr} {E : XK} {a b c e : Expr} {ma mb mc m : ME} {mt mu : MT} {pos : Pos}
def SndC (Γ : Gm) (E : XK) (r : List V → Hp → VK → Prop) (f : List D → Store → Res D) : Prop := ∀ (ds : List D) (S : Store) (α : List Addr) (G H : Hp) (vs : List V) (Q : VK), Rl Γ α G S H → RepL Γ α G ds vs → Post Γ (Rep Γ) α G H (f ds S) Q E → r vs H Q
structure QC (X : Cx) (cl : Nat → Addr) (E : XK) (v : Value) (f : List D → Store → Res D) : Prop where
  ex : ∃ r, CallR X v r ∧ SndC ⟨X.K, cl⟩ E r f
def mCall (f : List D → Store → Res D) (n : MA) : ME := fun ρ S => (n ρ S).bind f
theorem snd_cb {Γ : Gm} {r : List V → Hp → VK → Prop} {f : List D → Store → Res D} {n : MA} {t : TA} (hr : SndC Γ E r f) (h : SndA Γ E t n) : SndE Γ E (tCB r t) (mCall f n) := fun ρ S σ α G H Q hρ hR hp =>
  h ρ S σ α G H _ hρ hR (post_bind hp fun ds S1 α1 G1 H1 vs _ e1 R1 r1 hp1 => hr ds S1 α1 G1 H1 vs Q R1 r1 hp1)
theorem q_callB {x : Str} {p : Pos} {id : String} {es : List Expr} {n : MA} {f : List D → Store → Res D} (hc : QC X cl E (.builtin id) f) (hg : Gl X x) (hm : X.mg x = none) (hv : bootBuiltins x = some (.builtin id)) (ha : QA X cl E (e :: es) n) (hn : x ≠ "__name__" := by decide) (hdb : (x == ("__debug__" : Str)) = false := by decide)
    (he : starEach (e :: es) X.env = (false, eval e X.env) :: starEach es X.env := by rfl) (hpl : (backTo pos (starEach es X.env)).any (·.1) = false := by rfl) : QE X cl E (.Call (.Name x p) (e :: es) [] pos) (mCall f n) := by
  obtain ⟨r, h1, h2⟩ := hc.ex
  obtain ⟨t, k1, k2⟩ := ha.ex
  exact ⟨_, pe_callB h1 hg hm hv k1 hn hdb he hpl, snd_cb h2 k2⟩
theorem q_callTy {x : Str} {p : Pos} {T : String} {es : List Expr} {n : MA} {f : List D → Store → Res D} (hc : QC X cl E (.type T) f) (hg : Gl X x) (hm : X.mg x = none) (hv : bootBuiltins x = some (.type T)) (ha : QA X cl E (e :: es) n) (hn : x ≠ "__name__" := by decide) (hdb : (x == ("__debug__" : Str)) = false := by decide)
    (he : starEach (e :: es) X.env = (false, eval e X.env) :: starEach es X.env := by rfl) (hpl : (backTo pos (starEach es X.env)).any (·.1) = false := by rfl) : QE X cl E (.Call (.Name x p) (e :: es) [] pos) (mCall f n) := by
  obtain ⟨r, h1, h2⟩ := hc.ex
  obtain ⟨t, k1, k2⟩ := ha.ex
  exact ⟨_, pe_callTy h1 hg hm hv k1 hn hdb he hpl, snd_cb h2 k2⟩
theorem repL1 {Γ : Gm} {α : List Addr} {G : Hp} {d : D} {vs : List V} (r : RepL Γ α G [d] vs) : ∃ v, vs = [v] ∧ Rep Γ α G d v := by
  unfold RepL at r
  obtain ⟨v, w, rfl, h1, h2⟩ := r
  unfold RepL at h2
  subst h2
  exact ⟨v, rfl, h1⟩
theorem repL2 {Γ : Gm} {α : List Addr} {G : Hp} {d d' : D} {vs : List V} (r : RepL Γ α G [d, d'] vs) : ∃ v v', vs = [v, v'] ∧ Rep Γ α G d v ∧ Rep Γ α G d' v' := by
  unfold RepL at r
  obtain ⟨v, w, rfl, h1, h2⟩ := r
  obtain ⟨v', rfl, h3⟩ := repL1 h2
  exact ⟨v, v', rfl, h1, h3⟩
def un1 (g : D → Store → Res D) : List D → Store → Res D
  | [d], S => g d S
  | _, _ => .no
def un2 (g : D → D → Store → Res D) : List D → Store → Res D
  | [d, d'], S => g d d' S
  | _, _ => .no
theorem snd_un1 {Γ : Gm} {r : List V → Hp → VK → Prop} {g : D → Store → Res D} (h : ∀ d S α G H v Q, Rl Γ α G S H → Rep Γ α G d v → Post Γ (Rep Γ) α G H (g d S) Q E → r [v] H Q) : SndC Γ E r (un1 g) := fun ds S α G H vs Q hR rv hp => by
  cases ds with
  | nil => exact hp.elim
  | cons d ds =>
    cases ds with
    | nil =>
      obtain ⟨v, rfl, rv'⟩ := repL1 rv
      exact h d S α G H v Q hR rv' hp
    | cons _ _ => exact hp.elim
theorem snd_un2 {Γ : Gm} {r : List V → Hp → VK → Prop} {g : D → D → Store → Res D} (h : ∀ d d' S α G H v v' Q, Rl Γ α G S H → Rep Γ α G d v → Rep Γ α G d' v' → Post Γ (Rep Γ) α G H (g d d' S) Q E → r [v, v'] H Q) : SndC Γ E r (un2 g) := fun ds S α G H vs Q hR rv hp => by
  cases ds with
  | nil => exact hp.elim
  | cons d ds =>
    cases ds with
    | nil => exact hp.elim
    | cons d' ds =>
      cases ds with
      | cons _ _ => exact hp.elim
      | nil =>
        obtain ⟨v, v', rfl, r1, r2⟩ := repL2 rv
        exact h d d' S α G H v v' Q hR r1 r2 hp
def seqOf (S : Store) : D → Option (List D)
  | .tup xs => some xs
  | d => rdL S d
theorem seqOf_at {Γ : Gm} {α : List Addr} {G H : Hp} {S : Store} (R : Rl Γ α G S H) {d : D} {v : V} {xs : List D} (r : Rep Γ α G d v) (h : seqOf S d = some xs) : ∃ a vs, v = .ref a ∧ (SqL Γ.K H a vs ∨ SqT Γ.K H a vs) ∧ RepL Γ α G xs vs := by
  have go : rdL S d = some xs → ∃ a vs, v = .ref a ∧ (SqL Γ.K H a vs ∨ SqT Γ.K H a vs) ∧ RepL Γ α G xs vs := fun h => by
    obtain ⟨a, vs, e, q, r⟩ := rdL_at R r h
    exact ⟨a, vs, e, .inl q, r⟩
  cases d with
  | tup ys =>
    have e : ys = xs := Option.some.inj h
    subst e
    obtain ⟨a, vs, e, q, r⟩ := tup_at R r
    exact ⟨a, vs, e, .inr q, r⟩
  | _ => exact go h
def gLen : D → Store → Res D := fun d S => match d with
  | .str s => if s.length ≤ 100000 then .ok (.int s.length) S else .no
  | d => match seqOf S d with
    | some xs => .ok (.int xs.length) S
    | none => .no
def fLen := un1 gLen
theorem lenQ : QC X cl E (.builtin "len") fLen := by
  refine ⟨_, call_len, snd_un1 fun d S α G H v Q hR rv h => ?_⟩
  have seqs : ∀ o, seqOf S d = o → Post ⟨X.K, cl⟩ (Rep ⟨X.K, cl⟩) α G H (match o with
      | some xs => Res.ok (.int xs.length) S
      | none => .no) Q E → ∃ x n, [v] = [x] ∧ LenV X.K x H n ∧ Q (.int n) H := fun o q h => by
    cases o with
    | none => exact h.elim
    | some xs =>
      obtain ⟨p, ws, rfl, q1, r1⟩ := seqOf_at hR rv q
      refine ⟨.ref p, xs.length, rfl, ?_, post_ok h hR (by simp [Rep])⟩
      rcases q1 with q1 | q1
      · exact .inl ⟨ws, q1, r1.length⟩
      · exact .inr ⟨ws, q1, r1.length⟩
  cases d with
  | str s =>
    simp only [gLen] at h
    simp only [Rep] at rv
    split at h
    · rename_i hs
      exact ⟨v, s.length, rfl, by subst rv; exact ⟨sz hs, rfl⟩, post_ok h hR (by simp [Rep])⟩
    · exact h.elim
  | _ => exact seqs _ rfl h
def gAbs : D → Store → Res D := fun d S => match d with
  | .int i => .ok (.int (if i < 0 then -i else i)) S
  | _ => .no
def fAbs := un1 gAbs
theorem absQ : QC X cl E (.builtin "abs") fAbs := by
  refine ⟨_, call_abs, snd_un1 fun d S α G H v Q hR rv h => ?_⟩
  cases d <;> try exact h.elim
  rename_i i
  simp only [Rep] at rv
  subst rv
  exact ⟨i, rfl, post_ok (x := V.int (if i < 0 then -i else i)) h hR (by simp [Rep])⟩
def gInt : D → Store → Res D := fun d S => match d with
  | .int i => .ok (.int i) S
  | .bl b => .ok (.int (if b then 1 else 0)) S
  | _ => .no
def fInt := un1 gInt
theorem intQ : QC X cl E (.type "int") fInt := by
  refine ⟨_, call_int1, snd_un1 fun d S α G H v Q hR rv h => ?_⟩
  cases d <;> try exact h.elim
  · rename_i b
    simp only [Rep] at rv
    subst rv
    exact .inr ⟨b, rfl, post_ok (x := V.int (if b then 1 else 0)) h hR (by simp [Rep])⟩
  · rename_i i
    simp only [Rep] at rv
    subst rv
    exact .inl ⟨i, rfl, post_ok (x := V.int i) h hR (by simp [Rep])⟩
def gList : D → Store → Res D := fun d S => match seqOf S d with
  | some xs => .ok (.lst xs) S
  | none => .no
def gListC : D → Store → Res D := fun d S => match seqOf S d with
  | some xs => .ok (.ref S.length) (S ++ [.lst xs])
  | none => .no
def fList := un1 gList
def fListC := un1 gListC
theorem listQ : QC X cl E (.type "list") fList := by
  refine ⟨_, call_list_of, snd_un1 fun d S α G H v Q hR rv h => ?_⟩
  simp only [gList] at h
  cases q : seqOf S d with
  | none => simp [q, Post] at h
  | some xs =>
    simp only [q] at h
    obtain ⟨p, ws, rfl, q1, r1⟩ := seqOf_at hR rv q
    exact ⟨p, ws, rfl, q1, fun z hz => post_lst hR r1 h hz⟩
theorem listCQ : QC X cl E (.type "list") fListC := by
  refine ⟨_, call_list_of, snd_un1 fun d S α G H v Q hR rv h => ?_⟩
  simp only [gListC] at h
  cases q : seqOf S d with
  | none => simp [q, Post] at h
  | some xs =>
    simp only [q] at h
    obtain ⟨p, ws, rfl, q1, r1⟩ := seqOf_at hR rv q
    exact ⟨p, ws, rfl, q1, fun z hz => post_cell hR r1 h hz⟩
def gTuple : D → Store → Res D := fun d S => match d with
  | .tup xs => .ok (.tup xs) S
  | d => match rdL S d with
    | some xs => .ok (.tup xs) S
    | none => .no
def fTuple := un1 gTuple
theorem tupleQ : QC X cl E (.type "tuple") fTuple := by
  refine ⟨_, call_tuple_of, snd_un1 fun d S α G H v Q hR rv h => ?_⟩
  have lists : ∀ o, rdL S d = o → Post ⟨X.K, cl⟩ (Rep ⟨X.K, cl⟩) α G H (match o with
      | some xs => Res.ok (.tup xs) S
      | none => .no) Q E → ∃ p ys, [v] = [.ref p] ∧ ((SqL X.K H p ys ∧ ∀ l, H l = none → Q (.ref l) (upd H l (.tup ys))) ∨ (SqT X.K H p ys ∧ Q (.ref p) H)) := fun o q h => by
    cases o with
    | none => exact h.elim
    | some xs =>
      obtain ⟨p, ws, rfl, q1, r1⟩ := rdL_at hR rv q
      exact ⟨p, ws, rfl, .inl ⟨q1, fun z hz => post_tup hR r1 h hz⟩⟩
  cases d with
  | tup xs =>
    obtain ⟨p, ws, rfl, q1, r1⟩ := tup_at hR rv
    exact ⟨p, ws, rfl, .inr ⟨q1, post_ok h hR rv⟩⟩
  | _ => exact lists _ rfl h
def boolsD : List D → Option (List Bool)
  | [] => some []
  | .bl b :: ds => (boolsD ds).map (b :: ·)
  | _ => none
def intsD : List D → Option (List Int)
  | [] => some []
  | .int b :: ds => (intsD ds).map (b :: ·)
  | _ => none
theorem bools_rep {Γ : Gm} {α : List Addr} {G : Hp} : ∀ {ds : List D} {vs : List V} {bs : List Bool}, RepL Γ α G ds vs → boolsD ds = some bs → vs = bs.map V.bl
  | [], vs, bs, r, h => by
    unfold RepL at r
    simp only [boolsD, Option.some.injEq] at h
    subst r h
    rfl
  | d :: ds, vs, bs, r, h => by
    unfold RepL at r
    obtain ⟨v, w, rfl, h1, h2⟩ := r
    cases d <;> simp only [boolsD, reduceCtorEq] at h
    rename_i b
    simp only [Rep] at h1
    subst h1
    cases q : boolsD ds with
    | none => simp [q] at h
    | some cs =>
      simp only [q, Option.map_some, Option.some.injEq] at h
      subst h
      rw [bools_rep h2 q]
      rfl
theorem ints_rep {Γ : Gm} {α : List Addr} {G : Hp} : ∀ {ds : List D} {vs : List V} {bs : List Int}, RepL Γ α G ds vs → intsD ds = some bs → vs = bs.map V.int
  | [], vs, bs, r, h => by
    unfold RepL at r
    simp only [intsD, Option.some.injEq] at h
    subst r h
    rfl
  | d :: ds, vs, bs, r, h => by
    unfold RepL at r
    obtain ⟨v, w, rfl, h1, h2⟩ := r
    cases d <;> simp only [intsD, reduceCtorEq] at h
    rename_i b
    simp only [Rep] at h1
    subst h1
    cases q : intsD ds with
    | none => simp [q] at h
    | some cs =>
      simp only [q, Option.map_some, Option.some.injEq] at h
      subst h
      rw [ints_rep h2 q]
      rfl
def onBools (g : List Bool → D) := un1 fun d S => match (rdL S d).bind boolsD with
  | some bs => .ok (g bs) S
  | none => .no
def onInts (c : List Int → Bool) (g : List Int → D) := un1 fun d S => match (rdL S d).bind intsD with
  | some bs => if c bs then .ok (g bs) S else .no
  | none => .no
def fAll := onBools fun bs => .bl (bs.all id)
def fAny := onBools fun bs => .bl (bs.any id)
def fSum := onInts (fun _ => true) fun ns => .int ns.sum
theorem snd_bools {Γ : Gm} {g : List Bool → D} {g' : List Bool → V} (hg : ∀ α G bs, Rep Γ α G (g bs) (g' bs)) : SndC Γ E (fun vs H Q => ∃ (a : Addr) (bs : List Bool), vs = [V.ref a] ∧ SqL Γ.K H a (bs.map V.bl) ∧ Q (g' bs) H) (onBools g) := snd_un1 fun d S α G H v Q hR rv h => by
  cases q : rdL S d with
  | none => simp [q, Post] at h
  | some xs =>
    simp only [q, Option.bind_some] at h
    obtain ⟨p, ws, rfl, q1, r1⟩ := rdL_at hR rv q
    cases z : boolsD xs with
    | none => simp [z, Post] at h
    | some bs =>
      simp only [z] at h
      rw [bools_rep r1 z] at q1
      exact ⟨p, bs, rfl, q1, post_ok h hR (hg _ _ _)⟩
theorem allQ (hc : X.calm = true := by rfl) : QC X cl E (.builtin "all") fAll := ⟨_, cr_all hc, snd_bools (Γ := ⟨X.K, cl⟩) fun _ _ _ => by simp [Rep]⟩
theorem anyQ (hc : X.calm = true := by rfl) : QC X cl E (.builtin "any") fAny := ⟨_, cr_any hc, snd_bools (Γ := ⟨X.K, cl⟩) fun _ _ _ => by simp [Rep]⟩
theorem snd_ints {Γ : Gm} {c : List Int → Bool} {g : List Int → D} {r' : List V → Hp → VK → Prop} (hg : ∀ α G ns a H Q, c ns = true → SqL Γ.K H a (ns.map V.int) → (∀ v, Rep Γ α G (g ns) v → Q v H) → r' [.ref a] H Q) : SndC Γ E r' (onInts c g) := snd_un1 fun d S α G H v Q hR rv h => by
  cases q : rdL S d with
  | none => simp [q, Post] at h
  | some xs =>
    simp only [q, Option.bind_some] at h
    obtain ⟨p, ws, rfl, q1, r1⟩ := rdL_at hR rv q
    cases z : intsD xs with
    | none => simp [z, Post] at h
    | some bs =>
      simp only [z] at h
      rw [ints_rep r1 z] at q1
      split at h
      · rename_i hc
        exact hg α G bs p H Q hc q1 fun v rv => post_ok h hR rv
      · exact h.elim
theorem sumQ (hc : X.calm = true := by rfl) : QC X cl E (.builtin "sum") fSum := ⟨_, cr_sum hc, snd_ints (Γ := ⟨X.K, cl⟩) fun α G ns a H Q _ hs k => ⟨a, ns, rfl, hs, k _ (by simp [Rep])⟩⟩
def gMax2 : D → D → Store → Res D := fun a b S => match a, b with
  | .int i, .int j => .ok (.int (if j > i then j else i)) S
  | _, _ => .no
def gMin2 : D → D → Store → Res D := fun a b S => match a, b with
  | .int i, .int j => .ok (.int (if j < i then j else i)) S
  | _, _ => .no
def fMax2 := un2 gMax2
def fMin2 := un2 gMin2
theorem max2Q (hc : X.calm = true := by rfl) : QC X cl E (.builtin "max") fMax2 := by
  refine ⟨_, call_max2 hc, snd_un2 fun a b S α G H v w Q hR rv rw' h => ?_⟩
  cases a <;> cases b <;> try exact h.elim
  rename_i i j
  simp only [Rep] at rv rw'
  subst rv rw'
  exact ⟨i, j, rfl, post_ok (x := V.int (if j > i then j else i)) h hR (by simp [Rep])⟩
theorem min2Q (hc : X.calm = true := by rfl) : QC X cl E (.builtin "min") fMin2 := by
  refine ⟨_, call_min2 hc, snd_un2 fun a b S α G H v w Q hR rv rw' h => ?_⟩
  cases a <;> cases b <;> try exact h.elim
  rename_i i j
  simp only [Rep] at rv rw'
  subst rv rw'
  exact ⟨i, j, rfl, post_ok (x := V.int (if j < i then j else i)) h hR (by simp [Rep])⟩
theorem op_inT {hu : X.A.units + 65 < cLine} : OpR X (compareOp .In) (fun x y H Q => ∃ d ds, Dp X.K H x d ∧ Dp X.K H y (.tuple ds) ∧ SeqAt.shaped d = true ∧ SeqAt.shaped (.tuple ds) = true ∧ Q (.bl (ds.any fun z => PyData.eqv z d)) H) := by
  intro pins s σ H x y v u Q I rx ry h
  obtain ⟨d, ds, hd, he, sd, se, q⟩ := h
  obtain ⟨as, r1⟩ := Dp.reads I d x v hd rx
  obtain ⟨bs, r2⟩ := Dp.reads I (.tuple ds) y u he ry
  exact SeqAt.in_tuple_reads r2 r1 (SeqAt.canLay_of_shaped se) (SeqAt.canLay_of_shaped sd) (PyProof.Rows.room_in_shaped sd hu) ⟨.bl _, H, I, rfl, q⟩
theorem op_ninT {hu : X.A.units + 65 < cLine} : OpR X (compareOp .NotIn) (fun x y H Q => ∃ d ds, Dp X.K H x d ∧ Dp X.K H y (.tuple ds) ∧ SeqAt.shaped d = true ∧ SeqAt.shaped (.tuple ds) = true ∧ Q (.bl (!ds.any fun z => PyData.eqv z d)) H) := by
  intro pins s σ H x y v u Q I rx ry h
  obtain ⟨d, ds, hd, he, sd, se, q⟩ := h
  obtain ⟨as, r1⟩ := Dp.reads I d x v hd rx
  obtain ⟨bs, r2⟩ := Dp.reads I (.tuple ds) y u he ry
  exact SeqAt.notIn_tuple_reads r2 r1 (SeqAt.canLay_of_shaped se) (SeqAt.canLay_of_shaped sd) (PyProof.Rows.room_in_shaped sd hu) ⟨.bl _, H, I, rfl, q⟩
def inD (xs : List D) (a : D) : Bool := xs.any fun z => deq z a
def opIn : D → D → Store → Res D := fun a b S => match deref S b with
  | .tup xs => if shal 20 a && shal 20 (.tup xs) then .ok (.bl (inD xs a)) S else .no
  | .lst xs => if shal 20 a && shal 20 (.lst xs) then .ok (.bl (inD xs a)) S else .no
  | _ => .no
def opNin : D → D → Store → Res D := fun a b S => match deref S b with
  | .tup xs => if shal 20 a && shal 20 (.tup xs) then .ok (.bl (!inD xs a)) S else .no
  | .lst xs => if shal 20 a && shal 20 (.lst xs) then .ok (.bl (!inD xs a)) S else .no
  | _ => .no
theorem any_py {xs : List D} {a : D} (h : ∀ x ∈ xs, shal 19 x = true) (ha : shal 20 a = true) : ((toPyL xs).any fun z => PyData.eqv z (toPy a)) = inD xs a := by
  rw [toPyL_map, List.any_map]
  unfold inD
  induction xs with
  | nil => rfl
  | cons x xs ih =>
    simp only [List.any_cons, Function.comp]
    rw [deq_py 19 20 x a (h x (by simp)) ha]
    have ih' := ih fun z hz => h z (by simp [hz])
    rw [ih']
theorem shal19 {xs : List D} (h : shal 20 (.tup xs) = true) : ∀ x ∈ xs, shal 19 x = true := by simpa [shal] using h
theorem shal19l {xs : List D} (h : shal 20 (.lst xs) = true) : ∀ x ∈ xs, shal 19 x = true := by simpa [shal] using h
theorem inQ {k : Nat} (hr : Room k X.A) : QR X cl E (compareOp .In) opIn := by
  have hu : X.A.units + 65 < cLine := by have := hr.un; omega
  refine ⟨_, OpR.or (op_inT (hu := hu)) (op_inD hu), fun a b S α G H x y Q hR ra rb h => ?_⟩
  unfold opIn at h
  have hd := @deref_dp (Γ := ⟨X.K, cl⟩) α G H S hR b y
  split at h
  · rename_i xs e
    rw [e] at hd
    split at h
    · rename_i hs
      rw [Bool.and_eq_true] at hs
      have s2 := shal_shaped hs.2
      have d2 := hd hs.2 rb
      simp only [toPy] at s2 d2
      exact .inl ⟨_, _, rep_dp (Γ := ⟨X.K, cl⟩) hR.sub 20 a x hs.1 ra, d2, shal_shaped hs.1, s2, by rw [any_py (shal19 hs.2) hs.1]; exact post_ok h hR (by simp [Rep])⟩
    · exact h.elim
  · rename_i xs e
    rw [e] at hd
    split at h
    · rename_i hs
      rw [Bool.and_eq_true] at hs
      have s2 := shal_shaped hs.2
      have d2 := hd hs.2 rb
      simp only [toPy] at s2 d2
      exact .inr ⟨_, _, rep_dp (Γ := ⟨X.K, cl⟩) hR.sub 20 a x hs.1 ra, d2, shal_shaped hs.1, s2, by rw [any_py (shal19l hs.2) hs.1]; exact post_ok h hR (by simp [Rep])⟩
    · exact h.elim
  · exact h.elim
theorem ninQ {k : Nat} (hr : Room k X.A) : QR X cl E (compareOp .NotIn) opNin := by
  have hu : X.A.units + 65 < cLine := by have := hr.un; omega
  refine ⟨_, OpR.or (op_ninT (hu := hu)) (op_notInD hu), fun a b S α G H x y Q hR ra rb h => ?_⟩
  unfold opNin at h
  have hd := @deref_dp (Γ := ⟨X.K, cl⟩) α G H S hR b y
  split at h
  · rename_i xs e
    rw [e] at hd
    split at h
    · rename_i hs
      rw [Bool.and_eq_true] at hs
      have s2 := shal_shaped hs.2
      have d2 := hd hs.2 rb
      simp only [toPy] at s2 d2
      exact .inl ⟨_, _, rep_dp (Γ := ⟨X.K, cl⟩) hR.sub 20 a x hs.1 ra, d2, shal_shaped hs.1, s2, by rw [any_py (shal19 hs.2) hs.1]; exact post_ok h hR (by simp [Rep])⟩
    · exact h.elim
  · rename_i xs e
    rw [e] at hd
    split at h
    · rename_i hs
      rw [Bool.and_eq_true] at hs
      have s2 := shal_shaped hs.2
      have d2 := hd hs.2 rb
      simp only [toPy] at s2 d2
      exact .inr ⟨_, _, rep_dp (Γ := ⟨X.K, cl⟩) hR.sub 20 a x hs.1 ra, d2, shal_shaped hs.1, s2, by rw [any_py (shal19l hs.2) hs.1]; exact post_ok h hR (by simp [Rep])⟩
    · exact h.elim
  · exact h.elim
inductive Ty where
  | int | bool | str | list | tuple
def Ty.nm : Ty → String
  | .int => "int" | .bool => "bool" | .str => "str" | .list => "list" | .tuple => "tuple"
def tyN : D → String
  | .non => "NoneType" | .bl _ => "bool" | .int _ => "int" | .str _ => "str" | .tup _ => "tuple" | .lst _ => "list" | .fro _ => "list" | .ref _ => "list" | .obj _ _ => "object" | .exn _ _ => "object"
def isTy (T : Ty) : D → Bool
  | .bl _ => match T with | .int => true | .bool => true | _ => false
  | .int _ => match T with | .int => true | _ => false
  | .str _ => match T with | .str => true | _ => false
  | .tup _ => match T with | .tuple => true | _ => false
  | .lst _ | .fro _ | .ref _ => match T with | .list => true | _ => false
  | .non | .obj _ _ | .exn _ _ => false
def isOk (S : Store) : D → Bool
  | .obj _ _ => false
  | .exn _ _ => false
  | .ref k => (lstOf S (.ref k)).isSome
  | _ => true
theorem tyx_at {Γ : Gm} {α : List Addr} {G H : Hp} {S : Store} (R : Rl Γ α G S H) {d : D} {v : V} (r : Rep Γ α G d v) (h : isOk S d = true) : TyX Γ.K H v (.type (tyN d)) := by
  have lists : ∀ {a : Addr} {vs : List V}, SqL Γ.K H a vs → TyX Γ.K H (.ref a) (.type "list") := fun {a vs} q => by
    rcases q with (q | ⟨o, q⟩) | ⟨o, its, n, q, c, _⟩
    · exact .base (.lst q)
    · exact .base (.frz q)
    · exact .kList q c
  cases d with
  | non => simp only [Rep] at r; subst r; exact .base .non
  | bl b => simp only [Rep] at r; subst r; exact .base (.bl b)
  | int b => simp only [Rep] at r; subst r; exact .base (.int b)
  | str b => simp only [Rep] at r; subst r; exact .base (.str b)
  | tup xs =>
    obtain ⟨a, vs, rfl, q, _⟩ := tup_at R r
    rcases q with (q | ⟨o, q⟩) | ⟨o, its, n, q, c, _⟩
    · exact .base (.tup q)
    · exact .fTuple q
    · exact .kTuple q c
  | lst xs =>
    obtain ⟨a, vs, rfl, q, _⟩ := rdL_at R r (show rdL S (.lst xs) = some xs from rfl)
    exact lists q
  | fro xs =>
    obtain ⟨a, vs, rfl, q, _⟩ := rdL_at R r (show rdL S (.fro xs) = some xs from rfl)
    exact lists q
  | obj _ _ => simp [isOk] at h
  | exn _ _ => simp [isOk] at h
  | ref k =>
    obtain ⟨xs, hx⟩ := Option.isSome_iff_exists.mp h
    obtain ⟨a, vs, rfl, h1, _⟩ := lstOf_at R r hx
    exact lists (.inl (.inl h1))
theorem kit_at {S : Store} (T : Ty) (d : D) (h : isOk S d = true) {K : PySem.W.Frag} : PySem.W.kitOne K (.type (tyN d)) (.type T.nm) = some (isTy T d) := by
  cases d <;> first
    | (simp [isOk] at h; done)
    | (cases T <;> exact kit_ty (by dsimp only [tyN, isTy, Ty.nm]; decide +kernel))
def mIsi (T : Ty) (m : ME) : ME := fun ρ S => (m ρ S).bind fun d S1 => if isOk S1 d then .ok (.bl (isTy T d)) S1 else .no
theorem q_isi (T : Ty) {x : Str} {p p2 : Pos} (h : QE X cl E a m) (hg : Gl X "isinstance") (hm : X.mg "isinstance" = none) (hg2 : Gl X x) (hm2 : X.mg x = none) (hv : bootBuiltins x = some (.type T.nm)) (hn : x ≠ "__name__" := by decide) (hdb : (x == ("__debug__" : Str)) = false := by decide)
    (hs1 : starEach [a, .Name x p2] X.env = (false, eval a X.env) :: starEach [.Name x p2] X.env := by rfl) (hs2 : starEach [.Name x p2] X.env = (false, eval (.Name x p2) X.env) :: starEach [] X.env := by rfl) (hpl : (backTo pos (starEach [.Name x p2] X.env)).any (·.1) = false := by rfl) :
    QE X cl E (.Call (.Name "isinstance" p) [a, .Name x p2] [] pos) (mIsi T m) := by
  obtain ⟨t, h1, h2⟩ := h.ex
  refine ⟨_, pe_callB call_isi hg hm (by decide +kernel) (pa_cons h1 (pa_cons (pe_bltn (v := .ty T.nm) hg2 hm2 hv rfl hn hdb) pa_nil hs2) hs1) (by decide) (by decide) hs1 hpl, fun ρ S σ α G H Q hρ hR hp => h2 ρ S σ α G H _ hρ hR (post_bind hp fun d S1 α1 G1 H1 v _ e1 R1 r1 hp1 => ?_)⟩
  split at hp1
  · rename_i hk
    exact ⟨v, .ty T.nm, .type (tyN d), .type T.nm, isTy T d, rfl, .ty _, tyx_at R1 r1 hk, kit_at T d hk, post_ok hp1 R1 (by simp [Rep])⟩
  · exact hp1.elim
def mIsi2 (T U : Ty) (m : ME) : ME := fun ρ S => (m ρ S).bind fun d S1 => if isOk S1 d then .ok (.bl (isTy T d || isTy U d)) S1 else .no
theorem q_isi2 (T U : Ty) {x y : Str} {p p2 p3 p4 : Pos} {x1} (h : QE X cl E a m) (hg : Gl X "isinstance") (hm : X.mg "isinstance" = none) (hg2 : Gl X x) (hm2 : X.mg x = none) (hv : bootBuiltins x = some (.type T.nm)) (hg3 : Gl X y) (hm3 : X.mg y = none) (hv3 : bootBuiltins y = some (.type U.nm))
    (hn : x ≠ "__name__" := by decide) (hdb : (x == ("__debug__" : Str)) = false := by decide) (hn3 : y ≠ "__name__" := by decide) (hdb3 : (y == ("__debug__" : Str)) = false := by decide)
    (hs1 : starEach [a, .Tuple [.Name x p2, .Name y p3] x1 p4] X.env = (false, eval a X.env) :: starEach [.Tuple [.Name x p2, .Name y p3] x1 p4] X.env := by rfl) (hs2 : starEach [.Tuple [.Name x p2, .Name y p3] x1 p4] X.env = (false, eval (.Tuple [.Name x p2, .Name y p3] x1 p4) X.env) :: starEach [] X.env := by rfl)
    (hs3 : starEach [.Name x p2, .Name y p3] X.env = (false, eval (.Name x p2) X.env) :: starEach [.Name y p3] X.env := by rfl) (hs4 : starEach [.Name y p3] X.env = (false, eval (.Name y p3) X.env) :: starEach [] X.env := by rfl)
    (hpl : (backTo pos (starEach [.Tuple [.Name x p2, .Name y p3] x1 p4] X.env)).any (·.1) = false := by rfl) :
    QE X cl E (.Call (.Name "isinstance" p) [a, .Tuple [.Name x p2, .Name y p3] x1 p4] [] pos) (mIsi2 T U m) := by
  obtain ⟨t, h1, h2⟩ := h.ex
  refine ⟨_, pe_callB call_isiT hg hm (by decide +kernel) (pa_cons h1 (pa_cons (pe_tup (pa_cons (pe_bltn (v := .ty T.nm) hg2 hm2 hv rfl hn hdb) (pa_cons (pe_bltn (v := .ty U.nm) hg3 hm3 hv3 rfl hn3 hdb3) pa_nil hs4) hs3)) pa_nil hs2) hs1) (by decide) (by decide) hs1 hpl, fun ρ S σ α G H Q hρ hR hp => h2 ρ S σ α G H _ hρ hR (post_bind hp fun d S1 α1 G1 H1 v _ e1 R1 r1 hp1 => ?_)⟩
  split at hp1
  · rename_i hk
    refine ⟨sz (by simp), fun tp htp => ?_⟩
    obtain ⟨R2, e2⟩ := R1.out htp (.tup [.ty T.nm, .ty U.nm])
    refine ⟨v, tp, [.ty T.nm, .ty U.nm], .type (tyN d), [.type T.nm, .type U.nm], isTy T d || isTy U d, rfl, upd_same, .cons (.ty _) (.cons (.ty _) .nil), tyx_at R2 (Rep.mono e2.pre e2.sub _ _ r1) hk, ?_, hp1 _ _ _ _ e2 R2 (by simp [Rep])⟩
    refine kitAny_cons (kit_at T d hk) (fun e => ?_) (fun e => by rw [e]; rfl)
    refine kitAny_cons (kit_at U d hk) (fun e' => ?_) (fun e' => by rw [e']; simp)
    rw [e, e']
    exact kitAny_nil
  · exact hp1.elim
def spM (Γ : Gm) (f : List D → Store → Res D) : Sp := fun vs H Q E => ∃ ds α G S, RepL Γ α G ds vs ∧ Rl Γ α G S H ∧ Post Γ (Rep Γ) α G H (f ds S) Q E
def nox {β : Type} : Res β → Res β
  | .ex _ _ => .no
  | r => r
@[simp] theorem nox_ok {β : Type} (a : β) (S : Store) : nox (Res.ok a S) = .ok a S := rfl
@[simp] theorem nox_no {β : Type} : nox (Res.no : Res β) = .no := rfl
def fCall (f : List D → Store → Res D) : List D → Store → Res D := fun ds S => nox (f ds S)
mutual
def pureD : D → Bool
  | .ref _ => false
  | .tup xs => pureL xs
  | .lst xs => pureL xs
  | .fro xs => pureL xs
  | .obj _ fs => pureL fs
  | .exn _ fs => pureL fs
  | _ => true
def pureL : List D → Bool
  | [] => true
  | d :: ds => pureD d && pureL ds
end
def fPure (f : List D → Store → Res D) : List D → Store → Res D := fun ds S => if pureL ds then match f ds [] with
  | .ok d [] => .ok d S
  | _ => .no
  else .no
mutual
theorem pure_rep {Γ : Gm} {α β : List Addr} {G : Hp} : ∀ (d : D) (v : V), pureD d = true → Rep Γ α G d v → Rep Γ β G d v
  | .non, v, _, h => by simpa [Rep] using h
  | .bl b, v, _, h => by simpa [Rep] using h
  | .int i, v, _, h => by simpa [Rep] using h
  | .str s, v, _, h => by simpa [Rep] using h
  | .tup ds, v, p, h => by
    unfold Rep at h ⊢
    obtain ⟨a, vs, e, q, r⟩ := h
    exact ⟨a, vs, e, q, pureL_rep ds vs (by simpa [pureD] using p) r⟩
  | .lst ds, v, p, h => by
    unfold Rep at h ⊢
    obtain ⟨a, vs, e, q, r⟩ := h
    exact ⟨a, vs, e, q, pureL_rep ds vs (by simpa [pureD] using p) r⟩
  | .fro ds, v, p, h => by
    unfold Rep at h ⊢
    obtain ⟨a, vs, e, q, r⟩ := h
    exact ⟨a, vs, e, q, pureL_rep ds vs (by simpa [pureD] using p) r⟩
  | .obj c ds, v, p, h => by
    unfold Rep at h ⊢
    obtain ⟨a, vs, e, q, r⟩ := h
    exact ⟨a, vs, e, q, pureL_rep ds vs (by simpa [pureD] using p) r⟩
  | .exn c ds, v, p, h => by
    unfold Rep at h ⊢
    obtain ⟨a, vs, e, q, r⟩ := h
    exact ⟨a, vs, e, q, pureL_rep ds vs (by simpa [pureD] using p) r⟩
  | .ref k, v, p, _ => by simp [pureD] at p
theorem pureL_rep {Γ : Gm} {α β : List Addr} {G : Hp} : ∀ (ds : List D) (vs : List V), pureL ds = true → RepL Γ α G ds vs → RepL Γ β G ds vs
  | [], vs, _, h => by simpa [RepL] using h
  | d :: ds, vs, p, h => by
    unfold RepL at h ⊢
    obtain ⟨v, r, e, h1, h2⟩ := h
    simp only [pureL, Bool.and_eq_true] at p
    exact ⟨v, r, e, pure_rep d v p.1 h1, pureL_rep ds r p.2 h2⟩
end
theorem nox_post {Γ : Gm} {α : List Addr} {G H : Hp} {r : Res D} {Q : VK} (h : Post Γ (Rep Γ) α G H (nox r) Q E) {E' : XK} : Post Γ (Rep Γ) α G H r Q E' := by
  cases r with
  | ok d S => exact h
  | ex e S => exact h.elim
  | no => exact h.elim
theorem sp_call {Γ : Gm} {f : List D → Store → Res D} : SndC Γ E (fun vs H Q => spM Γ f vs H Q E0) (fCall f) := fun ds S α G H vs Q hR r h => ⟨ds, α, G, S, r, hR, nox_post h⟩
theorem Rl.bare {Γ : Gm} {α : List Addr} {G H : Hp} {S : Store} (R : Rl Γ α G S H) : Rl Γ [] G [] H := ⟨R.sub, rfl, List.nodup_nil, fun a m => (by simp at m), fun k c a h => (by simp at h)⟩
theorem Rl.back {Γ : Gm} {α : List Addr} {G H G' H' : Hp} {S : Store} (R : Rl Γ α G S H) (R' : Rl Γ [] G' [] H') (e : Ext [] G H [] G' H') : Rl Γ α G' S H' ∧ Ext α G H α G' H' := by
  have keep : ∀ a o, H a = some o → H' a = some o := fun a o h => e.fr a o h (by simp)
  have gn : ∀ a, a ∈ α → G a = none → G' a = none := fun a m h => by
    cases q : G' a with
    | none => rfl
    | some o =>
      rcases e.ng a (by rw [q]; simp) with z | z | z | ⟨xs, z⟩
      · exact absurd h z
      · simp at z
      · exact absurd z (R.tr a m)
      · exact absurd z (R.ntup m xs)
  refine ⟨⟨R'.sub, R.len, R.nd, fun a m => ?_, fun k c a hc ha => ?_⟩, ⟨⟨[], by simp⟩, e.sub, fun a o h _ => keep a o h, fun a m => .inl m, fun a h => ?_⟩⟩
  · cases q : H a with
    | none => exact absurd q (R.tr a m)
    | some o => rw [keep a o q]; simp
  · have hm : a ∈ α := List.mem_of_getElem? ha
    refine (R.ok k c a hc ha).mono ⟨[], by simp⟩ e.sub fun _ => ⟨?_, gn a hm⟩
    cases q : H a with
    | none => exact absurd q (R.tr a hm)
    | some o => exact keep a o q
  · rcases e.ng a h with z | z | z
    · exact .inl z
    · simp at z
    · exact .inr (.inr z)
theorem sp_pure {Γ : Gm} {f : List D → Store → Res D} : SndC Γ E (fun vs H Q => spM Γ f vs H Q E0) (fPure f) := fun ds S α G H vs Q hR r h => by
  unfold fPure at h
  split at h
  · rename_i hp
    refine ⟨ds, [], G, [], pureL_rep ds vs hp r, hR.bare, ?_⟩
    cases q : f ds [] with
    | no => rw [q] at h; exact h.elim
    | ex e S' => rw [q] at h; exact h.elim
    | ok d S' =>
      rw [q] at h
      cases S' with
      | cons c T => exact h.elim
      | nil =>
        intro α' G' H' v e R' rv
        have ea : α' = [] := List.eq_nil_of_length_eq_zero (by rw [R'.len]; rfl)
        subst ea
        obtain ⟨R2, e2⟩ := hR.back R' e
        exact h α G' H' v e2 R2 (Rep.mono (α := []) ⟨α, by simp⟩ (Sub.refl _) _ _ rv)
  · exact h.elim
theorem q_call {g : List D → Store → Res D} {f : List D → Store → Res D} {k : Nat} {fa : Addr} {fd : FuncData} {ps : List Str} {x : Str} {p : Pos} {es : List Expr} {n : MA} (F : FnOk X.prog X.w X.K X.mg X.base CX0 k fa fd ps (spM ⟨X.K, cl⟩ f)) (hr : Room k X.A)
    (hg : Gl X x) (hm : X.mg x = some (.ref fa)) (hk : PySem.W.keepIn X.K (.ref fa) = true) (hb : Binds X.K fd ps []) (ha : QA X cl E (e :: es) n) (hf : SndC ⟨X.K, cl⟩ E (fun vs H Q => spM ⟨X.K, cl⟩ f vs H Q E0) g)
    (hdb : (x == ("__debug__" : Str)) = false := by decide) (he : starEach (e :: es) X.env = (false, eval e X.env) :: starEach es X.env := by rfl) (hpl : (backTo pos (starEach es X.env)).any (·.1) = false := by rfl) :
    QE X cl E (.Call (.Name x p) (e :: es) [] pos) (mCall g n) := by
  obtain ⟨t, h1, h2⟩ := ha.ex
  refine ⟨_, pe_call F hr hg hm hk hb .nil pass0 h1 hdb he hpl, fun ρ S σ α G H Q hρ hR hp => h2 ρ S σ α G H _ hρ hR (post_bind hp fun ds S1 α1 G1 H1 vs _ e1 R1 r1 hp1 => ?_)⟩
  rw [List.append_nil]
  exact hf ds S1 α1 G1 H1 vs Q R1 r1 hp1
theorem q_call0 {g : List D → Store → Res D} {f : List D → Store → Res D} {k : Nat} {fa : Addr} {fd : FuncData} {ps : List Str} {x : Str} {p : Pos} (F : FnOk X.prog X.w X.K X.mg X.base CX0 k fa fd ps (spM ⟨X.K, cl⟩ f)) (hr : Room k X.A)
    (hg : Gl X x) (hm : X.mg x = some (.ref fa)) (hk : PySem.W.keepIn X.K (.ref fa) = true) (hb : Binds X.K fd ps []) (hf : SndC ⟨X.K, cl⟩ E (fun vs H Q => spM ⟨X.K, cl⟩ f vs H Q E0) g)
    (hdb : (x == ("__debug__" : Str)) = false := by decide) :
    QE X cl E (.Call (.Name x p) [] [] pos) (mCall g mNil) := by
  refine ⟨_, pe_call0 F hr hg hm hk hb .nil pass0 hdb, fun ρ S σ α G H Q hρ hR hp => ?_⟩
  exact hf [] S α G H [] Q hR (by simp [RepL]) hp
end
end Q
namespace Q
open PySem L2
section
variable {X : Cx} {cl : Nat → Addr} {E : XK} {a b c e : Expr} {ma mb mc m : ME} {mt mu : MT} {pos : Pos} {st : Stmt} {rest : List Stmt} {n n' : MS}
def mSkip : MS := fun ρ S => .ok (.nx ρ) S
def mSeq (n n' : MS) : MS := fun ρ S => (n ρ S).bind fun f S1 => match f with
  | .nx ρ1 => n' ρ1 S1
  | f => .ok f S1
theorem snd_seq {Γ : Gm} {t u : TS} (h : SndS Γ E t n) (k : SndS Γ E u n') : SndS Γ E (tSeq t u) (mSeq n n') := fun ρ S σ α G H Dn hρ hR hp => by
  refine h ρ S σ α G H _ hρ hR ?_
  unfold mSeq at hp
  cases q : n ρ S with
  | no => rw [q] at hp; exact hp
  | ex e S' => rw [q] at hp; exact hp
  | ok f S' =>
    rw [q] at hp
    cases f with
    | nx ρ1 => exact fun α' G' H' σ' e1 R1 r1 => k ρ1 S' σ' α' G' H' Dn r1 R1 (PostS.mono hp e1)
    | rt d => exact hp
    | bk ρ1 => exact hp
    | ct ρ1 => exact hp
theorem qss_nil : QSs X cl E [] mSkip := ⟨_, pss_nil, fun ρ S σ α G H Dn hρ hR hp => hp α G H σ (Ext.refl _ _ _) hR hρ⟩
theorem qss_cons (h : QS X cl E st n) (k : QSs X cl E rest n') : QSs X cl E (st :: rest) (mSeq n n') := by
  obtain ⟨t, h1, h2⟩ := h.ex
  obtain ⟨u, k1, k2⟩ := k.ex
  exact ⟨_, pss_cons h1 k1, snd_seq h2 k2⟩
theorem qss_one (h : QS X cl E st n) : QSs X cl E [st] n := by
  obtain ⟨t, h1, h2⟩ := h.ex
  exact ⟨_, pss_one h1, h2⟩
def mDrop (m : ME) : MS := fun ρ S => (m ρ S).bind fun _ S1 => .ok (.nx ρ) S1
theorem qs_expr (h : QE X cl E e m) (hs : swapsWith e none pos.line X.env = pure false := by rfl) : QS X cl E (.Expr e pos) (mDrop m) := by
  obtain ⟨t, h1, h2⟩ := h.ex
  exact ⟨_, ps_expr h1 hs, fun ρ S σ α G H Dn hρ hR hp => h2 ρ S σ α G H _ hρ hR (posts_bind hp fun d S1 α1 G1 H1 v _ e1 R1 r1 hp1 => hp1 α1 G1 H1 σ (Ext.refl _ _ _) R1 (hρ.mono e1))⟩
def mRet (m : ME) : MS := fun ρ S => (m ρ S).bind fun d S1 => .ok (.rt d) S1
theorem qs_ret (h : QE X cl E e m) : QS X cl E (.Return (some e) pos) (mRet m) := by
  obtain ⟨t, h1, h2⟩ := h.ex
  exact ⟨_, ps_ret h1, fun ρ S σ α G H Dn hρ hR hp => h2 ρ S σ α G H _ hρ hR (posts_bind hp fun d S1 α1 G1 H1 v _ e1 R1 r1 hp1 => hp1 α1 G1 H1 v (Ext.refl _ _ _) R1 r1)⟩
def mIf (t : MT) (n n' : MS) : MS := fun ρ S => (t ρ S).bind fun b S1 => match b with
  | true => n ρ S1
  | false => n' ρ S1
theorem qs_if {c : Expr} {sa sb : List Stmt} (hc : QT X cl E c mt) (ha : QSs X cl E sa n) (hb : QSs X cl E sb n') : QS X cl E (.If c sa sb pos) (mIf mt n n') := by
  obtain ⟨t, h1, h2⟩ := hc.ex
  obtain ⟨u, k1, k2⟩ := ha.ex
  obtain ⟨w, l1, l2⟩ := hb.ex
  refine ⟨_, ps_if h1 k1 l1, fun ρ S σ α G H Dn hρ hR hp => h2 ρ S σ α G H _ hρ hR (posts_bind hp fun b S1 α1 G1 H1 v _ e1 R1 r1 hp1 => ?_)⟩
  have r1 : b = v := r1
  subst r1
  cases b with
  | true => exact iteT (k2 ρ S1 σ α1 G1 H1 Dn (hρ.mono e1) R1 hp1)
  | false => exact iteF (l2 ρ S1 σ α1 G1 H1 Dn (hρ.mono e1) R1 hp1)
abbrev MG := D → Env → Store → Res Env
abbrev MGs := List D → Env → Store → Res Env
def SndG (Γ : Gm) (E : XK) (g : TG) (mg : MG) (js : List Nat) : Prop := ∀ (d : D) (ρ : Env) (S : Store) (σ : L2.St) (α : List Addr) (G H : Hp) (v : V) (Q : L2.St → Hp → Prop), EnvR Γ α G ρ σ → Rl Γ α G S H → Rep Γ α G d v →
  Post Γ (EnvR Γ) α G H (mg d ρ S) (fun σ' H' => σ'.length = σ.length ∧ (∀ i, i ∉ js → σ'[i]? = σ[i]?) → Q σ' H') E → g v σ H Q
def SndGs (Γ : Gm) (E : XK) (g : TGs) (mg : MGs) (js : List Nat) : Prop := ∀ (ds : List D) (ρ : Env) (S : Store) (σ : L2.St) (α : List Addr) (G H : Hp) (vs : List V) (Q : L2.St → Hp → Prop), EnvR Γ α G ρ σ → Rl Γ α G S H → RepL Γ α G ds vs →
  Post Γ (EnvR Γ) α G H (mg ds ρ S) (fun σ' H' => σ'.length = σ.length ∧ (∀ i, i ∉ js → σ'[i]? = σ[i]?) → Q σ' H') E → g vs σ H Q
structure QG (X : Cx) (cl : Nat → Addr) (E : XK) (tg : Expr) (mg : MG) (js : List Nat) : Prop where
  ex : ∃ g, PG X tg g ∧ SndG ⟨X.K, cl⟩ E g mg js
structure QGs (X : Cx) (cl : Nat → Addr) (E : XK) (tgs : List Expr) (mg : MGs) (js : List Nat) : Prop where
  ex : ∃ g, PGs X tgs g ∧ SndGs ⟨X.K, cl⟩ E g mg js
def mgN (i : Nat) : MG := fun d ρ S => .ok (ρ.set i (some d)) S
theorem qg_name (i : Nat) {x : Str} (hN : X.N.Nodup) (hi : X.N[i]? = some x := by rfl) (hx : Loc X.env.scope x := by first | exact .inl rfl | exact .inr rfl) (hf : X.fn x = true ∨ X.env.scope.names.lookup x = some .local := by first | exact .inl rfl | exact .inr rfl) : QG X cl E (.Name x pos) (mgN i) [i] := by
  refine ⟨_, pg_name hN hi hx hf, fun d ρ S σ α G H v Q hρ hR r hp => ?_⟩
  refine post_ok (x := σ.set i (some v)) hp hR (hρ.set i r) ⟨by simp, fun j hj => ?_⟩
  rw [List.getElem?_set_ne]
  simpa using fun e => hj (by simp [e])
def mgNil : MGs := fun ds ρ S => match ds with
  | [] => .ok ρ S
  | _ => .no
def mgCons (g : MG) (gs : MGs) : MGs := fun ds ρ S => match ds with
  | [] => .no
  | d :: ds => (g d ρ S).bind fun ρ1 S1 => gs ds ρ1 S1
theorem qgs_nil : QGs X cl E [] mgNil [] := by
  refine ⟨_, pgs_nil, fun ds ρ S σ α G H vs Q hρ hR r hp => ?_⟩
  cases ds with
  | cons d ds => exact hp.elim
  | nil =>
    unfold RepL at r
    exact ⟨r, post_ok (x := σ) hp hR hρ ⟨rfl, fun _ _ => rfl⟩⟩
theorem qgs_cons {tg : Expr} {tgs : List Expr} {g : MG} {gs : MGs} {js ks : List Nat} (h : QG X cl E tg g js) (k : QGs X cl E tgs gs ks) (hs : (assignEach (tg :: tgs) X.env).map (·.2) = assign tg X.env :: (assignEach tgs X.env).map (·.2) := by rfl) : QGs X cl E (tg :: tgs) (mgCons g gs) (js ++ ks) := by
  obtain ⟨t, h1, h2⟩ := h.ex
  obtain ⟨u, k1, k2⟩ := k.ex
  refine ⟨_, pgs_cons h1 k1 hs, fun ds ρ S σ α G H vs Q hρ hR r hp => ?_⟩
  cases ds with
  | nil => exact hp.elim
  | cons d ds =>
    unfold RepL at r
    obtain ⟨v, w, rfl, r1, r2⟩ := r
    refine ⟨v, w, rfl, h2 d ρ S σ α G H v _ hρ hR r1 (post_bind hp fun ρ1 S1 α1 G1 H1 σ1 _ e1 R1 q1 hp1 => fun ⟨l1, o1⟩ => ?_)⟩
    refine k2 ds ρ1 S1 σ1 α1 G1 H1 w _ q1 R1 (RepL.mono e1.pre e1.sub _ _ r2) ?_
    revert hp1
    cases gs ds ρ1 S1 with
    | no => exact id
    | ex e S' => exact id
    | ok ρ2 S2 => exact fun hp1 α' G' H' σ' e R r c => hp1 α' G' H' σ' e R r ⟨by rw [c.1, l1], fun i hi => by rw [c.2 i (fun z => hi (List.mem_append_right _ z)), o1 i (fun z => hi (List.mem_append_left _ z))]⟩
def mgTup (k : Nat) (gs : MGs) : MG := fun d ρ S => match seqOf S d with
  | some ds => if ds.length = k then gs ds ρ S else .no
  | none => .no
theorem PG.or {tg : Expr} {t u : TG} (h : PG X tg t) (h' : PG X tg u) : PG X tg (fun v σ H Q => t v σ H Q ∨ u v σ H Q) := ⟨fun pins s σ H v w Q I r q => q.elim (fun q => h.run pins s σ H v w Q I r q) (fun q => h'.run pins s σ H v w Q I r q)⟩
theorem qg_tup (k : Nat) {es : List Expr} {x1 : Nat} {gs : MGs} {js : List Nat} (h : QGs X cl E es gs js) (hc : X.calm = true := by rfl) (hn : (assignEach es X.env).length = k := by rfl) (hst : (assignEach es X.env).findIdx? (·.1) = none := by rfl) : QG X cl E (.Tuple es x1 pos) (mgTup k gs) js := by
  obtain ⟨t, h1, h2⟩ := h.ex
  refine ⟨_, PG.or (pg_tup hc h1 hn hst) (pg_lst hc h1 hn hst), fun d ρ S σ α G H v Q hρ hR r hp => ?_⟩
  unfold mgTup at hp
  cases q : seqOf S d with
  | none => simp [q, Post] at hp
  | some ds =>
    simp only [q] at hp
    split at hp
    · rename_i hk
      obtain ⟨p, vs, rfl, q1, r1⟩ := seqOf_at hR r q
      have hl : vs.length = k := by rw [← r1.length]; exact hk
      rcases q1 with q1 | q1
      · exact .inr ⟨p, vs, rfl, q1, hl, h2 ds ρ S σ α G H vs Q hρ hR r1 hp⟩
      · exact .inl ⟨p, vs, rfl, q1, hl, h2 ds ρ S σ α G H vs Q hρ hR r1 hp⟩
    · exact hp.elim
def setIx (o i : D) (d : D) (S : Store) : Res Unit := match o, i with
  | .ref k, .int j => match S[k]? with
    | some (.lst xs) => match ixN xs.length j with
      | some jj => .ok () (S.set k (.lst (xs.set jj d)))
      | none => .no
    | _ => .no
  | _, _ => .no
def mgSub (mo mi : ME) : MG := fun d ρ S => (mo ρ S).bind fun o S1 => (mi ρ S1).bind fun i S2 => (setIx o i d S2).bind fun _ S3 => .ok ρ S3
theorem qg_sub {o i : Expr} {mo mi : ME} (ho : QE X cl E o mo) (hi : QE X cl E i mi)
    (ha : ∀ v, assign (.Subscript o i pos) X.env v = (do
      let ov ← holding [v] (eval o X.env)
      let iv ← holding [v, ov] (eval i X.env)
      standAt pos
      holding [v, ov, iv] (setItem ov iv v)
      release [v, ov, iv] []) := by intro _; rfl) : QG X cl E (.Subscript o i pos) (mgSub mo mi) [] := by
  obtain ⟨t, h1, h2⟩ := ho.ex
  obtain ⟨u, k1, k2⟩ := hi.ex
  refine ⟨_, pg_sub h1 k1 set_list ha, fun d ρ S σ α G H v Q hρ hR r hp => ?_⟩
  refine h2 ρ S σ α G H _ hρ hR (post_bind hp fun od S1 α1 G1 H1 ov q1 e1 R1 r1 hp1 => ?_)
  clear q1
  refine k2 ρ S1 σ α1 G1 H1 _ (hρ.mono e1) R1 (post_bind hp1 fun id S2 α2 G2 H2 iv q2 e2 R2 r2 hp2 => ?_)
  clear q2
  have r0 : Rep ⟨X.K, cl⟩ α2 G2 d v := Rep.mono e2.pre e2.sub _ _ (Rep.mono e1.pre e1.sub _ _ r)
  have ro : Rep ⟨X.K, cl⟩ α2 G2 od ov := Rep.mono e2.pre e2.sub _ _ r1
  cases od <;> try exact hp2.elim
  rename_i kk
  cases id <;> try exact hp2.elim
  rename_i j
  simp only [setIx] at hp2
  unfold Rep at ro
  obtain ⟨p, rfl, hp'⟩ := ro
  simp only [Rep] at r2
  cases hc : S2[kk]? with
  | none => simp [hc, Post] at hp2
  | some c =>
    cases c with
    | frz xs => simp [hc, Post] at hp2
    | dk l xs => simp [hc, Post] at hp2
    | dt l xs => simp [hc, Post] at hp2
    | ob l xs => simp [hc, Post] at hp2
    | lst xs =>
      simp only [hc] at hp2
      cases hj : ixN xs.length j with
      | none => simp [hj, Post] at hp2
      | some jj =>
        simp only [hj, bind_ok] at hp2
        obtain ⟨vs, q1, q2, q3⟩ := (R2.ok kk _ p hc hp').lst
        obtain ⟨R3, e3⟩ := R2.put hc hp' (q2.set jj r0)
        refine ⟨p, vs, j, jj, rfl, r2, q1, by rw [← q2.length]; exact hj, ?_⟩
        exact hp2 _ _ _ σ e3 R3 (((hρ.mono e1).mono e2).mono e3) ⟨rfl, fun _ _ => rfl⟩
def mAsg (m : ME) (g : MG) : MS := fun ρ S => (m ρ S).bind fun d S1 => (g d ρ S1).bind fun ρ1 S2 => .ok (.nx ρ1) S2
theorem snd_asg {Γ : Gm} {t : TE} {g : TG} {mg : MG} {js : List Nat} (h : SndE Γ E t m) (k : SndG Γ E g mg js) : SndS Γ E (tAsg t g) (mAsg m mg) := fun ρ S σ α G H Dn hρ hR hp =>
  h ρ S σ α G H _ hρ hR (posts_bind hp fun d S1 α1 G1 H1 v _ e1 R1 r1 hp1 =>
    k d ρ S1 σ α1 G1 H1 v _ (hρ.mono e1) R1 r1 (posts_bind hp1 fun ρ1 S2 α2 G2 H2 σ2 _ e2 R2 q2 hp2 => fun _ => hp2 α2 G2 H2 σ2 (Ext.refl _ _ _) R2 q2))
theorem qs_asg {tg : Expr} {mg : MG} {js : List Nat} (h : QE X cl E e m) (k : QG X cl E tg mg js) (hs : swapsWithSole [tg] e pos.line X.env = pure false := by rfl) (hw : swappedStores [tg] e X.env = pure none := by rfl)
    (h1 : (assignEach [tg] X.env).map (·.2) = [assign tg X.env] := by rfl) : QS X cl E (.Assign [tg] e pos) (mAsg m mg) := by
  obtain ⟨t, a1, a2⟩ := h.ex
  obtain ⟨g, b1, b2⟩ := k.ex
  exact ⟨_, ps_asg a1 b1 hs hw h1, snd_asg a2 b2⟩
theorem sndg_name {Γ : Gm} (i : Nat) : SndG Γ E (gName i) (mgN i) [i] := fun d ρ S σ α G H v Q hρ hR r hp => by
  refine post_ok (x := σ.set i (some v)) hp hR (hρ.set i r) ⟨by simp, fun j hj => ?_⟩
  rw [List.getElem?_set_ne]
  simpa using fun e => hj (by simp [e])
theorem qs_set (i : Nat) {x : Str} {px : Pos} (h : QE X cl E e m) (hN : X.N.Nodup) (hi : X.N[i]? = some x := by rfl) (hx : Loc X.env.scope x := by first | exact .inl rfl | exact .inr rfl) (hs : swapsWith e (some (.Name x px)) pos.line X.env = pure false := by rfl) (hf : X.fn x = true ∨ X.env.scope.names.lookup x = some .local := by first | exact .inl rfl | exact .inr rfl) :
    QS X cl E (.Assign [.Name x px] e pos) (mAsg m (mgN i)) := by
  obtain ⟨t, a1, a2⟩ := h.ex
  exact ⟨_, ps_set hN hi hx a1 hs hf, snd_asg a2 (sndg_name i)⟩
def mPar (i j : Nat) (n : MA) : MS := fun ρ S => (n ρ S).bind fun ds S1 => match ds with
  | [d, d'] => .ok (.nx ((ρ.set i (some d)).set j (some d'))) S1
  | _ => .no
theorem qs_par (i j : Nat) {x y : Str} {px py pt : Pos} {kt k2 pt2} {na : MA} (hN : X.N.Nodup) (ha : QA X cl E [a, b] na) (hi : X.N[i]? = some x := by rfl) (hj : X.N[j]? = some y := by rfl) (hij : i ≠ j := by decide)
    (hx : X.env.scope.names.lookup x = some .local := by rfl) (hy : X.env.scope.names.lookup y = some .local := by rfl) (hw : swappedStores [.Tuple [.Name x px, .Name y py] kt pt] (.Tuple [a, b] k2 pt2) X.env = pure (some [x, y]) := by rfl)
    (hs : swapsWithSole [.Tuple [.Name x px, .Name y py] kt pt] (.Tuple [a, b] k2 pt2) pos.line X.env = pure false := by rfl) (hc : X.calm = true := by rfl) : QS X cl E (.Assign [.Tuple [.Name x px, .Name y py] kt pt] (.Tuple [a, b] k2 pt2) pos) (mPar i j na) := by
  obtain ⟨t, h1, h2⟩ := ha.ex
  refine ⟨_, ps_par hc hN hi hj hij hx hy h1 hw hs, fun ρ S σ α G H Dn hρ hR hp => h2 ρ S σ α G H _ hρ hR (posts_bind hp fun ds S1 α1 G1 H1 vs _ e1 R1 r1 hp1 => ?_)⟩
  match ds, hp1, r1 with
  | [d, d'], hp1, r1 =>
    obtain ⟨v, v', rfl, rv, rv'⟩ := repL2 r1
    exact ⟨v, v', rfl, hp1 α1 G1 H1 _ (Ext.refl _ _ _) R1 (((hρ.mono e1).set i rv).set j rv')⟩
  | [], hp1, _ => exact hp1.elim
  | [_], hp1, _ => exact hp1.elim
  | _ :: _ :: _ :: _, hp1, _ => exact hp1.elim
def appTo (k : Nat) (d : D) (S : Store) : Res D := match S[k]? with
  | some (.lst xs) => if xs.length < 100000 then .ok .non (S.set k (.lst (xs ++ [d]))) else .no
  | _ => .no
def notOb (S : Store) (k : Nat) : Bool := match S[k]? with
  | some (.dk _ _) => false
  | some (.dt _ _) => false
  | some (.ob _ _) => false
  | _ => true
def mApp (mo m : ME) : ME := fun ρ S => (mo ρ S).bind fun o S1 => match o with
  | .ref k => if notOb S1 k = true then (m ρ S1).bind fun d S2 => appTo k d S2 else .no
  | _ => .no
theorem listy {Γ : Gm} {α : List Addr} {G H : Hp} {S : Store} (R : Rl Γ α G S H) {k : Nat} {v : V} (r : Rep Γ α G (.ref k) v) (h : notOb S k = true) : ∃ p, v = .ref p ∧ α[k]? = some p ∧ tyV Γ.K "list" (.ref p) H := by
  unfold Rep at r
  obtain ⟨p, rfl, hp'⟩ := r
  have hk : k < S.length := by rw [← R.len]; exact (List.getElem?_eq_some_iff.mp hp').1
  have hc : S[k]? = some S[k] := List.getElem?_eq_getElem hk
  have z := R.ok k S[k] p hc hp'
  unfold notOb at h
  rw [hc] at h
  cases q : S[k] with
  | lst xs =>
    rw [q] at z
    obtain ⟨vs, q1, _⟩ := z.lst
    exact ⟨p, rfl, hp', .inl ⟨rfl, vs, .inl (.inl q1)⟩⟩
  | frz xs =>
    rw [q] at z
    obtain ⟨vs, q1, _⟩ := z.frz
    exact ⟨p, rfl, hp', .inl ⟨rfl, vs, .inl (.inl (R.sub _ _ q1))⟩⟩
  | _ => rw [q] at h; cases h
theorem q_app {o : Expr} {mo : ME} {apos cpos : Pos} (ho : QE X cl E o mo) (he : QE X cl E e m) (hbase : attributeBase o "append" X.env (eval o X.env) = eval o X.env := by rfl)
    (hfew : ((backTo cpos (starEach [e] X.env)).all (fun x => !x.1) && (backToKw cpos (keywordEach [] X.env)).all (fun x => x.1.isSome)
      && decide (([e] : List Expr).length + ([] : List Keyword).length + (if ([] : List Keyword).isEmpty then 0 else 1) < 30)) = true := by rfl)
    (hline : (apos.endLine == cpos.line) = true := by rfl) (hs : starEach [e] X.env = (false, eval e X.env) :: starEach [] X.env := by rfl) (hplain : (backTo cpos (starEach [] X.env)).any (·.1) = false := by rfl) :
    QE X cl E (.Call (.Attribute o "append" apos) [e] [] cpos) (mApp mo m) := by
  obtain ⟨t, h1, h2⟩ := ho.ex
  obtain ⟨u, k1, k2⟩ := he.ex
  refine ⟨_, pe_bm PySem.F.plainAttrs_list PySem.F.slot_list_append PySem.F.type_list_append mt_append h1 (pa_cons k1 pa_nil hs) hbase hfew hline hs hplain, fun ρ S σ α G H Q hρ hR hp => ?_⟩
  refine h2 ρ S σ α G H _ hρ hR (post_bind hp fun od S1 α1 G1 H1 ov q1 e1 R1 r1 hp1 => ?_)
  clear q1
  cases od <;> try exact hp1.elim
  rename_i kk
  dsimp only at hp1
  split at hp1
  case isFalse => exact hp1.elim
  rename_i hno
  obtain ⟨p, rfl, ha1, htv⟩ := listy R1 r1 hno
  refine ⟨htv, ?_⟩
  refine k2 ρ S1 σ α1 G1 H1 _ (hρ.mono e1) R1 (post_bind hp1 fun d S2 α2 G2 H2 v q2 e2 R2 r2 hp2 => ?_)
  have hp' : α2[kk]? = some p := by
    obtain ⟨β, rfl⟩ := e2.pre
    rw [List.getElem?_append_left (List.getElem?_eq_some_iff.mp ha1).1]
    exact ha1
  unfold appTo at hp2
  cases hc : S2[kk]? with
  | none => simp [hc, Post] at hp2
  | some c =>
    cases c with
    | frz xs => simp [hc, Post] at hp2
    | dk l xs => simp [hc, Post] at hp2
    | dt l xs => simp [hc, Post] at hp2
    | ob l xs => simp [hc, Post] at hp2
    | lst xs =>
      simp only [hc] at hp2
      split at hp2
      · rename_i hl
        obtain ⟨vs, q1, q2, q3⟩ := (R2.ok kk _ p hc hp').lst
        obtain ⟨R3, e3⟩ := R2.put hc hp' (q2.append (show RepL ⟨X.K, cl⟩ α2 G2 [d] [v] by unfold RepL; exact ⟨v, [], rfl, r2, by simp [RepL]⟩))
        exact ⟨p, vs, v, rfl, rfl, q1, by rw [← q2.length]; exact Nat.lt_of_lt_of_le hl (by decide), hp2 _ _ _ .non e3 R3 (by simp [Rep])⟩
      · exact hp2.elim
def whileF (t : MT) (b : MS) : Nat → MS
  | 0 => fun _ _ => .no
  | k + 1 => fun ρ S => (t ρ S).bind fun c S1 => match c with
    | false => .ok (.nx ρ) S1
    | true => (b ρ S1).bind fun f S2 => match f with
      | .nx ρ1 => whileF t b k ρ1 S2
      | .ct ρ1 => whileF t b k ρ1 S2
      | .bk ρ1 => .ok (.nx ρ1) S2
      | .rt d => .ok (.rt d) S2
def mWhile (fuel : Env → Store → Nat) (t : MT) (b : MS) : MS := fun ρ S => whileF t b (fuel ρ S) ρ S
theorem snd_while {Γ : Gm} {fuel : Env → Store → Nat} {tc : TT} {tb : TS} (h : SndT Γ E tc mt) (k : SndS Γ E tb n) : SndS Γ E (tWhile tc tb) (mWhile fuel mt n) := fun ρ S σ α G H Dn hρ hR hp => by
  refine ⟨fun j σ H => ∃ ρ S α G, EnvR Γ α G ρ σ ∧ Rl Γ α G S H ∧ PostS Γ E α G H (whileF mt n j ρ S) Dn, ⟨_, ρ, S, α, G, hρ, hR, hp⟩, ?_⟩
  rintro j σ H ⟨ρ, S, α, G, hρ, hR, hp⟩
  cases j with
  | zero => exact hp.elim
  | succ j =>
    refine h ρ S σ α G H _ hρ hR (posts_bind hp fun c S1 α1 G1 H1 c' _ e1 R1 r1 hp1 => ?_)
    have r1 : c = c' := r1
    subst r1
    cases c with
    | false => exact iteF (hp1 α1 G1 H1 σ (Ext.refl _ _ _) R1 (hρ.mono e1))
    | true =>
      refine iteT ⟨fun σ' H' => ∃ m', m' < j + 1 ∧ ∃ ρ S α G, EnvR Γ α G ρ σ' ∧ Rl Γ α G S H' ∧ PostS Γ E α G H' (whileF mt n m' ρ S) Dn, fun σ' H' z => z, ?_⟩
      refine k ρ S1 σ α1 G1 H1 _ (hρ.mono e1) R1 ?_
      simp only at hp1
      cases q : n ρ S1 with
      | no => rw [q] at hp1; exact hp1
      | ex e S' => rw [q] at hp1; exact hp1
      | ok f S2 =>
        rw [q] at hp1
        cases f with
        | nx ρ1 => exact fun α2 G2 H2 σ2 e2 R2 r2 => ⟨j, Nat.lt_succ_self j, ρ1, S2, α2, G2, r2, R2, PostS.mono hp1 e2⟩
        | ct ρ1 => exact fun α2 G2 H2 σ2 e2 R2 r2 => ⟨j, Nat.lt_succ_self j, ρ1, S2, α2, G2, r2, R2, PostS.mono hp1 e2⟩
        | bk ρ1 => exact hp1
        | rt d => exact hp1
theorem qs_while (fuel : Env → Store → Nat) {c : Expr} {body : List Stmt} (hc : QT X cl E c mt) (hb : QSs X cl E body n) (hp : PassesOwn (model X.prog X.w) X.A X.env X.xe := by exact PassesOwn.never) : QS X cl E (.While c body [] pos) (mWhile fuel mt n) := by
  obtain ⟨t, h1, h2⟩ := hc.ex
  obtain ⟨u, k1, k2⟩ := hb.ex
  exact ⟨_, ps_while hp h1 k1, snd_while h2 k2⟩
def Steps (Γ : Gm) (α : List Addr) (G : Hp) (ds : List D) (J : It) : Prop := ∀ (i : Nat) (α2 : List Addr) (G2 H2 : Hp) (S2 : Store), (∃ β, α2 = α ++ β) → Sub G G2 → Rl Γ α2 G2 S2 H2 →
  (ds.length ≤ i → J.stop i H2) ∧ ∀ d, ds[i]? = some d → J.go i H2 ∧ ∀ x H3, J.yld i H2 x H3 → ∃ G3, Rl Γ α2 G3 S2 H3 ∧ Ext α2 G2 H2 α2 G3 H3 ∧ Rep Γ α2 G3 d x
def PostI (Γ : Gm) (E : XK) (α : List Addr) (G H : Hp) (r : Res (List D)) (R : It → Hp → Prop) : Prop := match r with
  | .ok ds S' => ∀ α' G' H' J, Ext α G H α' G' H' → Rl Γ α' G' S' H' → Steps Γ α' G' ds J → R J H'
  | .ex e S' => ∀ α' G' H' c x, Ext α G H α' G' H' → Rl Γ α' G' S' H' → ExR Γ α' G' e c x H' → E c x H'
  | .no => False
theorem PostI.mono {Γ : Gm} {α α1 : List Addr} {G H G1 H1 : Hp} {r : Res (List D)} {R : It → Hp → Prop} (h : PostI Γ E α G H r R) (e : Ext α G H α1 G1 H1) : PostI Γ E α1 G1 H1 r R := by
  cases r with
  | ok d S' => exact fun α' G' H' v x rl rp => h α' G' H' v (e.trans x) rl rp
  | ex d S' => exact fun α' G' H' c x y rl rp => h α' G' H' c x (e.trans y) rl rp
  | no => exact h
theorem posti_bind {Γ : Gm} {β γ : Type} {R : List Addr → Hp → β → γ → Prop} {α : List Addr} {G H : Hp} {r : Res β} {f : β → Store → Res (List D)} {RI : It → Hp → Prop} {Q : γ → Hp → Prop} (h : PostI Γ E α G H (r.bind f) RI)
    (k : ∀ a S1 α1 G1 H1 x, r = .ok a S1 → Ext α G H α1 G1 H1 → Rl Γ α1 G1 S1 H1 → R α1 G1 a x → PostI Γ E α1 G1 H1 (f a S1) RI → Q x H1) : Post Γ R α G H r Q E := by
  cases r with
  | ok d S' =>
    intro α' G' H' v e rl rp
    exact k d S' α' G' H' v rfl e rl rp (PostI.mono h e)
  | ex e S' => exact h
  | no => exact h
def SndI (Γ : Gm) (E : XK) (wi : TI) (mi : MA) : Prop := ∀ (ρ : Env) (S : Store) (σ : L2.St) (α : List Addr) (G H : Hp) (R : It → Hp → Prop), EnvR Γ α G ρ σ → Rl Γ α G S H → PostI Γ E α G H (mi ρ S) R → wi σ H R
structure QI (X : Cx) (cl : Nat → Addr) (E : XK) (tg iter : Expr) (mi : MA) : Prop where
  ex : ∃ wi, PI X tg iter wi ∧ SndI ⟨X.K, cl⟩ E wi mi
theorem PI.or {tg it : Expr} {t u : TI} (h : PI X tg it t) (h' : PI X tg it u) : PI X tg it (fun σ H R => t σ H R ∨ u σ H R) := ⟨fun pins s σ H R I q => q.elim (fun q => h.run pins s σ H R I q) (fun q => h'.run pins s σ H R I q)⟩
def itemsOf : D → Store → Res (List D) := fun d S => match d with
  | .tup xs => .ok xs S
  | .lst xs => .ok xs S
  | .fro xs => .ok xs S
  | _ => .no
def mItems (m : ME) : MA := fun ρ S => (m ρ S).bind itemsOf
theorem steps_list {Γ : Gm} {α : List Addr} {G : Hp} {ds : List D} {a : Addr} {vs : List V} (h : SqL Γ.K G a vs) (r : RepL Γ α G ds vs) : Steps Γ α G ds (Itl Γ.K a) := fun i α2 G2 H2 S2 hp hs R2 => by
  have q : SqL Γ.K H2 a vs := (hs.trans R2.sub).sqL h
  have r2 : RepL Γ α2 G2 ds vs := RepL.mono hp hs _ _ r
  refine ⟨fun hl => ⟨vs, q, by rw [← r2.length]; exact hl⟩, fun d hd => ?_⟩
  obtain ⟨v, hv, rv⟩ := r2.get hd
  refine ⟨⟨vs, v, q, hv⟩, fun x H3 hy => ?_⟩
  obtain ⟨rfl, f⟩ := hy
  have e := f vs q
  rw [hv] at e
  cases e
  exact ⟨G2, R2, Ext.refl _ _ _, rv⟩
theorem steps_tup {Γ : Gm} {α : List Addr} {G : Hp} {ds : List D} {a : Addr} {vs : List V} (h : SqT Γ.K G a vs) (r : RepL Γ α G ds vs) : Steps Γ α G ds (Itt Γ.K a) := fun i α2 G2 H2 S2 hp hs R2 => by
  have q : SqT Γ.K H2 a vs := (hs.trans R2.sub).sqT h
  have r2 : RepL Γ α2 G2 ds vs := RepL.mono hp hs _ _ r
  refine ⟨fun hl => ⟨vs, q, by rw [← r2.length]; exact hl⟩, fun d hd => ?_⟩
  obtain ⟨v, hv, rv⟩ := r2.get hd
  refine ⟨⟨vs, v, q, hv⟩, fun x H3 hy => ?_⟩
  obtain ⟨rfl, f⟩ := hy
  have e := f vs q
  rw [hv] at e
  cases e
  exact ⟨G2, R2, Ext.refl _ _ _, rv⟩
theorem qi_items {tg it : Expr} (h : QE X cl E it m) : QI X cl E tg it (mItems m) := by
  obtain ⟨t, h1, h2⟩ := h.ex
  refine ⟨_, PI.or (pi_list h1) (pi_tup h1), fun ρ S σ α G H R hρ hR hp => ?_⟩
  have lists : ∀ xs S', m ρ S = .ok (.lst xs) S' → iList X.K t σ H R := fun xs S' q => by
    refine h2 ρ S σ α G H _ hρ hR (posti_bind hp fun d S1 α1 G1 H1 v q1 e1 R1 r1 hp1 => ?_)
    rw [q] at q1
    cases q1
    unfold Rep at r1
    obtain ⟨a, vs, rfl, q2, r2⟩ := r1
    exact ⟨a, rfl, ⟨vs, R1.sub.sqL (.inl (.inl q2))⟩, hp1 α1 G1 H1 _ (Ext.refl _ _ _) R1 (steps_list (Γ := ⟨X.K, cl⟩) (.inl (.inl q2)) r2)⟩
  have fros : ∀ xs S', m ρ S = .ok (.fro xs) S' → iList X.K t σ H R := fun xs S' q => by
    refine h2 ρ S σ α G H _ hρ hR (posti_bind hp fun d S1 α1 G1 H1 v q1 e1 R1 r1 hp1 => ?_)
    rw [q] at q1
    cases q1
    unfold Rep at r1
    obtain ⟨a, vs, rfl, q2, r2⟩ := r1
    exact ⟨a, rfl, ⟨vs, R1.sub.sqL q2⟩, hp1 α1 G1 H1 _ (Ext.refl _ _ _) R1 (steps_list (Γ := ⟨X.K, cl⟩) q2 r2)⟩
  have tups : ∀ xs S', m ρ S = .ok (.tup xs) S' → iTup X.K t σ H R := fun xs S' q => by
    refine h2 ρ S σ α G H _ hρ hR (posti_bind hp fun d S1 α1 G1 H1 v q1 e1 R1 r1 hp1 => ?_)
    rw [q] at q1
    cases q1
    unfold Rep at r1
    obtain ⟨a, vs, rfl, q2, r2⟩ := r1
    exact ⟨a, rfl, ⟨vs, .inl (.inl (R1.sub _ _ q2))⟩, hp1 α1 G1 H1 _ (Ext.refl _ _ _) R1 (steps_tup (Γ := ⟨X.K, cl⟩) (.inl (.inl q2)) r2)⟩
  cases q : m ρ S with
  | no => unfold mItems at hp; rw [q] at hp; exact hp.elim
  | ex e S' =>
    -- the exception comes ahead of the walk: either reading carries it
    refine .inl (h2 ρ S σ α G H _ hρ hR ?_)
    unfold mItems at hp
    rw [q] at hp ⊢
    exact hp
  | ok d S' =>
    cases d with
    | lst xs => exact .inl (lists xs S' q)
    | fro xs => exact .inl (fros xs S' q)
    | tup xs => exact .inr (tups xs S' q)
    | _ => (unfold mItems at hp; rw [q] at hp; exact hp.elim)
def rangeD (lo : Int) (k : Nat) : List D := (List.range k).map fun (i : Nat) => .int (lo + (i : Int))
theorem steps_range {Γ : Gm} {α : List Addr} {G : Hp} (lo : Int) (k : Nat) : Steps Γ α G (rangeD lo k) (Itr lo k) := fun i α2 G2 H2 S2 hp hs R2 => by
  refine ⟨fun hl => (by simpa [rangeD] using hl : k ≤ i), fun d hd => ?_⟩
  unfold rangeD at hd
  rw [List.getElem?_map] at hd
  cases q : (List.range k)[i]? with
  | none => simp [q] at hd
  | some j =>
    simp only [q, Option.map_some, Option.some.injEq] at hd
    have hi := List.getElem?_eq_some_iff.mp q
    obtain ⟨h1, h2⟩ := hi
    simp at h1 h2
    subst h2
    refine ⟨h1, fun x H3 hy => ?_⟩
    obtain ⟨rfl, rfl⟩ := hy
    exact ⟨G2, R2, Ext.refl _ _ _, by subst hd; simp [Rep]⟩
def mRange1 (m : ME) : MA := fun ρ S => (m ρ S).bind fun d S1 => match d with
  | .int j => if j.natAbs < 2 ^ 62 then .ok (rangeD 0 j.toNat) S1 else .no
  | _ => .no
theorem qi_range1 {tg a : Expr} {p pos : Pos} (h : QE X cl E a m) (hg : Gl X "range") (hm : X.mg "range" = none) (hs : starEach [a] X.env = [(false, eval a X.env)] := by rfl) : QI X cl E tg (.Call (.Name "range" p) [a] [] pos) (mRange1 m) := by
  obtain ⟨t, h1, h2⟩ := h.ex
  refine ⟨_, pi_range1 hg hm (pa_cons h1 pa_nil (by rw [hs]; rfl)) hs, fun ρ S σ α G H R hρ hR hp => h2 ρ S σ α G H _ hρ hR (posti_bind hp fun d S1 α1 G1 H1 v q1 e1 R1 r1 hp1 => ?_)⟩
  clear q1
  cases d <;> try exact hp1.elim
  rename_i j
  simp only at hp1
  simp only [Rep] at r1
  subst r1
  split at hp1
  · rename_i hb
    exact ⟨j, rfl, by omega, by omega, hp1 α1 G1 H1 _ (Ext.refl _ _ _) R1 (steps_range 0 j.toNat)⟩
  · exact hp1.elim
def forL (g : MG) (b : MS) : List D → MS
  | [] => fun ρ S => .ok (.nx ρ) S
  | d :: ds => fun ρ S => (g d ρ S).bind fun ρ1 S1 => (b ρ1 S1).bind fun f S2 => match f with
    | .nx ρ2 => forL g b ds ρ2 S2
    | .ct ρ2 => forL g b ds ρ2 S2
    | .bk ρ2 => .ok (.nx ρ2) S2
    | .rt d => .ok (.rt d) S2
def mFor (mi : MA) (g : MG) (b : MS) : MS := fun ρ S => (mi ρ S).bind fun ds S1 => forL g b ds ρ S1
theorem posts_i {Γ : Gm} {α : List Addr} {G H : Hp} {r : Res (List D)} {f : List D → Store → Res Fl} {Dn : Ends} {R : It → Hp → Prop} (h : PostS Γ E α G H (r.bind f) Dn)
    (k : ∀ ds S1 α1 G1 H1 J, Ext α G H α1 G1 H1 → Rl Γ α1 G1 S1 H1 → Steps Γ α1 G1 ds J → PostS Γ E α1 G1 H1 (f ds S1) Dn → R J H1) : PostI Γ E α G H r R := by
  cases r with
  | ok d S' =>
    intro α' G' H' v e rl rp
    exact k d S' α' G' H' v e rl rp (PostS.mono h e)
  | ex e S' => exact h
  | no => exact h
theorem snd_for {Γ : Gm} {wi : TI} {mi : MA} {g : TG} {mg : MG} {js : List Nat} {tb : TS} (hi : SndI Γ E wi mi) (hg : SndG Γ E g mg js) (hb : SndS Γ E tb n) : SndS Γ E (tFor wi g tb) (mFor mi mg n) := fun ρ S σ α G H Dn hρ hR hp => by
  refine hi ρ S σ α G H _ hρ hR (posts_i hp fun ds S1 α1 G1 H1 J e1 R1 st hp1 => ?_)
  refine ⟨fun i k σ H => k = ds.length - i ∧ i ≤ ds.length ∧ ∃ ρ S α2 G2, Ext α1 G1 H1 α2 G2 H ∧ EnvR Γ α2 G2 ρ σ ∧ Rl Γ α2 G2 S H ∧ PostS Γ E α2 G2 H (forL mg n (ds.drop i) ρ S) Dn, ⟨ds.length, by simp, Nat.zero_le _, ρ, S1, α1, G1, Ext.refl _ _ _, hρ.mono e1, R1, by simpa using hp1⟩, ?_⟩
  rintro i k σ2 H2 ⟨rfl, hle, ρ2, S2, α2, G2, e2, hρ2, R2, hp2⟩
  obtain ⟨stop, go⟩ := st i α2 G2 H2 S2 e2.pre e2.sub R2
  by_cases hlt : i < ds.length
  · have hd : ds[i]? = some ds[i] := List.getElem?_eq_getElem hlt
    obtain ⟨hgo, hy⟩ := go _ hd
    refine .inr ⟨hgo, fun σ' H' => ∃ ρ S α2 G2, Ext α1 G1 H1 α2 G2 H' ∧ EnvR Γ α2 G2 ρ σ' ∧ Rl Γ α2 G2 S H' ∧ PostS Γ E α2 G2 H' (forL mg n (ds.drop (i + 1)) ρ S) Dn, fun σ' H' z => ⟨ds.length - (i + 1), by omega, rfl, hlt, z⟩, fun x H3 y3 => ?_⟩
    obtain ⟨G3, R3, e3, rx⟩ := hy x H3 y3
    rw [List.drop_eq_getElem_cons hlt] at hp2
    have hp3 := PostS.mono hp2 e3
    refine hg ds[i] ρ2 S2 σ2 α2 G3 H3 x _ (hρ2.mono e3) R3 rx (posts_bind hp3 fun ρ4 S4 α4 G4 H4 σ4 q4 e4 R4 r4 hp4 => fun _ => ?_)
    refine hb ρ4 S4 σ4 α4 G4 H4 _ r4 R4 ?_
    clear q4
    have e14 : Ext α1 G1 H1 α4 G4 H4 := (e2.trans e3).trans e4
    cases q : n ρ4 S4 with
    | no => rw [q] at hp4; exact hp4
    | ex e S' => rw [q] at hp4; exact hp4
    | ok f S5 =>
      rw [q] at hp4
      cases f with
      | nx ρ5 => exact fun α5 G5 H5 σ5 e5 R5 r5 => ⟨ρ5, S5, α5, G5, e14.trans e5, r5, R5, PostS.mono hp4 e5⟩
      | ct ρ5 => exact fun α5 G5 H5 σ5 e5 R5 r5 => ⟨ρ5, S5, α5, G5, e14.trans e5, r5, R5, PostS.mono hp4 e5⟩
      | bk ρ5 => exact hp4
      | rt d => exact hp4
  · refine .inl ⟨stop (by omega), ?_⟩
    rw [List.drop_of_length_le (by omega)] at hp2
    exact hp2 α2 G2 H2 σ2 (Ext.refl _ _ _) R2 hρ2
theorem qs_for {tg it : Expr} {body : List Stmt} {mi : MA} {mg : MG} {js : List Nat} (hi : QI X cl E tg it mi) (hg : QG X cl E tg mg js) (hb : QSs X cl E body n) (hp : PassesOwn (model X.prog X.w) X.A X.env X.xe := by exact PassesOwn.never) (hc : X.calm = true := by rfl)
    (hs : ∀ x, foldedSetIterable it X.env x = pure x := by intro _; rfl) : QS X cl E (.For tg it body [] pos) (mFor mi mg n) := by
  obtain ⟨wi, h1, h2⟩ := hi.ex
  obtain ⟨g, k1, k2⟩ := hg.ex
  obtain ⟨tb, l1, l2⟩ := hb.ex
  exact ⟨_, ps_for hp hc h1 k1 l1 hs, snd_for h2 k2 l2⟩
def wp (ρ : Env) : List Nat → Env
  | [] => ρ
  | v :: vs => (wp ρ vs).set v none
theorem wipe_get {σ : L2.St} {i : Nat} : ∀ {vs : List Nat}, i ∉ vs → (wipe σ vs)[i]? = σ[i]?
  | [], _ => rfl
  | v :: vs, h => by
    unfold wipe
    rw [List.getElem?_set_ne (fun e => h (by simp [e]))]
    exact wipe_get fun z => h (List.mem_cons_of_mem _ z)
theorem wipe_in {σ : L2.St} {i : Nat} : ∀ {vs : List Nat}, i ∈ vs → i < σ.length → (wipe σ vs)[i]? = some none
  | v :: vs, h, hl => by
    unfold wipe
    by_cases e : v = i
    · subst e
      rw [List.getElem?_set_self (by rw [wipe_length]; exact hl)]
    · rw [List.getElem?_set_ne e]
      exact wipe_in ((List.mem_cons.mp h).resolve_left fun z => e z.symm) hl
theorem wipe_same {σ τ : L2.St} {vs js : List Nat} (hl : τ.length = (wipe σ vs).length) (ho : ∀ i, i ∉ js → τ[i]? = (wipe σ vs)[i]?) (hj : ∀ j ∈ js, j ∈ vs) : wipe τ vs = wipe σ vs := by
  rw [wipe_length] at hl
  apply List.ext_getElem?
  intro i
  by_cases hi : i ∈ vs
  · by_cases hb : i < σ.length
    · rw [wipe_in hi hb, wipe_in hi (by rw [hl]; exact hb)]
    · rw [List.getElem?_eq_none (by rw [wipe_length]; omega), List.getElem?_eq_none (by rw [wipe_length]; omega)]
  · rw [wipe_get hi, ho i fun z => hi (hj i z)]
theorem EnvR.wp {Γ : Gm} {α : List Addr} {G : Hp} {ρ : Env} {σ : L2.St} (h : EnvR Γ α G ρ σ) : ∀ vs : List Nat, EnvR Γ α G (wp ρ vs) (wipe σ vs)
  | [] => h
  | v :: vs => by
    have ih := EnvR.wp h vs
    unfold Q.wp wipe
    refine ⟨by simp [ih.1], fun i d hd => ?_⟩
    by_cases e : v = i
    · subst e
      have hl := (List.getElem?_eq_some_iff.mp hd).1
      rw [List.length_set] at hl
      rw [List.getElem?_set_self hl] at hd
      cases hd
    · rw [List.getElem?_set_ne e] at hd ⊢
      exact ih.2 i d hd
def lcL (g : MG) (t : MT) (m : ME) (ρ : Env) : List D → Store → Res (List D)
  | [], S => .ok [] S
  | d :: ds, S => (g d ρ S).bind fun ρ1 S1 => (t ρ1 S1).bind fun b S2 => match b with
    | true => (m ρ1 S2).bind fun v S3 => (lcL g t m ρ ds S3).bind fun vs S4 => .ok (v :: vs) S4
    | false => lcL g t m ρ ds S2
def mLc (mi : MA) (g : MG) (t : MT) (m : ME) (vs : List Nat) : ME := fun ρ S => (mi ρ S).bind fun ds S1 => if ds.length ≤ 100000 then (lcL g t m (wp ρ vs) ds S1).bind fun xs S2 => .ok (.lst xs) S2 else .no
def mLcC (mi : MA) (g : MG) (t : MT) (m : ME) (vs : List Nat) : ME := fun ρ S => (mi ρ S).bind fun ds S1 => if ds.length ≤ 100000 then (lcL g t m (wp ρ vs) ds S1).bind fun xs S2 => .ok (.ref S2.length) (S2 ++ [.lst xs]) else .no
theorem Rl.patch {Γ : Gm} {α : List Addr} {G H : Hp} {S : Store} (R : Rl Γ α G S H) {p : Addr} (hp : p ∉ α) (hg : G p = none) (o : HO) : Rl Γ α G S (upd H p o) := by
  have ne : ∀ a ∈ α, a ≠ p := fun a m e => by subst e; exact hp m
  refine ⟨fun a u e => ?_, R.len, R.nd, fun a m => by rw [upd_ne (ne a m)]; exact R.tr a m, fun k c a hc ha => ?_⟩
  · rw [upd_ne (fun z => by subst z; rw [hg] at e; cases e)]; exact R.sub a u e
  · exact (R.ok k c a hc ha).mono ⟨[], by simp⟩ (Sub.refl G) fun _ => ⟨upd_ne (ne a (List.mem_of_getElem? ha)), fun h => h⟩
theorem Ext.patch {α α' : List Addr} {G G' H H' : Hp} (e : Ext α G H α' G' H') {p : Addr} (hp : H p = none) (o : HO) : Ext α G H α' G' (upd H' p o) :=
  ⟨e.pre, e.sub, fun a u h m => by rw [upd_ne (ne_of_none h hp)]; exact e.fr a u h m, e.na, e.ng⟩
structure Mid (Γ : Gm) (α1 : List Addr) (G1 H1 : Hp) (p : Addr) (α : List Addr) (G : Hp) (S : Store) (H : Hp) (vs : List V) : Prop where
  ext : Ext α1 G1 H1 α G H
  rl : Rl Γ α G S H
  at_ : H p = some (.lst vs)
  na : p ∉ α
  ng : G p = none
theorem Mid.step {Γ : Gm} {α1 α α' : List Addr} {G1 H1 G H G' H' : Hp} {p : Addr} {S S' : Store} {vs : List V} (M : Mid Γ α1 G1 H1 p α G S H vs) (e : Ext α G H α' G' H') (R : Rl Γ α' G' S' H') : Mid Γ α1 G1 H1 p α' G' S' H' vs := by
  refine ⟨M.ext.trans e, R, e.fr p _ M.at_ M.na, fun m => ?_, ?_⟩
  · rcases e.na p m with z | z
    · exact M.na z
    · rw [M.at_] at z; cases z
  · cases q : G' p with
    | none => rfl
    | some o =>
      rcases e.ng p (by rw [q]; simp) with z | z | z | ⟨xs, z⟩
      · exact absurd M.ng z
      · exact absurd z M.na
      · rw [M.at_] at z; cases z
      · rw [M.at_] at z; cases z
theorem Mid.push {Γ : Gm} {α1 α : List Addr} {G1 H1 G H : Hp} {p : Addr} {S : Store} {vs : List V} (M : Mid Γ α1 G1 H1 p α G S H vs) (hp : H1 p = none) (ws : List V) : Mid Γ α1 G1 H1 p α G S (upd H p (.lst ws)) ws :=
  ⟨M.ext.patch hp _, M.rl.patch M.na M.ng _, upd_same, M.na, M.ng⟩
theorem Mid.done {Γ : Gm} {α1 α : List Addr} {G1 H1 G H : Hp} {p : Addr} {S : Store} {vs : List V} (M : Mid Γ α1 G1 H1 p α G S H vs) (hp : H1 p = none) : Rl Γ α (upd G p (.lst vs)) S H ∧ Ext α1 G1 H1 α (upd G p (.lst vs)) H := by
  have sg : Sub G (upd G p (.lst vs)) := Sub.new M.ng
  refine ⟨⟨fun a u e => ?_, M.rl.len, M.rl.nd, M.rl.tr, fun k c a hc ha => ?_⟩, ⟨M.ext.pre, M.ext.sub.trans sg, M.ext.fr, M.ext.na, fun a h => ?_⟩⟩
  · by_cases z : a = p
    · subst z; rw [upd_same] at e; cases e; exact M.at_
    · rw [upd_ne z] at e; exact M.rl.sub a u e
  · have ne : a ≠ p := fun z => by subst z; exact M.na (List.mem_of_getElem? ha)
    exact (M.rl.ok k c a hc ha).mono ⟨[], by simp⟩ sg fun _ => ⟨rfl, fun h3 => by rw [upd_ne ne]; exact h3⟩
  · by_cases z : a = p
    · subst z; exact .inr (.inr (.inl hp))
    · rw [upd_ne z] at h; exact M.ext.ng a h
theorem Mid.cell {Γ : Gm} {α1 α : List Addr} {G1 H1 G H : Hp} {p : Addr} {S : Store} {ds : List D} {vs : List V} (M : Mid Γ α1 G1 H1 p α G S H vs) (hp : H1 p = none) (r : RepL Γ α G ds vs) :
    Rl Γ (α ++ [p]) G (S ++ [.lst ds]) H ∧ Ext α1 G1 H1 (α ++ [p]) G H ∧ Rep Γ (α ++ [p]) G (.ref S.length) (.ref p) := by
  have mono : ∀ {ds vs}, RepL Γ α G ds vs → RepL Γ (α ++ [p]) G ds vs := fun {ds vs} h => RepL.mono ⟨[p], rfl⟩ (Sub.refl G) _ _ h
  refine ⟨⟨M.rl.sub, by simp [M.rl.len], ?_, fun a m => ?_, fun k c a hc ha => ?_⟩, ⟨?_, M.ext.sub, M.ext.fr, fun a m => ?_, M.ext.ng⟩, ?_⟩
  · rw [List.nodup_append]
    exact ⟨M.rl.nd, by simp, fun a m b mb => by simp at mb; subst mb; exact fun z => by subst z; exact M.na m⟩
  · rcases List.mem_append.mp m with m | m
    · exact M.rl.tr a m
    · simp at m; subst m; rw [M.at_]; simp
  · by_cases hk : k < α.length
    · rw [List.getElem?_append_left hk] at ha
      rw [List.getElem?_append_left (by rw [← M.rl.len]; exact hk)] at hc
      exact (M.rl.ok k c a hc ha).mono ⟨[p], rfl⟩ (Sub.refl G) fun _ => ⟨rfl, fun h => h⟩
    · rw [List.getElem?_append_right (by omega)] at ha
      rw [List.getElem?_append_right (by rw [← M.rl.len]; omega)] at hc
      have e1 : k - α.length = 0 := by
        have := (List.getElem?_eq_some_iff.mp ha).1
        simp at this
        omega
      have e2 : k - S.length = 0 := by rw [← M.rl.len]; exact e1
      rw [e1] at ha
      rw [e2] at hc
      simp at ha hc
      subst ha
      subst hc
      exact .mkL M.at_ (mono r) M.ng
  · obtain ⟨β, rfl⟩ := M.ext.pre
    exact ⟨β ++ [p], by simp⟩
  · rcases List.mem_append.mp m with m | m
    · exact M.ext.na a m
    · simp at m; subst m; exact .inr hp
  · unfold Rep
    exact ⟨p, rfl, by rw [← M.rl.len]; simp⟩
def PostL (Γ : Gm) (E : XK) (α1 : List Addr) (G1 H1 : Hp) (p : Addr) (acc : List D) (r : Res (List D)) (Q : VK) : Prop := match r with
  | .ok xs S' => ∀ α G H vs, Mid Γ α1 G1 H1 p α G S' H vs → RepL Γ α G (acc ++ xs) vs → Q (.ref p) H
  | .ex e S' => ∀ α G H c x, Ext α1 G1 H1 α G H → Rl Γ α G S' H → ExR Γ α G e c x H → E c x H
  | .no => False
theorem snd_lc {Γ : Gm} {wi : TI} {mi : MA} {g : TG} {mg : MG} {js vs : List Nat} {tt : TT} {te : TE} (hi : SndI Γ E wi mi) (hg : SndG Γ E g mg js) (ht : SndT Γ E tt mt) (he : SndE Γ E te m) (hj : ∀ j ∈ js, j ∈ vs) (cellQ : Bool) :
    SndE Γ E (tLc wi g tt te vs) (if cellQ then mLcC mi mg mt m vs else mLc mi mg mt m vs) := fun ρ S σ α G H Q hρ hR hp => by
  have main : ∀ ds S1 α1 G1 H1 J, Ext α G H α1 G1 H1 → Rl Γ α1 G1 S1 H1 → Steps Γ α1 G1 ds J → ds.length ≤ 100000 → ∀ p, H1 p = none → PostL Γ E α1 G1 H1 p [] (lcL mg mt m (wp ρ vs) ds S1) Q → ∃ W : Nat → Nat → Hp → Prop, (∃ m, W 0 m (upd H1 p (.lst []))) ∧ ∀ i m H, W i m H →
      (J.stop i H ∧ Q (.ref p) H) ∨ (J.go i H ∧ ∃ Nx : Hp → Prop, (∀ H', Nx H' → ∃ m', m' < m ∧ W (i + 1) m' H') ∧ ∀ x H', J.yld i H x H' → g x (wipe σ vs) H' fun σ2 H2 => wipe σ2 vs = wipe σ vs ∧ tt σ2 H2 fun b H3 =>
        if b = true then te σ2 H3 fun y H4 => ∃ acc, H4 p = some (.lst acc) ∧ acc.length < sizeLine ∧ Nx (upd H4 p (.lst (acc ++ [y]))) else Nx H3) := by
    intro ds S1 α1 G1 H1 J e1 R1 st hl p hp0 hq
    have hpa : p ∉ α1 := fun z => R1.tr p z hp0
    have hpg : G1 p = none := R1.gnone hp0
    refine ⟨fun i k H => k = ds.length - i ∧ i ≤ ds.length ∧ ∃ S2 α2 G2 acc ws, Mid Γ α1 G1 H1 p α2 G2 S2 H ws ∧ RepL Γ α2 G2 acc ws ∧ acc.length ≤ i ∧ PostL Γ E α1 G1 H1 p acc (lcL mg mt m (wp ρ vs) (ds.drop i) S2) Q,
      ⟨ds.length, by simp, Nat.zero_le _, S1, α1, G1, [], [], ⟨(Ext.refl _ _ _).patch hp0 _, R1.patch hpa hpg _, upd_same, hpa, hpg⟩, by simp [RepL], Nat.le_refl _, by simpa using hq⟩, ?_⟩
    rintro i k H2 ⟨rfl, hle, S2, α2, G2, acc, ws, M2, r2, ha2, hq2⟩
    obtain ⟨stop, go⟩ := st i α2 G2 H2 S2 M2.ext.pre M2.ext.sub M2.rl
    by_cases hlt : i < ds.length
    · have hd : ds[i]? = some ds[i] := List.getElem?_eq_getElem hlt
      obtain ⟨hgo, hy⟩ := go _ hd
      refine .inr ⟨hgo, fun H' => ∃ S2 α2 G2 acc ws, Mid Γ α1 G1 H1 p α2 G2 S2 H' ws ∧ RepL Γ α2 G2 acc ws ∧ acc.length ≤ i + 1 ∧ PostL Γ E α1 G1 H1 p acc (lcL mg mt m (wp ρ vs) (ds.drop (i + 1)) S2) Q, fun H' z => ⟨ds.length - (i + 1), by omega, rfl, hlt, z⟩, fun x H3 y3 => ?_⟩
      obtain ⟨G3, R3, e3, rx⟩ := hy x H3 y3
      have M3 := M2.step e3 R3
      rw [List.drop_eq_getElem_cons hlt] at hq2
      simp only [lcL] at hq2
      have hρ3 : EnvR Γ α2 G3 (wp ρ vs) (wipe σ vs) := by
        have := (hρ.mono e1).mono (M3.ext)
        exact this.wp vs
      refine hg ds[i] (wp ρ vs) S2 (wipe σ vs) α2 G3 H3 x _ hρ3 R3 rx ?_
      cases q4 : mg ds[i] (wp ρ vs) S2 with
      | no => rw [q4] at hq2; exact hq2.elim
      | ex e' S' =>
        rw [q4] at hq2
        exact fun α' G' H' c x e R r => hq2 α' G' H' c x (M3.ext.trans e) R r
      | ok ρ4 S4 =>
        rw [q4] at hq2
        dsimp only [Res.bind] at hq2
        intro α4 G4 H4 σ4 e4 R4 r4 ⟨l4, o4⟩
        have M4 := M3.step e4 R4
        refine ⟨wipe_same l4 o4 hj, ?_⟩
        refine ht ρ4 S4 σ4 α4 G4 H4 _ r4 R4 ?_
        cases q5 : mt ρ4 S4 with
        | no => rw [q5] at hq2; exact hq2.elim
        | ex e' S' =>
          rw [q5] at hq2
          exact fun α' G' H' c x e R r => hq2 α' G' H' c x (M4.ext.trans e) R r
        | ok b S5 =>
          rw [q5] at hq2
          dsimp only [Res.bind] at hq2
          intro α5 G5 H5 b' e5 R5 rb
          have rb : b = b' := rb
          subst rb
          have M5 := M4.step e5 R5
          have r5 : RepL Γ α5 G5 acc ws := RepL.mono e5.pre e5.sub _ _ (RepL.mono e4.pre e4.sub _ _ (RepL.mono e3.pre e3.sub _ _ r2))
          cases b with
          | false => exact iteF ⟨S5, α5, G5, acc, ws, M5, r5, by omega, hq2⟩
          | true =>
            refine iteT (he ρ4 S5 σ4 α5 G5 H5 _ (r4.mono e5) R5 ?_)
            cases q6 : m ρ4 S5 with
            | no => rw [q6] at hq2; exact hq2.elim
            | ex e' S' =>
              rw [q6] at hq2
              exact fun α' G' H' c x e R r => hq2 α' G' H' c x (M5.ext.trans e) R r
            | ok v S6 =>
              rw [q6] at hq2
              dsimp only [Res.bind] at hq2
              intro α6 G6 H6 y e6 R6 ry
              have M6 := M5.step e6 R6
              have r6 : RepL Γ α6 G6 acc ws := RepL.mono e6.pre e6.sub _ _ r5
              refine ⟨ws, M6.at_, ?_, S6, α6, G6, acc ++ [v], ws ++ [y], M6.push hp0 _, r6.append (by unfold RepL; exact ⟨y, [], rfl, ry, by simp [RepL]⟩), by simp; omega, ?_⟩
              · rw [← r6.length]
                exact Nat.lt_of_le_of_lt (by omega : acc.length ≤ 100000) (by decide)
              · cases q7 : lcL mg mt m (wp ρ vs) (ds.drop (i + 1)) S6 with
                | no => rw [q7] at hq2; exact hq2.elim
                | ex e' S' => rw [q7] at hq2; exact hq2
                | ok xs S7 =>
                  rw [q7] at hq2
                  intro α7 G7 H7 vs7 M7 r7
                  refine hq2 α7 G7 H7 vs7 M7 ?_
                  rw [List.append_assoc] at r7
                  exact r7
    · refine .inl ⟨stop (by omega), ?_⟩
      rw [List.drop_of_length_le (by omega)] at hq2
      exact hq2 α2 G2 H2 ws M2 (by simpa using r2)
  refine hi ρ S σ α G H _ hρ hR ?_
  cases cellQ with
  | false =>
    simp only [Bool.false_eq_true, if_false, mLc] at hp
    cases q : mi ρ S with
    | no => rw [q] at hp; exact hp
    | ex e S' => rw [q] at hp; exact hp
    | ok ds S1 =>
      rw [q] at hp
      intro α1 G1 H1 J e1 R1 st p hp0
      have hp := (show Post Γ (Rep Γ) α G H (if ds.length ≤ 100000 then _ else _) Q E from hp)
      split at hp
      · rename_i hl
        have hp1 := Post.mono hp e1
        refine main ds S1 α1 G1 H1 J e1 R1 st hl p hp0 ?_
        cases q2 : lcL mg mt m (wp ρ vs) ds S1 with
        | no => rw [q2] at hp1; exact hp1.elim
        | ex e S' => rw [q2] at hp1; exact hp1
        | ok xs S2 =>
          rw [q2] at hp1
          intro α2 G2 H2 ws M r
          obtain ⟨R3, e3⟩ := M.done hp0
          have r' : RepL Γ α2 (upd G2 p (.lst ws)) xs ws := RepL.mono (α := α2) ⟨[], by simp⟩ (Sub.new M.ng) xs ws (by simpa using r)
          exact hp1 α2 _ H2 (.ref p) e3 R3 (rep_lst upd_same r')
      · exact hp.elim
  | true =>
    simp only [if_true, mLcC] at hp
    cases q : mi ρ S with
    | no => rw [q] at hp; exact hp
    | ex e S' => rw [q] at hp; exact hp
    | ok ds S1 =>
      rw [q] at hp
      intro α1 G1 H1 J e1 R1 st p hp0
      have hp := (show Post Γ (Rep Γ) α G H (if ds.length ≤ 100000 then _ else _) Q E from hp)
      split at hp
      · rename_i hl
        have hp1 := Post.mono hp e1
        refine main ds S1 α1 G1 H1 J e1 R1 st hl p hp0 ?_
        cases q2 : lcL mg mt m (wp ρ vs) ds S1 with
        | no => rw [q2] at hp1; exact hp1.elim
        | ex e S' => rw [q2] at hp1; exact hp1
        | ok xs S2 =>
          rw [q2] at hp1
          intro α2 G2 H2 ws M r
          obtain ⟨R3, e3, r3⟩ := M.cell hp0 (by simpa using r)
          exact hp1 _ _ H2 (.ref p) e3 R3 r3
      · exact hp.elim
structure QTs (X : Cx) (cl : Nat → Addr) (E : XK) (ifs : List Expr) (m : MT) : Prop where
  ex : ∃ t, PTs X ifs t ∧ SndT ⟨X.K, cl⟩ E t m
def mYes : MT := fun _ S => .ok true S
theorem snd_yes {Γ : Gm} : SndT Γ E tYes mYes := fun ρ S σ α G H Q hρ hR hp => post_ok (x := true) hp hR rfl
end
section
variable {X : Cx} {cl : Nat → Addr} {E : XK} {m : ME} {mt : MT} {pos : Pos}
def tE (Γ : Gm) (E : XK) (m : ME) : TE := fun σ H Q => ∃ ρ S α G, EnvR Γ α G ρ σ ∧ Rl Γ α G S H ∧ Post Γ (Rep Γ) α G H (m ρ S) Q E
def tT (Γ : Gm) (E : XK) (m : MT) : TT := fun σ H Q => ∃ ρ S α G, EnvR Γ α G ρ σ ∧ Rl Γ α G S H ∧ Post Γ RB α G H (m ρ S) Q E
def tG (Γ : Gm) (E : XK) (mg : MG) (js : List Nat) : TG := fun v σ H Q => ∃ d ρ S α G, EnvR Γ α G ρ σ ∧ Rl Γ α G S H ∧ Rep Γ α G d v ∧ Post Γ (EnvR Γ) α G H (mg d ρ S) (fun σ' H' => σ'.length = σ.length ∧ (∀ i, i ∉ js → σ'[i]? = σ[i]?) → Q σ' H') E
theorem QE.can {e : Expr} (h : QE X cl E e m) : PE X e (tE ⟨X.K, cl⟩ E m) := by
  obtain ⟨t, h1, h2⟩ := h.ex
  exact ⟨fun pins s σ H Q I ⟨ρ, S, α, G, hρ, hR, hp⟩ => h1.run pins s σ H Q I (h2 ρ S σ α G H Q hρ hR hp)⟩
theorem QT.can {e : Expr} (h : QT X cl E e mt) : PT X e (tT ⟨X.K, cl⟩ E mt) := by
  obtain ⟨t, h1, h2⟩ := h.ex
  exact ⟨fun pins s σ H Q I ⟨ρ, S, α, G, hρ, hR, hp⟩ => h1.run pins s σ H Q I (h2 ρ S σ α G H Q hρ hR hp)⟩
theorem QG.can {e : Expr} {mg : MG} {js : List Nat} (h : QG X cl E e mg js) : PG X e (tG ⟨X.K, cl⟩ E mg js) := by
  obtain ⟨t, h1, h2⟩ := h.ex
  exact ⟨fun pins s σ H v u Q I r ⟨d, ρ, S, α, G, hρ, hR, rd, hp⟩ => h1.run pins s σ H v u Q I r (h2 d ρ S σ α G H v Q hρ hR rd hp)⟩
theorem snd_tE {Γ : Gm} : SndE Γ E (tE Γ E m) m := fun ρ S σ α G H Q hρ hR hp => ⟨ρ, S, α, G, hρ, hR, hp⟩
theorem snd_tT {Γ : Gm} : SndT Γ E (tT Γ E mt) mt := fun ρ S σ α G H Q hρ hR hp => ⟨ρ, S, α, G, hρ, hR, hp⟩
theorem snd_tG {Γ : Gm} {mg : MG} {js : List Nat} : SndG Γ E (tG Γ E mg js) mg js := fun d ρ S σ α G H v Q hρ hR rd hp => ⟨d, ρ, S, α, G, hρ, hR, rd, hp⟩
abbrev Blk (X : Cx) (scope : Scope) (s : Shared) (H : Hp) (C : Addr) (c : List (Str × Addr)) (fp : List Addr) : Cx := X.blk s H scope (compEnvC scope c C X.env) fp
variable {elt tg iter c : Expr} {scope : Scope} {mi : MA} {mg : MG} {js : List Nat}
theorem q_lc (own : List (Str × Nat)) (hi : QI X cl E tg iter mi) (hN : X.N.Nodup) (ok : BlkOk X.N X.env.scope scope own)
    (hg : ∀ (s : Shared) (H : Hp) (C : Addr) (c : List (Str × Addr)) (fp : List Addr), QG (Blk X scope s H C c fp) cl E tg mg js)
    (he : ∀ (s : Shared) (H : Hp) (C : Addr) (c : List (Str × Addr)) (fp : List Addr), QE (Blk X scope s H C c fp) cl E elt m)
    (hj : ∀ j ∈ js, j ∈ own.map (·.2) := by decide) (hc : X.calm = true := by rfl) (hs : ∀ x, foldedSetIterable iter X.env x = pure x := by intro _; rfl) :
    QE X cl E (.ListComp elt [⟨tg, iter, [], 0⟩] scope pos) (mLc mi mg mYes m (own.map (·.2))) := by
  obtain ⟨wi, h1, h2⟩ := hi.ex
  exact ⟨_, pe_lc hc hN h1 ok (fun s H C c fp => (hg s H C c fp).can) (fun _ _ _ _ _ => pts_nil) (fun s H C c fp => (he s H C c fp).can) hs, snd_lc (Γ := ⟨X.K, cl⟩) h2 snd_tG snd_yes snd_tE hj false⟩
theorem qs_setLc (i : Nat) {y : Str} {py spos : Pos} {ifs : List Expr} (own : List (Str × Nat)) (cellQ : Bool) (hi : QI X cl E tg iter mi) (hN : X.N.Nodup) (ok : BlkOk X.N X.env.scope scope own)
    (hg : ∀ (s : Shared) (H : Hp) (C : Addr) (c : List (Str × Addr)) (fp : List Addr), QG (Blk X scope s H C c fp) cl E tg mg js)
    (ht : ∀ (s : Shared) (H : Hp) (C : Addr) (c' : List (Str × Addr)) (fp : List Addr), PTs (Blk X scope s H C c' fp) ifs (tT ⟨X.K, cl⟩ E mt))
    (he : ∀ (s : Shared) (H : Hp) (C : Addr) (c : List (Str × Addr)) (fp : List Addr), QE (Blk X scope s H C c fp) cl E elt m)
    (hj : ∀ j ∈ js, j ∈ own.map (·.2) := by decide) (hy : X.N[i]? = some y := by rfl) (hyl : X.env.scope.names.lookup y = some .local := by rfl) (hc : X.calm = true := by rfl)
    (hsw : swapsWith (.ListComp elt [⟨tg, iter, ifs, 0⟩] scope pos) (some (.Name y py)) spos.line X.env = pure true := by exact sw_true rfl rfl rfl (by decide +kernel)) (hs : ∀ x, foldedSetIterable iter X.env x = pure x := by intro _; rfl) :
    QS X cl E (.Assign [.Name y py] (.ListComp elt [⟨tg, iter, ifs, 0⟩] scope pos) spos) (mAsg (if cellQ then mLcC mi mg mt m (own.map (·.2)) else mLc mi mg mt m (own.map (·.2))) (mgN i)) := by
  obtain ⟨wi, h1, h2⟩ := hi.ex
  exact ⟨_, ps_setLc hc hN hy hyl hsw h1 ok (fun s H C c fp => (hg s H C c fp).can) ht (fun s H C c fp => (he s H C c fp).can) hs, snd_asg (snd_lc (Γ := ⟨X.K, cl⟩) h2 snd_tG snd_tT snd_tE hj cellQ) (sndg_name i)⟩
theorem ts_nil : PTs X [] (tT ⟨X.K, cl⟩ E mYes) := ⟨fun pins s σ H Q I ⟨ρ, S, α, G, hρ, hR, hp⟩ => pts_nil.run pins s σ H Q I (snd_yes ρ S σ α G H Q hρ hR hp)⟩
theorem ts_one (h : QT X cl E c mt) : PTs X [c] (tT ⟨X.K, cl⟩ E mt) := pts_one h.can
end
mutual
def belowD (n : Nat) : D → Bool
  | .ref k => decide (k < n)
  | .tup xs => belowL n xs
  | .lst xs => belowL n xs
  | .fro xs => belowL n xs
  | .obj _ fs => belowL n fs
  | .exn _ fs => belowL n fs
  | .non => true
  | .bl _ => true
  | .int _ => true
  | .str _ => true
def belowL (n : Nat) : List D → Bool
  | [] => true
  | d :: ds => belowD n d && belowL n ds
end
mutual
theorem below_pure (n : Nat) : ∀ (d : D), pureD d = true → belowD n d = true
  | .non, _ => by simp [belowD]
  | .bl b, _ => by simp [belowD]
  | .int i, _ => by simp [belowD]
  | .str s, _ => by simp [belowD]
  | .tup ds, p => by simp only [belowD]; exact belowL_pure n ds (by simpa [pureD] using p)
  | .lst ds, p => by simp only [belowD]; exact belowL_pure n ds (by simpa [pureD] using p)
  | .fro ds, p => by simp only [belowD]; exact belowL_pure n ds (by simpa [pureD] using p)
  | .obj c ds, p => by simp only [belowD]; exact belowL_pure n ds (by simpa [pureD] using p)
  | .exn c ds, p => by simp only [belowD]; exact belowL_pure n ds (by simpa [pureD] using p)
  | .ref k, p => by simp [pureD] at p
theorem belowL_pure (n : Nat) : ∀ (ds : List D), pureL ds = true → belowL n ds = true
  | [], _ => by simp [belowL]
  | d :: ds, p => by
    simp only [pureL, Bool.and_eq_true] at p
    simp only [belowL, Bool.and_eq_true]
    exact ⟨below_pure n d p.1, belowL_pure n ds p.2⟩
end
mutual
theorem below_rep {Γ : Gm} {α β : List Addr} {G : Hp} : ∀ (d : D) (v : V), belowD α.length d = true → Rep Γ (α ++ β) G d v → Rep Γ α G d v
  | .non, v, _, h => by simpa [Rep] using h
  | .bl b, v, _, h => by simpa [Rep] using h
  | .int i, v, _, h => by simpa [Rep] using h
  | .str s, v, _, h => by simpa [Rep] using h
  | .tup ds, v, p, h => by
    unfold Rep at h ⊢
    obtain ⟨a, vs, e, q, r⟩ := h
    exact ⟨a, vs, e, q, belowL_rep ds vs (by simpa [belowD] using p) r⟩
  | .lst ds, v, p, h => by
    unfold Rep at h ⊢
    obtain ⟨a, vs, e, q, r⟩ := h
    exact ⟨a, vs, e, q, belowL_rep ds vs (by simpa [belowD] using p) r⟩
  | .fro ds, v, p, h => by
    unfold Rep at h ⊢
    obtain ⟨a, vs, e, q, r⟩ := h
    exact ⟨a, vs, e, q, belowL_rep ds vs (by simpa [belowD] using p) r⟩
  | .obj c ds, v, p, h => by
    unfold Rep at h ⊢
    obtain ⟨a, vs, e, q, r⟩ := h
    exact ⟨a, vs, e, q, belowL_rep ds vs (by simpa [belowD] using p) r⟩
  | .exn c ds, v, p, h => by
    unfold Rep at h ⊢
    obtain ⟨a, vs, e, q, r⟩ := h
    exact ⟨a, vs, e, q, belowL_rep ds vs (by simpa [belowD] using p) r⟩
  | .ref k, v, p, h => by
    unfold Rep at h ⊢
    obtain ⟨a, e, q⟩ := h
    have hk : k < α.length := by simpa [belowD] using p
    exact ⟨a, e, by rw [List.getElem?_append_left hk] at q; exact q⟩
theorem belowL_rep {Γ : Gm} {α β : List Addr} {G : Hp} : ∀ (ds : List D) (vs : List V), belowL α.length ds = true → RepL Γ (α ++ β) G ds vs → RepL Γ α G ds vs
  | [], vs, _, h => by simpa [RepL] using h
  | d :: ds, vs, p, h => by
    unfold RepL at h ⊢
    obtain ⟨v, r, e, h1, h2⟩ := h
    simp only [belowL, Bool.and_eq_true] at p
    exact ⟨v, r, e, below_rep d v p.1 h1, belowL_rep ds r p.2 h2⟩
end
def Cell.pure : Cell → Bool
  | .lst ds => pureL ds
  | .frz ds => pureL ds
  | .dk _ kvs => kvs.all fun p => pureD p.2
  | .dt _ kvs => kvs.all fun p => pureD p.2
  | .ob _ fs => fs.all fun o => match o with
    | some d => pureD d
    | none => true
def Cell.below (n : Nat) : Cell → Bool
  | .lst ds => belowL n ds
  | .frz ds => belowL n ds
  | .dk _ kvs => kvs.all fun p => belowD n p.2
  | .dt _ kvs => kvs.all fun p => belowD n p.2
  | .ob _ fs => fs.all fun o => match o with
    | some d => belowD n d
    | none => true
theorem Cell.below_of {c : Cell} (n : Nat) (h : c.pure = true) : c.below n = true := by
  cases c with
  | lst ds => exact belowL_pure n ds h
  | frz ds => exact belowL_pure n ds h
  | dk l kvs => exact List.all_eq_true.mpr fun p hp => below_pure n _ (List.all_eq_true.mp h p hp)
  | dt l kvs => exact List.all_eq_true.mpr fun p hp => below_pure n _ (List.all_eq_true.mp h p hp)
  | ob l fs =>
    refine List.all_eq_true.mpr fun p hp => ?_
    have := List.all_eq_true.mp h p hp
    cases p with
    | none => rfl
    | some d => exact below_pure n d this
theorem below_all {S : Store} (n : Nat) (h : S.all Cell.pure = true) : S.all (Cell.below n) = true := List.all_eq_true.mpr fun c hc => Cell.below_of n (List.all_eq_true.mp h c hc)
def fin (n : Nat) (d : D) (S : Store) : Res D := if S.length = n then .ok d S else if belowD n d && (S.take n).all (Cell.below n) then .ok d (S.take n) else .no
theorem fin_ok {n : Nat} {d : D} {S : Store} (h : n < S.length) (hd : pureD d = true) (hp : (S.take n).all Cell.pure = true) : fin n d S = .ok d (S.take n) := by
  unfold fin
  rw [if_neg (by omega), below_pure n d hd, below_all n hp]
  rfl
def endM (n : Nat) (r : Res Fl) : Res D := match r with
  | .ok (.nx _) S => fin n .non S
  | .ok (.rt d) S => fin n d S
  | _ => .no
def fnM (nN nP : Nat) (n : MS) : List D → Store → Res D := fun ds S => if ds.length = nP then endM S.length (n (ds.map some ++ List.replicate (nN - nP) none) S) else .no
theorem repKV_below {Γ : Gm} {α β : List Addr} {G : Hp} {κ : Type} : ∀ (kvs : List (κ × D)) (ws : List (κ × V)), (kvs.all fun p => belowD α.length p.2) = true → RepKV Γ (α ++ β) G kvs ws → RepKV Γ α G kvs ws
  | [], ws, _, h => by simpa [RepKV] using h
  | (k, d) :: r, ws, p, h => by
    unfold RepKV at h ⊢
    obtain ⟨v, t, e, h1, h2⟩ := h
    rw [List.all_cons, Bool.and_eq_true] at p
    exact ⟨v, t, e, below_rep d v p.1 h1, repKV_below r t p.2 h2⟩
theorem Rl.cut {Γ : Gm} {α α' : List Addr} {G H G' H' : Hp} {S S' : Store} (e : Ext α G H α' G' H') (R : Rl Γ α' G' S' H') (R0 : Rl Γ α G S H) (hp : (S'.take S.length).all (Cell.below S.length) = true) : Rl Γ α G' (S'.take S.length) H' ∧ Ext α G H α G' H' := by
  obtain ⟨β, rfl⟩ := e.pre
  have hl : S.length ≤ S'.length := by rw [← R.len, ← R0.len]; simp
  refine ⟨⟨R.sub, by rw [R0.len, List.length_take]; omega, R0.nd, fun a m => R.tr a (List.mem_append_left _ m), fun k c a hc ha => ?_⟩, ⟨⟨[], by simp⟩, e.sub, e.fr, fun a m => .inl m, e.ng⟩⟩
  have hk : k < α.length := (List.getElem?_eq_some_iff.mp ha).1
  have hc' : S'[k]? = some c := by
    rw [List.getElem?_take_of_lt (by rw [← R0.len]; exact hk)] at hc
    exact hc
  obtain ⟨o, z, w⟩ := R.ok k c a hc' (by rw [List.getElem?_append_left hk]; exact ha)
  have pc : c.below α.length = true := by rw [R0.len]; exact List.all_eq_true.mp hp c (List.mem_of_getElem? hc)
  refine ⟨o, ?_, w⟩
  cases c with
  | lst ds =>
    obtain ⟨vs, h1, h2⟩ := z
    exact ⟨vs, h1, belowL_rep ds vs pc h2⟩
  | frz ds =>
    obtain ⟨vs, h1, h2⟩ := z
    exact ⟨vs, h1, belowL_rep ds vs pc h2⟩
  | dk l kvs =>
    obtain ⟨ws, h1, h2⟩ := z
    exact ⟨ws, repKV_below kvs ws pc h1, h2⟩
  | dt l kvs =>
    obtain ⟨ws, h1, h2⟩ := z
    exact ⟨ws, repKV_below kvs ws pc h1, h2⟩
  | ob l fs =>
    obtain ⟨dx, vs, h1, h2, h3⟩ := z
    refine ⟨dx, vs, h1, h2, fun i d hd => ?_⟩
    obtain ⟨v, e1, r1⟩ := h3 i d hd
    exact ⟨v, e1, below_rep d v (List.all_eq_true.mp pc _ (List.mem_of_getElem? hd)) r1⟩
theorem fin_post {Γ : Gm} {E : XK} {α : List Addr} {G H : Hp} {S : Store} {d : D} {S' : Store} {Q : VK} (R0 : Rl Γ α G S H) (hp : Post Γ (Rep Γ) α G H (fin S.length d S') Q E) : ∀ α' G' H' v, Ext α G H α' G' H' → Rl Γ α' G' S' H' → Rep Γ α' G' d v → Q v H' := by
  intro α' G' H' v e R r
  unfold fin at hp
  split at hp
  · exact hp α' G' H' v e R r
  · split at hp
    · rename_i hc
      rw [Bool.and_eq_true] at hc
      obtain ⟨R1, e1⟩ := Rl.cut e R R0 hc.2
      obtain ⟨β, rfl⟩ := e.pre
      exact hp α G' H' v e1 R1 (below_rep d v (by rw [R0.len]; exact hc.1) r)
    · exact hp.elim
section
variable {P : Program} {w : World} {K : PySem.W.Frag} {mg : Str → Option Value} {base : Heap}
theorem envR_start {Γ : Gm} {α : List Addr} {G : Hp} {ds : List D} {vs : List V} {N : List Str} (r : RepL Γ α G ds vs) : EnvR Γ α G (ds.map some ++ List.replicate (N.length - vs.length) none) (L2.start N vs) := by
  have hl := r.length
  unfold L2.start
  refine ⟨by simp [hl], fun i d hd => ?_⟩
  by_cases hi : i < ds.length
  · rw [List.getElem?_append_left (by simpa using hi), List.getElem?_map] at hd
    cases q : ds[i]? with
    | none => simp [q] at hd
    | some e =>
      simp only [q, Option.map_some, Option.some.injEq] at hd
      subst hd
      obtain ⟨v, hv, rv⟩ := r.get q
      exact ⟨v, by rw [List.getElem?_append_left (by simpa [← hl] using hi), List.getElem?_map, hv]; rfl, rv⟩
  · rw [List.getElem?_append_right (by simpa using hi), List.getElem?_replicate] at hd
    split at hd <;> cases hd
open PySem.Spec PyProof.Rows in
theorem fn_ok {x qual : Str} {st : Stmt} {f : Addr} {fd : FuncData} {N ps : List Str} {k : Nat} {cl : Nat → Addr} (nN nP : Nat) {n : MS} (F : Fun K x qual st f fd) (S : FnScope N ps (defScope st))
    (hbody : ∀ (cdv : Value) (A : Around) (outer : List PySem.Env) (s : Shared) (H : Hp) (E : XK), Room k (A.deeper (envOfC qual (defScope st) s.heap.objs.size f cdv)) → QSs (cxOf CX0 P w K mg base N qual (defScope st) f cdv A outer s H E).nox cl E0 (defBody st) n)
    (hN : N.length = nN := by rfl) (hP : ps.length = nP := by rfl) : FnOk P w K mg base CX0 (k + 1) f fd ps (spM ⟨K, cl⟩ (fnM nN nP n)) := by
  refine F.ok S (fun vs H Q E h => ?_) (fun cdv A outer s H vs Q E hr h => ?_)
  · obtain ⟨ds, α, G, S, r, hR, hp⟩ := h
    unfold fnM at hp
    split at hp
    · rename_i e
      rw [← r.length, e, hP]
    · exact hp.elim
  · obtain ⟨ds, α, G, S', r, hR, hp⟩ := h
    obtain ⟨t, h1, h2⟩ := (hbody cdv A outer s H E hr).ex
    refine ⟨t, h1, ?_⟩
    unfold fnM at hp
    split at hp
    · rename_i e
      rw [← hN, ← hP, show ps.length = vs.length by rw [hP, ← e, r.length]] at hp
      refine h2 _ S' _ α G H _ (envR_start r) hR ?_
      revert hp
      cases n (ds.map some ++ List.replicate (N.length - vs.length) none) S' with
      | no => exact id
      | ex e S2 => exact fun hp => hp.elim
      | ok fl S2 =>
        cases fl with
        | nx ρ => exact fun hp α' G' H' σ' e R _ => fin_post hR hp α' G' H' .non e R (by simp [Rep])
        | rt d => exact fun hp α' G' H' v e R r => fin_post hR hp α' G' H' v e R r
        | bk ρ => exact fun hp => hp.elim
        | ct ρ => exact fun hp => hp.elim
    · exact hp.elim
def endC (r : Res Fl) : Res D := match r with
  | .ok (.nx _) S => .ok .non S
  | .ok (.rt d) S => .ok d S
  | _ => .no
def fnC (nN nP : Nat) (n : MS) : List D → Store → Res D := fun ds S => if ds.length = nP then endC (n (ds.map some ++ List.replicate (nN - nP) none) S) else .no
open PySem.Spec PyProof.Rows in
theorem fn_okC {x qual : Str} {st : Stmt} {f : Addr} {fd : FuncData} {N ps : List Str} {k : Nat} {cl : Nat → Addr} (nN nP : Nat) {n : MS} (F : Fun K x qual st f fd) (S : FnScope N ps (defScope st))
    (hbody : ∀ (cdv : Value) (A : Around) (outer : List PySem.Env) (s : Shared) (H : Hp) (E : XK), Room k (A.deeper (envOfC qual (defScope st) s.heap.objs.size f cdv)) → QSs (cxOf CX0 P w K mg base N qual (defScope st) f cdv A outer s H E).nox cl E0 (defBody st) n)
    (hN : N.length = nN := by rfl) (hP : ps.length = nP := by rfl) : FnOk P w K mg base CX0 (k + 1) f fd ps (spM ⟨K, cl⟩ (fnC nN nP n)) := by
  refine F.ok S (fun vs H Q E h => ?_) (fun cdv A outer s H vs Q E hr h => ?_)
  · obtain ⟨ds, α, G, S, r, hR, hp⟩ := h
    unfold fnC at hp
    split at hp
    · rename_i e
      rw [← r.length, e, hP]
    · exact hp.elim
  · obtain ⟨ds, α, G, S', r, hR, hp⟩ := h
    obtain ⟨t, h1, h2⟩ := (hbody cdv A outer s H E hr).ex
    refine ⟨t, h1, ?_⟩
    unfold fnC at hp
    split at hp
    · rename_i e
      rw [← hN, ← hP, show ps.length = vs.length by rw [hP, ← e, r.length]] at hp
      refine h2 _ S' _ α G H _ (envR_start r) hR ?_
      revert hp
      cases n (ds.map some ++ List.replicate (N.length - vs.length) none) S' with
      | no => exact id
      | ex e S2 => exact fun hp => hp.elim
      | ok fl S2 =>
        cases fl with
        | nx ρ => exact fun hp α' G' H' σ' e R _ => hp α' G' H' .non e R (by simp [Rep])
        | rt d => exact fun hp α' G' H' v e R r => hp α' G' H' v e R r
        | bk ρ => exact fun hp => hp.elim
        | ct ρ => exact fun hp => hp.elim
    · exact hp.elim
theorem fn_none {CX : CXT} {f : Addr} {fd : FuncData} {ps : List Str} {k : Nat} {cl : Nat → Addr} : FnOk P w K mg base CX k f fd ps (spM ⟨K, cl⟩ fun _ _ => .no) :=
  ⟨fun vs H Q E ⟨_, _, _, _, _, _, h⟩ => h.elim, fun A outer s H args us vs Q E _ _ _ _ ⟨_, _, _, _, _, _, h⟩ => h.elim⟩
def spLaw (K : PySem.W.Frag) : Sp := fun vs H Q _ => ∃ (a : Addr) (ns : List Int), vs = [.ref a] ∧ SqL K H a (ns.map V.int) ∧ ns.length ≤ 63 ∧ ∀ H', Q (.bl true) H'
def scriptD (ns : List Int) : D := .fro (ns.map D.int)
theorem repL_ints {Γ : Gm} {α : List Addr} {G : Hp} : ∀ ns : List Int, RepL Γ α G (ns.map D.int) (ns.map V.int)
  | [] => by simp [RepL]
  | n :: ns => by
    show RepL Γ α G (.int n :: ns.map D.int) (.int n :: ns.map V.int)
    unfold RepL
    exact ⟨.int n, _, rfl, by simp [Rep], repL_ints ns⟩
theorem law_ok {CX : CXT} {k : Nat} {f : Addr} {fd : FuncData} {ps : List Str} {cl : Nat → Addr} {g : List D → Store → Res D} (F : FnOk P w K mg base CX k f fd ps (spM ⟨K, cl⟩ g)) (h : ∀ ns : List Int, ns.length ≤ 63 → ∃ S, g [scriptD ns] [] = .ok (.bl true) S) : FnOk P w K mg base CX k f fd ps (spLaw K) :=
  F.imp fun vs H Q E ⟨a, ns, e, hs, hl, q⟩ => by
    subst e
    obtain ⟨S, hg⟩ := h ns hl
    refine ⟨[scriptD ns], [], H, [], ?_, ⟨Sub.refl H, rfl, List.nodup_nil, fun a m => (by simp at m), fun k c a h => (by simp at h)⟩, ?_⟩
    · unfold RepL
      exact ⟨.ref a, [], rfl, by unfold scriptD Rep; exact ⟨a, _, rfl, hs, repL_ints ns⟩, by simp [RepL]⟩
    · rw [hg]
      intro α' G' H' v e R r
      simp only [Rep] at r
      subst r
      exact q H'
end
end Q
namespace Q
open PySem L2
section
variable {X : Cx} {cl : Nat → Addr} {E : XK} {a b c e : Expr} {ma mb mc m : ME} {mt mu : MT} {pos : Pos}
def place {β : Type} (idx : List Nat) (xs : List β) : List β := idx.filterMap fun i => xs[i]?
theorem place_cons {β : Type} (i : Nat) (idx : List Nat) (xs : List β) : place (i :: idx) xs = match xs[i]? with
    | some x => x :: place idx xs
    | none => place idx xs := by
  unfold place
  rw [List.filterMap_cons]
  cases xs[i]? <;> rfl
theorem place_rep {Γ : Gm} {α : List Addr} {G : Hp} {ds : List D} {vs : List V} (r : RepL Γ α G ds vs) : ∀ idx : List Nat, RepL Γ α G (place idx ds) (place idx vs)
  | [] => by simp [place, RepL]
  | i :: idx => by
    rw [place_cons, place_cons]
    cases q : ds[i]? with
    | none =>
      have : vs[i]? = none := by
        rw [List.getElem?_eq_none_iff] at q ⊢
        rw [← r.length]; exact q
      rw [this]
      exact place_rep r idx
    | some d =>
      obtain ⟨v, hv, rv⟩ := r.get q
      rw [hv]
      simp only
      unfold RepL
      exact ⟨v, _, rfl, rv, place_rep r idx⟩
theorem place_vals {vs : List V} {us : List Value} (r : Vals vs us) : ∀ idx : List Nat, Vals (place idx vs) (place idx us)
  | [] => .nil
  | i :: idx => by
    rw [place_cons, place_cons]
    cases q : vs[i]? with
    | none =>
      rw [r.none_of q]
      exact place_vals r idx
    | some d =>
      obtain ⟨v, hv, rv⟩ := r.get q
      rw [hv]
      exact .cons rv (place_vals r idx)
theorem kbn {K : PySem.W.Frag} {x qual : Str} {st : Stmt} {f : Addr} {fd : FuncData} {ps ks : List Str} (F : Fun K x qual st f fd) (n : Nat) (idx : List Nat)
    (h : ∀ (kV doc pm : Value) (an : Option Addr) (cdv ct : Value) (us ws : List Value), us.length = n → ws.length = ks.length → bindArgs (PySem.W.fnOf x qual (defArgs st) (defBody st) (defScope st) .none kV doc pm an cdv ct) ⟨us, ks.zip ws⟩ = pure (ps.zip (place idx (us ++ ws)))) :
    KBn K fd ps n ks (fun us ws => place idx (us ++ ws)) (fun us ws => place idx (us ++ ws)) := by
  obtain ⟨oc, od, kV, doc, pm, an, cdv, ct, osl, rfl, lk, hcd⟩ := F.ex
  exact ⟨fun s us ws _ h1 h2 => .of_eq (h kV doc pm an cdv ct us ws h1 h2), fun r1 r2 => place_vals (r1.append r2) idx⟩
structure QK (X : Cx) (cl : Nat → Addr) (E : XK) (kws : List Keyword) (m : MA) : Prop where
  ex : ∃ t, PK X kws t ∧ SndA ⟨X.K, cl⟩ E t m
theorem qk_nil : QK X cl E [] mNil := ⟨_, pk_nil, snd_nil⟩
theorem qk_cons {kws : List Keyword} {n : MA} {nm : Option Str} {kpos : Pos} (h : QE X cl E e m) (k : QK X cl E kws n) : QK X cl E (⟨nm, e, kpos⟩ :: kws) (mCons m n) := by
  obtain ⟨t, h1, h2⟩ := h.ex
  obtain ⟨u, k1, k2⟩ := k.ex
  exact ⟨_, pk_cons h1 k1, snd_cons h2 k2⟩
def mCallK (g : List D → Store → Res D) (i j : Nat) (idx : List Nat) (n nk : MA) : ME := fun ρ S => (n ρ S).bind fun ds S1 => (nk ρ S1).bind fun zs S2 => if ds.length = i ∧ zs.length = j then g (place idx (ds ++ zs)) S2 else .no
theorem snd_callK {Γ : Gm} {sp : Sp} {E' : XK} {g : List D → Store → Res D} {i j : Nat} {idx : List Nat} {n nk : MA} {t tk : TA} (hf : SndC Γ E (fun vs H Q => sp vs H Q E') g) (h : SndA Γ E t n) (k : SndA Γ E tk nk) :
    SndE Γ E (tCallN i j sp (fun us ws => place idx (us ++ ws)) E' t tk) (mCallK g i j idx n nk) := fun ρ S σ α G H Q hρ hR hp =>
  h ρ S σ α G H _ hρ hR (post_bind hp fun ds S1 α1 G1 H1 vs _ e1 R1 r1 hp1 => k ρ S1 σ α1 G1 H1 _ (hρ.mono e1) R1 (post_bind hp1 fun zs S2 α2 G2 H2 ws _ e2 R2 r2 hp2 => by
    split at hp2
    · rename_i hl
      have r1' := RepL.mono e2.pre e2.sub _ _ r1
      exact ⟨by rw [← r1'.length]; exact hl.1, by rw [← r2.length]; exact hl.2, hf _ S2 α2 G2 H2 _ Q R2 (place_rep (r1'.append r2) idx) hp2⟩
    · exact hp2.elim))
theorem pe_callN0 {CX : CXT} {k : Nat} {f : Addr} {fd : FuncData} {ps ks : List Str} {sp : Sp} {x : Str} {p : Pos} {kws : List Keyword} {tk : TA} {g : List Value → List Value → List Value} {gV : List V → List V → List V} {E : XK} (F : FnOk X.prog X.w X.K X.mg X.base CX k f fd ps sp) (hr : Room k X.A) (hg : Gl X x) (hm : X.mg x = some (.ref f)) (hk : PySem.W.keepIn X.K (.ref f) = true) (hb : KBn X.K fd ps 0 ks g gV) (hx : Passes CX X E)
    (hkw : PK X kws tk) (hall : (backToKw pos (keywordEach kws X.env)).all (·.1.isSome) = true) (hks : (backToKw pos (keywordEach kws X.env)).filterMap (·.1) = ks)
    (hdb : (x == ("__debug__" : Str)) = false)
    (hpl : ((backTo pos (starEach [] X.env)).any (·.1) || (backToKw pos (keywordEach kws X.env)).any (·.1.isNone)) = false) :
    PE X (.Call (.Name x p) [] kws pos) (tCallN 0 ks.length sp gV E tNil tk) := by
  refine ⟨fun pins s σ H Q I h => ?_⟩
  refine wpAny_Call_Name_kw (ld_glob I hg hm ?_ hdb)
  refine PySem.W.callWith_KW0 (h₀ := X.base) I.ok.mod.kin hk hall ?_ hpl
  refine thn (hkw.run pos pins s σ H _ I h) fun ws s2 ⟨zs, H2, I2, rz, l1, l2, q2⟩ => ⟨I2.kIn, ?_⟩
  rw [hks]
  exact run_fnN F hr hb hx I2 .nil rz l1 l2 q2
theorem q_callK0 {g f : List D → Store → Res D} {k j : Nat} {idx : List Nat} {fa : Addr} {fd : FuncData} {ps ks : List Str} {x : Str} {p : Pos} {kws : List Keyword} {nk : MA} (F : FnOk X.prog X.w X.K X.mg X.base CX0 k fa fd ps (spM ⟨X.K, cl⟩ f)) (hr : Room k X.A)
    (hg : Gl X x) (hm : X.mg x = some (.ref fa)) (hk : PySem.W.keepIn X.K (.ref fa) = true) (hb : KBn X.K fd ps 0 ks (fun us ws => place idx (us ++ ws)) (fun us ws => place idx (us ++ ws))) (hkw : QK X cl E kws nk) (hf : SndC ⟨X.K, cl⟩ E (fun vs H Q => spM ⟨X.K, cl⟩ f vs H Q E0) g)
    (hall : (backToKw pos (keywordEach kws X.env)).all (·.1.isSome) = true := by rfl) (hks : (backToKw pos (keywordEach kws X.env)).filterMap (·.1) = ks := by rfl)
    (hdb : (x == ("__debug__" : Str)) = false := by decide)
    (hpl : ((backTo pos (starEach [] X.env)).any (·.1) || (backToKw pos (keywordEach kws X.env)).any (·.1.isNone)) = false := by rfl) (hj : ks.length = j := by rfl) :
    QE X cl E (.Call (.Name x p) [] kws pos) (mCallK g 0 j idx mNil nk) := by
  subst hj
  obtain ⟨u, k1, k2⟩ := hkw.ex
  exact ⟨_, pe_callN0 F hr hg hm hk hb pass0 k1 hall hks hdb hpl, snd_callK hf snd_nil k2⟩
def zipD (xs ys : List D) : List D := List.zipWith (fun x y => .tup [x, y]) xs ys
def zipItems (ds : List D) (S : Store) : Res (List D) := match ds with
  | [.tup xs, .tup ys] => .ok (zipD xs ys) S
  | [.lst xs, .lst ys] => .ok (zipD xs ys) S
  | _ => .no
def mZip (n : MA) : MA := fun ρ S => (n ρ S).bind zipItems
theorem zipD_get {xs ys : List D} {i : Nat} {d : D} (h : (zipD xs ys)[i]? = some d) : ∃ x y, xs[i]? = some x ∧ ys[i]? = some y ∧ d = .tup [x, y] := by
  unfold zipD at h
  rw [List.getElem?_zipWith] at h
  cases q1 : xs[i]? with
  | none => simp [q1] at h
  | some x =>
    cases q2 : ys[i]? with
    | none => simp [q1, q2] at h
    | some y =>
      simp only [q1, q2, Option.some.injEq] at h
      exact ⟨x, y, rfl, rfl, h.symm⟩
theorem zipD_len {xs ys : List D} {i : Nat} (h : (zipD xs ys).length ≤ i) : xs.length ≤ i ∨ ys.length ≤ i := by
  unfold zipD at h
  rw [List.length_zipWith] at h
  omega
theorem steps_zip {Γ : Gm} {α : List Addr} {G : Hp} {xs ys : List D} {a b : Addr} {vs ws : List V} (h : SqL Γ.K G a vs) (r : RepL Γ α G xs vs) (h' : SqL Γ.K G b ws) (r' : RepL Γ α G ys ws) : Steps Γ α G (zipD xs ys) (Itz Γ.K a b) := fun i α2 G2 H2 S2 hp hs R2 => by
  have q : SqL Γ.K H2 a vs := (hs.trans R2.sub).sqL h
  have q' : SqL Γ.K H2 b ws := (hs.trans R2.sub).sqL h'
  have r2 : RepL Γ α2 G2 xs vs := RepL.mono hp hs _ _ r
  have r2' : RepL Γ α2 G2 ys ws := RepL.mono hp hs _ _ r'
  refine ⟨fun hl => ⟨vs, ws, q, q', by rw [← r2.length, ← r2'.length]; exact zipD_len hl⟩, fun d hd => ?_⟩
  obtain ⟨x, y, hx, hy, rfl⟩ := zipD_get hd
  obtain ⟨v, hv, rv⟩ := r2.get hx
  obtain ⟨w, hw, rw'⟩ := r2'.get hy
  refine ⟨⟨vs, ws, v, w, q, q', hv, hw⟩, fun z H3 hz => ?_⟩
  obtain ⟨T, x', y', rfl, hT, rfl, f1, f2⟩ := hz
  have e1 := f1 vs q
  have e2 := f2 ws q'
  rw [hv] at e1
  rw [hw] at e2
  cases e1
  cases e2
  obtain ⟨R3, e3⟩ := R2.new hT (.tup [v, w])
  exact ⟨_, R3, e3, rep_tup upd_same (RepL.mono e3.pre e3.sub _ _ (by unfold RepL; exact ⟨v, [w], rfl, rv, by unfold RepL; exact ⟨w, [], rfl, rw', by simp [RepL]⟩⟩))⟩
theorem steps_zipT {Γ : Gm} {α : List Addr} {G : Hp} {xs ys : List D} {a b : Addr} {vs ws : List V} (h : SqT Γ.K G a vs) (r : RepL Γ α G xs vs) (h' : SqT Γ.K G b ws) (r' : RepL Γ α G ys ws) : Steps Γ α G (zipD xs ys) (RZ.ItzT Γ.K a b) := fun i α2 G2 H2 S2 hp hs R2 => by
  have q : SqT Γ.K H2 a vs := (hs.trans R2.sub).sqT h
  have q' : SqT Γ.K H2 b ws := (hs.trans R2.sub).sqT h'
  have r2 : RepL Γ α2 G2 xs vs := RepL.mono hp hs _ _ r
  have r2' : RepL Γ α2 G2 ys ws := RepL.mono hp hs _ _ r'
  refine ⟨fun hl => ⟨vs, ws, q, q', by rw [← r2.length, ← r2'.length]; exact zipD_len hl⟩, fun d hd => ?_⟩
  obtain ⟨x, y, hx, hy, rfl⟩ := zipD_get hd
  obtain ⟨v, hv, rv⟩ := r2.get hx
  obtain ⟨w, hw, rw'⟩ := r2'.get hy
  refine ⟨⟨vs, ws, v, w, q, q', hv, hw⟩, fun z H3 hz => ?_⟩
  obtain ⟨T, x', y', rfl, hT, rfl, f1, f2⟩ := hz
  have e1 := f1 vs q
  have e2 := f2 ws q'
  rw [hv] at e1
  rw [hw] at e2
  cases e1
  cases e2
  obtain ⟨R3, e3⟩ := R2.new hT (.tup [v, w])
  exact ⟨_, R3, e3, rep_tup upd_same (RepL.mono e3.pre e3.sub _ _ (by unfold RepL; exact ⟨v, [w], rfl, rv, by unfold RepL; exact ⟨w, [], rfl, rw', by simp [RepL]⟩⟩))⟩
theorem qi_zip {elts : List Expr} {kk : Nat} {tpos p : Pos} {n : MA} (h : QA X cl E [a, b] n) (hg : Gl X "zip") (hm : X.mg "zip" = none)
    (hs : starEach [a, b] X.env = (false, eval a X.env) :: starEach [b] X.env := by rfl) (hpl : (backTo pos (starEach [b] X.env)).any (·.1) = false := by rfl) : QI X cl E (.Tuple elts kk tpos) (.Call (.Name "zip" p) [a, b] [] pos) (mZip n) := by
  obtain ⟨t, h1, h2⟩ := h.ex
  refine ⟨_, RZ.pi_zipA hg hm h1 hs hpl, fun ρ S σ α G H R hρ hR hp => h2 ρ S σ α G H _ hρ hR (posti_bind hp fun ds S1 α1 G1 H1 vs q1 e1 R1 r1 hp1 => ?_)⟩
  clear q1
  unfold zipItems at hp1
  split at hp1
  · rename_i xs ys
    obtain ⟨v, w, rfl, rv, rw'⟩ := repL2 r1
    unfold Rep at rv rw'
    obtain ⟨p1, vs, rfl, z1, k1⟩ := rv
    obtain ⟨p2, ws, rfl, z2, k2⟩ := rw'
    exact ⟨p1, p2, vs, ws, rfl, .inr ⟨.inl (.inl (R1.sub _ _ z1)), .inl (.inl (R1.sub _ _ z2)), hp1 α1 G1 H1 _ (Ext.refl _ _ _) R1 (steps_zipT (Γ := ⟨X.K, cl⟩) (.inl (.inl z1)) k1 (.inl (.inl z2)) k2)⟩⟩
  · rename_i xs ys
    obtain ⟨v, w, rfl, rv, rw'⟩ := repL2 r1
    unfold Rep at rv rw'
    obtain ⟨p1, vs, rfl, z1, k1⟩ := rv
    obtain ⟨p2, ws, rfl, z2, k2⟩ := rw'
    exact ⟨p1, p2, vs, ws, rfl, .inl ⟨R1.sub.sqL (.inl (.inl z1)), R1.sub.sqL (.inl (.inl z2)), hp1 α1 G1 H1 _ (Ext.refl _ _ _) R1 (steps_zip (Γ := ⟨X.K, cl⟩) (.inl (.inl z1)) k1 (.inl (.inl z2)) k2)⟩⟩
  · exact hp1.elim
def enumD (k : Nat) : List D → List D
  | [] => []
  | d :: ds => .tup [.int (k : Nat), d] :: enumD (k + 1) ds
theorem enumD_len : ∀ (k : Nat) (ds : List D), (enumD k ds).length = ds.length
  | _, [] => rfl
  | k, d :: ds => by simp [enumD, enumD_len (k + 1) ds]
theorem enumD_get : ∀ {k : Nat} {ds : List D} {i : Nat} {d : D}, (enumD k ds)[i]? = some d → ∃ x, ds[i]? = some x ∧ d = .tup [.int ((k + i : Nat) : Int), x]
  | _, [], _, _, h => by simp [enumD] at h
  | k, x :: ds, 0, d, h => by simp [enumD] at h; exact ⟨x, rfl, h.symm⟩
  | k, x :: ds, i + 1, d, h => by
    simp only [enumD, List.getElem?_cons_succ] at h
    obtain ⟨y, h1, h2⟩ := enumD_get h
    exact ⟨y, by simpa using h1, by rw [h2]; congr 3; omega⟩
def mEnum (m : ME) : MA := fun ρ S => (m ρ S).bind fun d S1 => match d with
  | .lst xs => .ok (enumD 0 xs) S1
  | .fro xs => .ok (enumD 0 xs) S1
  | _ => .no
theorem steps_enum {Γ : Gm} {α : List Addr} {G : Hp} {ds : List D} {a : Addr} {vs : List V} (h : SqL Γ.K G a vs) (r : RepL Γ α G ds vs) : Steps Γ α G (enumD 0 ds) (Ite Γ.K a) := fun i α2 G2 H2 S2 hp hs R2 => by
  have q : SqL Γ.K H2 a vs := (hs.trans R2.sub).sqL h
  have r2 : RepL Γ α2 G2 ds vs := RepL.mono hp hs _ _ r
  refine ⟨fun hl => ⟨vs, q, by rw [← r2.length, ← enumD_len 0]; exact hl⟩, fun d hd => ?_⟩
  obtain ⟨x, hx, rfl⟩ := enumD_get hd
  obtain ⟨v, hv, rv⟩ := r2.get hx
  refine ⟨⟨vs, v, q, hv⟩, fun z H3 hz => ?_⟩
  obtain ⟨T, x', rfl, hT, rfl, f1⟩ := hz
  have e1 := f1 vs q
  rw [hv] at e1
  cases e1
  obtain ⟨R3, e3⟩ := R2.new hT (.tup [.int (i : Nat), v])
  exact ⟨_, R3, e3, rep_tup upd_same (RepL.mono e3.pre e3.sub _ _ (by unfold RepL; exact ⟨.int (i : Nat), [v], rfl, by simp [Rep], by unfold RepL; exact ⟨v, [], rfl, rv, by simp [RepL]⟩⟩))⟩
theorem qi_enum {elts : List Expr} {kk : Nat} {tpos p : Pos} (h : QE X cl E a m) (hg : Gl X "enumerate") (hm : X.mg "enumerate" = none) (hs : starEach [a] X.env = [(false, eval a X.env)] := by rfl) : QI X cl E (.Tuple elts kk tpos) (.Call (.Name "enumerate" p) [a] [] pos) (mEnum m) := by
  obtain ⟨t, h1, h2⟩ := h.ex
  refine ⟨_, pi_enum hg hm (pa_cons h1 pa_nil (by rw [hs]; rfl)) hs, fun ρ S σ α G H R hρ hR hp => h2 ρ S σ α G H _ hρ hR (posti_bind hp fun d S1 α1 G1 H1 v q1 e1 R1 r1 hp1 => ?_)⟩
  clear q1
  cases d <;> try exact hp1.elim
  · rename_i xs
    unfold Rep at r1
    obtain ⟨p1, vs, rfl, z1, k1⟩ := r1
    exact ⟨p1, vs, rfl, R1.sub.sqL (.inl (.inl z1)), hp1 α1 G1 H1 _ (Ext.refl _ _ _) R1 (steps_enum (Γ := ⟨X.K, cl⟩) (.inl (.inl z1)) k1)⟩
  · rename_i xs
    unfold Rep at r1
    obtain ⟨p1, vs, rfl, z1, k1⟩ := r1
    exact ⟨p1, vs, rfl, R1.sub.sqL z1, hp1 α1 G1 H1 _ (Ext.refl _ _ _) R1 (steps_enum (Γ := ⟨X.K, cl⟩) z1 k1)⟩
end
end Q
namespace Q
open PySem L2
section
variable {X : Cx} {cl : Nat → Addr} {E : XK} {e : Expr} {m : ME} {f : Str} {pos : Pos}
theorem obj_slt {G H : Hp} (s : Sub G H) {a C : Addr} {vs : List V} (h : ObAt G a C vs) : ∃ dx, SlX.Slt H a C dx (vs.map some) := by
  obtain ⟨dx, h1, h2⟩ := h
  exact ⟨dx, .inr ⟨s _ _ h1, s _ _ h2⟩⟩
end
def isObj (c : Nat) : D → Bool
  | .obj c' _ => c' == c
  | _ => false
theorem obj_at {Γ : Gm} {α : List Addr} {G H : Hp} {S : Store} {c : Nat} {d : D} {v : V} (R : Rl Γ α G S H) (h : isObj c d = true) (r : Rep Γ α G d v) : ∃ a dx vs, v = .ref a ∧ SlX.Slt H a (Γ.cl c) dx vs := by
  cases d <;> simp [isObj] at h
  subst h
  unfold Rep at r
  obtain ⟨a, vs, rfl, ho, _⟩ := r
  obtain ⟨dx, hs⟩ := obj_slt R.sub ho
  exact ⟨a, dx, _, rfl, hs⟩
section
open PySem.Spec PyProof.Rows
variable {X : Cx} {CX : CXT} {g : Addr} {C : Addr} {n : Nat} {sp : Sp} {E : XK}
def rOwnX (K : PySem.W.Frag) (C : Addr) (sp : Sp) (E : XK) : R2 := fun x y H Q => ∃ a dx vs t, x = .ref a ∧ SlX.Slt H a C dx vs ∧ TyX K H y t ∧ PySem.W.notFirst K C t = true ∧ sp [x, y] H Q E
theorem op_ownX {op : CmpOp} (hop : ∀ a b, compareOp op a b = richCompare op a b) (hs : PySem.W.findIn X.K (.ref C) (cmpInfo op).2.1 = some (some (.ref g))) (hf : PySem.W.isFn X.K (.ref g) = true) (F : FnR X.prog X.w X.K X.mg X.base CX n g sp)
    (hr : Room n X.A) (hx : Passes CX X E) : OpR X (compareOp op) (rOwnX X.K C sp E) := by
  intro pins s σ H x y v u Q I rx ry h
  obtain ⟨a, dx, vs, t, rfl, ha, ht, hn, q⟩ := h
  cases (show v = Value.ref a from rx)
  obtain ⟨sl, od, _, J, _⟩ := SlX.slt_inst I ha
  obtain ⟨P, hk, hP, _⟩ := kit_of I ry ht
  obtain ⟨m, hF⟩ := I.fr
  rw [hop]
  refine PySem.W.cmp_K (op := op) (tb := t) hr.units0 hF I.ok.mod.kin J (hk.ty _ _ I.kIn hP) hn hs hf ?_
  refine wpAny_mono (wpAny_call (run_fnR (us := [.ref a, u]) (vs := [.ref a, y]) F hr hx I (.cons rfl (.cons ry .nil)) q)) (fun w s' z => ?_) fun _ _ x => x
  obtain ⟨z', H', I', rz, qz⟩ := z
  exact SlX.cmpback rz ⟨z', H', I', rz, qz⟩
end
section
variable {X : Cx} {cl : Nat → Addr} {E : XK}
def opOwn (c : Nat) (g : List D → Store → Res D) (f : D → D → Store → Res D) : D → D → Store → Res D := fun a b S => if isObj c a then (if isObj c b || isOk S b then g [a, b] S else .no) else f a b S
theorem eqO {g fm : List D → Store → Res D} {op : CmpOp} {f : D → D → Store → Res D} {k c : Nat} {fa : Addr} (hop : ∀ a b, compareOp op a b = richCompare op a b) (hs : PySem.W.findIn X.K (.ref (cl c)) (cmpInfo op).2.1 = some (some (.ref fa))) (hff : PySem.W.isFn X.K (.ref fa) = true)
    (F : FnR X.prog X.w X.K X.mg X.base CX0 k fa (spM ⟨X.K, cl⟩ fm)) (hr : Room k X.A) (hf : SndC ⟨X.K, cl⟩ E (fun vs H Q => spM ⟨X.K, cl⟩ fm vs H Q E0) g) (hn : PySem.W.notFirst X.K (cl c) (.ref (cl c)) = true) (hn2 : ∀ (S : Store) d, isOk S d = true → PySem.W.notFirst X.K (cl c) (.type (tyN d)) = true)
    (h0 : QR X cl E (compareOp op) f) : QR X cl E (compareOp op) (opOwn c g f) := by
  obtain ⟨r, h1, h2⟩ := h0.ex
  refine ⟨_, OpR.or (SlX.op_own (C := cl c) hop hs hff F hr pass0) (OpR.or (op_ownX (C := cl c) hop hs hff F hr pass0) h1), fun a b S α G H x y Q hR ra rb h => ?_⟩
  unfold opOwn at h
  split at h
  · rename_i ha
    obtain ⟨p, dx, vs, rfl, hsl⟩ := obj_at hR ha ra
    split at h
    · rename_i hb
      have call : spM ⟨X.K, cl⟩ fm [.ref p, y] H Q E0 := hf [a, b] S α G H [.ref p, y] Q hR (by unfold RepL; exact ⟨_, _, rfl, ra, by unfold RepL; exact ⟨_, _, rfl, rb, by simp [RepL]⟩⟩) h
      cases hc : isObj c b with
      | true =>
        obtain ⟨p2, dy, ws, rfl, hsl2⟩ := obj_at hR hc rb
        exact .inl ⟨p, dx, vs, p2, cl c, dy, ws, rfl, rfl, hsl, hsl2, hn, call⟩
      | false =>
        rw [hc, Bool.false_or] at hb
        exact .inr (.inl ⟨p, dx, vs, .type (tyN b), rfl, hsl, tyx_at hR rb hb, hn2 S b hb, call⟩)
    · exact h.elim
  · exact .inr (.inr (h2 a b S α G H x y Q hR ra rb h))
end
section
variable {X : Cx} {cl : Nat → Addr} {E : XK} {pos : Pos} {a : Expr} {m : ME}
def isC (c : Nat) (d : D) (S : Store) : Res D := if isObj c d then .ok (.bl true) S else if isOk S d then .ok (.bl false) S else .no
end
end Q
namespace Q
open PySem L2
section
open PySem.W PySem.Calls PyProof.Rows
variable {prog : Program} {w : World} {A : Around} {E : Value → Shared → Prop} {s : Shared} {K : Frag} {x C L f : Addr} {h₀ : Heap} {m : Str → Option Value} {ox : Obj} {od : Option Obj} {b tb : Value}
structure NeC (K : Frag) (C g : Addr) : Prop where
  ne : findIn K (.ref C) "__ne__" = some (some (.builtin "object.__ne__"))
  top : mroIn K C (.type "object") = some true
  eq : findIn K (.ref C) "__eq__" = some (some (.ref g))
  fn : isFn K (.ref g) = true
end
structure StaC (K : PySem.W.Frag) (C : Addr) (m : Str) (g : Addr) : Prop where
  rd : PySem.W.readsIn K C (.type "type") = true
  ga : PySem.W.specialIn K (.ref C) "__getattribute__" = some (some (.builtin "type.__getattribute__"))
  at_ : ∃ p, PySem.W.findCls K (.ref C) (.type "type") m = some (.get (.builtin "staticmethod.__get__") (.ref p) .none (.ref C)) ∧ ∃ rest, PySem.W.recIn K p "staticmethod" = some (.ref g :: rest)
  kp : PySem.W.keepIn K (.ref g) = true
end Q
namespace Q
open PySem L2
def Res.Sat {β : Type} (r : Res β) (P : β → Store → Prop) : Prop := match r with
  | .ok a S => P a S
  | _ => False
section
variable {β γ δ : Type} {P : β → Store → Prop} {Q : γ → Store → Prop}
@[simp] theorem sat_ok (a : β) (S : Store) : (Res.ok a S).Sat P = P a S := rfl
@[simp] theorem sat_no : (Res.no : Res β).Sat P = False := rfl
@[simp] theorem sat_ex (e : Exn) (S : Store) : (Res.ex e S : Res β).Sat P = False := rfl
theorem sat_step {r : Res γ} {K : γ → Store → Res β} (h : r.Sat Q) (k : ∀ a S, Q a S → (K a S).Sat P) : (r.bind K).Sat P := by
  cases r with
  | ok a S => exact k a S h
  | ex e S => exact h.elim
  | no => exact h.elim
theorem Res.Sat.mono {r : Res β} {P' : β → Store → Prop} (h : r.Sat P) (k : ∀ a S, P a S → P' a S) : r.Sat P' := by
  cases r with
  | ok a S => exact k a S h
  | ex e S => exact h.elim
  | no => exact h.elim
theorem sat_eq {r : Res β} (h : r.Sat P) : ∃ a S, r = .ok a S ∧ P a S := by
  cases r with
  | ok a S => exact ⟨a, S, rfl, h⟩
  | ex e S => exact h.elim
  | no => exact h.elim
theorem sat_of {r : Res β} {a : β} {S : Store} (e : r = .ok a S) (h : P a S) : r.Sat P := by rw [e]; exact h
def compK (k1 : β → Store → Res γ) (k2 : γ → Store → Res δ) : β → Store → Res δ := fun a S => (k1 a S).bind k2
@[simp] theorem compK_ap (k1 : β → Store → Res γ) (k2 : γ → Store → Res δ) (a : β) (S : Store) : compK k1 k2 a S = (k1 a S).bind k2 := rfl
@[simp] theorem bind_flat (r : Res β) (k1 : β → Store → Res γ) (k2 : γ → Store → Res δ) : (r.bind k1).bind k2 = r.bind (compK k1 k2) := by cases r <;> rfl
@[simp] theorem nox_sat (r : Res β) : (nox r).Sat P = r.Sat P := by cases r <;> rfl
@[simp] theorem nox_bind_sat (r : Res γ) (K : γ → Store → Res β) : ((nox r).bind K).Sat P = (r.bind K).Sat P := by cases r <;> rfl
end
section
variable {ρ : Env} {S : Store}
def varK (o : Option (Option D)) (S : Store) : Res D := match o with | some (some d) => .ok d S | _ => .no
@[simp] theorem varK_some (d : D) : varK (some (some d)) S = .ok d S := rfl
@[simp] theorem ap_var (i : Nat) : mVar i ρ S = varK ρ[i]? S := rfl
@[simp] theorem ap_c (d : D) : mC d ρ S = .ok d S := rfl
def opK (f : D → D → Store → Res D) (mb : ME) (ρ : Env) : D → Store → Res D := fun x S1 => (mb ρ S1).bind (f x)
@[simp] theorem opK_ap (f : D → D → Store → Res D) (mb : ME) (x : D) : opK f mb ρ x S = (mb ρ S).bind (f x) := rfl
@[simp] theorem ap_op (f : D → D → Store → Res D) (ma mb : ME) : mOp f ma mb ρ S = (ma ρ S).bind (opK f mb ρ) := rfl
def tstK (d : D) (S : Store) : Res Bool := oRes (truth S d) S
@[simp] theorem tstK_ap (d : D) : tstK d S = oRes (truth S d) S := rfl
@[simp] theorem ap_test (m : ME) : mTest m ρ S = (m ρ S).bind tstK := rfl
def asB (d : D) (S : Store) : Res Bool := match d with | .bl b => .ok b S | _ => .no
@[simp] theorem asB_bl (b : Bool) : asB (.bl b) S = .ok b S := rfl
@[simp] theorem ap_tb (m : ME) : mTB m ρ S = (m ρ S).bind asB := rfl
def notK (b : Bool) (S : Store) : Res Bool := .ok (!b) S
@[simp] theorem notK_ap (b : Bool) : notK b S = .ok (!b) S := rfl
@[simp] theorem ap_notT (m : MT) : mNotT m ρ S = (m ρ S).bind notK := rfl
def br {β : Type} (b : Bool) (x y : β) : β := match b with | true => x | false => y
@[simp] theorem br_t {β : Type} (x y : β) : br true x y = x := rfl
@[simp] theorem br_f {β : Type} (x y : β) : br false x y = y := rfl
def andK (n : MT) (ρ : Env) (b : Bool) (S : Store) : Res Bool := br b (n ρ S) (.ok false S)
def orK (n : MT) (ρ : Env) (b : Bool) (S : Store) : Res Bool := br b (.ok true S) (n ρ S)
@[simp] theorem andK_t (n : MT) : andK n ρ true S = n ρ S := rfl
@[simp] theorem andK_f (n : MT) : andK n ρ false S = .ok false S := rfl
@[simp] theorem orK_t (n : MT) : orK n ρ true S = .ok true S := rfl
@[simp] theorem orK_f (n : MT) : orK n ρ false S = n ρ S := rfl
@[simp] theorem ap_andT (m n : MT) : mAndT m n ρ S = (m ρ S).bind (andK n ρ) := rfl
@[simp] theorem ap_orT (m n : MT) : mOrT m n ρ S = (m ρ S).bind (orK n ρ) := rfl
def andVK2 (n : ME) (ρ : Env) (d : D) (b : Bool) (S : Store) : Res D := br b (n ρ S) (.ok d S)
def orVK2 (n : ME) (ρ : Env) (d : D) (b : Bool) (S : Store) : Res D := br b (.ok d S) (n ρ S)
def andVK (n : ME) (ρ : Env) (d : D) (S : Store) : Res D := (oRes (truth S d) S).bind (andVK2 n ρ d)
def orVK (n : ME) (ρ : Env) (d : D) (S : Store) : Res D := (oRes (truth S d) S).bind (orVK2 n ρ d)
@[simp] theorem andVK2_t (n : ME) (d : D) : andVK2 n ρ d true S = n ρ S := rfl
@[simp] theorem andVK2_f (n : ME) (d : D) : andVK2 n ρ d false S = .ok d S := rfl
@[simp] theorem orVK2_t (n : ME) (d : D) : orVK2 n ρ d true S = .ok d S := rfl
@[simp] theorem orVK2_f (n : ME) (d : D) : orVK2 n ρ d false S = n ρ S := rfl
@[simp] theorem andVK_ap (n : ME) (d : D) : andVK n ρ d S = (oRes (truth S d) S).bind (andVK2 n ρ d) := rfl
@[simp] theorem orVK_ap (n : ME) (d : D) : orVK n ρ d S = (oRes (truth S d) S).bind (orVK2 n ρ d) := rfl
@[simp] theorem ap_andV (m n : ME) : mAndV m n ρ S = (m ρ S).bind (andVK n ρ) := rfl
@[simp] theorem ap_orV (m n : ME) : mOrV m n ρ S = (m ρ S).bind (orVK n ρ) := rfl
def notVK2 (b : Bool) (S : Store) : Res D := .ok (.bl (!b)) S
@[simp] theorem notVK2_ap (b : Bool) : notVK2 b S = .ok (.bl (!b)) S := rfl
def notVK (d : D) (S : Store) : Res D := (oRes (truth S d) S).bind notVK2
@[simp] theorem notVK_ap (d : D) : notVK d S = (oRes (truth S d) S).bind notVK2 := rfl
@[simp] theorem ap_notV (m : ME) : mNotV m ρ S = (m ρ S).bind notVK := rfl
def ifEK (m n : ME) (ρ : Env) (b : Bool) (S : Store) : Res D := br b (m ρ S) (n ρ S)
@[simp] theorem ifEK_t (m n : ME) : ifEK m n ρ true S = m ρ S := rfl
@[simp] theorem ifEK_f (m n : ME) : ifEK m n ρ false S = n ρ S := rfl
@[simp] theorem ap_ifE (t : MT) (m n : ME) : mIfE t m n ρ S = (t ρ S).bind (ifEK m n ρ) := rfl
def isNK (d : D) (S : Store) : Res D := .ok (.bl (isNon d)) S
def notNK (d : D) (S : Store) : Res D := .ok (.bl (!isNon d)) S
@[simp] theorem isNK_ap (d : D) : isNK d S = .ok (.bl (isNon d)) S := rfl
@[simp] theorem notNK_ap (d : D) : notNK d S = .ok (.bl (!isNon d)) S := rfl
@[simp] theorem ap_isN (m : ME) : mIsN m ρ S = (m ρ S).bind isNK := rfl
@[simp] theorem ap_notN (m : ME) : mNotN m ρ S = (m ρ S).bind notNK := rfl
@[simp] theorem ap_nil : mNil ρ S = .ok [] S := rfl
def consK2 (d : D) (ds : List D) (S : Store) : Res (List D) := .ok (d :: ds) S
@[simp] theorem consK2_ap (d : D) (ds : List D) : consK2 d ds S = .ok (d :: ds) S := rfl
def consK (n : MA) (ρ : Env) (d : D) (S : Store) : Res (List D) := (n ρ S).bind (consK2 d)
@[simp] theorem consK_ap (n : MA) (d : D) : consK n ρ d S = (n ρ S).bind (consK2 d) := rfl
@[simp] theorem ap_cons (m : ME) (n : MA) : mCons m n ρ S = (m ρ S).bind (consK n ρ) := rfl
def tupK (ds : List D) (S : Store) : Res D := if ds.length ≤ 100000 then .ok (.tup ds) S else .no
def lstK (ds : List D) (S : Store) : Res D := if ds.length ≤ 100000 then .ok (.lst ds) S else .no
def cellK (ds : List D) (S : Store) : Res D := if ds.length ≤ 100000 then .ok (.ref S.length) (S ++ [.lst ds]) else .no
@[simp] theorem tupK_ap (ds : List D) : tupK ds S = if ds.length ≤ 100000 then .ok (.tup ds) S else .no := rfl
@[simp] theorem lstK_ap (ds : List D) : lstK ds S = if ds.length ≤ 100000 then .ok (.lst ds) S else .no := rfl
@[simp] theorem cellK_ap (ds : List D) : cellK ds S = if ds.length ≤ 100000 then .ok (.ref S.length) (S ++ [.lst ds]) else .no := rfl
@[simp] theorem ap_tup (n : MA) : mTup n ρ S = (n ρ S).bind tupK := rfl
@[simp] theorem ap_lst (n : MA) : mLst n ρ S = (n ρ S).bind lstK := rfl
@[simp] theorem ap_cell (n : MA) : mCell n ρ S = (n ρ S).bind cellK := rfl
@[simp] theorem ap_frz (m : ME) : mFrz m ρ S = (m ρ S).bind fz := rfl
@[simp] theorem fz_int (i : Int) : fz (.int i) S = .ok (.int i) S := rfl
@[simp] theorem fz_bl (i : Bool) : fz (.bl i) S = .ok (.bl i) S := rfl
@[simp] theorem fz_tup (i : List D) : fz (.tup i) S = .ok (.tup i) S := rfl
@[simp] theorem fz_lst (i : List D) : fz (.lst i) S = .ok (.lst i) S := rfl
@[simp] theorem fz_non : fz .non S = .ok .non S := rfl
theorem fz_ref {k : Nat} {xs : List D} (h : S[k]? = some (.lst xs)) : fz (.ref k) S = .ok (.lst xs) (S.set k (.frz xs)) := by simp [fz, h]
def slK (d : D) (lo hi : Option Int) (S : Store) : Res D := opSl d lo hi S
@[simp] theorem slK_ap (d : D) (lo hi : Option Int) : slK d lo hi S = opSl d lo hi S := rfl
def slK2 (h : MO) (ρ : Env) (d : D) (lo : Option Int) (S : Store) : Res D := (h ρ S).bind (slK d lo)
@[simp] theorem slK2_ap (h : MO) (d : D) (lo : Option Int) : slK2 h ρ d lo S = (h ρ S).bind (slK d lo) := rfl
def slK1 (l h : MO) (ρ : Env) (d : D) (S : Store) : Res D := (l ρ S).bind (slK2 h ρ d)
@[simp] theorem slK1_ap (l h : MO) (d : D) : slK1 l h ρ d S = (l ρ S).bind (slK2 h ρ d) := rfl
@[simp] theorem ap_sl (m : ME) (l h : MO) : mSl m l h ρ S = (m ρ S).bind (slK1 l h ρ) := rfl
@[simp] theorem ap_noO : mNoO ρ S = .ok none S := rfl
def asI (d : D) (S : Store) : Res (Option Int) := match d with | .int i => .ok (some i) S | _ => .no
@[simp] theorem asI_int (i : Int) : asI (.int i) S = .ok (some i) S := rfl
@[simp] theorem ap_soO (m : ME) : mSoO m ρ S = (m ρ S).bind asI := rfl
def negD (d : D) (S : Store) : Res D := match d with | .int i => .ok (.int (-i)) S | _ => .no
@[simp] theorem negD_int (i : Int) : negD (.int i) S = .ok (.int (-i)) S := rfl
@[simp] theorem ap_neg (m : ME) : mNeg m ρ S = (m ρ S).bind negD := rfl
@[simp] theorem ap_call (f : List D → Store → Res D) (n : MA) : mCall f n ρ S = (n ρ S).bind f := rfl
def ckK2 (g : List D → Store → Res D) (i j : Nat) (idx : List Nat) (ds zs : List D) (S : Store) : Res D := if ds.length = i ∧ zs.length = j then g (place idx (ds ++ zs)) S else .no
@[simp] theorem ckK2_ap (g : List D → Store → Res D) (i j : Nat) (idx : List Nat) (ds zs : List D) : ckK2 g i j idx ds zs S = if ds.length = i ∧ zs.length = j then g (place idx (ds ++ zs)) S else .no := rfl
def ckK (g : List D → Store → Res D) (i j : Nat) (idx : List Nat) (nk : MA) (ρ : Env) (ds : List D) (S : Store) : Res D := (nk ρ S).bind (ckK2 g i j idx ds)
@[simp] theorem ckK_ap (g : List D → Store → Res D) (i j : Nat) (idx : List Nat) (nk : MA) (ds : List D) : ckK g i j idx nk ρ ds S = (nk ρ S).bind (ckK2 g i j idx ds) := rfl
@[simp] theorem ap_callK (g : List D → Store → Res D) (i j : Nat) (idx : List Nat) (n nk : MA) : mCallK g i j idx n nk ρ S = (n ρ S).bind (ckK g i j idx nk ρ) := rfl
def isiK (T : Ty) (d : D) (S : Store) : Res D := if isOk S d then .ok (.bl (isTy T d)) S else .no
def isiK2 (T U : Ty) (d : D) (S : Store) : Res D := if isOk S d then .ok (.bl (isTy T d || isTy U d)) S else .no
@[simp] theorem isiK_ap (T : Ty) (d : D) : isiK T d S = if isOk S d then .ok (.bl (isTy T d)) S else .no := rfl
@[simp] theorem isiK2_ap (T U : Ty) (d : D) : isiK2 T U d S = if isOk S d then .ok (.bl (isTy T d || isTy U d)) S else .no := rfl
@[simp] theorem ap_isi (T : Ty) (m : ME) : mIsi T m ρ S = (m ρ S).bind (isiK T) := rfl
@[simp] theorem ap_isi2 (T U : Ty) (m : ME) : mIsi2 T U m ρ S = (m ρ S).bind (isiK2 T U) := rfl
@[simp] theorem ap_skip : mSkip ρ S = .ok (.nx ρ) S := rfl
def seqK (n' : MS) (f : Fl) (S : Store) : Res Fl := match f with | .nx ρ1 => n' ρ1 S | f => .ok f S
@[simp] theorem seqK_nx (n' : MS) : seqK n' (.nx ρ) S = n' ρ S := rfl
@[simp] theorem seqK_rt (n' : MS) (d : D) : seqK n' (.rt d) S = .ok (.rt d) S := rfl
@[simp] theorem seqK_bk (n' : MS) : seqK n' (.bk ρ) S = .ok (.bk ρ) S := rfl
@[simp] theorem seqK_ct (n' : MS) : seqK n' (.ct ρ) S = .ok (.ct ρ) S := rfl
@[simp] theorem ap_seq (n n' : MS) : mSeq n n' ρ S = (n ρ S).bind (seqK n') := rfl
def nxK {β : Type} (ρ : Env) (_ : β) (S : Store) : Res Fl := .ok (.nx ρ) S
@[simp] theorem nxK_ap {β : Type} (d : β) : nxK ρ d S = .ok (.nx ρ) S := rfl
@[simp] theorem ap_drop (m : ME) : mDrop m ρ S = (m ρ S).bind (nxK ρ) := rfl
def rtK (d : D) (S : Store) : Res Fl := .ok (.rt d) S
@[simp] theorem rtK_ap (d : D) : rtK d S = .ok (.rt d) S := rfl
@[simp] theorem ap_ret (m : ME) : mRet m ρ S = (m ρ S).bind rtK := rfl
def ifK (n n' : MS) (ρ : Env) (b : Bool) (S : Store) : Res Fl := br b (n ρ S) (n' ρ S)
@[simp] theorem ifK_t (n n' : MS) : ifK n n' ρ true S = n ρ S := rfl
@[simp] theorem ifK_f (n n' : MS) : ifK n n' ρ false S = n' ρ S := rfl
@[simp] theorem ap_if (t : MT) (n n' : MS) : mIf t n n' ρ S = (t ρ S).bind (ifK n n' ρ) := rfl
def asgK2 (ρ1 : Env) (S : Store) : Res Fl := .ok (.nx ρ1) S
@[simp] theorem asgK2_ap (ρ1 : Env) : asgK2 ρ1 S = .ok (.nx ρ1) S := rfl
def asgK (g : MG) (ρ : Env) (d : D) (S : Store) : Res Fl := (g d ρ S).bind asgK2
@[simp] theorem asgK_ap (g : MG) (d : D) : asgK g ρ d S = (g d ρ S).bind asgK2 := rfl
@[simp] theorem ap_asg (m : ME) (g : MG) : mAsg m g ρ S = (m ρ S).bind (asgK g ρ) := rfl
@[simp] theorem ap_gN (i : Nat) (d : D) : mgN i d ρ S = .ok (ρ.set i (some d)) S := rfl
@[simp] theorem ap_gNil : mgNil [] ρ S = .ok ρ S := rfl
def gconsK (gs : MGs) (ds : List D) (ρ : Env) (S : Store) : Res Env := gs ds ρ S
@[simp] theorem gconsK_ap (gs : MGs) (ds : List D) : gconsK gs ds ρ S = gs ds ρ S := rfl
@[simp] theorem ap_gCons (g : MG) (gs : MGs) (d : D) (ds : List D) : mgCons g gs (d :: ds) ρ S = (g d ρ S).bind (gconsK gs ds) := rfl
@[simp] theorem ap_gTup (k : Nat) (gs : MGs) (ds : List D) : mgTup k gs (.tup ds) ρ S = if ds.length = k then gs ds ρ S else .no := rfl
@[simp] theorem ap_gTupL (k : Nat) (gs : MGs) (ds : List D) : mgTup k gs (.lst ds) ρ S = if ds.length = k then gs ds ρ S else .no := rfl
def okK {β γ : Type} (a : β) (_ : γ) (S : Store) : Res β := .ok a S
@[simp] theorem okK_ap {β γ : Type} (a : β) (z : γ) : okK a z S = .ok a S := rfl
def gsubK2 (ρ : Env) (d o i : D) (S : Store) : Res Env := (setIx o i d S).bind (okK ρ)
@[simp] theorem gsubK2_ap (d o i : D) : gsubK2 ρ d o i S = (setIx o i d S).bind (okK ρ) := rfl
def gsubK (mi : ME) (ρ : Env) (d o : D) (S : Store) : Res Env := (mi ρ S).bind (gsubK2 ρ d o)
@[simp] theorem gsubK_ap (mi : ME) (d o : D) : gsubK mi ρ d o S = (mi ρ S).bind (gsubK2 ρ d o) := rfl
@[simp] theorem ap_gSub (mo mi : ME) (d : D) : mgSub mo mi d ρ S = (mo ρ S).bind (gsubK mi ρ d) := rfl
def parK (i j : Nat) (ρ : Env) (ds : List D) (S : Store) : Res Fl := match ds with | [d, d'] => .ok (.nx ((ρ.set i (some d)).set j (some d'))) S | _ => .no
@[simp] theorem parK_2 (i j : Nat) (d d' : D) : parK i j ρ [d, d'] S = .ok (.nx ((ρ.set i (some d)).set j (some d'))) S := rfl
@[simp] theorem ap_par (i j : Nat) (n : MA) : mPar i j n ρ S = (n ρ S).bind (parK i j ρ) := rfl
def appK (m : ME) (ρ : Env) (o : D) (S : Store) : Res D := match o with | .ref k => if notOb S k = true then (m ρ S).bind (appTo k) else .no | _ => .no
@[simp] theorem appK_ref (m : ME) (k : Nat) (h : notOb S k = true) : appK m ρ (.ref k) S = (m ρ S).bind (appTo k) := by show (if notOb S k = true then _ else _) = _; rw [if_pos h]
theorem notOb_lst {k : Nat} {xs : List D} (h : S[k]? = some (.lst xs)) : notOb S k = true := by unfold notOb; rw [h]
@[simp] theorem notOb_0 (xs : List D) (T : Store) : notOb (.lst xs :: T) 0 = true := (Eq.refl _).trans rfl
@[simp] theorem notOb_S (c : Cell) (T : Store) (k : Nat) : notOb (c :: T) (k + 1) = notOb T k := (Eq.refl _).trans rfl
@[simp] theorem ap_app (mo m : ME) : mApp mo m ρ S = (mo ρ S).bind (appK m ρ) := rfl
theorem appTo_ok {k : Nat} {xs : List D} (d : D) (h : S[k]? = some (.lst xs)) (hl : xs.length < 100000) : appTo k d S = .ok .non (S.set k (.lst (xs ++ [d]))) := by simp [appTo, h, hl]
@[simp] theorem ap_items (m : ME) : mItems m ρ S = (m ρ S).bind itemsOf := rfl
@[simp] theorem items_tup (xs : List D) : itemsOf (.tup xs) S = .ok xs S := rfl
@[simp] theorem items_lst (xs : List D) : itemsOf (.lst xs) S = .ok xs S := rfl
@[simp] theorem items_fro (xs : List D) : itemsOf (.fro xs) S = .ok xs S := rfl
@[simp] theorem ap_zip (n : MA) : mZip n ρ S = (n ρ S).bind zipItems := rfl
@[simp] theorem zip_tup (xs ys : List D) : zipItems [.tup xs, .tup ys] S = .ok (zipD xs ys) S := rfl
@[simp] theorem zip_lst (xs ys : List D) : zipItems [.lst xs, .lst ys] S = .ok (zipD xs ys) S := rfl
def enumK (d : D) (S : Store) : Res (List D) := match d with | .lst xs => .ok (enumD 0 xs) S | .fro xs => .ok (enumD 0 xs) S | _ => .no
@[simp] theorem enumK_lst (xs : List D) : enumK (.lst xs) S = .ok (enumD 0 xs) S := rfl
@[simp] theorem enumK_fro (xs : List D) : enumK (.fro xs) S = .ok (enumD 0 xs) S := rfl
@[simp] theorem ap_enum (m : ME) : mEnum m ρ S = (m ρ S).bind enumK := rfl
def r1K (d : D) (S : Store) : Res (List D) := match d with | .int j => if j.natAbs < 2 ^ 62 then .ok (rangeD 0 j.toNat) S else .no | _ => .no
theorem r1K_int (j : Int) : r1K (.int j) S = if j.natAbs < 2 ^ 62 then .ok (rangeD 0 j.toNat) S else .no := rfl
theorem r1K_nat (j : Nat) (h : j < 2 ^ 60) : r1K (.int (j : Nat)) S = .ok (rangeD 0 j) S := by
  have h2 : (j : Int).natAbs < 2 ^ 62 := by omega
  rw [r1K_int, if_pos h2, Int.toNat_natCast]
@[simp] theorem ap_r1 (m : ME) : mRange1 m ρ S = (m ρ S).bind r1K := rfl
def forIK (g : MG) (b : MS) (ρ : Env) (ds : List D) (S : Store) : Res Fl := forL g b ds ρ S
@[simp] theorem forIK_ap (g : MG) (b : MS) (ds : List D) : forIK g b ρ ds S = forL g b ds ρ S := rfl
@[simp] theorem ap_for (mi : MA) (g : MG) (b : MS) : mFor mi g b ρ S = (mi ρ S).bind (forIK g b ρ) := rfl
def lcK2 (xs : List D) (S : Store) : Res D := .ok (.lst xs) S
@[simp] theorem lcK2_ap (xs : List D) : lcK2 xs S = .ok (.lst xs) S := rfl
def lcCK2 (xs : List D) (S : Store) : Res D := .ok (.ref S.length) (S ++ [.lst xs])
@[simp] theorem lcCK2_ap (xs : List D) : lcCK2 xs S = .ok (.ref S.length) (S ++ [.lst xs]) := rfl
def lcK (g : MG) (t : MT) (m : ME) (vs : List Nat) (ρ : Env) (ds : List D) (S : Store) : Res D := if ds.length ≤ 100000 then (lcL g t m (wp ρ vs) ds S).bind lcK2 else .no
def lcCK (g : MG) (t : MT) (m : ME) (vs : List Nat) (ρ : Env) (ds : List D) (S : Store) : Res D := if ds.length ≤ 100000 then (lcL g t m (wp ρ vs) ds S).bind lcCK2 else .no
@[simp] theorem lcK_ap (g : MG) (t : MT) (m : ME) (vs : List Nat) (ds : List D) : lcK g t m vs ρ ds S = if ds.length ≤ 100000 then (lcL g t m (wp ρ vs) ds S).bind lcK2 else .no := rfl
@[simp] theorem lcCK_ap (g : MG) (t : MT) (m : ME) (vs : List Nat) (ds : List D) : lcCK g t m vs ρ ds S = if ds.length ≤ 100000 then (lcL g t m (wp ρ vs) ds S).bind lcCK2 else .no := rfl
@[simp] theorem ap_lc (mi : MA) (g : MG) (t : MT) (m : ME) (vs : List Nat) : mLc mi g t m vs ρ S = (mi ρ S).bind (lcK g t m vs ρ) := rfl
@[simp] theorem ap_lcC (mi : MA) (g : MG) (t : MT) (m : ME) (vs : List Nat) : mLcC mi g t m vs ρ S = (mi ρ S).bind (lcCK g t m vs ρ) := rfl
@[simp] theorem ap_yes : mYes ρ S = .ok true S := rfl
@[simp] theorem wp_nil : wp ρ [] = ρ := rfl
@[simp] theorem wp_cons (v : Nat) (vs : List Nat) : wp ρ (v :: vs) = (wp ρ vs).set v none := rfl
@[simp] theorem addI_int (i j : Int) : opAddI (.int i) (.int j) S = .ok (.int (i + j)) S := rfl
@[simp] theorem add_int (i j : Int) : opAdd (.int i) (.int j) S = .ok (.int (i + j)) S := rfl
@[simp] theorem add_lst (xs ys : List D) : opAdd (.lst xs) (.lst ys) S = if xs.length + ys.length ≤ 100000 then .ok (.lst (xs ++ ys)) S else .no := rfl
@[simp] theorem add_tup (xs ys : List D) : opAdd (.tup xs) (.tup ys) S = if xs.length + ys.length ≤ 100000 then .ok (.tup (xs ++ ys)) S else .no := rfl
@[simp] theorem sub_int (i j : Int) : opSubI (.int i) (.int j) S = .ok (.int (i - j)) S := rfl
@[simp] theorem mul_intD (i j : Int) : opMul (.int i) (.int j) S = if mulOk i j = true then .ok (.int (i * j)) S else .no := by
  unfold opMul opMulI fI opRep opRepT
  by_cases h : mulOk i j = true <;> simp [h, lstOf]
@[simp] theorem div_int (i j : Int) : opDivI (.int i) (.int j) S = if divOk i j = true then .ok (.int (i / j)) S else .no := rfl
@[simp] theorem mod_int (i j : Int) : opModI (.int i) (.int j) S = if modOk i j = true then .ok (.int (i % j)) S else .no := rfl
@[simp] theorem pow_int (i j : Int) : opPowI (.int i) (.int j) S = if powOk i j = true then .ok (.int (i ^ j.toNat)) S else .no := rfl
@[simp] theorem lt_int (i j : Int) : opLt (.int i) (.int j) S = .ok (.bl (decide (i < j))) S := rfl
@[simp] theorem le_int (i j : Int) : opLe (.int i) (.int j) S = .ok (.bl (decide (i ≤ j))) S := rfl
@[simp] theorem gt_int (i j : Int) : opGt (.int i) (.int j) S = .ok (.bl (decide (j < i))) S := rfl
@[simp] theorem ge_int (i j : Int) : opGe (.int i) (.int j) S = .ok (.bl (decide (j ≤ i))) S := rfl
@[simp] theorem eq_intD (i j : Int) : opEq (.int i) (.int j) S = .ok (.bl (decide (i = j))) S := rfl
@[simp] theorem ne_intD (i j : Int) : opNe (.int i) (.int j) S = .ok (.bl (!decide (i = j))) S := rfl
@[simp] theorem eq_blD (i j : Bool) : opEq (.bl i) (.bl j) S = .ok (.bl (decide (i = j))) S := by cases i <;> cases j <;> rfl
@[simp] theorem ne_blD (i j : Bool) : opNe (.bl i) (.bl j) S = .ok (.bl (!decide (i = j))) S := by cases i <;> cases j <;> rfl
@[simp] theorem eq_strD (i j : Str) : opEq (.str i) (.str j) S = .ok (.bl (decide (i = j))) S := rfl
@[simp] theorem ix_tupD (xs : List D) (i : Int) : opIx (.tup xs) (.int i) S = oRes (atI xs i) S := rfl
@[simp] theorem ix_lstD (xs : List D) (i : Int) : opIx (.lst xs) (.int i) S = oRes (atI xs i) S := rfl
@[simp] theorem ix_froD (xs : List D) (i : Int) : opIx (.fro xs) (.int i) S = oRes (atI xs i) S := rfl
theorem ix_refD {k : Nat} {xs : List D} (i : Int) (h : S[k]? = some (.lst xs)) : opIx (.ref k) (.int i) S = oRes (atI xs i) S := by simp [opIx, rdL, lstOf, h]
theorem atI_get {α : Type} {xs : List α} {i : Nat} {x : α} (h : xs[i]? = some x) : atI xs (i : Int) = some x := by
  have hl := (List.getElem?_eq_some_iff.mp h).1
  unfold atI ixN
  rw [if_pos (by omega), if_pos (by omega)]
  simpa using h
@[simp] theorem atI_0 {α : Type} (x : α) (xs : List α) : atI (x :: xs) 0 = some x := by
  have h : (0 : Int) < (x :: xs).length := by simp
  simp [atI, ixN]
@[simp] theorem atI_1 {α : Type} (x y : α) (xs : List α) : atI (x :: y :: xs) 1 = some y := by
  exact atI_get (i := 1) rfl
@[simp] theorem atI_2 {α : Type} (x y z : α) (xs : List α) : atI (x :: y :: z :: xs) 2 = some z := by
  exact atI_get (i := 2) rfl
@[simp] theorem sl_tupD (xs : List D) (lo hi : Option Int) : opSl (.tup xs) lo hi S = .ok (.tup (cutD xs lo hi)) S := rfl
@[simp] theorem sl_lstD (xs : List D) (lo hi : Option Int) : opSl (.lst xs) lo hi S = .ok (.lst (cutD xs lo hi)) S := rfl
@[simp] theorem sl_froD (xs : List D) (lo hi : Option Int) : opSl (.fro xs) lo hi S = .ok (.lst (cutD xs lo hi)) S := rfl
@[simp] theorem truth_bl (b : Bool) : truth S (.bl b) = some b := (Eq.refl _).trans rfl
@[simp] theorem truth_int (b : Int) : truth S (.int b) = some (b != 0) := (Eq.refl _).trans rfl
@[simp] theorem truth_non : truth S .non = some false := (Eq.refl _).trans rfl
@[simp] theorem truth_tup (xs : List D) : truth S (.tup xs) = some (!xs.isEmpty) := (Eq.refl _).trans rfl
@[simp] theorem truth_lst (xs : List D) : truth S (.lst xs) = some (!xs.isEmpty) := (Eq.refl _).trans rfl
theorem truth_ref {k : Nat} {xs : List D} (h : S[k]? = some (.lst xs)) : truth S (.ref k) = some (!xs.isEmpty) := by simp [truth, rdL, lstOf, h]
@[simp] theorem len_tup (xs : List D) : fLen [.tup xs] S = .ok (.int xs.length) S := rfl
@[simp] theorem len_lst (xs : List D) : fLen [.lst xs] S = .ok (.int xs.length) S := rfl
@[simp] theorem len_fro (xs : List D) : fLen [.fro xs] S = .ok (.int xs.length) S := rfl
@[simp] theorem abs_int (i : Int) : fAbs [.int i] S = .ok (.int (if i < 0 then -i else i)) S := rfl
@[simp] theorem int_int (i : Int) : fInt [.int i] S = .ok (.int i) S := rfl
@[simp] theorem int_bl (i : Bool) : fInt [.bl i] S = .ok (.int (if i then 1 else 0)) S := rfl
@[simp] theorem tuple_lst (xs : List D) : fTuple [.lst xs] S = .ok (.tup xs) S := rfl
@[simp] theorem tuple_tup (xs : List D) : fTuple [.tup xs] S = .ok (.tup xs) S := rfl
@[simp] theorem list_lst (xs : List D) : fList [.lst xs] S = .ok (.lst xs) S := rfl
@[simp] theorem list_tup (xs : List D) : fList [.tup xs] S = .ok (.lst xs) S := rfl
@[simp] theorem listC_lst (xs : List D) : fListC [.lst xs] S = .ok (.ref S.length) (S ++ [.lst xs]) := rfl
@[simp] theorem listC_tup (xs : List D) : fListC [.tup xs] S = .ok (.ref S.length) (S ++ [.lst xs]) := rfl
theorem all_lst {xs : List D} {bs : List Bool} (h : boolsD xs = some bs) : fAll [.lst xs] S = .ok (.bl (bs.all id)) S := by simp [fAll, onBools, un1, rdL, lstOf, h]
theorem any_lst {xs : List D} {bs : List Bool} (h : boolsD xs = some bs) : fAny [.lst xs] S = .ok (.bl (bs.any id)) S := by simp [fAny, onBools, un1, rdL, lstOf, h]
theorem sum_lst {xs : List D} {bs : List Int} (h : intsD xs = some bs) : fSum [.lst xs] S = .ok (.int bs.sum) S := by simp [fSum, onInts, un1, rdL, lstOf, h]
theorem bools_map {β : Type} (f : β → Bool) (xs : List β) : boolsD (xs.map fun x => D.bl (f x)) = some (xs.map f) := by
  induction xs with
  | nil => rfl
  | cons x xs ih => simp [boolsD, ih]
theorem ints_map {β : Type} (f : β → Int) (xs : List β) : intsD (xs.map fun x => D.int (f x)) = some (xs.map f) := by
  induction xs with
  | nil => rfl
  | cons x xs ih => simp [intsD, ih]
@[simp] theorem isOk_non : isOk S .non = true := (Eq.refl _).trans rfl
@[simp] theorem isOk_bl (b : Bool) : isOk S (.bl b) = true := (Eq.refl _).trans rfl
@[simp] theorem isOk_int (b : Int) : isOk S (.int b) = true := (Eq.refl _).trans rfl
@[simp] theorem isOk_str (b : Str) : isOk S (.str b) = true := (Eq.refl _).trans rfl
@[simp] theorem isOk_tup (b : List D) : isOk S (.tup b) = true := (Eq.refl _).trans rfl
@[simp] theorem isOk_lst (b : List D) : isOk S (.lst b) = true := (Eq.refl _).trans rfl
@[simp] theorem isNon_non : isNon .non = true := (Eq.refl _).trans rfl
@[simp] theorem isNon_bl (b : Bool) : isNon (.bl b) = false := (Eq.refl _).trans rfl
@[simp] theorem isNon_int (b : Int) : isNon (.int b) = false := (Eq.refl _).trans rfl
@[simp] theorem isNon_str (b : Str) : isNon (.str b) = false := (Eq.refl _).trans rfl
@[simp] theorem isNon_tup (b : List D) : isNon (.tup b) = false := (Eq.refl _).trans rfl
@[simp] theorem isNon_lst (b : List D) : isNon (.lst b) = false := (Eq.refl _).trans rfl
end
@[simp] theorem isObj_obj (c : Nat) (fs : List D) : isObj c (.obj c fs) = true := by simp [isObj]
@[simp] theorem isObj_non (c : Nat) : isObj c .non = false := (Eq.refl _).trans rfl
@[simp] theorem isObj_bl (c : Nat) (b : Bool) : isObj c (.bl b) = false := (Eq.refl _).trans rfl
@[simp] theorem isObj_int (c : Nat) (b : Int) : isObj c (.int b) = false := (Eq.refl _).trans rfl
@[simp] theorem isObj_str (c : Nat) (b : Str) : isObj c (.str b) = false := (Eq.refl _).trans rfl
@[simp] theorem isObj_tup (c : Nat) (b : List D) : isObj c (.tup b) = false := (Eq.refl _).trans rfl
@[simp] theorem isObj_lst (c : Nat) (b : List D) : isObj c (.lst b) = false := (Eq.refl _).trans rfl
@[simp] theorem isObj_ref (c : Nat) (b : Nat) : isObj c (.ref b) = false := (Eq.refl _).trans rfl
@[simp] theorem isC_obj (c : Nat) (fs : List D) : isC c (.obj c fs) S = .ok (.bl true) S := by simp [isC]
@[simp] theorem own_obj (c : Nat) (g : List D → Store → Res D) (f : D → D → Store → Res D) (fs : List D) (b : D) : opOwn c g f (.obj c fs) b S = if (isObj c b || isOk S b) = true then g [.obj c fs, b] S else .no := by
  unfold opOwn
  rw [isObj_obj, if_pos rfl]
@[simp] theorem isC_non (c : Nat) : isC c .non S = .ok (.bl false) S := rfl
@[simp] theorem isC_bl (c : Nat) (b : Bool) : isC c (.bl b) S = .ok (.bl false) S := rfl
@[simp] theorem isC_int (c : Nat) (b : Int) : isC c (.int b) S = .ok (.bl false) S := rfl
@[simp] theorem isC_str (c : Nat) (b : Str) : isC c (.str b) S = .ok (.bl false) S := rfl
@[simp] theorem isC_tup (c : Nat) (b : List D) : isC c (.tup b) S = .ok (.bl false) S := rfl
@[simp] theorem isC_lst (c : Nat) (b : List D) : isC c (.lst b) S = .ok (.bl false) S := rfl
@[simp] theorem isNon_obj (c : Nat) (b : List D) : isNon (.obj c b) = false := (Eq.refl _).trans rfl
@[simp] theorem pureD_obj (c : Nat) (b : List D) : pureD (.obj c b) = pureL b := (Eq.refl _).trans rfl
@[simp] theorem fz_obj (c : Nat) (b : List D) : fz (.obj c b) S = .ok (.obj c b) S := rfl
@[simp] theorem place_nil {β : Type} (xs : List β) : place [] xs = [] := rfl
@[simp] theorem fCall_ap (f : List D → Store → Res D) (ds : List D) (S : Store) : fCall f ds S = nox (f ds S) := rfl
theorem fPure_ap {f : List D → Store → Res D} {ds : List D} {d : D} (S : Store) (hp : pureL ds = true) (h : f ds [] = .ok d []) : fPure f ds S = .ok d S := by simp [fPure, hp, h]
@[simp] theorem pureL_nil : pureL [] = true := (Eq.refl _).trans rfl
@[simp] theorem pureL_cons (d : D) (ds : List D) : pureL (d :: ds) = (pureD d && pureL ds) := (Eq.refl _).trans rfl
@[simp] theorem pureD_non : pureD .non = true := (Eq.refl _).trans rfl
@[simp] theorem pureD_bl (b : Bool) : pureD (.bl b) = true := (Eq.refl _).trans rfl
@[simp] theorem pureD_int (b : Int) : pureD (.int b) = true := (Eq.refl _).trans rfl
@[simp] theorem pureD_str (b : Str) : pureD (.str b) = true := (Eq.refl _).trans rfl
@[simp] theorem pureD_tup (b : List D) : pureD (.tup b) = pureL b := (Eq.refl _).trans rfl
@[simp] theorem pureD_lst (b : List D) : pureD (.lst b) = pureL b := (Eq.refl _).trans rfl
@[simp] theorem pureD_fro (b : List D) : pureD (.fro b) = pureL b := (Eq.refl _).trans rfl
@[simp] theorem pureD_ref (b : Nat) : pureD (.ref b) = false := (Eq.refl _).trans rfl
theorem pureL_all {ds : List D} : pureL ds = true ↔ ∀ d ∈ ds, pureD d = true := by
  induction ds with
  | nil => simp
  | cons d ds ih => simp [ih]
@[simp] theorem fin_same {S S' : Store} {d : D} (h : S'.length = S.length) : fin S.length d S' = .ok d S' := by simp [fin, h]
theorem fin_nil {d : D} {S : Store} (h : pureD d = true) : fin 0 d S = .ok d [] := by
  unfold fin
  split
  · rename_i e
    rw [List.eq_nil_of_length_eq_zero e]
  · rw [below_pure 0 d h]; rfl
def endK (n : Nat) (f : Fl) (S : Store) : Res D := match f with
  | .nx _ => fin n .non S
  | .rt d => fin n d S
  | _ => .no
@[simp] theorem endK_nx (n : Nat) (ρ : Env) (S : Store) : endK n (.nx ρ) S = fin n .non S := rfl
@[simp] theorem endK_rt (n : Nat) (d : D) (S : Store) : endK n (.rt d) S = fin n d S := rfl
@[simp] theorem endM_nx {n : Nat} {ρ : Env} {S : Store} : endM n (.ok (.nx ρ) S) = fin n .non S := rfl
@[simp] theorem endM_rt {n : Nat} {d : D} {S : Store} : endM n (.ok (.rt d) S) = fin n d S := rfl
@[simp] theorem endC_nx {ρ : Env} {S : Store} : endC (.ok (.nx ρ) S) = .ok .non S := rfl
@[simp] theorem endC_rt {d : D} {S : Store} : endC (.ok (.rt d) S) = .ok d S := rfl
def endCK (f : Fl) (S : Store) : Res D := match f with
  | .nx _ => .ok .non S
  | .rt d => .ok d S
  | _ => .no
@[simp] theorem endCK_nx (ρ : Env) (S : Store) : endCK (.nx ρ) S = .ok .non S := rfl
@[simp] theorem endCK_rt (d : D) (S : Store) : endCK (.rt d) S = .ok d S := rfl
@[simp] theorem endM_sat {P : D → Store → Prop} (n : Nat) (r : Res Fl) : (endM n r).Sat P = (r.bind (endK n)).Sat P := by
  cases r with
  | ok f S => cases f <;> rfl
  | ex e S => rfl
  | no => rfl
@[simp] theorem endC_sat {P : D → Store → Prop} (r : Res Fl) : (endC r).Sat P = (r.bind endCK).Sat P := by
  cases r with
  | ok f S => cases f <;> rfl
  | ex e S => rfl
  | no => rfl
theorem set_get {S : Store} {k : Nat} {c c' : Cell} (h : S[k]? = some c) : (S.set k c')[k]? = some c' := List.getElem?_set_self (List.getElem?_eq_some_iff.mp h).1
def forK (k : MS) (f : Fl) (S : Store) : Res Fl := match f with
  | .nx ρ => k ρ S
  | .ct ρ => k ρ S
  | .bk ρ => .ok (.nx ρ) S
  | .rt d => .ok (.rt d) S
@[simp] theorem forK_nx (k : MS) (ρ : Env) (S : Store) : forK k (.nx ρ) S = k ρ S := rfl
@[simp] theorem forK_ct (k : MS) (ρ : Env) (S : Store) : forK k (.ct ρ) S = k ρ S := rfl
@[simp] theorem forK_bk (k : MS) (ρ : Env) (S : Store) : forK k (.bk ρ) S = .ok (.nx ρ) S := rfl
@[simp] theorem forK_rt (k : MS) (d : D) (S : Store) : forK k (.rt d) S = .ok (.rt d) S := rfl
def forBK (g : MG) (b : MS) (ds : List D) (ρ : Env) (S : Store) : Res Fl := (b ρ S).bind (forK (forL g b ds))
@[simp] theorem forBK_ap (g : MG) (b : MS) (ds : List D) (ρ : Env) (S : Store) : forBK g b ds ρ S = (b ρ S).bind (forK (forL g b ds)) := rfl
theorem forL_cons (g : MG) (b : MS) (d : D) (ds : List D) (ρ : Env) (S : Store) : forL g b (d :: ds) ρ S = (g d ρ S).bind (forBK g b ds) := rfl
theorem forL_nil (g : MG) (b : MS) (ρ : Env) (S : Store) : forL g b [] ρ S = .ok (.nx ρ) S := rfl
def whK (k : MS) (f : Fl) (S : Store) : Res Fl := match f with
  | .nx ρ => k ρ S
  | .ct ρ => k ρ S
  | .bk ρ => .ok (.nx ρ) S
  | .rt d => .ok (.rt d) S
@[simp] theorem whK_nx (k : MS) (ρ : Env) (S : Store) : whK k (.nx ρ) S = k ρ S := rfl
@[simp] theorem whK_ct (k : MS) (ρ : Env) (S : Store) : whK k (.ct ρ) S = k ρ S := rfl
@[simp] theorem whK_bk (k : MS) (ρ : Env) (S : Store) : whK k (.bk ρ) S = .ok (.nx ρ) S := rfl
@[simp] theorem whK_rt (k : MS) (d : D) (S : Store) : whK k (.rt d) S = .ok (.rt d) S := rfl
def whBK (t : MT) (b : MS) (k : Nat) (ρ : Env) (c : Bool) (S : Store) : Res Fl := br c ((b ρ S).bind (whK (whileF t b k))) (.ok (.nx ρ) S)
@[simp] theorem whBK_t (t : MT) (b : MS) (k : Nat) (ρ : Env) (S : Store) : whBK t b k ρ true S = (b ρ S).bind (whK (whileF t b k)) := rfl
@[simp] theorem whBK_f (t : MT) (b : MS) (k : Nat) (ρ : Env) (S : Store) : whBK t b k ρ false S = .ok (.nx ρ) S := rfl
theorem whF_succ (t : MT) (b : MS) (k : Nat) (ρ : Env) (S : Store) : whileF t b (k + 1) ρ S = (t ρ S).bind (whBK t b k ρ) := by
  show (t ρ S).bind _ = _
  congr 1
  funext c S1
  cases c with
  | false => rfl
  | true =>
    show (b ρ S1).bind _ = (b ρ S1).bind _
    congr 1
theorem fnM_1 {nN : Nat} {n : MS} {a : D} {S : Store} : fnM nN 1 n [a] S = endM S.length (n (some a :: List.replicate (nN - 1) none) S) := rfl
theorem fnM_2 {nN : Nat} {n : MS} {a b : D} {S : Store} : fnM nN 2 n [a, b] S = endM S.length (n (some a :: some b :: List.replicate (nN - 2) none) S) := rfl
theorem fnM_3 {nN : Nat} {n : MS} {a b c : D} {S : Store} : fnM nN 3 n [a, b, c] S = endM S.length (n (some a :: some b :: some c :: List.replicate (nN - 3) none) S) := rfl
theorem fnC_2 {nN : Nat} {n : MS} {a b : D} {S : Store} : fnC nN 2 n [a, b] S = endC (n (some a :: some b :: List.replicate (nN - 2) none) S) := rfl
theorem set_self {S : Store} {k : Nat} {c : Cell} (h : S[k]? = some c) : S.set k c = S := by
  apply List.ext_getElem?
  intro i
  by_cases e : k = i
  · subst e; rw [set_get h, h]
  · rw [List.getElem?_set_ne e]
theorem lcL_map {g : MG} {m : ME} {ρ : Env} {f : D → D} : ∀ (ds : List D) (S : Store), (∀ d ∈ ds, ∃ ρ1, g d ρ S = .ok ρ1 S ∧ m ρ1 S = .ok (f d) S) → lcL g mYes m ρ ds S = .ok (ds.map f) S
  | [], S, _ => rfl
  | d :: ds, S, h => by
    obtain ⟨ρ1, h1, h2⟩ := h d (by simp)
    unfold lcL
    rw [h1]
    simp only [bind_ok, ap_yes]
    rw [h2]
    simp only [bind_ok]
    rw [lcL_map ds S fun e he => h e (by simp [he])]
    rfl
theorem lcL_indx {g : MG} {m : ME} {ρ : Env} {Inv : Nat → Store → Prop} {P : Nat → D → Prop} : ∀ (ds : List D) (i : Nat) (S : Store), Inv i S → (∀ j S d, ds[j]? = some d → Inv (i + j) S → ∃ ρ1 v S1, g d ρ S = .ok ρ1 S ∧ m ρ1 S = .ok v S1 ∧ P (i + j) v ∧ Inv (i + j + 1) S1) →
    ∃ vs S1, lcL g mYes m ρ ds S = .ok vs S1 ∧ vs.length = ds.length ∧ (∀ j v, vs[j]? = some v → P (i + j) v) ∧ Inv (i + ds.length) S1
  | [], i, S, h, _ => ⟨[], S, rfl, rfl, by simp, h⟩
  | d :: ds, i, S, h, turn => by
    obtain ⟨ρ1, v, S1, h1, h2, h3, h4⟩ := turn 0 S d rfl h
    obtain ⟨vs, S2, k1, k2, k3, k4⟩ := lcL_indx (P := P) ds (i + 1) S1 h4 fun j S e he hi => by
      have := turn (j + 1) S e (by simpa using he) (by rw [show i + (j + 1) = i + 1 + j by omega]; exact hi)
      rw [show i + (j + 1) = i + 1 + j by omega] at this
      exact this
    refine ⟨v :: vs, S2, ?_, by simp [k2], fun j w hw => ?_, by rw [List.length_cons, show i + (ds.length + 1) = i + 1 + ds.length by omega]; exact k4⟩
    · unfold lcL
      rw [h1]
      simp only [bind_ok, ap_yes]
      rw [h2]
      simp only [bind_ok]
      rw [k1]
      rfl
    · cases j with
      | zero => simp at hw; subst hw; exact h3
      | succ j =>
        have := k3 j w (by simpa using hw)
        rw [show i + (j + 1) = i + 1 + j by omega]
        exact this
theorem lcL_ind {g : MG} {m : ME} {ρ : Env} (Inv : Nat → Store → Prop) (P : Nat → D → Prop) (ds : List D) (S : Store) (h : Inv 0 S) (turn : ∀ j S d, ds[j]? = some d → Inv j S → ∃ ρ1 v S1, g d ρ S = .ok ρ1 S ∧ m ρ1 S = .ok v S1 ∧ P j v ∧ Inv (j + 1) S1) :
    ∃ vs S1, lcL g mYes m ρ ds S = .ok vs S1 ∧ vs.length = ds.length ∧ (∀ j v, vs[j]? = some v → P j v) ∧ Inv ds.length S1 := by
  have := lcL_indx (g := g) (m := m) (ρ := ρ) (Inv := Inv) (P := P) ds 0 S h (by simpa using turn)
  simpa using this
theorem rangeD_len (lo : Int) (n : Nat) : (rangeD lo n).length = n := by simp [rangeD]
theorem rangeD_get {lo : Int} {n i : Nat} {d : D} (h : (rangeD lo n)[i]? = some d) : i < n ∧ d = .int (lo + (i : Int)) := by
  unfold rangeD at h
  rw [List.getElem?_map] at h
  cases q : (List.range n)[i]? with
  | none => simp [q] at h
  | some j =>
    simp only [q, Option.map_some, Option.some.injEq] at h
    obtain ⟨h1, h2⟩ := List.getElem?_eq_some_iff.mp q
    simp at h1 h2
    subst h2
    exact ⟨h1, h.symm⟩
@[simp] theorem fin_00 (d : D) : fin 0 d [] = .ok d [] := rfl
def Turn (I : Env → Store → Prop) (P : Fl → Store → Prop) : Fl → Store → Prop := fun f S => match f with
  | .nx ρ => I ρ S
  | .ct ρ => I ρ S
  | .bk ρ => P (.nx ρ) S
  | .rt d => P (.rt d) S
section
variable {I : Env → Store → Prop} {P : Fl → Store → Prop} {ρ : Env} {S : Store}
@[simp] theorem turn_nx : Turn I P (.nx ρ) S = I ρ S := rfl
@[simp] theorem turn_ct : Turn I P (.ct ρ) S = I ρ S := rfl
@[simp] theorem turn_bk : Turn I P (.bk ρ) S = P (.nx ρ) S := rfl
@[simp] theorem turn_rt (d : D) : Turn I P (.rt d) S = P (.rt d) S := rfl
end
theorem forL_sat {g : MG} {b : MS} {P : Fl → Store → Prop} (Inv : List D → Env → Store → Prop) (turn : ∀ d ds ρ S, Inv (d :: ds) ρ S → ∃ ρ1 S1, g d ρ S = .ok ρ1 S1 ∧ (b ρ1 S1).Sat (Turn (Inv ds) P)) (last : ∀ ρ S, Inv [] ρ S → P (.nx ρ) S) :
    ∀ (ds : List D) (ρ : Env) (S : Store), Inv ds ρ S → (forL g b ds ρ S).Sat P
  | [], ρ, S, h => last ρ S h
  | d :: ds, ρ, S, h => by
    obtain ⟨ρ1, S1, e, h1⟩ := turn d ds ρ S h
    rw [forL_cons, e, bind_ok, forBK_ap]
    refine sat_step h1 fun f S2 h2 => ?_
    cases f with
    | nx ρ2 => exact forL_sat Inv turn last ds ρ2 S2 h2
    | ct ρ2 => exact forL_sat Inv turn last ds ρ2 S2 h2
    | bk ρ2 => exact h2
    | rt d => exact h2
theorem whileF_sat {t : MT} {b : MS} {P : Fl → Store → Prop} (Inv : Nat → Env → Store → Prop) (turn : ∀ n ρ S, Inv n ρ S → (t ρ S).Sat fun c S1 => match c with
      | false => P (.nx ρ) S1
      | true => (b ρ S1).Sat (Turn (fun ρ' S' => ∃ m, m < n ∧ Inv m ρ' S') P)) :
    ∀ (k n : Nat) (ρ : Env) (S : Store), n < k → Inv n ρ S → (whileF t b k ρ S).Sat P
  | 0, n, ρ, S, hk, _ => absurd hk (by omega)
  | k + 1, n, ρ, S, hk, h => by
    rw [whF_succ]
    refine sat_step (turn n ρ S h) fun c S1 h1 => ?_
    cases c with
    | false => exact h1
    | true =>
      rw [whBK_t]
      refine sat_step h1 fun f S2 h2 => ?_
      cases f with
      | nx ρ2 => obtain ⟨m, hm, hI⟩ := h2; exact whileF_sat Inv turn k m ρ2 S2 (by omega) hI
      | ct ρ2 => obtain ⟨m, hm, hI⟩ := h2; exact whileF_sat Inv turn k m ρ2 S2 (by omega) hI
      | bk ρ2 => exact h2
      | rt d => exact h2
@[simp] theorem ap_while (fuel : Env → Store → Nat) (t : MT) (b : MS) (ρ : Env) (S : Store) : mWhile fuel t b ρ S = whileF t b (fuel ρ S) ρ S := rfl
end Q
namespace Q
open PySem L2
variable {X : Cx} {cl : Nat → Addr} {E : XK}
theorem repL3 {Γ : Gm} {α : List Addr} {G : Hp} {d d' d'' : D} {vs : List V} (r : RepL Γ α G [d, d', d''] vs) : ∃ v v' v'', vs = [v, v', v''] ∧ Rep Γ α G d v ∧ Rep Γ α G d' v' ∧ Rep Γ α G d'' v'' := by
  unfold RepL at r
  obtain ⟨v, w, rfl, h1, h2⟩ := r
  obtain ⟨v', v'', rfl, h3, h4⟩ := repL2 h2
  exact ⟨v, v', v'', rfl, h1, h3, h4⟩
def mPar3 (i j l : Nat) (n : MA) : MS := fun ρ S => (n ρ S).bind fun ds S1 => match ds with
  | [d, d', d''] => .ok (.nx (((ρ.set i (some d)).set j (some d')).set l (some d''))) S1
  | _ => .no
theorem qs_par3 (i j l : Nat) {x y z : Str} {a b c : Expr} {px py pz pt pos : Pos} {kt k2 pt2} {na : MA} (hN : X.N.Nodup) (ha : QA X cl E [a, b, c] na) (hi : X.N[i]? = some x := by rfl) (hj : X.N[j]? = some y := by rfl) (hl : X.N[l]? = some z := by rfl) (hij : i ≠ j := by decide) (hil : i ≠ l := by decide) (hjl : j ≠ l := by decide)
    (hx : X.env.scope.names.lookup x = some .local := by rfl) (hy : X.env.scope.names.lookup y = some .local := by rfl) (hz : X.env.scope.names.lookup z = some .local := by rfl) (hw : swappedStores [.Tuple [.Name x px, .Name y py, .Name z pz] kt pt] (.Tuple [a, b, c] k2 pt2) X.env = pure (some [x, y, z]) := by rfl)
    (hs : swapsWithSole [.Tuple [.Name x px, .Name y py, .Name z pz] kt pt] (.Tuple [a, b, c] k2 pt2) pos.line X.env = pure false := by rfl) (hc : X.calm = true := by rfl) : QS X cl E (.Assign [.Tuple [.Name x px, .Name y py, .Name z pz] kt pt] (.Tuple [a, b, c] k2 pt2) pos) (mPar3 i j l na) := by
  obtain ⟨t, h1, h2⟩ := ha.ex
  refine ⟨_, ps_par3 hc hN hi hj hl hij hil hjl hx hy hz h1 hw hs, fun ρ S σ α G H Dn hρ hR hp => h2 ρ S σ α G H _ hρ hR (posts_bind hp fun ds S1 α1 G1 H1 vs _ e1 R1 r1 hp1 => ?_)⟩
  match ds, hp1, r1 with
  | [d, d', d''], hp1, r1 =>
    obtain ⟨v, v', v'', rfl, rv, rv', rv''⟩ := repL3 r1
    exact ⟨v, v', v'', rfl, hp1 α1 G1 H1 _ (Ext.refl _ _ _) R1 ((((hρ.mono e1).set i rv).set j rv').set l rv'')⟩
  | [], hp1, _ => exact hp1.elim
  | [_], hp1, _ => exact hp1.elim
  | [_, _], hp1, _ => exact hp1.elim
  | _ :: _ :: _ :: _ :: _, hp1, _ => exact hp1.elim
def par3K (i j l : Nat) (ρ : Env) (ds : List D) (S : Store) : Res Fl := match ds with | [d, d', d''] => .ok (.nx (((ρ.set i (some d)).set j (some d')).set l (some d''))) S | _ => .no
@[simp] theorem par3K_3 (ρ : Env) (S : Store) (i j l : Nat) (d d' d'' : D) : par3K i j l ρ [d, d', d''] S = .ok (.nx (((ρ.set i (some d)).set j (some d')).set l (some d''))) S := (Eq.refl _).trans rfl
@[simp] theorem ap_par3 (ρ : Env) (S : Store) (i j l : Nat) (n : MA) : mPar3 i j l n ρ S = (n ρ S).bind (par3K i j l ρ) := (Eq.refl _).trans rfl
end Q
namespace Q
open PySem L2
end Q
namespace Q
open PySem L2
def lim : Int := 1000000
def pairsOf : List D → Option (List (Int × Int))
  | [] => some []
  | .tup [.int i, .int j] :: xs => if (0 ≤ i ∧ i < lim) ∧ 0 ≤ j ∧ j < lim then (pairsOf xs).map ((i, j) :: ·) else none
  | _ :: _ => none
def plt (a b : Int × Int) : Prop := a.1 < b.1 ∨ (a.1 = b.1 ∧ a.2 < b.2)
instance (a b : Int × Int) : Decidable (plt a b) := by unfold plt; infer_instance
theorem plt_irr (a : Int × Int) : ¬ plt a a := by unfold plt; omega
theorem plt_trans {a b c : Int × Int} (h : plt a b) (h' : plt b c) : plt a c := by unfold plt at *; omega
theorem plt_tri {a b : Int × Int} (h : a ≠ b) (h' : ¬ plt a b) : plt b a := by
  unfold plt at *
  by_cases e : a.1 = b.1
  · by_cases e2 : a.2 = b.2
    · exact absurd (Prod.ext e e2) h
    · omega
  · omega
def insU (x : Int × Int) : List (Int × Int) → List (Int × Int)
  | [] => [x]
  | y :: ys => if x = y then y :: ys else if plt x y then x :: y :: ys else y :: insU x ys
def sortU : List (Int × Int) → List (Int × Int)
  | [] => []
  | x :: xs => insU x (sortU xs)
theorem mem_insU {x z : Int × Int} : ∀ {ys : List (Int × Int)}, z ∈ insU x ys ↔ z = x ∨ z ∈ ys
  | [] => by simp [insU]
  | y :: ys => by
    unfold insU
    split
    · rename_i e
      subst e
      simp
    · split
      · simp
      · simp only [List.mem_cons, mem_insU (ys := ys)]
        constructor <;> (intro h; rcases h with h | h | h <;> simp [h])
theorem mem_sortU {z : Int × Int} : ∀ {xs : List (Int × Int)}, z ∈ sortU xs ↔ z ∈ xs
  | [] => by simp [sortU]
  | x :: xs => by
    unfold sortU
    rw [mem_insU, mem_sortU, List.mem_cons]
theorem insU_up {x : Int × Int} : ∀ {ys : List (Int × Int)}, ys.Pairwise plt → (insU x ys).Pairwise plt
  | [], _ => by simp [insU]
  | y :: ys, h => by
    have h' := List.pairwise_cons.mp h
    unfold insU
    split
    · exact h
    · rename_i hne
      split
      · rename_i hlt
        refine List.pairwise_cons.mpr ⟨fun z hz => ?_, h⟩
        rcases List.mem_cons.mp hz with rfl | m
        · exact hlt
        · exact plt_trans hlt (h'.1 z m)
      · rename_i hlt
        refine List.pairwise_cons.mpr ⟨fun z hz => ?_, insU_up h'.2⟩
        rcases mem_insU.mp hz with rfl | m
        · exact plt_tri hne hlt
        · exact h'.1 z m
theorem sortU_up : ∀ xs : List (Int × Int), (sortU xs).Pairwise plt
  | [] => by simp [sortU]
  | x :: xs => insU_up (sortU_up xs)
theorem up_uniq : ∀ (xs ys : List (Int × Int)), xs.Pairwise plt → ys.Pairwise plt → (∀ z, z ∈ xs ↔ z ∈ ys) → xs = ys
  | [], [], _, _, _ => rfl
  | [], y :: ys, _, _, h => absurd ((h y).mpr (by simp)) (by simp)
  | x :: xs, [], _, _, h => absurd ((h x).mp (by simp)) (by simp)
  | x :: xs, y :: ys, hx, hy, h => by
    have hx' := List.pairwise_cons.mp hx
    have hy' := List.pairwise_cons.mp hy
    have e : x = y := by
      rcases List.mem_cons.mp ((h x).mp (by simp)) with e | m
      · exact e
      · rcases List.mem_cons.mp ((h y).mpr (by simp)) with e | m'
        · exact e.symm
        · exact absurd (plt_trans (hx'.1 y m') (hy'.1 x m)) (plt_irr x)
    subst e
    rw [up_uniq xs ys hx'.2 hy'.2 fun z => ⟨fun m => ?_, fun m => ?_⟩]
    · rcases List.mem_cons.mp ((h z).mp (by simp [m])) with e | m'
      · subst e; exact absurd (hx'.1 z m) (plt_irr z)
      · exact m'
    · rcases List.mem_cons.mp ((h z).mpr (by simp [m])) with e | m'
      · subst e; exact absurd (hy'.1 z m) (plt_irr z)
      · exact m'
def pairD (p : Int × Int) : D := .tup [.int p.1, .int p.2]
theorem pairs_at {Γ : Gm} {α : List Addr} {G : Hp} : ∀ (xs : List D) (ps : List (Int × Int)) (vs : List V), pairsOf xs = some ps → RepL Γ α G xs vs →
    ∃ ks : List (Addr × List Int), vs = ks.map (fun p => V.ref p.1) ∧ (∀ p ∈ ks, G p.1 = some (.tup (p.2.map V.int))) ∧ ks.map (·.2) = ps.map (fun p => [p.1, p.2]) ∧ ∀ p ∈ ps, (0 ≤ p.1 ∧ p.1 < lim) ∧ 0 ≤ p.2 ∧ p.2 < lim
  | [], ps, vs, h, r => by
    unfold RepL at r
    subst r
    cases h
    exact ⟨[], rfl, by simp, rfl, by simp⟩
  | x :: xs, ps, vs, h, r => by
    unfold pairsOf at h
    split at h
    · rename_i e; cases e
    · rename_i i j ys e
      cases e
      split at h
      · rename_i hb
        cases q : pairsOf xs with
        | none => rw [q] at h; cases h
        | some qs =>
          rw [q] at h
          cases h
          unfold RepL at r
          obtain ⟨v, w, rfl, r1, r2⟩ := r
          obtain ⟨ks, rfl, h1, h2, h3⟩ := pairs_at xs qs w q r2
          unfold Rep at r1
          obtain ⟨a, us, rfl, s1, t1⟩ := r1
          have e : us = [V.int i, V.int j] := by
            obtain ⟨u, u', rfl, t2, t3⟩ := repL2 t1
            simp only [Rep] at t2 t3
            rw [t2, t3]
          subst e
          refine ⟨(a, [i, j]) :: ks, rfl, fun p hp => ?_, by simp [h2], fun p hp => ?_⟩
          · rcases List.mem_cons.mp hp with rfl | m
            · exact s1
            · exact h1 p m
          · rcases List.mem_cons.mp hp with rfl | m
            · exact hb
            · exact h3 p m
      · cases h
    · cases h
def pk (l : List Int) : Int × Int := (l.headD 0, (l.drop 1).headD 0)
theorem code2 (x y : Int) : TS.code lim [x, y] = x * lim + y := by
  show x * lim ^ 1 + (y * lim ^ 0 + 0) = x * lim + y
  have e1 : lim ^ 1 = lim := by decide
  have e0 : lim ^ 0 = 1 := by decide
  rw [e1, e0, Int.mul_one, Int.add_zero]
theorem rep_pairs {Γ : Gm} {α : List Addr} {G : Hp} : ∀ (L : List (Addr × List Int)), (∀ p ∈ L, G p.1 = some (.tup (p.2.map V.int))) → (∀ p ∈ L, ∃ i j, p.2 = [i, j]) → RepL Γ α G ((L.map fun p => pk p.2).map pairD) (L.map fun p => V.ref p.1)
  | [], _, _ => by simp [RepL]
  | p :: L, h, h2 => by
    obtain ⟨i, j, e⟩ := h2 p (by simp)
    have h1 := h p (by simp)
    rw [List.map_cons, List.map_cons, List.map_cons]
    unfold RepL
    refine ⟨_, _, rfl, ?_, rep_pairs L (fun q hq => h q (by simp [hq])) fun q hq => h2 q (by simp [hq])⟩
    rw [e] at h1 ⊢
    unfold pairD Rep
    exact ⟨p.1, [V.int i, V.int j], rfl, h1, by simp [RepL, Rep, pk]⟩
section
variable {X : Cx} {cl : Nat → Addr} {E : XK} {e : Expr} {m : ME} {pos : Pos}
theorem ss_pairs {xs : List D} {ps : List (Int × Int)} {v : V} {α1 : List Addr} {G1 H1 : Hp} {S1 : Store} {Q Q2 : VK} (R1 : Rl ⟨X.K, cl⟩ α1 G1 S1 H1) (r1 : Rep ⟨X.K, cl⟩ α1 G1 (.lst xs) v) (q : pairsOf xs = some ps) (hl : ps.length < 64)
    (hp1 : Post ⟨X.K, cl⟩ (Rep ⟨X.K, cl⟩) α1 G1 H1 (.ok (.lst ((sortU ps).map pairD)) S1) Q E) (hQ : ∀ x H2, rSortedT X.K X.prog X.w [x] H2 Q → Q2 x H2) : rSetOfT X.K X.prog X.w [v] H1 Q2 := by
  unfold Rep at r1
  obtain ⟨l, vs, rfl, s1, t1⟩ := r1
  obtain ⟨ks, rfl, k1, k2, k3⟩ := pairs_at xs ps vs q t1
  have hlen : ks.length = ps.length := by have := congrArg List.length k2; simpa using this
  have two : ∀ p ∈ ks, ∃ i j, p.2 = [i, j] ∧ (i, j) ∈ ps := fun p hp => by
    have : p.2 ∈ ps.map (fun p => [p.1, p.2]) := by rw [← k2]; exact List.mem_map.mpr ⟨p, hp, rfl⟩
    obtain ⟨u, hu, e⟩ := List.mem_map.mp this
    exact ⟨u.1, u.2, e.symm, hu⟩
  refine ⟨l, ks, rfl, R1.sub.sqL (.inl (.inl s1)), fun p hp => .inl (.inl (R1.sub _ _ (k1 p hp))), by rw [hlen]; exact hl, fun a L ha hL hL2 => ?_⟩
  obtain ⟨R2, e2⟩ := R1.new ha (SetTO X.prog X.w a L)
  refine hQ _ _ ?_
  refine ⟨a, L, 2, lim, rfl, upd_same, fun p hp => .inl (.inl (R2.sub _ _ (e2.sub _ _ (k1 p (hL p hp))))), by decide, fun p hp => ?_, fun L' b pm nd hf pw hb => ?_⟩
  · obtain ⟨i, j, e, hm⟩ := two p (hL p hp)
    have b := k3 _ hm
    refine ⟨by rw [e]; rfl, fun z hz => ?_⟩
    rw [e] at hz
    simp at hz
    rcases hz with rfl | rfl
    · exact b.1
    · exact b.2
  · have two' : ∀ p ∈ L', ∃ i j, p.2 = [i, j] ∧ (i, j) ∈ ps := fun p hp => two p (hL p (pm.subset hp))
    have eM : (L'.map fun p => pk p.2) = sortU ps := by
      refine up_uniq _ _ ?_ (sortU_up ps) fun z => ?_
      · rw [List.pairwise_map]
        have nd' : L'.Pairwise fun p q => p.2 ≠ q.2 := by
          have := nd
          unfold List.Nodup at this
          rwa [List.pairwise_map] at this
        refine (pw.and nd').imp_of_mem fun {p q} hp hq hpq => ?_
        obtain ⟨i, j, ep, mp⟩ := two' p hp
        obtain ⟨i', j', eq, mq⟩ := two' q hq
        have b := k3 _ mp
        have b' := k3 _ mq
        have c := hpq.1
        have ne := hpq.2
        rw [ep, eq, code2, code2] at c
        rw [ep, eq] at ne ⊢
        show plt (i, j) (i', j')
        unfold plt
        simp only at b b' ⊢
        unfold lim at *
        by_cases e : i = i'
        · by_cases e3 : j = j'
          · exact absurd (by rw [e, e3]) ne
          · right; omega
        · left; omega
      · rw [mem_sortU]
        constructor
        · intro hz
          obtain ⟨p, hp, rfl⟩ := List.mem_map.mp hz
          obtain ⟨i, j, ep, mp⟩ := two' p hp
          rw [ep]
          exact mp
        · intro hz
          have : [z.1, z.2] ∈ ks.map (·.2) := by rw [k2]; exact List.mem_map.mpr ⟨z, hz, rfl⟩
          obtain ⟨p, hp, e⟩ := List.mem_map.mp this
          obtain ⟨p', hp', e'⟩ := List.mem_map.mp (hL2 p hp)
          exact List.mem_map.mpr ⟨p', pm.mem_iff.mpr hp', by rw [e', e]; rfl⟩
    obtain ⟨R3, e3⟩ := R2.new hb (.lst (L'.map fun q => V.ref q.1))
    refine hp1 _ _ _ _ (e2.trans e3) R3 (rep_lst upd_same ?_)
    rw [← eM]
    exact rep_pairs L' (fun p hp => e3.sub _ _ (e2.sub _ _ (k1 p (hL p (pm.subset hp))))) fun p hp => by
      obtain ⟨i, j, e, _⟩ := two' p hp
      exact ⟨i, j, e⟩
end
section
variable {S : Store} {ρ : Env}
theorem pairsOf_map : ∀ (ps : List (Int × Int)), (∀ p ∈ ps, (0 ≤ p.1 ∧ p.1 < lim) ∧ 0 ≤ p.2 ∧ p.2 < lim) → pairsOf (ps.map pairD) = some ps
  | [], _ => rfl
  | p :: ps, h => by
    rw [List.map_cons]
    unfold pairD pairsOf
    rw [if_pos (h p (by simp)), show ps.map (fun p => D.tup [.int p.1, .int p.2]) = ps.map pairD from rfl, pairsOf_map ps fun q hq => h q (by simp [hq])]
    rfl
end
end Q
namespace L2
open PySem PySem.Spec PyProof.Rows
section
variable {P : Program} {w : World} {A : Around} {E : Value → Shared → Prop} {s : Shared}
abbrev bare (w : World) : Obj := { cls := .type "set", dict := none, data := .set #[] 0 (.fresh 0 0 (!w.params.followText "set-order")) }
abbrev walker (l : Addr) : Obj := { cls := .type "list_iterator", data := .fields #[.ref l, .int 0 0] }
def Filled (w : World) (s : Shared) (ns : List Int) (s' : Shared) : Prop := ∃ h' tk c, s' = { s with heap := h', toks := tk } ∧ SetR w h' s.heap.objs.size (fun j => decide (j ∈ ns)) c ∧ c ≤ ns.length ∧ ∀ b o, s.heap.get? b = some o → h'.get? b = some o
theorem fill_list {l : Addr} {xs : Array Value} {ns : List Int} (hh : A.handled = none) (hl : s.heap.IsList l xs) (hi : IntsAre xs.toList ns) (hb : ns.length + 1 < scanBound) :
    codeAny (model P w) A (.call (.builtin "set.__init__") ⟨[.ref s.heap.objs.size, .ref l], []⟩) (wants (fun r s₂ => r = .none ∧ Filled w s ns s₂) E) { s with heap := s.heap.push (bare w) } := by
  have len : xs.size = ns.length := by simpa using IntsAre.length hi
  obtain ⟨o, ho, hc, k, hd⟩ := hl
  obtain ⟨oc, odi, oda, osl⟩ := o
  simp only at hc hd
  subst hc hd
  have lt0 : l < s.heap.objs.size := Heap.lt_size ho
  have sz : (s.heap.push (bare w)).objs.size = s.heap.objs.size + 1 := Heap.size_push ..
  have at_ : (s.heap.push (bare w)).get? l = some { cls := .type "list", dict := odi, data := .seq xs k, slots := osl } := Heap.get?_push_of_some _ ho
  have isl : (s.heap.push (bare w)).IsList l xs := ⟨_, at_, rfl, k, rfl⟩
  have ty : Shared.TypeIs { s with heap := s.heap.push (bare w) } (.ref s.heap.objs.size) "set" := ⟨_, Heap.get?_push_size _ rfl, rfl⟩
  refine codeAny_call_builtin F.called_set.init.plain F.entry_set_init (check_set_init_1 ty ?_)
  have f1 := F.sub_list_set
  have f2 := F.sub_list_frozenset
  have f3 : (Value.type "list" == Value.type "dict") = false := by decide
  unfold Builtin.«set.__init__» noKeywords Builtin.Frozenset.updateFrom
  generalize hit : pyIter = it
  wp_walk
  subst hit
  refine wpAny_pyIter_list isl (wpAny_bind (wpAny_runValue ?_))
  have away : l ≠ (s.heap.push (bare w)).objs.size := by rw [sz]; exact Nat.ne_of_lt (Nat.lt_succ_of_lt lt0)
  have away2 : s.heap.objs.size ∉ [(s.heap.push (bare w)).objs.size, l] := by simp [sz]; exact Nat.ne_of_gt lt0
  have val : ∀ (i : Nat) (v : Value), xs[i]? = some v → ∃ k t, ns[i]? = some k ∧ v = .int k t := fun i v hv => by
    have lt : i < ns.length := by have := (Array.getElem?_eq_some_iff.mp hv).1; omega
    obtain ⟨t, e⟩ := PyProof.Rows.IntsAre.int_at hi i v (by rw [Array.getElem?_toList]; exact hv)
    exact ⟨ns[i], t, List.getElem?_eq_getElem lt, by rw [e, List.getD_eq_getElem?_getD, List.getElem?_eq_getElem lt]; rfl⟩
  have g0 : ((s.heap.push (bare w)).push (walker l)).get? s.heap.objs.size = some (bare w) := Heap.get?_push_of_some _ (Heap.get?_push_size _ rfl)
  refine set_update_ints ((Walks.list (by simp [hh]) _ l away xs).toS) s.heap.objs.size away2 ns len hb val (xs.size - 0) 0 _ (by omega) (Nat.zero_le _) ⟨⟨_, Heap.get?_push_size _ rfl, rfl, rfl⟩, isl.push _⟩ ⟨0, Nat.le_refl 0, setR_new_at g0⟩ fun s' c hm hc hs => ?_
  obtain ⟨h', g', d', tk', os'⟩ := s'
  obtain rfl : g' = s.gens := hm.gens
  obtain rfl : d' = s.drawn := hm.drawn
  obtain rfl : os' = s.os := hm.os
  show wpAny _ _ _ _ _ _
  refine wpAny_pure ?_
  show wpAny _ _ (ret Value.none) _ _ _
  refine wpAny_pure ⟨rfl, h', tk', c, rfl, hs, by omega, fun b o e => ?_⟩
  have lb := Heap.lt_size e
  exact hm.heap b o (by simp [sz]; exact ⟨Nat.ne_of_lt lb, Nat.ne_of_lt (Nat.lt_succ_of_lt lb)⟩) (Heap.get?_push_of_some _ (Heap.get?_push_of_some _ e))
theorem set_ofL {l : Addr} {xs : Array Value} {ns : List Int} {Q : Value → Shared → Prop} (hh : A.handled = none) (hl : s.heap.IsList l xs) (hi : IntsAre xs.toList ns) (hb : ns.length + 1 < scanBound) (q : ∀ s', Filled w s ns s' → Q (.ref s.heap.objs.size) s') :
    wpAny (model P w) A (call (.type "set") [.ref l]) Q E s := by
  obtain ⟨c, tl, mro⟩ := F.called_set.mro
  have m1 := F.called_set.made
  have m2 := F.called_set.sub
  have m3 := F.called_set.notType
  have m4 := F.called_set.canCreate
  have m5 := F.typeCall_set_1 (.ref l)
  refine wpAny_call (codeAny_of_tree ?_)
  show wpAny _ _ (callAny (.type "set") _) _ _ _
  refine wpAny_pure ⟨Code.quiet_builtin _ (by decide +kernel), codeAny_builtin F.entry_type_call ?_⟩
  rw [Around.under_plain (weight_type_call_type "set" [.ref l] []) rfl]
  repeat (any_goals (first | assumption | wp_step))
  refine codeAny_mono (code_set_led1 (.ref l) (E := E) (Q₁ := fun o t => o = .ref s.heap.objs.size ∧ t = { s with heap := s.heap.push (bare w) }) ⟨rfl, rfl⟩) fun r t hr => ?_
  cases r with
  | error e => exact hr
  | ok fl =>
    cases fl with
    | ret obj =>
      obtain ⟨rfl, rfl⟩ := hr
      have i1 := F.called_set.init.lookup
      have i2 := F.called_set.init.bind (.ref s.heap.objs.size)
      have is : Shared.TypeIs { s with heap := s.heap.push (bare w) } (.ref s.heap.objs.size) "set" := ⟨_, Heap.get?_push_size _ rfl, rfl⟩
      repeat (any_goals (first | assumption | wp_step))
      refine codeAny_mono (fill_list (P := P) (E := E) (by simp [hh]) hl hi hb) fun r2 s2 hr2 => ?_
      cases r2 with
      | error e => exact hr2
      | ok fl2 =>
        cases fl2 with
        | ret r =>
          obtain ⟨rfl, hf⟩ := hr2
          repeat (any_goals (first | assumption | wp_step))
          exact q _ hf
        | _ => exact hr2.elim
    | _ => exact hr.elim
end
section
variable {X : Cx}
def rSetOfL (K : PySem.W.Frag) (w : World) : List V → Hp → VK → Prop := fun vs H Q => ∃ (l : Addr) (ns : List Int), vs = [V.ref l] ∧ SqL K H l (ns.map V.int) ∧ ns.length + 1 < scanBound ∧ ∀ a c, H a = none → c ≤ ns.length → Q (.ref a) (upd H a (SetO w a (fun j => decide (j ∈ ns)) c))
theorem cr_setL (hc : X.calm = true) : CallR X (.type "set") (rSetOfL X.K X.w) := by
  intro pins s σ H vs us Q I r h
  obtain ⟨l, ns, rfl, hl, hb, q⟩ := h
  obtain ⟨its, rv, li, hz⟩ := I.list hl
  rw [Vals.ref1 r]
  refine set_ofL (I.ok.hd hc) li.isList (by simpa using rv.ints) hb fun s' hf => ?_
  obtain ⟨h', tk, c, rfl, hs, hcl, keep⟩ := hf
  exact ⟨.ref _, upd H s.heap.objs.size (SetO X.w s.heap.objs.size (fun j => decide (j ∈ ns)) c), I.laid (t' := tk) keep (Nat.le_refl _) (setO_new hs), rfl, q _ c (I.hok.fresh (Nat.le_refl _)) hcl⟩
end
end L2
namespace Q
open PySem L2
def intsOf : List D → Option (List Int)
  | [] => some []
  | .int i :: xs => (intsOf xs).map (i :: ·)
  | _ :: _ => none
def insN (x : Int) : List Int → List Int
  | [] => [x]
  | y :: ys => if x = y then y :: ys else if x < y then x :: y :: ys else y :: insN x ys
def sortN : List Int → List Int
  | [] => []
  | x :: xs => insN x (sortN xs)
theorem mem_insN {x z : Int} : ∀ {ys : List Int}, z ∈ insN x ys ↔ z = x ∨ z ∈ ys
  | [] => by simp [insN]
  | y :: ys => by
    unfold insN
    split
    · rename_i e
      subst e
      simp
    · split
      · simp
      · simp only [List.mem_cons, mem_insN (ys := ys)]
        constructor <;> (intro h; rcases h with h | h | h <;> simp [h])
theorem mem_sortN {z : Int} : ∀ {xs : List Int}, z ∈ sortN xs ↔ z ∈ xs
  | [] => by simp [sortN]
  | x :: xs => by
    unfold sortN
    rw [mem_insN, mem_sortN, List.mem_cons]
theorem insN_up {x : Int} : ∀ {ys : List Int}, ys.Pairwise (· < ·) → (insN x ys).Pairwise (· < ·)
  | [], _ => by simp [insN]
  | y :: ys, h => by
    have h' := List.pairwise_cons.mp h
    unfold insN
    split
    · exact h
    · rename_i hne
      split
      · rename_i hlt
        refine List.pairwise_cons.mpr ⟨fun z hz => ?_, h⟩
        rcases List.mem_cons.mp hz with rfl | m
        · exact hlt
        · exact Int.lt_trans hlt (h'.1 z m)
      · rename_i hlt
        refine List.pairwise_cons.mpr ⟨fun z hz => ?_, insN_up h'.2⟩
        rcases mem_insN.mp hz with rfl | m
        · omega
        · exact h'.1 z m
theorem sortN_up : ∀ xs : List Int, (sortN xs).Pairwise (· < ·)
  | [] => by simp [sortN]
  | x :: xs => insN_up (sortN_up xs)
theorem upN_uniq : ∀ (xs ys : List Int), xs.Pairwise (· < ·) → ys.Pairwise (· < ·) → (∀ z, z ∈ xs ↔ z ∈ ys) → xs = ys
  | [], [], _, _, _ => rfl
  | [], y :: ys, _, _, h => absurd ((h y).mpr (by simp)) (by simp)
  | x :: xs, [], _, _, h => absurd ((h x).mp (by simp)) (by simp)
  | x :: xs, y :: ys, hx, hy, h => by
    have hx' := List.pairwise_cons.mp hx
    have hy' := List.pairwise_cons.mp hy
    have e : x = y := by
      rcases List.mem_cons.mp ((h x).mp (by simp)) with e | m
      · exact e
      · rcases List.mem_cons.mp ((h y).mpr (by simp)) with e | m'
        · exact e.symm
        · have a := hx'.1 y m'
          have b := hy'.1 x m
          omega
    subst e
    rw [upN_uniq xs ys hx'.2 hy'.2 fun z => ⟨fun m => ?_, fun m => ?_⟩]
    · rcases List.mem_cons.mp ((h z).mp (by simp [m])) with e | m'
      · have := hx'.1 z m; omega
      · exact m'
    · rcases List.mem_cons.mp ((h z).mpr (by simp [m])) with e | m'
      · have := hy'.1 z m; omega
      · exact m'
theorem ints_at {Γ : Gm} {α : List Addr} {G : Hp} : ∀ (xs : List D) (ns : List Int) (vs : List V), intsOf xs = some ns → RepL Γ α G xs vs → vs = ns.map V.int
  | [], ns, vs, h, r => by
    unfold RepL at r
    subst r
    cases h
    rfl
  | x :: xs, ns, vs, h, r => by
    unfold intsOf at h
    split at h
    · rename_i e; cases e
    · rename_i i ys e
      cases e
      cases q : intsOf xs with
      | none => rw [q] at h; cases h
      | some ms =>
        rw [q] at h
        cases h
        unfold RepL at r
        obtain ⟨v, w, rfl, r1, r2⟩ := r
        rw [ints_at xs ms w q r2]
        simp only [Rep] at r1
        rw [r1]
        rfl
    · cases h
theorem rep_ints {Γ : Gm} {α : List Addr} {G : Hp} : ∀ ns : List Int, RepL Γ α G (ns.map D.int) (ns.map V.int)
  | [] => by simp [RepL]
  | n :: ns => by
    rw [List.map_cons, List.map_cons]
    unfold RepL
    exact ⟨_, _, rfl, by simp [Rep], rep_ints ns⟩
def ssK (d : D) (S : Store) : Res D := match d with
  | .lst xs => match pairsOf xs with
    | some ps => if ps.length < 64 then .ok (.lst ((sortU ps).map pairD)) S else .no
    | none => match intsOf xs with
      | some ns => if ns.length < 64 then .ok (.lst ((sortN ns).map .int)) S else .no
      | none => .no
  | _ => .no
def mSortSet (m : ME) : ME := fun ρ S => (m ρ S).bind ssK
section
variable {X : Cx} {cl : Nat → Addr} {E : XK} {e : Expr} {m : ME} {pos : Pos}
theorem q_sortset {k : Nat} {p p1 p2 : Pos} (hr : Room k X.A) (h : QE X cl E e m) (hg : Gl X "sorted") (hm : X.mg "sorted" = none) (hg' : Gl X "set") (hm' : X.mg "set" = none) (hc : X.calm = true := by rfl)
    (he : starEach [e] X.env = (false, eval e X.env) :: starEach [] X.env := by rfl)
    (he2 : starEach [.Call (.Name "set" p1) [e] [] p2] X.env = (false, eval (.Call (.Name "set" p1) [e] [] p2) X.env) :: starEach [] X.env := by rfl)
    (hpl : (backTo p2 (starEach [] X.env)).any (·.1) = false := by rfl) (hpl2 : (backTo pos (starEach [] X.env)).any (·.1) = false := by rfl) :
    QE X cl E (.Call (.Name "sorted" p) [.Call (.Name "set" p1) [e] [] p2] [] pos) (mSortSet m) := by
  obtain ⟨t, h1, h2⟩ := h.ex
  have c1 := pe_callTy (pos := p2) (p := p1) ((cr_setOfT hc hr.units).or (cr_setL hc)) hg' hm' (by rfl) (pa_cons h1 pa_nil he) (by decide) (by decide) he hpl
  refine ⟨_, pe_callB ((cr_sortedT hc).or (cr_sortedSet hc)) hg hm (by rfl) (pa_cons c1 pa_nil he2) (by decide) (by decide) he2 hpl2, fun ρ S σ α G H Q hρ hR hp => ?_⟩
  refine h2 ρ S σ α G H _ hρ hR (post_bind hp fun d S1 α1 G1 H1 v _ e1 R1 r1 hp1 => ?_)
  cases d with
  | lst xs =>
    simp only [ssK] at hp1
    cases q : pairsOf xs with
    | some ps =>
      rw [q] at hp1
      simp only at hp1
      split at hp1
      · rename_i hl
        exact .inl (ss_pairs R1 r1 q hl hp1 fun x H2 z => .inl z)
      · exact hp1.elim
    | none =>
      rw [q] at hp1
      simp only at hp1
      cases q2 : intsOf xs with
      | none => rw [q2] at hp1; exact hp1.elim
      | some ns =>
        rw [q2] at hp1
        simp only at hp1
        split at hp1
        · rename_i hl
          unfold Rep at r1
          obtain ⟨l, vs, rfl, s1, t1⟩ := r1
          have ev := ints_at xs ns vs q2 t1
          subst ev
          refine .inr ⟨l, ns, rfl, R1.sub.sqL (.inl (.inl s1)), by unfold scanBound; omega, fun a c ha hcl => .inr ⟨a, _, c, rfl, upd_same, by omega, fun ns' b pw mem len hb => ?_⟩⟩
          have en : ns' = sortN ns := upN_uniq _ _ pw (sortN_up ns) fun z => by rw [mem_sortN, mem z]; exact decide_eq_true_iff
          subst en
          obtain ⟨R2, e2⟩ := R1.new ha (SetO X.w a (fun j => decide (j ∈ ns)) c)
          obtain ⟨R3, e3⟩ := R2.new hb (.lst ((sortN ns).map V.int))
          exact hp1 _ _ _ _ (e2.trans e3) R3 (rep_lst upd_same (rep_ints _))
        · exact hp1.elim
  | _ => exact hp1.elim
end
section
variable {S : Store} {ρ : Env}
@[simp] theorem ap_sortset (m : ME) : mSortSet m ρ S = (m ρ S).bind ssK := (Eq.refl _).trans rfl
theorem ssK_pairs {ps : List (Int × Int)} (h : ∀ p ∈ ps, (0 ≤ p.1 ∧ p.1 < lim) ∧ 0 ≤ p.2 ∧ p.2 < lim) (hl : ps.length < 64) : ssK (.lst (ps.map pairD)) S = .ok (.lst ((sortU ps).map pairD)) S := by
  simp only [ssK, pairsOf_map ps h, hl, if_true]
end
end Q
namespace L2
open PySem PySem.Spec PyProof.Rows
theorem perm_of_map {α β : Type} {f : α → β} {l m : List β} (h : l.Perm m) : ∀ ks : List α, m = ks.map f → ∃ L : List α, L.Perm ks ∧ l = L.map f := by
  induction h with
  | nil => exact fun ks e => ⟨[], by rw [List.map_eq_nil_iff.mp e.symm], rfl⟩
  | cons x _ ih =>
    intro ks e
    cases ks with
    | nil => cases e
    | cons k ks =>
      rw [List.map_cons] at e
      have i1 := (List.cons.inj e).1
      obtain ⟨L, p, e2⟩ := ih ks (List.cons.inj e).2
      exact ⟨k :: L, p.cons k, by rw [i1, e2]; rfl⟩
  | swap x y l =>
    intro ks e
    match ks, e with
    | a :: b :: ks, e =>
      rw [List.map_cons, List.map_cons] at e
      have i1 := (List.cons.inj e).1
      have i2 := (List.cons.inj (List.cons.inj e).2).1
      have i3 := (List.cons.inj (List.cons.inj e).2).2
      exact ⟨b :: a :: ks, List.Perm.swap a b ks, by rw [i1, i2, i3]; rfl⟩
    | [], e => cases e
    | [_], e => cases e
  | trans _ _ ih1 ih2 =>
    intro ks e
    obtain ⟨L, p, e2⟩ := ih2 ks e
    obtain ⟨M, q, e3⟩ := ih1 L e2
    exact ⟨M, q.trans p, e3⟩
end L2
namespace Q
open PySem L2
def ple (a b : Int × Int) : Prop := a.1 < b.1 ∨ (a.1 = b.1 ∧ a.2 ≤ b.2)
instance (a b : Int × Int) : Decidable (ple a b) := by unfold ple; infer_instance
end Q
namespace Q
open PySem L2
theorem upd2 {H : Hp} {p : Addr} (o o' : HO) : upd (upd H p o) p o' = upd H p o' := by
  funext a
  by_cases h : a = p
  · subst h; rw [upd_same, upd_same]
  · rw [upd_ne h, upd_ne h, upd_ne h]
theorem EnvR.drop {Γ : Gm} {α : List Addr} {G : Hp} {ρ : Env} {σ : L2.St} (h : EnvR Γ α G ρ σ) (i : Nat) (o : Option V) : EnvR Γ α G (ρ.set i none) (σ.set i o) := by
  refine ⟨by simp [h.1], fun j e hj => ?_⟩
  by_cases hij : i = j
  · subst hij
    have hl : i < ρ.length := by
      have := (List.getElem?_eq_some_iff.mp hj).1
      simpa using this
    rw [List.getElem?_set_self hl] at hj
    cases hj
  · rw [List.getElem?_set_ne hij] at hj ⊢
    exact h.2 j e hj
end Q
namespace L2
open PySem PySem.Spec PyProof.Rows
end L2
namespace Q
open PySem L2
end Q
namespace L2
open PySem PySem.Spec PyProof.Rows
end L2
namespace Q
open PySem L2
theorem PE.or {X : Cx} {e : Expr} {t u : TE} (h : PE X e t) (h' : PE X e u) : PE X e (fun σ H Q => t σ H Q ∨ u σ H Q) := ⟨fun pins s σ H Q I q => q.elim (fun q => h.run pins s σ H Q I q) (fun q => h'.run pins s σ H Q I q)⟩
def seqX (S : Store) : D → Option (List D)
  | .tup xs => some xs
  | d => rdL S d
def mStar (m : ME) (n : MA) : MA := fun ρ S => (m ρ S).bind fun d S1 => match seqX S1 d with
  | some xs => (n ρ S1).bind fun ys S2 => .ok (xs ++ ys) S2
  | none => .no
section
variable {X : Cx} {cl : Nat → Addr} {E : XK} {e e1 e2 e3 : Expr} {m m1 m2 m3 : ME} {pos : Pos}
theorem seqX_at {Γ : Gm} {α : List Addr} {G H : Hp} {S : Store} (R : Rl Γ α G S H) {d : D} {v : V} {xs : List D} (r : Rep Γ α G d v) (h : seqX S d = some xs) : ∃ a vs, v = .ref a ∧ (SqT Γ.K H a vs ∨ SqL Γ.K H a vs) ∧ RepL Γ α G xs vs := by
  have go : rdL S d = some xs → ∃ a vs, v = .ref a ∧ (SqT Γ.K H a vs ∨ SqL Γ.K H a vs) ∧ RepL Γ α G xs vs := fun h => by
    obtain ⟨a, vs, e, q, r⟩ := rdL_at R r h
    exact ⟨a, vs, e, .inr q, r⟩
  cases d with
  | tup ys =>
    have e : ys = xs := Option.some.inj h
    subst e
    obtain ⟨a, vs, rfl, q, r⟩ := tup_at R r
    exact ⟨a, vs, rfl, .inl q, r⟩
  | _ => exact go h
theorem q_star {es : List Expr} {n : MA} {p : Pos} (h : QE X cl E e m) (k : QA X cl E es n) (hs : starEach (.Starred e p :: es) X.env = (true, eval e X.env) :: starEach es X.env := by rfl) : QA X cl E (.Starred e p :: es) (mStar m n) := by
  obtain ⟨t, h1, h2⟩ := h.ex
  obtain ⟨u, k1, k2⟩ := k.ex
  refine ⟨_, StX.pa_star h1 k1 hs, fun ρ S σ α G H Q hρ hR hp => ?_⟩
  refine h2 ρ S σ α G H _ hρ hR (post_bind hp fun d S1 α1 G1 H1 v q1 e1 R1 r1 hp1 => ?_)
  clear q1
  split at hp1
  case h_2 => exact hp1.elim
  rename_i xs hx
  obtain ⟨a, vs, rfl, q, rL⟩ := seqX_at R1 r1 hx
  refine ⟨a, vs, rfl, q, k2 ρ S1 σ α1 G1 H1 _ (hρ.mono e1) R1 (post_bind hp1 fun ys S2 α2 G2 H2 ws q2 e2 R2 r2 hp2 => ?_)⟩
  exact post_ok hp2 R2 ((RepL.mono e2.pre e2.sub _ _ rL).append r2)
end
section
variable {S : Store} {ρ : Env}
def starK2 (xs ys : List D) (S : Store) : Res (List D) := .ok (xs ++ ys) S
@[simp] theorem starK2_ap (xs ys : List D) : starK2 xs ys S = .ok (xs ++ ys) S := (Eq.refl _).trans rfl
def starK (n : MA) (ρ : Env) (d : D) (S : Store) : Res (List D) := match seqX S d with
  | some xs => (n ρ S).bind (starK2 xs)
  | none => .no
@[simp] theorem ap_star (m : ME) (n : MA) : mStar m n ρ S = (m ρ S).bind (starK n ρ) := (Eq.refl _).trans rfl
@[simp] theorem starK_tup (n : MA) (xs : List D) : starK n ρ (.tup xs) S = (n ρ S).bind (starK2 xs) := (Eq.refl _).trans rfl
@[simp] theorem starK_lst (n : MA) (xs : List D) : starK n ρ (.lst xs) S = (n ρ S).bind (starK2 xs) := (Eq.refl _).trans rfl
@[simp] theorem ap_none {β : Type} : (fun (_ : Env) (_ : Store) => (Res.no : Res β)) ρ S = .no := rfl
end
end Q
namespace Q
open PySem L2
def putO (i : Nat) (d : D) (fs : List (Option D)) : List (Option D) := (fs ++ List.replicate (i + 1 - fs.length) none).set i (some d)
theorem RepO.put {Γ : Gm} {α : List Addr} {G : Hp} {fs : List (Option D)} {vs : List (Option V)} (h : RepO Γ α G fs vs) (i : Nat) {d : D} {v : V} (r : Rep Γ α G d v) : RepO Γ α G (putO i d fs) (SlX.putS i v vs) := by
  intro j e he
  by_cases hj : j = i
  · subst hj
    refine ⟨v, SlX.putS_get j v vs, ?_⟩
    have : (putO j d fs)[j]? = some (some d) := by
      unfold putO
      exact List.getElem?_set_self (by simp only [List.length_append, List.length_replicate]; omega)
    rw [this] at he
    cases he
    exact r
  · have : fs[j]? = some (some e) := by
      unfold putO at he
      rw [List.getElem?_set_ne (Ne.symm hj)] at he
      by_cases hl : j < fs.length
      · rw [List.getElem?_append_left hl] at he
        exact he
      · rw [List.getElem?_append_right (by omega), List.getElem?_replicate] at he
        split at he <;> cases he
    obtain ⟨w, hw, rw'⟩ := h j e this
    exact ⟨w, (SlX.putS_ne hj).mpr hw, rw'⟩
end Q
namespace Q
open PySem L2
section
variable {κ : Type} [DecidableEq κ]
def valD (kvs : List (κ × D)) (k : κ) : Option D := (kvs.find? fun kv => decide (kv.1 = k)).map (·.2)
def putD (kvs : List (κ × D)) (k : κ) (d : D) : List (κ × D) := if (kvs.any fun kv => decide (kv.1 = k)) = true then kvs.map (fun kv => if kv.1 = k then (kv.1, d) else kv) else kvs ++ [(k, d)]
theorem valD_cons (p : κ × D) (r : List (κ × D)) (k : κ) : valD (p :: r) k = if p.1 = k then some p.2 else valD r k := by
  by_cases e : p.1 = k <;> simp [valD, List.find?_cons, e]
theorem valV_cons (p : κ × V) (r : List (κ × V)) (k : κ) : valV (p :: r) k = if p.1 = k then some p.2 else valV r k := by
  by_cases e : p.1 = k <;> simp [valV, List.find?_cons, e]
variable {Γ : Gm} {α : List Addr} {G : Hp}
theorem RepKV.val : ∀ {kvs : List (κ × D)} {ws : List (κ × V)} (k : κ), RepKV Γ α G kvs ws → (∀ d, valD kvs k = some d → ∃ v, valV ws k = some v ∧ Rep Γ α G d v) ∧ (valD kvs k = none → valV ws k = none)
  | [], ws, k, h => by
    unfold RepKV at h
    subst h
    exact ⟨fun d e => by simp [valD] at e, fun _ => rfl⟩
  | p :: r, ws, k, h => by
    unfold RepKV at h
    obtain ⟨v, t, rfl, h1, h2⟩ := h
    rw [valD_cons, valV_cons]
    by_cases e : p.1 = k
    · rw [if_pos e, if_pos e]
      exact ⟨fun d hd => ⟨v, rfl, by cases hd; exact h1⟩, fun hn => nomatch hn⟩
    · rw [if_neg e, if_neg e]
      exact RepKV.val k h2
theorem RepKV.length : ∀ {kvs : List (κ × D)} {ws : List (κ × V)}, RepKV Γ α G kvs ws → kvs.length = ws.length
  | [], ws, h => by unfold RepKV at h; subst h; rfl
  | p :: r, ws, h => by
    unfold RepKV at h
    obtain ⟨v, t, rfl, _, h2⟩ := h
    simp [RepKV.length h2]
theorem RepKV.any (k : κ) : ∀ {kvs : List (κ × D)} {ws : List (κ × V)}, RepKV Γ α G kvs ws → (kvs.any fun kv => decide (kv.1 = k)) = (ws.any fun kv => decide (kv.1 = k))
  | [], ws, h => by unfold RepKV at h; subst h; rfl
  | p :: r, ws, h => by
    unfold RepKV at h
    obtain ⟨v, t, rfl, _, h2⟩ := h
    simp [RepKV.any k h2]
theorem RepKV.upd {k : κ} {d : D} {v : V} (r0 : Rep Γ α G d v) : ∀ {kvs : List (κ × D)} {ws : List (κ × V)}, RepKV Γ α G kvs ws → RepKV Γ α G (kvs.map fun kv => if kv.1 = k then (kv.1, d) else kv) (ws.map fun kv => if kv.1 = k then (kv.1, v) else kv)
  | [], ws, h => by unfold RepKV at h; subst h; simp [RepKV]
  | p :: r, ws, h => by
    unfold RepKV at h
    obtain ⟨u, t, rfl, h1, h2⟩ := h
    rw [List.map_cons, List.map_cons]
    unfold RepKV
    by_cases e : p.1 = k
    · simp only [e, if_true]
      exact ⟨v, _, rfl, r0, RepKV.upd r0 h2⟩
    · simp only [e, if_false]
      exact ⟨u, _, rfl, h1, RepKV.upd r0 h2⟩
theorem RepKV.snoc {k : κ} {d : D} {v : V} (r0 : Rep Γ α G d v) : ∀ {kvs : List (κ × D)} {ws : List (κ × V)}, RepKV Γ α G kvs ws → RepKV Γ α G (kvs ++ [(k, d)]) (ws ++ [(k, v)])
  | [], ws, h => by
    unfold RepKV at h
    subst h
    show RepKV Γ α G [(k, d)] [(k, v)]
    unfold RepKV
    exact ⟨v, [], rfl, r0, by simp [RepKV]⟩
  | p :: r, ws, h => by
    unfold RepKV at h
    obtain ⟨u, t, rfl, h1, h2⟩ := h
    show RepKV Γ α G (p :: (r ++ [(k, d)])) ((p.1, u) :: (t ++ [(k, v)]))
    unfold RepKV
    exact ⟨u, _, rfl, h1, RepKV.snoc r0 h2⟩
theorem RepKV.put {k : κ} {d : D} {v : V} (r0 : Rep Γ α G d v) {kvs : List (κ × D)} {ws : List (κ × V)} (h : RepKV Γ α G kvs ws) : RepKV Γ α G (putD kvs k d) (putK ws k v) := by
  unfold putD putK
  rw [h.any k]
  split
  · exact h.upd r0
  · exact h.snoc r0
theorem RepKV.get : ∀ {kvs : List (κ × D)} {ws : List (κ × V)} {i : Nat} {k : κ} {v : V}, RepKV Γ α G kvs ws → ws[i]? = some (k, v) → ∃ d, kvs[i]? = some (k, d) ∧ Rep Γ α G d v
  | [], ws, i, k, v, h, hi => by unfold RepKV at h; subst h; simp at hi
  | p :: r, ws, 0, k, v, h, hi => by
    unfold RepKV at h
    obtain ⟨u, t, rfl, h1, h2⟩ := h
    simp at hi
    obtain ⟨rfl, rfl⟩ := hi
    exact ⟨p.2, rfl, h1⟩
  | p :: r, ws, i + 1, k, v, h, hi => by
    unfold RepKV at h
    obtain ⟨u, t, rfl, h1, h2⟩ := h
    simpa using RepKV.get h2 (by simpa using hi)
end
end Q
namespace Q
open PySem L2
theorem Ext.aside {Γ : Gm} {α α' : List Addr} {G G' H H' : Hp} {S : Store} (e : Ext α G H α' G' H') {p : Addr} {o : HO} (hp : H p = some o) (na : p ∉ α) (ng : G p = none) (nt : ∀ xs, o ≠ .tup xs) : H' p = some o ∧ p ∉ α' ∧ G' p = none := by
  refine ⟨e.fr p o hp na, fun m => ?_, ?_⟩
  · rcases e.na p m with z | z
    · exact na z
    · rw [hp] at z; cases z
  · cases q : G' p with
    | none => rfl
    | some u =>
      rcases e.ng p (by rw [q]; simp) with z | z | z | ⟨xs, z⟩
      · exact absurd ng z
      · exact absurd z na
      · rw [hp] at z; cases z
      · rw [hp] at z; exact absurd (Option.some.inj z) (nt xs)
mutual
theorem Rep.keeps {Γ : Gm} {α : List Addr} {G G' : Hp} (k : ∀ b o, G b = some o → (∀ od u, o = .frz od u → ∃ xs, u = .lst xs) → G' b = some o) : ∀ (d : D) (v : V), Rep Γ α G d v → Rep Γ α G' d v
  | .non, v, h => by simpa [Rep] using h
  | .bl b, v, h => by simpa [Rep] using h
  | .int i, v, h => by simpa [Rep] using h
  | .str s, v, h => by simpa [Rep] using h
  | .tup ds, v, h => by
    unfold Rep at h ⊢
    obtain ⟨a, vs, e, q, r⟩ := h
    exact ⟨a, vs, e, k _ _ q fun _ _ z => (nomatch z), RepL.keeps k ds vs r⟩
  | .lst ds, v, h => by
    unfold Rep at h ⊢
    obtain ⟨a, vs, e, q, r⟩ := h
    exact ⟨a, vs, e, k _ _ q fun _ _ z => (nomatch z), RepL.keeps k ds vs r⟩
  | .fro ds, v, h => by
    unfold Rep at h ⊢
    obtain ⟨a, vs, e, q, r⟩ := h
    refine ⟨a, vs, e, ?_, RepL.keeps k ds vs r⟩
    rcases q with (q | ⟨o, q⟩) | q
    · exact .inl (.inl (k _ _ q fun _ _ z => (nomatch z)))
    · exact .inl (.inr ⟨o, k _ _ q fun od u z => by cases z; exact ⟨vs, rfl⟩⟩)
    · exact .inr q
  | .obj c ds, v, h => by
    unfold Rep at h ⊢
    obtain ⟨a, vs, e, ⟨dx, h1, h2⟩, r⟩ := h
    exact ⟨a, vs, e, ⟨dx, k _ _ h1 (fun _ _ z => by unfold SlX.SlO at z; cases z), k _ _ h2 fun _ _ z => (nomatch z)⟩, RepL.keeps k ds vs r⟩
  | .exn c ds, v, h => by
    unfold Rep at h ⊢
    obtain ⟨a, vs, e, ⟨d, h1, h2⟩, r⟩ := h
    exact ⟨a, vs, e, ⟨d, k _ _ h1 (fun _ _ z => by unfold ExK at z; cases z), h2.keep fun _ _ z => k _ _ z fun _ _ y => (nomatch y)⟩, RepL.keeps k ds vs r⟩
  | .ref n, v, h => by
    unfold Rep at h ⊢
    exact h
theorem RepL.keeps {Γ : Gm} {α : List Addr} {G G' : Hp} (k : ∀ b o, G b = some o → (∀ od u, o = .frz od u → ∃ xs, u = .lst xs) → G' b = some o) : ∀ (ds : List D) (vs : List V), RepL Γ α G ds vs → RepL Γ α G' ds vs
  | [], vs, h => by simpa [RepL] using h
  | d :: ds, vs, h => by
    unfold RepL at h ⊢
    obtain ⟨v, r, e, h1, h2⟩ := h
    exact ⟨v, r, e, Rep.keeps k d v h1, RepL.keeps k ds r h2⟩
end
theorem RepKV.keeps {Γ : Gm} {α : List Addr} {G G' : Hp} {κ : Type} (k : ∀ b o, G b = some o → (∀ od u, o = .frz od u → ∃ xs, u = .lst xs) → G' b = some o) : ∀ {kvs : List (κ × D)} {ws : List (κ × V)}, RepKV Γ α G kvs ws → RepKV Γ α G' kvs ws
  | [], ws, h => by simpa [RepKV] using h
  | p :: r, ws, h => by
    unfold RepKV at h ⊢
    obtain ⟨v, t, e, h1, h2⟩ := h
    exact ⟨v, t, e, Rep.keeps k _ _ h1, RepKV.keeps k h2⟩
theorem RepC.keeps {Γ : Gm} {α : List Addr} {G G' : Hp} {a : Addr} {c : Cell} {o : HO} (k : ∀ b o, G b = some o → (∀ od u, o = .frz od u → ∃ xs, u = .lst xs) → G' b = some o) (h : RepC Γ α G a c o) : RepC Γ α G' a c o := by
  cases c with
  | lst ds => obtain ⟨vs, e, r⟩ := h; exact ⟨vs, e, RepL.keeps k _ _ r⟩
  | frz ds => obtain ⟨vs, e, r⟩ := h; exact ⟨vs, e, RepL.keeps k _ _ r⟩
  | dk lk kvs => obtain ⟨ws, r, e⟩ := h; exact ⟨ws, r.keeps k, e⟩
  | dt lk kvs => obtain ⟨ws, r, e⟩ := h; exact ⟨ws, r.keeps k, e⟩
  | ob c fs =>
    obtain ⟨dx, vs, e, hx, r⟩ := h
    refine ⟨dx, vs, e, k _ _ hx fun _ _ z => (nomatch z), fun i d hd => ?_⟩
    obtain ⟨v, e1, r1⟩ := r i d hd
    exact ⟨v, e1, Rep.keeps k _ _ r1⟩
def er (G : Hp) (a : Addr) : Hp := fun b => if b = a then none else G b
theorem EnvR.keeps {Γ : Gm} {α : List Addr} {G G' : Hp} {ρ : Env} {σ : L2.St} (k : ∀ b o, G b = some o → (∀ od u, o = .frz od u → ∃ xs, u = .lst xs) → G' b = some o) (h : EnvR Γ α G ρ σ) : EnvR Γ α G' ρ σ :=
  ⟨h.1, fun i d hi => let ⟨v, a, b⟩ := h.2 i d hi; ⟨v, a, Rep.keeps k _ _ b⟩⟩
end Q
namespace Q
open PySem PySem.Spec PyProof.Rows L2
structure DSort (κ : Type) [DecidableEq κ] where
  kf : D → Option κ
  ho : List (κ × V) → HO
  ce : List (κ × D) → Cell
structure DSort.Ok {κ : Type} [DecidableEq κ] (s : DSort κ) : Prop where
  nil : s.ho [] = .dK [] ∨ s.ho [] = .dT []
  live : ∀ kvs, (s.ce kvs).live = true
  rep : ∀ (Γ : Gm) (α : List Addr) (G : Hp) (p : Addr) kvs ws, RepKV Γ α G kvs ws → RepC Γ α G p (s.ce kvs) (s.ho ws)
  ntup : ∀ ws xs, s.ho ws ≠ .tup xs
  put : ∀ (Γ : Gm) (α : List Addr) (G H : Hp) (S : Store) (d : D) k (y : V) (p : Addr) ws (z : V), Rl Γ α G S H → s.kf d = some k → Rep Γ α G d y → H p = some (s.ho ws) → ws.length < sizeLine → DPut H p y z (upd H p (s.ho (putK ws k z)))
section
variable {κ : Type} [DecidableEq κ]
structure MidX (Γ : Gm) (α1 : List Addr) (G1 H1 : Hp) (p : Addr) (α : List Addr) (G : Hp) (S : Store) (H : Hp) (o : HO) : Prop where
  ext : Ext α1 G1 H1 α G H
  rl : Rl Γ α G S H
  at_ : H p = some o
  na : p ∉ α
  ng : G p = none
variable {Γ : Gm} {α1 α α' : List Addr} {G1 H1 G H G' H' : Hp} {p : Addr} {S S' : Store} {o o' : HO}
theorem MidX.step (M : MidX Γ α1 G1 H1 p α G S H o) (nt : ∀ xs, o ≠ .tup xs) (e : Ext α G H α' G' H') (R : Rl Γ α' G' S' H') : MidX Γ α1 G1 H1 p α' G' S' H' o :=
  let ⟨w1, w2, w3⟩ := e.aside (Γ := Γ) (S := S) M.at_ M.na M.ng nt
  ⟨M.ext.trans e, R, w1, w2, w3⟩
theorem MidX.push (M : MidX Γ α1 G1 H1 p α G S H o) (hp : H1 p = none) (o' : HO) : MidX Γ α1 G1 H1 p α G S (upd H p o') o' :=
  ⟨M.ext.patch hp _, M.rl.patch M.na M.ng _, upd_same, M.na, M.ng⟩
variable {E : XK} {wi : TI} {mi : MA} {g : TG} {mg : MG} {js vs : List Nat} {tt : TT} {mt : MT} {tk tv : TE} {mk mv : ME} {s : DSort κ}
end
end Q
namespace Q
open PySem L2
def RPair : List Addr → Hp → Int × Int → Int × Int → Prop := fun _ _ a b => a = b
abbrev MRg := Env → Store → Res (Int × Int)
structure QRg (X : Cx) (cl : Nat → Addr) (E : XK) (e : Expr) (m : MRg) : Prop where
  ex : ∃ t, PRg X e t ∧ ∀ (ρ : Env) (S : Store) (σ : L2.St) (α : List Addr) (G H : Hp) (R : Int → Int → Hp → Prop), EnvR ⟨X.K, cl⟩ α G ρ σ → Rl ⟨X.K, cl⟩ α G S H → Post ⟨X.K, cl⟩ RPair α G H (m ρ S) (fun p H' => R p.1 p.2 H') E → t σ H R
end Q
namespace Q
open PySem PySem.Spec L2 PyProof.Rows
abbrev TC := L2.St → V → Hp → VK → Prop
abbrev MC := Env → D → Store → Res D
structure PC (X : Cx) (ops : List CmpOp) (es : List Expr) (t : TC) : Prop where
  run : ∀ (pos : Pos) (pins : List (Addr × Obj)) (s : Shared) (σ : L2.St) (H : Hp) (x : V) (v : Value) (Q : VK), Inv X pins σ H s → RelV x v → t σ x H Q →
    wpAny (model X.prog X.w) X.A (compareChain pos v ops (evalEach es X.env)) (EP X pins σ Q) X.xe s
  test : ∀ (pos : Pos) (pins : List (Addr × Obj)) (s : Shared) (σ : L2.St) (H : Hp) (x : V) (v : Value) (Q : Bool → Hp → Prop), Inv X pins σ H s → RelV x v → t σ x H (fun z H' => ∃ k, z = .bl k ∧ Q k H') →
    wpAny (model X.prog X.w) X.A (testChain pos v ops (evalEach es X.env)) (TP X pins σ Q) X.xe s
def SndCh (Γ : Gm) (E : XK) (t : TC) (m : MC) : Prop := ∀ (ρ : Env) (d : D) (S : Store) (σ : L2.St) (α : List Addr) (G H : Hp) (x : V) (Q : VK), EnvR Γ α G ρ σ → Rl Γ α G S H → Rep Γ α G d x → Post Γ (Rep Γ) α G H (m ρ d S) Q E → t σ x H Q
structure QCh (X : Cx) (cl : Nat → Addr) (E : XK) (ops : List CmpOp) (es : List Expr) (m : MC) : Prop where
  ex : ∃ t, PC X ops es t ∧ SndCh ⟨X.K, cl⟩ E t m
end Q
namespace Q
open PySem L2
end Q
namespace Q
open PySem L2
section
variable {X : Cx} {cl : Nat → Addr} {E : XK} {pos : Pos}
def opCatC : D → D → Store → Res D := fun a b S => match lstOf S a, lstOf S b with
  | some xs, some ys => if xs.length + ys.length ≤ 100000 then .ok (.ref S.length) (S ++ [.lst (xs ++ ys)]) else .no
  | _, _ => .no
theorem catC : QR X cl E (binaryOp .Add) opCatC := by
  refine ⟨_, op_cat, fun a b S α G H x y Q hR ra rb h => ?_⟩
  unfold opCatC at h
  cases h1 : lstOf S a with
  | none => simp [h1, Post] at h
  | some xs =>
    cases h2 : lstOf S b with
    | none => simp [h1, h2, Post] at h
    | some ys =>
      simp only [h1, h2] at h
      split at h
      · rename_i hs
        obtain ⟨p, vs, rfl, q1, r1⟩ := lstOf_at hR ra h1
        obtain ⟨p2, ws, rfl, q2, r2⟩ := lstOf_at hR rb h2
        exact ⟨p, p2, vs, ws, rfl, rfl, q1, q2, by rw [← r1.length, ← r2.length]; exact sz hs, fun z hz => post_cell hR (r1.append r2) h hz⟩
      · exact h.elim
variable {o i : Expr} {mo mi : ME}
end
section
variable {S : Store} {ρ : Env}
theorem catC_ref {k : Nat} {xs : List D} (ys : List D) (h : S[k]? = some (.lst xs)) : opCatC (.ref k) (.lst ys) S = if xs.length + ys.length ≤ 100000 then .ok (.ref S.length) (S ++ [.lst (xs ++ ys)]) else .no := by
  unfold opCatC
  simp [lstOf, h]
end
end Q
namespace L2
open PySem PySem.Spec PyProof.Rows
end L2
namespace Q
open PySem L2
end Q
namespace L2
open PySem PySem.Spec PyProof.Rows
end L2
namespace Q
open PySem L2
end Q
namespace L2
open PySem PySem.Spec PyProof.Rows
end L2
namespace Q
open PySem L2
end Q
namespace Q
open PySem L2
section
variable {E : XK} {mg mg1 : MG} {mt mt1 : MT} {m : ME} {mi1 : MA}
def lcL2 (g : MG) (t : MT) (mi1 : MA) (g1 : MG) (t1 : MT) (m : ME) (vs1 : List Nat) (ρ : Env) : List D → Nat → Store → Res (List D)
  | [], _, S => .ok [] S
  | d :: ds, n, S => (g d ρ S).bind fun ρ1 S1 => (t ρ1 S1).bind fun b S2 => match b with
    | true => (mi1 ρ1 S2).bind fun ds1 S3 => if n + ds1.length ≤ 100000 then (lcL g1 t1 m (wp ρ1 vs1) ds1 S3).bind fun xs S4 => (lcL2 g t mi1 g1 t1 m vs1 ρ ds (n + ds1.length) S4).bind fun ys S5 => .ok (xs ++ ys) S5 else .no
    | false => lcL2 g t mi1 g1 t1 m vs1 ρ ds n S2
def mLc2 (mi : MA) (g : MG) (t : MT) (mi1 : MA) (g1 : MG) (t1 : MT) (m : ME) (vs vs1 : List Nat) : ME := fun ρ S => (mi ρ S).bind fun ds S1 => (lcL2 g t mi1 g1 t1 m vs1 (wp ρ vs) ds 0 S1).bind fun xs S2 => .ok (.lst xs) S2
def cont2 (r : Store → Res (List D)) (xs : List D) (S : Store) : Res (List D) := (r S).bind fun ys S5 => .ok (xs ++ ys) S5
theorem cont2_nil (r : Store → Res (List D)) (S : Store) : cont2 r [] S = r S := by
  unfold cont2
  cases r S <;> rfl
theorem bind_cons (q : Res (List D)) (v : D) (r : Store → Res (List D)) : (q.bind fun vs S4 => .ok (v :: vs) S4).bind (cont2 r) = (q.bind (cont2 r)).bind fun zs S => .ok (v :: zs) S := by
  cases q with
  | no => rfl
  | ex e S => rfl
  | ok xs S =>
    show cont2 r (v :: xs) S = (cont2 r xs S).bind _
    unfold cont2
    cases r S <;> rfl
theorem PostL_cons {Γ : Gm} {α1 : List Addr} {G1 H1 : Hp} {p : Addr} {acc : List D} {v : D} {r : Res (List D)} {Q : VK} (h : PostL Γ E α1 G1 H1 p acc (r.bind fun zs S => .ok (v :: zs) S) Q) : PostL Γ E α1 G1 H1 p (acc ++ [v]) r Q := by
  cases r with
  | no => exact h.elim
  | ex e S => exact h
  | ok xs S => exact fun α G H vs M r => h α G H vs M (by rw [List.append_assoc] at r; exact r)
theorem snd_in {Γ : Gm} {g1 : TG} {js1 vs1 : List Nat} {tt1 : TT} {te : TE} {α1 : List Addr} {G1 H1 : Hp} {p : Addr} (hp0 : H1 p = none) (hg : SndG Γ E g1 mg1 js1) (ht : SndT Γ E tt1 mt1) (he : SndE Γ E te m) (hj : ∀ j ∈ js1, j ∈ vs1) (r : Store → Res (List D)) {Q : VK}
    {ρ : Env} {σ : L2.St} {α0 : List Addr} {G0 H0 : Hp} (hρ0 : EnvR Γ α0 G0 ρ σ) (ds : List D) (S1 : Store) (J : It) {acc0 : List D} {ws0 : List V} (M0 : Mid Γ α1 G1 H1 p α0 G0 S1 H0 ws0) (ra0 : RepL Γ α0 G0 acc0 ws0) (st : Steps Γ α0 G0 ds J) (n : Nat) (hl0 : acc0.length ≤ n) (hl : n + ds.length ≤ 100000)
    (hq : PostL Γ E α1 G1 H1 p acc0 ((lcL mg1 mt1 m (wp ρ vs1) ds S1).bind (cont2 r)) Q) :
    ∃ W : Nat → Nat → Hp → Prop, (∃ m, W 0 m H0) ∧ ∀ i k H, W i k H →
      (J.stop i H ∧ ∃ S2 α2 G2 acc ws, Mid Γ α1 G1 H1 p α2 G2 S2 H ws ∧ RepL Γ α2 G2 acc ws ∧ acc.length ≤ n + ds.length ∧ PostL Γ E α1 G1 H1 p acc (r S2) Q) ∨ (J.go i H ∧ ∃ Nx : Hp → Prop, (∀ H', Nx H' → ∃ m', m' < k ∧ W (i + 1) m' H') ∧ ∀ x H', J.yld i H x H' → g1 x (wipe σ vs1) H' fun σ2 H2 => wipe σ2 vs1 = wipe σ vs1 ∧ tt1 σ2 H2 fun b H3 =>
        if b = true then te σ2 H3 fun y H4 => ∃ acc, H4 p = some (.lst acc) ∧ acc.length < sizeLine ∧ Nx (upd H4 p (.lst (acc ++ [y]))) else Nx H3) := by
  refine ⟨fun i k H => k = ds.length - i ∧ i ≤ ds.length ∧ ∃ S2 α2 G2 acc ws, Mid Γ α1 G1 H1 p α2 G2 S2 H ws ∧ RepL Γ α2 G2 acc ws ∧ acc.length ≤ n + i ∧ (∃ β, α2 = α0 ++ β) ∧ Sub G0 G2 ∧ PostL Γ E α1 G1 H1 p acc ((lcL mg1 mt1 m (wp ρ vs1) (ds.drop i) S2).bind (cont2 r)) Q,
    ⟨ds.length, by simp, Nat.zero_le _, S1, α0, G0, acc0, ws0, M0, ra0, by omega, ⟨[], by simp⟩, Sub.refl G0, by simpa using hq⟩, ?_⟩
  rintro i k H2 ⟨rfl, hle, S2, α2, G2, acc, ws, M2, r2, ha2, pre2, sub2, hq2⟩
  obtain ⟨stop, go⟩ := st i α2 G2 H2 S2 pre2 sub2 M2.rl
  by_cases hlt : i < ds.length
  · have hd : ds[i]? = some ds[i] := List.getElem?_eq_getElem hlt
    obtain ⟨hgo, hy⟩ := go _ hd
    refine .inr ⟨hgo, fun H' => ∃ S2 α2 G2 acc ws, Mid Γ α1 G1 H1 p α2 G2 S2 H' ws ∧ RepL Γ α2 G2 acc ws ∧ acc.length ≤ n + (i + 1) ∧ (∃ β, α2 = α0 ++ β) ∧ Sub G0 G2 ∧ PostL Γ E α1 G1 H1 p acc ((lcL mg1 mt1 m (wp ρ vs1) (ds.drop (i + 1)) S2).bind (cont2 r)) Q, fun H' z => ⟨ds.length - (i + 1), by omega, rfl, hlt, z⟩, fun x H3 y3 => ?_⟩
    obtain ⟨G3, R3, e3, rx⟩ := hy x H3 y3
    have M3 := M2.step e3 R3
    have tr : ∀ {α G H α' G' H'}, Ext α G H α' G' H' → (∃ β, α = α0 ++ β) → ∃ β, α' = α0 ++ β := fun e h => by
      obtain ⟨β, rfl⟩ := h
      obtain ⟨γ, e2⟩ := e.pre
      exact ⟨β ++ γ, by rw [e2, List.append_assoc]⟩
    have pre3 := tr e3 pre2
    have sub3 := sub2.trans e3.sub
    rw [List.drop_eq_getElem_cons hlt] at hq2
    simp only [lcL] at hq2
    have hρ3 : EnvR Γ α2 G3 (wp ρ vs1) (wipe σ vs1) := EnvR.wp ⟨hρ0.1, fun i d hi => let ⟨v, a, b⟩ := hρ0.2 i d hi; ⟨v, a, Rep.mono pre2 sub3 _ _ b⟩⟩ vs1
    refine hg ds[i] (wp ρ vs1) S2 (wipe σ vs1) α2 G3 H3 x _ hρ3 R3 rx ?_
    cases q4 : mg1 ds[i] (wp ρ vs1) S2 with
    | no => rw [q4] at hq2; exact hq2.elim
    | ex e' S' =>
      rw [q4] at hq2
      exact fun α' G' H' c x e R r => hq2 α' G' H' c x (M3.ext.trans e) R r
    | ok ρ4 S4 =>
      rw [q4] at hq2
      dsimp only [Res.bind] at hq2
      intro α4 G4 H4 σ4 e4 R4 r4 ⟨l4, o4⟩
      have M4 := M3.step e4 R4
      have pre4 := tr e4 pre3
      have sub4 := sub3.trans e4.sub
      refine ⟨wipe_same l4 o4 hj, ?_⟩
      refine ht ρ4 S4 σ4 α4 G4 H4 _ r4 R4 ?_
      cases q5 : mt1 ρ4 S4 with
      | no => rw [q5] at hq2; exact hq2.elim
      | ex e' S' =>
        rw [q5] at hq2
        exact fun α' G' H' c x e R r => hq2 α' G' H' c x (M4.ext.trans e) R r
      | ok b S5 =>
        rw [q5] at hq2
        dsimp only [Res.bind] at hq2
        intro α5 G5 H5 b' e5 R5 rb
        have rb : b = b' := rb
        subst rb
        have M5 := M4.step e5 R5
        have pre5 := tr e5 pre4
        have sub5 := sub4.trans e5.sub
        have r5 : RepL Γ α5 G5 acc ws := RepL.mono e5.pre e5.sub _ _ (RepL.mono e4.pre e4.sub _ _ (RepL.mono e3.pre e3.sub _ _ r2))
        cases b with
        | false => exact iteF ⟨S5, α5, G5, acc, ws, M5, r5, by omega, pre5, sub5, hq2⟩
        | true =>
          refine iteT (he ρ4 S5 σ4 α5 G5 H5 _ (r4.mono e5) R5 ?_)
          cases q6 : m ρ4 S5 with
          | no => rw [q6] at hq2; exact hq2.elim
          | ex e' S' =>
            rw [q6] at hq2
            exact fun α' G' H' c x e R r => hq2 α' G' H' c x (M5.ext.trans e) R r
          | ok v S6 =>
            rw [q6] at hq2
            have hq3 : PostL Γ E α1 G1 H1 p acc (((lcL mg1 mt1 m (wp ρ vs1) (ds.drop (i + 1)) S6).bind fun vs S4 => .ok (v :: vs) S4).bind (cont2 r)) Q := hq2
            rw [bind_cons] at hq3
            intro α6 G6 H6 y e6 R6 ry
            have M6 := M5.step e6 R6
            have r6 : RepL Γ α6 G6 acc ws := RepL.mono e6.pre e6.sub _ _ r5
            refine ⟨ws, M6.at_, ?_, S6, α6, G6, acc ++ [v], ws ++ [y], M6.push hp0 _, r6.append (by unfold RepL; exact ⟨y, [], rfl, ry, by simp [RepL]⟩), by simp; omega, tr e6 pre5, sub5.trans e6.sub, PostL_cons hq3⟩
            rw [← r6.length]
            exact Nat.lt_of_le_of_lt (by omega : acc.length ≤ 100000) (by decide)
  · refine .inl ⟨stop (by omega), S2, α2, G2, acc, ws, M2, r2, by omega, ?_⟩
    rw [List.drop_of_length_le (by omega)] at hq2
    have : PostL Γ E α1 G1 H1 p acc (cont2 r [] S2) Q := hq2
    rw [cont2_nil] at this
    exact this
theorem snd_lc2 {Γ : Gm} {wi wi1 : TI} {mi : MA} {g g1 : TG} {js vs js1 vs1 : List Nat} {tt tt1 : TT} {te : TE} (hi : SndI Γ E wi mi) (hg : SndG Γ E g mg js) (ht : SndT Γ E tt mt) (hi1 : SndI Γ E wi1 mi1) (hg1 : SndG Γ E g1 mg1 js1) (ht1 : SndT Γ E tt1 mt1) (he : SndE Γ E te m) (hj : ∀ j ∈ js, j ∈ vs) (hj1 : ∀ j ∈ js1, j ∈ vs1) :
    SndE Γ E (tLc2 wi g tt wi1 g1 tt1 te vs vs1) (mLc2 mi mg mt mi1 mg1 mt1 m vs vs1) := fun ρ S σ α G H Q hρ hR hp => by
  refine hi ρ S σ α G H _ hρ hR ?_
  unfold mLc2 at hp
  cases q : mi ρ S with
  | no => rw [q] at hp; exact hp
  | ex e S' => rw [q] at hp; exact hp
  | ok ds S1 =>
    rw [q] at hp
    intro α1 G1 H1 J e1 R1 st p hp0
    have hp1 := Post.mono (show Post Γ (Rep Γ) α G H ((lcL2 mg mt mi1 mg1 mt1 m vs1 (wp ρ vs) ds 0 S1).bind fun xs S2 => .ok (.lst xs) S2) Q E from hp) e1
    have hq : PostL Γ E α1 G1 H1 p [] (lcL2 mg mt mi1 mg1 mt1 m vs1 (wp ρ vs) ds 0 S1) Q := by
      cases q2 : lcL2 mg mt mi1 mg1 mt1 m vs1 (wp ρ vs) ds 0 S1 with
      | no => rw [q2] at hp1; exact hp1.elim
      | ex e S' => rw [q2] at hp1; exact hp1
      | ok xs S2 =>
        rw [q2] at hp1
        intro α2 G2 H2 ws M r
        obtain ⟨R3, e3⟩ := M.done hp0
        have r' : RepL Γ α2 (upd G2 p (.lst ws)) xs ws := RepL.mono (α := α2) ⟨[], by simp⟩ (Sub.new M.ng) xs ws (by simpa using r)
        exact hp1 α2 _ H2 (.ref p) e3 R3 (rep_lst upd_same r')
    have hpa : p ∉ α1 := fun z => R1.tr p z hp0
    have hpg : G1 p = none := R1.gnone hp0
    refine ⟨fun i k H => k = ds.length - i ∧ i ≤ ds.length ∧ ∃ S2 α2 G2 acc ws n, Mid Γ α1 G1 H1 p α2 G2 S2 H ws ∧ RepL Γ α2 G2 acc ws ∧ acc.length ≤ n ∧ PostL Γ E α1 G1 H1 p acc (lcL2 mg mt mi1 mg1 mt1 m vs1 (wp ρ vs) (ds.drop i) n S2) Q,
      ⟨ds.length, by simp, Nat.zero_le _, S1, α1, G1, [], [], 0, ⟨(Ext.refl _ _ _).patch hp0 _, R1.patch hpa hpg _, upd_same, hpa, hpg⟩, by simp [RepL], Nat.le_refl _, by simpa using hq⟩, ?_⟩
    rintro i k H2 ⟨rfl, hle, S2, α2, G2, acc, ws, n, M2, r2, ha2, hq2⟩
    obtain ⟨stop, go⟩ := st i α2 G2 H2 S2 M2.ext.pre M2.ext.sub M2.rl
    by_cases hlt : i < ds.length
    · have hd : ds[i]? = some ds[i] := List.getElem?_eq_getElem hlt
      obtain ⟨hgo, hy⟩ := go _ hd
      refine .inr ⟨hgo, fun H' => ∃ S2 α2 G2 acc ws n, Mid Γ α1 G1 H1 p α2 G2 S2 H' ws ∧ RepL Γ α2 G2 acc ws ∧ acc.length ≤ n ∧ PostL Γ E α1 G1 H1 p acc (lcL2 mg mt mi1 mg1 mt1 m vs1 (wp ρ vs) (ds.drop (i + 1)) n S2) Q, fun H' z => ⟨ds.length - (i + 1), by omega, rfl, hlt, z⟩, fun x H3 y3 => ?_⟩
      obtain ⟨G3, R3, e3, rx⟩ := hy x H3 y3
      have M3 := M2.step e3 R3
      rw [List.drop_eq_getElem_cons hlt] at hq2
      simp only [lcL2] at hq2
      have hρ3 : EnvR Γ α2 G3 (wp ρ vs) (wipe σ vs) := by
        have := (hρ.mono e1).mono (M3.ext)
        exact this.wp vs
      refine hg ds[i] (wp ρ vs) S2 (wipe σ vs) α2 G3 H3 x _ hρ3 R3 rx ?_
      cases q4 : mg ds[i] (wp ρ vs) S2 with
      | no => rw [q4] at hq2; exact hq2.elim
      | ex e' S' =>
        rw [q4] at hq2
        exact fun α' G' H' c x e R r => hq2 α' G' H' c x (M3.ext.trans e) R r
      | ok ρ4 S4 =>
        rw [q4] at hq2
        dsimp only [Res.bind] at hq2
        intro α4 G4 H4 σ4 e4 R4 r4 ⟨l4, o4⟩
        have M4 := M3.step e4 R4
        refine ⟨wipe_same l4 o4 hj, ?_⟩
        refine ht ρ4 S4 σ4 α4 G4 H4 _ r4 R4 ?_
        cases q5 : mt ρ4 S4 with
        | no => rw [q5] at hq2; exact hq2.elim
        | ex e' S' =>
          rw [q5] at hq2
          exact fun α' G' H' c x e R r => hq2 α' G' H' c x (M4.ext.trans e) R r
        | ok b S5 =>
          rw [q5] at hq2
          dsimp only [Res.bind] at hq2
          intro α5 G5 H5 b' e5 R5 rb
          have rb : b = b' := rb
          subst rb
          have M5 := M4.step e5 R5
          have r5 : RepL Γ α5 G5 acc ws := RepL.mono e5.pre e5.sub _ _ (RepL.mono e4.pre e4.sub _ _ (RepL.mono e3.pre e3.sub _ _ r2))
          cases b with
          | false => exact iteF ⟨S5, α5, G5, acc, ws, n, M5, r5, ha2, hq2⟩
          | true =>
            refine iteT (hi1 ρ4 S5 σ4 α5 G5 H5 _ (r4.mono e5) R5 ?_)
            cases q6 : mi1 ρ4 S5 with
            | no => rw [q6] at hq2; exact hq2.elim
            | ex e' S' =>
              rw [q6] at hq2
              exact fun α' G' H' c x e R r => hq2 α' G' H' c x (M5.ext.trans e) R r
            | ok ds1 S6 =>
              rw [q6] at hq2
              intro α6 G6 H6 J1 e6 R6 st6
              have hq3 := (show PostL Γ E α1 G1 H1 p acc (if n + ds1.length ≤ 100000 then _ else _) Q from hq2)
              split at hq3
              · rename_i hl
                obtain ⟨W, h0, hW⟩ := snd_in (mt1 := mt1) hp0 hg1 ht1 he hj1 (fun S => lcL2 mg mt mi1 mg1 mt1 m vs1 (wp ρ vs) (ds.drop (i + 1)) (n + ds1.length) S) ((r4.mono e5).mono e6) ds1 S6 J1 (M5.step e6 R6) (RepL.mono e6.pre e6.sub _ _ r5) st6 n ha2 hl hq3
                refine ⟨W, h0, fun j k H w => ?_⟩
                rcases hW j k H w with ⟨s1, S7, α7, G7, acc7, ws7, M7, r7, l7, q7⟩ | h
                · exact .inl ⟨s1, S7, α7, G7, acc7, ws7, _, M7, r7, l7, q7⟩
                · exact .inr h
              · exact hq3.elim
    · refine .inl ⟨stop (by omega), ?_⟩
      rw [List.drop_of_length_le (by omega)] at hq2
      exact hq2 α2 G2 H2 ws M2 (by simpa using r2)
end
section
variable {X : Cx} {cl : Nat → Addr} {E : XK} {m : ME} {mt1 : MT} {pos : Pos}
def tI (Γ : Gm) (E : XK) (mi : MA) : TI := fun σ H R => ∃ ρ S α G, EnvR Γ α G ρ σ ∧ Rl Γ α G S H ∧ PostI Γ E α G H (mi ρ S) R
theorem QI.can {tg iter : Expr} {mi : MA} (h : QI X cl E tg iter mi) : PI X tg iter (tI ⟨X.K, cl⟩ E mi) := by
  obtain ⟨t, h1, h2⟩ := h.ex
  exact ⟨fun pins s σ H R I ⟨ρ, S, α, G, hρ, hR, hp⟩ => h1.run pins s σ H R I (h2 ρ S σ α G H R hρ hR hp)⟩
theorem snd_tI {Γ : Gm} {mi : MA} : SndI Γ E (tI Γ E mi) mi := fun ρ S σ α G H R hρ hR hp => ⟨ρ, S, α, G, hρ, hR, hp⟩
variable {elt tg iter tg1 iter1 c : Expr} {scope : Scope} {mi mi1 : MA} {mg mg1 : MG} {js js1 : List Nat}
variable {mt : MT}
theorem qs_setLc2 (i : Nat) {y : Str} {py spos : Pos} {ifs ifs1 : List Expr} (own : List (Str × Nat)) (vs1 : List Nat) (hi : QI X cl E tg iter mi) (hN : X.N.Nodup) (ok : BlkOk X.N X.env.scope scope own)
    (hg : ∀ (s : Shared) (H : Hp) (C : Addr) (c : List (Str × Addr)) (fp : List Addr), QG (Blk X scope s H C c fp) cl E tg mg js)
    (ht : ∀ (s : Shared) (H : Hp) (C : Addr) (c' : List (Str × Addr)) (fp : List Addr), PTs (Blk X scope s H C c' fp) ifs (tT ⟨X.K, cl⟩ E mt))
    (hi1 : ∀ (s : Shared) (H : Hp) (C : Addr) (c : List (Str × Addr)) (fp : List Addr), QI (Blk X scope s H C c fp) cl E tg1 iter1 mi1)
    (hg1 : ∀ (s : Shared) (H : Hp) (C : Addr) (c : List (Str × Addr)) (fp : List Addr), QG (Blk X scope s H C c fp) cl E tg1 mg1 js1)
    (ht1 : ∀ (s : Shared) (H : Hp) (C : Addr) (c' : List (Str × Addr)) (fp : List Addr), PTs (Blk X scope s H C c' fp) ifs1 (tT ⟨X.K, cl⟩ E mt1))
    (he : ∀ (s : Shared) (H : Hp) (C : Addr) (c : List (Str × Addr)) (fp : List Addr), QE (Blk X scope s H C c fp) cl E elt m)
    (hv : ∀ i ∈ vs1, i ∈ own.map (·.2) := by decide) (hj : ∀ j ∈ js, j ∈ own.map (·.2) := by decide) (hj1 : ∀ j ∈ js1, j ∈ vs1 := by decide) (hy : X.N[i]? = some y := by rfl) (hyl : X.env.scope.names.lookup y = some .local := by rfl) (hc : X.calm = true := by rfl)
    (hsw : swapsWith (.ListComp elt [⟨tg, iter, ifs, 0⟩, ⟨tg1, iter1, ifs1, 0⟩] scope pos) (some (.Name y py)) spos.line X.env = pure true := by exact sw_true rfl rfl rfl (by decide +kernel)) (hs : ∀ x, foldedSetIterable iter X.env x = pure x := by intro _; rfl) (hs1 : ∀ env x, foldedSetIterable iter1 env x = pure x := by intro _ _; rfl) :
    QS X cl E (.Assign [.Name y py] (.ListComp elt [⟨tg, iter, ifs, 0⟩, ⟨tg1, iter1, ifs1, 0⟩] scope pos) spos) (mAsg (mLc2 mi mg mt mi1 mg1 mt1 m (own.map (·.2)) vs1) (mgN i)) := by
  obtain ⟨wi, h1, h2⟩ := hi.ex
  exact ⟨_, ps_setLc2 hc hN hy hyl hsw h1 ok hv (fun s H C c fp => (hg s H C c fp).can) ht (fun s H C c fp => (hi1 s H C c fp).can) (fun s H C c fp => (hg1 s H C c fp).can) ht1 (fun s H C c fp => (he s H C c fp).can) hs hs1, snd_asg (snd_lc2 (Γ := ⟨X.K, cl⟩) h2 snd_tG snd_tT snd_tI snd_tG snd_tT snd_tE hj hj1) (sndg_name i)⟩
end
section
variable {g g1 : MG} {t t1 : MT} {mi mi1 : MA} {m : ME} {vs vs1 : List Nat} {ρ : Env} {S : Store}
def lc2K (g : MG) (t : MT) (mi1 : MA) (g1 : MG) (t1 : MT) (m : ME) (vs vs1 : List Nat) (ρ : Env) (ds : List D) (S : Store) : Res D := (lcL2 g t mi1 g1 t1 m vs1 (wp ρ vs) ds 0 S).bind fun xs S2 => .ok (.lst xs) S2
@[simp] theorem ap_lc2 : mLc2 mi g t mi1 g1 t1 m vs vs1 ρ S = (mi ρ S).bind (lc2K g t mi1 g1 t1 m vs vs1 ρ) := (Eq.refl _).trans rfl
theorem lc2K_ok {ds xs : List D} {S2 : Store} (h : lcL2 g t mi1 g1 t1 m vs1 (wp ρ vs) ds 0 S = .ok xs S2) : lc2K g t mi1 g1 t1 m vs vs1 ρ ds S = .ok (.lst xs) S2 := by
  unfold lc2K
  rw [h]
  rfl
end
end Q
namespace L2
open PySem PySem.Spec PyProof.Rows
end L2
namespace Q
open PySem L2
end Q
namespace L2
open PySem PySem.Spec PyProof.Rows
end L2
namespace Q
open PySem L2
end Q
set_option exponentiation.threshold 10000
namespace Q
open PySem L2
end Q
namespace Q
open PySem L2 PySem.Calls PyProof.Rows
structure SupSrc (st : Stmt) (txt : Str) : Prop where
  body : ∃ (j : Nat) (p0 p1 p2 p3 p4 p5 : Pos), defBody st = [.Expr (.Call (.Attribute (.Call (.Name "super" p0) [] [] p1) "__init__" p2) [.Constant (.str txt) j p3] [] p4) p5] ∧
    ∀ (qual : Str) (L fa cc : Addr) (cd : Value), ∃ pl : Sem Bool, eval (.Call (.Attribute (.Call (.Name "super" p0) [] [] p1) "__init__" p2) [.Constant (.str txt) j p3] [] p4) (PySem.W.ksEnv qual (defScope st) L fa cd cc) = (do
      let ov ← attributeBase (.Call (.Name "super" p0) [] [] p1) "__init__" (PySem.W.ksEnv qual (defScope st) L fa cd cc) (eval (.Call (.Name "super" p0) [] [] p1) (PySem.W.ksEnv qual (defScope st) L fa cd cc))
      standAt p2.atName
      let (fn, first) ← holding [ov] (getMethod ov "__init__" pl)
      callWith p4 fn first (backTo p4 (starEach [.Constant (.str txt) j p3] (PySem.W.ksEnv qual (defScope st) L fa cd cc))) [])
  arg : ∃ ar : Arg, (defArgs st).posonlyargs ++ (defArgs st).args = [ar] ∧ ar.arg = ("self" : Str)
  ns : (defScope st).names.lookup ("super" : Str) = some .globalImplicit
  nc : (defScope st).names.lookup ("__class__" : Str) = some .free
  nl : (defScope st).names.lookup ("self" : Str) = some .local
  ki : (defScope st).kind = .function
  it : ∀ (qual : Str) (L fa cc : Addr) (cd : Value), interactive (PySem.W.ksEnv qual (defScope st) L fa cd cc) = false
  co : (defScope st).isCoroutine = false
  ge : (defScope st).isGenerator = false
  ce : ∀ x ∈ (defScope st).names, x.2 ≠ .cell
  bi : ∀ (cc : Addr) (x qual : Str) (kV doc pm : Value) (an : Option Addr) (cdv ct u : Value), bindArgs (PySem.W.ksFn x qual (defArgs st) (defBody st) (defScope st) .none kV doc pm an cdv ct cc) ⟨[u], []⟩ = pure [(("self" : Str), u)]
structure ExcU (P : Program) (K : PySem.W.Frag) (C f : Addr) (B newId initId : String) (bmB : List Value) (st : Stmt) : Prop where
  fb : ExcBaseFacts B newId initId bmB
  kf : PySem.W.KxsFacts B initId
  ci : PySem.W.excInitIn K C bmB newId = true
  ini : PySem.W.findIn K (.ref C) "__init__" = some (some (.ref f))
  ty : PySem.W.typeIn K (.ref f) = some (.type "function")
  fn : ∃ (oc : Value) (od : Option Addr) (x qual : Str) (kV doc pm : Value) (an : Option Addr) (ct : Value) (osl : Array (Option Value)) (cc cda : Addr), K.lookup f = some ⟨oc, od, .func (PySem.W.ksFn x qual (defArgs st) (defBody st) (defScope st) .none kV doc pm an (.ref cda) ct cc), osl⟩ ∧ PySem.W.codeIn K (.ref cda) qual = true ∧
    (∃ ccl cdd vs ccs file tf, K.lookup cda = some ⟨ccl, cdd, .fields vs, ccs⟩ ∧ vs[2]? = some (.str file tf) ∧ ((P.main.file : Str) == file) = true) ∧ ∃ cl cld csl, K.lookup cc = some ⟨cl, cld, .cell (some (.ref C)), csl⟩
  cl : (PySem.W.clsIn K C).isSome = true
  ms : PySem.W.mroIn K C (.ref C) = some true
  nsu : PySem.W.nsIn K mainGlobals "super" = some none
  top : (P.main.scope.names.lookup ("super" : Str)).isSome = false
  any : PySem.W.nsIn K cStatics "thirdparty.any" = some none
  sup : PySem.W.ks_superIn K C C "__init__" = some (some (.builtin initId))
  sb : PySem.W.subIn K (.ref C) (.type B) = some true
  sbe : PySem.W.subIn K (.ref C) (.type "BaseException") = some true
  tyC : PySem.W.typeIn K (.ref C) = some (.type "type")
  kC : PySem.W.keepIn K (.ref C) = true
section
variable {P : Program} {w : World} {A : Around} {R : Result → Shared → Prop} {E : Value → Shared → Prop} {K : PySem.W.Frag} {C f x t0 : Addr} {h h0 : Heap} {g : Array GenState} {d : Drawn} {tk : Nat} {os : OsState} {B newId initId : String} {bmB : List Value} {st : Stmt} {txt : Str} {mg : Str → Option Value}
theorem sup_init (S : SupSrc st txt) (T : ExcU P K C f B newId initId bmB st) (hroom : A.depth < recursionLimit) (X0 : K.In h0) (hlim : h.NoLimit) (kk : ∀ b o, h0.get? b = some o → h.get? b = some o) (hle : h0.objs.size ≤ h.objs.size) (GG : h.Ns mainGlobals mg)
    (BB : ∃ mb, h.Ns builtinsNs mb ∧ ∀ y : Str, y ≠ "__name__" → mb y = bootBuiltins y) (hx : h.get? x = some (PySem.W.excObj C t0 none .none)) (hx0 : h0.get? x = none)
    (hq : ∀ h' tk' t1, (∀ b o, h0.get? b = some o → h'.get? b = some o) → h'.get? x = some (PySem.W.excObj C t1 none .none) → R (.ok (.ret .none)) ⟨h', g, d, tk', os⟩) :
    codeAny (model P w) A (.call (.ref f) ⟨[.ref x], []⟩) R ⟨h, g, d, tk, os⟩ := by
  have X : K.In h := X0.keeps kk
  obtain ⟨j, p0, p1, p2, p3, p4, p5, hb, hev⟩ := S.body
  obtain ⟨ar, har, hself⟩ := S.arg
  obtain ⟨oc, od, nm, qual, kV, doc, pm, an, ct, osl, cc, cda, lf, lcode, ⟨ccl, cdd, vs, ccs, file, tf, lcd, lvs, lfile⟩, cl, cld, csl, lcc⟩ := T.fn
  refine ks_codeAny_call_defAt (fd := PySem.W.ksFn nm qual (defArgs st) (defBody st) (defScope st) .none kV doc pm an (.ref cda) ct cc) (body := defBody st) (binds := [(("self" : Str), .ref x)]) hroom (X _ _ lf) rfl hlim (PySem.W.codeRec_of X lcode) rfl (.of_eq (S.bi cc nm qual kV doc pm an (.ref cda) ct (.ref x))) S.ce
    (fun y hy => ?_) (fun h₁ hns hk₁ => ?_) S.co S.ge S.ki
  · rcases List.mem_cons.mp hy with e | e
    · rw [e]; exact S.nl
    · cases e
  have env : callEnv (PySem.W.ksFn nm qual (defArgs st) (defBody st) (defScope st) .none kV doc pm an (.ref cda) ct cc) h.objs.size f = PySem.W.ksEnv qual (defScope st) h.objs.size f (.ref cda) cc := rfl
  rw [env]
  have X1 : K.In h₁ := X.keeps hk₁
  have F0 : Fr h0 h.objs.size h₁ (fun y => [(("self" : Str), Value.ref x)].reverse.lookup y) := ⟨hns, fun b o e => hk₁ b o (kk b o e), hle⟩
  have xs : x ≠ h.objs.size := Nat.ne_of_lt (Heap.lt_size hx)
  have N0 : News h0 h.objs.size h₁ [(x, PySem.W.excObj C t0 none .none)] := fun p hp => by
    rcases List.mem_cons.mp hp with e | e
    · subst e; exact ⟨hk₁ _ _ hx, xs, hx0⟩
    · cases e
  rw [hb]
  refine ks_wpAt_execs_cons (ks_wpAt_Expr_any ?_ (S.it _ _ _ _ _))
  obtain ⟨pl, hev⟩ := hev qual h.objs.size f cc (.ref cda)
  refine ks_wpAt_MethodCall ?_ hev
  have hkf : (PySem.W.ksEnv qual (defScope st) h.objs.size f (.ref cda) cc).scope.kind = .function := S.ki
  refine ks_wpAt_super_base S.ns S.nc (by decide) rfl (X1 _ _ lf) rfl (ar := ar) (by show ((defArgs st).posonlyargs ++ (defArgs st).args).head? = some ar; rw [har]; rfl) rfl (X1 _ _ lcd) rfl lvs lfile T.top ?_
  obtain ⟨mb, bn, bb⟩ := BB
  refine PySem.W.ks_loadName_global hkf S.ns (loadGlobal_builtin (show h₁.Ns mainGlobals mg from GG.keeps hk₁) (PySem.W.mg_none_of X GG T.nsu) (show h₁.Ns builtinsNs mb from bn.keeps hk₁) ((bb _ (by decide)).trans (by rfl)) ⟨rfl, ?_⟩)
  refine wpAny_loadName_free hkf S.nc rfl ⟨_, X1 _ _ lcc, rfl⟩ ?_
  rw [hself]
  refine wpAny_loadName_local hkf S.nl hns (by rfl) ?_
  obtain ⟨cdC, hcC⟩ := Option.isSome_iff_exists.mp T.cl
  obtain ⟨oD, hD1, hD2⟩ : ∃ oD, h₁.get? C = some oD ∧ oD.data = .cls cdC := by
    have z := hcC
    unfold PySem.W.clsIn at z
    split at z
    · rename_i q
      cases z
      exact ⟨_, X1 _ _ q, rfl⟩
    · cases z
  refine ks_wpAny_isType_cls hD1 hD2 ⟨rfl, ?_⟩
  have hx1 := hk₁ _ _ hx
  refine ks_wpAny_call_super hD1 hD2 hx1 rfl (fun c e => by cases e) (PySem.W.looks_mroIn X1 T.ms) (fun h2 e2 k2 => ?_)
  have X2 : K.In h2 := X1.keeps k2
  have I2 : PySem.W.InstAt h2 x (PySem.W.excObj C t0 none .none) C none := ⟨k2 _ _ hx1, rfl, rfl, trivial⟩
  have hne : x ≠ C := PySem.W.ks_ne X2 I2 hcC
  have hal := T.sup
  unfold PySem.W.ks_superIn at hal
  rw [hcC] at hal
  have hmro : PySem.W.Looks (model P w) h2 (mroOf (.ref C)) cdC.mro := fun A Q E s k q => wpAny_bind ((PySem.W.looks_clsIn X2 hcC) A _ E s k (wpAny_pure q))
  have hBx : PySem.W.Looks (model P w) h2 (isInstance (.ref x) (.type B)) true := I2.type.andThen (PySem.W.looks_subIn X2 T.sb)
  refine PySem.W.kxs_getMethod T.kf e2 (PySem.W.looks_opaque X2 T.any) hmro rfl X2 hal hBx hne (by decide) ?_
  -- the bound __init__ stands at u
  obtain ⟨u, hu⟩ : ∃ u, u = h2.objs.size := ⟨_, rfl⟩
  have k3 : ∀ b o, h2.get? b = some o → (h2.push (PySem.W.kxs_mw initId x)).get? b = some o := fun b o e => Heap.get?_push_of_some _ e
  have gu : (h2.push (PySem.W.kxs_mw initId x)).get? u = some (PySem.W.kxs_mw initId x) := by rw [hu]; exact Heap.get?_push_at rfl rfl
  rw [← hu]
  generalize h2.push (PySem.W.kxs_mw initId x) = h3 at k3 gu
  have kall : ∀ b o, h₁.get? b = some o → h3.get? b = some o := fun b o e => k3 b o (k2 b o e)
  have F3 : Fr h0 h.objs.size h3 (fun y => [(("self" : Str), Value.ref x)].reverse.lookup y) := ⟨hns.keeps kall, fun b o e => kall b o (F0.keep b o e), hle⟩
  have ux : u ≠ x := fun z => by
    rw [z, kall _ _ hx1] at gu
    cases gu
  have below : ∀ {b : Addr} {o : Obj}, h2.get? b = some o → u ≠ b := fun {b o} e z => by
    have l := Heap.lt_size e
    rw [← z, hu] at l
    exact absurd l (Nat.lt_irrefl _)
  have uL : u ≠ h.objs.size := by
    obtain ⟨o, _, _, eo, _⟩ := hns
    exact below (k2 _ _ eo)
  have u0 : h0.get? u = none := by
    cases z : h0.get? u with
    | none => rfl
    | some o => exact absurd rfl (below (k2 _ _ (hk₁ _ _ (kk _ _ z))))
  have N3 : News h0 h.objs.size h3 [(u, PySem.W.kxs_mw initId x), (x, PySem.W.excObj C t0 none .none)] := fun p hp => by
    rcases List.mem_cons.mp hp with e | e
    · subst e; exact ⟨gu, uL, u0⟩
    · rcases List.mem_cons.mp e with e | e
      · subst e; exact ⟨kall _ _ hx1, xs, hx0⟩
      · cases e
  have he : starEach [.Constant (.str txt) j p3] (PySem.W.ksEnv qual (defScope st) h.objs.size f (.ref cda) cc) = (false, eval (.Constant (.str txt) j p3) (PySem.W.ksEnv qual (defScope st) h.objs.size f (.ref cda) cc)) :: starEach [] (PySem.W.ksEnv qual (defScope st) h.objs.size f (.ref cda) cc) := by rfl
  refine PySem.W.kxs_callWith1 N3 (List.mem_cons_self ..) ?_ he (by rfl)
  rw [he]
  show wpAny _ _ (spliced ((false, eval (.Constant (.str txt) j p3) _) :: backTo p4 (starEach [] _))) _ _ _
  refine Calls.spliced_cons ?_
  refine wpAny_Constant_str ?_
  refine Calls.spliced_nil ⟨gu, ?_⟩
  refine PySem.W.kxs_call (rest := [_]) (s := { heap := h3, gens := g, drawn := d, toks := _, os := os }) ⟨F3.ns, F3.keep, F3.above⟩ X0 N3 T.fb T.ci (List.mem_cons_self ..) (.tail ux (.head fun _ z => nomatch z)) (by show 1 ≤ sizeLine; rw [sizeLine_eq]; omega) (fun t1 h4 F4 N4 _ => ?_)
  exact wpAt_of_wpAny (wpAny_execs_nil (hq _ _ t1 F4.keep (N4 (x, _) (by simp)).1))
end
theorem pmk_u {X : Cx} {C f : Addr} {B newId initId : String} {bmB : List Value} {st : Stmt} {txt x : Str} {p pos : Pos} (S : SupSrc st txt) (T : ExcU X.prog X.K C f B newId initId bmB st) (hr : Room 1 X.A) (hg : Gl X x) (hm : X.mg x = some (.ref C)) (hdb : (x == ("__debug__" : Str)) = false := by decide) :
    PMk X (.Call (.Name x p) [] [] pos) (fun _ H Q => Q (.ref C) none H) := by
  intro pins s σ H Q I h
  obtain ⟨nm, N', qn, bs, bm, hdct, sn, sub, ab, col, dd, k0, k1, k2, k3, k5, hC, hT⟩ := PySem.W.excInit_of I.kIn T.ci
  refine wpAny_Call_Name_kw (ld_glob I hg hm ?_ hdb)
  refine PySem.W.callWith_K0 I.kIn T.kC ?_
  show wpAny _ _ (call (.ref C) []) _ _ _
  have I0 := I
  obtain ⟨hp, g, dr, tk, os⟩ := s
  have kk : ∀ b o, hp.get? b = some o → ((hp.push (PySem.W.kdv_tup [])).push (HandSPX.excO C hp.objs.size)).get? b = some o := fun b o e => Heap.get?_push_of_some _ (Heap.get?_push_of_some _ e)
  have gx : ((hp.push (PySem.W.kdv_tup [])).push (HandSPX.excO C hp.objs.size)).get? (hp.objs.size + 1) = some (HandSPX.excO C hp.objs.size) := by heap_get
  have fresh : hp.get? (hp.objs.size + 1) = none := by
    cases z : hp.get? (hp.objs.size + 1) with
    | none => rfl
    | some o => exact absurd (Nat.lt_of_succ_lt (Heap.lt_size z)) (Nat.lt_irrefl _)
  have lim : hp.NoLimit := I.ok.mod.nolimit.keeps I.bk
  obtain ⟨mb, bn, bb⟩ := I.ok.mod.blt
  refine wpAny_call (HandSPX.call_own T.fb hT hC (PySem.W.looks_findIn I.kIn T.ini) (fun self => PySem.W.bind_fn I.kIn self T.ty) (Nat.zero_le _) ?_)
  refine sup_init (h0 := hp) (mg := X.mg) S T (hr.make C [] []).depth I.kIn (lim.keeps kk) kk (by rw [Heap.size_push, Heap.size_push]; exact Nat.le_succ_of_le (Nat.le_succ _)) ((I.ok.mod.glob.keeps I.bk).keeps kk) ⟨mb, (bn.keeps I.bk).keeps kk, bb⟩ gx fresh (fun h' tk' t1 k' e' => ?_)
  refine ⟨rfl, ?_⟩
  refine ⟨hp.objs.size + 1, _, _, ⟨hp, g, dr, tk, os⟩, H, .ref C, none, rfl, I0, k', fresh, e', ⟨rfl, rfl⟩, rfl, rfl, I0.hok.fresh (Nat.le_succ _), rfl, I0.bare, raises_own T.sbe T.tyC, h⟩
end Q
namespace Q
open PySem L2
abbrev fw (E : XK) : WX := fun c d _ H => E c d H
def mRaise (c : Nat) : MS := fun _ S => .ex ⟨c, []⟩ S
theorem qs_raise {X : Cx} {cl : Nat → Addr} {E : XK} (c : Nat) {f : Addr} {B newId initId : String} {bmB : List Value} {st : Stmt} {txt x : Str} {p p2 pos : Pos} (S0 : SupSrc st txt) (T : ExcU X.prog X.K (cl c) f B newId initId bmB st) (tk : Takes X (fw E)) (hr : Room 1 X.A) (hg : Gl X x) (hm : X.mg x = some (.ref (cl c)))
    (hc : X.calm = true := by rfl) (hdb : (x == ("__debug__" : Str)) = false := by decide) : QS X cl E (.Raise (some (.Call (.Name x p) [] [] p2)) none pos) (mRaise c) :=
  ⟨_, ps_raise hc tk (pmk_u S0 T hr hg hm hdb), fun ρ S σ α G H Dn hρ hR hp => hp α G H _ _ (Ext.refl _ _ _) hR ⟨rfl, [], by simp [RepL], .inl ⟨rfl, rfl⟩⟩⟩
def endX (n : Nat) (r : Res Fl) : Res D := match r with
  | .ok (.nx _) S => fin n .non S
  | .ok (.rt d) S => fin n d S
  | .ex e S => if pureL e.fs && (S.take n).all (Cell.below n) then .ex e (S.take n) else .no
  | _ => .no
def fnX (nN nP : Nat) (n : MS) : List D → Store → Res D := fun ds S => if ds.length = nP then endX S.length (n (ds.map some ++ List.replicate (nN - nP) none) S) else .no
section
variable {P : Program} {w : World} {K : PySem.W.Frag} {mg : Str → Option Value} {base : Heap}
open PySem.Spec PyProof.Rows in
theorem fn_okX {x qual : Str} {st : Stmt} {f : Addr} {fd : FuncData} {N ps : List Str} {k : Nat} {cl : Nat → Addr} (nN nP : Nat) {n : MS} (F : Fun K x qual st f fd) (S : FnScope N ps (defScope st))
    (hbody : ∀ (cdv : Value) (A : Around) (outer : List PySem.Env) (s : Shared) (H : Hp) (E : XK), Room k (A.deeper (envOfC qual (defScope st) s.heap.objs.size f cdv)) → Takes (cxOf (L2.CX P w) P w K mg base N qual (defScope st) f cdv A outer s H E) (fw E) →
      PassesOwn (model P w) (cxOf (L2.CX P w) P w K mg base N qual (defScope st) f cdv A outer s H E).A (cxOf (L2.CX P w) P w K mg base N qual (defScope st) f cdv A outer s H E).env (cxOf (L2.CX P w) P w K mg base N qual (defScope st) f cdv A outer s H E).xe → QSs (cxOf (L2.CX P w) P w K mg base N qual (defScope st) f cdv A outer s H E) cl E (defBody st) n)
    (hN : N.length = nN := by rfl) (hP : ps.length = nP := by rfl) : FnOk P w K mg base (L2.CX P w) (k + 1) f fd ps (spM ⟨K, cl⟩ (fnX nN nP n)) := by
  refine F.okX S (fun vs H Q E h => ?_) (fun cdv A outer s H vs Q E hr h => ?_)
  · obtain ⟨ds, α, G, S, r, hR, hp⟩ := h
    unfold fnX at hp
    split at hp
    · rename_i e
      rw [← r.length, e, hP]
    · exact hp.elim
  · obtain ⟨ds, α, G, S', r, hR, hp⟩ := h
    obtain ⟨t, h1, h2⟩ := (hbody cdv A outer s H E hr (takes_of rfl rfl rfl rfl) (passes_of rfl)).ex
    refine ⟨t, h1, ?_⟩
    unfold fnX at hp
    split at hp
    · rename_i e
      rw [← hN, ← hP, show ps.length = vs.length by rw [hP, ← e, r.length]] at hp
      refine h2 _ S' _ α G H _ (envR_start r) hR ?_
      revert hp
      cases n (ds.map some ++ List.replicate (N.length - vs.length) none) S' with
      | no => exact id
      | ex e S2 =>
        intro hp α' G' H' c x e1 R1 r1
        unfold endX at hp
        simp only at hp
        split at hp
        · rename_i hq
          rw [Bool.and_eq_true] at hq
          obtain ⟨R2, e2⟩ := Rl.cut e1 R1 hR hq.2
          obtain ⟨ec, ws, rw_, rf⟩ := r1
          exact hp α G' H' c x e2 R2 ⟨ec, ws, pureL_rep _ _ hq.1 rw_, rf⟩
        · exact hp.elim
      | ok fl S2 =>
        cases fl with
        | nx ρ => exact fun hp α' G' H' σ' e R _ => fin_post hR hp α' G' H' .non e R (by simp [Rep])
        | rt d => exact fun hp α' G' H' v e R r => fin_post hR hp α' G' H' v e R r
        | bk ρ => exact fun hp => hp.elim
        | ct ρ => exact fun hp => hp.elim
    · exact hp.elim
theorem fn_quiet {k nN nP : Nat} {f : Addr} {fd : FuncData} {ps : List Str} {cl : Nat → Addr} {n : MS} (F : FnOk P w K mg base (L2.CX P w) k f fd ps (spM ⟨K, cl⟩ (fnX nN nP n))) : FnOk P w K mg base CX0 k f fd ps (spM ⟨K, cl⟩ (fnM nN nP n)) := by
  have back : ∀ {vs H Q E}, spM ⟨K, cl⟩ (fnM nN nP n) vs H Q E → spM ⟨K, cl⟩ (fnX nN nP n) vs H Q E0 := fun {vs H Q E} ⟨ds, α, G, S, r, hR, hp⟩ => ⟨ds, α, G, S, r, hR, by
    unfold fnM at hp
    unfold fnX
    split at hp
    · rename_i hl
      rw [if_pos hl]
      revert hp
      cases n (ds.map some ++ List.replicate (nN - nP) none) S with
      | no => exact fun hp => hp.elim
      | ex e S2 => exact fun hp => hp.elim
      | ok fl S2 =>
        intro hp
        have quiet : ∀ {d : D}, Post ⟨K, cl⟩ (Rep ⟨K, cl⟩) α G H (fin S.length d S2) Q E → Post ⟨K, cl⟩ (Rep ⟨K, cl⟩) α G H (fin S.length d S2) Q E0 := fun {d} z => by
          unfold fin at z ⊢
          split at z
          · rename_i q; rw [if_pos q]; exact z
          · rename_i q
            rw [if_neg q]
            split at z
            · rename_i q2; rw [if_pos q2]; exact z
            · exact z.elim
        cases fl with
        | nx ρ => exact quiet hp
        | rt d => exact quiet hp
        | bk ρ => exact hp.elim
        | ct ρ => exact hp.elim
    · exact hp.elim⟩
  refine ⟨fun vs H Q E h => F.len vs H Q E0 (back h), fun A outer s H args us vs Q E hr e0 hb hv h => ?_⟩
  refine codeAny_mono (F.run A outer s H args us vs Q E0 hr e0 hb hv (back h)) fun r s' hq => ?_
  cases r with
  | error e =>
    obtain ⟨_, _, _, _, _, _, _, _, _, _, _, _, z⟩ := hq
    exact z.elim
  | ok fl => cases fl <;> exact hq
end
section
variable {X : Cx} {cl : Nat → Addr} {W : WX} {E : XK} {e a b c : Expr} {pos : Pos}
def SndEX (Γ : Gm) (W : WX) (t : TE) (m : ME) : Prop := ∀ (ρ : Env) (S : Store) (σ : L2.St) (α : List Addr) (G H : Hp) (Q : VK), EnvR Γ α G ρ σ → Rl Γ α G S H → Post Γ (Rep Γ) α G H (m ρ S) Q (fun c d H' => W c d σ H') → t σ H Q
structure QEX (X : Cx) (cl : Nat → Addr) (W : WX) (e : Expr) (m : ME) : Prop where
  ex : ∃ t, PE X e t ∧ SndEX ⟨X.K, cl⟩ W t m
theorem QEX.qe {m : ME} (h : QEX X cl (fw E) e m) : QE X cl E e m := h.ex.elim fun t ⟨h1, h2⟩ => ⟨t, h1, fun ρ S σ α G H Q hρ hR hp => h2 ρ S σ α G H Q hρ hR hp⟩
def mCallX (g : List D → Store → Res D) (n : MA) : ME := fun ρ S => (nox (n ρ S)).bind g
theorem noxA_post {Γ : Gm} {β γ : Type} {R : List Addr → Hp → β → γ → Prop} {α : List Addr} {G H : Hp} {r : Res β} {Q : γ → Hp → Prop} {E' : XK} (h : Post Γ R α G H (nox r) Q E) : Post Γ R α G H r Q E' := by
  cases r with
  | ok d S => exact h
  | ex e S => exact h.elim
  | no => exact h.elim
def SndCX (Γ : Gm) (f g : List D → Store → Res D) : Prop := ∀ (E : XK) (ds : List D) (S : Store) (α : List Addr) (G H : Hp) (vs : List V) (Q : VK), Rl Γ α G S H → RepL Γ α G ds vs → Post Γ (Rep Γ) α G H (g ds S) Q E → spM Γ f vs H Q E
def fPureX (f : List D → Store → Res D) : List D → Store → Res D := fun ds S => if pureL ds then match f ds [] with
  | .ok d [] => .ok d S
  | .ex e [] => if pureL e.fs then .ex e S else .no
  | _ => .no
  else .no
theorem spx_pure {Γ : Gm} {f : List D → Store → Res D} : SndCX Γ f (fPureX f) := fun E ds S α G H vs Q hR r h => by
  unfold fPureX at h
  split at h
  · rename_i hp
    refine ⟨ds, [], G, [], pureL_rep ds vs hp r, hR.bare, ?_⟩
    cases q : f ds [] with
    | no => rw [q] at h; exact h.elim
    | ex e S' =>
      rw [q] at h
      cases S' with
      | cons c T => exact h.elim
      | nil =>
        simp only at h
        split at h
        · rename_i hf
          intro α' G' H' c x e1 R' rv
          have ea : α' = [] := List.eq_nil_of_length_eq_zero (by rw [R'.len]; rfl)
          subst ea
          obtain ⟨R2, e2⟩ := hR.back R' e1
          obtain ⟨ec, ws, rw_, rf⟩ := rv
          exact h α G' H' c x e2 R2 ⟨ec, ws, pureL_rep _ _ hf rw_, rf⟩
        · exact h.elim
    | ok d S' =>
      rw [q] at h
      cases S' with
      | cons c T => exact h.elim
      | nil =>
        intro α' G' H' v e R' rv
        have ea : α' = [] := List.eq_nil_of_length_eq_zero (by rw [R'.len]; rfl)
        subst ea
        obtain ⟨R2, e2⟩ := hR.back R' e
        exact h α G' H' v e2 R2 (Rep.mono (α := []) ⟨α, by simp⟩ (Sub.refl _) _ _ rv)
  · exact h.elim
theorem qx_call {f g : List D → Store → Res D} {k : Nat} {fa : Addr} {fd : FuncData} {ps : List Str} {x : Str} {p : Pos} {es : List Expr} {n : MA} (F : FnOk X.prog X.w X.K X.mg X.base (L2.CX X.prog X.w) k fa fd ps (spM ⟨X.K, cl⟩ f)) (tk : Takes X W) (hr : Room k X.A)
    (hg : Gl X x) (hm : X.mg x = some (.ref fa)) (hk : PySem.W.keepIn X.K (.ref fa) = true) (hb : Binds X.K fd ps []) (ha : QA X cl E0 (e :: es) n) (hf : SndCX ⟨X.K, cl⟩ f g)
    (hdb : (x == ("__debug__" : Str)) = false := by decide) (he : starEach (e :: es) X.env = (false, eval e X.env) :: starEach es X.env := by rfl) (hpl : (backTo pos (starEach es X.env)).any (·.1) = false := by rfl) :
    QEX X cl W (.Call (.Name x p) (e :: es) [] pos) (mCallX g n) := by
  obtain ⟨t, h1, h2⟩ := ha.ex
  refine ⟨_, pe_callS (E := fun σ c d H' => W c d σ H') F hr hg hm hk hb (fun σ => passAt tk σ) h1 hdb he hpl, fun ρ S σ α G H Q hρ hR hp => ?_⟩
  refine h2 ρ S σ α G H _ hρ hR (noxA_post (E := fun c d H' => W c d σ H') (post_bind hp fun ds S1 α1 G1 H1 vs _ e1 R1 r1 hp1 => ?_))
  exact hf _ ds S1 α1 G1 H1 vs Q R1 r1 hp1
def SndX (Γ : Gm) (W : WX) (t : TS) (n : MS) : Prop := ∀ (ρ : Env) (S : Store) (σ : L2.St) (α : List Addr) (G H : Hp) (Dn : Ends), EnvR Γ α G ρ σ → Rl Γ α G S H → PostS Γ (fun c d H' => W c d σ H') α G H (n ρ S) Dn → t Dn σ H
structure QX (X : Cx) (cl : Nat → Addr) (W : WX) (st : Stmt) (n : MS) : Prop where
  ex : ∃ t, PS X st t ∧ SndX ⟨X.K, cl⟩ W t n
structure QXs (X : Cx) (cl : Nat → Addr) (W : WX) (st : List Stmt) (n : MS) : Prop where
  ex : ∃ t, PSs X st t ∧ SndX ⟨X.K, cl⟩ W t n
def tX (Γ : Gm) (W : WX) (n : MS) : TS := fun Dn σ H => ∃ ρ S α G, EnvR Γ α G ρ σ ∧ Rl Γ α G S H ∧ PostS Γ (fun c d H' => W c d σ H') α G H (n ρ S) Dn
theorem QXs.can {st : List Stmt} {n : MS} (h : QXs X cl W st n) : PSs X st (tX ⟨X.K, cl⟩ W n) := by
  obtain ⟨t, h1, h2⟩ := h.ex
  exact ⟨fun pins s σ H D I ⟨ρ, S, α, G, hρ, hR, hp⟩ => h1.run pins s σ H D I (h2 ρ S σ α G H D hρ hR hp)⟩
theorem qxs_one {st : Stmt} {n : MS} (h : QX X cl W st n) : QXs X cl W [st] n := by
  obtain ⟨t, h1, h2⟩ := h.ex
  exact ⟨_, pss_one h1, h2⟩
theorem qx_expr {m : ME} (h : QEX X cl W e m) (hs : swapsWith e none pos.line X.env = pure false := by rfl) : QX X cl W (.Expr e pos) (mDrop m) := by
  obtain ⟨t, h1, h2⟩ := h.ex
  exact ⟨_, ps_expr h1 hs, fun ρ S σ α G H Dn hρ hR hp => h2 ρ S σ α G H _ hρ hR (posts_bind hp fun d S1 α1 G1 H1 v _ e1 R1 r1 hp1 => hp1 α1 G1 H1 σ (Ext.refl _ _ _) R1 (hρ.mono e1))⟩
end
section
variable {ρ : Env} {S : Store}
@[simp] theorem nox_ex {β : Type} (e : Exn) : nox (Res.ex e S : Res β) = .no := rfl
@[simp] theorem ap_raise (c : Nat) : mRaise c ρ S = .ex ⟨c, []⟩ S := rfl
@[simp] theorem ap_callX (g : List D → Store → Res D) (n : MA) : mCallX g n ρ S = (nox (n ρ S)).bind g := rfl
@[simp] theorem endX_nx {n : Nat} : endX n (.ok (.nx ρ) S) = fin n .non S := rfl
@[simp] theorem endX_rt {n : Nat} {d : D} : endX n (.ok (.rt d) S) = fin n d S := rfl
theorem fnX_2 {nN : Nat} {n : MS} {a b : D} : fnX nN 2 n [a, b] S = endX S.length (n (some a :: some b :: List.replicate (nN - 2) none) S) := rfl
theorem fnX_ok {nN nP : Nat} {n : MS} {ds : List D} {d : D} {S' : Store} (h : fnM nN nP n ds S = .ok d S') : fnX nN nP n ds S = .ok d S' := by
  unfold fnM at h
  unfold fnX
  split at h
  · rename_i hl
    rw [if_pos hl]
    revert h
    cases n (ds.map some ++ List.replicate (nN - nP) none) S with
    | no => exact fun h => nomatch h
    | ex e S2 => exact fun h => nomatch h
    | ok fl S2 => cases fl <;> first | exact id | exact fun h => nomatch h
  · cases h
theorem fPX_of {nN nP : Nat} {n : MS} {ds : List D} {d : D} (h : fPure (fnM nN nP n) ds [] = .ok d []) : fPureX (fnX nN nP n) ds S = .ok d S := by
  unfold fPure at h
  split at h
  · rename_i hp
    unfold fPureX
    rw [if_pos hp]
    cases q : fnM nN nP n ds [] with
    | no => rw [q] at h; cases h
    | ex e S' => rw [q] at h; cases h
    | ok d' S' =>
      rw [q] at h
      cases S' with
      | cons c T => cases h
      | nil =>
        rw [fnX_ok q]
        simp only at h ⊢
        cases h
        rfl
  · cases h
theorem fPureX_ex {f : List D → Store → Res D} {ds : List D} {e : Exn} (hp : pureL ds = true) (h : f ds [] = .ex e []) (he : pureL e.fs = true) : fPureX f ds S = .ex e S := by simp [fPureX, hp, h, he]
end
end Q
namespace Q
open PySem L2
theorem Inv.follow {X : Cx} {pins : List (Addr × Obj)} {σ : St} {H : Hp} {s : Shared} {a : Addr} {cls : Value} {d : Option Addr} {oe : Obj} {ws : Array Value} (I : Inv X pins σ H s) (ha : s.heap.get? a = some oe) (hz : Zc cls d oe) (hd : oe.data = .fields ws) (na : H a = none)
    (n0 : X.s_0.heap.get? a = none) (nl : a ≠ X.env.locals) (np : ∀ p ∈ X.pn ++ pins, p.1 ≠ a) : Inv X pins σ (upd H a (ExK cls d a)) s := by
  have old : ∀ {b : Addr} {o : HO}, H b = some o → upd H a (ExK cls d a) b = some o := fun {b o} e => by rw [upd_ne (ne_of_none e na)]; exact e
  have new : ObjOk X.prog X.w (upd H a (ExK cls d a)) s.heap a (ExK cls d a) := ⟨⟨oe, ws, ha, hz, hd⟩, ⟨oe, ha⟩, fun _ _ ⟨o, v, q, r⟩ k => ⟨o, v, k o q, r⟩⟩
  refine ⟨I.ok, I.os, I.bare, ⟨I.base.keep, I.base.slot, fun b o e n hx => ?_, I.base.there, fun b xs e => old (I.base.tups b xs e), fun b o u e => old (I.base.frzs b o u e), fun b ps e => ?_⟩, I.loc, I.cell, ?_, fun x c e => ?_, fun p hp => ?_, I.hok.laidN (fun _ _ e => e) na new, I.len⟩
  · have hb : b ≠ a := fun z => by
      rw [z, n0] at e
      cases e
    rw [upd_ne hb]
    exact I.base.free b o e n hx
  · obtain ⟨m, e'⟩ := I.base.tbls b ps e
    exact ⟨m, old e'⟩
  · rw [upd_ne (Ne.symm nl)]
    exact I.free
  · have hc : c ≠ a := fun z => by
      obtain ⟨v, o, ho, hv⟩ := I.cell x c e
      rw [z, ha] at ho
      cases ho
      rw [hd] at hv
      cases hv
    rw [upd_ne hc]
    exact I.freeC x c e
  · obtain ⟨e1, e2, e3⟩ := I.pin p hp
    exact ⟨e1, by rw [upd_ne (np p hp)]; exact e2, e3⟩
structure HdT (X : Cx) (cl : Nat → Addr) (ty : Expr) (cs : List (Nat × Bool)) : Prop where
  run : ∀ (a : Addr) (pn : List (Addr × Obj)) (σ : St) (H : Hp) (s : Shared) (oe : Obj) (c : Nat) (b : Bool) (Q : Bool → Shared → Prop) (E : Value → Shared → Prop), Inv (X.suite a pn) [] σ H s → s.heap.get? a = some oe → oe.cls = .ref (cl c) → cs.lookup c = some b →
    (∀ h' tk, (∀ b o, s.heap.get? b = some o → h'.get? b = some o) → Q b { s with heap := h', toks := tk }) → wpAny (model X.prog X.w) (X.A.mark (some (.ref a))) (eval ty X.env) (fun v s1 => wpAny (model X.prog X.w) (X.A.mark (some (.ref a))) (excMatches (.ref a) v) Q E s1) E s
theorem hdt_name {X : Cx} {cl : Nat → Addr} {x : Str} {np : Pos} {Cv : Value} {cs : List (Nat × Bool)} (hc : Names X x Cv) (hm : ∀ c b, cs.lookup c = some b → PySem.W.exmOne X.K (.ref (cl c)) Cv = some b) : HdT X cl (.Name x np) cs := by
  refine ⟨fun a pn σ H s oe c b Q E I ha hcls hl h => ?_⟩
  have LT : PySem.W.Looks (model X.prog X.w) s.heap (typeOf (.ref a)) (.ref (cl c)) := fun A Q E s' k q => wpAny_typeOf_ref (k _ _ ha) (by rw [hcls]; exact q)
  have LM := PySem.W.exm_one (M := model X.prog X.w) (I.kIn) LT (hm c b hl)
  have done : wpAny (model X.prog X.w) (X.A.mark (some (.ref a))) (excMatches (.ref a) Cv) Q E s := LM.here (h s.heap s.toks fun _ _ e => e)
  obtain ⟨hg, hdb, h1 | ⟨h1, hv, hn⟩⟩ := hc
  · exact ld_glob (X := X.suite a pn) I hg h1 done hdb
  · exact ld_blt (X := X.suite a pn) I hg h1 hv done hn hdb
theorem flying_keep {B h h' : Heap} {l : List PySem.Env} {a : Addr} {Z : Obj → Prop} (k : ∀ b o, h.get? b = some o → h'.get? b = some o) (f : HandSPX.FlyingZ B l a Z h) : HandSPX.FlyingZ B l a Z h' := by
  obtain ⟨f1, f2, f3, oe, vs, T, oT, ts, e1, e2, e3, e4, e5, e6, e7, e8⟩ := f
  exact ⟨fun b o e => k b o (f1 b o e), f2, Heap.FunFrames.of_keeps (fun b o e _ => ⟨o, k b o e, rfl⟩) f3, oe, vs, T, oT, ts, k _ _ e1, e2, e3, e4, e5, e6, k _ _ e7, e8⟩
def unN (j : Nat) : Fl → Store → Res Fl
  | .nx ρ, S => .ok (.nx (ρ.set j none)) S
  | .bk ρ, S => .ok (.bk (ρ.set j none)) S
  | .ct ρ, S => .ok (.ct (ρ.set j none)) S
  | .rt d, S => .ok (.rt d) S
structure Hd where
  cs : List (Nat × Bool)
  j : Nat
  ms : MS
def mHands : List Hd → Exn → MS
  | [], _ => fun _ _ => .no
  | h :: r, e => fun ρ S => match h.cs.lookup e.cls with
    | some true => (nox (h.ms (ρ.set h.j (some (.exn e.cls e.fs))) S)).bind (unN h.j)
    | some false => mHands r e ρ S
    | none => .no
def mTry (hs : List Hd) (mb : MS) : MS := fun ρ S => match mb ρ S with
  | .ex e S1 => mHands hs e ρ S1
  | r => r
def tryK (hs : List Hd) (ρ : Env) : Res Fl → Res Fl
  | .ex e S1 => mHands hs e ρ S1
  | r => r
@[simp] theorem ap_try (hs : List Hd) (mb : MS) (ρ : Env) (S : Store) : mTry hs mb ρ S = tryK hs ρ (mb ρ S) := rfl
@[simp] theorem tryK_ok (hs : List Hd) (ρ : Env) (f : Fl) (S : Store) : tryK hs ρ (.ok f S) = .ok f S := rfl
@[simp] theorem tryK_ex (hs : List Hd) (ρ : Env) (e : Exn) (S : Store) : tryK hs ρ (.ex e S) = mHands hs e ρ S := rfl
theorem hands_yes (cs : List (Nat × Bool)) (j : Nat) (ms : MS) (r : List Hd) (e : Exn) (ρ : Env) (S : Store) (h : cs.lookup e.cls = some true) : mHands (⟨cs, j, ms⟩ :: r) e ρ S = (nox (ms (ρ.set j (some (.exn e.cls e.fs))) S)).bind (unN j) := by
  unfold mHands
  simp only [h]
@[simp] theorem unN_nx (j : Nat) (ρ : Env) (S : Store) : unN j (.nx ρ) S = .ok (.nx (ρ.set j none)) S := rfl
@[simp] theorem unN_rt (j : Nat) (d : D) (S : Store) : unN j (.rt d) S = .ok (.rt d) S := rfl
inductive HdsQ (X : Cx) (cl : Nat → Addr) : List ExceptHandler → List Hd → Prop
  | nil : HdsQ X cl [] []
  | cons {ty : Expr} {n : Str} {b₀ : Stmt} {suite : List Stmt} {pos : Pos} {cs : List (Nat × Bool)} {j : Nat} {ms : MS} {hds : List ExceptHandler} {r : List Hd} (hi : X.N[j]? = some n) (hln : X.env.kindOf n = some .local) (ht : HdT X cl ty cs)
      (hsu : ∀ (a : Addr) (pn : List (Addr × Obj)), QSs (X.suite a pn) cl E0 (b₀ :: suite) ms) (k : HdsQ X cl hds r) : HdsQ X cl (.ExceptHandler (some ty) (some n) (b₀ :: suite) pos :: hds) (⟨cs, j, ms⟩ :: r)
theorem EnvR.unset {Γ : Gm} {α : List Addr} {G : Hp} {ρ : Env} {σ : L2.St} (h : EnvR Γ α G ρ σ) (i : Nat) : EnvR Γ α G (ρ.set i none) (σ.set i none) := by
  refine ⟨by simp [h.1], fun j e hj => ?_⟩
  by_cases z : i = j
  · subst z
    have l := (List.getElem?_eq_some_iff.mp hj).1
    rw [List.length_set] at l
    rw [List.getElem?_set_self l] at hj
    cases hj
  · rw [List.getElem?_set_ne z] at hj ⊢
    exact h.2 j e hj
section
variable {X : Cx} {cl : Nat → Addr} {E : XK} {body : List Stmt} {pos : Pos}
def wTry (Γ : Gm) (E : XK) (hs : List Hd) (Dn : Ends) : WX := fun cls d σ H => ∃ e ρ S α G, EnvR Γ α G ρ σ ∧ Rl Γ α G S H ∧ ExR Γ α G e cls d H ∧ PostS Γ E α G H (mHands hs e ρ S) Dn
theorem qs_try {h₀ : ExceptHandler} {hds : List ExceptHandler} {hs : List Hd} {mb : MS} (hst : X.stack = X.env :: X.outer) (hf : X.env.frame = some X.env.locals) (hex : X.ex = []) (hN : X.N.Nodup)
    (hb : ∀ (W : WX) (pn : List (Addr × Obj)) (xe : Value → Shared → Prop), Takes (X.tr pn xe) W → PassesOwn (model X.prog X.w) X.A X.env xe → QXs (X.tr pn xe) cl W body mb)
    (hh : HdsQ X cl (h₀ :: hds) hs) : QS X cl E (.Try body (h₀ :: hds) [] [] pos) (mTry hs mb) := by
  refine ⟨fun Dn σ H => ∃ ρ S α G, EnvR ⟨X.K, cl⟩ α G ρ σ ∧ Rl ⟨X.K, cl⟩ α G S H ∧ PostS ⟨X.K, cl⟩ E α G H (mTry hs mb ρ S) Dn, ⟨fun pins s σ H D I h => ?_⟩, fun ρ S σ α G H Dn hρ hR hp => ⟨ρ, S, α, G, hρ, hR, hp⟩⟩
  obtain ⟨ρ0, S0, α0, G0, hρ0, hR0, hp0⟩ := h
  have ok := I.ok
  have hfr : X.A.frames = some (X.env :: X.outer) := ok.frames.trans (congrArg some hst)
  have toTr : ∀ xe', Inv (X.tr (X.pn ++ pins) xe') [] σ H s := fun xe' => I.toTry xe'
  -- the body's reading
  have start : ∀ W : WX, (∀ cls d σ' H', wTry ⟨X.K, cl⟩ E hs D cls d σ' H' → W cls d σ' H') → tX ⟨X.K, cl⟩ W mb D σ H := fun W hW => by
    refine ⟨ρ0, S0, α0, G0, hρ0, hR0, ?_⟩
    unfold mTry at hp0
    cases q : mb ρ0 S0 with
    | no => rw [q] at hp0; exact hp0.elim
    | ok f S1 => rw [q] at hp0; cases f <;> exact hp0
    | ex e S1 =>
      rw [q] at hp0
      exact fun α' G' H' c x e1 R1 r1 => hW _ _ _ _ ⟨e, ρ0, S1, α', G', hρ0.mono e1, R1, r1, PostS.mono hp0 e1⟩
  refine wpAny_Try_except ?_
  have leave : ∀ (xe' : Value → Shared → Prop) (u : Value) (s' : Shared), XE (X.tr (X.pn ++ pins) xe') (wTry ⟨X.K, cl⟩ E hs D) u s' → wpAny (model X.prog X.w) X.A (noteFrame u X.env) (fun _ s₂ => wpAny (model X.prog X.w) X.A (setFlight u none) (fun _ s₃ =>
      wpAny (model X.prog X.w) X.A (handleBy u X.env (h₀ :: hds)) (SP X pins D) X.xe s₃) X.xe s₂) X.xe s' := by
    rintro xe' u s' ⟨a, B, sI, pins', τ, J, cls, d, rfl, Ja, nb, up, sky, na, eos, bare, e, ρ, S, α, G, hρ, hR, hx, hp⟩
    have Ib : Inv X pins τ J sI := Ja.ofTry ok
    refine Sky.land Zc.steady hfr hf (B := B) (by rw [← hst]; exact sky) fun h3 fl3 up3 => ?_
    -- the exception is no frame, and it is newer than what the def found
    have apart : ∀ {h : Heap}, HandSPX.FlyingZ B (X.env :: X.outer) a (Zc cls d) h → a ∉ frs (X.env :: X.outer) := fun {h} fl hm => by
      obtain ⟨oe, ws, e1, _, e2⟩ := fl.there
      obtain ⟨_, o2, e3, nf⟩ := fl.2.2.1.mem hm
      rw [e1] at e3
      cases e3
      exact nf _ e2
    have nfr := apart fl3
    have nl : a ≠ X.env.locals := fun z => nfr (by rw [z]; exact List.mem_filterMap.mpr ⟨X.env, .head _, hf⟩)
    have inB : ∀ {b : Addr} {o : Obj}, sI.heap.get? b = some o → b ∉ frs X.stack → b ≠ a := fun {b o} q n z => by
      have := nb b o q n
      rw [z, fl3.2.1] at this
      cases this
    have n0 : X.s_0.heap.get? a = none := by
      cases q : X.s_0.heap.get? a with
      | none => rfl
      | some o =>
        obtain ⟨o', q'⟩ := Ib.base.there a o q (by rw [hex]; exact fun z => nomatch z)
        exact absurd rfl (inB q' (by rw [hst]; exact nfr))
    have np : ∀ p ∈ X.pn ++ pins, p.1 ≠ a := fun p hp => by
      obtain ⟨q1, _, q3, q4, _⟩ := Ib.pin p hp
      refine inB q1 fun hm => ?_
      rw [hst] at hm
      obtain ⟨v, hv, hw⟩ := List.mem_filterMap.mp hm
      rcases List.mem_cons.mp hv with z | z
      · rw [z, hf] at hw
        exact q3 (Option.some.inj hw).symm
      · exact q4 (List.mem_filterMap.mpr ⟨v, z, hw⟩)
    obtain ⟨ec, vs, rfs, exf⟩ := hx
    have toSuite : ∀ {τ' : St} {J' : Hp} {u : Shared}, Inv X pins τ' J' u → Inv (X.suite a (X.pn ++ pins)) [] τ' J' u := fun {τ' J' u} I' =>
      ⟨I'.ok.suite _ _, I'.os, I'.bare, I'.base, I'.loc, I'.cell, I'.free, I'.freeC, fun p hp => I'.pin p (by simpa using hp), I'.hok, I'.len⟩
    have offSuite : ∀ {τ' : St} {J' : Hp} {u : Shared}, Inv (X.suite a (X.pn ++ pins)) [] τ' J' u → Inv X pins τ' J' u := fun {τ' J' u} I' =>
      ⟨ok, I'.os, I'.bare, I'.base, I'.loc, I'.cell, I'.free, I'.freeC, fun p hp => I'.pin p (by simpa using hp), I'.hok, I'.len⟩
    have go : ∀ {hds' : List ExceptHandler} {hs' : List Hd}, HdsQ X cl hds' hs' → ∀ (h : Heap) (tk : Nat), HandSPX.FlyingZ B (X.env :: X.outer) a (Zc cls d) h → sI.heap.UpToSlots h → PostS ⟨X.K, cl⟩ E α G J (mHands hs' e ρ S) D →
        wpAny (model X.prog X.w) X.A (handleBy (.ref a) X.env hds') (SP X pins D) X.xe { s' with heap := h, toks := tk } := by
      intro hds' hs' hk
      induction hk with
      | nil => exact fun h tk _ _ hp => hp.elim
      | @cons ty n b₀ suite pos cs j ms hds2 r hi hln ht hsu k ih =>
        intro h tk fl up hp
        have I3 : Inv X pins τ J { s' with heap := h, toks := tk } := Ib.landed nb fl.1 up eos bare
        obtain ⟨oe, ws, he, hz, hd⟩ := fl.there
        unfold mHands at hp
        cases hl : cs.lookup e.cls with
        | none => simp only [hl] at hp; exact hp.elim
        | some b =>
        simp only [hl] at hp
        refine wpAny_handleBy_cons (codeAny_handlers_test ?_) (by intro q; cases q)
        refine ht.run a (X.pn ++ pins) τ J _ oe e.cls b _ _ (toSuite I3) he (hz.1.trans ec) hl (fun h' tk' kh => ?_)
        have fl' := flying_keep kh fl
        have up' : sI.heap.UpToSlots h' := up.trans (Heap.UpToSlots.of_keeps kh)
        cases b with
        | false => exact ih h' tk' fl' up' hp
        | true =>
          refine codeAny_handlers_suite_as ?_
          refine HandSPX.lands_againZ fl' fun h4 fl4 up4 => ?_
          have I4 : Inv X pins τ J { s' with heap := h4, toks := tk' } := Ib.landed nb fl4.1 (up'.trans up4) eos bare
          obtain ⟨oe4, ws4, he4, hz4, hd4⟩ := fl4.there
          have I5 := Inv.follow (toSuite I4) he4 hz4 hd4 na n0 nl (by simpa using np)
          refine store_ok (X := X.suite a (X.pn ++ pins)) (v := .ref a) I5 hN hi (.inl hln) rfl (fun s6 I6 => ?_) (.inr hln)
          obtain ⟨R7, e7⟩ := hR.new na (ExK cls d a)
          have rex : Rep ⟨X.K, cl⟩ α (upd G a (ExK cls d a)) (.exn e.cls e.fs) (.ref a) := by
            unfold Rep
            exact ⟨a, vs, rfl, ⟨d, by rw [upd_same, ec], exf.keep fun b fs q => by rw [upd_ne (fun z => by rw [z, hR.gnone na] at q; cases q)]; exact q⟩, RepL.mono e7.pre e7.sub _ _ rfs⟩
          have hp7 := PostS.mono hp e7
          obtain ⟨t, h1, h2⟩ := (hsu a (X.pn ++ pins)).ex
          refine wpAny_mono (h1.run [] s6 _ _ { nx := fun σ' H' => D.nx (σ'.set j none) H', rt := D.rt, bk := fun σ' H' => D.bk (σ'.set j none) H', ct := fun σ' H' => D.ct (σ'.set j none) H' } I6 (h2 (ρ.set j (some (.exn e.cls e.fs))) S _ α _ _ _ ((hρ.mono e7).set j rex) R7 ?_)) (fun f s7 hsp => ?_) (fun _ _ z => False.elim z)
          · revert hp7
            cases ms (ρ.set j (some (.exn e.cls e.fs))) S with
            | no => exact fun hp7 => hp7.elim
            | ex e' S' => exact fun hp7 => hp7.elim
            | ok f S' =>
              intro hp7
              cases f with
              | nx ρ' => exact fun α' G' H' σ' e8 R8 r8 => hp7 α' G' H' _ e8 R8 (r8.unset j)
              | bk ρ' => exact fun α' G' H' σ' e8 R8 r8 => hp7 α' G' H' _ e8 R8 (r8.unset j)
              | ct ρ' => exact fun α' G' H' σ' e8 R8 r8 => hp7 α' G' H' _ e8 R8 (r8.unset j)
              | rt v => exact hp7
          · have end_ : ∀ {τ' : St} {J' : Hp} {Q : Shared → Prop}, Inv (X.suite a (X.pn ++ pins)) [] τ' J' s7 → (∀ s8, Inv X pins (τ'.set j none) J' s8 → Q s8) → wpAny (model X.prog X.w) X.A (do bindName X.env n .none; unbindBehindTheSuite X.env n pos) (fun _ s8 => Q s8) X.xe s7 :=
              fun {τ' J' Q} I' hq => gone_ok (offSuite I') hN hi hln hq
            cases f with
            | next =>
              obtain ⟨τ8, J8, I8, q8⟩ := hsp
              exact end_ I8 fun s8 I9 => ⟨_, _, I9, q8⟩
            | brk =>
              obtain ⟨τ8, J8, I8, q8⟩ := hsp
              exact end_ I8 fun s8 I9 => ⟨_, _, I9, q8⟩
            | cont =>
              obtain ⟨τ8, J8, I8, q8⟩ := hsp
              exact end_ I8 fun s8 I9 => ⟨_, _, I9, q8⟩
            | ret u =>
              obtain ⟨v8, τ8, J8, I8, r8, q8⟩ := hsp
              exact end_ I8 fun s8 I9 => ⟨_, _, _, I9, r8, q8⟩
    exact go hh h3 s'.toks fl3 (up.trans up3) hp
  refine wpAny_mono ((hb (wTry ⟨X.K, cl⟩ E hs D) (X.pn ++ pins) _ (leave _) PassesOwn.looking).can.run [] s σ H D (toTr _) (start _ fun _ _ _ _ z => z)) (fun f s1 hsp => ?_) (fun _ _ z => z)
  cases f with
  | next =>
    obtain ⟨τ, J, I1, q⟩ := hsp
    exact wpAny_execs_nil ⟨τ, J, I1.ofTry ok, q⟩
  | brk =>
    obtain ⟨τ, J, I1, q⟩ := hsp
    exact ⟨τ, J, I1.ofTry ok, q⟩
  | cont =>
    obtain ⟨τ, J, I1, q⟩ := hsp
    exact ⟨τ, J, I1.ofTry ok, q⟩
  | ret u =>
    obtain ⟨v, τ, J, I1, r, q⟩ := hsp
    exact ⟨v, τ, J, I1.ofTry ok, r, q⟩
end
end Q
namespace Q
open PySem L2
inductive NamesL (X : Cx) : List Expr → List Value → Prop
  | nil : NamesL X [] []
  | cons {x : Str} {p : Pos} {c : Value} {es : List Expr} {cs : List Value} (h : Names X x c) (k : NamesL X es cs) : NamesL X (.Name x p :: es) (c :: cs)
theorem NamesL.suite {X : Cx} {es : List Expr} {cs : List Value} (h : NamesL X es cs) (a : Addr) (pn : List (Addr × Obj)) : NamesL (X.suite a pn) es cs := by
  induction h with
  | nil => exact .nil
  | cons h k ih => exact .cons h ih
structure ExcQ (K : PySem.W.Frag) (C : Addr) : Prop where
  cl : (PySem.W.clsIn K C).isSome = true
  ga : PySem.W.findIn K (.ref C) "__getattribute__" = some (some (.builtin "BaseException.__getattribute__"))
  gg : PySem.W.findIn K (.ref C) "__getattr__" = some none
  sb : PySem.W.subIn K (.ref C) (.type "BaseException") = some true
  ca : PySem.W.findIn K (.ref C) "__class__" = some (some (.builtin "object.__class__"))
  cn : PySem.W.specialIn K (.builtin "object.__class__") "__get__" = some (some (.builtin "getset_descriptor.__get__"))
  ct : PySem.W.takesIn K (.builtin "object.__class__") = some true
  ob : PySem.W.mroIn K C (.type "object") = some true
def ExH (H : Hp) (a C : Addr) : Prop := ∃ d, H a = some (ExK (.ref C) d a) ∧ (d = none ∨ ∃ dd fs, d = some dd ∧ H dd = some (.xd fs))
theorem exn_inst {X : Cx} {pins : List (Addr × Obj)} {σ : St} {H : Hp} {s : Shared} {a C : Addr} (I : Inv X pins σ H s) (h : ExH H a C) : ∃ oe od, PySem.W.InstAt s.heap a oe C od := by
  obtain ⟨d, ha, hd⟩ := h
  obtain ⟨⟨oe, ws, e1, z, e2⟩, _⟩ := (show ObjOk X.prog X.w H s.heap a (.ext _) from I.hok a _ ha)
  have nc : PySem.W.notCls oe = true := by unfold PySem.W.notCls; rw [e2] <;> rfl
  rcases hd with rfl | ⟨dd, fs, rfl, hdd⟩
  · exact ⟨oe, none, e1, z.1, nc, by rw [z.2]; trivial⟩
  · obtain ⟨_, ⟨od, _, _, e3, _⟩, _⟩ := (show ObjOk X.prog X.w H s.heap dd (.xd fs) from I.hok dd _ hdd)
    exact ⟨oe, some od, e1, z.1, nc, by rw [z.2]; exact e3⟩
def rIsX (K : PySem.W.Frag) : List V → Hp → VK → Prop := fun xs H Q => ∃ (a C : Addr) (c : V) (cv : Value) (b : Bool), xs = [.ref a, c] ∧ ClsV c cv ∧ ExH H a C ∧ ExcQ K C ∧ PySem.W.kitOne K (.ref C) cv = some b ∧ Q (.bl b) H
theorem call_isX {X : Cx} : CallR X (.builtin "isinstance") (rIsX X.K) := by
  intro pins s σ H xs us Q I r h
  obtain ⟨a, C, c, cv, b, rfl, k, hx, T, e, q⟩ := h
  obtain ⟨u1, u2, rfl, r1, r2⟩ := vals2 r
  have e2 := k.eq r2
  subst e2
  cases (show u1 = Value.ref a from r1)
  obtain ⟨oe, od, J⟩ := exn_inst I hx
  exact PySem.W.kia_one (PySem.W.kitx_exc T.cl T.ga T.gg T.sb T.ca T.cn T.ct T.ob) I.kIn J e (fun z => nomatch z) fun tk => ⟨.bl b, H, I.tok tk, rfl, q⟩
section
variable {X : Cx} {cl : Nat → Addr} {E : XK} {pos : Pos} {a : Expr} {m : ME}
theorem exn_at {Γ : Gm} {α : List Addr} {G H : Hp} {S : Store} (R : Rl Γ α G S H) {c : Nat} {fs : List D} {v : V} (r : Rep Γ α G (.exn c fs) v) : ∃ p, v = .ref p ∧ ExH H p (Γ.cl c) := by
  unfold Rep at r
  obtain ⟨p, vs, rfl, ⟨d, h1, h2⟩, _⟩ := r
  refine ⟨p, rfl, d, R.sub _ _ h1, ?_⟩
  rcases h2 with ⟨_, z⟩ | ⟨nm, v, dd, _, e2, e3⟩
  · exact .inl z
  · exact .inr ⟨dd, _, e2, R.sub _ _ e3⟩
def isX (tab : List (Nat × Bool)) (d : D) (S : Store) : Res D := match d with
  | .exn c _ => match tab.lookup c with
    | some b => .ok (.bl b) S
    | none => .no
  | _ => .no
def mIsX (tab : List (Nat × Bool)) (m : ME) : ME := fun ρ S => (m ρ S).bind (isX tab)
theorem q_isX (tab : List (Nat × Bool)) {x : Str} {p p2 : Pos} {cv : V} {cw : Value} (h : QE X cl E a m) (hg : Gl X "isinstance") (hm : X.mg "isinstance" = none) (hc : PE X (.Name x p2) (tC cv)) (hcv : ClsV cv cw) (ht : ∀ c b, tab.lookup c = some b → ExcQ X.K (cl c) ∧ PySem.W.kitOne X.K (.ref (cl c)) cw = some b)
    (hs1 : starEach [a, .Name x p2] X.env = (false, eval a X.env) :: starEach [.Name x p2] X.env := by rfl) (hs2 : starEach [.Name x p2] X.env = (false, eval (.Name x p2) X.env) :: starEach [] X.env := by rfl) (hpl : (backTo pos (starEach [.Name x p2] X.env)).any (·.1) = false := by rfl) :
    QE X cl E (.Call (.Name "isinstance" p) [a, .Name x p2] [] pos) (mIsX tab m) := by
  obtain ⟨t, h1, h2⟩ := h.ex
  refine ⟨_, pe_callB call_isX hg hm (by decide +kernel) (pa_cons h1 (pa_cons hc pa_nil hs2) hs1) (by decide) (by decide) hs1 hpl, fun ρ S σ α G H Q hρ hR hp => h2 ρ S σ α G H _ hρ hR (post_bind hp fun d S1 α1 G1 H1 v _ e1 R1 r1 hp1 => ?_)⟩
  cases d <;> try exact hp1.elim
  rename_i c fs _
  simp only [isX] at hp1
  cases hl : tab.lookup c with
  | none => simp only [hl] at hp1; exact hp1.elim
  | some b =>
    simp only [hl] at hp1
    obtain ⟨p, rfl, hx⟩ := exn_at R1 r1
    obtain ⟨T, e⟩ := ht c b hl
    exact ⟨p, cl c, cv, cw, b, rfl, hcv, hx, T, e, post_ok hp1 R1 (by simp [Rep])⟩
end
@[simp] theorem ap_isX (tab : List (Nat × Bool)) (m : ME) (ρ : Env) (S : Store) : mIsX tab m ρ S = (m ρ S).bind (isX tab) := rfl
theorem isX_exn (tab : List (Nat × Bool)) (c : Nat) (fs : List D) (S : Store) {b : Bool} (h : tab.lookup c = some b) : isX tab (.exn c fs) S = .ok (.bl b) S := by
  unfold isX
  simp only [h]
@[simp] theorem isNon_exn (c : Nat) (fs : List D) : isNon (.exn c fs) = false := (Eq.refl _).trans rfl
@[simp] theorem pureD_exn (c : Nat) (fs : List D) : pureD (.exn c fs) = pureL fs := (Eq.refl _).trans rfl
theorem tab_nil {P : Nat → Bool → Prop} : ∀ c b, ([] : List (Nat × Bool)).lookup c = some b → P c b := fun _ _ h => nomatch h
theorem tab_cons {P : Nat → Bool → Prop} {c : Nat} {b : Bool} {r : List (Nat × Bool)} (h : P c b) (k : ∀ c' b', r.lookup c' = some b' → P c' b') : ∀ c' b', ((c, b) :: r).lookup c' = some b' → P c' b' := fun c' b' e => by
  rw [List.lookup_cons] at e
  split at e
  · rename_i q
    have := eq_of_beq q
    subst this
    cases e
    exact h
  · exact k c' b' e
end Q
namespace Q
open PySem L2 PySem.Spec PyProof.Rows
section
variable {X : Cx} {cl : Nat → Addr} {E : XK} {e : Expr} {m : ME} {pos : Pos}
def ipM : TIp := fun x y H Q => ∃ i j, x = .int i ∧ y = .int j ∧ CMul i j ∧ Q (.int (i * j)) H
theorem ip_mulM : PIp X .Mult ipM := by
  intro pins s σ H x y v u Q I r1 r2 h
  obtain ⟨i, j, e1, e2, hc, q⟩ := h
  subst e1; subst e2
  obtain ⟨t, rfl⟩ := r1
  obtain ⟨t', rfl⟩ := r2
  exact imul_int ⟨.int _, H, I.tok _, ⟨_, rfl⟩, q⟩ hc.ok
def mAugM (i : Nat) (m : ME) : MS := fun ρ S => match ρ[i]? with
  | some (some (.int x)) => (m ρ S).bind fun d S1 => match d with
    | .int y => if x.natAbs < 2 ^ 64 then .ok (.nx (ρ.set i (some (.int (x * y))))) S1 else .no
    | _ => .no
  | _ => .no
theorem qs_augM (i : Nat) {x : Str} {px : Pos} (h : QE X cl E e m) (hN : X.N.Nodup) (hi : X.N[i]? = some x := by rfl) (hx : Loc X.env.scope x := by first | exact .inl rfl | exact .inr rfl) (hf : X.fn x = true ∨ X.env.scope.names.lookup x = some .local := by first | exact .inl rfl | exact .inr rfl) :
    QS X cl E (.AugAssign (.Name x px) .Mult e pos) (mAugM i m) := by
  obtain ⟨t, h1, h2⟩ := h.ex
  refine ⟨_, ps_aug hN hi hx h1 ip_mulM hf, fun ρ S σ α G H Dn hρ hR hp => ?_⟩
  unfold mAugM at hp
  split at hp
  · rename_i z q
    obtain ⟨v, hv, rv⟩ := hρ.2 i _ q
    simp only [Rep] at rv
    subst rv
    refine ⟨_, hv, h2 ρ S σ α G H _ hρ hR (posts_bind hp fun d S1 α1 G1 H1 w q1 e1 R1 r1 hp1 => ?_)⟩
    clear q1
    cases d <;> try exact hp1.elim
    rename_i y
    dsimp only at hp1
    split at hp1
    case isFalse => exact hp1.elim
    rename_i hb
    simp only [Rep] at r1
    exact ⟨z, y, rfl, r1, .inl (by omega), hp1 α1 G1 H1 _ (Ext.refl _ _ _) R1 ((hρ.mono e1).set i (by simp [Rep]))⟩
  · exact hp.elim
end
def opRepC : D → D → Store → Res D := fun a b S => match lstOf S a, b with
  | some xs, .int k => if (-100000 ≤ k ∧ k ≤ 100000) ∧ xs.length * k.toNat ≤ 100000 then .ok (.ref S.length) (S ++ [.lst (List.replicate k.toNat xs).flatten]) else .no
  | _, _ => .no
theorem repC {X : Cx} {cl : Nat → Addr} {E : XK} : QR X cl E (binaryOp .Mult) opRepC := by
  refine ⟨_, op_rep, fun a b S α G H x y Q hR ra rb h => ?_⟩
  unfold opRepC at h
  cases h1 : lstOf S a with
  | none => simp [h1, Post] at h
  | some xs =>
    cases b <;> simp only [h1] at h <;> try exact h.elim
    rename_i k
    split at h
    · rename_i hs
      obtain ⟨p, vs, rfl, q1, r1⟩ := lstOf_at hR ra h1
      simp only [Rep] at rb
      refine ⟨p, k, vs, rfl, rb, q1, ?_, ?_, by rw [← r1.length]; exact sz hs.2, fun z hz => post_cell hR (r1.flat _) h hz⟩
      · have : (100000 : Int) < 2 ^ 63 := by decide
        omega
      · have : (100000 : Int) < 2 ^ 63 := by decide
        omega
    · exact h.elim
section
variable {ρ : Env} {S : Store}
theorem repC_one (x : D) {n : Nat} (h : n ≤ 100000) : opRepC (.lst [x]) (.int (n : Nat)) S = .ok (.ref S.length) (S ++ [.lst (List.replicate n x)]) := by
  have e : (List.replicate n [x]).flatten = List.replicate n x := by
    induction n with
    | zero => rfl
    | succ n ih => rw [List.replicate_succ, List.flatten_cons, ih (by omega), List.replicate_succ]; rfl
  show (if (-100000 ≤ ((n : Nat) : Int) ∧ ((n : Nat) : Int) ≤ 100000) ∧ [x].length * ((n : Nat) : Int).toNat ≤ 100000 then Res.ok (D.ref S.length) (S ++ [Cell.lst (List.replicate ((n : Nat) : Int).toNat [x]).flatten]) else .no) = _
  rw [if_pos ⟨by omega, by simp; omega⟩, Int.toNat_natCast, e]
def augMK (i : Nat) (ρ : Env) (x : Int) (d : D) (S : Store) : Res Fl := match d with
  | .int y => if x.natAbs < 2 ^ 64 then .ok (.nx (ρ.set i (some (.int (x * y))))) S else .no
  | _ => .no
@[simp] theorem augMK_int (i : Nat) (x y : Int) (h : x.natAbs < 2 ^ 64) : augMK i ρ x (.int y) S = .ok (.nx (ρ.set i (some (.int (x * y))))) S := by
  show (if x.natAbs < 2 ^ 64 then _ else _) = _
  rw [if_pos h]
theorem ap_augM {i : Nat} {m : ME} {x : Int} (h : ρ[i]? = some (some (.int x))) : mAugM i m ρ S = (m ρ S).bind (augMK i ρ x) := by
  unfold mAugM
  rw [h]
  rfl
end
end Q
namespace L2
open PySem PySem.Spec PyProof.Rows
section
variable {P : Program} {w : World} {A : Around} {E : Value → Shared → Prop} {s : Shared}
abbrev walkerT (l : Addr) : Obj := { cls := .type "tuple_iterator", data := .fields #[.ref l, .int 0 0] }
def FilledT (P : Program) (w : World) (s : Shared) (ks : List (Addr × List Int)) (s' : Shared) : Prop := ∃ h' tk L es ep t, s' = { s with heap := h', toks := tk } ∧ SetTR P w h' s.heap.objs.size L es ep t ∧ Got ks ks.length L ∧ ∀ b o, s.heap.get? b = some o → h'.get? b = some o
theorem fill_tups {l : Addr} {xs : Array Value} {ks : List (Addr × List Int)} (hh : A.handled = none) (hu : A.units + 4 < cLine) (hl : s.heap.IsTuple l xs) (hi : xs.toList = ks.map fun p => Value.ref p.1) (hk : ∀ p ∈ ks, IsT P w s.heap p.2 p.1) (hb : ks.length < 64) :
    codeAny (model P w) A (.call (.builtin "set.__init__") ⟨[.ref s.heap.objs.size, .ref l], []⟩) (wants (fun r s₂ => r = .none ∧ FilledT P w s ks s₂) E) { s with heap := s.heap.push (bare w) } := by
  have len : xs.size = ks.length := by
    have q := congrArg List.length hi
    simpa using q
  obtain ⟨o, ho, hc, k, hd⟩ := hl
  obtain ⟨oc, odi, oda, osl⟩ := o
  simp only at hc hd
  subst hc hd
  have lt0 : l < s.heap.objs.size := Heap.lt_size ho
  have sz : (s.heap.push (bare w)).objs.size = s.heap.objs.size + 1 := Heap.size_push ..
  have at_ : (s.heap.push (bare w)).get? l = some { cls := .type "tuple", dict := odi, data := .seq xs k, slots := osl } := Heap.get?_push_of_some _ ho
  have isl : (s.heap.push (bare w)).IsTuple l xs := ⟨_, at_, rfl, k, rfl⟩
  have ty : Shared.TypeIs { s with heap := s.heap.push (bare w) } (.ref s.heap.objs.size) "set" := ⟨_, Heap.get?_push_size _ rfl, rfl⟩
  refine codeAny_call_builtin F.called_set.init.plain F.entry_set_init (check_set_init_1 ty ?_)
  have f1 := F.sub_tuple_set
  have f2 := F.sub_tuple_frozenset
  have f3 : (Value.type "tuple" == Value.type "dict") = false := by decide
  unfold Builtin.«set.__init__» noKeywords Builtin.Frozenset.updateFrom
  generalize hit : pyIter = it
  wp_walk
  subst hit
  refine wpAny_pyIter_tuple isl (wpAny_bind (wpAny_runValue ?_))
  have away : l ≠ (s.heap.push (bare w)).objs.size := by rw [sz]; exact Nat.ne_of_lt (Nat.lt_succ_of_lt lt0)
  have away2 : s.heap.objs.size ∉ [(s.heap.push (bare w)).objs.size, l] := by simp [sz]; exact Nat.ne_of_gt lt0
  have val : ∀ (i : Nat) (v : Value), xs[i]? = some v → ∃ p, ks[i]? = some p ∧ v = .ref p.1 := fun i v hv => by
    have q : xs.toList[i]? = some v := by rw [Array.getElem?_toList]; exact hv
    rw [hi, List.getElem?_map] at q
    obtain ⟨p, hp, e⟩ := Option.map_eq_some_iff.mp q
    exact ⟨p, hp, e.symm⟩
  have free : ∀ b, s.heap.objs.size ≤ b → s.heap.get? b = none := fun b hb => by
    cases q : s.heap.get? b with
    | none => rfl
    | some o => exact absurd (Heap.lt_size q) (Nat.not_lt.mpr hb)
  have g0 : ((s.heap.push (bare w)).push (walkerT l)).get? s.heap.objs.size = some (bare w) := Heap.get?_push_of_some _ (Heap.get?_push_size _ rfl)
  refine set_update_tups ((Walks.tuple (by simp [hh]) _ l away xs).toS) s.heap.objs.size away2 ks len hb val s.heap hk (free _ (Nat.le_refl _)) (fun b hb => free b (by rw [List.mem_singleton.mp hb, sz]; exact Nat.le_succ _)) (by simp; omega)
    (xs.size - 0) 0 _ (by omega) (Nat.zero_le _) ⟨⟨_, Heap.get?_push_size _ rfl, rfl, rfl⟩, isl.push _⟩ (fun b o e => Heap.get?_push_of_some _ (Heap.get?_push_of_some _ e)) ⟨[], #[], 0, _, setTR_fresh g0, Got.zero ks⟩ fun s' L es ep t hm hs hg keep => ?_
  obtain ⟨h', g', d', tk', os'⟩ := s'
  obtain rfl : g' = s.gens := hm.gens
  obtain rfl : d' = s.drawn := hm.drawn
  obtain rfl : os' = s.os := hm.os
  show wpAny _ _ _ _ _ _
  refine wpAny_pure ?_
  show wpAny _ _ (ret Value.none) _ _ _
  rw [len] at hg
  exact wpAny_pure ⟨rfl, h', tk', L, es, ep, t, rfl, hs, hg, keep⟩
theorem set_ofTT {l : Addr} {xs : Array Value} {ks : List (Addr × List Int)} {Q : Value → Shared → Prop} (hh : A.handled = none) (hu : A.units + 64 < cLine) (hl : s.heap.IsTuple l xs) (hi : xs.toList = ks.map fun p => Value.ref p.1) (hk : ∀ p ∈ ks, IsT P w s.heap p.2 p.1) (hb : ks.length < 64) (q : ∀ s', FilledT P w s ks s' → Q (.ref s.heap.objs.size) s') :
    wpAny (model P w) A (call (.type "set") [.ref l]) Q E s := by
  obtain ⟨c, tl, mro⟩ := F.called_set.mro
  have m1 := F.called_set.made
  have m2 := F.called_set.sub
  have m3 := F.called_set.notType
  have m4 := F.called_set.canCreate
  have m5 := F.typeCall_set_1 (.ref l)
  refine wpAny_call (codeAny_of_tree ?_)
  show wpAny _ _ (callAny (.type "set") _) _ _ _
  refine wpAny_pure ⟨Code.quiet_builtin _ (by decide +kernel), codeAny_builtin F.entry_type_call ?_⟩
  rw [Around.under_plain (weight_type_call_type "set" [.ref l] []) rfl]
  repeat (any_goals (first | assumption | wp_step))
  refine codeAny_mono (code_set_led1 (.ref l) (E := E) (Q₁ := fun o t => o = .ref s.heap.objs.size ∧ t = { s with heap := s.heap.push (bare w) }) ⟨rfl, rfl⟩) fun r t hr => ?_
  cases r with
  | error e => exact hr
  | ok fl =>
    cases fl with
    | ret obj =>
      obtain ⟨rfl, rfl⟩ := hr
      have i1 := F.called_set.init.lookup
      have i2 := F.called_set.init.bind (.ref s.heap.objs.size)
      have is : Shared.TypeIs { s with heap := s.heap.push (bare w) } (.ref s.heap.objs.size) "set" := ⟨_, Heap.get?_push_size _ rfl, rfl⟩
      repeat (any_goals (first | assumption | wp_step))
      refine codeAny_mono (fill_tups (P := P) (E := E) (by simp [hh]) (by simp; omega) hl hi hk hb) fun r2 s2 hr2 => ?_
      cases r2 with
      | error e => exact hr2
      | ok fl2 =>
        cases fl2 with
        | ret r =>
          obtain ⟨rfl, hf⟩ := hr2
          repeat (any_goals (first | assumption | wp_step))
          exact q _ hf
        | _ => exact hr2.elim
    | _ => exact hr.elim
end
section
variable {X : Cx}
def rSetOfTT (K : PySem.W.Frag) (P : Program) (w : World) : List V → Hp → VK → Prop := fun xs H Q => ∃ (l : Addr) (ks : List (Addr × List Int)), xs = [V.ref l] ∧ SqT K H l (ks.map fun p => V.ref p.1) ∧ (∀ p ∈ ks, SqT K H p.1 (p.2.map V.int)) ∧ ks.length < 64 ∧
  ∀ a L, H a = none → (∀ p ∈ L, p ∈ ks) → (∀ p ∈ ks, p.2 ∈ L.map (·.2)) → Q (.ref a) (upd H a (SetTO P w a L))
theorem cr_setTT (hc : X.calm = true) (hu : X.A.units + 64 < cLine) : CallR X (.type "set") (rSetOfTT X.K X.prog X.w) := by
  intro pins s σ H vs us Q I r h
  obtain ⟨l, ks, rfl, hl, hk, hb, q⟩ := h
  obtain ⟨its, rv, pl, hz⟩ := I.tuple hl
  rw [Vals.ref1 r]
  refine set_ofTT (P := X.prog) (w := X.w) (ks := ks) (I.ok.hd hc) hu (show s.heap.IsTuple l its.toArray from pl) (by simpa using refs_of_vals rv) (fun p hp => I.isT (hk p hp)) hb fun s' hf => ?_
  obtain ⟨h', tk, L, es, ep, t, rfl, hs, hg, keep⟩ := hf
  exact ⟨.ref _, upd H s.heap.objs.size (SetTO X.prog X.w s.heap.objs.size L), I.laid (t' := tk) keep (Nat.le_refl _) (setTO_new hs.t0), rfl, q _ L (I.hok.fresh (Nat.le_refl _)) (fun p hp => List.mem_of_mem_take (hg.sub p hp)) fun p hp => hg.all p (by rw [List.take_length]; exact hp)⟩
end
end L2
namespace Q
open PySem L2
def ssKT (d : D) (S : Store) : Res D := match d with
  | .tup xs => match pairsOf xs with
    | some ps => if ps.length < 64 then .ok (.lst ((sortU ps).map pairD)) S else .no
    | none => .no
  | _ => .no
def mSortSetT (m : ME) : ME := fun ρ S => (m ρ S).bind ssKT
section
variable {X : Cx} {cl : Nat → Addr} {E : XK} {e : Expr} {m : ME} {pos : Pos}
theorem ss_pairsT {xs : List D} {ps : List (Int × Int)} {v : V} {α1 : List Addr} {G1 H1 : Hp} {S1 : Store} {Q Q2 : VK} (R1 : Rl ⟨X.K, cl⟩ α1 G1 S1 H1) (r1 : Rep ⟨X.K, cl⟩ α1 G1 (.tup xs) v) (q : pairsOf xs = some ps) (hl : ps.length < 64)
    (hp1 : Post ⟨X.K, cl⟩ (Rep ⟨X.K, cl⟩) α1 G1 H1 (.ok (.lst ((sortU ps).map pairD)) S1) Q E) (hQ : ∀ x H2, rSortedT X.K X.prog X.w [x] H2 Q → Q2 x H2) : rSetOfTT X.K X.prog X.w [v] H1 Q2 := by
  unfold Rep at r1
  obtain ⟨l, vs, rfl, s1, t1⟩ := r1
  obtain ⟨ks, rfl, k1, k2, k3⟩ := pairs_at xs ps vs q t1
  have hlen : ks.length = ps.length := by have := congrArg List.length k2; simpa using this
  have two : ∀ p ∈ ks, ∃ i j, p.2 = [i, j] ∧ (i, j) ∈ ps := fun p hp => by
    have : p.2 ∈ ps.map (fun p => [p.1, p.2]) := by rw [← k2]; exact List.mem_map.mpr ⟨p, hp, rfl⟩
    obtain ⟨u, hu, e⟩ := List.mem_map.mp this
    exact ⟨u.1, u.2, e.symm, hu⟩
  refine ⟨l, ks, rfl, R1.sub.sqT (.inl (.inl s1)), fun p hp => .inl (.inl (R1.sub _ _ (k1 p hp))), by rw [hlen]; exact hl, fun a L ha hL hL2 => ?_⟩
  obtain ⟨R2, e2⟩ := R1.new ha (SetTO X.prog X.w a L)
  refine hQ _ _ ?_
  refine ⟨a, L, 2, lim, rfl, upd_same, fun p hp => .inl (.inl (R2.sub _ _ (e2.sub _ _ (k1 p (hL p hp))))), by decide, fun p hp => ?_, fun L' b pm nd hf pw hb => ?_⟩
  · obtain ⟨i, j, e, hm⟩ := two p (hL p hp)
    have b := k3 _ hm
    refine ⟨by rw [e]; rfl, fun z hz => ?_⟩
    rw [e] at hz
    simp at hz
    rcases hz with rfl | rfl
    · exact b.1
    · exact b.2
  · have two' : ∀ p ∈ L', ∃ i j, p.2 = [i, j] ∧ (i, j) ∈ ps := fun p hp => two p (hL p (pm.subset hp))
    have eM : (L'.map fun p => pk p.2) = sortU ps := by
      refine up_uniq _ _ ?_ (sortU_up ps) fun z => ?_
      · rw [List.pairwise_map]
        have nd' : L'.Pairwise fun p q => p.2 ≠ q.2 := by
          have := nd
          unfold List.Nodup at this
          rwa [List.pairwise_map] at this
        refine (pw.and nd').imp_of_mem fun {p q} hp hq hpq => ?_
        obtain ⟨i, j, ep, mp⟩ := two' p hp
        obtain ⟨i', j', eq, mq⟩ := two' q hq
        have b := k3 _ mp
        have b' := k3 _ mq
        have c := hpq.1
        have ne := hpq.2
        rw [ep, eq, code2, code2] at c
        rw [ep, eq] at ne ⊢
        show plt (i, j) (i', j')
        unfold plt
        simp only at b b' ⊢
        unfold lim at *
        by_cases e : i = i'
        · by_cases e3 : j = j'
          · exact absurd (by rw [e, e3]) ne
          · right; omega
        · left; omega
      · rw [mem_sortU]
        constructor
        · intro hz
          obtain ⟨p, hp, rfl⟩ := List.mem_map.mp hz
          obtain ⟨i, j, ep, mp⟩ := two' p hp
          rw [ep]
          exact mp
        · intro hz
          have : [z.1, z.2] ∈ ks.map (·.2) := by rw [k2]; exact List.mem_map.mpr ⟨z, hz, rfl⟩
          obtain ⟨p, hp, e⟩ := List.mem_map.mp this
          obtain ⟨p', hp', e'⟩ := List.mem_map.mp (hL2 p hp)
          exact List.mem_map.mpr ⟨p', pm.mem_iff.mpr hp', by rw [e', e]; rfl⟩
    obtain ⟨R3, e3⟩ := R2.new hb (.lst (L'.map fun q => V.ref q.1))
    refine hp1 _ _ _ _ (e2.trans e3) R3 (rep_lst upd_same ?_)
    rw [← eM]
    exact rep_pairs L' (fun p hp => e3.sub _ _ (e2.sub _ _ (k1 p (hL p (pm.subset hp))))) fun p hp => by
      obtain ⟨i, j, e, _⟩ := two' p hp
      exact ⟨i, j, e⟩
theorem q_sortsetT {k : Nat} {p p1 p2 : Pos} (hr : Room k X.A) (h : QE X cl E e m) (hg : Gl X "sorted") (hm : X.mg "sorted" = none) (hg' : Gl X "set") (hm' : X.mg "set" = none) (hc : X.calm = true := by rfl)
    (he : starEach [e] X.env = (false, eval e X.env) :: starEach [] X.env := by rfl)
    (he2 : starEach [.Call (.Name "set" p1) [e] [] p2] X.env = (false, eval (.Call (.Name "set" p1) [e] [] p2) X.env) :: starEach [] X.env := by rfl)
    (hpl : (backTo p2 (starEach [] X.env)).any (·.1) = false := by rfl) (hpl2 : (backTo pos (starEach [] X.env)).any (·.1) = false := by rfl) :
    QE X cl E (.Call (.Name "sorted" p) [.Call (.Name "set" p1) [e] [] p2] [] pos) (mSortSetT m) := by
  obtain ⟨t, h1, h2⟩ := h.ex
  have c1 := pe_callTy (pos := p2) (p := p1) (cr_setTT hc hr.units) hg' hm' (by rfl) (pa_cons h1 pa_nil he) (by decide) (by decide) he hpl
  refine ⟨_, pe_callB (cr_sortedT hc) hg hm (by rfl) (pa_cons c1 pa_nil he2) (by decide) (by decide) he2 hpl2, fun ρ S σ α G H Q hρ hR hp => ?_⟩
  refine h2 ρ S σ α G H _ hρ hR (post_bind hp fun d S1 α1 G1 H1 v _ e1 R1 r1 hp1 => ?_)
  cases d with
  | tup xs =>
    simp only [ssKT] at hp1
    cases q : pairsOf xs with
    | some ps =>
      rw [q] at hp1
      simp only at hp1
      split at hp1
      · rename_i hl
        exact ss_pairsT R1 r1 q hl hp1 fun x H2 z => z
      · exact hp1.elim
    | none =>
      rw [q] at hp1
      exact hp1.elim
  | _ => exact hp1.elim
end
section
variable {S : Store} {ρ : Env}
@[simp] theorem ap_sortsetT (m : ME) : mSortSetT m ρ S = (m ρ S).bind ssKT := (Eq.refl _).trans rfl
theorem ssKT_pairs {ps : List (Int × Int)} (h : ∀ p ∈ ps, (0 ≤ p.1 ∧ p.1 < lim) ∧ 0 ≤ p.2 ∧ p.2 < lim) (hl : ps.length < 64) : ssKT (.tup (ps.map pairD)) S = .ok (.lst ((sortU ps).map pairD)) S := by
  simp only [ssKT, pairsOf_map ps h, hl, if_true]
end
end Q
namespace L2
open PySem PySem.Spec PyProof.Rows PySem.W
section
variable {X : Cx}
abbrev encV (py : _root_.Q.D → PyData) (b : V × _root_.Q.D) : PyData := py b.2
def rSortedA (K : PySem.W.Frag) (py : _root_.Q.D → PyData) : List V → Hp → VK → Prop := fun vs H Q => ∃ (a : Addr) (bs : List (V × _root_.Q.D)), vs = [V.ref a] ∧ SqL K H a (bs.map (·.1)) ∧ (∀ b ∈ bs, Dp K H b.1 (py b.2)) ∧ AllAlike (bs.map (encV py)) ∧ Sortable (bs.map (encV py)) ∧ (∀ b ∈ bs, (py b.2).depth ≤ 20) ∧
  ∀ p, H p = none → Q (.ref p) (upd H p (.lst ((bs.mergeSort (dataLe false (encV py))).map (·.1))))
theorem each_of {R : Value → (V × _root_.Q.D) → Prop} : ∀ {bs : List (V × _root_.Q.D)} {us : List Value}, Vals (bs.map (·.1)) us → (∀ b ∈ bs, ∀ u, RelV b.1 u → R u b) → EachIs R us bs
  | [], _, h, _ => by cases h; exact .nil
  | b :: bs, _, h, k => by
    cases h with
    | cons r rs => exact .cons (k b (List.mem_cons_self ..) _ r) (each_of rs fun b' hb => k b' (List.mem_cons_of_mem _ hb))
theorem vals_each : ∀ {bs : List (V × _root_.Q.D)} {us : List Value}, EachIs (fun u b => RelV b.1 u) us bs → Vals (bs.map (·.1)) us
  | _, _, .nil => .nil
  | _, _, .cons r rs => .cons r (vals_each rs)
theorem cr_sortedA (hu : X.A.units + 64 < cLine) (py : _root_.Q.D → PyData) : CallR X (.builtin "sorted") (rSortedA X.K py) := by
  intro pins s σ H vs us Q I r h
  obtain ⟨a, bs, rfl, hl, hd, hal, hk, hdp, q⟩ := h
  obtain rfl := Vals.ref1 r
  obtain ⟨its, rv, pl, hz⟩ := I.list hl
  have hz2 : bs.length ≤ sizeLine := by
    have := rv.length
    simpa using hz
  refine sorted_data (R := fun u b => RelV b.1 u) (enc := encV py) (bs := bs) (vs := its) (show s.heap.IsList a its.toArray from pl.isList) (each_of rv fun b hb u ru => ru) (each_of rv fun b hb u ru => Dp.reads I _ _ _ (hd b hb) ru) hal hk hz2 (fun b hb => by have := hdp b hb; show X.A.units + 2 + (py b.2).depth < cLine; omega) fun out ho he => ?_
  have rv2 : Vals ((bs.mergeSort (dataLe false (encV py))).map (·.1)) out := vals_each he
  have hlen : ((bs.mergeSort (dataLe false (encV py))).map (·.1)).length ≤ sizeLine := by rw [List.length_map, List.length_mergeSort]; exact hz2
  obtain ⟨ep, he'⟩ := PyProof.Rows.sortedAll_at s.heap its (List.toArray out)
  exact ⟨.ref _, upd H (s.heap.objs.size + 1) (.lst ((bs.mergeSort (dataLe false (encV py))).map (·.1))), I.laid (t' := s.toks) (fun _ _ => PyProof.Rows.sortedAll_old) (Nat.le_succ _) ⟨hlen, _, ep, rv2, he'⟩, rfl, q _ (I.hok.fresh (Nat.le_succ _))⟩
end
end L2
namespace Q
open PySem L2
def rowQ : D → Bool
  | .tup (_ :: _) => true
  | _ => false
def okA (xs : List D) : Bool := xs.all fun x => rowQ x && shal 18 x && xs.all fun y => PySem.W.alike (toPy x) (toPy y)
def sortA (xs : List D) : List D := xs.mergeSort (PySem.W.dataLe false toPy)
def skA (d : D) (S : Store) : Res D := match rdL S d with
  | some xs => if okA xs = true then .ok (.lst (sortA xs)) S else .no
  | none => .no
def mSortA (m : ME) : ME := fun ρ S => (m ρ S).bind skA
theorem sortA_perm (xs : List D) : (sortA xs).Perm xs := List.mergeSort_perm _ _
theorem mergeSort_snd {V : Type} (le : D → D → Bool) (bs : List (V × D)) : ((bs.mergeSort fun a b => le a.2 b.2).map (·.2)) = (bs.map (·.2)).mergeSort le := List.map_mergeSort (fun _ _ _ _ => rfl)
theorem repL_zip {Γ : Gm} {α : List Addr} {G : Hp} : ∀ {xs : List D} {vs : List V}, RepL Γ α G xs vs → (vs.zip xs).map (·.1) = vs ∧ (vs.zip xs).map (·.2) = xs ∧ ∀ b ∈ vs.zip xs, Rep Γ α G b.2 b.1
  | [], vs, h => by
    unfold RepL at h
    subst h
    exact ⟨rfl, rfl, fun b hb => by cases hb⟩
  | x :: xs, vs, h => by
    unfold RepL at h
    obtain ⟨v, w, rfl, h1, h2⟩ := h
    obtain ⟨e1, e2, h3⟩ := repL_zip h2
    refine ⟨by rw [List.zip_cons_cons, List.map_cons, e1], by rw [List.zip_cons_cons, List.map_cons, e2], fun b hb => ?_⟩
    rw [List.zip_cons_cons] at hb
    rcases List.mem_cons.mp hb with rfl | m
    · exact h1
    · exact h3 b m
theorem repL_pairs {Γ : Gm} {α : List Addr} {G : Hp} : ∀ {bs : List (V × D)}, (∀ b ∈ bs, Rep Γ α G b.2 b.1) → RepL Γ α G (bs.map (·.2)) (bs.map (·.1))
  | [], _ => by simp [RepL]
  | b :: bs, h => by
    rw [List.map_cons, List.map_cons]
    unfold RepL
    exact ⟨_, _, rfl, h b (List.mem_cons_self ..), repL_pairs fun c hc => h c (List.mem_cons_of_mem _ hc)⟩
section
variable {X : Cx} {cl : Nat → Addr} {E : XK} {e : Expr} {m : ME} {pos : Pos}
theorem q_sortA {k : Nat} {p : Pos} (hr : Room k X.A) (h : QE X cl E e m) (hg : Gl X "sorted") (hm : X.mg "sorted" = none)
    (he0 : starEach [e] X.env = (false, eval e X.env) :: starEach [] X.env := by rfl) (hpl : (backTo pos (starEach [] X.env)).any (·.1) = false := by rfl) :
    QE X cl E (.Call (.Name "sorted" p) [e] [] pos) (mSortA m) := by
  obtain ⟨t, h1, h2⟩ := h.ex
  refine ⟨_, pe_callB (cr_sortedA hr.units toPy) hg hm rfl (pa_cons h1 pa_nil he0) (by decide) (by decide) he0 hpl, fun ρ S σ α G H Q hρ hR hp => ?_⟩
  refine h2 ρ S σ α G H _ hρ hR (post_bind hp fun d S1 α1 G1 H1 v _ e1 R1 r1 hp1 => ?_)
  unfold skA at hp1
  cases hx : rdL S1 d with
  | none => rw [hx] at hp1; exact hp1.elim
  | some xs =>
    rw [hx] at hp1
    simp only at hp1
    split at hp1
    case isFalse => exact hp1.elim
    rename_i hok
    obtain ⟨a, vs, rfl, hs, rL⟩ := rdL_at R1 r1 hx
    obtain ⟨z1, z2, z3⟩ := repL_zip rL
    have hok' := List.all_eq_true.mp hok
    have mem : ∀ b ∈ vs.zip xs, b.2 ∈ xs := fun b hb => by rw [← z2]; exact List.mem_map.mpr ⟨b, hb, rfl⟩
    have ok1 : ∀ x ∈ xs, rowQ x = true ∧ shal 18 x = true ∧ ∀ y ∈ xs, PySem.W.alike (toPy x) (toPy y) = true := fun x hx => by
      have := hok' x hx
      simp only [Bool.and_eq_true] at this
      exact ⟨this.1.1, this.1.2, List.all_eq_true.mp this.2⟩
    refine ⟨a, vs.zip xs, rfl, by rw [z1]; exact hs, fun b hb => rep_dp R1.sub 18 b.2 b.1 (ok1 _ (mem b hb)).2.1 (z3 b hb), ?_, ?_, fun b hb => by have := (shal_lay 18 b.2 (ok1 _ (mem b hb)).2.1).2; omega, fun q hq => ?_⟩
    · intro x hx y hy
      obtain ⟨b, hb, rfl⟩ := List.mem_map.mp hx
      obtain ⟨c, hc, rfl⟩ := List.mem_map.mp hy
      exact (ok1 _ (mem b hb)).2.2 _ (mem c hc)
    · refine .inl fun x hx => ?_
      obtain ⟨b, hb, rfl⟩ := List.mem_map.mp hx
      have := (ok1 _ (mem b hb)).1
      show ∃ y r, toPy b.2 = .tuple (y :: r)
      generalize b.2 = d at *
      cases d with
      | tup ys =>
        cases ys with
        | nil => cases this
        | cons y r => exact ⟨_, _, rfl⟩
      | _ => cases this
    · have es : ((vs.zip xs).mergeSort (PySem.W.dataLe false (encV toPy))).map (·.2) = sortA xs := by
        have := mergeSort_snd (PySem.W.dataLe false toPy) (vs.zip xs)
        rw [z2] at this
        exact this
      refine post_lst R1 ?_ hp1 hq
      rw [← es]
      exact repL_pairs fun b hb => z3 b ((List.mergeSort_perm _ _).mem_iff.mp hb)
end
section
variable {S : Store} {ρ : Env}
@[simp] theorem ap_sortA (m : ME) : mSortA m ρ S = (m ρ S).bind skA := (Eq.refl _).trans rfl
theorem skA_ok {d : D} {xs : List D} (h : rdL S d = some xs) (hk : okA xs = true) : skA d S = .ok (.lst (sortA xs)) S := by
  unfold skA
  simp only [h, hk, if_true]
end
end Q
namespace L2
open PySem PySem.Spec PyProof.Rows PySem.W
end L2
namespace Q
open PySem L2
end Q
namespace Q
open PySem L2
section
open PySem.W PySem.Calls PyProof.Rows
variable {prog : Program} {w : World} {A : Around} {E : Value → Shared → Prop} {s : Shared} {K : Frag} {x C L f g : Addr} {h₀ : Heap} {m : Str → Option Value} {ox : Obj} {od : Option Obj} {i : Int} {t : Tok}
structure MulC (K : Frag) (C f g : Addr) : Prop where
  self : selfFirst K C = true
  mul : findIn K (.ref C) (dunder "mul") = some (some (.ref f))
  rmul : findIn K (.ref C) (dunderR "mul") = some (some (.ref g))
  fnf : isFn K (.ref f) = true
  fng : isFn K (.ref g) = true
  noint : subIn K (.ref C) (.type "int") = some false
end
section
variable {X : Cx} {C f g : Addr} {n : Nat} {sp : Sp} {E : XK} {CX : CXT}
open PyProof.Rows
structure MulI (K : PySem.W.Frag) (C : Addr) : Prop where
  fo : ∃ fo, PySem.W.findIn K (.type "int") (dunder "mul") = some fo
  ro : ∃ ro, PySem.W.findIn K (.type "int") (dunderR "mul") = some ro
  sub : PySem.W.subIn K (.type "int") (.ref C) = some false
structure AddC (K : PySem.W.Frag) (C f : Addr) : Prop where
  self : PySem.W.selfFirst K C = true
  add : PySem.W.findIn K (.ref C) (dunder "add") = some (some (.ref f))
  fnf : PySem.W.isFn K (.ref f) = true
end
section
open PySem.Spec PyProof.Rows
variable {X : Cx} {CX : CXT} {g : Addr} {C : Addr} {n : Nat} {sp : Sp} {E : XK}
structure InC (K : PySem.W.Frag) (C g : Addr) : Prop where
  at_ : PySem.W.findIn K (.ref C) "__contains__" = some (some (.ref g))
  fn : PySem.W.isFn K (.ref g) = true
end
end Q
namespace L2
open PySem PySem.Spec PyProof.Rows
end L2
namespace Q
open PySem L2
end Q
namespace Q
open PySem L2 PySem.Spec PyProof.Rows
structure FnG (P : Program) (w : World) (K : PySem.W.Frag) (mg : Str → Option Value) (base : Heap) (CX : CXT) (k : Nat) (f : Addr) (fd : FuncData) (ps : List Str) (sp : Sp) : Prop where
  size : ∀ vs H W E, sp vs H W E → vs.length = ps.length
  runs : ∀ (A : Around) (fs : List PySem.Env) (s : Shared) (H : Hp) (ar : Args) (us : List Value) (vs : List V) (W : VK) (E : XK), A.guards = some [] → Room k A → Env0 P w K mg base A fs s H → BindsTo s fd ar (ps.zip us) → Vals vs us → sp vs H W E →
    codeAny (model P w) A (.call (.ref f) ar) (CR CX fs P w H s W E) s
section
variable {P : Program} {w : World} {K : PySem.W.Frag} {mg : Str → Option Value} {base : Heap} {CX : CXT}
theorem FnG.of {k : Nat} {f : Addr} {fd : FuncData} {ps : List Str} {sp : Sp} (F : FnOk P w K mg base CX k f fd ps sp) : FnG P w K mg base CX k f fd ps sp :=
  ⟨F.len, fun A fs s H ar us vs W E _ r e b v h => F.run A fs s H ar us vs W E r e b v h⟩
theorem FnG.imp {k : Nat} {f : Addr} {fd : FuncData} {ps : List Str} {sp sp' : Sp} (F : FnG P w K mg base CX k f fd ps sp) (h : ∀ vs H W E, sp' vs H W E → sp vs H W E) : FnG P w K mg base CX k f fd ps sp' :=
  ⟨fun vs H W E q => F.size vs H W E (h _ _ _ _ q), fun A fs s H ar us vs W E g r e b v q => F.runs A fs s H ar us vs W E g r e b v (h _ _ _ _ q)⟩
end
mutual
def rpC : D → Nat
  | .non => 0
  | .bl _ => 0
  | .int i => if i.natAbs < 10 ^ 200 then 0 else 1000000000
  | .str s => s.cps.size
  | .tup xs => rpCL xs
  | .lst xs => rpCL xs
  | _ => 1000000000
def rpCL : List D → Nat
  | [] => 0
  | x :: xs => rpC x + 1 + rpCL xs
end
mutual
theorem rpC_bulk : ∀ (d : D), rpC d ≤ 65536 → (toPy d).bulk ≤ rpC d ∧ (toPy d).intsShort 201 = true ∧ (toPy d).showable = true
  | .non, _ => ⟨Nat.zero_le _, rfl, rfl⟩
  | .bl _, _ => ⟨Nat.zero_le _, rfl, rfl⟩
  | .int i, h => by
    unfold rpC at h
    split at h
    · rename_i c
      refine ⟨Nat.zero_le _, ?_, ?_⟩
      · unfold toPy PyData.intsShort
        refine decide_eq_true ?_
        show (Str.ofString (toString i)).length ≤ 201
        rw [PySem.ofString_length]
        exact int_text_length_le10 (k := 200) (by decide) c
      · unfold toPy PyData.showable
        refine decide_eq_true ?_
        by_cases z : i.natAbs = 0
        · rw [z]; decide
        · exact (Nat.log2_lt z).mpr (Nat.lt_trans c (by decide +kernel))
    · omega
  | .str s, _ => ⟨Nat.le_refl _, rfl, rfl⟩
  | .tup xs, h => by
    unfold rpC at h ⊢
    obtain ⟨a, b, c⟩ := rpCL_bulk xs h
    exact ⟨by unfold toPy PyData.bulk; exact a, by unfold toPy PyData.intsShort; exact b, by unfold toPy PyData.showable; exact c⟩
  | .lst xs, h => by
    unfold rpC at h ⊢
    obtain ⟨a, b, c⟩ := rpCL_bulk xs h
    exact ⟨by unfold toPy PyData.bulk; exact a, by unfold toPy PyData.intsShort; exact b, by unfold toPy PyData.showable; exact c⟩
  | .fro _, h => by unfold rpC at h; omega
  | .obj _ _, h => by unfold rpC at h; omega
  | .exn _ _, h => by unfold rpC at h; omega
  | .ref _, h => by unfold rpC at h; omega
theorem rpCL_bulk : ∀ (xs : List D), rpCL xs ≤ 65536 → PyData.bulkAll (toPyL xs) ≤ rpCL xs ∧ PyData.intsShortAll 201 (toPyL xs) = true ∧ PyData.showableAll (toPyL xs) = true
  | [], _ => ⟨Nat.zero_le _, rfl, rfl⟩
  | x :: xs, h => by
    unfold rpCL at h ⊢
    obtain ⟨a, b, c⟩ := rpC_bulk x (by omega)
    obtain ⟨a', b', c'⟩ := rpCL_bulk xs (by omega)
    refine ⟨?_, ?_, ?_⟩
    · unfold toPyL PyData.bulkAll; omega
    · unfold toPyL PyData.intsShortAll; rw [b, b']; rfl
    · unfold toPyL PyData.showableAll; rw [c, c']; rfl
end
end Q
namespace L2
open PySem PySem.Spec PyProof.Rows PySem.W
end L2
namespace Q
open PySem L2
end Q
namespace Q
open PySem L2
end Q
namespace Q
open PySem L2
end Q
namespace Q
open PySem L2
end Q
namespace Q
open PySem L2 PySem.Spec PyProof.Rows
def Cst.d : Cst → D
  | .bl b => .bl b
  | .int i => .int i
def Cst.v : Cst → V
  | .bl b => .bl b
  | .int i => .int i
theorem Cst.rep {Γ : Gm} {α : List Addr} {G : Hp} (c : Cst) : Rep Γ α G c.d c.v := by cases c <;> simp [Cst.d, Cst.v, Rep]
structure KwD (K : PySem.W.Frag) (f : Addr) (x : Str) (c : Cst) : Prop where
  ex : ∃ (oc : Value) (od : Option Addr) (fd : FuncData) (osl : Array (Option Value)) (E : Addr) (u : Value), K.lookup f = some ⟨oc, od, .func fd, osl⟩ ∧ fd.kwdefaults = .ref E ∧ PySem.W.nsIn K E x = some (some u) ∧ c.is u = true
end Q
namespace L2
open PySem PySem.Spec PyProof.Rows
end L2
namespace Q
open PySem L2
section
variable {Γ : Gm} {α : List Addr} {G H : Hp} {S : Store} {E : XK}
theorem Rl.see {a : Addr} {vs : List V} (R : Rl Γ α G S H) (h : H a = some (.tup vs)) : Sub G (upd G a (.tup vs)) ∧ Rl Γ α (upd G a (.tup vs)) S H := by
  have sb : Sub G (upd G a (.tup vs)) := fun b o hb => by
    by_cases e : b = a
    · subst e
      rw [upd_same]
      have := R.sub b o hb
      rw [h] at this
      exact this
    · rw [upd_ne e]; exact hb
  refine ⟨sb, ⟨fun b o hb => ?_, R.len, R.nd, R.tr, fun k c b hc hb => ?_⟩⟩
  · by_cases e : b = a
    · subst e
      rw [upd_same] at hb
      rw [h]; exact hb
    · rw [upd_ne e] at hb; exact R.sub b o hb
  · refine (R.ok k c b hc hb).mono ⟨[], by simp⟩ sb fun _ => ⟨rfl, fun hn => ?_⟩
    have ne : b ≠ a := fun e => by
      subst e
      exact R.ntup (List.mem_of_getElem? hb) vs h
    rw [upd_ne ne]; exact hn
end
end Q
namespace Q
open PySem L2 PySem.Spec PyProof.Rows
end Q
namespace Q
open PySem L2
end Q
set_option maxHeartbeats 1000000
namespace Q
namespace ZG
open PySem PySem.Sem
section
variable {prog : Program} {w : World} {A : Around}
structure Source (prog : Program) (w : World) (A : Around) (i l : Addr) (xs : Array Value) (P : Nat → Heap → Prop) : Prop where
  keep : ∀ {k h h'}, P k h → (∀ o, h.get? i = some o → h'.get? i = some o) → (∀ o, h.get? l = some o → h'.get? l = some o) → P k h'
  item : ∀ {k} {s : Shared} {x E Q}, P k s.heap → xs[k]? = some x → (∀ h', P (k + 1) h' → Heap.SameBut i s.heap h' → Q x { s with heap := h' }) → wpAny (model prog w) A (Builtin.SmallTypes.nextOf (.ref i)) Q E s
  done : ∀ {k} {s : Shared} {E Q}, P k s.heap → xs[k]? = none → (∀ h' e, Heap.ExtBut i s.heap h' → (∃ o, h'.get? e = some o ∧ o.cls = .type "StopIteration") → E (.ref e) { s with heap := h' }) → wpAny (model prog w) A (Builtin.SmallTypes.nextOf (.ref i)) Q E s
  lt : ∀ {k h}, P k h → i < h.objs.size
variable {z ti own p q u v : Addr} {k m : Nat} {xs ys : Array Value} {P₁ P₂ : Nat → Heap → Prop} {s : Shared} {E : Value → Shared → Prop}
end
end ZG
open PySem PySem.Spec PyProof.Rows L2 ZG
end Q
set_option maxHeartbeats 1000000
namespace Q
namespace ZG
open PySem PySem.Sem
end ZG
open PySem PySem.Spec PyProof.Rows L2 ZG
end Q
set_option maxHeartbeats 1000000
namespace L2
open PySem PySem.Spec PyProof.Rows
end L2
namespace Q
open PySem PySem.Spec PyProof.Rows L2
end Q
namespace Q
open PySem L2
end Q
namespace Q
open PySem L2
end Q
namespace Q
open PySem L2
end Q
namespace L2
open PySem PySem.Spec PyProof.Rows
end L2
namespace Q
open PySem L2
end Q
namespace Q
open PySem L2
end Q
namespace L2
open PySem PySem.Spec PyProof.Rows PySem.W
end L2
namespace Q
open PySem L2
end Q
namespace Q
open PySem L2
end Q
namespace Q
open PySem L2
end Q
namespace L2
open PySem PySem.Spec PyProof.Rows PySem.W
end L2
namespace Q
open PySem L2
end Q
namespace Q
open PySem PySem.HandSPX
section
variable {prog : Program} {w : World} {A : Around} {E : Value → Shared → Prop} {R : Result → Shared → Prop} {h : Heap} {g : Array GenState} {d : Drawn} {t : Nat} {os : OsState}
variable {nm q : Str} {C N : Addr} {bs bm bmB : List Value} {hdct : Bool} {sn : List Str} {sub : List Value} {ab : Bool} {col : Option Bool} {dd : Option Addr} {k0 k1 k2 k3 k5 : Option Value} {B newId initId : String}
abbrev kwHeap (h : Heap) (C : Addr) (rest : List Value) : Heap := (h.push (PySem.W.kdv_tup rest)).push (excO C h.objs.size)
theorem chk_new_kw (F : ExcBaseFacts B newId initId bmB) (hT : ∀ X : String, bm.contains (.type X) = bmB.contains (.type X)) {rest : List Value} {kw : List (Str × Value)} {Q : Unit → Shared → Prop}
    (hC : h.get? C = some (excClassObj nm q C N bs bm hdct sn sub ab col dd k0 k1 k2 k3 k5 newId)) (z : Q () ⟨h, g, d, t, os⟩) : wpAny (model prog w) A (checkBuiltinCall newId ⟨.ref C :: rest, kw⟩) Q E ⟨h, g, d, t, os⟩ := by
  have c1 : (Value.ref C :: bm).contains (.type B) = true := by rw [List.contains_cons, hT, F.hasB, Bool.or_true]
  have c2 := F.noStar
  simp only [checkBuiltinCall, F.newKind, F.newSplit, F.newRow]
  repeat (first
    | refine wpAny_loadPart_at hC ?_
    | (refine wpAny_isSubtype_exc hC ?_; rw [c1])
    | refine wpAny_staticBase_exc hC ?_
    | refine wpAny_madeBy_exc hC ?_
    | simp only [bne_self_eq_false, Bool.false_eq_true, if_false]
    | wp_step)
  exact z
theorem new_kw (F : ExcBaseFacts B newId initId bmB) (hT : ∀ X : String, bm.contains (.type X) = bmB.contains (.type X)) {rest : List Value} {kw : List (Str × Value)}
    (hC : h.get? C = some (excClassObj nm q C N bs bm hdct sn sub ab col dd k0 k1 k2 k3 k5 newId)) (z : R (.ok (.ret (.ref (h.objs.size + 1)))) ⟨kwHeap h C rest, g, d, t, os⟩) (hrest : rest.length ≤ sizeLine) :
    codeAny (model prog w) A (.builtin newId ⟨.ref C :: rest, kw⟩) R ⟨h, g, d, t, os⟩ := by
  have e0 := F.ends
  have e1 : (Value.ref C :: bm).contains (.type B) = true := by rw [List.contains_cons, hT, F.hasB, Bool.or_true]
  have e2 : (Value.ref C :: bm).contains (.type "AttributeError") = false := by rw [List.contains_cons, hT, F.noAttr]; rfl
  have e3 : (Value.ref C :: bm).contains (.type "NameError") = false := by rw [List.contains_cons, hT, F.noName]; rfl
  refine codeAny_builtinAt F.entry ?_
  unfold Builtin.«BaseException.__new__»
  refine wpAt_bind (show PySem.wpAt _ _ _ (stack >>= _) _ _ _ from wpAt_bind (wpAt_stack fun p below => wpAt_of_wpAny ?_))
  wp_walk
  refine wpAt_of_wpAny ?_
  rw [F.owner]
  repeat (first
    | with_reducible refine wpAny_madeHere_exc F.canon hC ?_
    | with_reducible refine wpAny_loadPart_at hC ?_
    | (with_reducible refine wpAny_isSubtype_exc hC ?_; first | rw [e1] | rw [e2] | rw [e3])
    | wp_step)
  show R _ _
  rw [Heap.size_push]
  exact z
theorem tcall_kw (F : ExcBaseFacts B newId initId bmB) (hT : ∀ X : String, bm.contains (.type X) = bmB.contains (.type X)) {rest : List Value} {kw : List (Str × Value)} {fI : Addr} {Q : Fin → Shared → Prop}
    (hC : h.get? C = some (excClassObj nm q C N bs bm hdct sn sub ab col dd k0 k1 k2 k3 k5 newId))
    (hi : PySem.W.Looks (model prog w) h (typeLookup (.ref C) "__init__") (some (.ref fI))) (hb : ∀ self, PySem.W.Looks (model prog w) h (bindSpecial (.ref fI) self) (.ref fI, [self]))
    (z : codeAny (model prog w) A (.call (.ref fI) ⟨.ref (h.objs.size + 1) :: rest, kw⟩)
      (fun r s' => match r with | .ok (.ret v) => v = .none ∧ Q (.done (.ret (.ref (h.objs.size + 1)))) s' | .ok _ => False | .error e => E e s') ⟨kwHeap h C rest, g, d, t, os⟩) (hrest : rest.length ≤ sizeLine) :
    wpAny (model prog w) A (Builtin.«type.__call__» ⟨.ref C :: rest, kw⟩) Q E ⟨h, g, d, t, os⟩ := by
  repeat (first
    | with_reducible refine wpAny_loadPart_at hC ?_
    | with_reducible refine wpAny_madeBy_exc hC ?_
    | wp_step)
  refine codeAny_call_builtin_code (Code.quiet_builtin _ F.quiet) (chk_new_kw F hT hC (new_kw F hT hC ?_ hrest))
  show wpAny _ _ _ _ _ _
  have kk : ∀ b o, h.get? b = some o → (kwHeap h C rest).get? b = some o := fun b o e => Heap.get?_push_of_some _ (Heap.get?_push_of_some _ e)
  have k1 := kk _ _ hC
  have gx : (kwHeap h C rest).get? (h.objs.size + 1) = some (excO C h.objs.size) := by heap_get
  have own : (Value.ref C :: bm).contains (.ref C) = true := by simp
  have i1 := hi.keeps kk
  have b1 := (hb (.ref (h.objs.size + 1))).keeps kk
  unfold isInstance
  repeat (first
    | with_reducible refine wpAny_loadPart_at gx ?_
    | (with_reducible refine wpAny_isSubtype_exc k1 ?_; rw [own])
    | wp_step)
  refine show wpAny _ _ (typeLookup (.ref C) _) _ _ _ from i1.at ?_
  refine wpAny_holding (wpAny_bind (b1.at (wpAny_bind (wpAny_call (codeAny_mono z fun r s' y => ?_)))))
  rcases r with e | (v | _ | _ | _) <;> first
    | exact y
    | exact y.elim
    | skip
  obtain ⟨rfl, y⟩ := y
  first
    | exact wpAny_pure (wpAny_pure y)
    | (wp_walk; done)
    | (wp_walk; exact y)
theorem chk_tc_kw {M : Model} {rest : List Value} {kw : List (Str × Value)} {Q : Unit → Shared → Prop} (hC : h.get? C = some (excClassObj nm q C N bs bm hdct sn sub ab col dd k0 k1 k2 k3 k5 newId))
    (z : Q () ⟨h, g, d, t, os⟩) : wpAny M A (checkBuiltinCall "type.__call__" ⟨.ref C :: rest, kw⟩) Q E ⟨h, g, d, t, os⟩ := by
  have f3 := tc_sub
  have ty : (⟨h, g, d, t, os⟩ : Shared).TypeIs (.ref C) "type" := ⟨_, hC, rfl⟩
  simp only [checkBuiltinCall, tc_kind, tc_split]
  repeat (any_goals (first
    | assumption
    | with_reducible refine wpAny_loadPart_at hC ?_
    | with_reducible refine wpAny_onRaise ?_
    | with_reducible refine wpAny_map ?_
    | wp_step))
theorem call_kw (F : ExcBaseFacts B newId initId bmB) (hT : ∀ X : String, bm.contains (.type X) = bmB.contains (.type X)) {rest : List Value} {kw : List (Str × Value)} {fI : Addr}
    (hC : h.get? C = some (excClassObj nm q C N bs bm hdct sn sub ab col dd k0 k1 k2 k3 k5 newId))
    (hi : PySem.W.Looks (model prog w) h (typeLookup (.ref C) "__init__") (some (.ref fI))) (hb : ∀ self, PySem.W.Looks (model prog w) h (bindSpecial (.ref fI) self) (.ref fI, [self]))
    (z : codeAny (model prog w) (A.under (.builtin "type.__call__" ⟨.ref C :: rest, kw⟩)) (.call (.ref fI) ⟨.ref (h.objs.size + 1) :: rest, kw⟩) (PySem.W.InitBack (h.objs.size + 1) R) ⟨kwHeap h C rest, g, d, t, os⟩) (hrest : rest.length ≤ sizeLine) :
    codeAny (model prog w) A (.call (.ref C) ⟨rest, kw⟩) R ⟨h, g, d, t, os⟩ := by
  have f1 := tc_lookup
  have f2 := tc_bind (.ref C)
  have ty : (⟨h, g, d, t, os⟩ : Shared).TypeIs (.ref C) "type" := ⟨_, hC, rfl⟩
  refine codeAny_of_tree (show wpAny _ _ (callAny (.ref C) _) _ _ _ from ?_)
  repeat (any_goals (first
    | assumption
    | with_reducible refine wpAny_loadPart_at hC ?_
    | wp_step))
  refine ⟨rfl, codeAny_call_builtin_at (Code.quiet_builtin _ (by decide +kernel)) entry_typeCall (chk_tc_kw hC (tcall_kw F hT hC hi hb (codeAny_mono z fun r s' y => ?_) hrest))⟩
  rcases r with e | (v | _ | _ | _) <;> exact y
end
end Q
namespace Q
open PySem L2 PySem.Calls PyProof.Rows PySem.HandSPX
section
variable {prog : Program} {w : World} {A : Around} {R : Result → Shared → Prop} {E : Value → Shared → Prop} {hp : Heap} {g : Array GenState} {d : Drawn} {t : Nat} {os : OsState} {B : String} {bmB : List Value}
open Builtin Builtin.ObjectAttr in
theorem osaG {K : PySem.W.Frag} {name : Str} {tk : Tok} {v : Value} {x C : Addr} {fv : Array Value} (SF : PySem.StoreFacts B bmB "object.__setattr__" "object")
    (X : K.In hp) (hx : hp.get? x = some { cls := .ref C, data := .fields fv }) (hp' : PySem.W.excOver K C bmB = true) (hh : PySem.W.hasDictIn K C = true) (ha : PySem.W.takerIn K C name = some none)
    (hq : ∀ h' tk' dx, (∀ b o, b ≠ x → hp.get? b = some o → h'.get? b = some o) → hp.objs.size ≤ dx → dx ≠ x → h'.get? x = some { cls := .ref C, dict := some dx, data := .fields fv } →
      h'.Ns1 dx (fun y => if y = name then some v else none) → R (.ok (.ret .none)) ⟨h', g, d, tk', os⟩) :
    codeAny (model prog w) A (.call (.builtin "object.__setattr__") ⟨[.ref x, .str name tk, v], []⟩) R ⟨hp, g, d, t, os⟩ := by
  have I : PySem.W.InstAt hp x { cls := .ref C, data := .fields fv } C none := ⟨hx, rfl, rfl, trivial⟩
  have hxs : x ≠ hp.objs.size := Nat.ne_of_lt (Heap.lt_size hx)
  refine PySem.W.osa_openX (s := ⟨hp, g, d, t, os⟩) SF X I hp' ha fun b => ?_
  obtain ⟨cd, hcd, hh⟩ := PySem.W.any_some hh
  have hcls : PySem.W.Looks (model prog w) hp (classData C) cd := PySem.W.looks_clsIn X hcd
  show wpAny _ _ (storeInOwnDict (.ref x) (.ref C) (.str name tk) name v b) _ _ _
  obtain ⟨nm, bs, mro, ns, qn, hd, sn, sb, ab, col, del⟩ := cd
  dsimp only at hh
  subst hh
  unfold storeInOwnDict ownDictForStores
  repeat (first | with_reducible refine PySem.HandSPX.store_in_new ?_ ?_ | with_reducible refine wpAny_loadPart_at hx ?_ | with_reducible refine hcls.at ?_ | wp_step)
  · exact ⟨_, #[], _, (Heap.get?_update_ne _ _ _ _ hxs.symm).trans (Heap.get?_push_at rfl rfl), rfl, fun e he => absurd he (by simp), fun _ => rfl⟩
  · intro h' tk' hn' hs
    have hx₁ : (hp.push { cls := .type "dict", data := .dict #[] }).get? x = some { cls := .ref C, data := .fields fv } := Heap.get?_push_of_some _ hx
    refine hq h' tk' hp.objs.size (fun b o hb ho => ?_) (Nat.le_refl _) hxs.symm ?_ hn'
    · exact (hs.2 b (Nat.ne_of_lt (Heap.lt_size ho))).trans ((Heap.get?_update_ne _ _ _ _ hb).trans (Heap.get?_push_of_some _ ho))
    · exact (hs.2 x hxs).trans (Heap.get?_update_self _ hx₁ rfl)
end
structure SupSrc1 (st : Stmt) (txt par fl : Str) (e2 : Expr) : Prop where
  body : ∃ (j : Nat) (p0 p1 p2 p3 p4 p5 q1 q2 q3 : Pos), defBody st = [.Expr (.Call (.Attribute (.Call (.Name "super" p0) [] [] p1) "__init__" p2) [.Constant (.str txt) j p3] [] p4) p5, .Assign [.Attribute (.Name "self" q1) fl q2] e2 q3] ∧
    (∀ (qual : Str) (L fa cc : Addr) (cd : Value), ∃ pl : Sem Bool, eval (.Call (.Attribute (.Call (.Name "super" p0) [] [] p1) "__init__" p2) [.Constant (.str txt) j p3] [] p4) (PySem.W.ksEnv qual (defScope st) L fa cd cc) = (do
      let ov ← attributeBase (.Call (.Name "super" p0) [] [] p1) "__init__" (PySem.W.ksEnv qual (defScope st) L fa cd cc) (eval (.Call (.Name "super" p0) [] [] p1) (PySem.W.ksEnv qual (defScope st) L fa cd cc))
      standAt p2.atName
      let (fn, first) ← holding [ov] (getMethod ov "__init__" pl)
      callWith p4 fn first (backTo p4 (starEach [.Constant (.str txt) j p3] (PySem.W.ksEnv qual (defScope st) L fa cd cc))) [])) ∧
    ∀ (qual : Str) (L fa cc : Addr) (cd : Value), swapsWith e2 (some (.Attribute (.Name "self" q1) fl q2)) q3.line (PySem.W.ksEnv qual (defScope st) L fa cd cc) = pure false
  arg : ∃ ar ar2 : Arg, (defArgs st).posonlyargs ++ (defArgs st).args = [ar, ar2] ∧ ar.arg = ("self" : Str)
  ne : (("self" : Str) == par) = false
  ns : (defScope st).names.lookup ("super" : Str) = some .globalImplicit
  nc : (defScope st).names.lookup ("__class__" : Str) = some .free
  nl : (defScope st).names.lookup ("self" : Str) = some .local
  np : (defScope st).names.lookup par = some .local
  ki : (defScope st).kind = .function
  it : ∀ (qual : Str) (L fa cc : Addr) (cd : Value), interactive (PySem.W.ksEnv qual (defScope st) L fa cd cc) = false
  co : (defScope st).isCoroutine = false
  ge : (defScope st).isGenerator = false
  ce : ∀ x ∈ (defScope st).names, x.2 ≠ .cell
  bi : ∀ (cc : Addr) (x qual : Str) (kV doc pm : Value) (an : Option Addr) (cdv ct u v : Value), bindArgs (PySem.W.ksFn x qual (defArgs st) (defBody st) (defScope st) .none kV doc pm an cdv ct cc) ⟨[u, v], []⟩ = pure [(("self" : Str), u), (par, v)]
structure ExcS (K : PySem.W.Frag) (C : Addr) (B : String) (bmB : List Value) (fl : Str) : Prop where
  sf : PySem.StoreFacts B bmB "object.__setattr__" "object"
  sa : PySem.W.findIn K (.ref C) "__setattr__" = some (some (.builtin "object.__setattr__"))
  ov : PySem.W.excOver K C bmB = true
  hd : PySem.W.hasDictIn K C = true
  tk : PySem.W.takerIn K C fl = some none
section
variable {P : Program} {w : World} {A : Around} {R : Result → Shared → Prop} {E : Value → Shared → Prop} {K : PySem.W.Frag} {C f x t0 : Addr} {h h0 : Heap} {g : Array GenState} {d : Drawn} {tk : Nat} {os : OsState} {B newId initId : String} {bmB : List Value} {st : Stmt} {txt : Str} {mg : Str → Option Value}
theorem sup_init1 {ar0 : Args} {par fl : Str} {ee : Expr} {uu : Value} {W : Value → Shared → Prop} (S : SupSrc1 st txt par fl ee) (hbi : ∀ (cc : Addr) (y qual : Str) (kV doc pm : Value) (an : Option Addr) (cdv ct : Value), bindArgs (PySem.W.ksFn y qual (defArgs st) (defBody st) (defScope st) .none kV doc pm an cdv ct cc) ar0 = pure [(("self" : Str), Value.ref x), (par, uu)]) (T : ExcU P K C f B newId initId bmB st) (TS : ExcS K C B bmB fl) (hroom : A.depth < recursionLimit) (X0 : K.In h0) (hlim : h.NoLimit) (kk : ∀ b o, h0.get? b = some o → h.get? b = some o) (hle : h0.objs.size ≤ h.objs.size) (GG : h.Ns mainGlobals mg)
    (BB : ∃ mb, h.Ns builtinsNs mb ∧ ∀ y : Str, y ≠ "__name__" → mb y = bootBuiltins y) (hx : h.get? x = some (PySem.W.excObj C t0 none .none)) (hx0 : h0.get? x = none)
    (hE : ∀ (qual : Str) (cd : Value) (cc : Addr) (h4 : Heap) (tk4 : Nat) (t1 : Addr), h.objs.size < h4.objs.size → h4.Ns h.objs.size (fun y => [(("self" : Str), Value.ref x), (par, uu)].reverse.lookup y) → (∀ b o, h0.get? b = some o → h4.get? b = some o) → h4.get? x = some (PySem.W.excObj C t1 none .none) → h0.objs.size ≤ h.objs.size →
      ∀ (Q : Value → Shared → Prop) (E' : Value → Shared → Prop), (∀ v s5, s5.heap.Ns h.objs.size (fun y => [(("self" : Str), Value.ref x), (par, uu)].reverse.lookup y) → (∀ b o, K.lookup b = some o → s5.heap.get? b = some o) → (∃ t1, s5.heap.get? x = some (PySem.W.excObj C t1 none .none)) → W v s5 → Q v s5) →
        wpAny (model P w) (A.deeper (PySem.W.ksEnv qual (defScope st) h.objs.size f cd cc)) (eval ee (PySem.W.ksEnv qual (defScope st) h.objs.size f cd cc)) Q E' ⟨h4, g, d, tk4, os⟩)
    (hq : ∀ v s5 h' tk' dx t1, W v s5 → (∀ b o, b ≠ x → s5.heap.get? b = some o → h'.get? b = some o) → s5.heap.objs.size ≤ dx → dx ≠ x → h'.get? x = some (PySem.W.excObj C t1 (some dx) .none) → h'.Ns1 dx (fun y => if y = fl then some v else none) → R (.ok (.ret .none)) ⟨h', s5.gens, s5.drawn, tk', s5.os⟩) :
    codeAny (model P w) A (.call (.ref f) ar0) R ⟨h, g, d, tk, os⟩ := by
  have X : K.In h := X0.keeps kk
  have hself2 : [(("self" : Str), Value.ref x), (par, uu)].reverse.lookup ("self" : Str) = some (Value.ref x) := by
    have hne : (("self" : Str) == par) = false := S.ne
    simp [List.lookup, hne]
  obtain ⟨j, p0, p1, p2, p3, p4, p5, q1, q2, q3, hb, hev, hsw⟩ := S.body
  obtain ⟨ar, ar2, har, hself⟩ := S.arg
  obtain ⟨oc, od, nm, qual, kV, doc, pm, an, ct, osl, cc, cda, lf, lcode, ⟨ccl, cdd, vs, ccs, file, tf, lcd, lvs, lfile⟩, cl, cld, csl, lcc⟩ := T.fn
  refine ks_codeAny_call_defAt (fd := PySem.W.ksFn nm qual (defArgs st) (defBody st) (defScope st) .none kV doc pm an (.ref cda) ct cc) (body := defBody st) (binds := [(("self" : Str), .ref x), (par, uu)]) hroom (X _ _ lf) rfl hlim (PySem.W.codeRec_of X lcode) rfl (.of_eq (hbi cc nm qual kV doc pm an (.ref cda) ct)) S.ce
    (fun y hy => ?_) (fun h₁ hns hk₁ => ?_) S.co S.ge S.ki
  · rcases List.mem_cons.mp hy with e | e
    · rw [e]; exact S.nl
    · rcases List.mem_cons.mp e with e | e
      · rw [e]; exact S.np
      · cases e
  have env : callEnv (PySem.W.ksFn nm qual (defArgs st) (defBody st) (defScope st) .none kV doc pm an (.ref cda) ct cc) h.objs.size f = PySem.W.ksEnv qual (defScope st) h.objs.size f (.ref cda) cc := rfl
  rw [env]
  have X1 : K.In h₁ := X.keeps hk₁
  have F0 : Fr h0 h.objs.size h₁ (fun y => [(("self" : Str), Value.ref x), (par, uu)].reverse.lookup y) := ⟨hns, fun b o e => hk₁ b o (kk b o e), hle⟩
  have xs : x ≠ h.objs.size := Nat.ne_of_lt (Heap.lt_size hx)
  have N0 : News h0 h.objs.size h₁ [(x, PySem.W.excObj C t0 none .none)] := fun p hp => by
    rcases List.mem_cons.mp hp with e | e
    · subst e; exact ⟨hk₁ _ _ hx, xs, hx0⟩
    · cases e
  rw [hb]
  refine ks_wpAt_execs_cons (ks_wpAt_Expr_any ?_ (S.it _ _ _ _ _))
  obtain ⟨pl, hev⟩ := hev qual h.objs.size f cc (.ref cda)
  refine ks_wpAt_MethodCall ?_ hev
  have hkf : (PySem.W.ksEnv qual (defScope st) h.objs.size f (.ref cda) cc).scope.kind = .function := S.ki
  refine ks_wpAt_super_base S.ns S.nc (by decide) rfl (X1 _ _ lf) rfl (ar := ar) (by show ((defArgs st).posonlyargs ++ (defArgs st).args).head? = some ar; rw [har]; rfl) rfl (X1 _ _ lcd) rfl lvs lfile T.top ?_
  obtain ⟨mb, bn, bb⟩ := BB
  refine PySem.W.ks_loadName_global hkf S.ns (loadGlobal_builtin (show h₁.Ns mainGlobals mg from GG.keeps hk₁) (PySem.W.mg_none_of X GG T.nsu) (show h₁.Ns builtinsNs mb from bn.keeps hk₁) ((bb _ (by decide)).trans (by rfl)) ⟨rfl, ?_⟩)
  refine wpAny_loadName_free hkf S.nc rfl ⟨_, X1 _ _ lcc, rfl⟩ ?_
  rw [hself]
  refine wpAny_loadName_local hkf S.nl hns (by show [(("self" : Str), Value.ref x), (par, uu)].reverse.lookup ("self" : Str) = _; exact hself2) ?_
  obtain ⟨cdC, hcC⟩ := Option.isSome_iff_exists.mp T.cl
  obtain ⟨oD, hD1, hD2⟩ : ∃ oD, h₁.get? C = some oD ∧ oD.data = .cls cdC := by
    have z := hcC
    unfold PySem.W.clsIn at z
    split at z
    · rename_i q
      cases z
      exact ⟨_, X1 _ _ q, rfl⟩
    · cases z
  refine ks_wpAny_isType_cls hD1 hD2 ⟨rfl, ?_⟩
  have hx1 := hk₁ _ _ hx
  refine ks_wpAny_call_super hD1 hD2 hx1 rfl (fun c e => by cases e) (PySem.W.looks_mroIn X1 T.ms) (fun h2 e2 k2 => ?_)
  have X2 : K.In h2 := X1.keeps k2
  have I2 : PySem.W.InstAt h2 x (PySem.W.excObj C t0 none .none) C none := ⟨k2 _ _ hx1, rfl, rfl, trivial⟩
  have hne : x ≠ C := PySem.W.ks_ne X2 I2 hcC
  have hal := T.sup
  unfold PySem.W.ks_superIn at hal
  rw [hcC] at hal
  have hmro : PySem.W.Looks (model P w) h2 (mroOf (.ref C)) cdC.mro := fun A Q E s k q => wpAny_bind ((PySem.W.looks_clsIn X2 hcC) A _ E s k (wpAny_pure q))
  have hBx : PySem.W.Looks (model P w) h2 (isInstance (.ref x) (.type B)) true := I2.type.andThen (PySem.W.looks_subIn X2 T.sb)
  refine PySem.W.kxs_getMethod T.kf e2 (PySem.W.looks_opaque X2 T.any) hmro rfl X2 hal hBx hne (by decide) ?_
  -- the bound __init__ stands at u
  obtain ⟨u, hu⟩ : ∃ u, u = h2.objs.size := ⟨_, rfl⟩
  have k3 : ∀ b o, h2.get? b = some o → (h2.push (PySem.W.kxs_mw initId x)).get? b = some o := fun b o e => Heap.get?_push_of_some _ e
  have gu : (h2.push (PySem.W.kxs_mw initId x)).get? u = some (PySem.W.kxs_mw initId x) := by rw [hu]; exact Heap.get?_push_at rfl rfl
  rw [← hu]
  generalize h2.push (PySem.W.kxs_mw initId x) = h3 at k3 gu
  have kall : ∀ b o, h₁.get? b = some o → h3.get? b = some o := fun b o e => k3 b o (k2 b o e)
  have F3 : Fr h0 h.objs.size h3 (fun y => [(("self" : Str), Value.ref x), (par, uu)].reverse.lookup y) := ⟨hns.keeps kall, fun b o e => kall b o (F0.keep b o e), hle⟩
  have ux : u ≠ x := fun z => by
    rw [z, kall _ _ hx1] at gu
    cases gu
  have below : ∀ {b : Addr} {o : Obj}, h2.get? b = some o → u ≠ b := fun {b o} e z => by
    have l := Heap.lt_size e
    rw [← z, hu] at l
    exact absurd l (Nat.lt_irrefl _)
  have uL : u ≠ h.objs.size := by
    obtain ⟨o, _, _, eo, _⟩ := hns
    exact below (k2 _ _ eo)
  have u0 : h0.get? u = none := by
    cases z : h0.get? u with
    | none => rfl
    | some o => exact absurd rfl (below (k2 _ _ (hk₁ _ _ (kk _ _ z))))
  have N3 : News h0 h.objs.size h3 [(u, PySem.W.kxs_mw initId x), (x, PySem.W.excObj C t0 none .none)] := fun p hp => by
    rcases List.mem_cons.mp hp with e | e
    · subst e; exact ⟨gu, uL, u0⟩
    · rcases List.mem_cons.mp e with e | e
      · subst e; exact ⟨kall _ _ hx1, xs, hx0⟩
      · cases e
  have he : starEach [.Constant (.str txt) j p3] (PySem.W.ksEnv qual (defScope st) h.objs.size f (.ref cda) cc) = (false, eval (.Constant (.str txt) j p3) (PySem.W.ksEnv qual (defScope st) h.objs.size f (.ref cda) cc)) :: starEach [] (PySem.W.ksEnv qual (defScope st) h.objs.size f (.ref cda) cc) := by rfl
  refine PySem.W.kxs_callWith1 N3 (List.mem_cons_self ..) ?_ he (by rfl)
  rw [he]
  show wpAny _ _ (spliced ((false, eval (.Constant (.str txt) j p3) _) :: backTo p4 (starEach [] _))) _ _ _
  refine Calls.spliced_cons ?_
  refine wpAny_Constant_str ?_
  refine Calls.spliced_nil ⟨gu, ?_⟩
  refine PySem.W.kxs_call (rest := [_]) (s := { heap := h3, gens := g, drawn := d, toks := _, os := os }) ⟨F3.ns, F3.keep, F3.above⟩ X0 N3 T.fb T.ci (List.mem_cons_self ..) (.tail ux (.head fun _ z => nomatch z)) (by show 1 ≤ sizeLine; rw [sizeLine_eq]; omega) (fun t1 h4 F4 N4 _ => ?_)
  have hx4 : h4.get? x = some (PySem.W.excObj C t1 none .none) := (N4 (x, _) (by simp)).1
  have hsz : h.objs.size < h4.objs.size := by
    obtain ⟨o, _, _, eo, _⟩ := F4.ns
    exact Heap.lt_size eo
  show PySem.wpAt (model P w) _ _ (execs _ _) _ _ _
  refine ks_wpAt_execs_cons (ks_wpAt_Assign_Attr (wpAt_of_wpAny (hE qual (.ref cda) cc h4 _ t1 hsz F4.ns F4.keep hx4 hle _ _ fun v s5 ns5 k5 hx5 hw => ?_)) (hsw _ _ _ _ _))
  obtain ⟨t5, hx5⟩ := hx5
  refine wpAny_Name ?_
  refine wpAny_loadName_local hkf S.nl ns5 (by show [(("self" : Str), Value.ref x), (par, uu)].reverse.lookup ("self" : Str) = _; exact hself2) ?_
  have X5 : K.In s5.heap := k5
  obtain ⟨hp5, g5, d5, tk5, os5⟩ := s5
  refine PySem.W.set_plain (od := none) X5 ⟨hx5, rfl, rfl, trivial⟩ TS.sa (osaG TS.sf X5 hx5 TS.ov TS.hd TS.tk fun h' tk' dx k' l' n' e' hn' => ?_)
  exact wpAt_of_wpAny (wpAny_execs_nil (hq v _ h' tk' dx t5 hw k' l' n' e' hn'))
end
theorem xd_ok {P : Program} {w : World} {H : Hp} {h : Heap} {dx : Addr} {fl : Str} {v : V} {u : Value} (hn : h.Ns1 dx (fun y => if y = fl then some u else none)) (r : RelV v u) : ObjOk P w H h dx (.xd [(fl, v)]) :=
  ⟨_, hn, relO_put (fs := []) r fun _ => True.intro⟩
theorem relV_one {v : V} {us : List Value} (r : Vals [v] us) : ∃ u, us = [u] ∧ RelV v u := by
  cases r with
  | cons a b => cases b; exact ⟨_, rfl, a⟩
end Q
namespace Q
open PySem L2 PySem.Calls PyProof.Rows
def tMkB (C : Addr) (fl : Str) (sp : Sp) (ta : TA) : L2.St → Hp → XK → Prop := fun σ H Q => ta σ H fun vs H1 => ∃ v, vs = [v] ∧ sp [v] H1 (fun y H2 => ∀ dx, H2 dx = none → Q (.ref C) (some dx) (upd H2 dx (.xd [(fl, y)]))) E0
theorem ns_slots {h h' : Heap} {L : Addr} {m : Str → Option Value} (hn : h.Ns L m) (k : ∀ o, h.get? L = some o → ∃ sl, h'.get? L = some { o with slots := sl }) : h'.Ns L m := by
  obtain ⟨o, es, ep, e, r1, r2, r3⟩ := hn
  obtain ⟨sl, e2⟩ := k o e
  exact ⟨_, es, ep, e2, r1, r2, r3⟩
theorem made_t1 {X : Cx} {C f : Addr} {B newId initId : String} {bmB : List Value} {st : Stmt} {txt par fl gx : Str} {p2 p3 p4 : Pos} {k : Nat} {ft : Addr} {fd : FuncData} {ps : List Str} {sp : Sp} {rest : List Value} {kw : List (Str × Value)} {pins : List (Addr × Obj)} {σ : L2.St} {H1 : Hp} {s1 : Shared} {Q : XK} {u : Value} {v : V}
    (S : SupSrc1 st txt par fl (.Call (.Name gx p2) [.Name par p3] [] p4)) (T : ExcU X.prog X.K C f B newId initId bmB st) (TS : ExcS X.K C B bmB fl) (hr : Room (k + 2) X.A)
    (hbi : ∀ (x0 cc : Addr) (y qual : Str) (kV doc pm : Value) (an : Option Addr) (cdv ct : Value), bindArgs (PySem.W.ksFn y qual (defArgs st) (defBody st) (defScope st) .none kV doc pm an cdv ct cc) ⟨.ref x0 :: rest, kw⟩ = pure [(("self" : Str), Value.ref x0), (par, u)])
    (hz : rest.length ≤ sizeLine) (I1 : Inv X pins σ H1 s1) (ru : RelV v u) (q1 : sp [v] H1 (fun y H2 => ∀ dx, H2 dx = none → Q (.ref C) (some dx) (upd H2 dx (.xd [(fl, y)]))) E0)
    (F1 : FnOk X.prog X.w X.K X.mg X.base CX0 k ft fd ps sp) (hgm : X.mg gx = some (.ref ft)) (hgk : PySem.W.keepIn X.K (.ref ft) = true) (hgn : (defScope st).names.lookup gx = some .globalImplicit) (hb : Binds X.K fd ps [])
    (hse : ∀ (qual : Str) (L fa cc : Addr) (cd : Value), starEach [.Name par p3] (PySem.W.ksEnv qual (defScope st) L fa cd cc) = (false, eval (.Name par p3) (PySem.W.ksEnv qual (defScope st) L fa cd cc)) :: starEach [] (PySem.W.ksEnv qual (defScope st) L fa cd cc))
    (hspl : ∀ (qual : Str) (L fa cc : Addr) (cd : Value), (backTo p4 (starEach [] (PySem.W.ksEnv qual (defScope st) L fa cd cc))).any (·.1) = false)
    (hdp : (par == ("__debug__" : Str)) = false) (hdg : (gx == ("__debug__" : Str)) = false) :
    wpAny (model X.prog X.w) X.A (call (.ref C) rest kw) (MkP X pins σ Q) X.xe s1 := by
  obtain ⟨nm, N', qn, bs, bm, hdct, sn, sub, ab, col, dd, k0, k1, k2, k3, k5, hC, hT⟩ := PySem.W.excInit_of I1.kIn T.ci
  obtain ⟨hp, g, dr, tk, os⟩ := s1
  have kk : ∀ b o, hp.get? b = some o → ((hp.push (PySem.W.kdv_tup rest)).push (HandSPX.excO C hp.objs.size)).get? b = some o := fun b o e => Heap.get?_push_of_some _ (Heap.get?_push_of_some _ e)
  have gxx : ((hp.push (PySem.W.kdv_tup rest)).push (HandSPX.excO C hp.objs.size)).get? (hp.objs.size + 1) = some (HandSPX.excO C hp.objs.size) := by heap_get
  have hzz : ((hp.push (PySem.W.kdv_tup rest)).push (HandSPX.excO C hp.objs.size)).objs.size = hp.objs.size + 2 := by rw [Heap.size_push, Heap.size_push]
  have fresh : hp.get? (hp.objs.size + 1) = none := by
    cases z : hp.get? (hp.objs.size + 1) with
    | none => rfl
    | some o => exact absurd (Nat.lt_of_succ_lt (Heap.lt_size z)) (Nat.lt_irrefl _)
  have lim : hp.NoLimit := I1.ok.mod.nolimit.keeps I1.bk
  have E1 : Env0 X.prog X.w X.K X.mg X.base X.A X.stack ⟨hp, g, dr, tk, os⟩ H1 := I1.env0
  have E2 := E1.make C rest kw
  have nx : H1 (hp.objs.size + 1) = none := I1.hok.fresh (Nat.le_succ _)
  obtain ⟨mb, bn, bb⟩ := I1.ok.mod.blt
  generalize hhp : (hp.push (PySem.W.kdv_tup rest)).push (HandSPX.excO C hp.objs.size) = hq0 at kk gxx hzz
  refine wpAny_call (call_kw T.fb hT hC (PySem.W.looks_findIn I1.kIn T.ini) (fun self => PySem.W.bind_fn I1.kIn self T.ty) ?_ hz)
  rw [show kwHeap hp C rest = hq0 from hhp]
  have frL : ∀ b ∈ frs X.stack, b < hp.objs.size := fun b hb => by
    obtain ⟨_, o, ho, _⟩ := E1.funs.mem hb
    exact Heap.lt_size ho
  refine sup_init1 (h0 := hp) (mg := X.mg) (W := fun v' s5 => ∃ y H2, RelV y v' ∧ AllBare s5.gens ∧ s5.os = os ∧ Un (frs X.stack) [] H1 H2 hp s5.heap ∧ HOk X.prog X.w H2 s5.heap ∧ hp.objs.size ≤ s5.heap.objs.size ∧ H2 (hp.objs.size + 1) = none ∧
      (∀ dx, H2 dx = none → Q (.ref C) (some dx) (upd H2 dx (.xd [(fl, y)])))) S (hbi _) T TS (hr.make C rest kw).depth I1.kIn (lim.keeps kk) kk (by rw [hzz]; omega) ((I1.ok.mod.glob.keeps I1.bk).keeps kk) ⟨mb, (bn.keeps I1.bk).keeps kk, bb⟩ gxx fresh
    (fun qual cd cc h4 tk4 t1 lt4 ns4 k4 hx4 le4 Q' E' hc => ?_) (fun v' s5 h' tk' dx t1 hw k' l' n' e' hn' => ?_)
  · have hkf : (PySem.W.ksEnv qual (defScope st) hq0.objs.size f cd cc).scope.kind = .function := S.ki
    have X4 : X.K.In h4 := I1.kIn.keeps k4
    have G4 : h4.Ns mainGlobals X.mg := (I1.ok.mod.glob.keeps I1.bk).keeps k4
    refine wpAny_Call_Name_kw (wpAny_Name ?_ hdg)
    refine PySem.W.ks_loadName_global hkf hgn (loadGlobal_global G4 hgm ?_)
    refine PySem.W.callWith_K (h₀ := X.base) I1.ok.mod.kin hgk ?_ (hse _ _ _ _ _) (hspl _ _ _ _ _)
    rw [hse]
    show wpAny _ _ (spliced ((false, eval (.Name par p3) _) :: backTo p4 (starEach [] _))) _ _ _
    refine Calls.spliced_cons (wpAny_Name ?_ hdp)
    refine wpAny_loadName_local hkf S.np ns4 (v := u) (by simp [List.lookup]) ?_
    refine Calls.spliced_nil ⟨X4, ?_⟩
    have hLn : H1 hq0.objs.size = none := I1.hok.fresh (by show hp.objs.size ≤ _; omega)
    have bL : X.base.get? hq0.objs.size = none := by
      cases z : X.base.get? hq0.objs.size with
      | none => rfl
      | some o =>
        exact absurd (show (hq0.objs.size : Nat) < hp.objs.size from Heap.lt_size (E1.bs _ _ z).1) (by omega)
    have EE : Env0 X.prog X.w X.K X.mg X.base ((X.A.under (.builtin "type.__call__" ⟨.ref C :: rest, kw⟩)).deeper (PySem.W.ksEnv qual (defScope st) hq0.objs.size f cd cc)) (PySem.W.ksEnv qual (defScope st) hq0.objs.size f cd cc :: X.stack) ⟨h4, g, dr, tk4, os⟩ H1 := by
      refine ⟨Around.frames_deeper E2.frames, E1.mod, fun b o z => ⟨k4 b o (E1.bs b o z).1, (E1.bs b o z).2⟩, Nat.le_trans E1.bsz (by show hp.objs.size ≤ h4.objs.size; omega), Heap.FunFrames.cons (L := hq0.objs.size) (by rw [hkf]; decide) rfl ns4 bL (E1.funs.of_keeps fun b o z _ => ⟨o, k4 b o z, rfl⟩), fun b hb => ?_, I1.hok.kept k4, I1.bare⟩
      rcases List.mem_cons.mp (show b ∈ hq0.objs.size :: frs X.stack from hb) with z | z
      · rw [z]; exact hLn
      · exact E1.frf b z
    have r2 : Vals [v] [u] := .cons ru .nil
    have hl2 : ([u] ++ ([] : List Value)).length = ps.length := by
      have e2 := F1.len _ _ _ _ q1
      exact e2
    have bt := hb ⟨h4, g, dr, tk4, os⟩ [u] X4 hl2
    refine wpAny_call (codeAny_mono (F1.run _ _ _ H1 ⟨[u], []⟩ [u] [v] _ E0 ((hr.make C rest kw).deeper _) EE bt r2 q1) fun r s5 hq' => ?_)
    cases r with
    | error er => exact hq'.elim
    | ok fl' =>
      cases fl' with
      | ret u' =>
        obtain ⟨y, H2, os2, bare2, un2, hok2, rv, q2⟩ := hq'
        have kap : ∀ b o, h4.get? b = some o → H1 b = none → b ∉ frs X.stack → b ≠ hq0.objs.size → s5.heap.get? b = some o := fun b o z n hn hL => by
          refine un2.keep b o z n (fun hm => ?_) (by simp)
          rcases List.mem_cons.mp (show b ∈ hq0.objs.size :: frs X.stack from hm) with y | y
          · exact hL y
          · exact hn y
        have nfx : hp.objs.size + 1 ∉ frs X.stack := fun hm => absurd (show (hp.objs.size + 1 : Nat) < hp.objs.size from frL _ hm) (by omega)
        have ltp : ∀ {b o}, hp.get? b = some o → b ≠ hq0.objs.size := fun {b o} z y => by
          rw [y] at z
          exact absurd (show (hq0.objs.size : Nat) < hp.objs.size from Heap.lt_size z) (by omega)
        refine hc u' s5 (ns_slots ns4 fun o z => un2.slot _ o z hLn (List.mem_cons_self ..) (by simp)) (fun b o z => ?_) ⟨t1, kap _ _ hx4 nx nfx (fun y => absurd (show (hp.objs.size + 1 : Nat) = hq0.objs.size from y) (by omega))⟩ ⟨y, H2, rv, bare2, os2, ⟨fun b o z n hf hx => kap b o (k4 b o z) n hf (ltp z), fun b o z n hf hx => un2.slot b o (k4 b o z) n (List.mem_cons_of_mem _ hf) (by simp), fun b o z n hx => un2.free b o (k4 b o z) n (by simp), fun b o z hx => un2.there b o (k4 b o z) (by simp), un2.tups, un2.frzs, un2.tbls⟩, hok2, ?_, un2.free _ _ hx4 nx (by simp), q2⟩
        · have zb := E1.mod.kin _ _ z
          have zh := E1.bs _ _ zb
          refine kap b o (k4 b o zh.1) zh.2 (fun hm => ?_) (ltp zh.1)
          have := (E1.funs.mem hm).1
          rw [this] at zb
          cases zb
        · obtain ⟨oL, _, _, eL, _⟩ := ns4
          obtain ⟨o', eo⟩ := un2.there _ _ eL (by simp)
          have l1 : (hq0.objs.size : Nat) < s5.heap.objs.size := Heap.lt_size eo
          omega
      | next => exact False.elim hq'
      | brk => exact False.elim hq'
      | cont => exact False.elim hq'
  · obtain ⟨y, H2, rv, bare2, os2, un2, hok2, l5, hnx, q2⟩ := hw
    refine ⟨rfl, ?_⟩
    obtain ⟨G, g1', g2'⟩ := restrict h' fun b => decide (b ≠ hp.objs.size + 1)
    have gk : ∀ b, b ≠ hp.objs.size + 1 → G.get? b = h'.get? b := fun b hb => g1' b (decide_eq_true hb)
    have ge : G.get? (hp.objs.size + 1) = none := g2' _ (by simp)
    have nd : H2 dx = none := hok2.fresh l'
    have ne : ∀ {b : Addr} {o : Obj}, hp.get? b = some o → b ≠ hp.objs.size + 1 := fun {b o} z y => by rw [y, fresh] at z; cases z
    have nedx : ∀ {b : Addr} {o : Obj}, hp.get? b = some o → b ≠ dx := fun {b o} z y => by
      rw [y] at z
      have l2 : (dx : Nat) < hp.objs.size := Heap.lt_size z
      have l3 : (s5.heap.objs.size : Nat) ≤ dx := l'
      omega
    have k5 : ∀ b o, b ≠ hp.objs.size + 1 → s5.heap.get? b = some o → G.get? b = some o := fun b o hb z => by rw [gk b hb]; exact k' b o hb z
    have U : Un (frs X.stack) [] H1 (upd H2 dx (.xd [(fl, y)])) hp G := {
      keep := fun b o z n hf hx => k5 b o (ne z) (un2.keep b o z n hf hx)
      slot := fun b o z n hf hx => by
        obtain ⟨sl, e1⟩ := un2.slot b o z n hf hx
        exact ⟨sl, k5 b _ (ne z) e1⟩
      free := fun b o z n hx => by rw [upd_ne (nedx z)]; exact un2.free b o z n hx
      there := fun b o z hx => by
        obtain ⟨o', e1⟩ := un2.there b o z hx
        exact ⟨o', k5 b _ (ne z) e1⟩
      tups := fun b xs z => by rw [upd_ne (ne_of_none (un2.tups b xs z) nd)]; exact un2.tups b xs z
      frzs := fun b o u z => by rw [upd_ne (ne_of_none (un2.frzs b o u z) nd)]; exact un2.frzs b o u z
      tbls := fun b ps z => by
        obtain ⟨more, e1⟩ := un2.tbls b ps z
        exact ⟨more, by rw [upd_ne (ne_of_none e1 nd)]; exact e1⟩ }
    have hok3 : HOk X.prog X.w (upd H2 dx (.xd [(fl, y)])) G := fun b o z => by
      by_cases hbd : b = dx
      · subst hbd
        rw [upd_same] at z
        cases z
        exact xd_ok (hn'.at fun o q => (gk b n').trans q) rv
      · rw [upd_ne hbd] at z
        have nb : ∀ {c : Addr} {o : HO}, H2 c = some o → c ≠ hp.objs.size + 1 := fun {c o} hc q => by rw [q, hnx] at hc; cases hc
        exact (hok2 b o z).stay (fun c v hc q => by
          rcases hc with hc | hc
          · rw [hc] at q ⊢
            exact k5 b v (nb z) q
          · exact k5 c v (nb hc) q) (fun c hc => by rw [upd_ne (ne_of_none hc nd)]; exact hc) fun c xs hc => by rw [upd_ne (ne_of_none hc nd)]; exact hc
    have J : Inv X pins σ (upd H2 dx (.xd [(fl, y)])) ⟨G, s5.gens, s5.drawn, tk', s5.os⟩ := I1.call' (ch := []) os2 U hok3 bare2 (fun b z => absurd z (by simp))
    refine ⟨hp.objs.size + 1, _, _, ⟨G, s5.gens, s5.drawn, tk', s5.os⟩, _, .ref C, some dx, rfl, J, fun b o z => ?_, ge, e', ⟨rfl, rfl⟩, rfl, rfl, ?_, rfl, bare2, raises_own T.sbe T.tyC, q2 dx nd⟩
    · by_cases hb : b = hp.objs.size + 1
      · rw [hb, ge] at z; cases z
      · exact (gk b hb).symm.trans z
    · rw [upd_ne (Ne.symm n')]; exact hnx
theorem pmk_t1 {X : Cx} {C f : Addr} {B newId initId : String} {bmB : List Value} {st : Stmt} {txt par fl x gx : Str} {p p2 p3 p4 pos : Pos} {e : Expr} {ta : TA} {k : Nat} {ft : Addr} {fd : FuncData} {ps : List Str} {sp : Sp}
    (S : SupSrc1 st txt par fl (.Call (.Name gx p2) [.Name par p3] [] p4)) (T : ExcU X.prog X.K C f B newId initId bmB st) (TS : ExcS X.K C B bmB fl) (hr : Room (k + 2) X.A) (hg : Gl X x) (hm : X.mg x = some (.ref C)) (ha : PA X [e] ta)
    (F1 : FnOk X.prog X.w X.K X.mg X.base CX0 k ft fd ps sp) (hgm : X.mg gx = some (.ref ft)) (hgk : PySem.W.keepIn X.K (.ref ft) = true) (hgn : (defScope st).names.lookup gx = some .globalImplicit) (hb : Binds X.K fd ps [])
    (hse : ∀ (qual : Str) (L fa cc : Addr) (cd : Value), starEach [.Name par p3] (PySem.W.ksEnv qual (defScope st) L fa cd cc) = (false, eval (.Name par p3) (PySem.W.ksEnv qual (defScope st) L fa cd cc)) :: starEach [] (PySem.W.ksEnv qual (defScope st) L fa cd cc))
    (hspl : ∀ (qual : Str) (L fa cc : Addr) (cd : Value), (backTo p4 (starEach [] (PySem.W.ksEnv qual (defScope st) L fa cd cc))).any (·.1) = false)
    (hdb : (x == ("__debug__" : Str)) = false := by decide) (hdp : (par == ("__debug__" : Str)) = false := by decide) (hdg : (gx == ("__debug__" : Str)) = false := by decide) (he : starEach [e] X.env = (false, eval e X.env) :: starEach [] X.env := by rfl) (hpl : (backTo pos (starEach [] X.env)).any (·.1) = false := by rfl) :
    PMk X (.Call (.Name x p) [e] [] pos) (tMkB C fl sp ta) := by
  intro pins s σ H Q I h
  refine wpAny_Call_Name_kw (ld_glob I hg hm ?_ hdb)
  refine PySem.W.callWith_K (h₀ := X.base) I.ok.mod.kin T.kC (thn (ha.run pos pins s σ H _ I h) fun us s1 ⟨vs, H1, I1, r1, v, ev, q1⟩ => ⟨I1.kIn, ?_⟩) he hpl
  show wpAny _ _ (call (.ref C) us) _ _ _
  subst ev
  obtain ⟨u, rfl, ru⟩ := relV_one r1
  exact made_t1 (rest := [u]) (kw := []) S T TS hr (fun x0 cc y qual kV doc pm an cdv ct => S.bi cc y qual kV doc pm an cdv ct _ _) (by rw [sizeLine_eq]; show 1 ≤ _; omega) I1 ru q1 F1 hgm hgk hgn hb hse hspl hdp hdg
end Q
namespace Q
open PySem L2 PySem.Calls PyProof.Rows
section
variable {X : Cx} {cl : Nat → Addr} {E : XK} {pos : Pos}
def exA1 (c : Nat) (fl : Str) (d : D) (S : Store) : Res Fl := .ex ⟨c, [.str fl, d]⟩ S
theorem xd_rep {Γ : Gm} {α : List Addr} {G H : Hp} {S : Store} {c : Nat} {fl : Str} {d : D} {v : V} {dx : Addr} {W : XK} (R : Rl Γ α G S H) (hn : H dx = none) (r : Rep Γ α G d v)
    (h : ∀ α' G' H' c' x, Ext α G H α' G' H' → Rl Γ α' G' S H' → ExR Γ α' G' ⟨c, [.str fl, d]⟩ c' x H' → W c' x H') : W (.ref (Γ.cl c)) (some dx) (upd H dx (.xd [(fl, v)])) := by
  obtain ⟨R2, e2⟩ := R.new hn (.xd [(fl, v)])
  refine h α _ _ _ _ e2 R2 ⟨rfl, [.str fl, v], ?_, .inr ⟨fl, v, dx, rfl, rfl, upd_same⟩⟩
  have r2 : Rep Γ α (upd G dx (.xd [(fl, v)])) d v := Rep.mono e2.pre e2.sub d v r
  simp only [RepL, Rep, List.cons.injEq]
  exact ⟨_, _, ⟨rfl, rfl⟩, rfl, _, _, rfl, r2, rfl⟩
def mRaiseB (c : Nat) (fl : Str) (g : List D → Store → Res D) (m : ME) : MS := fun ρ S => (m ρ S).bind fun d S1 => (nox (g [d] S1)).bind (exA1 c fl)
theorem qs_raiseB (c : Nat) {k : Nat} {f ft : Addr} {fd : FuncData} {ps : List Str} {g g' : List D → Store → Res D} {B newId initId : String} {bmB : List Value} {st : Stmt} {txt par fl x gx : Str} {p p2 p3 p4 p5 : Pos} {e : Expr} {m : ME}
    (S0 : SupSrc1 st txt par fl (.Call (.Name gx p3) [.Name par p4] [] p5)) (T : ExcU X.prog X.K (cl c) f B newId initId bmB st) (TS : ExcS X.K (cl c) B bmB fl) (tk : Takes X (fw E)) (hr : Room (k + 2) X.A) (hg : Gl X x) (hm : X.mg x = some (.ref (cl c)))
    (F1 : FnOk X.prog X.w X.K X.mg X.base CX0 k ft fd ps (spM ⟨X.K, cl⟩ g)) (hgm : X.mg gx = some (.ref ft)) (hgk : PySem.W.keepIn X.K (.ref ft) = true) (hgn : (defScope st).names.lookup gx = some .globalImplicit) (hb : Binds X.K fd ps [])
    (hse : ∀ (qual : Str) (L fa cc : Addr) (cd : Value), starEach [.Name par p4] (PySem.W.ksEnv qual (defScope st) L fa cd cc) = (false, eval (.Name par p4) (PySem.W.ksEnv qual (defScope st) L fa cd cc)) :: starEach [] (PySem.W.ksEnv qual (defScope st) L fa cd cc))
    (hspl : ∀ (qual : Str) (L fa cc : Addr) (cd : Value), (backTo p5 (starEach [] (PySem.W.ksEnv qual (defScope st) L fa cd cc))).any (·.1) = false)
    (hf : SndC ⟨X.K, cl⟩ E0 (fun vs H Q => spM ⟨X.K, cl⟩ g vs H Q E0) g') (ha : QE X cl E e m)
    (hc : X.calm = true := by rfl) (hdb : (x == ("__debug__" : Str)) = false := by decide) (hdp : (par == ("__debug__" : Str)) = false := by decide) (hdg : (gx == ("__debug__" : Str)) = false := by decide) (he : starEach [e] X.env = (false, eval e X.env) :: starEach [] X.env := by rfl) (hpl : (backTo p2 (starEach [] X.env)).any (·.1) = false := by rfl) :
    QS X cl E (.Raise (some (.Call (.Name x p) [e] [] p2)) none pos) (mRaiseB c fl g' m) := by
  obtain ⟨t, h1, h2⟩ := ha.ex
  refine ⟨_, ps_raise hc tk (pmk_t1 S0 T TS hr hg hm (pa_cons h1 pa_nil he) F1 hgm hgk hgn hb hse hspl hdb hdp hdg he hpl), fun ρ S σ α G H Dn hρ hR hp => h2 ρ S σ α G H _ hρ hR (posts_bind hp fun d S1 α1 G1 H1 v _ e1 R1 r1 hp1 => ⟨v, rfl, ?_⟩)⟩
  refine hf [d] S1 α1 G1 H1 [v] _ R1 (by simp [RepL, r1]) ?_
  cases q : g' [d] S1 with
  | no => rw [q] at hp1; exact hp1.elim
  | ex e' S' => rw [q] at hp1; exact hp1.elim
  | ok y S2 =>
    rw [q] at hp1
    intro α2 G2 H2 w e2 R2 r2 dx hn
    have hp2 := PostS.mono (show PostS ⟨X.K, cl⟩ E α1 G1 H1 (.ex ⟨c, [.str fl, y]⟩ S2) Dn from hp1) e2
    exact xd_rep R2 hn r2 hp2
def ExB (st : Stmt) (txt par fl gx : Str) : Prop := ∃ p3 p4 p5, SupSrc1 st txt par fl (.Call (.Name gx p3) [.Name par p4] [] p5) ∧ (defScope st).names.lookup gx = some .globalImplicit ∧
  (∀ (qual : Str) (L fa cc : Addr) (cd : Value), starEach [.Name par p4] (PySem.W.ksEnv qual (defScope st) L fa cd cc) = (false, eval (.Name par p4) (PySem.W.ksEnv qual (defScope st) L fa cd cc)) :: starEach [] (PySem.W.ksEnv qual (defScope st) L fa cd cc)) ∧
  ∀ (qual : Str) (L fa cc : Addr) (cd : Value), (backTo p5 (starEach [] (PySem.W.ksEnv qual (defScope st) L fa cd cc))).any (·.1) = false
theorem qs_rB (c : Nat) {k : Nat} {f ft : Addr} {fd : FuncData} {ps : List Str} {g g' : List D → Store → Res D} {B newId initId : String} {bmB : List Value} {st : Stmt} {txt par fl x gx : Str} {p p2 : Pos} {e : Expr} {m : ME}
    (su : ExB st txt par fl gx) (T : ExcU X.prog X.K (cl c) f B newId initId bmB st) (TS : ExcS X.K (cl c) B bmB fl) (tk : Takes X (fw E)) (hr : Room (k + 2) X.A) (hg : Gl X x) (hm : X.mg x = some (.ref (cl c)))
    (F1 : FnOk X.prog X.w X.K X.mg X.base CX0 k ft fd ps (spM ⟨X.K, cl⟩ g)) (hgm : X.mg gx = some (.ref ft)) (hgk : PySem.W.keepIn X.K (.ref ft) = true) (hb : Binds X.K fd ps [])
    (hf : SndC ⟨X.K, cl⟩ E0 (fun vs H Q => spM ⟨X.K, cl⟩ g vs H Q E0) g') (ha : QE X cl E e m)
    (hc : X.calm = true := by rfl) (hdb : (x == ("__debug__" : Str)) = false := by decide) (hdp : (par == ("__debug__" : Str)) = false := by decide) (hdg : (gx == ("__debug__" : Str)) = false := by decide) (he : starEach [e] X.env = (false, eval e X.env) :: starEach [] X.env := by rfl) (hpl : (backTo p2 (starEach [] X.env)).any (·.1) = false := by rfl) :
    QS X cl E (.Raise (some (.Call (.Name x p) [e] [] p2)) none pos) (mRaiseB c fl g' m) := by
  obtain ⟨_, _, _, S0, hgn, hse, hspl⟩ := su
  exact qs_raiseB c S0 T TS tk hr hg hm F1 hgm hgk hgn hb hse hspl hf ha hc hdb hdp hdg he hpl
structure XfQ (K : PySem.W.Frag) (C : Addr) (fl : Str) : Prop where
  c : XfC K C
  no : PySem.W.findIn K (.ref C) fl = some none
end
section
variable {S : Store} {ρ : Env}
@[simp] theorem exA1_ap (c : Nat) (fl : Str) (d : D) : exA1 c fl d S = .ex ⟨c, [.str fl, d]⟩ S := rfl
def exB1 (c : Nat) (fl : Str) (g : List D → Store → Res D) (d : D) (S : Store) : Res Fl := (nox (g [d] S)).bind (exA1 c fl)
@[simp] theorem ap_raiseB (c : Nat) (fl : Str) (g : List D → Store → Res D) (m : ME) : mRaiseB c fl g m ρ S = (m ρ S).bind (exB1 c fl g) := rfl
@[simp] theorem exB1_ap (c : Nat) (fl : Str) (g : List D → Store → Res D) (d : D) : exB1 c fl g d S = (nox (g [d] S)).bind (exA1 c fl) := rfl
end
end Q
namespace Q
namespace ZG
open PySem PySem.Sem
abbrev IsZV (h : Heap) (z ti own : Addr) (f0 : Value) (f : Bool) : Prop := h.get? z = some { cls := .type "zip", dict := none, data := .fields #[f0, .bool f, .bool false, .ref ti, .ref own], slots := #[] }
def IsZF (h : Heap) (z ti own : Addr) : Prop := ∃ (f0 : Value) (f : Bool), IsZV h z ti own f0 f ∧ (f0 = .none ∨ ∃ T : Addr, f0 = rawInt T)
section
variable {prog : Program} {w : World} {A : Around}
variable {z ti own p q u v : Addr} {k m : Nat} {xs ys : Array Value} {P₁ P₂ : Nat → Heap → Prop} {s : Shared} {E : Value → Shared → Prop}
theorem IsZF.at {h g : Heap} (iz : IsZF h z ti own) (k : ∀ o, h.get? z = some o → g.get? z = some o) : IsZF g z ti own := by
  obtain ⟨f0, f, e, hf⟩ := iz
  exact ⟨f0, f, k _ e, hf⟩
end
end ZG
open PySem PySem.Spec PyProof.Rows L2 ZG
end Q
namespace Q
open PySem L2
def mAppX (mo m : ME) : ME := fun ρ S => (nox (mo ρ S)).bind fun o S1 => match o with
  | .ref k => if notOb S1 k = true then (m ρ S1).bind fun d S2 => appTo k d S2 else .no
  | _ => .no
section
variable {X : Cx} {cl : Nat → Addr} {W : WX} {e : Expr} {m : ME}
theorem qx_app {o : Expr} {mo : ME} {apos cpos : Pos} (ho : QE X cl E0 o mo) (he : QEX X cl W e m) (hbase : attributeBase o "append" X.env (eval o X.env) = eval o X.env := by rfl)
    (hfew : ((backTo cpos (starEach [e] X.env)).all (fun x => !x.1) && (backToKw cpos (keywordEach [] X.env)).all (fun x => x.1.isSome)
      && decide (([e] : List Expr).length + ([] : List Keyword).length + (if ([] : List Keyword).isEmpty then 0 else 1) < 30)) = true := by rfl)
    (hline : (apos.endLine == cpos.line) = true := by rfl) (hs : starEach [e] X.env = (false, eval e X.env) :: starEach [] X.env := by rfl) (hplain : (backTo cpos (starEach [] X.env)).any (·.1) = false := by rfl) :
    QEX X cl W (.Call (.Attribute o "append" apos) [e] [] cpos) (mAppX mo m) := by
  obtain ⟨t, h1, h2⟩ := ho.ex
  obtain ⟨u, k1, k2⟩ := he.ex
  refine ⟨_, pe_bm PySem.F.plainAttrs_list PySem.F.slot_list_append PySem.F.type_list_append mt_append h1 (pa_cons k1 pa_nil hs) hbase hfew hline hs hplain, fun ρ S σ α G H Q hρ hR hp => ?_⟩
  refine h2 ρ S σ α G H _ hρ hR (noxA_post (E := fun c d H' => W c d σ H') (post_bind hp fun od S1 α1 G1 H1 ov q1 e1 R1 r1 hp1 => ?_))
  clear q1
  cases od <;> try exact hp1.elim
  rename_i kk
  dsimp only at hp1
  split at hp1
  case isFalse => exact hp1.elim
  rename_i hno
  obtain ⟨p, rfl, ha1, htv⟩ := listy R1 r1 hno
  refine ⟨htv, ?_⟩
  refine k2 ρ S1 σ α1 G1 H1 _ (hρ.mono e1) R1 (post_bind hp1 fun d S2 α2 G2 H2 v q2 e2 R2 r2 hp2 => ?_)
  have hp' : α2[kk]? = some p := by
    obtain ⟨β, rfl⟩ := e2.pre
    rw [List.getElem?_append_left (List.getElem?_eq_some_iff.mp ha1).1]
    exact ha1
  unfold appTo at hp2
  cases hc : S2[kk]? with
  | none => simp [hc, Post] at hp2
  | some c =>
    cases c with
    | frz xs => simp [hc, Post] at hp2
    | dk l xs => simp [hc, Post] at hp2
    | dt l xs => simp [hc, Post] at hp2
    | ob l xs => simp [hc, Post] at hp2
    | lst xs =>
      simp only [hc] at hp2
      split at hp2
      · rename_i hl
        obtain ⟨vs, q1, q2, q3⟩ := (R2.ok kk _ p hc hp').lst
        obtain ⟨R3, e3⟩ := R2.put hc hp' (q2.append (show RepL ⟨X.K, cl⟩ α2 G2 [d] [v] by unfold RepL; exact ⟨v, [], rfl, r2, by simp [RepL]⟩))
        exact ⟨p, vs, v, rfl, rfl, q1, by rw [← q2.length]; exact Nat.lt_of_lt_of_le hl (by decide), hp2 _ _ _ .non e3 R3 (by simp [Rep])⟩
      · exact hp2.elim
end
section
variable {S : Store} {ρ : Env}
@[simp] theorem ap_appX (mo m : ME) : mAppX mo m ρ S = (nox (mo ρ S)).bind (appK m ρ) := rfl
end
end Q
namespace Q
open PySem L2
structure IAddC (K : PySem.W.Frag) (C f : Addr) : Prop where
  self : PySem.W.selfFirst K C = true
  iadd : PySem.W.findIn K (.ref C) (dunderI "add") = some (some (.ref f))
  fnf : PySem.W.isFn K (.ref f) = true
end Q
namespace Q
open PySem L2
end Q
namespace Q
open PySem L2
end Q
namespace Q
open PySem L2
structure SetC (K : PySem.W.Frag) (C f : Addr) : Prop where
  seq : PySem.W.noSeq K C = true
  at_ : PySem.W.findIn K (.ref C) "__setitem__" = some (some (.ref f))
  fnf : PySem.W.isFn K (.ref f) = true
end Q
namespace Q
open PySem L2
end Q
namespace Q
open PySem L2 PySem.Calls PyProof.Rows PySem.HandSPX
end Q
namespace Q
open PySem L2
abbrev Src := Store → Option (List D)
def StepsV (Γ : Gm) (α : List Addr) (src : Src) (J : It) : Prop := ∀ (i : Nat) (α2 : List Addr) (G2 H2 : Hp) (S2 : Store) (ds : List D), (∃ β, α2 = α ++ β) → Rl Γ α2 G2 S2 H2 → src S2 = some ds →
  (ds.length ≤ i → J.stop i H2) ∧ ∀ d, ds[i]? = some d → J.go i H2 ∧ ∀ x H3, J.yld i H2 x H3 → ∃ G3, Rl Γ α2 G3 S2 H3 ∧ Ext α2 G2 H2 α2 G3 H3 ∧ Rep Γ α2 G3 d x
abbrev MV := Env → Store → Res Src
def PostV (Γ : Gm) (E : XK) (α : List Addr) (G H : Hp) (r : Res Src) (R : It → Hp → Prop) : Prop := match r with
  | .ok s S' => ∀ α' G' H' J, Ext α G H α' G' H' → Rl Γ α' G' S' H' → StepsV Γ α' s J → R J H'
  | .ex e S' => ∀ α' G' H' c x, Ext α G H α' G' H' → Rl Γ α' G' S' H' → ExR Γ α' G' e c x H' → E c x H'
  | .no => False
theorem PostV.mono {Γ : Gm} {E : XK} {α α1 : List Addr} {G H G1 H1 : Hp} {r : Res Src} {R : It → Hp → Prop} (h : PostV Γ E α G H r R) (e : Ext α G H α1 G1 H1) : PostV Γ E α1 G1 H1 r R := by
  cases r with
  | ok d S' => exact fun α' G' H' v x rl rp => h α' G' H' v (e.trans x) rl rp
  | ex d S' => exact fun α' G' H' c x y rl rp => h α' G' H' c x (e.trans y) rl rp
  | no => exact h
def SndV (Γ : Gm) (E : XK) (wi : TI) (mi : MV) : Prop := ∀ (ρ : Env) (S : Store) (σ : L2.St) (α : List Addr) (G H : Hp) (R : It → Hp → Prop), EnvR Γ α G ρ σ → Rl Γ α G S H → PostV Γ E α G H (mi ρ S) R → wi σ H R
structure QV (X : Cx) (cl : Nat → Addr) (E : XK) (tg iter : Expr) (mi : MV) : Prop where
  ex : ∃ wi, PI X tg iter wi ∧ SndV ⟨X.K, cl⟩ E wi mi
end Q
namespace Q
open PySem L2
structure GetC (K : PySem.W.Frag) (C f : Addr) : Prop where
  at_ : PySem.W.findIn K (.ref C) "__getitem__" = some (some (.ref f))
  fni : PySem.W.fnIn K f = true
  fnf : PySem.W.isFn K (.ref f) = true
structure LenC (K : PySem.W.Frag) (C f : Addr) : Prop where
  at_ : PySem.W.findIn K (.ref C) "__len__" = some (some (.ref f))
  fnf : PySem.W.isFn K (.ref f) = true
mutual
def isTupD : D → Bool
  | .tup xs => isTupL xs
  | .non => true
  | .bl _ => true
  | .int _ => true
  | .str _ => true
  | .lst _ => false
  | .fro _ => false
  | .ref _ => false
  | .obj _ _ => false
  | .exn _ _ => false
def isTupL : List D → Bool
  | [] => true
  | d :: ds => isTupD d && isTupL ds
end
section
variable {Γ : Gm} {α : List Addr} {G H H' : Hp} {S : Store}
def Seen (Γ : Gm) (α : List Addr) (G H H' : Hp) (S : Store) (G1 : Hp) : Prop := Ext α G H α G1 H' ∧ Rl Γ α G1 S H'
theorem Seen.tup {G1 : Hp} {a : Addr} {vs : List V} (h : Seen Γ α G H H' S G1) (ha : H' a = some (.tup vs)) : Seen Γ α G H H' S (upd G1 a (.tup vs)) ∧ Sub G1 (upd G1 a (.tup vs)) := by
  obtain ⟨e, R⟩ := h
  obtain ⟨sb, R3⟩ := R.see ha
  refine ⟨⟨⟨⟨[], by simp⟩, e.sub.trans sb, e.fr, e.na, fun b hb => ?_⟩, R3⟩, sb⟩
  by_cases eb : b = a
  · subst eb
    by_cases m : b ∈ α
    · exact .inr (.inl m)
    · cases hb2 : H b with
      | none => exact .inr (.inr (.inl rfl))
      | some o =>
        have := e.fr b o hb2 m
        rw [ha] at this
        exact .inr (.inr (.inr ⟨vs, this.symm⟩))
  · rw [upd_ne eb] at hb
    exact e.ng b hb
mutual
theorem see_deep {α' : List Addr} {G' : Hp} (hs : Sub G' H') : ∀ (d : D) (v : V) (G1 : Hp), isTupD d = true → Rep Γ α' G' d v → Seen Γ α G H H' S G1 → ∃ G2, Sub G1 G2 ∧ Seen Γ α G H H' S G2 ∧ Rep Γ α G2 d v
  | .tup xs, v, G1, ht, r, h => by
    unfold isTupD at ht
    unfold Rep at r
    obtain ⟨a, vs, rfl, ga, rl⟩ := r
    obtain ⟨G2, s2, h2, r2⟩ := see_deepL hs xs vs G1 ht rl h
    obtain ⟨h3, s3⟩ := h2.tup (hs _ _ ga)
    refine ⟨_, s2.trans s3, h3, ?_⟩
    unfold Rep
    exact ⟨a, vs, rfl, upd_same, RepL.mono (α := α) ⟨[], by simp⟩ s3 _ _ r2⟩
  | .non, v, G1, _, r, h => ⟨G1, Sub.refl _, h, by simp only [Rep] at r ⊢; exact r⟩
  | .bl _, v, G1, _, r, h => ⟨G1, Sub.refl _, h, by simp only [Rep] at r ⊢; exact r⟩
  | .int _, v, G1, _, r, h => ⟨G1, Sub.refl _, h, by simp only [Rep] at r ⊢; exact r⟩
  | .str _, v, G1, _, r, h => ⟨G1, Sub.refl _, h, by simp only [Rep] at r ⊢; exact r⟩
  | .lst _, _, _, ht, _, _ => by simp [isTupD] at ht
  | .fro _, _, _, ht, _, _ => by simp [isTupD] at ht
  | .ref _, _, _, ht, _, _ => by simp [isTupD] at ht
  | .obj _ _, _, _, ht, _, _ => by simp [isTupD] at ht
  | .exn _ _, _, _, ht, _, _ => by simp [isTupD] at ht
theorem see_deepL {α' : List Addr} {G' : Hp} (hs : Sub G' H') : ∀ (ds : List D) (vs : List V) (G1 : Hp), isTupL ds = true → RepL Γ α' G' ds vs → Seen Γ α G H H' S G1 → ∃ G2, Sub G1 G2 ∧ Seen Γ α G H H' S G2 ∧ RepL Γ α G2 ds vs
  | [], vs, G1, _, r, h => ⟨G1, Sub.refl _, h, by unfold RepL at r ⊢; exact r⟩
  | d :: ds, vs, G1, ht, r, h => by
    unfold isTupL at ht
    rw [Bool.and_eq_true] at ht
    unfold RepL at r
    obtain ⟨v, w, rfl, r1, r2⟩ := r
    obtain ⟨G2, s2, h2, q2⟩ := see_deep hs d v G1 ht.1 r1 h
    obtain ⟨G3, s3, h3, q3⟩ := see_deepL hs ds w G2 ht.2 r2 h2
    refine ⟨G3, s2.trans s3, h3, ?_⟩
    unfold RepL
    exact ⟨v, w, rfl, Rep.mono (α := α) ⟨[], by simp⟩ s3 _ _ q2, q3⟩
end
end
end Q
namespace L2
open PySem PySem.Spec PyProof.Rows
def numKey : Nat → NestedKey → Bool
  | _, .num _ => true
  | n + 1, .tup ks => ks.all (numKey n)
  | _, _ => false
section
variable {P : Program} {w : World} {A : Around} {E : Value → Shared → Prop} {s : Shared}
theorem key_ref {h : Heap} {n : Nat} {k : NestedKey} {v : Value} (hk : NestedIs h k v) (hn : numKey n k = true) : (∃ i t, v = .int i t) ∨ (∃ b, v = .bool b) ∨ ∃ m ks a o vs c, n = m + 1 ∧ k = .tup ks ∧ v = .ref a ∧ h.get? a = some o ∧ o.cls = .type "tuple" ∧ o.data = .seq vs c ∧ NestedAll h ks vs.toList ∧ ks.all (numKey m) = true := by
  cases hk with
  | none => cases n <;> cases hn
  | bool e => exact .inr (.inl ⟨_, rfl⟩)
  | int i t => exact .inl ⟨_, _, rfl⟩
  | text x t => cases n <;> cases hn
  | tup h1 h2 h3 h4 =>
    cases n with
    | zero => cases hn
    | succ m => exact .inr (.inr ⟨m, _, _, _, _, _, rfl, rfl, rfl, h1, h2, h3, h4, hn⟩)
theorem keys_mem {h : Heap} {m : Nat} : ∀ {ks : List NestedKey} {vs : List Value}, NestedAll h ks vs → ks.all (numKey m) = true → ∀ v ∈ vs, ∃ k, NestedIs h k v ∧ numKey m k = true
  | [], _, r, _, v, hv => by cases r; cases hv
  | k :: ks, _, r, hn, v, hv => by
    cases r with
    | cons r1 r2 =>
      rw [List.all_cons, Bool.and_eq_true] at hn
      rcases List.mem_cons.mp hv with rfl | m
      · exact ⟨k, r1, hn.1⟩
      · exact keys_mem r2 hn.2 v m
theorem noClass : ∀ (n : Nat) (k : NestedKey) (v : Value) (Q : Bool → Shared → Prop), NestedIs s.heap k v → numKey n k = true → Q false s → wpAny (model P w) A (ofAClassStatement n v) Q E s
  | n, k, v, Q, hk, hn, h => by
    rcases key_ref hk hn with ⟨i, t, rfl⟩ | ⟨b, rfl⟩ | ⟨m, ks, a, o, vs, c, rfl, rfl, rfl, h1, h2, h3, h4, h5⟩
    · cases n <;> exact wpAny_pure h
    · cases n <;> exact wpAny_pure h
    · have hT : s.TypeIs (.ref a) "tuple" := ⟨o, h1, h2⟩
      unfold ofAClassStatement
      refine wpAny_bind (wpAny_typeOf hT ?_)
      dsimp only
      have e : (("tuple" : String) == "tuple") = true := by decide
      simp only [e, if_true, Bool.not_true, Bool.false_eq_true, if_false]
      try refine wpAny_bind (wpAny_pure ?_)
      try simp only [Bool.not_true, Bool.false_eq_true, if_false]
      show wpAny _ _ (seqItems? (.ref a) >>= _) _ _ s
      refine wpAny_bind (wpAny_seqItems h1 h3 ?_)
      dsimp only
      refine wpAny_bind ?_
      show wpAny _ _ (forIn vs _ _) _ _ s
      rw [← Array.forIn_toList]
      refine wpAny_forIn_list _ (fun rest r s' => r.1 = none ∧ s' = s ∧ ∀ u ∈ rest, ∃ k, NestedIs s.heap k u ∧ numKey m k = true) _ ?_ ?_ _ _ ⟨rfl, rfl, keys_mem h4 h5⟩
      · rintro u rest r s' ⟨hr, hs, hall⟩
        have hs2 := hs.symm
        subst hs2
        obtain ⟨k', hk', hn'⟩ := hall u List.mem_cons_self
        refine wpAny_bind (noClass m k' u _ hk' hn' ?_)
        simp only [Bool.false_eq_true, if_false]
        exact wpAny_pure ⟨rfl, rfl, fun z hz => hall z (List.mem_cons_of_mem _ hz)⟩
      · rintro ⟨r1, r2⟩ s' ⟨hr, rfl, _⟩
        simp only at hr
        subst hr
        exact wpAny_pure h
termination_by n => n
theorem byVal : ∀ (n : Nat) (k : NestedKey) (v : Value) (Q : Bool → Shared → Prop), NestedIs s.heap k v → numKey n k = true → Q true s → wpAny (model P w) A (hashByValue n v) Q E s
  | n, k, v, Q, hk, hn, h => by
    rcases key_ref hk hn with ⟨i, t, rfl⟩ | ⟨b, rfl⟩ | ⟨m, ks, a, o, vs, c, rfl, rfl, rfl, h1, h2, h3, h4, h5⟩
    · cases n <;> exact wpAny_pure h
    · cases n <;> exact wpAny_pure h
    · have hT : s.TypeIs (.ref a) "tuple" := ⟨o, h1, h2⟩
      unfold hashByValue
      refine wpAny_bind (wpAny_specialOf hT F.slot_tuple_hash.lookup ?_)
      show wpAny _ _ (seqItems? (.ref a) >>= _) _ _ s
      refine wpAny_bind (wpAny_seqItems h1 h3 ?_)
      refine wpAny_bind ?_
      show wpAny _ _ (forIn vs _ _) _ _ s
      rw [← Array.forIn_toList]
      refine wpAny_forIn_list _ (fun rest r s' => r.1 = none ∧ s' = s ∧ ∀ u ∈ rest, ∃ k, NestedIs s.heap k u ∧ numKey m k = true) _ ?_ ?_ _ _ ⟨rfl, rfl, keys_mem h4 h5⟩
      · rintro u rest r s' ⟨hr, hs, hall⟩
        have hs2 := hs.symm
        subst hs2
        obtain ⟨k', hk', hn'⟩ := hall u List.mem_cons_self
        refine wpAny_bind (byVal m k' u _ hk' hn' ?_)
        simp only [Bool.not_true, Bool.false_eq_true, if_false]
        exact wpAny_pure ⟨rfl, rfl, fun z hz => hall z (List.mem_cons_of_mem _ hz)⟩
      · rintro ⟨r1, r2⟩ s' ⟨hr, rfl, _⟩
        simp only at hr
        subst hr
        exact wpAny_pure h
termination_by n => n
end
abbrev posN (t : SetTable) (H : Int) (c : Nat) : SetTable.Probe := nth t.mask (runAt t.mask (SetTable.bits H % (t.mask + 1)) (SetTable.bits H)) c
theorem posN_dummy (t : SetTable) (H : Int) : ∀ c, (posN t H c).dummy = none
  | 0 => rfl
  | c + 1 => by
    unfold posN
    rw [nth_succ]
    have ih : (nth t.mask (runAt t.mask (SetTable.bits H % (t.mask + 1)) (SetTable.bits H)) c).dummy = none := posN_dummy t H c
    unfold adv
    split <;> exact ih
theorem posN_add (t : SetTable) (H : Int) (c q : Nat) : nth t.mask (posN t H c) q = posN t H (c + q) := (nth_add t.mask c _ q).symm
theorem metN {t : SetTable} {hs : List Int} (T : TabOk t hs) {hashAt : Nat → Int} (ha : ∀ (i : Nat) h, hs[i]? = some h → hashAt i = h) {H : Int} {K c : Nat} (hc : c ≤ K) (hKf : K < 10 * SetTable.turns t.mask) (hK : way t.mask H K ∉ t.place.toList) (hb : ∀ q, q < K → way t.mask H q ∈ t.place.toList) :
    (∃ q, ∃ i : Nat, c ≤ q ∧ q < K ∧ t.place.toList[i]? = some (way t.mask H q) ∧ hs[i]? = some H ∧ (∀ q' (i' : Nat), c ≤ q' → q' < q → t.place.toList[i']? = some (way t.mask H q') → hs[i']? ≠ some H) ∧ t.probe hashAt H (posN t H c) = some (.candidate (way t.mask H q) i (posN t H (q + 1)))) ∨
    ((∀ q' (i' : Nat), c ≤ q' → q' < K → t.place.toList[i']? = some (way t.mask H q') → hs[i']? ≠ some H) ∧ t.probe hashAt H (posN t H c) = some (.empty (way t.mask H K) none)) := by
  have wy : ∀ q, (nth t.mask (posN t H c) q).j = way t.mask H (c + q) := fun q => congrArg SetTable.Probe.j (posN_add t H c q)
  have spec := go_spec t T.ris T.dm hashAt H (10 * SetTable.turns t.mask) (K - c) (posN t H c) (posN_dummy t H c) (by omega)
    (fun q hq => by rw [wy]; exact hb _ (by omega)) (by rw [wy, Nat.add_sub_cancel' hc]; exact hK)
  have size : ∀ (i : Nat) j, t.place.toList[i]? = some j → ∃ h, hs[i]? = some h := fun i j e => by
    have z := (List.getElem?_eq_some_iff.mp e).1
    have sz := T.sz
    rw [Array.length_toList] at z
    exact ⟨hs[i]'(by omega), List.getElem?_eq_getElem _⟩
  have no : ∀ (B : Nat), (∀ k' i', k' < B - c → t.place.toList[i']? = some (nth t.mask (posN t H c) k').j → hashAt i' ≠ H) → ∀ q' (i' : Nat), c ≤ q' → q' < B → t.place.toList[i']? = some (way t.mask H q') → hs[i']? ≠ some H := fun B hno q' i' h1 h2 h3 h4 => by
    refine hno (q' - c) i' (by omega) ?_ (ha _ _ h4)
    rw [wy, Nat.add_sub_cancel' h1]
    exact h3
  rcases spec with ⟨q, i, hq, hi, hh, hno, hpr⟩ | ⟨hno, hpr⟩
  · refine .inl ⟨c + q, i, by omega, by omega, by rw [← wy]; exact hi, ?_, no (c + q) (fun k' i' z => hno k' i' (by omega)), ?_⟩
    · obtain ⟨h, e⟩ := size i _ hi
      rw [e, ← ha i h e, hh]
    · rw [← wy, show c + q + 1 = c + (q + 1) by omega, ← posN_add]
      exact hpr
  · refine .inr ⟨no K hno, ?_⟩
    have e : way t.mask H K = (nth t.mask (posN t H c) (K - c)).j := by rw [wy, Nat.add_sub_cancel' hc]
    rw [e]
    exact hpr
def IsN (h : Heap) (k : NestedKey) (b : Addr) : Prop := NestedIs h k (.ref b) ∧ numKey 8 k = true
theorem numKey_depth : ∀ (n : Nat) (k : NestedKey), numKey n k = true → k.depth ≤ n
  | n, .num _, _ => by simp [NestedKey.depth]
  | 0, .none, h => by cases h
  | 0, .text _, h => by cases h
  | 0, .tup _, h => by cases h
  | n + 1, .none, h => by cases h
  | n + 1, .text _, h => by cases h
  | n + 1, .tup ks, h => by
    have all : ∀ ks : List NestedKey, ks.all (numKey n) = true → NestedKey.depthAll ks ≤ n := fun ks => by
      induction ks with
      | nil => intro _; simp [NestedKey.depthAll]
      | cons k ks ih =>
        intro h
        rw [List.all_cons, Bool.and_eq_true] at h
        have := numKey_depth n k h.1
        have := ih h.2
        simp only [NestedKey.depthAll]
        omega
    have := all ks h
    simp only [NestedKey.depth]
    omega
section
variable {P : Program} {w : World} {A : Around} {E : Value → Shared → Prop} {s : Shared}
theorem seenN {k : NestedKey} {b : Addr} {Q : Bool → Shared → Prop} (hk : IsN s.heap k b) {ys : List Value} (hy : ∀ y ∈ ys, ∃ k' c, y = Value.ref c ∧ IsN s.heap k' c) (h : Q false s) :
    wpAny (model P w) A (searchCouldBeSeen (.ref b) ys) Q E s := by
  have quiet : ∀ {k : NestedKey} {b : Addr} {Q : Bool → Shared → Prop}, IsN s.heap k b → Q true s → wpAny (model P w) A (eqIsQuiet 8 (.ref b)) Q E s := fun hk q => quiet_key _ _ 8 s hk.1 (numKey_depth 8 _ hk.2) A E _ q
  have cls : ∀ {k : NestedKey} {b : Addr} {Q : Bool → Shared → Prop}, IsN s.heap k b → Q false s → wpAny (model P w) A (ofAClassStatement 8 (.ref b)) Q E s := fun hk q => noClass 8 _ _ _ hk.1 hk.2 q
  unfold searchCouldBeSeen
  refine wpAny_bind (wpAny_forIn_list _ (fun rest r s' => r.1 = none ∧ s = s' ∧ ∀ y ∈ rest, ∃ k' c, y = Value.ref c ∧ IsN s.heap k' c) _ ?_ ?_ _ _ ⟨rfl, rfl, hy⟩)
  · rintro v rest r s' ⟨hr, es, hall⟩
    subst es
    obtain ⟨k', c, rfl, hc⟩ := hall v List.mem_cons_self
    have tl : ∀ y ∈ rest, ∃ k' c, y = Value.ref c ∧ IsN s.heap k' c := fun u hu => hall u (List.mem_cons_of_mem _ hu)
    dsimp only
    by_cases hv : (b == c || (carriedByValue (.ref b) && carriedByValue (.ref c))) = true
    · exact wp_if_pos hv (wpAny_pure ⟨rfl, rfl, tl⟩)
    · refine wp_if_neg hv (wpAny_bind (quiet hk ?_))
      simp only [Bool.not_true, Bool.false_eq_true, if_false]
      refine wpAny_bind (quiet hc ?_)
      simp only [Bool.not_true, Bool.false_eq_true, if_false]
      refine wpAny_bind (cls hk ?_)
      simp only [Bool.false_eq_true, if_false]
      refine wpAny_bind (cls hc ?_)
      simp only [Bool.false_eq_true, if_false]
      exact wpAny_pure ⟨rfl, rfl, tl⟩
  · rintro ⟨r1, r2⟩ s' ⟨hr, es, _⟩
    subst es
    simp only at hr
    subst hr
    exact wpAny_pure h
def rowsN (w : World) (L : List (Addr × NestedKey)) : List (Int × Value) := L.map fun p => (p.2.hash w, .ref p.1)
def hashN (w : World) (L : List (Addr × NestedKey)) : List Int := L.map fun p => p.2.hash w
structure SetN (w : World) (h : Heap) (a : Addr) (L : List (Addr × NestedKey)) (es : Array (Int × Value)) (ep : Nat) (t : SetTable) : Prop where
  ob : ∃ o, h.get? a = some o ∧ o.ExactSet ∧ o.data = .set es ep t
  rows : es.toList = rowsN w L
  tab : TabOk t (hashN w L)
  nd : (L.map (·.2)).Nodup
  key : ∀ p ∈ L, IsN h p.2 p.1
  plain : t.plain = true
  led : w.params.followText "set-order" = true ∨ t.led = true
  room : L.length * 5 < t.mask * 3
  few : L.length < 64
variable {a : Addr} {L : List (Addr × NestedKey)} {es : Array (Int × Value)} {ep : Nat} {t : SetTable}
theorem rows_size (h : es.toList = rowsN w L) : es.size = L.length := by
  have e := congrArg List.length h
  rw [Array.length_toList] at e
  rw [e]
  exact List.length_map _
theorem rows_at (h : es.toList = rowsN w L) {i : Nat} {p : Addr × NestedKey} (hp : L[i]? = some p) : es[i]? = some (p.2.hash w, .ref p.1) := by
  rw [← Array.getElem?_toList, h]
  unfold rowsN
  rw [List.getElem?_map, hp]
  rfl
theorem fits_of (hd : t.dummies = #[]) (hs : t.place.size = es.size) (hl : es.size ≤ t.mask) : t.fits es.size = true := by
  unfold SetTable.fits SetTable.fill
  rw [hd, hs]
  simp [hl]
theorem SetN.fits (R : SetN w s.heap a L es ep t) : t.fits es.size = true := by
  have e := rows_size R.rows
  have r := R.room
  refine fits_of R.tab.dm (by rw [R.tab.sz, e]; exact List.length_map _) (by omega)
theorem not_way (T : TabOk t (hashN w L)) : ¬ t.gaveWay = true := by
  unfold SetTable.gaveWay
  rw [mask_odd T.mok]
  decide
theorem searchN (R : SetN w s.heap a L es ep t) {x : Addr} {k : NestedKey} (hx : IsN s.heap k x) (hu : A.units + 8 < cLine) {K : Nat} (hKf : K < 10 * SetTable.turns t.mask)
    (hK : way t.mask (k.hash w) K ∉ t.place.toList) (hb : ∀ c, c < K → way t.mask (k.hash w) c ∈ t.place.toList) {Q : SetFound → Shared → Prop}
    (hin : k ∈ L.map (·.2) → Q (.there none) s) (hout : k ∉ L.map (·.2) → Q (.free (way t.mask (k.hash w) K) false) s) :
    ∀ (f c : Nat) (stand : Option SetTable.Probe), stand.getD (t.probeStart (k.hash w)) = posN t (k.hash w) c → c ≤ K → K - c < f →
      (∀ (i : Nat) p, L[i]? = some p → p.2 = k → ∃ q, c ≤ q ∧ q < K ∧ t.place.toList[i]? = some (way t.mask (k.hash w) q)) →
      wpAny (model P w) A (setSearchFrom a (.ref x) (k.hash w) true f stand) Q E s
  | 0, c, stand, _, _, hf, _ => absurd hf (Nat.not_lt_zero _)
  | f + 1, c, stand, hst, hc, hf, hre => by
    obtain ⟨o, ho, hex, hd⟩ := R.ob
    have hat : ∀ (i : Nat) h, (hashN w L)[i]? = some h → (fun i : Nat => (es[i]?.map (·.1)).getD 0) i = h := fun i h e => by
      unfold hashN at e
      rw [List.getElem?_map] at e
      cases hp : L[i]? with
      | none => rw [hp] at e; cases e
      | some p =>
        rw [hp] at e
        injection e with e
        subst e
        show (es[i]?.map (·.1)).getD 0 = _
        rw [rows_at R.rows hp]
        rfl
    have mine : ∀ (i : Nat) p, L[i]? = some p → p.2 = k → (hashN w L)[i]? = some (k.hash w) := fun i p hp e => by
      unfold hashN
      rw [List.getElem?_map, hp, ← e]
      rfl
    rw [setSearchFrom_succ]
    refine wpAny_bind (wpAny_setState_of ho hd R.fits ?_)
    dsimp only
    refine wp_if_neg (not_way R.tab) ?_
    try refine wpAny_bind (wpAny_pure ?_)
    rw [hst]
    rcases metN R.tab hat hc hKf hK hb with ⟨q, i, q1, q2, hi, hh, hno, hpr⟩ | ⟨hno, hpr⟩
    · rw [hpr]
      dsimp only
      obtain ⟨p, hp, eh⟩ : ∃ p, L[i]? = some p ∧ p.2.hash w = k.hash w := by
        unfold hashN at hh
        rw [List.getElem?_map] at hh
        cases hp : L[i]? with
        | none => rw [hp] at hh; cases hh
        | some p =>
          rw [hp] at hh
          exact ⟨p, rfl, Option.some.inj hh⟩
      have hm : p ∈ L := List.mem_of_getElem? hp
      have rest : wpAny (model P w) A (searchRest a (.ref x) (k.hash w) true f es t (way t.mask (k.hash w) q) i (posN t (k.hash w) (q + 1))) Q E s := by
        unfold searchRest
        rw [rows_at R.rows hp]
        dsimp only
        refine wpAny_bind (wpAny_holding ((nestedKind P w).eqBool (x := p.2) (y := k) hu ⟨(R.key p hm).1, numKey_depth 8 _ (R.key p hm).2⟩ ⟨hx.1, numKey_depth 8 _ hx.2⟩ ?_))
        refine wpAny_bind (wpAny_setState_of ho hd R.fits ?_)
        dsimp only
        by_cases hkk : p.2 = k
        · exact wp_if_pos (by simp [hkk]) (wpAny_pure (hin (List.mem_map.mpr ⟨p, hm, hkk⟩)))
        · refine wp_if_neg (by simp [hkk]) ?_
          try refine wpAny_bind (wpAny_pure ?_)
          rw [sameMem]
          dsimp only
          have sl : t.slot (way t.mask (k.hash w) q) = .live i := slot_live R.tab.ris hi
          simp only [if_true, sl, rows_at R.rows hp]
          refine wpAny_bind (wpAny_isSame_ref_self (wpAny_bind (wpAny_pure ?_)))
          simp only [if_true]
          refine wp_if_neg (by simp [hkk]) ?_
          refine searchN R hx hu hKf hK hb hin hout f (q + 1) _ rfl (by omega) (by omega) fun i0 p0 h0 hk0 => ?_
          obtain ⟨q0, a1, a2, a3⟩ := hre i0 p0 h0 hk0
          refine ⟨q0, ?_, a2, a3⟩
          rcases Nat.lt_trichotomy q0 q with z | z | z
          · exact absurd (mine i0 p0 h0 hk0) (hno q0 i0 a1 z a3)
          · subst z
            have s0 := slot_live R.tab.ris a3
            rw [sl] at s0
            injection s0 with s0
            subst s0
            rw [hp] at h0
            exact absurd ((congrArg Prod.snd (Option.some.inj h0)).trans hk0) hkk
          · omega
      by_cases hl : t.led = true
      · refine wp_if_neg (by simp [hl]) ?_
        try refine wpAny_bind (wpAny_pure ?_)
        exact rest
      · refine wp_if_pos (by simp [hl]) (wpAny_bind (seenN hx (fun y hy => ?_) ?_))
        · obtain ⟨e, he, ee⟩ := List.mem_map.mp hy
          have he1 : e ∈ es ∧ e.1 = k.hash w := by simpa using he
          have he2 : e ∈ es.toList := by simpa using he1.1
          rw [R.rows] at he2
          obtain ⟨p2, hp2, e2⟩ := List.mem_map.mp he2
          exact ⟨p2.2, p2.1, by rw [← ee, ← e2], R.key p2 hp2⟩
        · refine wp_if_neg (by decide) ?_
          try refine wpAny_bind (wpAny_pure ?_)
          exact rest
    · rw [hpr]
      dsimp only
      refine wpAny_pure (hout fun hm => ?_)
      obtain ⟨p0, h0, hk0⟩ := List.mem_map.mp hm
      obtain ⟨i0, hi0, e0⟩ := List.getElem_of_mem h0
      have h00 : L[i0]? = some p0 := by rw [List.getElem?_eq_getElem hi0, e0]
      obtain ⟨q0, a1, a2, a3⟩ := hre i0 p0 h00 hk0
      exact hno q0 i0 a1 a2 a3 (mine i0 p0 h00 hk0)
theorem askN (R : SetN w s.heap a L es ep t) {x : Addr} {k : NestedKey} (hx : IsN s.heap k x) (hu : A.units + 8 < cLine) {Q : SetFound → Shared → Prop}
    (hin : k ∈ L.map (·.2) → Q (.there none) s)
    (hout : ∀ K, k ∉ L.map (·.2) → way t.mask (k.hash w) K ∉ t.place.toList → (∀ c, c < K → way t.mask (k.hash w) c ∈ t.place.toList) → Q (.free (way t.mask (k.hash w) K) false) s) :
    wpAny (model P w) A (setSearch a (.ref x) (k.hash w) true) Q E s := by
  have r := R.room
  have hlen : (hashN w L).length = L.length := List.length_map _
  obtain ⟨K, hKf, hK, hb⟩ := R.tab.first (by rw [hlen]; omega) (k.hash w)
  have hbig : K < 100000 := by
    have : 10 * SetTable.turns t.mask ≤ 1420 := by
      unfold SetTable.turns
      rcases R.tab.mok with e | e | e <;> omega
    omega
  unfold setSearch
  refine searchN R hx hu hKf hK hb hin (fun hn => hout K hn hK hb) 100000 0 none rfl (Nat.zero_le _) (by omega) fun i p hp hk => ?_
  have hh : (hashN w L)[i]? = some (k.hash w) := by
    unfold hashN
    rw [List.getElem?_map, hp, ← hk]
    rfl
  have hil : i < t.place.toList.length := by
    have h1 := (List.getElem?_eq_some_iff.mp hp).1
    rw [Array.length_toList, R.tab.sz, hlen]
    exact h1
  have hj := List.getElem?_eq_getElem hil
  obtain ⟨c, hc, e⟩ := R.tab.before hK hh hj
  exact ⟨c, Nat.zero_le _, hc, by rw [hj, e]⟩
theorem isN_same {h h' : Heap} {k : NestedKey} {b : Addr} {o : Obj} {es : Array (Int × Value)} {ep : Nat} {t : SetTable} (x : IsN h k b) (ho : h.get? a = some o) (hd : o.data = .set es ep t) (hs : Heap.SameBut a h h') : IsN h' k b :=
  ⟨NestedIs.at (fun c oc vs n hc hcd => (hs.2 c fun e => by
    rw [e, ho] at hc
    cases hc
    rw [hd] at hcd
    cases hcd).trans hc) k _ x.1, x.2⟩
theorem isN_keep {h h' : Heap} {k : NestedKey} {b : Addr} (x : IsN h k b) (hk : ∀ c o, h.get? c = some o → h'.get? c = some o) : IsN h' k b := ⟨NestedIs.at (fun c oc _ _ hc _ => hk c oc hc) k _ x.1, x.2⟩
theorem orderN (hr : es.toList = rowsN w L) {order : Array Nat} (hp : order.toList.Perm (List.range L.length)) :
    ∃ L2, (order.filterMap (es[·]?)).toList = rowsN w L2 ∧ L2.Perm L ∧ hashN w L2 = order.toList.map fun i => (es.map (·.1)).getD i 0 := by
  have pick : ∀ l : List Nat, (∀ i ∈ l, i < L.length) → l.filterMap (fun i => es[i]?) = rowsN w (l.filterMap fun i => L[i]?) ∧ hashN w (l.filterMap fun i => L[i]?) = l.map fun i => (es.map (·.1)).getD i 0 := fun l => by
    induction l with
    | nil => exact fun _ => ⟨rfl, rfl⟩
    | cons i l ih =>
      intro hl
      have hi := List.getElem?_eq_getElem (hl i List.mem_cons_self)
      have he := rows_at hr hi
      obtain ⟨e1, e2⟩ := ih fun j hj => hl j (List.mem_cons_of_mem _ hj)
      rw [List.filterMap_cons_some he, List.filterMap_cons_some hi, e1]
      refine ⟨rfl, ?_⟩
      have e3 : (es.map (·.1)).getD i 0 = (L[i]'(hl i List.mem_cons_self)).2.hash w := by
        have : (es.map (·.1))[i]? = some ((L[i]'(hl i List.mem_cons_self)).2.hash w) := by rw [Array.getElem?_map, he]; rfl
        simp [Array.getD_eq_getD_getElem?, this]
      show _ :: hashN w _ = _
      rw [List.map_cons, e3, e2]
  obtain ⟨e1, e2⟩ := pick order.toList fun i hi => List.mem_range.mp (hp.mem_iff.mp hi)
  refine ⟨order.toList.filterMap fun i => L[i]?, by first | (rw [Array.toList_filterMap]; exact e1) | simpa using e1, (hp.filterMap _).trans (.of_eq ?_), e2⟩
  have all : ∀ n, n ≤ L.length → (List.range n).filterMap (fun i => L[i]?) = L.take n := fun n => by
    induction n with
    | zero => exact fun _ => rfl
    | succ n ih =>
      intro hn
      rw [List.range_succ, List.filterMap_append, ih (by omega), List.take_succ, List.getElem?_eq_getElem (show n < L.length by omega)]
      rw [List.filterMap_cons_some (List.getElem?_eq_getElem (show n < L.length by omega))]
      rfl
  rw [all L.length (Nat.le_refl _), List.take_length]
theorem relayN {o : Obj} (ho : s.heap.get? a = some o) (hex : o.ExactSet) (hd : o.data = .set es ep t) (hr : es.toList = rowsN w L) (hsz : t.place.size = es.size) (hdm : t.dummies = #[]) (hfl : es.size ≤ t.mask)
    (nd : (L.map (·.2)).Nodup) (key : ∀ p ∈ L, IsN s.heap p.2 p.1) (pl : t.plain = true) (ld : w.params.followText "set-order" = true ∨ t.led = true) (few : L.length < 64) {wanted M : Nat}
    (hw : SetTable.sizeAbove wanted - 1 = M) (hM : MaskOk M) (hw2 : SetTable.sizeAbove wanted ≤ 128) (hn : L.length * 5 < M * 3) {Q : Unit → Shared → Prop}
    (hQ : ∀ h' L' es' ep' t', Heap.SameBut a s.heap h' → SetN w h' a L' es' ep' t' → L'.Perm L → Q () { s with heap := h' }) : wpAny (model P w) A (setRelay a wanted) Q E s := by
  have hsl := rows_size hr
  obtain ⟨t', order, e, hp, T, em, el, epl, ed⟩ := relaid_ok t (hs := es.map (·.1)) (wanted := wanted) hw hM (by rw [Array.size_map, hsl]; omega)
  rw [Array.size_map, hsl] at hp
  obtain ⟨L2, r1, r2, r3⟩ := orderN hr hp
  rw [← r3] at T
  have hs2 : (order.filterMap (es[·]?)).size = es.size := by rw [rows_size r1, r2.length_eq, hsl]
  rw [setRelay_eq]
  refine wpAny_bind (wpAny_setState_of ho hd (fits_of hdm hsz hfl) ?_)
  dsimp only
  refine wp_if_neg (by rw [sizeLine_eq]; omega) ?_
  try refine wpAny_bind (wpAny_pure ?_)
  rw [e]
  dsimp only
  refine wpAny_bind (wp_if_neg (by rw [hs2]; simp) ?_)
  try refine wpAny_bind (wpAny_pure ?_)
  refine wpAny_pure ?_
  dsimp only
  refine wpAny_storeSet_of ho hd ?_ (by rw [hs2, hsl, sizeLine_eq]; omega)
  have sb : Heap.SameBut a s.heap (s.heap.update a (Obj.putSet (order.filterMap (es[·]?)) t')) := Heap.SameBut.update ..
  refine hQ _ L2 (order.filterMap (es[·]?)) (ep + 1) t' sb ⟨⟨_, store_at ho hd, ⟨hex.1, hex.2.1, hex.2.2⟩, rfl⟩, r1, T, (r2.map (·.2)).nodup_iff.mpr nd, fun p hpm => isN_same (key p (r2.mem_iff.mp hpm)) ho hd sb, by rw [epl]; exact pl, by rw [el]; exact ld, by rw [r2.length_eq, em]; exact hn, by rw [r2.length_eq]; exact few⟩ r2
theorem addN (R : SetN w s.heap a L es ep t) {x : Addr} {k : NestedKey} (hx : IsN s.heap k x) (hu : A.units + 8 < cLine) (hfew : L.length + 1 < 64) {Q : Bool → Shared → Prop}
    (hQ : ∀ b h' L' es' ep' t', Heap.SameBut a s.heap h' → SetN w h' a L' es' ep' t' → (k ∈ L.map (·.2) → L' = L) → (k ∉ L.map (·.2) → L'.Perm ((x, k) :: L)) → Q b { s with heap := h' }) :
    wpAny (model P w) A (setAddHashed a (.ref x) (k.hash w)) Q E s := by
  obtain ⟨o, ho, hex, hd⟩ := R.ob
  have hsl := rows_size R.rows
  have hroom := R.room
  have hlen : (hashN w L).length = L.length := List.length_map _
  unfold setAddHashed
  refine wpAny_holding ?_
  rw [show (100000 : Nat) = 99999 + 1 from rfl, setAddHashedIn_succ]
  refine wpAny_bind (wpAny_setState_of ho hd R.fits ?_)
  dsimp only
  refine wp_if_neg (by simp [byScan, Value.scannable]) ?_
  try refine wpAny_bind (wpAny_pure ?_)
  refine wpAny_bind (askN R hx hu (fun hm => ?_) fun K hm hK hb => ?_)
  · exact wpAny_pure (hQ false s.heap L es ep t (Heap.SameBut.refl a s.heap) R (fun _ => rfl) fun z => absurd hm z)
  · dsimp only
    refine wpAny_bind (wpAny_setState_of ho hd R.fits ?_)
    dsimp only
    obtain ⟨q1, q2, q3, q4, q5, q6, q7, q8, q9⟩ := R.tab.put hK hb
    rw [R.plain] at q6
    generalize ej : way t.mask (k.hash w) K = j at *
    generalize ept : t.put j = pt at q1 q3 q4 q5 q6 q7 q8 q9 ⊢
    obtain ⟨t1, i⟩ := pt
    dsimp only at q1 q3 q4 q5 q6 q7 q8 q9 ⊢
    subst q1
    have bv : ∀ {Q : Bool → Shared → Prop}, Q true s → wpAny (model P w) A (hashByValue 8 (.ref x)) Q E s := fun q => byVal 8 _ _ _ hx.1 hx.2 q
    first
      | (refine wpAny_bind ?_; refine wp_if_pos q6 ?_; refine bv ?_)
      | refine wp_if_pos q6 (wpAny_bind (bv ?_))
    simp only [if_true]
    generalize ei : SetTable.below t.place j = i at *
    have hin : (SetTable.insertAt es i (k.hash w, Value.ref x)).toList = rowsN w (L.take i ++ (x, k) :: L.drop i) := by
      rw [SetTable.toList_insertAt, R.rows]
      unfold rowsN
      rw [List.map_append, List.map_cons, List.map_take, List.map_drop]
    have hhs : hashN w (L.take i ++ (x, k) :: L.drop i) = (hashN w L).take i ++ k.hash w :: (hashN w L).drop i := by
      unfold hashN
      rw [List.map_append, List.map_cons, List.map_take, List.map_drop]
    rw [← hhs] at q3
    have pm : (L.take i ++ (x, k) :: L.drop i).Perm ((x, k) :: L) := put_perm L i (x, k)
    generalize L.take i ++ (x, k) :: L.drop i = L1 at *
    have l1 : L1.length = L.length + 1 := pm.length_eq
    have nd1 : (L1.map (·.2)).Nodup := (pm.map (·.2)).nodup_iff.mpr (by
      rw [List.map_cons]
      exact List.nodup_cons.mpr ⟨hm, R.nd⟩)
    have z1 := rows_size hin
    generalize SetTable.insertAt es i (k.hash w, Value.ref x) = es1 at *
    refine wpAny_bind (wpAny_storeSet_of ho hd ?_ (by rw [z1, l1, sizeLine_eq]; omega))
    have sb : Heap.SameBut a s.heap (s.heap.update a (Obj.putSet es1 t1)) := Heap.SameBut.update ..
    have ho1 := store_at (es' := es1) (t' := t1) ho hd
    generalize s.heap.update a (Obj.putSet es1 t1) = h1 at *
    have key1 : ∀ p ∈ L1, IsN h1 p.2 p.1 := fun p hp => by
      rcases List.mem_cons.mp (pm.mem_iff.mp hp) with e | hp
      · rw [e]; exact isN_same hx ho hd sb
      · exact isN_same (R.key p hp) ho hd sb
    have ld1 : w.params.followText "set-order" = true ∨ t1.led = true := by rw [q5]; exact R.led
    have full : t1.tooFull = decide ((L.length + 1) * 5 ≥ t1.mask * 3) := by
      unfold SetTable.tooFull
      rw [q9, hlen]
    by_cases hf : t1.tooFull = true
    · first
        | (refine wpAny_bind ?_; refine wp_if_pos (by simp [hf]) ?_)
        | (refine wp_if_pos (by simp [hf]) ?_; refine wpAny_bind ?_)
      have hfull : (L.length + 1) * 5 ≥ t1.mask * 3 := by
        rw [full] at hf
        exact of_decide_eq_true hf
      rw [hsl]
      have zs : t1.place.size = es1.size := by
        have z := q3.sz
        rw [show (hashN w L1).length = L1.length from List.length_map _] at z
        rw [z, z1]
      have go : ∀ M, SetTable.sizeAbove (SetTable.grown (L.length + 1)) - 1 = M → MaskOk M → SetTable.sizeAbove (SetTable.grown (L.length + 1)) ≤ 128 → (L.length + 1) * 5 < M * 3 → es1.size ≤ t1.mask →
          wpAny (model P w) A (setRelay a (SetTable.grown (L.length + 1))) (fun _ s' => wpAny (model P w) A (pure true) Q E s') E { s with heap := h1 } := fun M a1 a2 a3 a4 a5 =>
        relayN (s := { s with heap := h1 }) ho1 ⟨hex.1, hex.2.1, hex.2.2⟩ rfl hin zs q3.dm a5 nd1 key1 q6 ld1 (by omega) a1 a2 a3 (by omega) fun h2 L2 es2 ep2 t2 sb2 R2 pm2 =>
          wpAny_pure (hQ true h2 L2 es2 ep2 t2 (sb.trans sb2) R2 (fun z => absurd z hm) fun _ => pm2.trans pm)
      rcases R.tab.mok with e | e | e
      · have e4 : L.length = 4 := by rw [q4, e] at hfull; rw [e] at hroom; omega
        exact go 31 (by rw [e4, size_20]) (.inr (.inl rfl)) (by rw [e4, size_20]; decide) (by omega) (by rw [z1, l1, q4, e, e4]; decide)
      · have e4 : L.length = 18 := by rw [q4, e] at hfull; rw [e] at hroom; omega
        exact go 127 (by rw [e4, size_76]) (.inr (.inr rfl)) (by rw [e4, size_76]; decide) (by omega) (by rw [z1, l1, q4, e, e4]; decide)
      · exfalso; rw [q4, e] at hfull; omega
    · first
        | refine wp_if_neg (by simp [hf]) ?_
        | (refine wpAny_bind ?_; refine wp_if_neg (by simp [hf]) ?_; refine wpAny_pure ?_)
      refine wpAny_pure (hQ true h1 L1 es1 (ep + 1) t1 sb ⟨⟨_, ho1, ⟨hex.1, hex.2.1, hex.2.2⟩, rfl⟩, hin, q3, nd1, key1, q6, ld1, ?_, by omega⟩ (fun z => absurd z hm) fun _ => pm)
      have hf' : ¬ (L.length + 1) * 5 ≥ t1.mask * 3 := fun z => hf (by rw [full]; exact decide_eq_true z)
      omega
end
structure GotN (ks : List (Addr × NestedKey)) (i : Nat) (L : List (Addr × NestedKey)) : Prop where
  sub : ∀ p ∈ L, p ∈ ks.take i
  all : ∀ p ∈ ks.take i, p.2 ∈ L.map (·.2)
  len : L.length ≤ i
section
variable {ks L L' : List (Addr × NestedKey)} {i : Nat} {x : Addr × NestedKey}
theorem GotN.zero (ks : List (Addr × NestedKey)) : GotN ks 0 [] := ⟨fun p h => (by cases h), fun p h => (by simp at h), Nat.le_refl _⟩
theorem GotN.same (g : GotN ks i L) (h : ks[i]? = some x) (hm : x.2 ∈ L.map (·.2)) : GotN ks (i + 1) L := by
  have e := take_next h
  refine ⟨fun p hp => by rw [e]; exact List.mem_append_left _ (g.sub p hp), fun p hp => ?_, Nat.le_succ_of_le g.len⟩
  rw [e] at hp
  rcases List.mem_append.mp hp with z | z
  · exact g.all p z
  · rw [List.mem_singleton.mp z]
    exact hm
theorem GotN.more (g : GotN ks i L) (h : ks[i]? = some x) (pm : L'.Perm (x :: L)) : GotN ks (i + 1) L' := by
  have e := take_next h
  refine ⟨fun p hp => ?_, fun p hp => ?_, by rw [pm.length_eq, List.length_cons]; exact Nat.succ_le_succ g.len⟩
  · rw [e]
    rcases List.mem_cons.mp (pm.mem_iff.mp hp) with rfl | z
    · exact List.mem_append_right _ (List.mem_singleton.mpr rfl)
    · exact List.mem_append_left _ (g.sub p z)
  · rw [(pm.map (·.2)).mem_iff, List.map_cons]
    rw [e] at hp
    rcases List.mem_append.mp hp with z | z
    · exact List.mem_cons_of_mem _ (g.all p z)
    · rw [List.mem_singleton.mp z]
      exact List.mem_cons_self
end
section
variable {P : Program} {w : World} {A : Around} {E : Value → Shared → Prop} {s : Shared}
theorem SetN.keep {h h' : Heap} {a : Addr} {L : List (Addr × NestedKey)} {es : Array (Int × Value)} {ep : Nat} {t : SetTable} (R : SetN w h a L es ep t) (ha : ∀ o, h.get? a = some o → h'.get? a = some o) (ht : ∀ p ∈ L, IsN h' p.2 p.1) : SetN w h' a L es ep t := by
  obtain ⟨o, ho, r⟩ := R.ob
  exact ⟨⟨o, ha o ho, r⟩, R.rows, R.tab, R.nd, ht, R.plain, R.led, R.room, R.few⟩
theorem setN_bare {h : Heap} {a : Addr} (ho : h.get? a = some (bare w)) : SetN w h a [] #[] 0 (.fresh 0 0 (!w.params.followText "set-order")) where
  ob := ⟨_, ho, ⟨rfl, rfl, rfl⟩, rfl⟩
  rows := rfl
  tab := ⟨List.Pairwise.nil, rfl, rfl, .inl rfl, fun x hx => (by cases hx), fun i h j hi => (by simp [hashN] at hi)⟩
  nd := List.nodup_nil
  key := fun p hp => by cases hp
  plain := rfl
  led := by
    show _ ∨ (!w.params.followText "set-order") = true
    cases w.params.followText "set-order"
    · exact .inr rfl
    · exact .inl rfl
  room := by show 0 * 5 < 7 * 3; decide
  few := by show 0 < 64; decide
theorem updateN {I : Addr} {fp wr : List Addr} {G : Array GenState → Array GenState → Prop} {n : Nat} {Pv : Nat → Value → Prop} {St : Nat → Shared → Prop} {R : Result → Shared → Prop}
    (W : WalksS P w A.in1 I fp wr G n Pv St) (S : Addr) (hSf : S ∉ fp) (ks : List (Addr × NestedKey)) (hn : n = ks.length) (hfew : ks.length < 64) (hval : ∀ i v, Pv i v → ∃ p, ks[i]? = some p ∧ v = .ref p.1)
    (h0 : Heap) (hk : ∀ p ∈ ks, IsN h0 p.2 p.1) (hS0 : h0.get? S = none) (hw0 : ∀ b ∈ wr, h0.get? b = none) (hu : A.in1.units + 8 < cLine) :
    ∀ (m i : Nat) (s : Shared), n - i = m → i ≤ n → St i s → (∀ b o, h0.get? b = some o → s.heap.get? b = some o) → (∃ L es ep t, SetN w s.heap S L es ep t ∧ GotN ks i L) →
      (∀ s' L es ep t, Moved (S :: wr) G s s' → SetN w s'.heap S L es ep t → GotN ks n L → (∀ b o, h0.get? b = some o → s'.heap.get? b = some o) → R (.ok (.ret .none)) s') →
      codeAny (model P w) A (.builtin "set.update.loop" ⟨[.ref S, .ref I], []⟩) R s
  | m, i, s, hm, hi, hst, hkp, ⟨L, es, ep, t, hS, g⟩, hR => by
    have hSw : S ∉ wr := fun h => hSf (W.sub _ h)
    have hsub : ∀ b ∈ wr, b ∈ S :: wr := fun b hb => List.mem_cons_of_mem _ hb
    have stay : ∀ {s' : Shared}, Moved wr G s s' → ∀ b o, h0.get? b = some o → s'.heap.get? b = some o := fun hm b o e => hm.heap b o (fun hb => by rw [hw0 b hb] at e; cases e) (hkp b o e)
    have mine : ∀ p ∈ L, p ∈ ks := fun p hp => List.mem_of_mem_take (g.sub p hp)
    refine codeAny_builtin F.entry_set_update_loop ?_
    rw [Around.under_plainId F.plain_set_update_loop _]
    show wpAny _ A.in1 (pyNext (.ref I) >>= _) _ _ s
    match m, hm with
    | 0, hm =>
      have e : i = n := by omega
      subst e
      refine wpAny_bind (W.done s _ _ hst fun s' mv => ?_)
      show wpAny _ A.in1 (ret Value.none) _ _ s'
      exact wpAny_pure (hR s' L es ep t (mv.mono hsub) (hS.keep (fun o e => mv.heap S o hSw e) fun p hp => isN_keep (hk p (mine p hp)) (stay mv)) g (stay mv))
    | m + 1, hm =>
      have lt : i < n := by omega
      refine wpAny_bind (W.item i s _ _ lt hst fun v s' hP hst' mv => ?_)
      obtain ⟨p, hp, rfl⟩ := hval i v hP
      have hx : IsN s'.heap p.2 p.1 := isN_keep (hk p (List.mem_of_getElem? hp)) (stay mv)
      have hS' : SetN w s'.heap S L es ep t := hS.keep (fun o e => mv.heap S o hSw e) fun q hq => isN_keep (hk q (mine q hq)) (stay mv)
      show wpAny _ A.in1 (holding [Value.ref p.1] (setAdd S (.ref p.1)) >>= _) _ _ s'
      refine wpAny_bind (wpAny_holding ?_)
      unfold setAdd
      refine wpAny_holding (wpAny_bind ((nestedKind P w).pyHash (k := p.2) hu ⟨hx.1, numKey_depth 8 _ hx.2⟩ ?_))
      refine addN (s := { s' with toks := s'.toks + p.2.draws }) hS' hx hu (by have := g.len; omega) fun b h' L' es' ep' t' sb hS2 c1 c2 => ?_
      have g' : GotN ks (i + 1) L' := by
        by_cases c : p.2 ∈ L.map (·.2)
        · rw [c1 c]; exact g.same hp c
        · exact g.more hp (c2 c)
      have kp2 : ∀ b o, h0.get? b = some o → h'.get? b = some o := fun b o e => (sb.2 b (fun z => by rw [z, hS0] at e; cases e)).trans (stay mv b o e)
      refine wpAny_pure ⟨plainId_quiet F.plain_set_update_loop _, updateN W S hSf ks hn hfew hval h0 hk hS0 hw0 hu m (i + 1) _ (by omega) lt (W.frame _ s' _ _ hst' (Nat.le_add_right _ _) fun b hb o e => ?_) kp2 ⟨L', es', ep', t', hS2, g'⟩ fun s'' L2 es2 ep2 t2 mv2 hS3 g3 kp3 => ?_⟩
      · rw [sb.2 b (fun h : b = S => hSf (by rw [← h]; exact hb))]; exact e
      · refine hR s'' L2 es2 ep2 t2 (Moved.trans W.gtrans ((mv.mono hsub).then_heap (Nat.le_add_right _ _) fun b o hb e => ?_) mv2) hS3 g3 kp3
        rw [sb.2 b (fun h : b = S => hb (by rw [h]; exact List.mem_cons_self))]; exact e
def FilledN (w : World) (s : Shared) (ks : List (Addr × NestedKey)) (s' : Shared) : Prop := ∃ h' tk L es ep t, s' = { s with heap := h', toks := tk } ∧ SetN w h' s.heap.objs.size L es ep t ∧ GotN ks ks.length L ∧ ∀ b o, s.heap.get? b = some o → h'.get? b = some o
theorem fillN_lst {l : Addr} {xs : Array Value} {ks : List (Addr × NestedKey)} (hh : A.handled = none) (hu : A.units + 16 < cLine) (hl : s.heap.IsList l xs) (hi : xs.toList = ks.map fun p => Value.ref p.1) (hk : ∀ p ∈ ks, IsN s.heap p.2 p.1) (hb : ks.length < 64) :
    codeAny (model P w) A (.call (.builtin "set.__init__") ⟨[.ref s.heap.objs.size, .ref l], []⟩) (wants (fun r s₂ => r = .none ∧ FilledN w s ks s₂) E) { s with heap := s.heap.push (bare w) } := by
  have len : xs.size = ks.length := by
    have q := congrArg List.length hi
    simpa using q
  obtain ⟨o, ho, hc, k, hd⟩ := hl
  obtain ⟨oc, odi, oda, osl⟩ := o
  simp only at hc hd
  subst hc hd
  have lt0 : l < s.heap.objs.size := Heap.lt_size ho
  have sz : (s.heap.push (bare w)).objs.size = s.heap.objs.size + 1 := Heap.size_push ..
  have at_ : (s.heap.push (bare w)).get? l = some { cls := .type "list", dict := odi, data := .seq xs k, slots := osl } := Heap.get?_push_of_some _ ho
  have isl : (s.heap.push (bare w)).IsList l xs := ⟨_, at_, rfl, k, rfl⟩
  have ty : Shared.TypeIs { s with heap := s.heap.push (bare w) } (.ref s.heap.objs.size) "set" := ⟨_, Heap.get?_push_size _ rfl, rfl⟩
  refine codeAny_call_builtin F.called_set.init.plain F.entry_set_init (check_set_init_1 ty ?_)
  have f1 := F.sub_list_set
  have f2 := F.sub_list_frozenset
  have f3 : (Value.type "list" == Value.type "dict") = false := by decide
  unfold Builtin.«set.__init__» noKeywords Builtin.Frozenset.updateFrom
  generalize hit : pyIter = it
  wp_walk
  subst hit
  refine wpAny_pyIter_list isl (wpAny_bind (wpAny_runValue ?_))
  have away : l ≠ (s.heap.push (bare w)).objs.size := by rw [sz]; exact Nat.ne_of_lt (Nat.lt_succ_of_lt lt0)
  have away2 : s.heap.objs.size ∉ [(s.heap.push (bare w)).objs.size, l] := by simp [sz]; exact Nat.ne_of_gt lt0
  have val : ∀ (i : Nat) (v : Value), xs[i]? = some v → ∃ p, ks[i]? = some p ∧ v = .ref p.1 := fun i v hv => by
    have q : xs.toList[i]? = some v := by rw [Array.getElem?_toList]; exact hv
    rw [hi, List.getElem?_map] at q
    obtain ⟨p, hp, e⟩ := Option.map_eq_some_iff.mp q
    exact ⟨p, hp, e.symm⟩
  have free : ∀ b, s.heap.objs.size ≤ b → s.heap.get? b = none := fun b hb => by
    cases q : s.heap.get? b with
    | none => rfl
    | some o => exact absurd (Heap.lt_size q) (Nat.not_lt.mpr hb)
  have g0 : ((s.heap.push (bare w)).push (walker l)).get? s.heap.objs.size = some (bare w) := Heap.get?_push_of_some _ (Heap.get?_push_size _ rfl)
  refine updateN ((Walks.list (by simp [hh]) _ l away xs).toS) s.heap.objs.size away2 ks len hb val s.heap hk (free _ (Nat.le_refl _)) (fun b hb => free b (by rw [List.mem_singleton.mp hb, sz]; exact Nat.le_succ _)) (by simp; omega)
    (xs.size - 0) 0 _ (by omega) (Nat.zero_le _) ⟨⟨_, Heap.get?_push_size _ rfl, rfl, rfl⟩, isl.push _⟩ (fun b o e => Heap.get?_push_of_some _ (Heap.get?_push_of_some _ e)) ⟨[], #[], 0, _, setN_bare g0, GotN.zero ks⟩ fun s' L es ep t hm hs hg keep => ?_
  obtain ⟨h', g', d', tk', os'⟩ := s'
  obtain rfl : g' = s.gens := hm.gens
  obtain rfl : d' = s.drawn := hm.drawn
  obtain rfl : os' = s.os := hm.os
  show wpAny _ _ _ _ _ _
  refine wpAny_pure ?_
  show wpAny _ _ (ret Value.none) _ _ _
  rw [len] at hg
  exact wpAny_pure ⟨rfl, h', tk', L, es, ep, t, rfl, hs, hg, keep⟩
theorem setN_lst {l : Addr} {xs : Array Value} {ks : List (Addr × NestedKey)} {Q : Value → Shared → Prop} (hh : A.handled = none) (hu : A.units + 64 < cLine) (hl : s.heap.IsList l xs) (hi : xs.toList = ks.map fun p => Value.ref p.1) (hk : ∀ p ∈ ks, IsN s.heap p.2 p.1) (hb : ks.length < 64) (q : ∀ s', FilledN w s ks s' → Q (.ref s.heap.objs.size) s') :
    wpAny (model P w) A (call (.type "set") [.ref l]) Q E s := by
  obtain ⟨c, tl, mro⟩ := F.called_set.mro
  have m1 := F.called_set.made
  have m2 := F.called_set.sub
  have m3 := F.called_set.notType
  have m4 := F.called_set.canCreate
  have m5 := F.typeCall_set_1 (.ref l)
  refine wpAny_call (codeAny_of_tree ?_)
  show wpAny _ _ (callAny (.type "set") _) _ _ _
  refine wpAny_pure ⟨Code.quiet_builtin _ (by decide +kernel), codeAny_builtin F.entry_type_call ?_⟩
  rw [Around.under_plain (weight_type_call_type "set" [.ref l] []) rfl]
  repeat (any_goals (first | assumption | wp_step))
  refine codeAny_mono (code_set_led1 (.ref l) (E := E) (Q₁ := fun o t => o = .ref s.heap.objs.size ∧ t = { s with heap := s.heap.push (bare w) }) ⟨rfl, rfl⟩) fun r t hr => ?_
  cases r with
  | error e => exact hr
  | ok fl =>
    cases fl with
    | ret obj =>
      obtain ⟨rfl, rfl⟩ := hr
      have i1 := F.called_set.init.lookup
      have i2 := F.called_set.init.bind (.ref s.heap.objs.size)
      have is : Shared.TypeIs { s with heap := s.heap.push (bare w) } (.ref s.heap.objs.size) "set" := ⟨_, Heap.get?_push_size _ rfl, rfl⟩
      repeat (any_goals (first | assumption | wp_step))
      refine codeAny_mono (fillN_lst (P := P) (E := E) (by simp [hh]) (by simp; omega) hl hi hk hb) fun r2 s2 hr2 => ?_
      cases r2 with
      | error e => exact hr2
      | ok fl2 =>
        cases fl2 with
        | ret r =>
          obtain ⟨rfl, hf⟩ := hr2
          repeat (any_goals (first | assumption | wp_step))
          exact q _ hf
        | _ => exact hr2.elim
    | _ => exact hr.elim
end
end L2
namespace L2
open PySem PySem.Spec PyProof.Rows PySem.W
theorem perm_liftN {α β : Type} {f : α → β} {vs ws : List β} (h : vs.Perm ws) : ∀ L : List α, ws = L.map f → ∃ L1 : List α, vs = L1.map f ∧ L1.Perm L := by
  induction h with
  | nil => exact fun L e => ⟨[], rfl, by rw [List.map_eq_nil_iff.mp e.symm]⟩
  | cons x _ ih =>
    intro L e
    cases L with
    | nil => cases e
    | cons y L =>
      rw [List.map_cons, List.cons.injEq] at e
      obtain ⟨L1, e1, p1⟩ := ih L e.2
      exact ⟨y :: L1, by rw [List.map_cons, e.1, e1], p1.cons y⟩
  | swap x y l =>
    intro L e
    match L, e with
    | [], e => cases e
    | [_], e => simp at e
    | a :: b :: L, e =>
      simp only [List.map_cons, List.cons.injEq] at e
      exact ⟨b :: a :: L, by simp [e.1, e.2.1, e.2.2], List.Perm.swap a b L⟩
  | trans _ _ ih1 ih2 =>
    intro L e
    obtain ⟨L2, e2, p2⟩ := ih2 L e
    obtain ⟨L1, e1, p1⟩ := ih1 L2 e2
    exact ⟨L1, e1, p1.trans p2⟩
section
variable {P : Program} {w : World} {A : Around} {E : Value → Shared → Prop} {s : Shared} {β : Type} {enc : β → PyData} {ad : β → Addr}
theorem each_refs : ∀ bs : List β, EachIs (fun v b => v = Value.ref (ad b)) (bs.map fun b => Value.ref (ad b)) bs
  | [] => .nil
  | b :: bs => .cons rfl (each_refs bs)
theorem refs_each : ∀ {bs : List β} {vs : List Value}, EachIs (fun v b => v = Value.ref (ad b)) vs bs → vs = bs.map fun b => Value.ref (ad b)
  | _, _, .nil => rfl
  | _, _, .cons h r => by rw [List.map_cons, h, refs_each r]
theorem sortedN {a : Addr} {L : List (Addr × NestedKey)} {es : Array (Int × Value)} {ep : Nat} {t : SetTable} {bs : List β} {Q : Value → Shared → Prop} (R : SetN w s.heap a L es ep t) (hh : A.handled = none) (hb : (L.map fun q => Value.ref q.1) = bs.map fun b => Value.ref (ad b))
    (rd : ∀ b ∈ bs, ∃ as, Reads s.heap (.ref (ad b)) (enc b) as) (hal : AllAlike (bs.map enc)) (hk : Sortable (bs.map enc)) (hu : ∀ b, b ∈ bs → A.units + 2 + (enc b).depth < cLine)
    (hQ : ∀ s' p (out : Array Value) (c : Nat) (bs' : List β), (∀ b o, s.heap.get? b = some o → s'.heap.get? b = some o) → s'.gens = s.gens → s'.os = s.os → s.heap.objs.size ≤ p →
      s'.heap.get? p = some (seqObj "list" out c) → bs'.Perm bs → out.toList = (bs'.mergeSort (dataLe false enc)).map (fun b => Value.ref (ad b)) → Q (.ref p) s') :
    wpAny (model P w) A (call (.builtin "sorted") [.ref a]) Q E s := by
  obtain ⟨o, ho, hex, hd⟩ := R.ob
  have hsz := rows_size R.rows
  have hfew := R.few
  refine Calls.call_function_entry kind_sorted plain_sorted entry_sorted (args_sorted1 _) ?_
  unfold Builtin.«sorted»
  refine wpAny_bind (m := checkCount "sorted" 1 1 _) (wpAny_pure ?_)
  refine wpAny_bind (collect_set (A := A.in1) hh ⟨o, ho, hex.1, hd⟩ R.fits (by unfold scanBound; omega) R.tab.ris R.led fun s1 vs k1 hz g1 o1 pm => ?_)
  have ev : es.toList.map (·.2) = bs.map fun b => Value.ref (ad b) := by
    rw [R.rows, ← hb]
    unfold rowsN
    rw [List.map_map]
    rfl
  obtain ⟨bs1, rfl, p1⟩ := perm_liftN pm bs ev
  have lbs : bs.length = L.length := by
    have := congrArg List.length hb
    simpa using this.symm
  have vl : (bs1.map fun b => Value.ref (ad b)).length ≤ sizeLine := by rw [List.length_map, p1.length_eq, lbs, sizeLine_eq]; omega
  refine wpAny_bind (wpAny_newList ?_ vl)
  have hoL : (s1.heap.push (seqObj "list" (bs1.map fun b => Value.ref (ad b)).toArray 0)).get? s1.heap.objs.size = some (seqObj "list" (bs1.map fun b => Value.ref (ad b)).toArray 0) := Heap.get?_push_size _ rfl
  have old : ∀ b o, s.heap.get? b = some o → (sortingHeap (s1.heap.push (seqObj "list" (bs1.map fun b => Value.ref (ad b)).toArray 0)) s1.heap.objs.size (bs1.map fun b => Value.ref (ad b))).get? b = some o := fun b o e =>
    sortingHeap_old (Nat.ne_of_lt (Heap.lt_size (k1 b o e))) (Heap.get?_push_of_some _ (k1 b o e))
  have er : EachIs (fun v b => ∃ as, Reads (sortingHeap (s1.heap.push (seqObj "list" (bs1.map fun b => Value.ref (ad b)).toArray 0)) s1.heap.objs.size (bs1.map fun b => Value.ref (ad b))) v (enc b) as) (bs1.map fun b => Value.ref (ad b)) bs1 := by
    have go : ∀ cs : List β, (∀ b ∈ cs, b ∈ bs) → EachIs (fun v b => ∃ as, Reads (sortingHeap (s1.heap.push (seqObj "list" (bs1.map fun b => Value.ref (ad b)).toArray 0)) s1.heap.objs.size (bs1.map fun b => Value.ref (ad b))) v (enc b) as) (cs.map fun b => Value.ref (ad b)) cs := fun cs => by
      induction cs with
      | nil => exact fun _ => .nil
      | cons b cs ih =>
        intro hc
        obtain ⟨as, r⟩ := rd b (hc b List.mem_cons_self)
        exact .cons ⟨as, PyProof.Rows.Reads.keeps (fun b o e => old b o e) r⟩ (ih fun x hx => hc x (List.mem_cons_of_mem _ hx))
    exact go bs1 fun b hb1 => p1.mem_iff.mp hb1
  have hal1 : AllAlike (bs1.map enc) := fun x hx y hy => hal x ((p1.map enc).mem_iff.mp hx) y ((p1.map enc).mem_iff.mp hy)
  have hk1 : Sortable (bs1.map enc) := by
    rcases hk with h | h
    · exact .inl fun d hd => h d ((p1.map enc).mem_iff.mp hd)
    · exact .inr fun d hd => h d ((p1.map enc).mem_iff.mp hd)
  have hu1 : ∀ b, b ∈ bs1 → A.units + 2 + (enc b).depth < cLine := fun b hb1 => hu b (p1.mem_iff.mp hb1)
  have S := SortsAt.data (prog := P) (w := w) (A := A.in1.in1) (s := { s1 with heap := sortingHeap (s1.heap.push (seqObj "list" (bs1.map fun b => Value.ref (ad b)).toArray 0)) s1.heap.objs.size (bs1.map fun b => Value.ref (ad b)) }) (each_map (R := fun v d => ∃ as, Reads (sortingHeap (s1.heap.push (seqObj "list" (bs1.map fun b => Value.ref (ad b)).toArray 0)) s1.heap.objs.size (bs1.map fun b => Value.ref (ad b))) v d as) enc er) hal1 hk1 (bound_map hu1)
  refine wpAny_bind (wpAny_holding (wpAny_call_entry slot_list_sort ⟨_, hoL, rfl⟩ entry_list_sort (list_sort_vals (s := { s1 with heap := s1.heap.push (seqObj "list" (bs1.map fun b => Value.ref (ad b)).toArray 0) }) hoL S vl ⟨_, rfl, wpAny_pure ⟨_, rfl, ?_⟩⟩) (args_list_sort _)))
  have so := refs_each (sortVals_data false (R := fun v b => v = Value.ref (ad b)) (each_refs bs1) er hal1)
  obtain ⟨c, hc⟩ := sortedHeap_at (vs := bs1.map fun b => Value.ref (ad b)) (out := (sortVals (dataKind (sortingHeap (s1.heap.push (seqObj "list" (bs1.map fun b => Value.ref (ad b)).toArray 0)) s1.heap.objs.size (bs1.map fun b => Value.ref (ad b))) (bs1.map enc)) false (bs1.map fun b => Value.ref (ad b)) (bs1.map fun b => Value.ref (ad b))).toArray) hoL
  refine hQ _ s1.heap.objs.size _ c bs1 (fun b u e => ?_) g1 o1 hz hc p1 so
  have q := k1 b u e
  have hlt := Heap.lt_size q
  show (sortedHeap _ s1.heap.objs.size _ _).get? b = some u
  rw [sortedHeap_old (Nat.ne_of_lt hlt) (by rw [size_push']; exact Nat.lt_succ_of_lt hlt)]
  exact Heap.get?_push_of_some _ q
end
end L2
namespace Q
open PySem L2
mutual
def nkD : D → NestedKey
  | .int i => .num i
  | .tup xs => .tup (nkDs xs)
  | _ => .none
def nkDs : List D → List NestedKey
  | [] => []
  | x :: xs => nkD x :: nkDs xs
end
def numD : Nat → D → Bool
  | _, .int _ => true
  | n + 1, .tup xs => xs.all (numD n)
  | _, _ => false
theorem nkDs_map : ∀ xs : List D, nkDs xs = xs.map nkD
  | [] => rfl
  | x :: xs => by rw [nkDs, nkDs_map xs]; rfl
theorem numD_key : ∀ (n : Nat) (d : D), numD n d = true → numKey n (nkD d) = true
  | n, .int _, _ => by cases n <;> rfl
  | 0, .tup _, h => by cases h
  | n + 1, .tup xs, h => by
    have h' : xs.all (numD n) = true := h
    show (nkDs xs).all (numKey n) = true
    rw [nkDs_map, List.all_map]
    exact List.all_eq_true.mpr fun x hx => numD_key n x (List.all_eq_true.mp h' x hx)
  | n, .non, h => by cases n <;> cases h
  | n, .bl _, h => by cases n <;> cases h
  | n, .str _, h => by cases n <;> cases h
  | n, .lst _, h => by cases n <;> cases h
  | n, .fro _, h => by cases n <;> cases h
  | n, .obj _ _, h => by cases n <;> cases h
  | n, .exn _ _, h => by cases n <;> cases h
  | n, .ref _, h => by cases n <;> cases h
theorem nkD_inj : ∀ (n : Nat) (d e : D), numD n d = true → numD n e = true → nkD d = nkD e → d = e
  | n, .int i, e, _, he, h => by
    cases e with
    | int j => rw [nkD, nkD] at h; injection h with h; rw [h]
    | tup ys => rw [nkD, nkD] at h; cases h
    | _ => cases n <;> cases he
  | 0, .tup _, _, hd, _, _ => by cases hd
  | n + 1, .tup xs, e, hd, he, h => by
    cases e with
    | int j => rw [nkD, nkD] at h; cases h
    | tup ys =>
      rw [nkD, nkD] at h
      injection h with h
      have hd' : xs.all (numD n) = true := hd
      have he' : ys.all (numD n) = true := he
      have go : ∀ xs ys : List D, xs.all (numD n) = true → ys.all (numD n) = true → nkDs xs = nkDs ys → xs = ys := fun xs => by
        induction xs with
        | nil =>
          intro ys _ _ h
          cases ys with
          | nil => rfl
          | cons y ys => cases h
        | cons x xs ih =>
          intro ys hx hy h
          cases ys with
          | nil => cases h
          | cons y ys =>
            rw [nkDs, nkDs, List.cons.injEq] at h
            rw [List.all_cons, Bool.and_eq_true] at hx hy
            rw [nkD_inj n x y hx.1 hy.1 h.1, ih ys hx.2 hy.2 h.2]
      rw [go xs ys hd' he' h]
    | _ => cases he
  | n, .non, _, h, _, _ => by cases n <;> cases h
  | n, .bl _, _, h, _, _ => by cases n <;> cases h
  | n, .str _, _, h, _, _ => by cases n <;> cases h
  | n, .lst _, _, h, _, _ => by cases n <;> cases h
  | n, .fro _, _, h, _, _ => by cases n <;> cases h
  | n, .obj _ _, _, h, _, _ => by cases n <;> cases h
  | n, .exn _ _, _, h, _, _ => by cases n <;> cases h
  | n, .ref _, _, h, _, _ => by cases n <;> cases h
end Q
namespace L2
open PySem PySem.Spec PyProof.Rows
section
variable {X : Cx} {pins : List (Addr × Obj)} {σ : St} {H : Hp} {s : Shared}
theorem key_at (I : Inv X pins σ H s) : ∀ (n : Nat) (d : _root_.Q.D) (v : V) (u : Value), _root_.Q.numD n d = true → Dp X.K H v (_root_.Q.toPy d) → RelV v u → NestedIs s.heap (_root_.Q.nkD d) u
  | n, .int i, v, u, _, h, r => by
    rw [_root_.Q.toPy] at h
    cases h
    obtain ⟨t, rfl⟩ := r
    exact .int i t
  | 0, .tup _, _, _, h, _, _ => by cases h
  | n + 1, .tup xs, v, u, hn, h, r => by
    rw [_root_.Q.toPy] at h
    cases h with
    | tup hs ha =>
      cases r
      obtain ⟨its, rv, ⟨o, ho, hc, c, hd⟩, _⟩ := I.tuple hs
      have hn' : xs.all (_root_.Q.numD n) = true := hn
      have go : ∀ (xs : List _root_.Q.D) (vs : List V) (us : List Value), xs.all (_root_.Q.numD n) = true → DpAll X.K H vs (_root_.Q.toPyL xs) → Vals vs us → NestedAll s.heap (_root_.Q.nkDs xs) us := fun xs => by
        induction xs with
        | nil =>
          intro vs us _ ha rv
          rw [_root_.Q.toPyL] at ha
          cases ha
          cases rv
          exact .nil
        | cons x xs ih =>
          intro vs us hx ha rv
          rw [_root_.Q.toPyL] at ha
          rw [List.all_cons, Bool.and_eq_true] at hx
          cases ha with
          | cons h1 h2 =>
            cases rv with
            | cons r1 r2 => exact .cons (key_at I n x _ _ hx.1 h1 r1) (ih _ _ hx.2 h2 r2)
      exact .tup ho hc hd (by simpa using go xs _ its hn' ha rv)
  | n, .non, _, _, h, _, _ => by cases n <;> cases h
  | n, .bl _, _, _, h, _, _ => by cases n <;> cases h
  | n, .str _, _, _, h, _, _ => by cases n <;> cases h
  | n, .lst _, _, _, h, _, _ => by cases n <;> cases h
  | n, .fro _, _, _, h, _, _ => by cases n <;> cases h
  | n, .obj _ _, _, _, h, _, _ => by cases n <;> cases h
  | n, .exn _ _, _, _, h, _, _ => by cases n <;> cases h
  | n, .ref _, _, _, h, _, _ => by cases n <;> cases h
end
end L2
namespace L2
open PySem PySem.Spec PyProof.Rows PySem.W
structure SetN0 (w : World) (h : Heap) (a : Addr) (L : List (Addr × NestedKey)) : Prop where
  ex : ∃ (es : Array (Int × Value)) (ep : Nat) (t : SetTable), (∃ o, h.get? a = some o ∧ o.ExactSet ∧ o.data = .set es ep t) ∧ es.toList = rowsN w L ∧ TabOk t (hashN w L) ∧ (L.map (·.2)).Nodup ∧ t.plain = true ∧
    (w.params.followText "set-order" = true ∨ t.led = true) ∧ L.length * 5 < t.mask * 3 ∧ L.length < 64
def SetNO (w : World) (a : Addr) (L : List (Addr × NestedKey)) : HO := .ext fun h => SetN0 w h a L
section
variable {w : World} {h : Heap} {a : Addr} {L : List (Addr × NestedKey)}
theorem SetN.n0 {es : Array (Int × Value)} {ep : Nat} {t : SetTable} (R : SetN w h a L es ep t) : SetN0 w h a L := ⟨es, ep, t, R.ob, R.rows, R.tab, R.nd, R.plain, R.led, R.room, R.few⟩
theorem SetN0.full (R : SetN0 w h a L) (hk : ∀ p ∈ L, IsN h p.2 p.1) : ∃ es ep t, SetN w h a L es ep t := by
  obtain ⟨es, ep, t, h1, h2, h3, h4, h5, h6, h7, h8⟩ := R.ex
  exact ⟨es, ep, t, h1, h2, h3, h4, hk, h5, h6, h7, h8⟩
theorem setNO_new {P : Program} {H : Hp} (R : SetN0 w h a L) : ObjOk P w H h a (SetNO w a L) := by
  have ⟨es, ep, t, ⟨o, ho, r⟩, q⟩ := R.ex
  refine ⟨R, ⟨o, ho⟩, fun h1 h2 p k => ?_⟩
  have ⟨es', ep', t', ⟨o', ho', r'⟩, q'⟩ := SetN0.ex p
  exact ⟨es', ep', t', ⟨o', k o' ho', r'⟩, q'⟩
end
abbrev nk (p : Addr × _root_.Q.D) : Addr × NestedKey := (p.1, _root_.Q.nkD p.2)
theorem lift_mem {α β : Type} {f : α → β} {ks : List α} : ∀ L : List β, (∀ q ∈ L, q ∈ ks.map f) → ∃ L' : List α, L = L'.map f ∧ ∀ p ∈ L', p ∈ ks
  | [], _ => ⟨[], rfl, fun p hp => by cases hp⟩
  | q :: L, h => by
    obtain ⟨p, hp, e⟩ := List.mem_map.mp (h q List.mem_cons_self)
    obtain ⟨L', e', h'⟩ := lift_mem L fun x hx => h x (List.mem_cons_of_mem _ hx)
    refine ⟨p :: L', by rw [List.map_cons, e, e'], fun x hx => ?_⟩
    rcases List.mem_cons.mp hx with rfl | m
    · exact hp
    · exact h' x m
def rSetN (K : PySem.W.Frag) (w : World) (sq : Hp → Addr → List V → Prop) : List V → Hp → VK → Prop := fun xs H Q => ∃ (l : Addr) (ks : List (Addr × _root_.Q.D)), xs = [V.ref l] ∧ sq H l (ks.map fun p => V.ref p.1) ∧ (∀ p ∈ ks, Dp K H (.ref p.1) (_root_.Q.toPy p.2) ∧ _root_.Q.numD 8 p.2 = true) ∧ ks.length < 64 ∧
  ∀ a (L : List (Addr × _root_.Q.D)), H a = none → (∀ p ∈ L, p ∈ ks) → (∀ p ∈ ks, _root_.Q.nkD p.2 ∈ L.map fun q => _root_.Q.nkD q.2) → Q (.ref a) (upd H a (SetNO w a (L.map nk)))
section
variable {X : Cx}
theorem setN_done {pins : List (Addr × Obj)} {σ : St} {H : Hp} {s : Shared} {ks : List (Addr × _root_.Q.D)} {Q : VK} (I : Inv X pins σ H s)
    (q : ∀ a (L : List (Addr × _root_.Q.D)), H a = none → (∀ p ∈ L, p ∈ ks) → (∀ p ∈ ks, _root_.Q.nkD p.2 ∈ L.map fun q => _root_.Q.nkD q.2) → Q (.ref a) (upd H a (SetNO X.w a (L.map nk)))) {s' : Shared} (hf : FilledN X.w s (ks.map nk) s') : ∃ x H', Inv X pins σ H' s' ∧ RelV x (.ref s.heap.objs.size) ∧ Q x H' := by
  obtain ⟨h', tk, L, es, ep, t, rfl, hs, hg, keep⟩ := hf
  have len : (ks.map nk).length = ks.length := List.length_map _
  obtain ⟨L', rfl, hm⟩ := lift_mem (f := nk) (ks := ks) L fun q hq => List.mem_of_mem_take (hg.sub q hq)
  refine ⟨.ref _, upd H s.heap.objs.size (SetNO X.w s.heap.objs.size (L'.map nk)), I.laid (t' := tk) keep (Nat.le_refl _) (setNO_new hs.n0), rfl, q _ L' (I.hok.fresh (Nat.le_refl _)) hm fun p hp => ?_⟩
  have := hg.all (nk p) (by rw [List.take_length]; exact List.mem_map.mpr ⟨p, hp, rfl⟩)
  rw [List.map_map] at this
  exact this
theorem keys_of {pins : List (Addr × Obj)} {σ : St} {H : Hp} {s : Shared} {ks : List (Addr × _root_.Q.D)} (I : Inv X pins σ H s) (hk : ∀ p ∈ ks, Dp X.K H (.ref p.1) (_root_.Q.toPy p.2) ∧ _root_.Q.numD 8 p.2 = true) : ∀ p ∈ ks.map nk, IsN s.heap p.2 p.1 := fun q hq => by
  obtain ⟨p, hp, rfl⟩ := List.mem_map.mp hq
  obtain ⟨h1, h2⟩ := hk p hp
  exact ⟨key_at I 8 p.2 _ _ h2 h1 rfl, _root_.Q.numD_key 8 _ h2⟩
theorem refs_map {ks : List (Addr × _root_.Q.D)} {its : List Value} (rv : Vals (ks.map fun p => V.ref p.1) its) : its = (ks.map nk).map fun p => Value.ref p.1 := by
  have : ∀ (ks : List (Addr × _root_.Q.D)) (its : List Value), Vals (ks.map fun p => V.ref p.1) its → its = (ks.map nk).map fun p => Value.ref p.1 := fun ks => by
    induction ks with
    | nil => intro its rv; cases rv; rfl
    | cons p ks ih =>
      intro its rv
      cases rv with
      | cons r t =>
        cases r
        rw [List.map_cons, List.map_cons, ih _ t]
  exact this ks its rv
theorem cr_setN_lst (hc : X.calm = true) (hu : X.A.units + 64 < cLine) : CallR X (.type "set") (rSetN X.K X.w (SqL X.K)) := by
  intro pins s σ H vs us Q I r h
  obtain ⟨l, ks, rfl, hl, hk, hb, q⟩ := h
  obtain ⟨its, rv, pl, hz⟩ := I.list hl
  rw [Vals.ref1 r]
  exact setN_lst (P := X.prog) (w := X.w) (ks := ks.map nk) (I.ok.hd hc) hu pl.isList (by simpa using refs_map rv) (keys_of I hk) (by rw [List.length_map]; exact hb) fun s' hf => setN_done I q hf
abbrev encN (p : Addr × _root_.Q.D) : PyData := _root_.Q.toPy p.2
def rSortN (K : PySem.W.Frag) (w : World) : List V → Hp → VK → Prop := fun vs H Q => ∃ (a : Addr) (bs : List (Addr × _root_.Q.D)), vs = [V.ref a] ∧ H a = some (SetNO w a (bs.map nk)) ∧ (∀ p ∈ bs, Dp K H (.ref p.1) (_root_.Q.toPy p.2) ∧ _root_.Q.numD 8 p.2 = true) ∧ AllAlike (bs.map encN) ∧ Sortable (bs.map encN) ∧ (∀ b ∈ bs, (encN b).depth ≤ 20) ∧
  ∀ (bs' : List (Addr × _root_.Q.D)) (p : Addr), bs'.Perm bs → (bs.map fun q => _root_.Q.nkD q.2).Nodup → H p = none → Q (.ref p) (upd H p (.lst ((bs'.mergeSort (dataLe false encN)).map fun b => V.ref b.1)))
theorem vals_refsN : ∀ bs : List (Addr × _root_.Q.D), Vals (bs.map fun b => V.ref b.1) (bs.map fun b => Value.ref b.1)
  | [] => .nil
  | b :: bs => .cons rfl (vals_refsN bs)
theorem cr_sortN (hc : X.calm = true) (hu : X.A.units + 64 < cLine) : CallR X (.builtin "sorted") (rSortN X.K X.w) := by
  intro pins s σ H vs us Q I r h
  obtain ⟨a, bs, rfl, ha, hk, hal, hs, hdp, q⟩ := h
  have R0 : SetN0 X.w s.heap a (bs.map nk) := (I.hok a _ ha).1
  obtain ⟨es, ep, t, R⟩ := R0.full (keys_of I hk)
  rw [Vals.ref1 r]
  refine sortedN (P := X.prog) (w := X.w) (enc := encN) (ad := fun b : Addr × _root_.Q.D => b.1) (bs := bs) R (I.ok.hd hc) (by rw [List.map_map]; rfl) (fun b hb => Dp.reads I _ _ _ (hk b hb).1 rfl) hal hs (fun b hb => by have := hdp b hb; omega) fun s' p out c bs' k g o hp hg pm hout => ?_
  have nd : (bs.map fun q => _root_.Q.nkD q.2).Nodup := by
    have := R.nd
    rw [List.map_map] at this
    exact this
  have few : bs.length < 64 := by
    have := R.few
    rw [List.length_map] at this
    exact this
  have hlen : ((bs'.mergeSort (dataLe false encN)).map fun b => V.ref b.1).length ≤ sizeLine := by rw [List.length_map, List.length_mergeSort, pm.length_eq, sizeLine_eq]; omega
  have hn : H p = none := I.hok.fresh hp
  have hv : Vals ((bs'.mergeSort (dataLe false encN)).map fun b => V.ref b.1) out.toList := by rw [hout]; exact vals_refsN _
  have J : Inv X pins σ (upd H p (.lst ((bs'.mergeSort (dataLe false encN)).map fun b => V.ref b.1))) { s with heap := s'.heap, gens := s'.gens, drawn := s'.drawn, toks := s'.toks } :=
    I.call (ch := []) (Un.laid k hp hn) (I.hok.laid k hp ⟨hlen, out.toList, c, hv, hg⟩) (by rw [g]; exact I.bare) (fun _ z => nomatch z)
  have e : s' = { s with heap := s'.heap, gens := s'.gens, drawn := s'.drawn, toks := s'.toks } := by
    cases s'
    cases s
    cases o
    rfl
  rw [e]
  exact ⟨.ref p, _, J, rfl, q bs' p pm nd hn⟩
end
end L2
namespace Q
open PySem L2
def dedupN : List D → List D
  | [] => []
  | x :: xs => if xs.any (fun y => decide (nkD y = nkD x)) then dedupN xs else x :: dedupN xs
def strictA : List D → Bool
  | [] => true
  | y :: ys => ys.all (fun z => PySem.W.dataLt (toPy y) (toPy z)) && strictA ys
def okN (xs : List D) : Bool := okA xs && (xs.all (numD 8) && (decide (xs.length < 64) && strictA (sortA (dedupN xs))))
def ssNL (d : D) (S : Store) : Res D := match rdL S d with
  | some xs => if okN xs = true then .ok (.lst (sortA (dedupN xs))) S else .no
  | none => .no
def mSortSetNL (m : ME) : ME := fun ρ S => (m ρ S).bind ssNL
theorem nodup_map {α β : Type} {f : α → β} {l : List α} (h : (l.map f).Nodup) : l.Nodup := List.Pairwise.of_map f (fun _ _ hne e => hne (congrArg f e)) h
theorem mem_dedupN {n : Nat} : ∀ {xs : List D}, xs.all (numD n) = true → ∀ z, z ∈ dedupN xs ↔ z ∈ xs
  | [], _, z => Iff.rfl
  | x :: xs, h, z => by
    rw [List.all_cons, Bool.and_eq_true] at h
    have ih := mem_dedupN h.2 z
    unfold dedupN
    by_cases q : xs.any (fun y => decide (nkD y = nkD x)) = true
    · rw [if_pos q, ih]
      obtain ⟨y, hy, e⟩ := List.any_eq_true.mp q
      have e' := nkD_inj n y x (List.all_eq_true.mp h.2 y hy) h.1 (of_decide_eq_true e)
      subst e'
      constructor
      · exact fun m => List.mem_cons_of_mem _ m
      · intro m
        rcases List.mem_cons.mp m with rfl | m
        · exact hy
        · exact m
    · rw [if_neg q, List.mem_cons, List.mem_cons, ih]
theorem nodup_dedupN {n : Nat} : ∀ {xs : List D}, xs.all (numD n) = true → (dedupN xs).Nodup
  | [], _ => List.nodup_nil
  | x :: xs, h => by
    rw [List.all_cons, Bool.and_eq_true] at h
    have ih := nodup_dedupN h.2
    unfold dedupN
    by_cases q : xs.any (fun y => decide (nkD y = nkD x)) = true
    · rw [if_pos q]
      exact ih
    · rw [if_neg q]
      refine List.nodup_cons.mpr ⟨fun m => q ?_, ih⟩
      exact List.any_eq_true.mpr ⟨x, (mem_dedupN h.2 x).mp m, decide_eq_true rfl⟩
theorem strictA_iff : ∀ {ys : List D}, strictA ys = true → ys.Pairwise fun y z => PySem.W.dataLt (toPy y) (toPy z) = true
  | [], _ => .nil
  | y :: ys, h => by
    have h' : (ys.all (fun z => PySem.W.dataLt (toPy y) (toPy z)) && strictA ys) = true := h
    rw [Bool.and_eq_true] at h'
    exact .cons (fun z hz => List.all_eq_true.mp h'.1 z hz) (strictA_iff h'.2)
theorem asc_uniq {α : Type} {lt : α → α → Bool} : ∀ {xs ys : List α}, xs.Pairwise (fun a b => lt a b = true) → ys.Pairwise (fun a b => lt b a = false) → ys.Perm xs → ys = xs
  | [], ys, _, _, p => p.eq_nil
  | x :: xs, [], _, _, p => by have := p.length_eq; simp at this
  | x :: xs, y :: ys, hx, hy, p => by
    rw [List.pairwise_cons] at hx hy
    have e : y = x := by
      rcases List.mem_cons.mp (p.mem_iff.mp List.mem_cons_self) with e | m
      · exact e
      · rcases List.mem_cons.mp (p.symm.mem_iff.mp (List.mem_cons_self (a := x))) with e | m2
        · exact e.symm
        · have h1 := hx.1 y m
          have h2 := hy.1 x m2
          rw [h1] at h2
          cases h2
    subst e
    rw [asc_uniq hx.2 hy.2 (List.Perm.cons_inv p)]
theorem le_sort (ys : List D) : (ys.mergeSort (PySem.W.dataLe false toPy)).Pairwise fun a b => PySem.W.dataLt (toPy b) (toPy a) = false := by
  have t := PySem.W.sortLe_total (PyProof.Rows.listOrd PyProof.Rows.itemOrd) false (fun b : D => PySem.W.keyToks (toPy b))
  have z := List.pairwise_mergeSort (le := PySem.W.dataLe false toPy) (fun a b c => t.trans a b c) (fun a b => by
    rw [Bool.or_eq_true]
    exact t.total a b) ys
  refine z.imp fun {a b} h => ?_
  have h' : (!PySem.W.dataLt (toPy b) (toPy a)) = true := h
  rwa [Bool.not_eq_true'] at h'
theorem sort_uniq {xs ys : List D} (h : strictA (sortA xs) = true) (p : ys.Perm xs) : ys.mergeSort (PySem.W.dataLe false toPy) = sortA xs :=
  asc_uniq (lt := fun a b => PySem.W.dataLt (toPy a) (toPy b)) (strictA_iff h) (le_sort ys) ((List.mergeSort_perm _ _).trans (p.trans (sortA_perm xs).symm))
theorem refs_of {Γ : Gm} {α : List Addr} {G : Hp} : ∀ {xs : List D} {vs : List V}, RepL Γ α G xs vs → (∀ x ∈ xs, rowQ x = true) → ∃ ks : List (Addr × D), vs = ks.map (fun p => V.ref p.1) ∧ xs = ks.map (·.2) ∧ ∀ p ∈ ks, Rep Γ α G p.2 (.ref p.1)
  | [], vs, r, _ => by
    unfold RepL at r
    subst r
    exact ⟨[], rfl, rfl, fun p hp => by cases hp⟩
  | x :: xs, vs, r, h => by
    unfold RepL at r
    obtain ⟨v, w, rfl, r1, r2⟩ := r
    obtain ⟨ks, rfl, rfl, h3⟩ := refs_of r2 fun y hy => h y (List.mem_cons_of_mem _ hy)
    have hx := h x List.mem_cons_self
    cases x with
    | tup ys =>
      have r1' := r1
      unfold Rep at r1
      obtain ⟨a, us, rfl, _⟩ := r1
      refine ⟨(a, .tup ys) :: ks, rfl, rfl, fun p hp => ?_⟩
      rcases List.mem_cons.mp hp with rfl | m
      · exact r1'
      · exact h3 p m
    | _ => cases hx
section
variable {X : Cx} {cl : Nat → Addr} {E : XK} {e : Expr} {m : ME} {pos : Pos}
theorem ssN_core {xs : List D} {vs : List V} {l : Addr} {α1 : List Addr} {G1 H1 : Hp} {S1 : Store} {Q : VK} {sq : Hp → Addr → List V → Prop} (R1 : Rl ⟨X.K, cl⟩ α1 G1 S1 H1) (hs : sq H1 l vs) (rL : RepL ⟨X.K, cl⟩ α1 G1 xs vs) (hok : okN xs = true)
    (hp1 : Post ⟨X.K, cl⟩ (Rep ⟨X.K, cl⟩) α1 G1 H1 (.ok (.lst (sortA (dedupN xs))) S1) Q E) : rSetN X.K X.w sq [.ref l] H1 (fun x H2 => rSortN X.K X.w [x] H2 Q) := by
  unfold okN at hok
  simp only [Bool.and_eq_true, decide_eq_true_eq] at hok
  obtain ⟨hA, hN, hl, hS⟩ := hok
  have hok' := List.all_eq_true.mp hA
  have ok1 : ∀ x ∈ xs, rowQ x = true ∧ shal 18 x = true ∧ ∀ y ∈ xs, PySem.W.alike (toPy x) (toPy y) = true := fun x hx => by
    have := hok' x hx
    simp only [Bool.and_eq_true] at this
    exact ⟨this.1.1, this.1.2, List.all_eq_true.mp this.2⟩
  have num := List.all_eq_true.mp hN
  obtain ⟨ks, rfl, rfl, rk⟩ := refs_of rL fun x hx => (ok1 x hx).1
  have in_ : ∀ p ∈ ks, p.2 ∈ ks.map (·.2) := fun p hp => List.mem_map.mpr ⟨p, hp, rfl⟩
  have dp : ∀ (G' H' : Hp), Sub G' H' → (∀ p ∈ ks, Rep ⟨X.K, cl⟩ α1 G' p.2 (.ref p.1)) → ∀ p ∈ ks, Dp X.K H' (.ref p.1) (toPy p.2) ∧ numD 8 p.2 = true := fun G' H' hs rk' p hp => ⟨rep_dp (Γ := ⟨X.K, cl⟩) hs 18 p.2 _ (ok1 _ (in_ p hp)).2.1 (rk' p hp), num _ (in_ p hp)⟩
  refine ⟨l, ks, rfl, hs, dp G1 H1 R1.sub rk, by rw [List.length_map] at hl; exact hl, fun a L ha hL hL2 => ?_⟩
  obtain ⟨R2, e2⟩ := R1.new ha (SetNO X.w a (L.map nk))
  have rk2 : ∀ p ∈ ks, Rep ⟨X.K, cl⟩ α1 (upd G1 a (SetNO X.w a (L.map nk))) p.2 (.ref p.1) := fun p hp => Rep.mono e2.pre e2.sub _ _ (rk p hp)
  refine ⟨a, L, rfl, upd_same, fun p hp => dp _ _ R2.sub rk2 p (hL p hp), ?_, ?_, fun b hb => by have := (shal_lay 18 b.2 (ok1 _ (in_ b (hL b hb))).2.1).2; show (toPy b.2).depth ≤ 20; omega, fun bs' p pm nd hn => ?_⟩
  · intro x hx y hy
    obtain ⟨b, hb, rfl⟩ := List.mem_map.mp hx
    obtain ⟨c, hc, rfl⟩ := List.mem_map.mp hy
    exact (ok1 _ (in_ b (hL b hb))).2.2 _ (in_ c (hL c hc))
  · refine .inl fun x hx => ?_
    obtain ⟨b, hb, rfl⟩ := List.mem_map.mp hx
    have := (ok1 _ (in_ b (hL b hb))).1
    show ∃ y r, toPy b.2 = .tuple (y :: r)
    generalize b.2 = d at *
    cases d with
    | tup ys =>
      cases ys with
      | nil => cases this
      | cons y r => exact ⟨_, _, rfl⟩
    | _ => cases this
  · have ndL : (L.map (·.2)).Nodup := by
      refine nodup_map (f := nkD) ?_
      rw [List.map_map]
      exact nd
    have p1 : (bs'.map (·.2)).Perm (dedupN (ks.map (·.2))) := by
      refine (pm.map (·.2)).trans ((List.perm_ext_iff_of_nodup ndL (nodup_dedupN hN)).mpr fun z => ?_)
      rw [mem_dedupN hN z]
      constructor
      · intro hz
        obtain ⟨q, hq, rfl⟩ := List.mem_map.mp hz
        exact in_ q (hL q hq)
      · intro hz
        obtain ⟨q, hq, rfl⟩ := List.mem_map.mp hz
        obtain ⟨r, hr, er⟩ := List.mem_map.mp (hL2 q hq)
        have := nkD_inj 8 r.2 q.2 (num _ (in_ r (hL r hr))) (num _ (in_ q hq)) er
        exact List.mem_map.mpr ⟨r, hr, this⟩
    have es : ((bs'.mergeSort (PySem.W.dataLe false encN)).map (·.2)) = sortA (dedupN (ks.map (·.2))) := by
      rw [← sort_uniq hS p1]
      exact mergeSort_snd (PySem.W.dataLe false toPy) bs'
    obtain ⟨R3, e3⟩ := R2.new hn (.lst ((bs'.mergeSort (PySem.W.dataLe false encN)).map fun b => V.ref b.1))
    refine hp1 _ _ _ _ (e2.trans e3) R3 (rep_lst upd_same ?_)
    rw [← es]
    have go : ∀ cs : List (Addr × D), (∀ p ∈ cs, p ∈ ks) → RepL ⟨X.K, cl⟩ α1 (upd (upd G1 a (SetNO X.w a (L.map nk))) p (.lst ((bs'.mergeSort (PySem.W.dataLe false encN)).map fun b => V.ref b.1))) (cs.map (·.2)) (cs.map fun b => V.ref b.1) := fun cs => by
      induction cs with
      | nil => intro _; simp [RepL]
      | cons c cs ih =>
        intro hc
        rw [List.map_cons, List.map_cons]
        unfold RepL
        exact ⟨_, _, rfl, Rep.mono e3.pre e3.sub _ _ (rk2 c (hc c List.mem_cons_self)), ih fun x hx => hc x (List.mem_cons_of_mem _ hx)⟩
    exact go _ fun q hq => hL q (pm.mem_iff.mp ((List.mergeSort_perm _ _).mem_iff.mp hq))
theorem q_sortsetNL {k : Nat} {p p1 p2 : Pos} (hr : Room k X.A) (h : QE X cl E e m) (hg : Gl X "sorted") (hm : X.mg "sorted" = none) (hg' : Gl X "set") (hm' : X.mg "set" = none) (hc : X.calm = true := by rfl)
    (he : starEach [e] X.env = (false, eval e X.env) :: starEach [] X.env := by rfl)
    (he2 : starEach [.Call (.Name "set" p1) [e] [] p2] X.env = (false, eval (.Call (.Name "set" p1) [e] [] p2) X.env) :: starEach [] X.env := by rfl)
    (hpl : (backTo p2 (starEach [] X.env)).any (·.1) = false := by rfl) (hpl2 : (backTo pos (starEach [] X.env)).any (·.1) = false := by rfl) :
    QE X cl E (.Call (.Name "sorted" p) [.Call (.Name "set" p1) [e] [] p2] [] pos) (mSortSetNL m) := by
  obtain ⟨t, h1, h2⟩ := h.ex
  have c1 := pe_callTy (pos := p2) (p := p1) (cr_setN_lst hc hr.units) hg' hm' (by rfl) (pa_cons h1 pa_nil he) (by decide) (by decide) he hpl
  refine ⟨_, pe_callB (cr_sortN hc hr.units) hg hm (by rfl) (pa_cons c1 pa_nil he2) (by decide) (by decide) he2 hpl2, fun ρ S σ α G H Q hρ hR hp => ?_⟩
  refine h2 ρ S σ α G H _ hρ hR (post_bind hp fun d S1 α1 G1 H1 v _ e1 R1 r1 hp1 => ?_)
  unfold ssNL at hp1
  cases hx : rdL S1 d with
  | none => rw [hx] at hp1; exact hp1.elim
  | some xs =>
    rw [hx] at hp1
    dsimp only at hp1
    split at hp1
    case isFalse => exact hp1.elim
    rename_i hok
    obtain ⟨a, vs, rfl, hs, rL⟩ := rdL_at R1 r1 hx
    exact ssN_core R1 hs rL hok hp1
end
section
variable {S : Store} {ρ : Env}
@[simp] theorem ap_sortsetNL (m : ME) : mSortSetNL m ρ S = (m ρ S).bind ssNL := (Eq.refl _).trans rfl
theorem ssNL_ok {d : D} {xs : List D} (h : rdL S d = some xs) (hk : okN xs = true) : ssNL d S = .ok (.lst (sortA (dedupN xs))) S := by
  unfold ssNL
  simp only [h, hk, if_true]
end
end Q
namespace L2
open PySem PySem.Spec PyProof.Rows
end L2
namespace Q
open PySem L2
end Q
namespace Q
open PySem PySem.Spec PyProof.Rows L2 He
theorem ex_base (c : Nat) : ExcBaseFacts (exB c) (exN c) (exI c) (exM c) := by
  unfold exB exN exI exM
  split
  · exact F.excBase_LookupError
  · exact F.excBase_ValueError
theorem ex_kxs (c : Nat) : PySem.W.KxsFacts (exB c) (exI c) := by
  unfold exB exI
  split
  · exact PySem.W.kxs_LookupError
  · exact PySem.W.kxs_ValueError
section
variable {K : PySem.W.Frag} {h : Heap} {mg : Str → Option Value} {c i : Nat} {f m : Str}
theorem qf_glo (X : K.In h) (G : h.Ns mainGlobals mg) {x : Str} (e : (Qf.glo x).ok K = true) : mg x = some (.ref (ga K x)) := glo_ok X G e
theorem qf_free (X : K.In h) (G : h.Ns mainGlobals mg) {x : Str} (e : (Qf.free x).ok K = true) : mg x = none := free_ok X G e
theorem qf_int (X : K.In h) (G : h.Ns mainGlobals mg) {x : Str} {i : Int} (e : (Qf.int x i).ok K = true) : ∃ t, mg x = some (.int i t) := int_ok X G e
structure IsiC (K : PySem.W.Frag) (C : Addr) : Prop where
  i : SlX.SIsi K C
  k : PySem.W.kitOne K (.ref C) (.ref C) = some true
  n : ∀ (S : Store) d, isOk S d = true → PySem.W.kitOne K (.type (tyN d)) (.ref C) = some false
structure EqC (K : PySem.W.Frag) (C g : Addr) : Prop where
  at_ : PySem.W.findIn K (.ref C) "__eq__" = some (some (.ref g))
  fn : PySem.W.isFn K (.ref g) = true
  ne : NeC K C g
  nf : PySem.W.notFirst K C (.ref C) = true
  nk : ∀ (S : Store) d, isOk S d = true → PySem.W.notFirst K C (.type (tyN d)) = true
theorem qf_exq (X : K.In h) (G : h.Ns mainGlobals mg) (e : (Qf.exq c).ok K = true) : mg (clN c) = some (.ref (clK K c)) ∧ ExcQ K (clK K c) := by
  obtain ⟨e1, e⟩ := ba e
  obtain ⟨e2, e⟩ := ba e
  obtain ⟨e3, e⟩ := ba e
  obtain ⟨e4, e⟩ := ba e
  obtain ⟨e5, e⟩ := ba e
  obtain ⟨e6, e⟩ := ba e
  obtain ⟨e7, e⟩ := ba e
  obtain ⟨e8, e9⟩ := ba e
  exact ⟨PySem.W.mg_of X G (He.eqO_ok e9), e1, He.eqO_ok e2, He.eqO_ok e3, ob_ok e4, He.eqO_ok e5, He.eqO_ok e6, ob_ok e7, ob_ok e8⟩
theorem ex_store (c : Nat) : PySem.StoreFacts (exB c) (exM c) "object.__setattr__" "object" := by
  unfold exB exM
  split
  · exact PySem.F.store_LookupError
  · exact PySem.F.store_ValueError
theorem qf_exs (e : (Qf.exs c f).ok K = true) : ExcS K (clK K c) (exB c) (exM c) f ∧ XfQ K (clK K c) f := by
  obtain ⟨e1, e⟩ := ba e
  obtain ⟨e2, e⟩ := ba e
  obtain ⟨e3, e⟩ := ba e
  obtain ⟨e4, e⟩ := ba e
  obtain ⟨e5, e⟩ := ba e
  obtain ⟨e6, e7⟩ := ba e
  have e4' := He.eqO_ok e4
  exact ⟨⟨ex_store c, He.eqO_ok e1, e2, e3, by unfold PySem.W.takerIn; rw [e4'] <;> rfl⟩, ⟨He.eqO_ok e5, He.eqO_ok e6, ob_ok e7, e3⟩, e4'⟩
theorem qf_kit {v : EV} {b : Bool} (e : (Qf.kit c v b).ok K = true) : PySem.W.kitOne K (.ref (clK K c)) (v.val K) = some b := ob_ok e
theorem qf_exm {v : EV} {b : Bool} (e : (Qf.exm c v b).ok K = true) : PySem.W.exmOne K (.ref (clK K c)) (v.val K) = some b := ob_ok e
end
theorem DefQ.fun {K : PySem.W.Frag} {d : DefQ} (hn : d.at_.cn = []) (e : fnQ K d = d.val) (c : d.ok K = true) : ∃ fd, Fun K d.name d.qual d.st (d.at_.ad K) fd := by
  obtain ⟨kp, c2⟩ := ba c
  unfold fnQ at e
  cases q : K.lookup (d.at_.ad K) with
  | none =>
    rw [q] at c2
    cases c2
  | some o =>
    obtain ⟨oc, od, dt, osl⟩ := o
    rw [q] at c2 e
    cases dt with
    | func fd =>
      obtain ⟨n1, n2, n3, n4, n5, n6, n7, n8, n9, n10, n11, n12, n13, n14, n15⟩ := fd
      have e2 : (some (n1, n2, n3, n4, n5, n6, n7.map (·.1), n15) : FnQ) = some (d.name, d.qual, defArgs d.st, .stmts (defBody d.st), defScope d.st, mainGlobals, d.at_.cn, builtinsNs) := e
      rw [hn] at e2
      simp only [Option.some.injEq, Prod.mk.injEq, List.map_eq_nil_iff] at e2
      obtain ⟨h1, h2, h3, h4, h5, h6, h7, h8⟩ := e2
      subst h1 h2 h3 h4 h5 h6 h7 h8
      obtain ⟨k1, k2⟩ := ba c2
      have k3 : n8 = .none := by
        clear q k1 c2 kp
        dsimp only at k2
        cases n8 <;> first | rfl | cases k2
      subst k3
      exact ⟨_, ⟨⟨oc, od, n9, n10, n11, n12, n13, n14, osl, rfl, q, k1⟩, kp⟩⟩
    | _ => cases c2
theorem DefQ.exu {P : Program} {h : Heap} {mg : Str → Option Value} {K : PySem.W.Frag} {d : DefQ} {c : Nat} (X : K.In h) (G : h.Ns mainGlobals mg) (hn : d.at_ = .exc c) (e : fnQ K d = d.val) (o : d.ok K = true) (q : (Qf.exc c).ok K = true) (hf : ((P.main.file : Str) == ("/claim/cut.py" : Str)) = true)
    (ht : (P.main.scope.names.lookup ("super" : Str)).isSome = false) : mg (clN c) = some (.ref (clK K c)) ∧ ExcU P K (clK K c) (ma K (clK K c) "__init__") (exB c) (exN c) (exI c) (exM c) d.st := by
  obtain ⟨q1, q⟩ := ba q
  obtain ⟨q2, q⟩ := ba q
  obtain ⟨q3, q⟩ := ba q
  obtain ⟨q4, q⟩ := ba q
  obtain ⟨q5, q⟩ := ba q
  obtain ⟨q6, q⟩ := ba q
  obtain ⟨q7, q⟩ := ba q
  obtain ⟨q8, q⟩ := ba q
  obtain ⟨q9, q⟩ := ba q
  obtain ⟨q10, q⟩ := ba q
  obtain ⟨q11, q⟩ := ba q
  obtain ⟨q12, q⟩ := ba q
  obtain ⟨q13, q14⟩ := ba q
  refine ⟨PySem.W.mg_of X G (He.eqO_ok q14), ex_base c, ex_kxs c, q1, He.eqO_ok q2, ob_ok q3, ?_, q5, ob_ok q6, He.eqO_ok q7, ht, He.eqO_ok q8, He.eqO_ok q9, ob_ok q10, ob_ok q11, ob_ok q12, q13⟩
  obtain ⟨kp, c2⟩ := ba o
  unfold fnQ at e
  rw [hn] at e c2
  simp only [Dat.ad] at e c2
  unfold supIn at q4
  cases ql : K.lookup (ma K (clK K c) "__init__") with
  | none =>
    rw [ql] at c2
    cases c2
  | some o =>
    obtain ⟨oc, od, dt, osl⟩ := o
    rw [ql] at c2 e q4
    cases dt with
    | func fd =>
      obtain ⟨n1, n2, n3, n4, n5, n6, n7, n8, n9, n10, n11, n12, n13, n14, n15⟩ := fd
      have e2 : (some (n1, n2, n3, n4, n5, n6, n7.map (·.1), n15) : FnQ) = some (d.name, d.qual, defArgs d.st, .stmts (defBody d.st), defScope d.st, mainGlobals, d.at_.cn, builtinsNs) := e
      rw [hn] at e2
      simp only [Option.some.injEq, Prod.mk.injEq, Dat.cn] at e2
      obtain ⟨h1, h2, h3, h4, h5, h6, h7, h8⟩ := e2
      obtain ⟨k1, k2⟩ := ba c2
      have k3 : n8 = .none := by
        clear ql k1 c2 kp q4
        dsimp only at k2
        cases n8 <;> first | rfl | cases k2
      obtain ⟨q41, q42⟩ := ba q4
      dsimp only at q41 q42 k1
      cases n7 with
      | nil => cases h7
      | cons p r =>
        obtain ⟨nm, cc⟩ := p
        cases r with
        | cons p' r' => simp at h7
        | nil =>
          simp only [List.map_cons, List.map_nil, List.cons.injEq, and_true] at h7
          subst h7
          cases n13 with
          | ref cda =>
            dsimp only at q41 q42
            split at q41
            · rename_i o1 o2 vs o3 hcd
              split at q41
              · rename_i z tf hv
                split at q42
                · rename_i y1 y2 D y3 hcc
                  have hD := of_decide_eq_true q42
                  subst hD
                  subst h1 h2 h3 h4 h5 h6 h8 k3
                  exact ⟨oc, od, _, _, _, _, _, _, _, osl, cc, cda, rfl, k1, ⟨_, _, vs, _, z, tf, hcd, hv, by rw [beq_iff_eq.mp q41]; exact hf⟩, _, _, _, hcc⟩
                · cases q42
              · cases q41
            · cases q41
          | _ => cases q41
    | _ => cases c2
section
variable {fa : List Qf} {fn : List DefQ} {K : PySem.W.Frag}
theorem SaysQ.fact (c : SaysQ fa fn K) (i : Nat) {f : Qf} (h : fa[i]? = some f := by rfl) : f.ok K = true := by
  have c1 := (ba (show ((fa.all fun f => f.ok K) && fn.all fun d => d.ok K) = true from congrArg (fun z : AlQ => z.1) c)).1
  exact List.all_eq_true.mp c1 f (List.mem_of_getElem? h)
theorem SaysQ.both (c : SaysQ fa fn K) (i : Nat) {d : DefQ} (h : fn[i]? = some d := by rfl) : fnQ K d = d.val ∧ d.ok K = true := by
  have c2 := (ba (show ((fa.all fun f => f.ok K) && fn.all fun d => d.ok K) = true from congrArg (fun z : AlQ => z.1) c)).2
  have e : fn.map (fun d => fnQ K d) = fn.map DefQ.val := congrArg (fun z : AlQ => z.2) c
  have e2 : (fn.map fun d => fnQ K d)[i]? = (fn.map DefQ.val)[i]? := by rw [e]
  rw [List.getElem?_map, List.getElem?_map, h] at e2
  exact ⟨Option.some.inj e2, List.all_eq_true.mp c2 d (List.mem_of_getElem? h)⟩
theorem SaysQ.def_ (c : SaysQ fa fn K) (i : Nat) {d : DefQ} (h : fn[i]? = some d := by rfl) (hn : d.at_.cn = [] := by rfl) : ∃ fd, Fun K d.name d.qual d.st (d.at_.ad K) fd := DefQ.fun hn (c.both i h).1 (c.both i h).2
end
theorem bindsA0 {K : PySem.W.Frag} {x qual : Str} {st : Stmt} {f : Addr} {fd : FuncData} {us : List Value} {r : List (Str × Value)} (F : Fun K x qual st f fd)
    (h : ∀ (kV doc pm : Value) (an : Option Addr) (cdv ct : Value), bindArgs (PySem.W.fnOf x qual (defArgs st) (defBody st) (defScope st) .none kV doc pm an cdv ct) ⟨us, []⟩ = pure r) (s : Shared) : BindsTo s fd ⟨us, []⟩ r := by
  obtain ⟨oc, od, kV, doc, pm, an, cdv, ct, osl, rfl, lk, hcd⟩ := F.ex
  exact .of_eq (h kV doc pm an cdv ct)
end Q
namespace Lw
open PySem L2 Q
def m_l_cells : MS := (mSeq (mAsg (mOrV (mCall fListC (mCons (mSl (mVar 0) mNoO (mSoO (mVar 1))) mNil)) (mCell (mCons (mC (.int 0)) mNil))) (mgN 2))
  (mSeq (mFor (mEnum (mSl (mVar 0) (mSoO (mVar 1)) (mSoO (mC (.int 63))))) (mgTup 2 (mgCons (mgN 3) (mgCons (mgN 4) mgNil))) (mSeq (mAsg (mOp opModI (mCall fInt (mCons (mVar 3) mNil)) (mVar 1)) (mgN 5))
  (mAsg (mOp opAdd (mOp opIx (mVar 2) (mVar 5)) (mOp opMul (mVar 4) (mOp opAdd (mVar 3) (mC (.int 2))))) (mgSub (mVar 2) (mVar 5)))))
  (mRet (mFrz (mVar 2)))))
def f_l_cells : List D → Store → Res D := fnM 6 2 m_l_cells
def m_p_tupled (self : List D → Store → Res D) : MS := (mRet (mIfE (mTest (mIsi2 .list .tuple (mVar 0))) (mCall fTuple (mCons (mLc (mItems (mVar 0)) (mgN 1) mYes (mCall (fPure self) (mCons (mVar 1) mNil)) [1]) mNil)) (mVar 0)))
def f_p_tupled : Nat → List D → Store → Res D
  | 0 => fun _ _ => .no
  | k + 1 => fnM 2 1 (m_p_tupled (f_p_tupled k))
def m_p_choices : MS := (mSeq (mPar 1 2 (mCons (mOp opIx (mCall (fPure (f_p_tupled 30)) (mCons (mVar 0) mNil)) (mC (.int 2))) (mCons (mC (.int 1)) mNil)))
  (mSeq (mFor (mItems (mVar 1)) (mgN 3) (mSeq (mAugM 2 (mCall fLen (mCons (mVar 3) mNil)))
  (mIf (mTB (mOp opGt (mVar 2) (mC (.int 64)))) (mRaise 11) mSkip)))
  (mSeq (mAsg (mLst (mCons (mTup mNil) mNil)) (mgN 4))
  (mSeq (mFor (mItems (mVar 1)) (mgN 3) (mAsg (mLc2 (mItems (mVar 4)) (mgN 5) mYes (mItems (mVar 3)) (mgN 6) mYes (mTup (mStar (mVar 5) (mCons (mVar 6) mNil))) [5, 6] [6]) (mgN 4)))
  (mRet (mVar 4))))))
def f_p_choices : List D → Store → Res D := fnM 7 1 m_p_choices
def g_p_choices : List D → Store → Res D := fnX 7 1 m_p_choices
def m_p_agree : MS := (mRet (mOp opEq (mOp opMul (mOp opIx (mVar 0) (mC (.int 0))) (mOp opIx (mVar 1) (mC (.int 1)))) (mOp opMul (mOp opIx (mVar 1) (mC (.int 0))) (mOp opIx (mVar 0) (mC (.int 1))))))
def f_p_agree : List D → Store → Res D := fnM 2 2 m_p_agree
def m_p_turning : MS := (mSeq (mPar 1 2 (mCons (mVar 0) (mCons (mOp opAdd (mCall fLen (mCons (mVar 0) mNil)) (mC (.int 1))) mNil)))
  (mSeq (mWhile (fun _ _ => 1000) (mTB (mOp opLt (mCall fLen (mCons (mVar 1) mNil)) (mVar 2))) (mSeq (mAsg (mCall fLen (mCons (mVar 1) mNil)) (mgN 2))
  (mSeq (mAsg (mLc (mItems (mVar 1)) (mgTup 2 (mgCons (mgN 4) (mgCons (mgN 5) mgNil))) mYes (mVar 5) [4, 5]) (mgN 3))
  (mAsg (mLc (mItems (mVar 1)) (mgN 6) (mTB (mOp opIn (mOp opIx (mVar 6) (mC (.int 0))) (mVar 3))) (mVar 6) [6]) (mgN 1)))))
  (mRet (mVar 1))))
def f_p_turning : List D → Store → Res D := fnM 7 1 m_p_turning
def m_p_arcs_of : MS := (mSeq (mAsg (mCall (fPure (f_p_tupled 30)) (mCons (mVar 0) mNil)) (mgTup 4 (mgCons (mgN 1) (mgCons (mgN 2) (mgCons (mgN 3) (mgCons (mgN 4) mgNil))))))
  (mRet (mOp opAdd (mLc (mItems (mVar 3)) (mgTup 2 (mgCons (mgN 5) (mgCons (mgN 6) mgNil))) mYes (mTup (mCons (mVar 6) (mCons (mVar 5) mNil))) [5, 6]) (mLc (mItems (mVar 4)) (mgN 7) mYes (mVar 7) [7]))))
def f_p_arcs_of : List D → Store → Res D := fnM 8 1 m_p_arcs_of
def m_p_path : MS := (mSeq (mPar 3 4 (mCons (mLst (mCons (mTup (mCons (mVar 1) mNil)) mNil)) (mCons (mCell (mCons (mVar 1) mNil)) mNil)))
  (mSeq (mWhile (fun _ _ => 1000) (mTB (mOp opGt (mCall fLen (mCons (mVar 3) mNil)) (mC (.int 0)))) (mSeq (mAsg (mCell mNil) (mgN 5))
  (mSeq (mFor (mItems (mFrz (mVar 3))) (mgN 6) (mSeq (mIf (mTB (mOp opEq (mOp opIx (mVar 6) (mNeg (mC (.int 1)))) (mVar 2))) (mRet (mVar 6)) mSkip)
  (mFor (mItems (mVar 0)) (mgTup 2 (mgCons (mgN 7) (mgCons (mgN 8) mgNil))) (mIf (mAndT (mTB (mOp opEq (mVar 7) (mOp opIx (mVar 6) (mNeg (mC (.int 1)))))) (mTB (mOp opNin (mVar 8) (mVar 4)))) (mSeq (mDrop (mApp (mVar 4) (mVar 8)))
  (mDrop (mApp (mVar 5) (mTup (mStar (mVar 6) (mCons (mVar 8) mNil)))))) mSkip))))
  (mAsg (mVar 5) (mgN 3)))))
  (mRet (mC .non))))
def f_p_path : List D → Store → Res D := fnM 9 3 m_p_path
def m_p_ring : MS := (mSeq (mAsg (mCall (fPure f_p_turning) (mCons (mCall (fPure f_p_arcs_of) (mCons (mVar 0) mNil)) mNil)) (mgN 1))
  (mSeq (mFor (mItems (mVar 1)) (mgTup 2 (mgCons (mgN 2) (mgCons (mgN 3) mgNil))) (mSeq (mAsg (mCall (fPure f_p_path) (mCons (mVar 1) (mCons (mVar 3) (mCons (mVar 2) mNil)))) (mgN 4))
  (mIf (mTB (mNotN (mVar 4))) (mRet (mTup (mCons (mVar 2) (mStar (mVar 4) mNil)))) mSkip)))
  (mRet (mC .non))))
def f_p_ring : List D → Store → Res D := fnM 5 1 m_p_ring
def m_p_check : MS := (mSeq (mAsg (mCall (fPure f_p_ring) (mCons (mVar 0) mNil)) (mgN 1))
  (mIf (mTB (mNotN (mVar 1))) (mRaiseB 12 "ring" (fPure (f_p_tupled 30)) (mVar 1)) mSkip))
def f_p_check : List D → Store → Res D := fnM 2 1 m_p_check
def g_p_check : List D → Store → Res D := fnX 2 1 m_p_check
def m_p_log_by : MS := (mSeq (mAsg (mVar 0) (mgTup 2 (mgCons (mgN 2) (mgCons (mgN 3) mgNil))))
  (mSeq (mAsg (mCell mNil) (mgN 4))
  (mSeq (mFor (mZip (mCons (mVar 1) (mCons (mSl (mVar 1) (mSoO (mC (.int 1))) mNoO) mNil))) (mgTup 2 (mgCons (mgN 5) (mgCons (mgN 6) mgNil))) (mDrop (mApp (mVar 4) (mTup (mCons (mOp opMul (mCall fMax2 (mCons (mC (.int 0)) (mCons (mOp opSubI (mVar 5) (mVar 6)) mNil))) (mOp opSubI (mVar 3) (mVar 2))) (mCons (mOp opMul (mCall fMax2 (mCons (mC (.int 0)) (mCons (mOp opSubI (mVar 6) (mVar 5)) mNil))) (mVar 2)) mNil))))))
  (mRet (mCall fTuple (mCons (mVar 4) mNil))))))
def f_p_log_by : List D → Store → Res D := fnM 7 2 m_p_log_by
def m_p_ranks : MS := (mSeq (mAsg (mOp opRepC (mLst (mCons (mC (.int 0)) mNil)) (mOp opAdd (mVar 0) (mC (.int 1)))) (mgN 2))
  (mSeq (mFor (mRange1 (mVar 0)) (mgN 3) (mFor (mItems (mVar 1)) (mgTup 2 (mgCons (mgN 4) (mgCons (mgN 5) mgNil))) (mAsg (mCall fMax2 (mCons (mOp opIx (mVar 2) (mVar 5)) (mCons (mOp opAdd (mOp opIx (mVar 2) (mVar 4)) (mC (.int 1))) mNil))) (mgSub (mVar 2) (mVar 5)))))
  (mRet (mFrz (mVar 2)))))
def f_p_ranks : List D → Store → Res D := fnM 6 2 m_p_ranks
def m_p_fitting : MS := (mSeq (mDrop (mCallX (fPureX g_p_check) (mCons (mVar 0) mNil)))
  (mSeq (mAsg (mCall (fPure (f_p_tupled 30)) (mCons (mVar 0) mNil)) (mgTup 4 (mgCons (mgN 1) (mgCons (mgN 2) (mgCons (mgN 3) (mgCons (mgN 4) mgNil))))))
  (mRet (mCall (fPure f_p_log_by) (mCons (mVar 2) (mCons (mCall (fPure f_p_ranks) (mCons (mVar 1) (mCons (mCall (fPure f_p_arcs_of) (mCons (mVar 0) mNil)) mNil))) mNil))))))
def f_p_fitting : List D → Store → Res D := fnM 5 1 m_p_fitting
def g_p_fitting : List D → Store → Res D := fnX 5 1 m_p_fitting
def m_p_going_off : MS := (mSeq (mAsg (mCall (fPure (f_p_tupled 30)) (mCons (mVar 0) mNil)) (mgTup 3 (mgCons (mgN 2) (mgCons (mgN 3) (mgCons (mgN 4) mgNil)))))
  (mSeq (mAsg (mCall (fPure (f_p_tupled 30)) (mCons (mVar 1) mNil)) (mgN 5))
  (mSeq (mFor (mItems (mCallX (fPureX g_p_choices) (mCons (mVar 0) mNil))) (mgN 6) (mSeq (mAsg (mTup (mCons (mVar 2) (mCons (mVar 3) (mCons (mCall fTuple (mCons (mSortSetT (mVar 6)) mNil)) (mCons (mVar 5) mNil))))) (mgN 7))
  (mIf (mAndT (mNotT (mTest (mCall fAny (mCons (mLc (mItems (mVar 6)) (mgN 8) mYes (mOp opIn (mVar 8) (mVar 5)) [8]) mNil)))) (mTB (mIsN (mCall (fPure f_p_ring) (mCons (mVar 7) mNil))))) (mRet (mCallX (fPureX g_p_fitting) (mCons (mVar 7) mNil))) mSkip)))
  (mRet (mC .non)))))
def f_p_going_off : List D → Store → Res D := fnM 9 2 m_p_going_off
def g_p_going_off : List D → Store → Res D := fnX 9 2 m_p_going_off
def m_p_parting_alarms : MS := (mSeq (mPar 2 3 (mCons (mCall (fPure (f_p_tupled 30)) (mCons (mVar 0) mNil)) (mCons (mCall (fPure (f_p_tupled 30)) (mCons (mVar 1) mNil)) mNil)))
  (mSeq (mIf (mOrT (mTB (mOp opNe (mOp opIx (mVar 2) (mC (.int 0))) (mOp opIx (mVar 3) (mC (.int 0))))) (mNotT (mTest (mCall (fPure f_p_agree) (mCons (mOp opIx (mVar 2) (mC (.int 1))) (mCons (mOp opIx (mVar 3) (mC (.int 1))) mNil)))))) (mRaise 10) mSkip)
  (mSeq (mAsg (mLst (mCons (mTup (mCons (mVar 2) (mCons (mVar 3) mNil))) (mCons (mTup (mCons (mVar 3) (mCons (mVar 2) mNil))) mNil))) (mgN 4))
  (mSeq (mFor (mItems (mVar 4)) (mgTup 2 (mgCons (mgN 5) (mgCons (mgN 6) mgNil))) (mDrop (mCallX (fPureX g_p_choices) (mCons (mVar 5) mNil))))
  (mSeq (mFor (mItems (mVar 4)) (mgTup 2 (mgCons (mgN 5) (mgCons (mgN 6) mgNil))) (mFor (mItems (mOp opIx (mVar 6) (mC (.int 2)))) (mgN 7) (mSeq (mAsg (mCallX (fPureX g_p_going_off) (mCons (mVar 5) (mCons (mVar 7) mNil))) (mgN 8))
  (mIf (mTB (mNotN (mVar 8))) (mRet (mVar 8)) mSkip))))
  (mRet (mC .non)))))))
def f_p_parting_alarms : List D → Store → Res D := fnM 9 2 m_p_parting_alarms
def g_p_parting_alarms : List D → Store → Res D := fnX 9 2 m_p_parting_alarms
def m_p_alike_alarms : MS := (mRet (mIsN (mCallX (fPureX g_p_parting_alarms) (mCons (mVar 0) (mCons (mVar 1) mNil)))))
def f_p_alike_alarms : List D → Store → Res D := fnM 2 2 m_p_alike_alarms
def g_p_alike_alarms : List D → Store → Res D := fnX 2 2 m_p_alike_alarms
def m_l_refused : MS := (mSeq (mAsg (mCell mNil) (mgN 2))
  (mSeq (mTry [⟨[(10, true), (11, false), (12, false)], 3, (mAsg (mOp opCatC (mVar 2) (mLst (mCons (mC (.str "unlike")) (mCons (mIsX [(10, true), (11, true), (12, true)] (mVar 3)) mNil)))) (mgN 2))⟩] (mDrop (mAppX (mVar 2) (mCallX (fPureX g_p_alike_alarms) (mCons (mVar 0) (mCons (mVar 1) mNil))))))
  (mSeq (mTry [⟨[(10, true), (11, false), (12, false)], 3, (mAsg (mOp opCatC (mVar 2) (mLst (mCons (mC (.str "unlike")) (mCons (mIsX [(10, true), (11, true), (12, true)] (mVar 3)) mNil)))) (mgN 2))⟩] (mDrop (mAppX (mVar 2) (mCallX (fPureX g_p_parting_alarms) (mCons (mVar 1) (mCons (mVar 0) mNil))))))
  (mRet (mOp opEq (mVar 2) (mLst (mCons (mC (.str "unlike")) (mCons (mC (.bl true)) (mCons (mC (.str "unlike")) (mCons (mC (.bl true)) mNil))))))))))
def f_l_refused : List D → Store → Res D := fnM 4 2 m_l_refused
def m_l_same (self : List D → Store → Res D) : MS := (mSeq (mIf (mTest (mIsi2 .list .tuple (mVar 1))) (mSeq (mIf (mOrT (mTB (mOp opNe (mIsi .list (mVar 0)) (mIsi .list (mVar 1)))) (mTB (mOp opNe (mIsi .tuple (mVar 0)) (mIsi .tuple (mVar 1))))) (mRet (mC (.bl false))) mSkip)
  (mRet (mAndV (mOp opEq (mCall fLen (mCons (mVar 0) mNil)) (mCall fLen (mCons (mVar 1) mNil))) (mCall fAll (mCons (mLc (mZip (mCons (mVar 0) (mCons (mVar 1) mNil))) (mgTup 2 (mgCons (mgN 2) (mgCons (mgN 3) mgNil))) mYes (mCall (fPure self) (mCons (mVar 2) (mCons (mVar 3) mNil))) [2, 3]) mNil))))) mSkip)
  (mSeq (mIf (mOrT (mTB (mIsN (mVar 1))) (mTest (mIsi2 .bool .str (mVar 1)))) (mRet (mAndV (mOp opEq (mVar 0) (mVar 1)) (mAndV (mOp opEq (mIsi .bool (mVar 0)) (mIsi .bool (mVar 1))) (mOp opEq (mIsN (mVar 0)) (mIsN (mVar 1)))))) mSkip)
  (mRet (mAndV (mIsi .int (mVar 0)) (mAndV (mNotV (mIsi .bool (mVar 0))) (mOp opEq (mVar 0) (mVar 1)))))))
def f_l_same : Nat → List D → Store → Res D
  | 0 => fun _ _ => .no
  | k + 1 => fnM 4 2 (m_l_same (f_l_same k))
def m_l_ways : MS := (mSeq (mAsg (mLst (mCons (mTup mNil) mNil)) (mgN 1))
  (mSeq (mFor (mItems (mVar 0)) (mgN 2) (mSeq (mAsg (mLst mNil) (mgN 3))
  (mSeq (mFor (mItems (mVar 1)) (mgN 4) (mAsg (mOp opAdd (mVar 3) (mLc (mItems (mVar 2)) (mgN 5) mYes (mOp opAdd (mVar 4) (mTup (mCons (mVar 5) mNil))) [5])) (mgN 3)))
  (mAsg (mVar 3) (mgN 1)))))
  (mRet (mVar 1))))
def f_l_ways : List D → Store → Res D := fnM 6 1 m_l_ways
def m_l_ring : MS := (mSeq (mAsg (mOp opAdd (mLc (mItems (mVar 0)) (mgN 6) mYes (mTup (mCons (mOp opIx (mVar 6) (mC (.int 1))) (mCons (mOp opIx (mVar 6) (mC (.int 0))) mNil))) [6]) (mLc (mItems (mVar 1)) (mgN 6) mYes (mTup (mCons (mOp opIx (mVar 6) (mC (.int 0))) (mCons (mOp opIx (mVar 6) (mC (.int 1))) mNil))) [6])) (mgN 2))
  (mSeq (mAsg (mC (.bl true)) (mgN 3))
  (mSeq (mWhile (fun _ _ => 1000) (mTest (mVar 3)) (mSeq (mAsg (mLc (mItems (mVar 2)) (mgN 7) mYes (mOp opIx (mVar 7) (mC (.int 0))) [7]) (mgN 4))
  (mSeq (mAsg (mLc (mItems (mVar 2)) (mgN 7) (mTB (mOp opIn (mOp opIx (mVar 7) (mC (.int 1))) (mVar 4))) (mVar 7) [7]) (mgN 5))
  (mSeq (mAsg (mOp opLt (mCall fLen (mCons (mVar 5) mNil)) (mCall fLen (mCons (mVar 2) mNil))) (mgN 3))
  (mAsg (mVar 5) (mgN 2))))))
  (mRet (mOp opNe (mVar 2) (mLst mNil))))))
def f_l_ring : List D → Store → Res D := fnM 8 2 m_l_ring
def m_l_idle : MS := (mSeq (mFor (mItems (mCall (fPure f_l_ways) (mCons (mVar 0) mNil))) (mgN 2) (mSeq (mAsg (mLc (mItems (mVar 2)) (mgN 4) (mTB (mOp opIn (mVar 4) (mVar 1))) (mVar 4) [4]) (mgN 3))
  (mIf (mAndT (mTB (mOp opEq (mVar 3) (mLst mNil))) (mNotT (mTest (mCall (fPure f_l_ring) (mCons (mSortSetT (mVar 2)) (mCons (mVar 1) mNil)))))) (mRet (mC (.bl false))) mSkip)))
  (mRet (mC (.bl true))))
def f_l_idle : List D → Store → Res D := fnM 5 2 m_l_idle
def m_l_due : MS := (mSeq (mFor (mItems (mTup (mCons (mTup (mCons (mVar 0) (mCons (mVar 1) mNil))) (mCons (mTup (mCons (mVar 1) (mCons (mVar 0) mNil))) mNil)))) (mgTup 2 (mgCons (mgN 2) (mgCons (mgN 3) mgNil))) (mIf (mNotT (mTest (mCall fAll (mCons (mLc (mItems (mOp opIx (mVar 3) (mC (.int 2)))) (mgN 4) mYes (mCall (fPure f_l_idle) (mCons (mOp opIx (mVar 2) (mC (.int 2))) (mCons (mVar 4) mNil))) [4]) mNil)))) (mRet (mC (.bl false))) mSkip))
  (mRet (mC (.bl true))))
def f_l_due : List D → Store → Res D := fnM 5 2 m_l_due
def m_l_lists (self : List D → Store → Res D) : MS := (mRet (mIfE (mTest (mIsi2 .list .tuple (mVar 0))) (mLc (mItems (mVar 0)) (mgN 1) mYes (mCall (fPure self) (mCons (mVar 1) mNil)) [1]) (mVar 0)))
def f_l_lists : Nat → List D → Store → Res D
  | 0 => fun _ _ => .no
  | k + 1 => fnM 2 1 (m_l_lists (f_l_lists k))
def m_l_above : MS := (mRet (mOp opGt (mOp opMul (mOp opIx (mVar 0) (mC (.int 1))) (mOp opIx (mVar 1) (mC (.int 1)))) (mOp opMul (mOp opIx (mVar 0) (mC (.int 0))) (mOp opAdd (mOp opIx (mVar 1) (mC (.int 0))) (mOp opIx (mVar 1) (mC (.int 1)))))))
def f_l_above : List D → Store → Res D := fnM 2 2 m_l_above
def m_l_calls : MS := (mSeq (mAsg (mSl (mVar 0) (mSoO (mOp opIx (mVar 1) (mC (.int 0)))) (mSoO (mOp opIx (mVar 1) (mC (.int 1))))) (mgN 2))
  (mRet (mTup (mCons (mCall fSum (mCons (mLc (mItems (mVar 2)) (mgN 3) mYes (mOp opIx (mVar 3) (mC (.int 0))) [3]) mNil)) (mCons (mCall fSum (mCons (mLc (mItems (mVar 2)) (mgN 3) mYes (mOp opIx (mVar 3) (mC (.int 1))) [3]) mNil)) mNil)))))
def f_l_calls : List D → Store → Res D := fnM 4 2 m_l_calls
def m_l_off : MS := (mSeq (mAsg (mCell mNil) (mgN 2))
  (mSeq (mFor (mItems (mOp opIx (mVar 0) (mC (.int 2)))) (mgN 3) (mIf (mTest (mCall fAll (mCons (mLc (mItems (mVar 3)) (mgN 4) mYes (mCall (fPure f_l_above) (mCons (mOp opIx (mVar 0) (mC (.int 1))) (mCons (mCall (fPure f_l_calls) (mCons (mVar 1) (mCons (mVar 4) mNil))) mNil))) [4]) mNil))) (mDrop (mApp (mVar 2) (mVar 3))) mSkip))
  (mRet (mFrz (mVar 2)))))
def f_l_off : List D → Store → Res D := fnM 5 2 m_l_off
def m_l_pair_right : MS := (mSeq (mPar 2 3 (mCons (mCall (fPure f_l_due) (mCons (mVar 0) (mCons (mVar 1) mNil))) (mCons (mLst (mCons (mCall (fPure (f_l_lists 30)) (mCons (mVar 0) mNil)) (mCons (mCall (fPure (f_l_lists 30)) (mCons (mVar 1) mNil)) mNil))) mNil)))
  (mSeq (mAsg (mCell (mCons (mCall (fPure f_p_alike_alarms) (mCons (mVar 0) (mCons (mVar 1) mNil))) (mCons (mCallK (fPure f_p_alike_alarms) 0 2 [1, 0] mNil (mCons (mOp opIx (mVar 3) (mC (.int 1))) (mCons (mOp opIx (mVar 3) (mC (.int 0))) mNil))) (mCons (mCall (fPure f_p_alike_alarms) (mCons (mVar 1) (mCons (mVar 0) mNil))) mNil)))) (mgN 4))
  (mSeq (mIf (mNotT (mTest (mCall (fPure (f_l_same 30)) (mCons (mFrz (mVar 4)) (mCons (mOp opMul (mLst (mCons (mVar 2) mNil)) (mC (.int 3))) mNil))))) (mRet (mC (.bl false))) mSkip)
  (mSeq (mAsg (mCell (mCons (mCall (fPure f_p_parting_alarms) (mCons (mVar 0) (mCons (mVar 1) mNil))) (mCons (mCall (fPure f_p_parting_alarms) (mCons (mVar 1) (mCons (mVar 0) mNil))) mNil))) (mgN 4))
  (mSeq (mDrop (mApp (mVar 4) (mCallK (fPure f_p_parting_alarms) 0 2 [1, 0] mNil (mCons (mOp opIx (mVar 3) (mC (.int 1))) (mCons (mOp opIx (mVar 3) (mC (.int 0))) mNil)))))
  (mSeq (mFor (mItems (mFrz (mVar 4))) (mgN 5) (mSeq (mIf (mTB (mOp opNe (mIsN (mVar 5)) (mVar 2))) (mRet (mC (.bl false))) mSkip)
  (mIf (mTB (mNotN (mVar 5))) (mSeq (mIf (mOrT (mNotT (mTest (mIsi .tuple (mVar 5)))) (mTB (mOp opNe (mCall fLen (mCons (mVar 5) mNil)) (mOp opIx (mVar 0) (mC (.int 0)))))) (mRet (mC (.bl false))) mSkip)
  (mIf (mTB (mOp opEq (mOp opEq (mCall (fPure f_l_off) (mCons (mVar 0) (mCons (mVar 5) mNil))) (mLst mNil)) (mOp opEq (mCall (fPure f_l_off) (mCons (mVar 1) (mCons (mVar 5) mNil))) (mLst mNil)))) (mRet (mC (.bl false))) mSkip)) mSkip)))
  (mRet (mOp opEq (mVar 3) (mLst (mCons (mCall (fPure (f_l_lists 30)) (mCons (mVar 0) mNil)) (mCons (mCall (fPure (f_l_lists 30)) (mCons (mVar 1) mNil)) mNil)))))))))))
def f_l_pair_right : List D → Store → Res D := fnM 6 2 m_l_pair_right
def m_l_by_hand_right : MS := (mSeq (mAsg (mTup (mCons (mC (.int 4)) (mCons (mTup (mCons (mC (.int 1)) (mCons (mC (.int 10)) mNil))) (mCons (mTup (mCons (mTup (mCons (mTup (mCons (mC (.int 0)) (mCons (mC (.int 2)) mNil))) mNil)) (mCons (mTup (mCons (mTup (mCons (mC (.int 0)) (mCons (mC (.int 4)) mNil))) (mCons (mTup (mCons (mC (.int 2)) (mCons (mC (.int 4)) mNil))) mNil))) mNil))) mNil)))) (mgN 0))
  (mSeq (mAsg (mTup (mCons (mC (.int 4)) (mCons (mTup (mCons (mC (.int 1)) (mCons (mC (.int 10)) mNil))) (mCons (mTup (mCons (mTup (mCons (mTup (mCons (mC (.int 0)) (mCons (mC (.int 4)) mNil))) mNil)) (mCons (mTup (mCons (mTup (mCons (mC (.int 1)) (mCons (mC (.int 3)) mNil))) mNil)) mNil))) mNil)))) (mgN 1))
  (mSeq (mAsg (mLst (mCons (mTup (mCons (mVar 0) (mCons (mTup (mCons (mC (.int 4)) (mCons (mTup (mCons (mC (.int 2)) (mCons (mC (.int 20)) mNil))) (mCons (mTup (mCons (mTup (mCons (mTup (mCons (mC (.int 0)) (mCons (mC (.int 2)) mNil))) mNil)) (mCons (mTup (mCons (mTup (mCons (mC (.int 0)) (mCons (mC (.int 4)) mNil))) mNil)) mNil))) mNil)))) (mCons (mC (.bl true)) mNil)))) (mCons (mTup (mCons (mVar 0) (mCons (mTup (mCons (mC (.int 4)) (mCons (mTup (mCons (mC (.int 1)) (mCons (mC (.int 10)) mNil))) (mCons (mTup (mCons (mTup (mCons (mTup (mCons (mC (.int 0)) (mCons (mC (.int 2)) mNil))) mNil)) (mCons (mTup (mCons (mTup (mCons (mC (.int 2)) (mCons (mC (.int 4)) mNil))) mNil)) mNil))) mNil)))) (mCons (mC (.bl false)) mNil)))) mNil))) (mgN 2))
  (mSeq (mAsg (mOp opAdd (mVar 2) (mLst (mCons (mTup (mCons (mVar 0) (mCons (mVar 1) (mCons (mC (.bl false)) mNil)))) (mCons (mTup (mCons (mVar 0) (mCons (mVar 0) (mCons (mC (.bl true)) mNil)))) (mCons (mTup (mCons (mTup (mCons (mC (.int 3)) (mCons (mTup (mCons (mC (.int 1)) (mCons (mC (.int 2)) mNil))) (mCons (mTup mNil) mNil)))) (mCons (mTup (mCons (mC (.int 3)) (mCons (mTup (mCons (mC (.int 2)) (mCons (mC (.int 4)) mNil))) (mCons (mTup mNil) mNil)))) (mCons (mC (.bl true)) mNil)))) mNil))))) (mgN 2))
  (mSeq (mAsg (mOp opAdd (mVar 2) (mLst (mCons (mTup (mCons (mVar 1) (mCons (mTup (mCons (mC (.int 4)) (mCons (mTup (mCons (mC (.int 1)) (mCons (mC (.int 10)) mNil))) (mCons (mTup (mCons (mTup (mCons (mTup (mCons (mC (.int 0)) (mCons (mC (.int 3)) mNil))) (mCons (mTup (mCons (mC (.int 1)) (mCons (mC (.int 4)) mNil))) mNil))) (mCons (mTup (mCons (mTup (mCons (mC (.int 0)) (mCons (mC (.int 4)) mNil))) mNil)) (mCons (mTup (mCons (mTup (mCons (mC (.int 1)) (mCons (mC (.int 3)) mNil))) mNil)) mNil)))) mNil)))) (mCons (mC (.bl true)) mNil)))) mNil))) (mgN 2))
  (mSeq (mAsg (mOp opAdd (mVar 2) (mLst (mCons (mTup (mCons (mVar 1) (mCons (mTup (mCons (mC (.int 4)) (mCons (mTup (mCons (mC (.int 1)) (mCons (mC (.int 10)) mNil))) (mCons (mTup (mCons (mTup (mCons (mTup (mCons (mC (.int 0)) (mCons (mC (.int 3)) mNil))) (mCons (mTup (mCons (mC (.int 1)) (mCons (mC (.int 4)) mNil))) mNil))) (mCons (mTup (mCons (mTup (mCons (mC (.int 0)) (mCons (mC (.int 4)) mNil))) mNil)) mNil))) mNil)))) (mCons (mC (.bl false)) mNil)))) mNil))) (mgN 2))
  (mSeq (mFor (mItems (mVar 2)) (mgTup 3 (mgCons (mgN 3) (mgCons (mgN 4) (mgCons (mgN 5) mgNil)))) (mIf (mOrT (mNotT (mTest (mCall (fPure (f_l_same 30)) (mCons (mCall (fPure f_p_alike_alarms) (mCons (mVar 3) (mCons (mVar 4) mNil))) (mCons (mVar 5) mNil))))) (mNotT (mTest (mCall (fPure f_l_pair_right) (mCons (mVar 3) (mCons (mVar 4) mNil)))))) (mRet (mC (.bl false))) mSkip))
  (mSeq (mIf (mOrT (mNotT (mTest (mCall (fPure f_l_refused) (mCons (mVar 0) (mCons (mOp opAdd (mTup (mCons (mC (.int 5)) mNil)) (mSl (mVar 0) (mSoO (mC (.int 1))) mNoO)) mNil))))) (mNotT (mTest (mCall (fPure f_l_refused) (mCons (mVar 0) (mCons (mTup (mCons (mC (.int 4)) (mCons (mTup (mCons (mC (.int 1)) (mCons (mC (.int 9)) mNil))) (mCons (mOp opIx (mVar 0) (mC (.int 2))) mNil)))) mNil)))))) (mRet (mC (.bl false))) mSkip)
  (mRet (mCall (fPure f_l_refused) (mCons (mVar 1) (mCons (mTup (mCons (mC (.int 3)) (mCons (mTup (mCons (mC (.int 1)) (mCons (mC (.int 10)) mNil))) (mCons (mTup mNil) mNil)))) mNil))))))))))))
def f_l_by_hand_right : List D → Store → Res D := fnM 6 0 m_l_by_hand_right
def m_l_take : MS := (mSeq (mIf (mTB (mOp opGt (mOp opIx (mVar 0) (mC (.int 0))) (mC (.int 0)))) (mSeq (mAsg (mOp opModI (mCall fInt (mCons (mOp opIx (mVar 0) (mC (.int 0))) mNil)) (mVar 1)) (mgN 2))
  (mSeq (mAsg (mOp opDivI (mOp opIx (mVar 0) (mC (.int 0))) (mVar 1)) (mgSub (mVar 0) (mC (.int 0))))
  (mRet (mVar 2)))) mSkip)
  (mSeq (mAsg (mOp opAdd (mOp opIx (mVar 0) (mC (.int 2))) (mC (.int 1))) (mgSub (mVar 0) (mC (.int 2))))
  (mSeq (mAsg (mOp opModI (mCall fInt (mCons (mOp opMul (mOp opAdd (mOp opIx (mVar 0) (mC (.int 1))) (mOp opMul (mC (.int 48271)) (mOp opIx (mVar 0) (mC (.int 2))))) (mOp opAdd (mC (.int 39373)) (mOp opIx (mVar 0) (mC (.int 2))))) mNil)) (mC (.int 2147483647))) (mgN 3))
  (mSeq (mAsg (mOp opAdd (mOp opModI (mCall fInt (mCons (mVar 3) mNil)) (mC (.int 40009))) (mC (.int 7))) (mgN 4))
  (mSeq (mAsg (mOp opModI (mCall fInt (mCons (mOp opMul (mOp opAdd (mOp opAdd (mVar 3) (mOp opIx (mVar 0) (mC (.int 2)))) (mOp opDivI (mOp opIx (mVar 0) (mC (.int 1))) (mC (.int 1000003)))) (mVar 4)) mNil)) (mC (.int 2147483629))) (mgN 5))
  (mRet (mOp opModI (mCall fInt (mCons (mOp opDivI (mOp opModI (mCall fInt (mCons (mOp opAdd (mOp opMul (mVar 5) (mC (.int 48271))) (mVar 3)) mNil)) (mC (.int 2147483587))) (mC (.int 64))) mNil)) (mVar 1))))))))
def f_l_take : List D → Store → Res D := fnM 6 2 m_l_take
def m_l_of : MS := (mRet (mOp opIx (mVar 1) (mCall (fCall f_l_take) (mCons (mVar 0) (mCons (mCall fLen (mCons (mVar 1) mNil)) mNil)))))
def f_l_of : List D → Store → Res D := fnM 2 2 m_l_of
def m_l_alarm : MS := (mSeq (mPar 3 4 (mCons (mCell mNil) (mCons (mCall (fCall f_l_of) (mCons (mVar 0) (mCons (mLst (mCons (mC (.int 1)) (mCons (mC (.int 2)) (mCons (mC (.int 4)) (mCons (mVar 1) mNil))))) mNil))) mNil)))
  (mSeq (mFor (mRange1 (mOp opAdd (mC (.int 1)) (mCall (fCall f_l_take) (mCons (mVar 0) (mCons (mVar 2) mNil))))) (mgN 5) (mSeq (mAsg (mCall (fCall f_l_take) (mCons (mVar 0) (mCons (mVar 1) mNil))) (mgN 6))
  (mDrop (mApp (mVar 3) (mTup (mCons (mVar 6) (mCons (mCall fMin2 (mCons (mVar 1) (mCons (mOp opAdd (mOp opAdd (mVar 6) (mC (.int 1))) (mCall (fCall f_l_take) (mCons (mVar 0) (mCons (mVar 4) mNil)))) mNil))) mNil)))))))
  (mRet (mCall fTuple (mCons (mSortSet (mFrz (mVar 3))) mNil)))))
def f_l_alarm : List D → Store → Res D := fnM 7 3 m_l_alarm
def m_l_limit : MS := (mSeq (mAsg (mCall (fCall f_l_take) (mCons (mVar 0) (mCons (mC (.int 8)) mNil))) (mgN 1))
  (mSeq (mIf (mTB (mOp opEq (mVar 1) (mC (.int 0)))) (mRet (mTup (mCons (mOp opAdd (mC (.int 1)) (mCall (fCall f_l_take) (mCons (mVar 0) (mCons (mOp opPowI (mC (.int 10)) (mC (.int 18))) mNil)))) (mCons (mOp opAdd (mOp opAdd (mOp opPowI (mC (.int 10)) (mC (.int 18))) (mC (.int 1))) (mCall (fCall f_l_take) (mCons (mVar 0) (mCons (mOp opPowI (mC (.int 10)) (mC (.int 20))) mNil)))) mNil)))) mSkip)
  (mSeq (mIf (mTB (mOp opEq (mVar 1) (mC (.int 1)))) (mRet (mTup (mCons (mOp opAdd (mC (.int 2)) (mOp opMul (mCall (fCall f_l_take) (mCons (mVar 0) (mCons (mC (.int 3)) mNil))) (mC (.int 2)))) (mCons (mC (.int 20)) mNil)))) mSkip)
  (mRet (mCall (fCall f_l_of) (mCons (mVar 0) (mCons (mLst (mCons (mTup (mCons (mC (.int 1)) (mCons (mC (.int 10)) mNil))) (mCons (mTup (mCons (mC (.int 1)) (mCons (mC (.int 2)) mNil))) (mCons (mTup (mCons (mC (.int 1)) (mCons (mC (.int 100)) mNil))) (mCons (mTup (mCons (mC (.int 3)) (mCons (mC (.int 7)) mNil))) (mCons (mTup (mCons (mC (.int 99)) (mCons (mC (.int 100)) mNil))) (mCons (mTup (mCons (mC (.int 2)) (mCons (mC (.int 5)) mNil))) mNil))))))) mNil)))))))
def f_l_limit : List D → Store → Res D := fnM 2 1 m_l_limit
def m_l_alarms : MS := (mSeq (mPar3 5 6 7 (mCons (mOp opAdd (mC (.int 1)) (mCall (fCall f_l_take) (mCons (mVar 0) (mCons (mVar 1) mNil)))) (mCons (mCell mNil) (mCons (mC (.int 1)) mNil))))
  (mSeq (mFor (mRange1 (mCall (fCall f_l_take) (mCons (mVar 0) (mCons (mOp opAdd (mVar 2) (mC (.int 1))) mNil)))) (mgN 8) (mSeq (mAsg (mCall (fCall f_l_alarm) (mCons (mVar 0) (mCons (mVar 5) (mCons (mVar 3) mNil)))) (mgN 9))
  (mIf (mAndT (mTB (mOp opNin (mVar 9) (mVar 6))) (mTB (mOp opLe (mOp opMul (mVar 7) (mCall fLen (mCons (mVar 9) mNil))) (mVar 4)))) (mSeq (mDrop (mApp (mVar 6) (mVar 9)))
  (mAsg (mOp opMul (mVar 7) (mCall fLen (mCons (mVar 9) mNil))) (mgN 7))) mSkip)))
  (mRet (mTup (mCons (mVar 5) (mCons (mCall (fCall f_l_limit) (mCons (mVar 0) mNil)) (mCons (mCall fTuple (mCons (mSortA (mVar 6)) mNil)) mNil)))))))
def f_l_alarms : List D → Store → Res D := fnM 10 5 m_l_alarms
def m_l_varied : MS := (mSeq (mAsg (mVar 1) (mgTup 3 (mgCons (mgN 2) (mgCons (mgN 3) (mgCons (mgN 4) mgNil)))))
  (mSeq (mAsg (mTup (mCons (mCall (fCall f_l_take) (mCons (mVar 0) (mCons (mC (.int 6)) mNil))) (mCons (mCall (fCall f_l_alarm) (mCons (mVar 0) (mCons (mVar 2) (mCons (mC (.int 3)) mNil)))) (mCons (mTup mNil) mNil)))) (mgTup 3 (mgCons (mgN 5) (mgCons (mgN 6) (mgCons (mgN 7) mgNil)))))
  (mSeq (mIf (mTB (mOp opEq (mVar 5) (mC (.int 0)))) (mRet (mTup (mCons (mVar 2) (mCons (mTup (mCons (mOp opMul (mC (.int 3)) (mOp opIx (mVar 3) (mC (.int 0)))) (mCons (mOp opMul (mC (.int 3)) (mOp opIx (mVar 3) (mC (.int 1)))) mNil))) (mCons (mVar 4) mNil))))) mSkip)
  (mSeq (mIf (mTB (mOp opNe (mVar 4) (mTup mNil))) (mAsg (mCall (fCall f_l_of) (mCons (mVar 0) (mCons (mVar 4) mNil))) (mgN 7)) mSkip)
  (mSeq (mAsg (mLc (mItems (mVar 4)) (mgN 9) (mTB (mOp opNe (mVar 9) (mVar 7))) (mVar 9) [9]) (mgN 8))
  (mSeq (mIf (mTB (mOp opEq (mVar 5) (mC (.int 1)))) (mRet (mTup (mCons (mVar 2) (mCons (mVar 3) (mCons (mCall fTuple (mCons (mVar 8) mNil)) mNil))))) mSkip)
  (mSeq (mIf (mAndT (mTB (mOp opEq (mVar 5) (mC (.int 2)))) (mTB (mOp opNe (mVar 7) (mTup mNil)))) (mRet (mTup (mCons (mVar 2) (mCons (mVar 3) (mCons (mCall fTuple (mCons (mSortSetNL (mOp opAdd (mVar 8) (mLst (mCons (mCall fTuple (mCons (mSortSetT (mOp opAdd (mVar 7) (mSl (mVar 6) mNoO (mSoO (mC (.int 1)))))) mNil)) mNil)))) mNil)) mNil))))) mSkip)
  (mSeq (mIf (mAndT (mTB (mOp opEq (mVar 5) (mC (.int 3)))) (mTB (mOp opGt (mCall fLen (mCons (mVar 7) mNil)) (mC (.int 1))))) (mRet (mTup (mCons (mVar 2) (mCons (mVar 3) (mCons (mCall fTuple (mCons (mSortSetNL (mOp opAdd (mVar 8) (mLst (mCons (mSl (mVar 7) (mSoO (mC (.int 1))) mNoO) mNil)))) mNil)) mNil))))) mSkip)
  (mSeq (mIf (mTB (mOp opEq (mVar 5) (mC (.int 4)))) (mAsg (mSl (mVar 6) mNoO (mSoO (mC (.int 1)))) (mgN 6)) mSkip)
  (mRet (mTup (mCons (mVar 2) (mCons (mVar 3) (mCons (mCall fTuple (mCons (mSortSetNL (mOp opAdd (mCall fList (mCons (mVar 4) mNil)) (mLst (mCons (mVar 6) mNil)))) mNil)) mNil))))))))))))))
def f_l_varied : List D → Store → Res D := fnM 10 2 m_l_varied
def m_l_right : MS := (mSeq (mIf (mNotT (mTest (mCall (fPure f_l_by_hand_right) mNil))) (mRet (mC (.bl false))) mSkip)
  (mSeq (mFor (mRange1 (mC (.int 3))) (mgN 1) (mSeq (mAsg (mCall (fCall f_l_alarms) (mCons (mVar 0) (mCons (mC (.int 10)) (mCons (mC (.int 4)) (mCons (mC (.int 3)) (mCons (mC (.int 6)) mNil)))))) (mgN 2))
  (mSeq (mAsg (mCall (fCall f_l_varied) (mCons (mVar 0) (mCons (mVar 2) mNil))) (mgN 3))
  (mSeq (mAsg (mIfE (mTB (mOp opEq (mVar 1) (mC (.int 0)))) (mCall (fCall f_l_varied) (mCons (mVar 0) (mCons (mVar 3) mNil))) (mVar 2)) (mgN 4))
  (mSeq (mIf (mOrT (mNotT (mTest (mCall (fPure f_l_pair_right) (mCons (mVar 2) (mCons (mVar 3) mNil))))) (mNotT (mTest (mCall (fPure f_l_pair_right) (mCons (mVar 3) (mCons (mVar 4) mNil)))))) (mRet (mC (.bl false))) mSkip)
  (mSeq (mAsg (mOp opIx (mVar 2) (mC (.int 1))) (mgTup 2 (mgCons (mgN 5) (mgCons (mgN 6) mgNil))))
  (mSeq (mIf (mNotT (mTest (mCall (fPure f_l_refused) (mCons (mVar 2) (mCons (mOp opAdd (mTup (mCons (mOp opAdd (mOp opIx (mVar 2) (mC (.int 0))) (mC (.int 1))) mNil)) (mSl (mVar 3) (mSoO (mC (.int 1))) mNoO)) mNil))))) (mRet (mC (.bl false))) mSkip)
  (mIf (mNotT (mTest (mCall (fPure f_l_refused) (mCons (mVar 2) (mCons (mTup (mCons (mOp opIx (mVar 2) (mC (.int 0))) (mCons (mTup (mCons (mVar 5) (mCons (mOp opAdd (mVar 6) (mC (.int 1))) mNil))) (mCons (mOp opIx (mVar 3) (mC (.int 2))) mNil)))) mNil))))) (mRet (mC (.bl false))) mSkip))))))))
  (mRet (mC (.bl true)))))
def f_l_right : List D → Store → Res D := fnM 7 1 m_l_right
def m_l_box : MS := (mSeq (mAsg (mIfE (mTB (mOp opLt (mVar 1) (mCall fLen (mCons (mVar 0) mNil)))) (mOp opIx (mVar 0) (mVar 1)) (mC (.int 0))) (mgN 2))
  (mRet (mCell (mCons (mOp opMul (mCall fAbs (mCons (mVar 2) mNil)) (mCall fInt (mCons (mOp opGe (mCall fAbs (mCons (mVar 2) mNil)) (mOp opPowI (mC (.int 10)) (mC (.int 18)))) mNil))) (mCons (mOp opAdd (mOp opAdd (mOp opModI (mCall fInt (mCons (mVar 2) mNil)) (mC (.int 2305843009213693951))) (mOp opMul (mC (.int 39373)) (mVar 1))) (mC (.int 844))) (mCons (mC (.int 0)) mNil))))))
def f_l_box : List D → Store → Res D := fnC 3 2 m_l_box
def m_l_law : MS := (mSeq (mAsg (mCall (fPure f_l_cells) (mCons (mVar 0) (mCons (mC (.int 2)) mNil))) (mgN 1))
  (mRet (mCall fAll (mCons (mLc (mRange1 (mCall fLen (mCons (mVar 1) mNil))) (mgN 2) mYes (mCall (fCall f_l_right) (mCons (mCall (fCall f_l_box) (mCons (mVar 1) (mCons (mVar 2) mNil))) mNil)) [2]) mNil))))
def f_l_law : List D → Store → Res D := fnM 3 1 m_l_law
end Lw
set_option exponentiation.threshold 10000
namespace Lw
open PySem L2 Q
abbrev box (a b c : Int) : Cell := .lst [.int a, .int b, .int c]
theorem mulOk_r {i j : Int} (h : -(2 ^ 64) < j ∧ j < 2 ^ 64) : mulOk i j = true := by
  have h2 : j.natAbs < 2 ^ 64 := by omega
  unfold mulOk
  rw [decide_eq_true h2]
  simp
theorem mulOk_l {i j : Int} (h : -(2 ^ 64) < i ∧ i < 2 ^ 64) : mulOk i j = true := by
  have h2 : i.natAbs < 2 ^ 64 := by omega
  unfold mulOk
  rw [decide_eq_true h2]
  simp
theorem log2_lt9000 {n : Int} (h0 : 0 ≤ n) (h : n < 2 ^ 8999) : n.natAbs.log2 < 9000 := by
  by_cases e : n.natAbs = 0
  · rw [e]; decide
  · have h2 : n.natAbs < 2 ^ 8999 := by
      have : (n.natAbs : Int) = n := by omega
      have h3 : (n.natAbs : Int) < ((2 ^ 8999 : Nat) : Int) := by rw [this]; exact_mod_cast h
      exact_mod_cast h3
    have := (Nat.log2_lt e).mpr h2
    omega
theorem divOk_of {i j : Int} (h0 : 0 < j) (h : j < 2 ^ 8999) : divOk i j = true := by
  unfold divOk
  exact decide_eq_true ⟨h0, log2_lt9000 (by omega) h⟩
theorem modOk_of {i j : Int} (h0 : 0 < j) : modOk i j = true := by
  unfold modOk
  exact decide_eq_true h0
def BoxC (x : Cell) (N : Nat) : Prop := ∃ a b c : Int, x = box a b c ∧ 0 ≤ a ∧ (0 ≤ b ∧ b < 2 ^ 63) ∧ 0 ≤ c ∧ c ≤ N
theorem BoxC.mono {x : Cell} {N M : Nat} (h : BoxC x N) (hl : N ≤ M) : BoxC x M := by
  obtain ⟨a, b, c, e, ha, hb, hc, hd⟩ := h
  exact ⟨a, b, c, e, ha, hb, hc, by omega⟩
def BoxS (S0 : Store) (k N : Nat) (S : Store) : Prop := ∃ y, S = S0.set k y ∧ BoxC y N ∧ k < S0.length
theorem BoxS.len {S0 S : Store} {k N : Nat} (h : BoxS S0 k N S) : S.length = S0.length := by obtain ⟨y, rfl, _, _⟩ := h; simp
theorem BoxS.mono {S0 S : Store} {k N M : Nat} (h : BoxS S0 k N S) (hl : N ≤ M) : BoxS S0 k M S := by obtain ⟨y, e, hy, hk⟩ := h; exact ⟨y, e, hy.mono hl, hk⟩
theorem BoxS.start {S : Store} {k N : Nat} {x : Cell} (h : S[k]? = some x) (hx : BoxC x N) : BoxS S k N S := ⟨x, (set_self h).symm, hx, (List.getElem?_eq_some_iff.mp h).1⟩
theorem BoxS.other {S0 S : Store} {k N j : Nat} (h : BoxS S0 k N S) (hj : j ≠ k) : S[j]? = S0[j]? := by
  obtain ⟨y, rfl, _, _⟩ := h
  rw [List.getElem?_set_ne (fun e => hj e.symm)]
theorem BoxS.get {S0 S : Store} {k N : Nat} (h : BoxS S0 k N S) : ∃ x, S[k]? = some x ∧ BoxC x N := by
  obtain ⟨y, rfl, hy, hk⟩ := h
  exact ⟨y, List.getElem?_set_self hk, hy⟩
theorem BoxS.set {S0 S : Store} {k N M : Nat} {y : Cell} (h : BoxS S0 k N S) (hy : BoxC y M) : BoxS S0 k M (S.set k y) := by
  obtain ⟨x, rfl, _, hk⟩ := h
  exact ⟨y, by rw [List.set_set], hy, hk⟩
theorem fin_len {n : Nat} {S : Store} {d : D} (h : S.length = n) : fin n d S = .ok d S := by unfold fin; rw [if_pos h]
def big : Int := 2 ^ 8000
theorem big_lt {n : Int} (h : n < big) : n < 2 ^ 8999 := Int.lt_trans h (by unfold big; decide)
theorem mulOk_big {i j : Int} (h0 : 0 ≤ i) (h1 : i < big) (h2 : 0 ≤ j) (h3 : j < big) : mulOk i j = true := by
  have lg : ∀ n : Int, 0 ≤ n → n < big → n.natAbs.log2 < 9000 := fun n a b => log2_lt9000 a (big_lt b)
  have a := lg i h0 h1
  have b := lg j h2 h3
  unfold mulOk
  rw [decide_eq_true (show i.natAbs.log2 + j.natAbs.log2 < 1000000 by omega)]
  simp
def once (b c : Int) : Int := ((b + 48271 * (c + 1)) * (39373 + (c + 1))) % 2147483647
def far (b c : Int) : Int := once b c % 40009 + 7
def twice (b c : Int) : Int := ((once b c + (c + 1) + b / 1000003) * far b c) % 2147483629
theorem take_eq1 (S : Store) (k : Nat) (a b c n : Int) (hk : S[k]? = some (box a b c)) (ha : 0 < a) (hn : 0 < n) (hn2 : n < 2 ^ 8999) :
    f_l_take [.ref k, .int n] S = .ok (.int (a % n)) (S.set k (box (a / n) b c)) := by
  simp [f_l_take, fnM, m_l_take, ix_refD _ hk, ha, modOk_of hn, divOk_of hn hn2, setIx, hk, ixN]
theorem take_eq2 (S : Store) (k : Nat) (a b c n : Int) (hk : S[k]? = some (box a b c)) (ha : ¬ 0 < a) (hn : 0 < n) (hb : 0 ≤ b ∧ b < 2 ^ 63) (hc : 0 ≤ c ∧ c < 2 ^ 40) :
    f_l_take [.ref k, .int n] S = .ok (.int ((twice b c * 48271 + once b c) % 2147483587 / 64 % n)) (S.set k (box a b (c + 1))) := by
  have hk2 : (S.set k (box a b (c + 1)))[k]? = some (box a b (c + 1)) := set_get hk
  have e1 : mulOk 48271 (c + 1) = true := mulOk_l (by decide)
  have e2 : mulOk (b + 48271 * (c + 1)) (39373 + (c + 1)) = true := mulOk_r (by omega)
  have e3 : ∀ x, mulOk x (far b c) = true := fun x => mulOk_r (by unfold far; omega)
  have e4 : ∀ x, mulOk x 48271 = true := fun x => mulOk_r (by decide)
  have f1 : ((b + 48271 * (c + 1)) * (39373 + (c + 1))) % 2147483647 = once b c := rfl
  have f2 : once b c % 40009 + 7 = far b c := rfl
  have f3 : ((once b c + (c + 1) + b / 1000003) * far b c) % 2147483629 = twice b c := rfl
  have g1 : divOk b 1000003 = true := divOk_of (by decide) (by decide)
  have g2 : ∀ x, divOk x 64 = true := fun x => divOk_of (by decide) (by decide)
  have g3 : ∀ x, modOk x n = true := fun x => modOk_of hn
  have g4 : ∀ x, modOk x 2147483647 = true := fun x => modOk_of (by decide)
  have g5 : ∀ x, modOk x 40009 = true := fun x => modOk_of (by decide)
  have g6 : ∀ x, modOk x 2147483629 = true := fun x => modOk_of (by decide)
  have g7 : ∀ x, modOk x 2147483587 = true := fun x => modOk_of (by decide)
  simp [f_l_take, fnM, m_l_take, ix_refD _ hk, ix_refD _ hk2, ha, setIx, hk, ixN, e1, e2, e3, e4, f1, f2, f3, g1, g2, g3, g4, g5, g6, g7]
theorem take_ok {S : Store} {k N : Nat} {x : Cell} {n : Int} (hk : S[k]? = some x) (hx : BoxC x N) (hN : N < 2 ^ 40) (hn : 0 < n) (hn2 : n < 2 ^ 8999) :
    ∃ r y, (0 ≤ r ∧ r < n) ∧ BoxC y (N + 1) ∧ f_l_take [.ref k, .int n] S = .ok (.int r) (S.set k y) := by
  obtain ⟨a, b, c, rfl, ha, hb, hc, hd⟩ := hx
  by_cases h : 0 < a
  · exact ⟨_, _, ⟨Int.emod_nonneg _ (by omega), Int.emod_lt_of_pos _ hn⟩, ⟨a / n, b, c, rfl, Int.ediv_nonneg ha (by omega), hb, hc, by omega⟩, take_eq1 S k a b c n hk h hn hn2⟩
  · exact ⟨_, _, ⟨Int.emod_nonneg _ (by omega), Int.emod_lt_of_pos _ hn⟩, ⟨a, b, c + 1, rfl, ha, hb, by omega, by omega⟩, take_eq2 S k a b c n hk h hn hb ⟨hc, by omega⟩⟩
theorem take_s {S0 S : Store} {k N : Nat} {n : Int} (h : BoxS S0 k N S) (hN : N < 2 ^ 40) (hn : 0 < n) (hn2 : n < 2 ^ 8999) :
    (f_l_take [.ref k, .int n] S).Sat fun d S' => ∃ r : Int, d = .int r ∧ 0 ≤ r ∧ r < n ∧ BoxS S0 k (N + 1) S' := by
  obtain ⟨x, hk, hx⟩ := h.get
  obtain ⟨r, y, hr, hy, e⟩ := take_ok hk hx hN hn hn2
  exact sat_of e ⟨r, rfl, hr.1, hr.2, h.set hy⟩
theorem of_s {S0 S : Store} {k N : Nat} {xs : List D} (h : BoxS S0 k N S) (hN : N < 2 ^ 40) (h0 : xs ≠ []) (h1 : xs.length < 2 ^ 60) :
    (f_l_of [.ref k, .lst xs] S).Sat fun d S' => d ∈ xs ∧ BoxS S0 k (N + 1) S' := by
  have hp : 0 < xs.length := List.length_pos_iff.mpr h0
  unfold f_l_of m_l_of
  rw [fnM_2]
  simp
  refine sat_step (take_s (n := (xs.length : Int)) h hN (by omega) (Int.lt_of_lt_of_le (show (xs.length : Int) < 2 ^ 60 by omega) (by decide))) ?_
  rintro _ S1 ⟨r, rfl, r0, r1, hS1⟩
  have hl : r.toNat < xs.length := by omega
  have hg : atI xs r = some xs[r.toNat] := by
    have e : ((r.toNat : Nat) : Int) = r := by omega
    have z := atI_get (List.getElem?_eq_getElem hl)
    rw [e] at z
    exact z
  simp [hg, fin_len (hS1.len.trans h.len.symm)]
  exact hS1
def IsLim (d : D) : Prop := ∃ p q : Int, d = .tup [.int p, .int q] ∧ 0 < p ∧ p < q ∧ q < 2 ^ 67
theorem limit_s {S0 S : Store} {k N : Nat} (h : BoxS S0 k N S) (hN : N + 3 < 2 ^ 40) : (f_l_limit [.ref k] S).Sat fun d S' => IsLim d ∧ BoxS S0 k (N + 3) S' := by
  unfold f_l_limit m_l_limit
  rw [fnM_1]
  simp
  refine sat_step (take_s (n := 8) h (by omega) (by decide) (by decide)) ?_
  rintro _ S1 ⟨r1, rfl, a1, b1, h1⟩
  have p1 : powOk 10 18 = true := by decide
  have p2 : powOk 10 20 = true := by decide
  by_cases e0 : r1 = 0
  · simp [e0, p1]
    refine sat_step (take_s (n := 1000000000000000000) h1 (by omega) (by decide) (by decide)) ?_
    rintro _ S2 ⟨r2, rfl, a2, b2, h2⟩
    simp [p1, p2]
    refine sat_step (take_s (n := 100000000000000000000) h2 (by omega) (by decide) (by decide)) ?_
    rintro _ S3 ⟨r3, rfl, a3, b3, h3⟩
    simp [fin_len (h3.len.trans h.len.symm)]
    exact ⟨⟨_, _, rfl, by omega, by omega, by omega⟩, h3⟩
  · by_cases e1 : r1 = 1
    · simp [e1]
      refine sat_step (take_s (n := 3) h1 (by omega) (by decide) (by decide)) ?_
      rintro _ S2 ⟨r2, rfl, a2, b2, h2⟩
      have m1 : mulOk r2 2 = true := mulOk_r (by decide)
      simp [m1, fin_len (h2.len.trans h.len.symm)]
      exact ⟨⟨_, _, rfl, by omega, by omega, by omega⟩, h2.mono (by omega)⟩
    · simp [e0, e1]
      refine sat_step (of_s h1 (by omega) (by simp) (by simp)) ?_
      rintro d S2 ⟨hd, h2⟩
      simp only [List.mem_cons, List.mem_nil_iff, or_false] at hd
      simp [fin_len (h2.len.trans h.len.symm)]
      refine ⟨?_, h2.mono (by omega)⟩
      rcases hd with rfl | rfl | rfl | rfl | rfl | rfl <;> exact ⟨_, _, rfl, by decide⟩
theorem eq_plain {a b : D} {S : Store} (ha : shal 20 a = true) (hb : shal 20 b = true) : opEq a b S = .ok (.bl (deq a b)) S := by
  have da : ∀ d, shal 20 d = true → deref S d = d := fun d h => by cases d <;> first | rfl | simp [shal] at h
  have key : (if shal 20 (deref S a) && shal 20 (deref S b) then Res.ok (D.bl (deq (deref S a) (deref S b))) S else Res.no) = .ok (.bl (deq a b)) S := by
    rw [da a ha, da b hb, ha, hb]
    rfl
  cases a <;> cases b <;> first
    | exact key
    | (simp only [opEq, deq])
theorem ne_plain {a b : D} {S : Store} (ha : shal 20 a = true) (hb : shal 20 b = true) : opNe a b S = .ok (.bl (!deq a b)) S := by
  have da : ∀ d, shal 20 d = true → deref S d = d := fun d h => by cases d <;> first | rfl | simp [shal] at h
  have key : (if shal 20 (deref S a) && shal 20 (deref S b) then Res.ok (D.bl (!deq (deref S a) (deref S b))) S else Res.no) = .ok (.bl (!deq a b)) S := by
    rw [da a ha, da b hb, ha, hb]
    rfl
  cases a <;> cases b <;> first
    | exact key
    | (simp only [opNe, deq])
@[simp] theorem eq_non {S : Store} : opEq .non .non S = .ok (.bl true) S := eq_plain rfl rfl
def okD : Nat → D → Bool
  | _, .non => true
  | _, .bl _ => true
  | _, .int _ => true
  | _, .str _ => true
  | n + 1, .tup xs => decide (xs.length ≤ 100000) && xs.all (okD n)
  | n + 1, .lst xs => decide (xs.length ≤ 100000) && xs.all (okD n)
  | _, _ => false
@[simp] theorem okD_non (n : Nat) : okD n .non = true := by cases n <;> rfl
@[simp] theorem okD_bl (n : Nat) (b : Bool) : okD n (.bl b) = true := by cases n <;> rfl
@[simp] theorem okD_int (n : Nat) (b : Int) : okD n (.int b) = true := by cases n <;> rfl
@[simp] theorem okD_str (n : Nat) (b : Str) : okD n (.str b) = true := by cases n <;> rfl
@[simp] theorem okD_tup (n : Nat) (xs : List D) : okD (n + 1) (.tup xs) = (decide (xs.length ≤ 100000) && xs.all (okD n)) := rfl
@[simp] theorem okD_lst (n : Nat) (xs : List D) : okD (n + 1) (.lst xs) = (decide (xs.length ≤ 100000) && xs.all (okD n)) := rfl
theorem okD_pure : ∀ (n : Nat) (d : D), okD n d = true → pureD d = true
  | _, .non, _ => rfl
  | _, .bl _, _ => rfl
  | _, .int _, _ => rfl
  | _, .str _, _ => rfl
  | n + 1, .tup xs, h => by
    rw [okD_tup, Bool.and_eq_true] at h
    exact pureL_all.mpr fun d hd => okD_pure n d (List.all_eq_true.mp h.2 d hd)
  | n + 1, .lst xs, h => by
    rw [okD_lst, Bool.and_eq_true] at h
    exact pureL_all.mpr fun d hd => okD_pure n d (List.all_eq_true.mp h.2 d hd)
  | 0, .tup xs, h => by simp [okD] at h
  | 0, .lst xs, h => by simp [okD] at h
  | 0, .fro _, h => by simp [okD] at h
  | 0, .obj _ _, h => by simp [okD] at h
  | 0, .exn _ _, h => by simp [okD] at h
  | 0, .ref _, h => by simp [okD] at h
  | _ + 1, .fro _, h => by simp [okD] at h
  | _ + 1, .obj _ _, h => by simp [okD] at h
  | _ + 1, .exn _ _, h => by simp [okD] at h
  | _ + 1, .ref _, h => by simp [okD] at h
theorem zip_self (xs : List D) : zipD xs xs = xs.map fun x => .tup [x, x] := by
  unfold zipD
  induction xs with
  | nil => rfl
  | cons x xs ih => simp [ih]
theorem same_lc {k : Nat} {ρ : Q.Env} {f : List D → Store → Res D} (h2 : 3 < ρ.length) : ∀ (xs : List D) (S : Store), (∀ x ∈ xs, ∀ T, fPure f [x, x] T = .ok (.bl true) T) →
    lcL (mgTup 2 (mgCons (mgN 2) (mgCons (mgN 3) mgNil))) mYes (mCall (fPure f) (mCons (mVar 2) (mCons (mVar 3) mNil))) ρ (zipD xs xs) S = .ok (List.replicate xs.length (.bl true)) S := by
  intro xs S h
  rw [zip_self, lcL_map (f := fun _ => .bl true) (xs.map fun x => .tup [x, x]) S]
  · rw [List.map_map]
    show Res.ok (xs.map fun _ => D.bl true) S = _
    rw [List.map_const']
  · intro d hd
    obtain ⟨x, hx, rfl⟩ := List.mem_map.mp hd
    refine ⟨_, rfl, ?_⟩
    have e2 : ((ρ.set 2 (some x)).set 3 (some x))[2]? = some (some x) := by rw [List.getElem?_set_ne (by decide), List.getElem?_set_self (by omega)]
    have e3 : ((ρ.set 2 (some x)).set 3 (some x))[3]? = some (some x) := List.getElem?_set_self (by simpa using h2)
    simp only [ap_call, ap_cons, ap_var, e2, e3, varK_some, bind_ok, consK_ap, ap_nil, consK2_ap, h x hx S]
theorem same_self : ∀ (k n : Nat) (d : D) (S : Store), okD n d = true → n < k → f_l_same k [d, d] S = .ok (.bl true) S
  | 0, n, d, S, _, hk => absurd hk (by omega)
  | k + 1, n, d, S, h, hk => by
    have seq : ∀ xs : List D, (∀ x ∈ xs, okD (n - 1) x = true ∧ 0 < n) → ∀ x ∈ xs, ∀ T, fPure (f_l_same k) [x, x] T = .ok (.bl true) T := fun xs hx x hm T => by
      have p := okD_pure _ _ (hx x hm).1
      exact fPure_ap T (by simp [p]) (same_self k (n - 1) x [] (hx x hm).1 (by have := (hx x hm).2; omega))
    have all : ∀ (m : Nat) (S : Store), fAll [.lst (List.replicate m (.bl true))] S = .ok (.bl true) S := fun m S => by
      have hb : boolsD (List.replicate m (D.bl true)) = some (List.replicate m true) := by
        induction m with
        | zero => rfl
        | succ m ih => rw [List.replicate_succ, boolsD, ih]; rfl
      rw [all_lst hb]
      simp
    cases d with
    | non => simp [f_l_same, fnM, m_l_same, isTy]
    | bl b => simp [f_l_same, fnM, m_l_same, isTy]
    | int b => simp [f_l_same, fnM, m_l_same, isTy]
    | str b => simp [f_l_same, fnM, m_l_same, isTy]
    | tup xs =>
      cases n with
      | zero => simp [okD] at h
      | succ n =>
        rw [okD_tup, Bool.and_eq_true, decide_eq_true_eq] at h
        have hs := same_lc (k := k) (f := f_l_same k) (ρ := [some (.tup xs), some (.tup xs), none, none]) (by simp) xs S (seq xs fun x hx => ⟨List.all_eq_true.mp h.2 x hx, by omega⟩)
        have hl : (zipD xs xs).length ≤ 100000 := by rw [zip_self, List.length_map]; exact h.1
        simp [f_l_same, fnM, m_l_same, isTy, hl, hs, all]
    | lst xs =>
      cases n with
      | zero => simp [okD] at h
      | succ n =>
        rw [okD_lst, Bool.and_eq_true, decide_eq_true_eq] at h
        have hs := same_lc (k := k) (f := f_l_same k) (ρ := [some (.lst xs), some (.lst xs), none, none]) (by simp) xs S (seq xs fun x hx => ⟨List.all_eq_true.mp h.2 x hx, by omega⟩)
        have hl : (zipD xs xs).length ≤ 100000 := by rw [zip_self, List.length_map]; exact h.1
        simp [f_l_same, fnM, m_l_same, isTy, hl, hs, all]
    | fro xs => cases n <;> simp [okD] at h
    | obj c xs => cases n <;> simp [okD] at h
    | exn c xs => cases n <;> simp [okD] at h
    | ref j => cases n <;> simp [okD] at h
theorem sameP {d : D} (S : Store) (h : okD 20 d = true) : fPure (f_l_same 30) [d, d] S = .ok (.bl true) S := fPure_ap S (by simp [okD_pure 20 d h]) (same_self 30 20 d [] h (by decide))
theorem deq_self : ∀ (n : Nat) (d : D), shal n d = true → deq d d = true
  | _, .non, _ => by simp [deq]
  | _, .bl b, _ => by simp [deq]
  | _, .int b, _ => by simp [deq]
  | _, .str b, _ => by simp [deq]
  | n + 1, .tup xs, h => by
    have h' : ∀ x ∈ xs, shal n x = true := by simpa [shal] using h
    have go : ∀ ys : List D, (∀ y ∈ ys, deq y y = true) → deqL ys ys = true := by
      intro ys
      induction ys with
      | nil => intro _; simp [deqL]
      | cons y ys ih => intro hy; simp [deqL, hy y (by simp), ih fun z hz => hy z (by simp [hz])]
    simpa [deq] using go xs fun x hx => deq_self n x (h' x hx)
  | n + 1, .lst xs, h => by
    have h' : ∀ x ∈ xs, shal n x = true := by simpa [shal] using h
    have go : ∀ ys : List D, (∀ y ∈ ys, deq y y = true) → deqL ys ys = true := by
      intro ys
      induction ys with
      | nil => intro _; simp [deqL]
      | cons y ys ih => intro hy; simp [deqL, hy y (by simp), ih fun z hz => hy z (by simp [hz])]
    simpa [deq] using go xs fun x hx => deq_self n x (h' x hx)
  | 0, .tup xs, h => by simp [shal] at h
  | 0, .lst xs, h => by simp [shal] at h
  | n, .fro _, h => by cases n <;> simp [shal] at h
  | n, .obj _ _, h => by cases n <;> simp [shal] at h
  | n, .exn _ _, h => by cases n <;> simp [shal] at h
  | n, .ref _, h => by cases n <;> simp [shal] at h
theorem eq_selfD {d : D} {S : Store} (h : shal 20 d = true) : opEq d d S = .ok (.bl true) S := by rw [eq_plain h h, deq_self 20 d h]
theorem ne_selfD {d : D} {S : Store} (h : shal 20 d = true) : opNe d d S = .ok (.bl false) S := by rw [ne_plain h h, deq_self 20 d h]; rfl
@[simp] theorem shal_int (n : Nat) (i : Int) : shal n (.int i) = true := by cases n <;> rfl
@[simp] theorem shal_bl (n : Nat) (i : Bool) : shal n (.bl i) = true := by cases n <;> rfl
@[simp] theorem shal_non (n : Nat) : shal n .non = true := by cases n <;> rfl
@[simp] theorem shal_tup (n : Nat) (xs : List D) : shal (n + 1) (.tup xs) = xs.all (shal n) := rfl
@[simp] theorem shal_lst (n : Nat) (xs : List D) : shal (n + 1) (.lst xs) = xs.all (shal n) := rfl
theorem shal_map {β : Type} {f : β → D} {n : Nat} (h : ∀ b, shal n (f b) = true) (xs : List β) : (xs.map f).all (shal n) = true := List.all_eq_true.mpr fun d hd => by
  obtain ⟨b, _, rfl⟩ := List.mem_map.mp hd
  exact h b
theorem in_lst {a : D} {xs : List D} {S : Store} (ha : shal 20 a = true) (hx : shal 20 (.lst xs) = true) : opIn a (.lst xs) S = .ok (.bl (inD xs a)) S := by
  show (if shal 20 a && shal 20 (.lst xs) then Res.ok (D.bl (inD xs a)) S else .no) = _
  rw [ha, hx]
  rfl
theorem in_tup {a : D} {xs : List D} {S : Store} (ha : shal 20 a = true) (hx : shal 20 (.tup xs) = true) : opIn a (.tup xs) S = .ok (.bl (inD xs a)) S := by
  show (if shal 20 a && shal 20 (.tup xs) then Res.ok (D.bl (inD xs a)) S else .no) = _
  rw [ha, hx]
  rfl
theorem nin_lst {a : D} {xs : List D} {S : Store} (ha : shal 20 a = true) (hx : shal 20 (.lst xs) = true) : opNin a (.lst xs) S = .ok (.bl (!inD xs a)) S := by
  show (if shal 20 a && shal 20 (.lst xs) then Res.ok (D.bl (!inD xs a)) S else .no) = _
  rw [ha, hx]
  rfl
theorem cutD_take (xs : List D) (m : Nat) : cutD xs none (some (m : Int)) = xs.take m := by
  unfold cutD
  rw [HT.sIx_none, HT.sIx_nat]
  show List.take (min m xs.length - 0) (List.drop 0 xs) = _
  rw [List.drop_zero, Nat.sub_zero]
  by_cases h : m ≤ xs.length
  · rw [Nat.min_eq_left h]
  · rw [Nat.min_eq_right (by omega), List.take_of_length_le (Nat.le_refl _), List.take_of_length_le (by omega)]
theorem cutD_mid (xs : List D) (m n : Nat) : cutD xs (some (m : Int)) (some (n : Int)) = (xs.drop m).take (n - m) := by
  unfold cutD
  rw [HT.sIx_nat, HT.sIx_nat]
  by_cases h : m ≤ xs.length
  · rw [Nat.min_eq_left h]
    by_cases h2 : n ≤ xs.length
    · rw [Nat.min_eq_left h2]
    · rw [Nat.min_eq_right (by omega), List.take_of_length_le (by rw [List.length_drop]; omega), List.take_of_length_le (by rw [List.length_drop]; omega)]
  · rw [Nat.min_eq_right (show xs.length ≤ m by omega), List.drop_of_length_le (Nat.le_refl _), List.drop_of_length_le (by omega)]
    simp
theorem pure_ints (cs : List Int) : pureL (cs.map D.int) = true := pureL_all.mpr fun d hd => by
  obtain ⟨z, _, rfl⟩ := List.mem_map.mp hd
  rfl
def CellsI (v0 : D) (m c n : Nat) (ds : List D) (ρ : Q.Env) (S : Store) : Prop := ∃ (cs : List Int) (i : Nat) (xs : List Int) (w3 w4 w5 : Option D), ds = enumD i (xs.map D.int) ∧ i + xs.length ≤ 63 ∧ cs.length = n ∧ (xs ≠ [] → n = m) ∧
  ρ = [some v0, some (.int m), some (.ref c), w3, w4, w5] ∧ S[c]? = some (.lst (cs.map D.int))
theorem cells_ok (ns : List Int) (hn : ns.length ≤ 63) (m : Nat) (hm : 0 < m) (hm2 : m ≤ 63) : ∃ cs : List Int, 0 < cs.length ∧ cs.length ≤ m ∧ f_l_cells [scriptD ns, .int (m : Nat)] [] = .ok (.lst (cs.map .int)) [] := by
  have c1 : cutD (ns.map D.int) none (some (m : Int)) = (ns.take m).map D.int := by rw [cutD_take, List.map_take]
  have c2 : cutD (ns.map D.int) (some (m : Int)) (some 63) = ((ns.drop m).take (63 - m)).map D.int := by
    have := cutD_mid (ns.map D.int) m 63
    rw [show ((63 : Nat) : Int) = 63 from rfl] at this
    rw [this, List.map_take, List.map_drop]
  have ht : (ns.take m).length = min m ns.length := List.length_take
  suffices h : (f_l_cells [scriptD ns, .int (m : Nat)] []).Sat fun d S => S = [] ∧ ∃ cs : List Int, 0 < cs.length ∧ cs.length ≤ m ∧ d = .lst (cs.map .int) by
    obtain ⟨d, S, e, rfl, cs, h1, h2, rfl⟩ := sat_eq h
    exact ⟨cs, h1, h2, e⟩
  have loop : ∀ (ys : List Int) (c : Nat) (cs0 : List Int) (S0 : Store), ys.length ≤ 63 → S0[c]? = some (.lst (cs0.map D.int)) → 0 < cs0.length → cs0.length ≤ m → (ys ≠ [] → cs0.length = m) →
      ((forL (mgTup 2 (mgCons (mgN 3) (mgCons (mgN 4) mgNil))) (mSeq (mAsg (mOp opModI (mCall fInt (mCons (mVar 3) mNil)) (mVar 1)) (mgN 5))
      (mAsg (mOp opAdd (mOp opIx (mVar 2) (mVar 5)) (mOp opMul (mVar 4) (mOp opAdd (mVar 3) (mC (.int 2))))) (mgSub (mVar 2) (mVar 5)))) (enumD 0 (ys.map D.int)) [some (.fro (ns.map D.int)), some (.int m), some (.ref c), none, none, none] S0).Sat
      fun f S => ∃ cs : List Int, 0 < cs.length ∧ cs.length ≤ m ∧ ∃ w3 w4 w5, f = .nx [some (.fro (ns.map D.int)), some (.int m), some (.ref c), w3, w4, w5] ∧ S[c]? = some (.lst (cs.map D.int))) := by
    intro ys c cs0 S0 hy h0 p0 p1 p2
    refine forL_sat (CellsI (.fro (ns.map D.int)) m c cs0.length) ?_ ?_ _ _ _ ⟨cs0, 0, ys, none, none, none, rfl, by omega, rfl, p2, rfl, h0⟩
    · rintro d ds ρ S ⟨cs, i, xs, w3, w4, w5, e, hi, hl, hnm, rfl, hS⟩
      cases xs with
      | nil => simp [enumD] at e
      | cons x xs =>
        simp only [List.map_cons, enumD, List.cons.injEq] at e
        obtain ⟨rfl, rfl⟩ := e
        rw [List.length_cons] at hi
        have hlm : cs.length = m := by rw [hl]; exact hnm (by simp)
        obtain ⟨j, hj, hjm⟩ : ∃ j : Nat, (i : Int) % (m : Int) = (j : Int) ∧ j < m := ⟨((i : Int) % (m : Int)).toNat, by
          have := Int.emod_nonneg (i : Int) (show (m : Int) ≠ 0 by omega)
          omega, by
          have := Int.emod_lt_of_pos (i : Int) (show (0 : Int) < m by omega)
          omega⟩
        have hlt : j < cs.length := by rw [hlm]; exact hjm
        have hg : (cs.map D.int)[j]? = some (.int cs[j]) := by rw [List.getElem?_map, List.getElem?_eq_getElem hlt]; rfl
        have ha := atI_get hg
        have hx : ixN cs.length (j : Int) = some j := by
          unfold ixN
          rw [if_pos (by omega), if_pos (by omega)]
          simp
        have hm1 : mulOk x ((i : Int) + 2) = true := mulOk_r (by omega)
        have hmo : modOk (i : Int) (m : Int) = true := modOk_of (by omega)
        refine ⟨[some (.fro (ns.map D.int)), some (.int m), some (.ref c), some (.int i), some (.int x), w5], S, by simp, ?_⟩
        simp [hmo, hj, ix_refD _ hS, ha, hm1, setIx, hS, hx]
        refine ⟨cs.set j (cs[j] + x * ((i : Int) + 2)), i + 1, xs, some (.int i), some (.int x), some (.int (j : Int)), rfl, by omega, by simpa using hl, fun _ => hnm (by simp), rfl, ?_⟩
        rw [List.map_set]
        exact set_get hS
    · rintro ρ S ⟨cs, i, xs, w3, w4, w5, e, hi, hl, hnm, rfl, hS⟩
      exact ⟨cs, by omega, by omega, w3, w4, w5, rfl, hS⟩
  unfold f_l_cells m_l_cells
  rw [fnM_2]
  by_cases h0 : ns = []
  · subst h0
    simp only [List.map_nil, List.take_nil, List.drop_nil] at c1 c2
    have e1 : ([Cell.lst [], Cell.lst [.int 0]] : Store)[1]? = some (.lst [.int 0]) := rfl
    have tr : truth [Cell.lst []] (.ref 0) = some false := rfl
    simp [scriptD, c1, c2, tr]
    refine sat_step (loop [] 1 [0] _ (by simp) rfl (by decide) hm (by simp)) ?_
    rintro _ S ⟨cs, q1, q2, w3, w4, w5, rfl, hS⟩
    simp [fz_ref hS, fin_nil, pure_ints]
    exact ⟨cs, q1, q2, rfl⟩
  · have hp : 0 < ns.length := List.length_pos_iff.mpr h0
    have hne : (ns.take m).isEmpty = false := by
      cases ns with
      | nil => exact absurd rfl h0
      | cons a t =>
        cases m with
        | zero => omega
        | succ m => rfl
    have hd : (ns.drop m).take (63 - m) ≠ [] → (ns.take m).length = m := fun h => by
      have : 0 < ((ns.drop m).take (63 - m)).length := List.length_pos_iff.mpr h
      rw [List.length_take, List.length_drop] at this
      rw [ht]
      omega
    have hy : ((ns.drop m).take (63 - m)).length ≤ 63 := by rw [List.length_take, List.length_drop]; omega
    have hl0 : 0 < (ns.take m).length := by rw [ht]; omega
    have hlm : (ns.take m).length ≤ m := by rw [ht]; omega
    generalize ns.take m = L at *
    generalize (ns.drop m).take (63 - m) = ys at *
    have e0 : ([Cell.lst (L.map D.int)] : Store)[0]? = some (.lst (L.map D.int)) := rfl
    have tr : truth [Cell.lst (L.map D.int)] (.ref 0) = some true := by rw [truth_ref e0, List.isEmpty_map, hne]; rfl
    simp [scriptD, c1, tr, c2]
    refine sat_step (loop ys 0 L _ hy e0 hl0 hlm hd) ?_
    rintro _ S ⟨cs, q1, q2, w3, w4, w5, rfl, hS⟩
    simp [fz_ref hS, fin_nil, pure_ints]
    exact ⟨cs, q1, q2, rfl⟩
theorem box_ok (S : Store) (cs : List Int) (k : Nat) (off : Int) (hk : k < cs.length) (hk3 : k < 100) (ho : 0 ≤ off ∧ off < 100000)
    (hm : m_l_box = (mSeq (mAsg (mIfE (mTB (mOp opLt (mVar 1) (mCall fLen (mCons (mVar 0) mNil)))) (mOp opIx (mVar 0) (mVar 1)) (mC (.int 0))) (mgN 2))
  (mRet (mCell (mCons (mOp opMul (mCall fAbs (mCons (mVar 2) mNil)) (mCall fInt (mCons (mOp opGe (mCall fAbs (mCons (mVar 2) mNil)) (mOp opPowI (mC (.int 10)) (mC (.int 18)))) mNil))) (mCons (mOp opAdd (mOp opAdd (mOp opModI (mCall fInt (mCons (mVar 2) mNil)) (mC (.int 2305843009213693951))) (mOp opMul (mC (.int 39373)) (mVar 1))) (mC (.int off))) (mCons (mC (.int 0)) mNil))))))) :
    ∃ x, BoxC x 0 ∧ f_l_box [.lst (cs.map .int), .int (k : Nat)] S = .ok (.ref S.length) (S ++ [x]) := by
  have hg : atI (cs.map D.int) (k : Int) = some (.int cs[k]) := atI_get (by rw [List.getElem?_map, List.getElem?_eq_getElem hk]; rfl)
  have p1 : powOk 10 18 = true := by decide
  have m2 : mulOk 39373 (k : Int) = true := mulOk_l (by decide)
  have g1 : ∀ u, modOk u 2305843009213693951 = true := fun u => modOk_of (by decide)
  have hlt : ((k : Int) < (cs.length : Int)) := by omega
  generalize cs[k] = z at *
  obtain ⟨u, hu, ha⟩ : ∃ u : Int, 0 ≤ u ∧ ∀ T, fAbs [.int z] T = .ok (.int u) T := ⟨if z < 0 then -z else z, by split <;> omega, fun _ => rfl⟩
  have m1 : mulOk u (if 1000000000000000000 ≤ u then 1 else 0) = true := mulOk_r (by split <;> decide)
  have q0 : (0 : Int) ≤ u * (if 1000000000000000000 ≤ u then 1 else 0) := by split <;> simp [hu]
  refine ⟨box (u * (if 1000000000000000000 ≤ u then 1 else 0)) (z % 2305843009213693951 + 39373 * (k : Int) + off) 0, ⟨_, _, _, rfl, q0, ?_, by decide, by decide⟩, ?_⟩
  · have h1 := Int.emod_nonneg z (show (2305843009213693951 : Int) ≠ 0 by decide)
    have h2 := Int.emod_lt_of_pos z (show (0 : Int) < 2305843009213693951 by decide)
    omega
  · unfold f_l_box
    rw [hm, fnC_2]
    simp [-abs_int, ha, hg, hlt, p1, m1, m2, g1]
def BoxOk : Prop := ∀ (S : Store) (cs : List Int) (k : Nat), k < cs.length → k < 100 → ∃ x, BoxC x 0 ∧ f_l_box [.lst (cs.map .int), .int (k : Nat)] S = .ok (.ref S.length) (S ++ [x])
theorem BoxC.pure {x : Cell} {N : Nat} (h : BoxC x N) : x.pure = true := by
  obtain ⟨a, b, c, rfl, _⟩ := h
  rfl
theorem BoxS.pure {S0 S : Store} {k N : Nat} (h : BoxS S0 k N S) (hp : S0.all Cell.pure = true) : S.all Cell.pure = true := by
  obtain ⟨y, rfl, hy, hk⟩ := h
  refine List.all_eq_true.mpr fun c hc => ?_
  rcases List.mem_or_eq_of_mem_set hc with m | rfl
  · exact List.all_eq_true.mp hp c m
  · exact hy.pure
def rowD (r : Int × Int) : D := .tup [.int r.1, .int r.2]
def logD (rows : List (Int × Int)) : D := .tup (rows.map rowD)
def seg (rows : List (Int × Int)) (s e : Nat) : List (Int × Int) := (rows.drop s).take (e - s)
def sg (rows : List (Int × Int)) (s e : Nat) : Int := ((seg rows s e).map Prod.fst).sum
def sf (rows : List (Int × Int)) (s e : Nat) : Int := ((seg rows s e).map Prod.snd).sum
@[simp] theorem pure_rowD (r : Int × Int) : pureD (rowD r) = true := (Eq.refl _).trans rfl
theorem pureL_map {β : Type} {f : β → D} (h : ∀ b, pureD (f b) = true) (xs : List β) : pureL (xs.map f) = true := pureL_all.mpr fun d hd => by
  obtain ⟨b, _, rfl⟩ := List.mem_map.mp hd
  exact h b
@[simp] theorem pure_logD (rows : List (Int × Int)) : pureD (logD rows) = true := by
  unfold logD
  rw [pureD_tup, pureL_map pure_rowD]
theorem seg_len (rows : List (Int × Int)) (s e : Nat) : (seg rows s e).length ≤ rows.length := by
  unfold seg
  rw [List.length_take, List.length_drop]
  omega
theorem seg_app (rows : List (Int × Int)) {s m e : Nat} (h1 : s ≤ m) (h2 : m ≤ e) : seg rows s e = seg rows s m ++ seg rows m e := by
  unfold seg
  rw [show e - s = (m - s) + (e - m) by omega, List.take_add, List.drop_drop, show s + (m - s) = m by omega]
theorem sg_app (rows : List (Int × Int)) {s m e : Nat} (h1 : s ≤ m) (h2 : m ≤ e) : sg rows s e = sg rows s m + sg rows m e := by
  unfold sg
  rw [seg_app rows h1 h2, List.map_append, List.sum_append]
theorem sf_app (rows : List (Int × Int)) {s m e : Nat} (h1 : s ≤ m) (h2 : m ≤ e) : sf rows s e = sf rows s m + sf rows m e := by
  unfold sf
  rw [seg_app rows h1 h2, List.map_append, List.sum_append]
theorem sg_self (rows : List (Int × Int)) (s : Nat) : sg rows s s = 0 := by simp [sg, seg]
theorem sf_self (rows : List (Int × Int)) (s : Nat) : sf rows s s = 0 := by simp [sf, seg]
def RowsOk (B : Int) (rows : List (Int × Int)) : Prop := ∀ r ∈ rows, (0 ≤ r.1 ∧ r.1 ≤ B) ∧ 0 ≤ r.2 ∧ r.2 ≤ B
theorem sum_bound {B : Int} : ∀ (xs : List Int), (∀ x ∈ xs, 0 ≤ x ∧ x ≤ B) → 0 ≤ xs.sum ∧ xs.sum ≤ B * xs.length
  | [], _ => by simp
  | x :: xs, h => by
    have h1 := h x (by simp)
    have h2 := sum_bound xs fun y hy => h y (by simp [hy])
    rw [List.sum_cons, List.length_cons]
    have : B * ((xs.length + 1 : Nat) : Int) = B * (xs.length : Int) + B := by rw [Int.natCast_add, Int.mul_add]; simp
    omega
theorem sg_bound {B : Int} {rows : List (Int × Int)} (h : RowsOk B rows) (hB : 0 ≤ B) (s e : Nat) : 0 ≤ sg rows s e ∧ sg rows s e ≤ B * rows.length := by
  have h1 := sum_bound (B := B) ((seg rows s e).map Prod.fst) fun x hx => by
    obtain ⟨r, hr, rfl⟩ := List.mem_map.mp hx
    exact (h r (List.mem_of_mem_drop (List.mem_of_mem_take hr))).1
  rw [List.length_map] at h1
  have h2 := Int.mul_le_mul_of_nonneg_left (show ((seg rows s e).length : Int) ≤ rows.length by have := seg_len rows s e; omega) hB
  exact ⟨h1.1, Int.le_trans h1.2 h2⟩
theorem sf_bound {B : Int} {rows : List (Int × Int)} (h : RowsOk B rows) (hB : 0 ≤ B) (s e : Nat) : 0 ≤ sf rows s e ∧ sf rows s e ≤ B * rows.length := by
  have h1 := sum_bound (B := B) ((seg rows s e).map Prod.snd) fun x hx => by
    obtain ⟨r, hr, rfl⟩ := List.mem_map.mp hx
    exact (h r (List.mem_of_mem_drop (List.mem_of_mem_take hr))).2
  rw [List.length_map] at h1
  have h2 := Int.mul_le_mul_of_nonneg_left (show ((seg rows s e).length : Int) ≤ rows.length by have := seg_len rows s e; omega) hB
  exact ⟨h1.1, Int.le_trans h1.2 h2⟩
theorem cut_map {β : Type} {f : β → D} (xs : List β) (s e : Nat) : cutD (xs.map f) (some (s : Int)) (some (e : Int)) = ((xs.drop s).take (e - s)).map f := by
  rw [cutD_mid, List.map_take, List.map_drop]
theorem lcL_mapx {β : Type} {u w : β → D} {g : MG} {m : ME} {ρ : Q.Env} : ∀ (xs : List β) (S : Store), (∀ x ∈ xs, ∃ ρ1, g (u x) ρ S = .ok ρ1 S ∧ m ρ1 S = .ok (w x) S) → lcL g mYes m ρ (xs.map u) S = .ok (xs.map w) S
  | [], S, _ => rfl
  | x :: xs, S, h => by
    obtain ⟨ρ1, h1, h2⟩ := h x (by simp)
    rw [List.map_cons]
    unfold lcL
    rw [h1]
    simp only [bind_ok, ap_yes]
    rw [h2]
    simp only [bind_ok]
    rw [lcL_mapx xs S fun y hy => h y (by simp [hy])]
    rfl
theorem zipD_map {β γ : Type} {f : β → D} {g : γ → D} : ∀ (xs : List β) (ys : List γ), zipD (xs.map f) (ys.map g) = (xs.zip ys).map fun p => .tup [f p.1, g p.2]
  | [], _ => rfl
  | _ :: _, [] => rfl
  | x :: xs, y :: ys => by
    show D.tup [f x, g y] :: zipD (xs.map f) (ys.map g) = _
    rw [zipD_map xs ys]
    rfl
theorem eq_refD {k : Nat} {xs : List D} {S : Store} (h : S[k]? = some (.lst xs)) (hs : shal 20 (.lst xs) = true) : opEq (.ref k) (.lst xs) S = .ok (.bl true) S := by
  have hd : deref S (.ref k) = .lst xs := by simp [deref, h]
  have hd2 : deref S (.lst xs) = .lst xs := rfl
  unfold opEq
  simp only [hd, hd2, hs, deq_self 20 _ hs]
  rfl
theorem shal_ints (xs : List Int) : shal 20 (.lst (xs.map .int)) = true := by
  rw [shal_lst]
  exact shal_map (fun _ => shal_int _ _) xs
theorem toN {r : Int} (h : 0 ≤ r) : ∃ n : Nat, r = (n : Int) := ⟨r.toNat, by omega⟩
theorem lcL_filtermap {β : Type} {u w : β → D} {q : β → Bool} {g : MG} {t : MT} {m : ME} {ρ : Q.Env} : ∀ (xs : List β) (S : Store), (∀ x ∈ xs, ∃ ρ1, g (u x) ρ S = .ok ρ1 S ∧ t ρ1 S = .ok (q x) S ∧ m ρ1 S = .ok (w x) S) → lcL g t m ρ (xs.map u) S = .ok ((xs.filter q).map w) S
  | [], S, _ => rfl
  | x :: xs, S, h => by
    obtain ⟨ρ1, h1, h2, h3⟩ := h x (by simp)
    have ih := lcL_filtermap xs S fun y hy => h y (by simp [hy])
    rw [List.map_cons]
    unfold lcL
    rw [h1]
    simp only [bind_ok]
    rw [h2]
    simp only [bind_ok]
    cases e : q x with
    | true =>
      simp only [e, if_true, h3, bind_ok, ih, List.filter_cons]
      rfl
    | false =>
      simp only [e, ih, List.filter_cons]
      rfl
theorem bigH {x : Int} (hx : x ≤ 10 ^ 300) : x < big := Int.lt_of_le_of_lt hx (by unfold big; decide)
theorem lcL_filterb {β : Type} {u : β → D} {q : β → Bool} {g : MG} {t : MT} {m : ME} {ρ : Q.Env} : ∀ (xs : List β) (S : Store), (∀ x ∈ xs, ∃ ρ1, g (u x) ρ S = .ok ρ1 S ∧ t ρ1 S = .ok (q x) S ∧ m ρ1 S = .ok (u x) S) → lcL g t m ρ (xs.map u) S = .ok ((xs.filter q).map u) S
  | [], S, _ => rfl
  | x :: xs, S, h => by
    obtain ⟨ρ1, h1, h2, h3⟩ := h x (by simp)
    have ih := lcL_filterb xs S fun y hy => h y (by simp [hy])
    rw [List.map_cons]
    unfold lcL
    rw [h1]
    simp only [bind_ok]
    rw [h2]
    simp only [bind_ok]
    cases e : q x with
    | true =>
      simp only [e, if_true, h3, bind_ok, ih, List.filter_cons]
      rfl
    | false =>
      simp only [e, ih, List.filter_cons]
      rfl
theorem BoxS.lt {S0 S : Store} {k N : Nat} (h : BoxS S0 k N S) : k < S0.length := by obtain ⟨y, _, _, hk⟩ := h; exact hk
theorem BoxS.push {S0 S : Store} {k N : Nat} (c : Cell) (h : BoxS S0 k N S) : BoxS (S0 ++ [c]) k N (S ++ [c]) := by
  obtain ⟨y, rfl, hy, hk⟩ := h
  exact ⟨y, by rw [List.set_append_left _ _ hk], hy, by simp; omega⟩
theorem BoxS.last {S0 S : Store} {k N : Nat} {c : Cell} (h : BoxS (S0 ++ [c]) k N S) (hk : k < S0.length) : S[S0.length]? = some c := by
  obtain ⟨y, rfl, _, _⟩ := h
  rw [List.getElem?_set_ne (by omega)]
  simp
theorem BoxS.setLast {S0 S : Store} {k N : Nat} {c : Cell} (c' : Cell) (h : BoxS (S0 ++ [c]) k N S) (hk : k < S0.length) : BoxS (S0 ++ [c']) k N (S.set S0.length c') := by
  obtain ⟨y, rfl, hy, _⟩ := h
  refine ⟨y, ?_, hy, by simp; omega⟩
  rw [List.set_append_left _ _ hk, List.set_append_left _ _ hk]
  have e : (S0.set k y).length = S0.length := by simp
  rw [← e, List.set_append_right _ _ (Nat.le_refl _)]
  simp
theorem BoxS.cut {S0 S : Store} {k N : Nat} {c : Cell} (h : BoxS (S0 ++ [c]) k N S) (hk : k < S0.length) : S.length = S0.length + 1 ∧ BoxS S0 k N (S.take S0.length) := by
  obtain ⟨y, rfl, hy, _⟩ := h
  refine ⟨by simp, y, ?_, hy, hk⟩
  rw [List.set_append_left _ _ hk]
  exact List.take_left' (by simp)
theorem fin_cut {S0 S : Store} {k N n : Nat} {c : Cell} {d : D} (h : BoxS (S0 ++ [c]) k N S) (hk : k < S0.length) (hn : n = S0.length) (hp : S0.all Cell.pure = true) (hd : pureD d = true) : ∃ S', fin n d S = .ok d S' ∧ BoxS S0 k N S' := by
  obtain ⟨hl, hb⟩ := h.cut hk
  refine ⟨S.take S0.length, ?_, hb⟩
  subst hn
  exact fin_ok (by omega) hd (hb.pure hp)
structure LooksOk (many : Int) (ps : List (Int × Int)) : Prop where
  up : ps.Pairwise plt
  ok : ∀ p ∈ ps, 0 ≤ p.1 ∧ p.1 < p.2 ∧ p.2 ≤ many
def looksD (ps : List (Int × Int)) : D := .tup (ps.map pairD)
theorem insU_len (x : Int × Int) : ∀ ys : List (Int × Int), (insU x ys).length ≤ ys.length + 1
  | [] => by simp [insU]
  | y :: ys => by
    unfold insU
    have := insU_len x ys
    split
    · simp
    · split
      · simp
      · simp; omega
theorem sortU_len : ∀ xs : List (Int × Int), (sortU xs).length ≤ xs.length
  | [] => by simp [sortU]
  | x :: xs => by
    unfold sortU
    have a := insU_len x (sortU xs)
    have b := sortU_len xs
    simp; omega
theorem min2_ok {a b : Int} {S : Store} : fMin2 [.int a, .int b] S = .ok (.int (if b < a then b else a)) S := rfl
def mAl : MS := (mSeq (mAsg (mCall (fCall f_l_take) (mCons (mVar 0) (mCons (mVar 1) mNil))) (mgN 6))
  (mDrop (mApp (mVar 3) (mTup (mCons (mVar 6) (mCons (mCall fMin2 (mCons (mVar 1) (mCons (mOp opAdd (mOp opAdd (mVar 6) (mC (.int 1))) (mCall (fCall f_l_take) (mCons (mVar 0) (mCons (mVar 4) mNil)))) mNil))) mNil))))))
structure RowOk (many : Int) (ps : List (Int × Int)) : Prop where
  lk : LooksOk many ps
  ne : ps ≠ []
theorem sortU_ne {ps : List (Int × Int)} (h : ps ≠ []) : sortU ps ≠ [] := by
  obtain ⟨p, hp⟩ := List.exists_mem_of_ne_nil _ h
  exact List.ne_nil_of_mem (mem_sortU.mpr hp)
theorem alarm_s {S0 S : Store} {k N : Nat} {many : Int} {most : Nat} (h : BoxS S0 k N S) (hp : S0.all Cell.pure = true) (hN : N + 2 * most + 10 < 2 ^ 40) (hm : 0 < many) (hm2 : many < lim) (h0 : 0 < most) (hmost : most < 60) :
    (f_l_alarm [.ref k, .int many, .int most] S).Sat fun d S' => ∃ ps, d = looksD ps ∧ RowOk many ps ∧ ps.length ≤ most ∧ BoxS S0 k (N + 2 * most + 3) S' := by
  have hm3 : many < 2 ^ 8999 := Int.lt_trans hm2 (by decide)
  have hk := h.lt
  have turn : ∀ (wide : Int) (v2 : Option D) (ps : List (Int × Int)) (v5 v6 : Option D) (M : Nat) (T : Store), 0 < wide → wide < 2 ^ 8999 → M + 2 < 2 ^ 40 → ps.length < 63 → BoxS (S0 ++ [.lst (ps.map pairD)]) k M T →
      (mAl [some (.ref k), some (.int many), v2, some (.ref S0.length), some (.int wide), v5, v6] T).Sat fun f T' => ∃ p v6', f = .nx [some (.ref k), some (.int many), v2, some (.ref S0.length), some (.int wide), v5, v6'] ∧ (0 ≤ p.1 ∧ p.1 < p.2 ∧ p.2 ≤ many) ∧ BoxS (S0 ++ [.lst ((ps ++ [p]).map pairD)]) k (M + 2) T' := by
    intro wide v2 ps v5 v6 M T hw hw2 hM hps hT
    have put : ∀ (M' : Nat) (T' : Store) (s e : Int), BoxS (S0 ++ [.lst (ps.map pairD)]) k M' T' → appTo S0.length (.tup [.int s, .int e]) T' = .ok .non (T'.set S0.length (.lst ((ps ++ [(s, e)]).map pairD))) := fun M' T' s e hb => by
      rw [appTo_ok _ (hb.last hk) (by simp; omega)]
      simp [pairD]
    have no : ∀ (M' : Nat) (T' : Store), BoxS (S0 ++ [.lst (ps.map pairD)]) k M' T' → notOb T' S0.length = true := fun M' T' hb => notOb_lst (hb.last hk)
    unfold mAl
    simp
    refine sat_step (take_s (n := many) hT (by omega) hm hm3) ?_
    rintro _ T1 ⟨s, rfl, a1, b1, h1⟩
    simp [no _ _ h1]
    refine sat_step (take_s (n := wide) h1 (by omega) hw hw2) ?_
    rintro _ T2 ⟨r, rfl, a2, b2, h2⟩
    simp [min2_ok, put _ _ _ _ h2]
    have z := (h2.setLast (.lst ((ps ++ [(s, if s + 1 + r < many then s + 1 + r else many)]).map pairD)) hk).mono (show M + 1 + 1 ≤ M + 2 by omega)
    exact ⟨s, if s + 1 + r < many then s + 1 + r else many, ⟨by omega, by split <;> omega, by split <;> omega⟩, by simpa using z⟩
  unfold f_l_alarm m_l_alarm
  rw [fnM_3]
  show (endM S.length (mSeq _ (mSeq (mFor _ _ mAl) _) _ _)).Sat _
  generalize mAl = mL at *
  have hl0 : S.length = S0.length := h.len
  simp
  refine sat_step (of_s (h.push (.lst [])) (by omega) (by simp) (by simp)) ?_
  rintro d S1 ⟨hd, h1⟩
  obtain ⟨w, rfl, hw, hw2⟩ : ∃ w : Int, d = .int w ∧ 0 < w ∧ w < lim := by
    simp at hd
    rcases hd with rfl | rfl | rfl | rfl
    · exact ⟨_, rfl, by decide, by decide⟩
    · exact ⟨_, rfl, by decide, by decide⟩
    · exact ⟨_, rfl, by decide, by decide⟩
    · exact ⟨_, rfl, hm, hm2⟩
  have hw3 : w < 2 ^ 8999 := Int.lt_trans hw2 (by decide)
  simp
  refine sat_step (take_s (n := (most : Int)) h1 (by omega) (by omega) (Int.lt_trans (show (most : Int) < 100 by omega) (by decide))) ?_
  rintro _ S3 ⟨t, rfl, a3, b3, h3⟩
  obtain ⟨t, ht⟩ : ∃ u : Nat, 1 + t = (u : Int) := ⟨(1 + t).toNat, by omega⟩
  simp [ht, r1K_nat t (by omega)]
  rw [hl0]
  refine sat_step (forL_sat (P := fun f S' => ∃ (ps : List (Int × Int)) (v5 v6 : Option D), f = .nx [some (.ref k), some (.int many), some (.int most), some (.ref S0.length), some (.int w), v5, v6] ∧ ps.length = t ∧ (∀ p ∈ ps, 0 ≤ p.1 ∧ p.1 < p.2 ∧ p.2 ≤ many) ∧ BoxS (S0 ++ [.lst (ps.map pairD)]) k (N + 2 + 2 * ps.length) S')
    (fun ds ρ S' => ∃ (ps : List (Int × Int)) (v5 v6 : Option D), ρ = [some (.ref k), some (.int many), some (.int most), some (.ref S0.length), some (.int w), v5, v6] ∧ ps.length + ds.length = t ∧ (∀ p ∈ ps, 0 ≤ p.1 ∧ p.1 < p.2 ∧ p.2 ≤ many) ∧ BoxS (S0 ++ [.lst (ps.map pairD)]) k (N + 2 + 2 * ps.length) S') ?_ ?_ _ _ _ ⟨[], none, none, rfl, by simp [rangeD_len], by simp, by simpa using h3⟩) ?_
  · rintro d ds ρ S' ⟨ps, v5, v6, rfl, hl, hok, hB⟩
    rw [List.length_cons] at hl
    refine ⟨_, S', rfl, ?_⟩
    refine (turn w _ ps (some d) v6 _ S' hw hw3 (by omega) (by omega) hB).mono ?_
    rintro _ T' ⟨p, v6', rfl, hpk, hB'⟩
    refine ⟨ps ++ [p], _, _, rfl, by simp; omega, fun q hq => ?_, by simpa [Nat.mul_add, Nat.add_assoc] using hB'⟩
    rcases List.mem_append.mp hq with m | m
    · exact hok q m
    · simp at m
      subst m
      exact hpk
  · rintro ρ S' ⟨ps, v5, v6, rfl, hl, hok, hB⟩
    exact ⟨ps, v5, v6, rfl, by simpa using hl, hok, hB⟩
  · rintro _ S' ⟨ps, v5, v6, rfl, hl, hok, hB⟩
    have pk : ∀ p ∈ ps, (0 ≤ p.1 ∧ p.1 < lim) ∧ 0 ≤ p.2 ∧ p.2 < lim := fun p hp => by
      have := hok p hp
      omega
    have ss := fun S => ssK_pairs (S := S) pk (by omega)
    have fr := fz_ref (hB.last hk)
    have hB2 := hB.setLast (.frz (ps.map pairD)) hk
    have len : ((sortU ps).map pairD).length ≤ 100000 := by have := sortU_len ps; simp; omega
    have pd : pureD (.tup ((sortU ps).map pairD)) = true := pureL_all.mpr fun d hd => by
      obtain ⟨p, _, rfl⟩ := List.mem_map.mp hd
      rfl
    obtain ⟨S4, e4, hB4⟩ := fin_cut (d := .tup ((sortU ps).map pairD)) hB2 hk h.len hp pd
    rw [hl0] at e4
    have hne : ps ≠ [] := fun z => by
      subst z
      simp at hl
      omega
    generalize hR : (sortU ps).map pairD = R at *
    simp [fr, ss, hR, e4]
    exact ⟨sortU ps, by rw [looksD, hR], ⟨⟨sortU_up ps, fun p hp => hok p (mem_sortU.mp hp)⟩, sortU_ne hne⟩, by have := sortU_len ps; omega, hB4.mono (by omega)⟩
def rowsD (R : List (List (Int × Int))) : D := .tup (R.map looksD)
def caseD (n a b : Int) (R : List (List (Int × Int))) : D := .tup [.int n, .tup [.int a, .int b], rowsD R]
def prodR : List (List (Int × Int)) → Nat
  | [] => 1
  | r :: R => r.length * prodR R
theorem prodR_app : ∀ (R : List (List (Int × Int))) (r : List (Int × Int)), prodR (R ++ [r]) = prodR R * r.length
  | [], r => by simp [prodR]
  | q :: R, r => by
    show q.length * prodR (R ++ [r]) = q.length * prodR R * r.length
    rw [prodR_app R r, Nat.mul_assoc]
theorem prodR_perm {R R' : List (List (Int × Int))} (h : R.Perm R') : prodR R = prodR R' := by
  induction h with
  | nil => rfl
  | cons x _ ih => show x.length * _ = x.length * _; rw [ih]
  | swap x y l =>
    show y.length * (x.length * prodR l) = x.length * (y.length * prodR l)
    rw [← Nat.mul_assoc, ← Nat.mul_assoc, Nat.mul_comm y.length]
  | trans _ _ h1 h2 => exact h1.trans h2
theorem alike_pairs : ∀ ps qs : List (Int × Int), PySem.W.alikeAll (toPyL (ps.map pairD)) (toPyL (qs.map pairD)) = true
  | [], qs => by simp [toPyL, PySem.W.alikeAll]
  | _ :: _, [] => by simp [toPyL, PySem.W.alikeAll]
  | p :: ps, q :: qs => by
    rw [List.map_cons, List.map_cons, toPyL, toPyL, PySem.W.alikeAll, alike_pairs ps qs]
    rfl
theorem rows_okA {R : List (List (Int × Int))} (h : ∀ r ∈ R, r ≠ []) : okA (R.map looksD) = true := by
  unfold okA
  refine List.all_eq_true.mpr fun x hx => ?_
  obtain ⟨r, hr, rfl⟩ := List.mem_map.mp hx
  have e1 : rowQ (looksD r) = true := by
    cases r with
    | nil => exact absurd rfl (h _ hr)
    | cons p r => rfl
  have e2 : shal 18 (looksD r) = true := by unfold looksD; rw [shal_tup]; exact shal_map (fun _ => rfl) r
  rw [e1, e2]
  refine List.all_eq_true.mpr fun y hy => ?_
  obtain ⟨q, hq, rfl⟩ := List.mem_map.mp hy
  exact alike_pairs r q
theorem sort_rows {R : List (List (Int × Int))} (h : ∀ r ∈ R, r ≠ []) {d : D} {S : Store} (hd : rdL S d = some (R.map looksD)) : ∃ R' : List (List (Int × Int)), R'.Perm R ∧ skA d S = .ok (.lst (R'.map looksD)) S := by
  obtain ⟨R', hp, e⟩ := perm_of_map (sortA_perm (R.map looksD)) R rfl
  exact ⟨R', hp, by rw [skA_ok hd (rows_okA h), e]⟩
structure CaseA (n : Nat) (a b : Int) (R : List (List (Int × Int))) (A L W : Nat) : Prop where
  hn : 0 < n
  ha : 0 < a
  hab : a < b
  hb : b < 2 ^ 67
  rows : ∀ r ∈ R, RowOk n r
  len : R.length ≤ A
  lens : ∀ r ∈ R, r.length ≤ L
  ways : prodR R ≤ W
theorem pure_looks (ps : List (Int × Int)) : pureD (looksD ps) = true := pureL_map (fun _ => rfl) ps
theorem pure_case (n a b : Int) (R : List (List (Int × Int))) : pureD (caseD n a b R) = true := by
  have : pureD (rowsD R) = true := pureL_map (fun r => pure_looks r) R
  show pureL [.int n, .tup [.int a, .int b], rowsD R] = true
  simp only [pureL_cons, this, pureL_nil]
  rfl
def mAls : MS := (mSeq (mAsg (mCall (fCall f_l_alarm) (mCons (mVar 0) (mCons (mVar 5) (mCons (mVar 3) mNil)))) (mgN 9))
  (mIf (mAndT (mTB (mOp opNin (mVar 9) (mVar 6))) (mTB (mOp opLe (mOp opMul (mVar 7) (mCall fLen (mCons (mVar 9) mNil))) (mVar 4)))) (mSeq (mDrop (mApp (mVar 6) (mVar 9)))
  (mAsg (mOp opMul (mVar 7) (mCall fLen (mCons (mVar 9) mNil))) (mgN 7))) mSkip))
def AlsInv (S0 : Store) (k N n L W : Nat) (R : List (List (Int × Int))) (S : Store) : Prop := (∀ r ∈ R, RowOk n r ∧ r.length ≤ L) ∧ prodR R ≤ W ∧ BoxS (S0 ++ [.lst (R.map looksD)]) k N S
theorem nin_rows (R : List (List (Int × Int))) (r : List (Int × Int)) (j : Nat) (S : Store) (h : S[j]? = some (.lst (R.map looksD))) : ∃ t, opNin (looksD r) (.ref j) S = .ok (.bl t) S := by
  have e : deref S (.ref j) = .lst (R.map looksD) := by unfold deref; simp [h]
  refine ⟨!inD (R.map looksD) (looksD r), ?_⟩
  unfold opNin
  rw [e]
  have s1 : shal 20 (looksD r) = true := by unfold looksD; rw [shal_tup]; exact shal_map (fun _ => rfl) r
  have s2 : shal 20 (.lst (R.map looksD)) = true := by rw [shal_lst]; exact shal_map (fun r => by unfold looksD; rw [shal_tup]; exact shal_map (fun _ => rfl) r) R
  simp only [s1, s2, Bool.and_self, if_true]
theorem als_turn {S0 T : Store} {k M n L W : Nat} {R : List (List (Int × Int))} {v1 v2 v8 v9 : Option D} (hp : S0.all Cell.pure = true) (hk : k < S0.length) (hn : 0 < n) (hn2 : n < 1000) (h0 : 0 < L) (hL : L < 60) (hW : W ≤ 1000) (hM : M + 2 * L + 10 < 2 ^ 40) (hR : R.length ≤ 60) (h : AlsInv S0 k M n L W R T) :
    (mAls [some (.ref k), v1, v2, some (.int (L : Nat)), some (.int (W : Nat)), some (.int (n : Nat)), some (.ref S0.length), some (.int (prodR R : Nat)), v8, v9] T).Sat fun f T' => ∃ R' v9', f = .nx [some (.ref k), v1, v2, some (.int (L : Nat)), some (.int (W : Nat)), some (.int (n : Nat)), some (.ref S0.length), some (.int (prodR R' : Nat)), v8, v9'] ∧ R'.length ≤ R.length + 1 ∧ AlsInv S0 k (M + 2 * L + 3) n L W R' T' := by
  obtain ⟨hok, hw, hB⟩ := h
  have pc : (S0 ++ [Cell.lst (R.map looksD)]).all Cell.pure = true := by
    have : (Cell.lst (R.map looksD)).pure = true := pureL_map (fun r => pure_looks r) R
    rw [List.all_append, hp]
    simp [this]
  have as := alarm_s (many := (n : Int)) (most := L) hB pc (by omega) (by omega) (by unfold lim; omega) h0 hL
  unfold mAls
  simp -implicitDefEqProofs
  refine sat_step as ?_
  rintro _ T1 ⟨ps, rfl, hps, hpl, h1⟩
  obtain ⟨t, et⟩ := nin_rows R ps S0.length T1 (h1.last hk)
  have no : notOb T1 S0.length = true := notOb_lst (h1.last hk)
  have pl : fLen [looksD ps] T1 = .ok (.int (ps.length : Nat)) T1 := by unfold looksD; simp
  have mo : mulOk (prodR R : Nat) (ps.length : Nat) = true := mulOk_r (by omega)
  have e1 : ((prodR R : Nat) : Int) * (ps.length : Nat) = ((prodR (R ++ [ps]) : Nat) : Int) := by rw [prodR_app]; omega
  have ap : appTo S0.length (looksD ps) T1 = .ok .non (T1.set S0.length (.lst ((R ++ [ps]).map looksD))) := by
    rw [appTo_ok _ (h1.last hk) (by simp; omega), List.map_append]
    rfl
  have pl2 : fLen [looksD ps] (T1.set S0.length (.lst ((R ++ [ps]).map looksD))) = .ok (.int (ps.length : Nat)) (T1.set S0.length (.lst ((R ++ [ps]).map looksD))) := by unfold looksD; simp
  have z := h1.setLast (.lst ((R ++ [ps]).map looksD)) hk
  have same : AlsInv S0 k (M + 2 * L + 3) n L W R T1 := ⟨hok, hw, h1⟩
  cases t with
  | false =>
    generalize looksD ps = Pd at *
    simp -implicitDefEqProofs [et]
    exact ⟨R, rfl, by omega, same⟩
  | true =>
    by_cases c : prodR (R ++ [ps]) ≤ W
    · have le : opLe (.int ((prodR (R ++ [ps]) : Nat) : Int)) (.int (W : Nat)) T1 = .ok (.bl true) T1 := by
        show Res.ok (D.bl (decide (((prodR (R ++ [ps]) : Nat) : Int) ≤ (W : Nat)))) T1 = _
        rw [decide_eq_true (by omega)]
      have fin : AlsInv S0 k (M + 2 * L + 3) n L W (R ++ [ps]) (T1.set S0.length (.lst ((R ++ [ps]).map looksD))) := ⟨fun r hr => ?_, c, z⟩
      · generalize hX : (R ++ [ps]).map looksD = X at *
        generalize hPd : looksD ps = Pd at *
        simp -implicitDefEqProofs [et, pl, mo, e1, le, no, ap, pl2]
        exact ⟨R ++ [ps], rfl, by simp, fin⟩
      rcases List.mem_append.mp hr with m | m
      · exact hok r m
      · rw [List.mem_singleton.mp m]
        exact ⟨hps, hpl⟩
    · have le : opLe (.int ((prodR (R ++ [ps]) : Nat) : Int)) (.int (W : Nat)) T1 = .ok (.bl false) T1 := by
        show Res.ok (D.bl (decide (((prodR (R ++ [ps]) : Nat) : Int) ≤ (W : Nat)))) T1 = _
        rw [decide_eq_false (by omega)]
      generalize hPd : looksD ps = Pd at *
      simp -implicitDefEqProofs [et, pl, mo, e1, le]
      exact ⟨R, rfl, by omega, same⟩
theorem alarms_s {S0 S : Store} {k N mm A L W : Nat} (h : BoxS S0 k N S) (hp : S0.all Cell.pure = true) (hN : N + (2 * L + 3) * A + 40 < 2 ^ 40) (hm : 0 < mm) (hm2 : mm < 1000) (hA : A < 50) (h0 : 0 < L) (hL : L < 60) (hW1 : 0 < W) (hW : W ≤ 1000) :
    (f_l_alarms [.ref k, .int (mm : Nat), .int (A : Nat), .int (L : Nat), .int (W : Nat)] S).Sat fun d S' => ∃ (n : Nat) (a b : Int) (R : List (List (Int × Int))), d = caseD n a b R ∧ n ≤ mm ∧ CaseA n a b R A L W ∧ BoxS S0 k (N + (2 * L + 3) * A + 8) S' := by
  have hk := h.lt
  have turn := fun (n : Nat) (hn : 0 < n) (hn2 : n < 1000) (T : Store) (M : Nat) (R : List (List (Int × Int))) v8 v9 (hM : M + 2 * L + 10 < 2 ^ 40) (hR : R.length ≤ 60) (hI : AlsInv S0 k M n L W R T) => als_turn (v1 := some (.int (mm : Nat))) (v2 := some (.int (A : Nat))) (v8 := v8) (v9 := v9) hp hk hn hn2 h0 hL hW hM hR hI
  unfold f_l_alarms m_l_alarms
  rw [show ∀ n : MS, fnM 10 5 n [.ref k, .int (mm : Nat), .int (A : Nat), .int (L : Nat), .int (W : Nat)] S = endM S.length (n [some (.ref k), some (.int (mm : Nat)), some (.int (A : Nat)), some (.int (L : Nat)), some (.int (W : Nat)), none, none, none, none, none] S) from fun _ => rfl]
  show (endM S.length (mSeq _ (mSeq (mFor _ _ mAls) _) _ _)).Sat _
  generalize mAls = mL at *
  have hl0 : S.length = S0.length := h.len
  simp -implicitDefEqProofs
  refine sat_step (take_s (n := (mm : Int)) h (by omega) (by omega) (Int.lt_trans (show (mm : Int) < 1000 by omega) (by decide))) ?_
  rintro _ S1 ⟨r, rfl, a1, b1, h1⟩
  obtain ⟨n, en⟩ : ∃ u : Nat, 1 + r = (u : Int) := ⟨(1 + r).toNat, by omega⟩
  have hn0 : 0 < n := by omega
  have hn1 : n ≤ mm := by omega
  have h1' := h1.push (.lst [])
  have hl1 : S1.length = S0.length := h1.len
  simp -implicitDefEqProofs [en]
  refine sat_step (take_s (n := (A : Int) + 1) h1' (by omega) (by omega) (Int.lt_trans (show (A : Int) + 1 < 1000 by omega) (by decide))) ?_
  rintro _ S2 ⟨t, rfl, a2, b2, h2⟩
  obtain ⟨t, rfl⟩ := Int.eq_ofNat_of_zero_le a2
  simp -implicitDefEqProofs [r1K_nat t (by omega)]
  rw [hl1]
  have key : ∀ j : Nat, j ≤ A → (2 * L + 3) * j ≤ (2 * L + 3) * A := fun j hj => Nat.mul_le_mul_left _ hj
  refine sat_step (forL_sat (P := fun f S' => ∃ (R : List (List (Int × Int))) (v8 v9 : Option D), f = .nx [some (.ref k), some (.int (mm : Nat)), some (.int (A : Nat)), some (.int (L : Nat)), some (.int (W : Nat)), some (.int (n : Nat)), some (.ref S0.length), some (.int (prodR R : Nat)), v8, v9] ∧ R.length ≤ A ∧ AlsInv S0 k (N + 2 + (2 * L + 3) * A) n L W R S')
    (fun ds ρ S' => ∃ (R : List (List (Int × Int))) (v8 v9 : Option D) (j : Nat), ρ = [some (.ref k), some (.int (mm : Nat)), some (.int (A : Nat)), some (.int (L : Nat)), some (.int (W : Nat)), some (.int (n : Nat)), some (.ref S0.length), some (.int (prodR R : Nat)), v8, v9] ∧ R.length ≤ j ∧ j + ds.length ≤ A ∧ AlsInv S0 k (N + 2 + (2 * L + 3) * j) n L W R S') ?_ ?_ _ _ _ ⟨[], none, none, 0, rfl, Nat.le_refl _, by rw [rangeD_len]; omega, ⟨fun r hr => absurd hr List.not_mem_nil, by unfold prodR; omega, by simpa using h2⟩⟩) ?_
  · rintro d ds ρ S' ⟨R, v8, v9, j, rfl, hl, hj, hI⟩
    rw [List.length_cons] at hj
    have kj := key (j + 1) (by omega)
    rw [Nat.mul_succ] at kj
    refine ⟨_, S', rfl, ?_⟩
    refine (turn n hn0 (by omega) S' _ R (some d) v9 (by omega) (by omega) hI).mono ?_
    rintro _ T' ⟨R', v9', rfl, hl', hI'⟩
    refine ⟨R', _, _, j + 1, rfl, by omega, by omega, ?_⟩
    have e : N + 2 + (2 * L + 3) * j + 2 * L + 3 = N + 2 + (2 * L + 3) * (j + 1) := by rw [Nat.mul_succ]; omega
    rw [← e]
    exact hI'
  · rintro ρ S' ⟨R, v8, v9, j, rfl, hl, hj, hok, hw, hB⟩
    have kj := key j (by simpa using hj)
    exact ⟨R, v8, v9, rfl, by simp at hj; omega, hok, hw, hB.mono (by omega)⟩
  · rintro _ S' ⟨R, v8, v9, rfl, hl, hok, hw, hB⟩
    have pc : (S0 ++ [Cell.lst (R.map looksD)]).all Cell.pure = true := by
      have : (Cell.lst (R.map looksD)).pure = true := pureL_map (fun r => pure_looks r) R
      rw [List.all_append, hp]
      simp [this]
    simp -implicitDefEqProofs
    refine sat_step (limit_s hB (by omega)) ?_
    rintro _ S3 ⟨⟨a, b, rfl, ha, hab, hb⟩, h3⟩
    obtain ⟨R', hpm, es⟩ := sort_rows (R := R) (fun r hr => (hok r hr).1.ne) (d := .ref S0.length) (S := S3) (by unfold rdL lstOf; simp [h3.last hk])
    have zl : (R'.map looksD).length ≤ 100000 := by have := hpm.length_eq; rw [List.length_map]; omega
    have e2 : D.tup [.int n, .tup [.int a, .int b], .tup (R'.map looksD)] = caseD n a b R' := rfl
    obtain ⟨S4, e4, hB4⟩ := fin_cut (d := caseD n a b R') h3 hk h.len hp (pure_case _ _ _ _)
    simp -implicitDefEqProofs [es, zl, e2, e4]
    exact ⟨n, a, b, R', rfl, hn1, ⟨hn0, ha, hab, hb, fun r hr => (hok r (hpm.mem_iff.mp hr)).1, by rw [hpm.length_eq]; exact hl, fun r hr => (hok r (hpm.mem_iff.mp hr)).2, by rw [prodR_perm hpm]; exact hw⟩, hB4.mono (by omega)⟩
def tuD : Nat → D → D
  | n + 1, .tup xs => .tup (xs.map (tuD n))
  | n + 1, .lst xs => .tup (xs.map (tuD n))
  | _, d => d
theorem tupled_ok : ∀ (k n : Nat) (d : D) (S : Store), okD n d = true → n < k → f_p_tupled k [d] S = .ok (tuD n d) S
  | 0, n, d, S, _, hk => absurd hk (by omega)
  | k + 1, n, d, S, h, hk => by
    have seq : ∀ (m : Nat) (xs : List D), (∀ x ∈ xs, okD m x = true) → m < k → ∀ ρ : Q.Env, 1 < ρ.length → ∀ S, lcL (mgN 1) mYes (mCall (fPure (f_p_tupled k)) (mCons (mVar 1) mNil)) ρ xs S = .ok (xs.map (tuD m)) S := fun m xs hx hm ρ hρ S => by
      refine lcL_map (f := tuD m) xs S fun x hxm => ⟨_, rfl, ?_⟩
      have p := okD_pure _ _ (hx x hxm)
      have e : (ρ.set 1 (some x))[1]? = some (some x) := List.getElem?_set_self hρ
      simp only [ap_call, ap_cons, ap_var, e, varK_some, bind_ok, consK_ap, ap_nil, consK2_ap]
      exact fPure_ap S (by simp [p]) (tupled_ok k m x [] (hx x hxm) hm)
    cases d with
    | non => simp [f_p_tupled, fnM, m_p_tupled, isTy]; cases n <;> rfl
    | bl b => simp [f_p_tupled, fnM, m_p_tupled, isTy]; cases n <;> rfl
    | int b => simp [f_p_tupled, fnM, m_p_tupled, isTy]; cases n <;> rfl
    | str b => simp [f_p_tupled, fnM, m_p_tupled, isTy]; cases n <;> rfl
    | tup xs =>
      cases n with
      | zero => simp [okD] at h
      | succ n =>
        rw [okD_tup, Bool.and_eq_true, decide_eq_true_eq] at h
        have hs := fun ρ hρ S => seq n xs (fun x hx => List.all_eq_true.mp h.2 x hx) (by omega) ρ hρ S
        simp [f_p_tupled, fnM, m_p_tupled, isTy, h.1, hs, tuD]
    | lst xs =>
      cases n with
      | zero => simp [okD] at h
      | succ n =>
        rw [okD_lst, Bool.and_eq_true, decide_eq_true_eq] at h
        have hs := fun ρ hρ S => seq n xs (fun x hx => List.all_eq_true.mp h.2 x hx) (by omega) ρ hρ S
        simp [f_p_tupled, fnM, m_p_tupled, isTy, h.1, hs, tuD]
    | fro xs => cases n <;> simp [okD] at h
    | obj c xs => cases n <;> simp [okD] at h
    | exn c xs => cases n <;> simp [okD] at h
    | ref j => cases n <;> simp [okD] at h
theorem tupledP {d : D} {n : Nat} (S : Store) (h : okD n d = true) (hn : n < 30) : fPure (f_p_tupled 30) [d] S = .ok (tuD n d) S := fPure_ap S (by simp [okD_pure n d h]) (tupled_ok 30 n d [] h hn)
def lsD : Nat → D → D
  | n + 1, .tup xs => .lst (xs.map (lsD n))
  | n + 1, .lst xs => .lst (xs.map (lsD n))
  | _, d => d
theorem lists_ok : ∀ (k n : Nat) (d : D) (S : Store), okD n d = true → n < k → f_l_lists k [d] S = .ok (lsD n d) S
  | 0, n, d, S, _, hk => absurd hk (by omega)
  | k + 1, n, d, S, h, hk => by
    have seq : ∀ (m : Nat) (xs : List D), (∀ x ∈ xs, okD m x = true) → m < k → ∀ ρ : Q.Env, 1 < ρ.length → ∀ S, lcL (mgN 1) mYes (mCall (fPure (f_l_lists k)) (mCons (mVar 1) mNil)) ρ xs S = .ok (xs.map (lsD m)) S := fun m xs hx hm ρ hρ S => by
      refine lcL_map (f := lsD m) xs S fun x hxm => ⟨_, rfl, ?_⟩
      have p := okD_pure _ _ (hx x hxm)
      have e : (ρ.set 1 (some x))[1]? = some (some x) := List.getElem?_set_self hρ
      simp only [ap_call, ap_cons, ap_var, e, varK_some, bind_ok, consK_ap, ap_nil, consK2_ap]
      exact fPure_ap S (by simp [p]) (lists_ok k m x [] (hx x hxm) hm)
    cases d with
    | non => simp [f_l_lists, fnM, m_l_lists, isTy]; cases n <;> rfl
    | bl b => simp [f_l_lists, fnM, m_l_lists, isTy]; cases n <;> rfl
    | int b => simp [f_l_lists, fnM, m_l_lists, isTy]; cases n <;> rfl
    | str b => simp [f_l_lists, fnM, m_l_lists, isTy]; cases n <;> rfl
    | tup xs =>
      cases n with
      | zero => simp [okD] at h
      | succ n =>
        rw [okD_tup, Bool.and_eq_true, decide_eq_true_eq] at h
        have hs := fun ρ hρ S => seq n xs (fun x hx => List.all_eq_true.mp h.2 x hx) (by omega) ρ hρ S
        simp [f_l_lists, fnM, m_l_lists, isTy, h.1, hs, lsD]
    | lst xs =>
      cases n with
      | zero => simp [okD] at h
      | succ n =>
        rw [okD_lst, Bool.and_eq_true, decide_eq_true_eq] at h
        have hs := fun ρ hρ S => seq n xs (fun x hx => List.all_eq_true.mp h.2 x hx) (by omega) ρ hρ S
        simp [f_l_lists, fnM, m_l_lists, isTy, h.1, hs, lsD]
    | fro xs => cases n <;> simp [okD] at h
    | obj c xs => cases n <;> simp [okD] at h
    | exn c xs => cases n <;> simp [okD] at h
    | ref j => cases n <;> simp [okD] at h
theorem listsP {d : D} {n : Nat} (S : Store) (h : okD n d = true) (hn : n < 30) : fPure (f_l_lists 30) [d] S = .ok (lsD n d) S := fPure_ap S (by simp [okD_pure n d h]) (lists_ok 30 n d [] h hn)
section
variable {a b g f : Int} {S : Store}
theorem above_l (m1 : mulOk b f = true) (m2 : mulOk a (g + f) = true) : f_l_above [.tup [.int a, .int b], .tup [.int g, .int f]] S = .ok (.bl (decide (a * (g + f) < b * f))) S := by
  simp [f_l_above, fnM, m_l_above, m1, m2]
end
theorem l_calls {rows : List (Int × Int)} {s e : Nat} {S : Store} (hl : rows.length ≤ 1000) : f_l_calls [logD rows, .tup [.int s, .int e]] S = .ok (.tup [.int (sg rows s e), .int (sf rows s e)]) S := by
  have h0 : ∀ (cut : List (Int × Int)) (ρ : Q.Env) (S : Store), 3 < ρ.length → lcL (mgN 3) mYes (mOp opIx (mVar 3) (mC (.int 0))) ρ (cut.map rowD) S = .ok (cut.map fun r => .int r.1) S := fun cut ρ S hρ => lcL_mapx _ S fun r hr => ⟨ρ.set 3 (some (rowD r)), rfl, by
    have e3 : (ρ.set 3 (some (rowD r)))[3]? = some (some (rowD r)) := List.getElem?_set_self hρ
    generalize ρ.set 3 (some (rowD r)) = ρ1 at *
    simp [e3, rowD]⟩
  have h1 : ∀ (cut : List (Int × Int)) (ρ : Q.Env) (S : Store), 3 < ρ.length → lcL (mgN 3) mYes (mOp opIx (mVar 3) (mC (.int 1))) ρ (cut.map rowD) S = .ok (cut.map fun r => .int r.2) S := fun cut ρ S hρ => lcL_mapx _ S fun r hr => ⟨ρ.set 3 (some (rowD r)), rfl, by
    have e3 : (ρ.set 3 (some (rowD r)))[3]? = some (some (rowD r)) := List.getElem?_set_self hρ
    generalize ρ.set 3 (some (rowD r)) = ρ1 at *
    simp [e3, rowD]⟩
  have hc := cut_map (f := rowD) rows s e
  have hl2 := seg_len rows s e
  unfold seg at hl2
  have hl3 : ((rows.drop s).take (e - s)).length ≤ 100000 := by omega
  have sm : ∀ (g : Int × Int → Int) (S : Store), fSum [.lst (((rows.drop s).take (e - s)).map fun r => D.int (g r))] S = .ok (.int (((rows.drop s).take (e - s)).map g).sum) S := fun g S => sum_lst (ints_map g _)
  unfold sg sf seg logD
  generalize (rows.drop s).take (e - s) = cut at *
  have s5 := fun S => sm (fun r => r.1) S
  have s6 := fun S => sm (fun r => r.2) S
  have hz : (cut.map rowD).length ≤ 100000 := by simpa using hl3
  simp [f_l_calls, fnM, m_l_calls, hc, hl3, h0, h1, s5, s6]
  try rfl
def gI (h : List Int) (i : Int) : Int := h.getD i.toNat 0
theorem gI_set {h : List Int} {i j x : Int} (hi : 0 ≤ i) (hi2 : i < h.length) (hj : 0 ≤ j) : gI (h.set i.toNat x) j = if j = i then x else gI h j := by
  unfold gI
  rw [List.getD_eq_getElem?_getD, List.getD_eq_getElem?_getD]
  by_cases e : j = i
  · subst e
    rw [if_pos rfl, List.getElem?_set_self (by omega)]
    rfl
  · rw [if_neg e, List.getElem?_set_ne (by omega)]
def relax (h : List Int) (p : Int × Int) : List Int := h.set p.2.toNat (max (gI h p.2) (gI h p.1 + 1))
theorem relax_len (h : List Int) (p : Int × Int) : (relax h p).length = h.length := by simp [relax]
def rnd (arcs : List (Int × Int)) (h : List Int) : List Int := arcs.foldl relax h
def rnds (arcs : List (Int × Int)) : Nat → List Int → List Int
  | 0, h => h
  | k + 1, h => rnds arcs k (rnd arcs h)
structure Pot (n : Nat) (arcs : List (Int × Int)) (c : Int → Int) : Prop where
  ar : ∀ p ∈ arcs, (0 ≤ p.1 ∧ p.1 ≤ n) ∧ 0 ≤ p.2 ∧ p.2 ≤ n
  up : ∀ p ∈ arcs, c p.1 + 1 ≤ c p.2
  lo : ∀ x : Int, 0 ≤ x → x ≤ n → 0 ≤ c x ∧ c x ≤ n
structure RI (n : Nat) (c : Int → Int) (h0 h : List Int) (k : Int) : Prop where
  len : h.length = n + 1
  lo : ∀ x : Int, 0 ≤ x → x ≤ n → gI h0 x ≤ gI h x
  hi : ∀ x : Int, 0 ≤ x → x ≤ n → gI h x ≤ c x
  ch : ∀ x : Int, 0 ≤ x → x ≤ n → gI h x = gI h0 x ∨ k + 1 ≤ gI h x
section
variable {n : Nat} {arcs : List (Int × Int)} {c : Int → Int} {h0 h : List Int} {k : Int}
theorem RI.relax (P : Pot n arcs c) (st : ∀ q ∈ arcs, gI h0 q.1 + 1 ≤ gI h0 q.2 ∨ k ≤ gI h0 q.1) (I : RI n c h0 h k) {p : Int × Int} (hp : p ∈ arcs) : RI n c h0 (relax h p) k ∧ (∀ x : Int, 0 ≤ x → x ≤ n → gI h x ≤ gI (relax h p) x) ∧ gI (relax h p) p.1 + 1 ≤ gI (relax h p) p.2 ∧ (∀ x : Int, 0 ≤ x → x ≤ n → x ≠ p.2 → gI (relax h p) x = gI h x) := by
  obtain ⟨⟨a0, a1⟩, b0, b1⟩ := P.ar p hp
  have cu := P.up p hp
  have hne : p.1 ≠ p.2 := fun e => by rw [e] at cu; omega
  have gs : ∀ x : Int, 0 ≤ x → gI (Lw.relax h p) x = if x = p.2 then max (gI h p.2) (gI h p.1 + 1) else gI h x := fun x hx => gI_set b0 (by have := I.len; omega) hx
  have h1 := I.hi p.1 a0 a1
  refine ⟨⟨by rw [relax_len]; exact I.len, fun x x0 x1 => ?_, fun x x0 x1 => ?_, fun x x0 x1 => ?_⟩, fun x x0 x1 => ?_, ?_, fun x x0 x1 hx => ?_⟩
  · rw [gs x x0]
    have := I.lo x x0 x1
    split
    · next e => subst e; omega
    · exact this
  · rw [gs x x0]
    have := I.hi x x0 x1
    split
    · next e => subst e; omega
    · exact this
  · rw [gs x x0]
    have := I.ch x x0 x1
    split
    · next e =>
      subst e
      by_cases hm : gI h p.1 + 1 ≤ gI h p.2
      · rw [Int.max_eq_left hm]
        exact this
      · right
        rw [Int.max_eq_right (by omega)]
        have l1 := I.lo p.1 a0 a1
        have l2 := I.lo p.2 b0 b1
        rcases st p hp with z | z
        · rcases I.ch p.1 a0 a1 with y | y
          · omega
          · omega
        · omega
    · exact this
  · rw [gs x x0]
    split
    · next e => subst e; omega
    · exact Int.le_refl _
  · rw [gs p.1 a0, gs p.2 b0, if_neg hne, if_pos rfl]
    omega
  · rw [gs x x0, if_neg hx]
theorem rnd_ok (P : Pot n arcs c) (st : ∀ q ∈ arcs, gI h0 q.1 + 1 ≤ gI h0 q.2 ∨ k ≤ gI h0 q.1) : ∀ (post pre : List (Int × Int)) (h : List Int), (∀ p ∈ post, p ∈ arcs) → (∀ p ∈ pre, p ∈ arcs) → RI n c h0 h k → (∀ q ∈ pre, gI h q.1 + 1 ≤ gI h q.2 ∨ k + 1 ≤ gI h q.1) →
    RI n c h0 (post.foldl relax h) k ∧ ∀ q ∈ pre ++ post, gI (post.foldl relax h) q.1 + 1 ≤ gI (post.foldl relax h) q.2 ∨ k + 1 ≤ gI (post.foldl relax h) q.1
  | [], pre, h, _, _, I, hq => ⟨I, by simpa using hq⟩
  | p :: post, pre, h, hpost, hpre, I, hq => by
    obtain ⟨I2, mono, sat, same⟩ := I.relax P st (hpost p (List.mem_cons_self ..))
    have := rnd_ok P st post (pre ++ [p]) (relax h p) (fun q hm => hpost q (List.mem_cons_of_mem _ hm)) (fun q hm => by
      rcases List.mem_append.mp hm with hm | hm
      · exact hpre q hm
      · rw [List.mem_singleton] at hm
        exact hm ▸ hpost p (List.mem_cons_self ..)) I2 (fun q hm => by
      rcases List.mem_append.mp hm with hm | hm
      · obtain ⟨⟨a0, a1⟩, b0, b1⟩ := P.ar q (hpre q hm)
        have m1 := mono q.1 a0 a1
        have m2 := mono q.2 b0 b1
        rcases hq q hm with z | z
        · by_cases e : q.1 = p.2
          · rcases I2.ch q.1 a0 a1 with y | y
            · left
              have := I.lo q.1 a0 a1
              omega
            · exact .inr y
          · have := same q.1 a0 a1 e
            left
            omega
        · right
          omega
      · rw [List.mem_singleton] at hm
        subst hm
        exact .inl sat)
    rw [List.append_assoc, List.singleton_append] at this
    exact this
theorem rnds_ok (P : Pot n arcs c) : ∀ (m : Nat) (h : List Int) (k : Int), h.length = n + 1 → (∀ x : Int, 0 ≤ x → x ≤ n → 0 ≤ gI h x ∧ gI h x ≤ c x) → (∀ q ∈ arcs, gI h q.1 + 1 ≤ gI h q.2 ∨ k ≤ gI h q.1) →
    (rnds arcs m h).length = n + 1 ∧ (∀ x : Int, 0 ≤ x → x ≤ n → 0 ≤ gI (rnds arcs m h) x ∧ gI (rnds arcs m h) x ≤ c x) ∧ ∀ q ∈ arcs, gI (rnds arcs m h) q.1 + 1 ≤ gI (rnds arcs m h) q.2 ∨ k + m ≤ gI (rnds arcs m h) q.1
  | 0, h, k, hl, hb, hq => ⟨hl, hb, fun q hm => by
    have e : k + ((0 : Nat) : Int) = k := by omega
    rw [e]
    exact hq q hm⟩
  | m + 1, h, k, hl, hb, hq => by
    obtain ⟨I, sat⟩ := rnd_ok (h0 := h) (k := k) P hq arcs [] h (fun p hp => hp) (fun p hp => by cases hp) ⟨hl, fun x _ _ => Int.le_refl _, fun x x0 x1 => (hb x x0 x1).2, fun x _ _ => .inl rfl⟩ (fun q hm => by cases hm)
    rw [List.nil_append] at sat
    have := rnds_ok P m (rnd arcs h) (k + 1) I.len (fun x x0 x1 => ⟨Int.le_trans (hb x x0 x1).1 (I.lo x x0 x1), I.hi x x0 x1⟩) sat
    have e : k + ((m + 1 : Nat) : Int) = k + 1 + (m : Int) := by omega
    rw [e]
    exact this
def zeros (n : Nat) : List Int := List.replicate (n + 1) 0
theorem gI_zeros {x : Int} : gI (zeros n) x = 0 := by
  unfold gI zeros
  rw [List.getD_eq_getElem?_getD, List.getElem?_replicate]
  split <;> rfl
theorem ranks_ok (P : Pot n arcs c) : (rnds arcs n (zeros n)).length = n + 1 ∧ (∀ x : Int, 0 ≤ x → x ≤ n → 0 ≤ gI (rnds arcs n (zeros n)) x ∧ gI (rnds arcs n (zeros n)) x ≤ n) ∧ ∀ q ∈ arcs, gI (rnds arcs n (zeros n)) q.1 + 1 ≤ gI (rnds arcs n (zeros n)) q.2 := by
  obtain ⟨r1, r2, r3⟩ := rnds_ok P n (zeros n) 0 (by simp [zeros]) (fun x x0 x1 => by rw [gI_zeros]; exact ⟨Int.le_refl _, (P.lo x x0 x1).1⟩) (fun q hq => .inr (by rw [gI_zeros]; exact Int.le_refl _))
  refine ⟨r1, fun x x0 x1 => ⟨(r2 x x0 x1).1, Int.le_trans (r2 x x0 x1).2 (P.lo x x0 x1).2⟩, fun q hq => ?_⟩
  rcases r3 q hq with z | z
  · exact z
  · obtain ⟨⟨a0, a1⟩, b0, b1⟩ := P.ar q hq
    have := (r2 q.1 a0 a1).2
    have := P.up q hq
    have := (P.lo q.2 b0 b1).2
    omega
def below (n : Nat) (f : Int → Int) (x : Int) : Int := (((List.range (n + 1)).filter fun i : Nat => decide (f i < f x)).length : Nat)
theorem filter_lt {P Q : Nat → Bool} : ∀ (xs : List Nat), (∀ i ∈ xs, P i = true → Q i = true) → (xs.filter P).length ≤ (xs.filter Q).length
  | [], _ => Nat.le_refl _
  | x :: xs, h => by
    have ih := filter_lt xs fun i hi => h i (List.mem_cons_of_mem _ hi)
    have hx := h x (List.mem_cons_self ..)
    rw [List.filter_cons, List.filter_cons]
    cases hP : P x with
    | true => rw [hx hP]; simp; exact ih
    | false => cases Q x <;> simp <;> omega
theorem filter_lt2 {P Q : Nat → Bool} {m : Nat} (hQ : Q m = true) (hP : P m = false) : ∀ (xs : List Nat), m ∈ xs → (∀ i ∈ xs, P i = true → Q i = true) → (xs.filter P).length + 1 ≤ (xs.filter Q).length
  | [], hm, _ => by cases hm
  | x :: xs, hm, h => by
    rw [List.filter_cons, List.filter_cons]
    by_cases e : x = m
    · subst e
      rw [hQ, hP]
      have := filter_lt xs fun i hi => h i (List.mem_cons_of_mem _ hi)
      simp
      exact this
    · have ih := filter_lt2 hQ hP xs ((List.mem_cons.mp hm).resolve_left fun z => e z.symm) fun i hi => h i (List.mem_cons_of_mem _ hi)
      have hx := h x (List.mem_cons_self ..)
      cases hPx : P x with
      | true => rw [hx hPx]; simp; exact ih
      | false => cases Q x <;> simp <;> omega
theorem below_pot {f : Int → Int} (ar : ∀ p ∈ arcs, (0 ≤ p.1 ∧ p.1 ≤ n) ∧ 0 ≤ p.2 ∧ p.2 ≤ n) (up : ∀ p ∈ arcs, f p.1 < f p.2) : Pot n arcs (below n f) := by
  refine ⟨ar, fun p hp => ?_, fun x x0 x1 => ⟨by unfold below; omega, ?_⟩⟩
  · obtain ⟨⟨a0, a1⟩, b0, b1⟩ := ar p hp
    have u := up p hp
    have := filter_lt2 (m := p.1.toNat) (P := fun i : Nat => decide (f i < f p.1)) (Q := fun i : Nat => decide (f i < f p.2)) (by rw [show ((p.1.toNat : Nat) : Int) = p.1 by omega]; exact decide_eq_true u) (by rw [show ((p.1.toNat : Nat) : Int) = p.1 by omega]; simp) (List.range (n + 1)) (List.mem_range.mpr (by omega)) (fun i _ hi => by
      rw [decide_eq_true_eq] at hi ⊢
      omega)
    unfold below
    omega
  · have := filter_lt2 (m := x.toNat) (P := fun i : Nat => decide (f i < f x)) (Q := fun _ => true) rfl (by rw [show ((x.toNat : Nat) : Int) = x by omega]; simp) (List.range (n + 1)) (List.mem_range.mpr (by omega)) (fun i _ _ => rfl)
    rw [show (List.range (n + 1)).filter (fun _ => true) = List.range (n + 1) from List.filter_eq_self.mpr fun _ _ => rfl, List.length_range] at this
    unfold below
    omega
end
theorem inD_ints {P : List Int} {m : Int} : inD (P.map .int) (.int m) = decide (m ∈ P) := by
  induction P with
  | nil => simp [inD]
  | cons x P ih =>
    have e : inD ((x :: P).map D.int) (.int m) = (deq (.int x) (.int m) || inD (P.map .int) (.int m)) := by simp [inD]
    rw [e, ih]
    show ((x == m) || decide (m ∈ P)) = _
    by_cases h : m = x
    · subst h; simp
    · have h' : ¬ x = m := fun z => h z.symm
      simp [h, h']
theorem in_ints {P : List Int} {m : Int} {S : Store} : opIn (.int m) (.lst (P.map .int)) S = .ok (.bl (decide (m ∈ P))) S := by
  rw [in_lst (shal_int _ _) (shal_ints P), inD_ints]
theorem nin_ints {P : List Int} {m : Int} {S : Store} : opNin (.int m) (.lst (P.map .int)) S = .ok (.bl (!decide (m ∈ P))) S := by
  rw [nin_lst (shal_int _ _) (shal_ints P), inD_ints]
def minutes (n : Nat) : List Int := (List.range n).map fun (i : Nat) => (i : Int)
def pairL (p : Int × Int) : D := .lst [.int p.1, .int p.2]
abbrev Row := List (Int × Int)
def waysF (F : List Row) (r : Row) : List Row := F.flatMap fun c => r.map fun l => c ++ [l]
def waysR (R : List Row) : List Row := R.foldl waysF [[]]
theorem waysF_len (F : List Row) (r : Row) : (waysF F r).length = F.length * r.length := by
  unfold waysF
  induction F with
  | nil => simp
  | cons c F ih => rw [List.flatMap_cons, List.length_append, ih, List.length_map, List.length_cons, Nat.succ_mul]; omega
theorem foldW_len (R : List Row) : ∀ F : List Row, (R.foldl waysF F).length = F.length * prodR R := by
  induction R with
  | nil => intro F; simp [prodR]
  | cons r R ih =>
    intro F
    rw [List.foldl_cons, ih, waysF_len, prodR, Nat.mul_assoc]
theorem waysR_len (R : List Row) : (waysR R).length = prodR R := by unfold waysR; rw [foldW_len]; simp
theorem mem_waysF {F : List Row} {r c : Row} : c ∈ waysF F r ↔ ∃ c0 ∈ F, ∃ l ∈ r, c = c0 ++ [l] := by
  unfold waysF
  rw [List.mem_flatMap]
  constructor
  · rintro ⟨c0, h0, h⟩
    obtain ⟨l, hl, rfl⟩ := List.mem_map.mp h
    exact ⟨c0, h0, l, hl, rfl⟩
  · rintro ⟨c0, h0, l, hl, rfl⟩
    exact ⟨c0, h0, List.mem_map.mpr ⟨l, hl, rfl⟩⟩
inductive Chosen : List Row → Row → Prop
  | nil : Chosen [] []
  | cons {r : Row} {R : List Row} {l : Int × Int} {c : Row} : l ∈ r → Chosen R c → Chosen (r :: R) (l :: c)
theorem mem_foldW (R : List Row) : ∀ (F : List Row) (c : Row), c ∈ R.foldl waysF F ↔ ∃ c0 ∈ F, ∃ c1, Chosen R c1 ∧ c = c0 ++ c1 := by
  induction R with
  | nil =>
    intro F c
    constructor
    · intro h; exact ⟨c, h, [], .nil, by simp⟩
    · rintro ⟨c0, h, c1, h1, rfl⟩
      cases h1
      simpa using h
  | cons r R ih =>
    intro F c
    rw [List.foldl_cons, ih]
    constructor
    · rintro ⟨c0, h, c1, h1, rfl⟩
      obtain ⟨c00, h0, l, hl, rfl⟩ := mem_waysF.mp h
      exact ⟨c00, h0, l :: c1, .cons hl h1, by simp⟩
    · rintro ⟨c0, h, c1, h1, rfl⟩
      cases h1 with
      | cons hl h2 => exact ⟨_, mem_waysF.mpr ⟨c0, h, _, hl, rfl⟩, _, h2, by simp⟩
theorem mem_waysR {R : List Row} {c : Row} : c ∈ waysR R ↔ Chosen R c := by
  unfold waysR
  rw [mem_foldW]
  constructor
  · rintro ⟨c0, h, c1, h1, rfl⟩
    rw [List.mem_singleton.mp h]
    exact h1
  · intro h
    exact ⟨[], by simp, c, h, rfl⟩
theorem Chosen.len {R : List Row} {c : Row} (h : Chosen R c) : c.length = R.length := by
  induction h with
  | nil => rfl
  | cons _ _ ih => rw [List.length_cons, List.length_cons, ih]
theorem Chosen.mem {R : List Row} {c : Row} (h : Chosen R c) : ∀ l ∈ c, ∃ r ∈ R, l ∈ r := by
  induction h with
  | nil => intro l hl; cases hl
  | cons h1 _ ih =>
    intro l hl
    rcases List.mem_cons.mp hl with rfl | m
    · exact ⟨_, List.mem_cons_self .., h1⟩
    · obtain ⟨r, hr, h⟩ := ih l m
      exact ⟨r, List.mem_cons_of_mem _ hr, h⟩
theorem chosen_ex {p : Int × Int → Prop} : ∀ {R : List Row}, (∀ r ∈ R, ∃ l ∈ r, p l) ↔ ∃ c, Chosen R c ∧ ∀ l ∈ c, p l
  | [] => ⟨fun _ => ⟨[], .nil, fun l h => by cases h⟩, fun _ r h => by cases h⟩
  | r :: R => by
    constructor
    · intro h
      obtain ⟨l, hl, hp⟩ := h r (List.mem_cons_self ..)
      obtain ⟨c, hc, hq⟩ := (chosen_ex (R := R)).mp fun q hq => h q (List.mem_cons_of_mem _ hq)
      refine ⟨l :: c, .cons hl hc, fun x hx => ?_⟩
      rcases List.mem_cons.mp hx with rfl | m
      · exact hp
      · exact hq x m
    · rintro ⟨c, hc, hp⟩ q hq
      cases hc with
      | cons hl hc2 =>
        rcases List.mem_cons.mp hq with rfl | m
        · exact ⟨_, hl, hp _ (List.mem_cons_self ..)⟩
        · exact (chosen_ex (R := R)).mpr ⟨_, hc2, fun l hl => hp l (List.mem_cons_of_mem _ hl)⟩ q m
theorem look_okD (k : Nat) (r : Row) (h : r.length ≤ 100000) : okD (k + 2) (looksD r) = true := by
  unfold looksD
  rw [okD_tup, Bool.and_eq_true, decide_eq_true_eq, List.length_map]
  exact ⟨h, List.all_eq_true.mpr fun d hd => by
    obtain ⟨p, _, rfl⟩ := List.mem_map.mp hd
    cases k <;> rfl⟩
theorem rows_okD (k : Nat) (R : List Row) (h : R.length ≤ 100000) (h2 : ∀ r ∈ R, r.length ≤ 100000) : okD (k + 3) (rowsD R) = true := by
  unfold rowsD
  rw [okD_tup, Bool.and_eq_true, decide_eq_true_eq, List.length_map]
  exact ⟨h, List.all_eq_true.mpr fun d hd => by
    obtain ⟨r, hr, rfl⟩ := List.mem_map.mp hd
    exact look_okD k r (h2 r hr)⟩
theorem case_okD (n a b : Int) (R : List Row) (h : R.length ≤ 100000) (h2 : ∀ r ∈ R, r.length ≤ 100000) : okD 10 (caseD n a b R) = true := by
  have e := rows_okD 6 R h h2
  unfold caseD
  rw [okD_tup, Bool.and_eq_true, decide_eq_true_eq]
  refine ⟨by simp, ?_⟩
  simp only [List.all_cons, List.all_nil, Bool.and_true, Bool.and_eq_true]
  exact ⟨rfl, rfl, e⟩
theorem tu_looks (k : Nat) (r : Row) : tuD (k + 2) (looksD r) = looksD r := by
  unfold looksD
  show D.tup ((r.map pairD).map (tuD (k + 1))) = _
  rw [List.map_map]
  congr 1
  exact List.map_congr_left fun p _ => by cases k <;> rfl
theorem tu_rows (k : Nat) (R : List Row) : tuD (k + 3) (rowsD R) = rowsD R := by
  unfold rowsD
  show D.tup ((R.map looksD).map (tuD (k + 2))) = _
  rw [List.map_map]
  congr 1
  exact List.map_congr_left fun r _ => tu_looks k r
theorem tu_case (n a b : Int) (R : List Row) : tuD 10 (caseD n a b R) = caseD n a b R := by
  show D.tup [.int n, .tup [.int a, .int b], tuD 9 (rowsD R)] = _
  rw [tu_rows 6 R]
  rfl
structure IsCase (C : D) (n a b : Int) (R : List Row) : Prop where
  tup : ∀ S, fPure (f_p_tupled 30) [C] S = .ok (caseD n a b R) S
  pure : pureD C = true
theorem isCase {n a b : Int} {R : List Row} (h : R.length ≤ 100000) (h2 : ∀ r ∈ R, r.length ≤ 100000) : IsCase (caseD n a b R) n a b R :=
  ⟨fun S => by rw [tupledP S (case_okD n a b R h h2) (by decide), tu_case], pure_case n a b R⟩
def looksL (r : Row) : D := .lst (r.map pairL)
def caseLD (n a b : Int) (R : List Row) : D := .lst [.int n, .lst [.int a, .int b], .lst (R.map looksL)]
theorem lookL_okD (k : Nat) (r : Row) (h : r.length ≤ 100000) : okD (k + 2) (looksL r) = true := by
  unfold looksL
  rw [okD_lst, Bool.and_eq_true, decide_eq_true_eq, List.length_map]
  exact ⟨h, List.all_eq_true.mpr fun d hd => by
    obtain ⟨p, _, rfl⟩ := List.mem_map.mp hd
    cases k <;> rfl⟩
theorem caseL_okD (n a b : Int) (R : List Row) (h : R.length ≤ 100000) (h2 : ∀ r ∈ R, r.length ≤ 100000) : okD 10 (caseLD n a b R) = true := by
  have e : okD 9 (.lst (R.map looksL)) = true := by
    rw [okD_lst, Bool.and_eq_true, decide_eq_true_eq, List.length_map]
    exact ⟨h, List.all_eq_true.mpr fun d hd => by
      obtain ⟨r, hr, rfl⟩ := List.mem_map.mp hd
      exact lookL_okD 6 r (h2 r hr)⟩
  unfold caseLD
  rw [okD_lst, Bool.and_eq_true, decide_eq_true_eq]
  refine ⟨by simp, ?_⟩
  simp only [List.all_cons, List.all_nil, Bool.and_true, Bool.and_eq_true]
  exact ⟨rfl, rfl, e⟩
theorem tu_looksL (k : Nat) (r : Row) : tuD (k + 2) (looksL r) = looksD r := by
  unfold looksL looksD
  show D.tup ((r.map pairL).map (tuD (k + 1))) = _
  rw [List.map_map]
  congr 1
  exact List.map_congr_left fun p _ => by cases k <;> rfl
theorem tu_caseL (n a b : Int) (R : List Row) : tuD 10 (caseLD n a b R) = caseD n a b R := by
  show D.tup [.int n, .tup [.int a, .int b], .tup ((R.map looksL).map (tuD 8))] = _
  rw [List.map_map]
  have e : R.map (tuD 8 ∘ looksL) = R.map looksD := List.map_congr_left fun r _ => tu_looksL 6 r
  rw [e]
  rfl
theorem isCaseL {n a b : Int} {R : List Row} (h : R.length ≤ 100000) (h2 : ∀ r ∈ R, r.length ≤ 100000) : IsCase (caseLD n a b R) n a b R :=
  ⟨fun S => by rw [tupledP S (caseL_okD n a b R h h2) (by decide), tu_caseL], okD_pure _ _ (caseL_okD n a b R h h2)⟩
theorem star_choice (c : Row) (l : Int × Int) (S : Store) : D.tup (c.map pairD ++ [pairD l]) = looksD (c ++ [l]) := by
  unfold looksD
  rw [List.map_append]
  rfl
theorem lc2_ways {v0 v1 v2 v4 : Option D} {r : Row} : ∀ (F : List Row) (n : Nat) (S : Store), (∀ c ∈ F, c.length ≤ 1000) → r.length ≤ 1000 → n + r.length * F.length ≤ 100000 →
    lcL2 (mgN 5) mYes (mItems (mVar 3)) (mgN 6) mYes (mTup (mStar (mVar 5) (mCons (mVar 6) mNil))) [6] [v0, v1, v2, some (looksD r), v4, none, none] (F.map looksD) n S = .ok ((waysF F r).map looksD) S
  | [], n, S, _, _, _ => rfl
  | c :: F, n, S, hF, h, hn => by
    have hcl := hF c (List.mem_cons_self ..)
    rw [List.length_cons, Nat.mul_succ] at hn
    have ih := lc2_ways (v0 := v0) (v1 := v1) (v2 := v2) (v4 := v4) (r := r) F (n + (r.map pairD).length) S (fun c hc => hF c (List.mem_cons_of_mem _ hc)) h (by rw [List.length_map]; omega)
    have lc : lcL (mgN 6) mYes (mTup (mStar (mVar 5) (mCons (mVar 6) mNil))) [v0, v1, v2, some (looksD r), v4, some (looksD c), none] (r.map pairD) S = .ok (r.map fun l => looksD (c ++ [l])) S :=
      lcL_mapx (u := pairD) (w := fun l => looksD (c ++ [l])) r S fun l _ => ⟨[v0, v1, v2, some (looksD r), v4, some (looksD c), some (pairD l)], rfl, by
        rw [← star_choice c l S]
        unfold looksD
        generalize pairD l = pl at *
        simp -implicitDefEqProofs
        omega⟩
    have hc : n + (r.map pairD).length ≤ 100000 := by rw [List.length_map]; omega
    rw [List.map_cons]
    unfold lcL2
    have g0 : mgN 5 (looksD c) [v0, v1, v2, some (looksD r), v4, none, none] S = .ok [v0, v1, v2, some (looksD r), v4, some (looksD c), none] S := rfl
    rw [g0, bind_ok]
    have hz : (r.map pairD).length ≤ 100000 := by omega
    have it : mItems (mVar 3) [v0, v1, v2, some (looksD r), v4, some (looksD c), none] S = .ok (r.map pairD) S := by
      unfold looksD
      generalize r.map pairD = MP at *
      simp -implicitDefEqProofs [hz]
    have wpe : wp [v0, v1, v2, some (looksD r), v4, some (looksD c), none] [6] = [v0, v1, v2, some (looksD r), v4, some (looksD c), none] := rfl
    have e : waysF (c :: F) r = (r.map fun l => c ++ [l]) ++ waysF F r := rfl
    have e2 : (r.map fun l => looksD (c ++ [l])) = (r.map fun l => c ++ [l]).map looksD := by rw [List.map_map]; rfl
    simp only [ap_yes, bind_ok]
    rw [it, bind_ok, if_pos hc, wpe, lc, bind_ok, ih, bind_ok, e, List.map_append, e2]
theorem prod_pos : ∀ {R : List Row}, (∀ r ∈ R, r ≠ []) → 0 < prodR R
  | [], _ => by decide
  | r :: R, h => Nat.mul_pos (List.length_pos_iff.mpr (h r (List.mem_cons_self ..))) (prod_pos fun q hq => h q (List.mem_cons_of_mem _ hq))
def mCh1 : MS := (mSeq (mAugM 2 (mCall fLen (mCons (mVar 3) mNil))) (mIf (mTB (mOp opGt (mVar 2) (mC (.int 64)))) (mRaise 11) mSkip))
def mCh2 : MS := (mAsg (mLc2 (mItems (mVar 4)) (mgN 5) mYes (mItems (mVar 3)) (mgN 6) mYes (mTup (mStar (mVar 5) (mCons (mVar 6) mNil))) [5, 6] [6]) (mgN 4))
theorem ch1_loop {v0 v1 v4 v5 v6 : Option D} {S : Store} : ∀ (R : List Row) (m : Nat) (v3 : Option D), (∀ r ∈ R, r ≠ []) → 0 < m → m * prodR R ≤ 64 → ∃ w3,
    forL (mgN 3) mCh1 (R.map looksD) [v0, v1, some (.int (m : Nat)), v3, v4, v5, v6] S = .ok (.nx [v0, v1, some (.int (m * prodR R : Nat)), w3, v4, v5, v6]) S
  | [], m, v3, _, _, _ => ⟨v3, by rw [show m * prodR [] = m from Nat.mul_one m]; rfl⟩
  | r :: R, m, v3, h, hm, hw => by
    have hr := List.length_pos_iff.mpr (h r (List.mem_cons_self ..))
    have hp := prod_pos fun q hq => h q (List.mem_cons_of_mem _ hq)
    have e : m * prodR (r :: R) = m * r.length * prodR R := by show m * (r.length * prodR R) = _; rw [Nat.mul_assoc]
    rw [e] at hw ⊢
    have b1 : m * r.length ≤ 64 := Nat.le_trans (Nat.le_mul_of_pos_right _ hp) hw
    have b2 : m ≤ 64 := Nat.le_trans (Nat.le_mul_of_pos_right _ hr) b1
    obtain ⟨w3, ih⟩ := ch1_loop (v0 := v0) (v1 := v1) (v4 := v4) (v5 := v5) (v6 := v6) (S := S) R (m * r.length) (some (looksD r)) (fun q hq => h q (List.mem_cons_of_mem _ hq)) (Nat.mul_pos hm hr) hw
    refine ⟨w3, ?_⟩
    have ln : ∀ S, fLen [looksD r] S = .ok (.int (r.length : Nat)) S := fun S => by unfold looksD; simp
    have hn : ((m : Nat) : Int).natAbs < 2 ^ 64 := by omega
    have gt : ∀ S, opGt (.int ((m * r.length : Nat) : Int)) (.int 64) S = .ok (.bl false) S := fun S => by
      show Res.ok (D.bl (decide (((m * r.length : Nat) : Int) > 64))) S = _
      rw [decide_eq_false (by omega)]
    have eb : mCh1 [v0, v1, some (.int (m : Nat)), some (looksD r), v4, v5, v6] S = .ok (.nx [v0, v1, some (.int (m * r.length : Nat)), some (looksD r), v4, v5, v6]) S := by
      unfold mCh1
      rw [ap_seq, ap_augM (i := 2) (x := (m : Nat)) rfl]
      generalize looksD r = L at *
      have e3 : ((m : Nat) : Int) * ((r.length : Nat) : Int) = ((m * r.length : Nat) : Int) := by omega
      have au : ∀ ρ S, augMK 2 ρ (m : Nat) (.int (r.length : Nat)) S = .ok (.nx (ρ.set 2 (some (.int (m * r.length : Nat))))) S := fun ρ S => by rw [augMK_int _ _ _ hn, e3]
      generalize ((m * r.length : Nat) : Int) = z at *
      simp -implicitDefEqProofs [ln, au, gt]
    rw [List.map_cons, forL_cons, ← ih]
    have g0 : mgN 3 (looksD r) [v0, v1, some (.int (m : Nat)), v3, v4, v5, v6] S = .ok [v0, v1, some (.int (m : Nat)), some (looksD r), v4, v5, v6] S := rfl
    rw [g0, bind_ok]
    show (mCh1 _ S).bind (forK _) = _
    rw [eb, bind_ok, forK_nx]
theorem ch2_loop {v0 v1 v2 : Option D} {S : Store} : ∀ (R : List Row) (F : List Row) (v3 : Option D), (∀ c ∈ F, c.length + R.length ≤ 1000) → (∀ r ∈ R, r ≠ [] ∧ r.length ≤ 64) → F.length * prodR R ≤ 64 → ∃ w3,
    forL (mgN 3) mCh2 (R.map looksD) [v0, v1, v2, v3, some (.lst (F.map looksD)), none, none] S = .ok (.nx [v0, v1, v2, w3, some (.lst ((R.foldl waysF F).map looksD)), none, none]) S
  | [], F, v3, _, _, _ => ⟨v3, rfl⟩
  | r :: R, F, v3, hF, h, hw => by
    have hr := h r (List.mem_cons_self ..)
    have hp := prod_pos fun q hq => (h q (List.mem_cons_of_mem _ hq)).1
    have e : F.length * prodR (r :: R) = F.length * r.length * prodR R := by show _ * (r.length * prodR R) = _; rw [Nat.mul_assoc]
    rw [e, ← waysF_len] at hw
    have b1 : (waysF F r).length ≤ 64 := Nat.le_trans (Nat.le_mul_of_pos_right _ hp) hw
    have b3 : F.length ≤ 64 := Nat.le_trans (Nat.le_mul_of_pos_right _ (List.length_pos_iff.mpr hr.1)) (by rw [waysF_len] at b1; exact b1)
    obtain ⟨w3, ih⟩ := ch2_loop (v0 := v0) (v1 := v1) (v2 := v2) (S := S) R (waysF F r) (some (looksD r)) (fun c hc => by
      obtain ⟨c0, h0, l, _, rfl⟩ := mem_waysF.mp hc
      have := hF c0 h0
      simp only [List.length_cons, List.length_append, List.length_nil] at this ⊢
      omega) (fun q hq => h q (List.mem_cons_of_mem _ hq)) hw
    refine ⟨w3, ?_⟩
    have b4 : r.length * F.length ≤ 64 * 64 := Nat.mul_le_mul hr.2 b3
    have l2 := lc2K_ok (vs := [5, 6]) (ρ := [v0, v1, v2, some (looksD r), some (.lst (F.map looksD)), none, none]) (lc2_ways (v0 := v0) (v1 := v1) (v2 := v2) (v4 := some (.lst (F.map looksD))) (r := r) F 0 S (fun c hc => by have := hF c hc; omega) (by omega) (by omega))
    have hz : (F.map looksD).length ≤ 100000 := by rw [List.length_map]; omega
    have eb : mCh2 [v0, v1, v2, some (looksD r), some (.lst (F.map looksD)), none, none] S = .ok (.nx [v0, v1, v2, some (looksD r), some (.lst ((waysF F r).map looksD)), none, none]) S := by
      unfold mCh2
      generalize looksD r = L at *
      generalize (waysF F r).map looksD = Z at *
      generalize F.map looksD = X at *
      simp -implicitDefEqProofs [hz, l2]
    rw [List.map_cons, forL_cons, List.foldl_cons, ← ih]
    have g0 : mgN 3 (looksD r) [v0, v1, v2, v3, some (.lst (F.map looksD)), none, none] S = .ok [v0, v1, v2, some (looksD r), some (.lst (F.map looksD)), none, none] S := rfl
    rw [g0, bind_ok]
    show (mCh2 _ S).bind (forK _) = _
    rw [eb, bind_ok, forK_nx]
section
variable {n a b s e : Int} {R : List Row} {C : D}
theorem choicesP (hC : IsCase C n a b R) (h : ∀ r ∈ R, r ≠ [] ∧ r.length ≤ 64) (hl : R.length ≤ 1000) (hw : prodR R ≤ 64) (S : Store) : fPure f_p_choices [C] S = .ok (.lst ((waysR R).map looksD)) S := by
  have pc := hC.pure
  have pw : pureD (.lst ((waysR R).map looksD)) = true := pureL_map (fun r => pure_looks r) _
  refine fPure_ap S (by simp only [pureL_cons, pc, pureL_nil]; rfl) ?_
  have tp := hC.tup
  have i2 : ∀ S, opIx (caseD n a b R) (.int 2) S = .ok (rowsD R) S := fun S => rfl
  have l1 := fun v0 v1 v3 v4 v5 v6 S => ch1_loop (v0 := v0) (v1 := v1) (v4 := v4) (v5 := v5) (v6 := v6) (S := S) R 1 v3 (fun r hr => (h r hr).1) (by decide) (by omega)
  have l2 := fun v0 v1 v2 v3 S => ch2_loop (v0 := v0) (v1 := v1) (v2 := v2) (S := S) R [[]] v3 (fun c hc => by rw [List.mem_singleton.mp hc]; simp; omega) h (by simpa using hw)
  have lz : (R.map looksD).length ≤ 100000 := by rw [List.length_map]; omega
  have e0 : [looksD []] = ([[]] : List Row).map looksD := rfl
  have e1 : looksD [] = .tup [] := rfl
  rw [show R.foldl waysF [[]] = waysR R from rfl] at l2
  unfold f_p_choices m_p_choices
  rw [fnM_1]
  show endM _ (mSeq _ (mSeq (mFor _ _ mCh1) (mSeq _ (mSeq (mFor _ _ mCh2) _))) _ _) = _
  generalize mCh1 = M1 at *
  generalize mCh2 = M2 at *
  obtain ⟨w3, l1⟩ := l1 (some C) (some (rowsD R)) none none none none []
  obtain ⟨w4, l2⟩ := l2 (some C) (some (rowsD R)) (some (.int ((1 * prodR R : Nat) : Int))) w3 []
  rw [← e0, e1] at l2
  have e3 : rowsD R = .tup (R.map looksD) := rfl
  have it : ∀ S, itemsOf (rowsD R) S = .ok (R.map looksD) S := fun S => by
    rw [e3]
    generalize R.map looksD = X at *
    simp -implicitDefEqProofs [lz]
  generalize R.map looksD = X at *
  generalize rowsD R = RD at *
  generalize (waysR R).map looksD = W at *
  generalize caseD n a b R = CD at *
  have l1' : forL (mgN 3) M1 X [some C, some RD, some (.int 1), none, none, none, none] [] = _ := l1
  generalize ((1 * prodR R : Nat) : Int) = pz at *
  simp -implicitDefEqProofs [tp, i2, it, l1', l2, fin_nil pw]
theorem tup_choice (c : Row) (h : c.length ≤ 100000) (S : Store) : fPure (f_p_tupled 30) [looksD c] S = .ok (looksD c) S := by
  rw [tupledP S (look_okD 0 c h) (by decide), tu_looks]
end
section
variable {n a b s e : Int} {R : List Row} {C : D}
theorem choicesX (hC : IsCase C n a b R) (h : ∀ r ∈ R, r ≠ [] ∧ r.length ≤ 64) (hl : R.length ≤ 1000) (hw : prodR R ≤ 64) (S : Store) : fPureX g_p_choices [C] S = .ok (.lst ((waysR R).map looksD)) S := fPX_of (nN := 7) (nP := 1) (n := m_p_choices) (choicesP hC h hl hw [])
end
theorem pure_pairs (ps : List (Int × Int)) : pureL (ps.map pairD) = true := pureL_map (fun _ => rfl) ps
def dayD (n a b : Int) (qs ls : List (Int × Int)) : D := .tup [.int n, .tup [.int a, .int b], looksD qs, looksD ls]
structure IsDay (X : D) (n a b : Int) (qs ls : List (Int × Int)) : Prop where
  tup : ∀ S, fPure (f_p_tupled 30) [X] S = .ok (dayD n a b qs ls) S
  pure : pureD X = true
theorem ok_pairs (k : Nat) (ps : List (Int × Int)) : (ps.map pairD).all (okD (k + 1)) = true := by
  rw [List.all_map, List.all_eq_true]
  exact fun x _ => by show okD (k + 1) (pairD x) = true; cases k <;> rfl
section
variable {n a b : Int} {qs ls : List (Int × Int)}
theorem day_okD (h1 : qs.length ≤ 1000) (h2 : ls.length ≤ 1000) : okD 5 (dayD n a b qs ls) = true := by
  have e1 := ok_pairs 2 qs
  have e2 := ok_pairs 2 ls
  have l1 : (qs.map pairD).length ≤ 100000 := by simp; omega
  have l2 : (ls.map pairD).length ≤ 100000 := by simp; omega
  unfold dayD looksD
  generalize qs.map pairD = P at *
  generalize ls.map pairD = Q at *
  simp [okD_tup, e1, e2, l1, l2]
theorem tu_pairs (ps : List (Int × Int)) : (ps.map pairD).map (tuD 3) = ps.map pairD := by
  rw [List.map_map]
  exact List.map_congr_left fun p _ => rfl
theorem tu_day : tuD 5 (dayD n a b qs ls) = dayD n a b qs ls := by
  show D.tup [.int n, .tup [.int a, .int b], .tup ((qs.map pairD).map (tuD 3)), .tup ((ls.map pairD).map (tuD 3))] = _
  rw [tu_pairs, tu_pairs]
  rfl
theorem isDay (h1 : qs.length ≤ 1000) (h2 : ls.length ≤ 1000) : IsDay (dayD n a b qs ls) n a b qs ls := ⟨fun S => by rw [tupledP S (day_okD h1 h2) (by decide), tu_day], okD_pure _ _ (day_okD h1 h2)⟩
end
def swp (p : Int × Int) : Int × Int := (p.2, p.1)
def arcsL (qs ls : List (Int × Int)) : List (Int × Int) := qs.map swp ++ ls
def arcsD (arcs : List (Int × Int)) : D := .lst (arcs.map pairD)
theorem pure_arcs (arcs : List (Int × Int)) : pureD (arcsD arcs) = true := pure_pairs arcs
section
variable {n a b : Int} {qs ls arcs : List (Int × Int)} {X : D}
theorem arcsP (hX : IsDay X n a b qs ls) (h1 : qs.length ≤ 1000) (h2 : ls.length ≤ 1000) (S : Store) : fPure f_p_arcs_of [X] S = .ok (arcsD (arcsL qs ls)) S := by
  have px := hX.pure
  refine fPure_ap S (by simp [px]) ?_
  have t1 := hX.tup
  have c1 : ∀ v0 v1 v2 v3 v4 v7 S, lcL (mgTup 2 (mgCons (mgN 5) (mgCons (mgN 6) mgNil))) mYes (mTup (mCons (mVar 6) (mCons (mVar 5) mNil))) [v0, v1, v2, v3, v4, none, none, v7] (qs.map pairD) S = .ok ((qs.map swp).map pairD) S := fun v0 v1 v2 v3 v4 v7 S => by
    rw [List.map_map]
    exact lcL_mapx _ S fun r hr => ⟨[v0, v1, v2, v3, v4, some (.int r.1), some (.int r.2), v7], by simp [pairD], by simp [pairD, swp]⟩
  have c2 : ∀ v0 v1 v2 v3 v4 v5 v6 S, lcL (mgN 7) mYes (mVar 7) [v0, v1, v2, v3, v4, v5, v6, none] (ls.map pairD) S = .ok (ls.map pairD) S := fun v0 v1 v2 v3 v4 v5 v6 S =>
    lcL_mapx _ S fun r hr => ⟨[v0, v1, v2, v3, v4, v5, v6, some (pairD r)], rfl, by simp⟩
  have z1 : (qs.map pairD).length ≤ 1000 := by simp; omega
  have z2 : (ls.map pairD).length ≤ 1000 := by simp; omega
  have z3 : ((qs.map swp).map pairD).length ≤ 1000 := by simp; omega
  have w1 : (qs.map pairD).length ≤ 100000 := by omega
  have w2 : (ls.map pairD).length ≤ 100000 := by omega
  have w3 : ((qs.map swp).map pairD).length + (ls.map pairD).length ≤ 100000 := by omega
  have pl1 := pure_pairs (qs.map swp)
  have pl2 := pure_pairs ls
  unfold arcsD arcsL
  rw [List.map_append]
  unfold dayD looksD at t1
  generalize (qs.map swp).map pairD = Z at *
  generalize qs.map pairD = P at *
  generalize ls.map pairD = Q at *
  unfold f_p_arcs_of m_p_arcs_of
  rw [fnM_1]
  simp -implicitDefEqProofs [t1, w1, w2, w3, c1, c2, fin_nil, pl1, pl2]
theorem stuck_nil {m : Nat} {c : Int → Int} {left : List (Int × Int)} (P : Pot m arcs c) (hs : ∀ p ∈ left, p ∈ arcs) (hf : ∀ p ∈ left, ∃ q ∈ left, q.2 = p.1) : left = [] := by
  have key : ∀ k : Nat, ∀ p ∈ left, ¬ c p.1 < (k : Int) := by
    intro k
    induction k with
    | zero =>
      intro p hp h
      obtain ⟨⟨a0, a1⟩, _⟩ := P.ar p (hs p hp)
      have := (P.lo p.1 a0 a1).1
      omega
    | succ k ih =>
      intro p hp h
      obtain ⟨q, hq, e⟩ := hf p hp
      have := P.up q (hs q hq)
      rw [e] at this
      exact ih q hq (by omega)
  cases left with
  | nil => rfl
  | cons p left =>
    exact absurd (show c p.1 < ((c p.1).toNat + 1 : Nat) by omega) (key _ p (List.mem_cons_self ..))
def mTu : MS := (mSeq (mAsg (mCall fLen (mCons (mVar 1) mNil)) (mgN 2))
  (mSeq (mAsg (mLc (mItems (mVar 1)) (mgTup 2 (mgCons (mgN 4) (mgCons (mgN 5) mgNil))) mYes (mVar 5) [4, 5]) (mgN 3))
  (mAsg (mLc (mItems (mVar 1)) (mgN 6) (mTB (mOp opIn (mOp opIx (mVar 6) (mC (.int 0))) (mVar 3))) (mVar 6) [6]) (mgN 1))))
def kept (left : List (Int × Int)) : List (Int × Int) := left.filter fun p => decide (p.1 ∈ left.map (·.2))
theorem tu_step {A : D} {v2 v3 : Option D} {left : List (Int × Int)} (hl : left.length ≤ 1000) (S : Store) :
    mTu [some A, some (arcsD left), v2, v3, none, none, none] S = .ok (.nx [some A, some (arcsD (kept left)), some (.int (left.length : Nat)), some (.lst ((left.map (·.2)).map .int)), none, none, none]) S := by
  have z1 : (left.map pairD).length ≤ 100000 := by simp; omega
  have ll : (((left.map pairD).length : Nat) : Int) = ((left.length : Nat) : Int) := by rw [List.length_map]
  have c1 : ∀ v0 v1 v2 v3 v6 S, lcL (mgTup 2 (mgCons (mgN 4) (mgCons (mgN 5) mgNil))) mYes (mVar 5) [v0, v1, v2, v3, none, none, v6] (left.map pairD) S = .ok ((left.map (·.2)).map .int) S := fun v0 v1 v2 v3 v6 S => by
    rw [List.map_map]
    exact lcL_mapx _ S fun r hr => ⟨[v0, v1, v2, v3, some (.int r.1), some (.int r.2), v6], by simp [pairD], by simp⟩
  have c2 : ∀ v0 v1 v2 v4 v5 S, lcL (mgN 6) (mTB (mOp opIn (mOp opIx (mVar 6) (mC (.int 0))) (mVar 3))) (mVar 6) [v0, v1, v2, some (.lst ((left.map (·.2)).map .int)), v4, v5, none] (left.map pairD) S = .ok ((kept left).map pairD) S := fun v0 v1 v2 v4 v5 S => by
    refine lcL_filterb left S fun p hp => ⟨[v0, v1, v2, some (.lst ((left.map (·.2)).map .int)), v4, v5, some (pairD p)], rfl, ?_, by simp⟩
    have i0 : opIx (pairD p) (.int 0) S = .ok (.int p.1) S := rfl
    have il := in_ints (P := left.map (·.2)) (m := p.1) (S := S)
    generalize (left.map (·.2)).map D.int = Z at *
    generalize pairD p = W at *
    simp [i0, il]
  unfold arcsD
  generalize (left.map (·.2)).map D.int = Z at *
  generalize (kept left).map pairD = K at *
  generalize left.map pairD = L at *
  unfold mTu
  simp -implicitDefEqProofs [ll, z1, c1, c2]
theorem turningP {m : Nat} {c : Int → Int} (P : Pot m arcs c) (hl : arcs.length ≤ 500) (S : Store) : fPure f_p_turning [arcsD arcs] S = .ok (arcsD []) S := by
  have pa := pure_arcs arcs
  refine fPure_ap S (by simp [pa]) ?_
  have z1 : (arcs.map pairD).length = arcs.length := List.length_map _
  have wh : (whileF (mTB (mOp opLt (mCall fLen (mCons (mVar 1) mNil)) (mVar 2))) mTu 1000 [some (arcsD arcs), some (arcsD arcs), some (.int ((arcs.length : Nat) + 1)), none, none, none, none] []).Sat fun f S' => (∃ v2 v3, f = .nx [some (arcsD arcs), some (arcsD []), v2, v3, none, none, none]) ∧ S' = [] := by
    refine whileF_sat (fun k ρ S' => S' = [] ∧ ∃ (left : List (Int × Int)) (v3 : Option D), ρ = [some (arcsD arcs), some (arcsD left), some (.int (k : Nat)), v3, none, none, none] ∧ left.length ≤ 500 ∧ (∀ p ∈ left, p ∈ arcs) ∧ (k ≤ left.length → ∀ p ∈ left, ∃ q ∈ left, q.2 = p.1)) ?_ 1000 (arcs.length + 1) _ _ (by omega) ⟨rfl, arcs, none, by simp, hl, fun p h => h, fun h => by omega⟩
    rintro k ρ S' ⟨rfl, left, v3, rfl, l5, ls, lk⟩
    have ll : (((left.map pairD).length : Nat) : Int) = ((left.length : Nat) : Int) := by rw [List.length_map]
    have lenL : fLen [arcsD left] [] = .ok (.int ((left.length : Nat) : Int)) [] := by
      show Res.ok (D.int (((left.map pairD).length : Nat) : Int)) [] = _
      rw [ll]
    by_cases h : left.length < k
    · have st := tu_step (A := arcsD arcs) (v2 := some (.int (k : Nat))) (v3 := v3) (left := left) (by omega) []
      have hlt : ((left.length : Nat) : Int) < ((k : Nat) : Int) := by omega
      have goal : (mTu [some (arcsD arcs), some (arcsD left), some (.int (k : Nat)), v3, none, none, none] []).Sat (Turn (fun ρ' S' => ∃ m, m < k ∧ S' = [] ∧ ∃ (left : List (Int × Int)) (v3 : Option D), ρ' = [some (arcsD arcs), some (arcsD left), some (.int (m : Nat)), v3, none, none, none] ∧ left.length ≤ 500 ∧ (∀ p ∈ left, p ∈ arcs) ∧ (m ≤ left.length → ∀ p ∈ left, ∃ q ∈ left, q.2 = p.1)) fun f S' => (∃ v2 v3, f = .nx [some (arcsD arcs), some (arcsD []), v2, v3, none, none, none]) ∧ S' = []) := by
        refine sat_of st ?_
        rw [turn_nx]
        have kl : (kept left).length ≤ left.length := List.length_filter_le _ _
        refine ⟨left.length, h, rfl, kept left, _, rfl, by omega, fun p hp => ls p (List.mem_filter.mp hp).1, fun hk p hp => ?_⟩
        have same : kept left = left := by
          have : (kept left).length = left.length := by omega
          exact (List.filter_sublist (l := left)).eq_of_length this
        rw [same] at hp ⊢
        have hp2 : p ∈ kept left := by rw [same]; exact hp
        have := (List.mem_filter.mp hp2).2
        rw [decide_eq_true_eq] at this
        obtain ⟨q, hq, e⟩ := List.mem_map.mp this
        exact ⟨q, hq, e⟩
      have te : (mTB (mOp opLt (mCall fLen (mCons (mVar 1) mNil)) (mVar 2))) [some (arcsD arcs), some (arcsD left), some (.int (k : Nat)), v3, none, none, none] [] = .ok true [] := by
        generalize arcsD left = LD at *
        simp [lenL, hlt]
      exact sat_of te goal
    · have e : left = [] := stuck_nil P ls (lk (by omega))
      have hlt : ¬ ((left.length : Nat) : Int) < ((k : Nat) : Int) := by omega
      have te : (mTB (mOp opLt (mCall fLen (mCons (mVar 1) mNil)) (mVar 2))) [some (arcsD arcs), some (arcsD left), some (.int (k : Nat)), v3, none, none, none] [] = .ok false [] := by
        generalize arcsD left = LD at *
        simp [lenL, hlt]
      refine sat_of te ?_
      subst e
      exact ⟨⟨_, _, rfl⟩, rfl⟩
  have hlen : fLen [arcsD arcs] [] = .ok (.int ((arcs.length : Nat) : Int)) [] := by
    show Res.ok (D.int (((arcs.map pairD).length : Nat) : Int)) [] = _
    rw [z1]
  obtain ⟨f, S2, e, ⟨v2, v3, rfl⟩, rfl⟩ := sat_eq wh
  have p0 := pure_arcs []
  unfold f_p_turning m_p_turning
  rw [fnM_1]
  show endM 0 ((mSeq _ (mSeq (mWhile _ _ mTu) _)) _ _) = _
  generalize mTu = TU at *
  generalize arcsD arcs = A at *
  generalize arcsD [] = B at *
  simp -implicitDefEqProofs [hlen, e, fin_nil, p0]
theorem ringP {m : Nat} {c : Int → Int} (hX : IsDay X n a b qs ls) (P : Pot m (arcsL qs ls) c) (h1 : qs.length ≤ 200) (h2 : ls.length ≤ 200) (S : Store) : fPure f_p_ring [X] S = .ok .non S := by
  have px := hX.pure
  refine fPure_ap S (by simp [px]) ?_
  have ar := fun S => arcsP hX (by omega) (by omega) S
  have tu := fun S => turningP P (by simp [arcsL]; omega) S
  have it : ∀ S, itemsOf (arcsD []) S = .ok [] S := fun S => rfl
  generalize arcsD [] = B at *
  generalize arcsD (arcsL qs ls) = A at *
  unfold f_p_ring m_p_ring
  rw [fnM_1]
  simp -implicitDefEqProofs [ar, tu, it, forL_nil, fin_nil]
theorem checkP {m : Nat} {c : Int → Int} (hX : IsDay X n a b qs ls) (P : Pot m (arcsL qs ls) c) (h1 : qs.length ≤ 200) (h2 : ls.length ≤ 200) (S : Store) : fPure f_p_check [X] S = .ok .non S := by
  have px := hX.pure
  refine fPure_ap S (by simp [px]) ?_
  have ri := fun S => ringP hX P h1 h2 S
  unfold f_p_check m_p_check
  rw [fnM_1]
  simp -implicitDefEqProofs [ri, fin_nil]
end
theorem cut_suf (xs : List D) (m : Nat) : cutD xs (some (m : Int)) none = xs.drop m := by
  unfold cutD
  rw [HT.sIx_none, HT.sIx_nat]
  by_cases h : m ≤ xs.length
  · rw [Nat.min_eq_left h, List.take_of_length_le (by rw [List.length_drop]; omega)]
  · rw [Nat.min_eq_right (by omega), List.drop_of_length_le (Nat.le_refl _), List.drop_of_length_le (by omega)]
    simp
theorem max2_int (i j : Int) (S : Store) : fMax2 [.int i, .int j] S = .ok (.int (max i j)) S := by
  show Res.ok (D.int (if j > i then j else i)) S = _
  congr 2
  split
  · rw [Int.max_eq_right (by omega)]
  · rw [Int.max_eq_left (by omega)]
theorem setIx_ok {S : Store} {j i : Nat} {xs : List D} (h : S[j]? = some (.lst xs)) (hi : i < xs.length) (d : D) : setIx (.ref j) (.int (i : Nat)) d S = .ok () (S.set j (.lst (xs.set i d))) := by
  have e : ixN xs.length (i : Nat) = some i := by
    unfold ixN
    rw [if_pos (by omega), if_pos (by omega)]
    simp
  unfold setIx
  simp only [h, e]
theorem gI_at {h : List Int} {i : Int} (h0 : 0 ≤ i) (h1 : i < h.length) : atI (h.map D.int) i = some (.int (gI h i)) := by
  obtain ⟨k, rfl⟩ := toN h0
  have hk : k < h.length := by omega
  rw [atI_get (x := D.int h[k]) (by rw [List.getElem?_map, List.getElem?_eq_getElem hk]; rfl)]
  unfold gI
  rw [List.getD_eq_getElem?_getD, Int.toNat_natCast, List.getElem?_eq_getElem hk]
  rfl
theorem gI_ref {S : Store} {j : Nat} {h : List Int} {i : Int} (g : S[j]? = some (.lst (h.map .int))) (h0 : 0 ≤ i) (h1 : i < h.length) : opIx (.ref j) (.int i) S = .ok (.int (gI h i)) S := by
  rw [ix_refD _ g, gI_at h0 h1]
  rfl
theorem relax_map (h : List Int) (p : Int × Int) : (relax h p).map D.int = (h.map D.int).set p.2.toNat (.int (max (gI h p.2) (gI h p.1 + 1))) := by
  unfold relax
  rw [List.map_set]
def mRk : MS := (mAsg (mCall fMax2 (mCons (mOp opIx (mVar 2) (mVar 5)) (mCons (mOp opAdd (mOp opIx (mVar 2) (mVar 4)) (mC (.int 1))) mNil))) (mgSub (mVar 2) (mVar 5)))
section
variable {n : Nat} {a b : Int} {qs ls arcs : List (Int × Int)} {X : D}
theorem rk_inner {A N : D} {v3 : Option D} : ∀ (L : List (Int × Int)) (h : List Int) (v4 v5 : Option D), h.length = n + 1 → (∀ p ∈ L, (0 ≤ p.1 ∧ p.1 ≤ n) ∧ 0 ≤ p.2 ∧ p.2 ≤ (n : Int)) →
    ∃ w4 w5, forL (mgTup 2 (mgCons (mgN 4) (mgCons (mgN 5) mgNil))) mRk (L.map pairD) [some N, some A, some (.ref 0), v3, v4, v5] [.lst (h.map .int)] = .ok (.nx [some N, some A, some (.ref 0), v3, w4, w5]) [.lst ((L.foldl relax h).map .int)]
  | [], h, v4, v5, _, _ => ⟨v4, v5, rfl⟩
  | p :: L, h, v4, v5, hl, hp => by
    obtain ⟨⟨a0, a1⟩, b0, b1⟩ := hp p (List.mem_cons_self ..)
    obtain ⟨w4, w5, ih⟩ := rk_inner L (relax h p) (some (.int p.1)) (some (.int p.2)) (by rw [relax_len]; exact hl) fun q hq => hp q (List.mem_cons_of_mem _ hq)
    refine ⟨w4, w5, ?_⟩
    have g : ([.lst (h.map .int)] : Store)[0]? = some (.lst (h.map .int)) := rfl
    have i1 := gI_ref g b0 (by omega)
    have i2 := gI_ref g a0 (by omega)
    have st := setIx_ok g (i := p.2.toNat) (by rw [List.length_map]; omega) (.int (max (gI h p.2) (gI h p.1 + 1)))
    rw [← relax_map, show ((p.2.toNat : Nat) : Int) = p.2 by omega] at st
    have st' : setIx (.ref 0) (.int p.2) (.int (max (gI h p.2) (gI h p.1 + 1))) [.lst (h.map .int)] = .ok () [.lst ((relax h p).map .int)] := st
    have m := max2_int (gI h p.2) (gI h p.1 + 1) [.lst (h.map .int)]
    have h0 : mgTup 2 (mgCons (mgN 4) (mgCons (mgN 5) mgNil)) (pairD p) [some N, some A, some (.ref 0), v3, v4, v5] [.lst (h.map .int)] = .ok [some N, some A, some (.ref 0), v3, some (.int p.1), some (.int p.2)] [.lst (h.map .int)] := by simp [pairD]
    have hb : mRk [some N, some A, some (.ref 0), v3, some (.int p.1), some (.int p.2)] [.lst (h.map .int)] = .ok (.nx [some N, some A, some (.ref 0), v3, some (.int p.1), some (.int p.2)]) [.lst ((relax h p).map .int)] := by
      generalize (relax h p).map D.int = R at *
      generalize h.map D.int = HH at *
      unfold mRk
      simp -implicitDefEqProofs [i1, i2, m, st']
    rw [List.map_cons, forL_cons, h0, bind_ok, forBK_ap, hb, bind_ok]
    exact ih
theorem rk_outer {A N : D} (hA : ∀ S, itemsOf A S = .ok (arcs.map pairD) S) : ∀ (ds : List D) (h : List Int) (v3 v4 v5 : Option D), h.length = n + 1 → (∀ p ∈ arcs, (0 ≤ p.1 ∧ p.1 ≤ n) ∧ 0 ≤ p.2 ∧ p.2 ≤ (n : Int)) →
    ∃ w3 w4 w5, forL (mgN 3) (mFor (mItems (mVar 1)) (mgTup 2 (mgCons (mgN 4) (mgCons (mgN 5) mgNil))) mRk) ds [some N, some A, some (.ref 0), v3, v4, v5] [.lst (h.map .int)] = .ok (.nx [some N, some A, some (.ref 0), w3, w4, w5]) [.lst ((rnds arcs ds.length h).map .int)]
  | [], h, v3, v4, v5, _, _ => ⟨v3, v4, v5, rfl⟩
  | d :: ds, h, v3, v4, v5, hl, hp => by
    obtain ⟨u4, u5, e⟩ := rk_inner (N := N) (A := A) (v3 := some d) arcs h v4 v5 hl hp
    have rl : ∀ (L : List (Int × Int)) (h : List Int), (L.foldl relax h).length = h.length := fun L => by
      induction L with
      | nil => exact fun h => rfl
      | cons p L ih => exact fun h => by rw [List.foldl_cons, ih, relax_len]
    obtain ⟨w3, w4, w5, ih⟩ := rk_outer (N := N) hA ds (rnd arcs h) (some d) u4 u5 (by unfold rnd; rw [rl]; exact hl) hp
    refine ⟨w3, w4, w5, ?_⟩
    have h0 : mgN 3 d [some N, some A, some (.ref 0), v3, v4, v5] [.lst (h.map .int)] = .ok [some N, some A, some (.ref 0), some d, v4, v5] [.lst (h.map .int)] := rfl
    have hA' := hA [.lst (h.map .int)]
    have hb : mFor (mItems (mVar 1)) (mgTup 2 (mgCons (mgN 4) (mgCons (mgN 5) mgNil))) mRk [some N, some A, some (.ref 0), some d, v4, v5] [.lst (h.map .int)] = .ok (.nx [some N, some A, some (.ref 0), some d, u4, u5]) [.lst ((rnd arcs h).map .int)] := by
      generalize mRk = M at *
      unfold rnd
      generalize (arcs.foldl relax h).map D.int = R at *
      generalize h.map D.int = HH at *
      simp -implicitDefEqProofs [hA', e]
    rw [forL_cons, h0, bind_ok, forBK_ap, hb, bind_ok]
    exact ih
def ranksL (n : Nat) (arcs : List (Int × Int)) : List Int := rnds arcs n (zeros n)
theorem rnds_len (arcs : List (Int × Int)) : ∀ (k : Nat) (h : List Int), (rnds arcs k h).length = h.length
  | 0, h => rfl
  | k + 1, h => by
    have rl : ∀ (L : List (Int × Int)) (h : List Int), (L.foldl relax h).length = h.length := fun L => by
      induction L with
      | nil => exact fun h => rfl
      | cons p L ih => exact fun h => by rw [List.foldl_cons, ih, relax_len]
    show (rnds arcs k (rnd arcs h)).length = _
    rw [rnds_len arcs k]
    exact rl arcs h
theorem ranksL_len : (ranksL n arcs).length = n + 1 := by
  unfold ranksL
  rw [rnds_len]
  simp [zeros]
theorem ranksP (hn : n ≤ 1000) (ha : arcs.length ≤ 1000) (hp : ∀ p ∈ arcs, (0 ≤ p.1 ∧ p.1 ≤ n) ∧ 0 ≤ p.2 ∧ p.2 ≤ (n : Int)) (S : Store) : fPure f_p_ranks [.int n, arcsD arcs] S = .ok (.lst ((ranksL n arcs).map .int)) S := by
  have pa := pure_arcs arcs
  refine fPure_ap S (by simp [pa]) ?_
  have z1 : (arcs.map pairD).length ≤ 100000 := by simp; omega
  have rp : opRepC (.lst [.int 0]) (.int ((n : Int) + 1)) [] = .ok (.ref 0) [.lst ((zeros n).map .int)] := by
    have := repC_one (S := []) (.int 0) (n := n + 1) (by omega)
    rw [show ((n + 1 : Nat) : Int) = (n : Int) + 1 by omega] at this
    rw [this]
    simp [zeros]
  obtain ⟨w3, w4, w5, lp⟩ := rk_outer (n := n) (N := .int n) (A := arcsD arcs) (arcs := arcs) (fun S => rfl) (rangeD 0 n) (zeros n) none none none (by simp [zeros]) hp
  rw [rangeD_len] at lp
  have er : rnds arcs n (zeros n) = ranksL n arcs := rfl
  rw [er] at lp
  have fr := fz_ref (k := 0) (S := [.lst ((ranksL n arcs).map .int)]) (xs := (ranksL n arcs).map .int) rfl
  have r1 := fun S => r1K_nat (S := S) n (show n < 2 ^ 60 by omega)
  have pr : pureL ((ranksL n arcs).map D.int) = true := pure_ints _
  unfold f_p_ranks m_p_ranks
  rw [fnM_2]
  show endM 0 ((mSeq _ (mSeq (mFor _ _ (mFor _ _ mRk)) _)) _ _) = _
  generalize mRk = M at *
  generalize (ranksL n arcs).map D.int = R at *
  generalize (zeros n).map D.int = Z at *
  generalize arcsD arcs = A at *
  simp -implicitDefEqProofs [rp, r1, lp, fr, fin_nil, pr]
def hgt (h : List Int) : List (Int × Int) := h.zip h.tail
def byP (a b : Int) (x : Int × Int) : Int × Int := (max 0 (x.1 - x.2) * (b - a), max 0 (x.2 - x.1) * a)
def logBy (a b : Int) (h : List Int) : List (Int × Int) := (hgt h).map (byP a b)
def mLb : MS := (mDrop (mApp (mVar 4) (mTup (mCons (mOp opMul (mCall fMax2 (mCons (mC (.int 0)) (mCons (mOp opSubI (mVar 5) (mVar 6)) mNil))) (mOp opSubI (mVar 3) (mVar 2))) (mCons (mOp opMul (mCall fMax2 (mCons (mC (.int 0)) (mCons (mOp opSubI (mVar 6) (mVar 5)) mNil))) (mVar 2)) mNil)))))
theorem lb_loop {v0 v1 : Option D} (h0 : 0 < a) (hab : a < b) (hb : b < 2 ^ 80) : ∀ (L : List (Int × Int)) (fs : List (Int × Int)) (v5 v6 : Option D), (∀ p ∈ L, (0 ≤ p.1 ∧ p.1 ≤ 1000) ∧ 0 ≤ p.2 ∧ p.2 ≤ 1000) → fs.length + L.length ≤ 1000 →
    ∃ w5 w6, forL (mgTup 2 (mgCons (mgN 5) (mgCons (mgN 6) mgNil))) mLb (L.map pairD) [v0, v1, some (.int a), some (.int b), some (.ref 0), v5, v6] [.lst (fs.map rowD)] = .ok (.nx [v0, v1, some (.int a), some (.int b), some (.ref 0), w5, w6]) [.lst ((fs ++ L.map (byP a b)).map rowD)]
  | [], fs, v5, v6, _, _ => ⟨v5, v6, by simp [forL_nil]⟩
  | p :: L, fs, v5, v6, hp, hf => by
    obtain ⟨⟨a0, a1⟩, b0, b1⟩ := hp p (List.mem_cons_self ..)
    rw [List.length_cons] at hf
    obtain ⟨w5, w6, ih⟩ := lb_loop (v0 := v0) (v1 := v1) h0 hab hb L (fs ++ [byP a b p]) (some (.int p.1)) (some (.int p.2)) (fun q hq => hp q (List.mem_cons_of_mem _ hq)) (by rw [List.length_append, List.length_singleton]; omega)
    refine ⟨w5, w6, ?_⟩
    have big1 : ∀ x : Int, x ≤ 2 ^ 80 → x < big := fun x h => bigH (Int.le_trans h (by decide))
    have m1 : mulOk (max 0 (p.1 - p.2)) (b - a) = true := mulOk_big (by omega) (big1 _ (by omega)) (by omega) (big1 _ (by omega))
    have m2 : mulOk (max 0 (p.2 - p.1)) a = true := mulOk_big (by omega) (big1 _ (by omega)) (by omega) (big1 _ (by omega))
    have x1 := max2_int 0 (p.1 - p.2) [.lst (fs.map rowD)]
    have x2 := max2_int 0 (p.2 - p.1) [.lst (fs.map rowD)]
    have put := appTo_ok (S := [.lst (fs.map rowD)]) (k := 0) (rowD (byP a b p)) rfl (by rw [List.length_map]; omega)
    have er : rowD (byP a b p) = .tup [.int (max 0 (p.1 - p.2) * (b - a)), .int (max 0 (p.2 - p.1) * a)] := rfl
    rw [er] at put
    have e1 : (fs ++ [byP a b p]).map rowD = fs.map rowD ++ [.tup [.int (max 0 (p.1 - p.2) * (b - a)), .int (max 0 (p.2 - p.1) * a)]] := by rw [List.map_append]; rfl
    rw [e1] at ih
    rw [List.append_assoc, List.singleton_append] at ih
    have g0 : mgTup 2 (mgCons (mgN 5) (mgCons (mgN 6) mgNil)) (pairD p) [v0, v1, some (.int a), some (.int b), some (.ref 0), v5, v6] [.lst (fs.map rowD)] = .ok [v0, v1, some (.int a), some (.int b), some (.ref 0), some (.int p.1), some (.int p.2)] [.lst (fs.map rowD)] := by simp [pairD]
    have hb : mLb [v0, v1, some (.int a), some (.int b), some (.ref 0), some (.int p.1), some (.int p.2)] [.lst (fs.map rowD)] = .ok (.nx [v0, v1, some (.int a), some (.int b), some (.ref 0), some (.int p.1), some (.int p.2)]) [.lst (fs.map rowD ++ [.tup [.int (max 0 (p.1 - p.2) * (b - a)), .int (max 0 (p.2 - p.1) * a)]])] := by
      generalize fs.map rowD = F at *
      unfold mLb
      simp -implicitDefEqProofs [x1, x2, m1, m2, put]
    rw [List.map_cons, List.map_cons, forL_cons, g0, bind_ok, forBK_ap, hb, bind_ok]
    exact ih
theorem logByP (h0 : 0 < a) (hab : a < b) (hb : b < 2 ^ 80) {h : List Int} (hh : ∀ x ∈ h, 0 ≤ x ∧ x ≤ 1000) (hl : h.length ≤ 1000) (S : Store) : fPure f_p_log_by [.tup [.int a, .int b], .lst (h.map .int)] S = .ok (logD (logBy a b h)) S := by
  have ph : pureL (h.map D.int) = true := pure_ints _
  refine fPure_ap S (by simp [ph]) ?_
  have zl : (hgt h).length ≤ h.length := by unfold hgt; rw [List.length_zip]; omega
  obtain ⟨w5, w6, lp⟩ := lb_loop (v0 := some (.tup [.int a, .int b])) (v1 := some (.lst (h.map .int))) h0 hab hb (hgt h) [] none none (fun p hp => ⟨hh _ (List.of_mem_zip hp).1, hh _ (List.mem_of_mem_tail (List.of_mem_zip hp).2)⟩) (by simp only [List.length_nil]; omega)
  have c1 : cutD (h.map D.int) (some 1) none = (h.map D.int).drop 1 := cut_suf _ 1
  have zz : zipD (h.map D.int) ((h.map D.int).drop 1) = (hgt h).map pairD := by
    have : (h.map D.int).drop 1 = h.tail.map .int := by cases h <;> rfl
    rw [this, zipD_map]
    rfl
  have hz : ((hgt h).map pairD).length ≤ 100000 := by rw [List.length_map]; omega
  have l1 : (h.map D.int).length ≤ 100000 := by rw [List.length_map]; omega
  have l2 : ((h.map D.int).drop 1).length ≤ 100000 := by rw [List.length_drop]; omega
  have el : (hgt h).map (byP a b) = logBy a b h := rfl
  rw [List.nil_append, el, List.map_nil] at lp
  have tr : fTuple [.ref 0] [.lst ((logBy a b h).map rowD)] = .ok (logD (logBy a b h)) [.lst ((logBy a b h).map rowD)] := by
    have : ((logBy a b h).map rowD).length ≤ 100000 := by unfold logBy; simp only [List.length_map]; omega
    unfold logD
    generalize (logBy a b h).map rowD = Z at *
    simp [fTuple, un1, gTuple, seqOf, rdL, lstOf, this]
  have pr := pure_logD (logBy a b h)
  have zi : ∀ S, zipItems [.lst (h.map .int), .lst ((h.map D.int).drop 1)] S = .ok ((hgt h).map pairD) S := fun S => by
    show Res.ok (zipD _ _) S = _
    rw [zz]
  unfold f_p_log_by m_p_log_by
  rw [fnM_2]
  show endM 0 ((mSeq _ (mSeq _ (mSeq (mFor _ _ mLb) _))) _ _) = _
  generalize mLb = M at *
  generalize logD (logBy a b h) = LG at *
  generalize (logBy a b h).map rowD = RW_ at *
  generalize (hgt h).map pairD = HP at *
  generalize hDD : (h.map D.int).drop 1 = DD at *
  generalize h.map D.int = HH at *
  simp -implicitDefEqProofs [c1, zi, hz, l1, l2, lp, tr, fin_nil, pr]
def fitL (n : Nat) (a b : Int) (qs ls : List (Int × Int)) : List (Int × Int) := logBy a b (ranksL n (arcsL qs ls))
theorem fittingP {c : Int → Int} (hX : IsDay X n a b qs ls) (P : Pot n (arcsL qs ls) c) (h0 : 0 < a) (hab : a < b) (hb : b < 2 ^ 80) (hn : n ≤ 500) (h1 : qs.length ≤ 200) (h2 : ls.length ≤ 200) (S : Store) : fPure f_p_fitting [X] S = .ok (logD (fitL n a b qs ls)) S := by
  have px := hX.pure
  refine fPure_ap S (by simp [px]) ?_
  have t1 := hX.tup
  have ck : ∀ S, fPureX g_p_check [X] S = .ok .non S := fun S => fPX_of (nN := 2) (nP := 1) (n := m_p_check) (checkP hX P h1 h2 [])
  have ar := fun S => arcsP hX (by omega) (by omega) S
  have rk := fun S => ranksP (n := n) (arcs := arcsL qs ls) (by omega) (by simp [arcsL]; omega) P.ar S
  obtain ⟨r1, r2, r3⟩ := ranks_ok P
  have lb := fun S => logByP (a := a) (b := b) (h := ranksL n (arcsL qs ls)) h0 hab hb (fun x hx => by
    obtain ⟨i, hi, rfl⟩ := List.getElem_of_mem hx
    have hi2 : i < n + 1 := by rw [ranksL_len] at hi; exact hi
    have := r2 (i : Nat) (by omega) (by omega)
    have e : gI (rnds (arcsL qs ls) n (zeros n)) (i : Nat) = (ranksL n (arcsL qs ls))[i] := by
      unfold gI
      rw [List.getD_eq_getElem?_getD, Int.toNat_natCast]
      have : (rnds (arcsL qs ls) n (zeros n))[i]? = some (ranksL n (arcsL qs ls))[i] := List.getElem?_eq_getElem hi
      rw [this]
      rfl
    rw [e] at this
    omega) (by rw [ranksL_len]; omega) S
  have pl := pure_logD (fitL n a b qs ls)
  unfold fitL at pl ⊢
  unfold dayD looksD at t1
  generalize logD (logBy a b (ranksL n (arcsL qs ls))) = LG at *
  generalize (ranksL n (arcsL qs ls)).map D.int = R at *
  generalize arcsD (arcsL qs ls) = A at *
  generalize qs.map pairD = Q1 at *
  generalize ls.map pairD = Q2 at *
  unfold f_p_fitting m_p_fitting
  rw [fnM_1]
  simp -implicitDefEqProofs [ck, t1, ar, rk, lb, fin_nil, pl]
theorem fittingX {c : Int → Int} (hX : IsDay X n a b qs ls) (P : Pot n (arcsL qs ls) c) (h0 : 0 < a) (hab : a < b) (hb : b < 2 ^ 80) (hn : n ≤ 500) (h1 : qs.length ≤ 200) (h2 : ls.length ≤ 200) (S : Store) : fPureX g_p_fitting [X] S = .ok (logD (fitL n a b qs ls)) S := fPX_of (nN := 5) (nP := 1) (n := m_p_fitting) (fittingP hX P h0 hab hb hn h1 h2 [])
end
theorem atI_last {α : Type} (xs : List α) (x : α) : atI (xs ++ [x]) (-1) = some x := by
  have e : ((xs ++ [x]).length : Int) = (xs.length : Int) + 1 := by simp
  have h1 : (0 : Int) ≤ -1 + ((xs.length : Int) + 1) := by omega
  have h3 : (-1 + ((xs.length : Int) + 1)).toNat = xs.length := by omega
  unfold atI ixN
  have h4 : (1 : Int) ≤ (xs.length : Int) + 1 := by omega
  simp [e, h1, h3, h4]
def hts (a b c : Int) : List (Int × Int) → List Int
  | [] => [c]
  | r :: rows => c :: hts a b (c + (b - a) * r.2 - a * r.1) rows
def hD (a b : Int) (rows : List (Int × Int)) : List D := (hts a b 0 rows).map .int
def HOk (a b : Int) (rows : List (Int × Int)) : Prop := ∀ r ∈ rows, mulOk (b - a) r.2 = true ∧ mulOk a r.1 = true
theorem mulOk_big2 {i j : Int} (h0 : -big < i) (h1 : i < big) (h2 : -big < j) (h3 : j < big) : mulOk i j = true := by
  have lg : ∀ x : Int, -big < x → x < big → x.natAbs.log2 ≤ 8000 := fun x a b => by
    by_cases e : x.natAbs = 0
    · rw [e]; decide
    · refine Nat.le_of_lt ((Nat.log2_lt e).mpr ?_)
      have e2 : big = ((2 ^ 8000 : Nat) : Int) := by unfold big; norm_cast
      rw [e2] at a b
      omega
  have a := lg i h0 h1
  have b := lg j h2 h3
  unfold mulOk
  rw [decide_eq_true (show i.natAbs.log2 + j.natAbs.log2 < 1000000 by omega)]
  simp
theorem sums60 {R : List (Int × Int)} (hr : RowsOk (10 ^ 60) R) (hl : R.length ≤ 900) (s e : Nat) : (0 ≤ sg R s e ∧ sg R s e < 10 ^ 64) ∧ 0 ≤ sf R s e ∧ sf R s e < 10 ^ 64 := by
  have x1 := sf_bound hr (by decide) s e
  have x2 := sg_bound hr (by decide) s e
  have q : (10 : Int) ^ 60 * (R.length : Int) ≤ 10 ^ 60 * 900 := Int.mul_le_mul_of_nonneg_left (by omega) (by decide)
  have q2 : (10 : Int) ^ 60 * 900 < 10 ^ 64 := by decide
  exact ⟨⟨x2.1, Int.lt_of_le_of_lt x2.2 (Int.lt_of_le_of_lt q q2)⟩, x1.1, Int.lt_of_le_of_lt x1.2 (Int.lt_of_le_of_lt q q2)⟩
theorem seg_cons (r : Int × Int) (rows : List (Int × Int)) (i : Nat) : seg (r :: rows) 0 (i + 1) = r :: seg rows 0 i := by
  unfold seg
  simp
theorem hts_get (a b : Int) : ∀ (rows : List (Int × Int)) (c : Int) (i : Nat), i ≤ rows.length → gI (hts a b c rows) (i : Nat) = c + (b - a) * sf rows 0 i - a * sg rows 0 i
  | rows, c, 0, _ => by
    rw [sf_self, sg_self]
    have e : gI (hts a b c rows) ((0 : Nat) : Int) = c := by cases rows <;> rfl
    rw [e]
    simp
  | [], c, i + 1, h => by simp at h
  | r :: rows, c, i + 1, h => by
    have ih := hts_get a b rows (c + (b - a) * r.2 - a * r.1) i (by simpa using h)
    have e1 : gI (hts a b c (r :: rows)) ((i + 1 : Nat) : Int) = gI (hts a b (c + (b - a) * r.2 - a * r.1) rows) (i : Nat) := by
      unfold gI
      rw [Int.toNat_natCast, Int.toNat_natCast]
      rfl
    have e2 : sf (r :: rows) 0 (i + 1) = r.2 + sf rows 0 i := by
      unfold sf
      rw [seg_cons, List.map_cons, List.sum_cons]
    have e3 : sg (r :: rows) 0 (i + 1) = r.1 + sg rows 0 i := by
      unfold sg
      rw [seg_cons, List.map_cons, List.sum_cons]
    rw [e1, ih, e2, e3, Int.mul_add, Int.mul_add]
    omega
def htL (a b : Int) (rows : List (Int × Int)) (i : Int) : Int := gI (hts a b 0 rows) i
def loudP (a b : Int) (rows : List (Int × Int)) (p : Int × Int) : Bool := decide (a * (sg rows p.1.toNat p.2.toNat + sf rows p.1.toNat p.2.toNat) < b * sf rows p.1.toNat p.2.toNat)
section
variable {a b : Int} {n : Nat} {qs ls rows : List (Int × Int)} {X : D}
theorem ht_diff {p : Int × Int} (h0 : 0 ≤ p.1) (h1 : p.1 < p.2) (h2 : p.2 ≤ (rows.length : Int)) : htL a b rows p.2 - htL a b rows p.1 = (b - a) * sf rows p.1.toNat p.2.toNat - a * sg rows p.1.toNat p.2.toNat := by
  have g1 := hts_get a b rows 0 p.1.toNat (by omega)
  have g2 := hts_get a b rows 0 p.2.toNat (by omega)
  rw [show ((p.1.toNat : Nat) : Int) = p.1 by omega] at g1
  rw [show ((p.2.toNat : Nat) : Int) = p.2 by omega] at g2
  unfold htL
  rw [g1, g2, sf_app rows (Nat.zero_le p.1.toNat) (show p.1.toNat ≤ p.2.toNat by omega), sg_app rows (Nat.zero_le p.1.toNat) (show p.1.toNat ≤ p.2.toNat by omega), Int.mul_add, Int.mul_add]
  omega
theorem loud_ht {p : Int × Int} (h0 : 0 ≤ p.1) (h1 : p.1 < p.2) (h2 : p.2 ≤ (rows.length : Int)) : loudP a b rows p = decide (htL a b rows p.1 < htL a b rows p.2) := by
  have d := ht_diff (a := a) (b := b) h0 h1 h2
  unfold loudP
  rw [decide_eq_decide]
  rw [Int.sub_mul] at d
  rw [Int.mul_add]
  omega
def fitsB (n : Nat) (a b : Int) (qs ls rows : List (Int × Int)) : Bool := decide (rows.length = n) && (qs.all (fun p => !loudP a b rows p) && ls.all (loudP a b rows))
structure DayOk (n : Nat) (a b : Int) (qs ls : List (Int × Int)) : Prop where
  a0 : 0 < a
  ab : a < b
  b2 : b < 2 ^ 71
  n1 : n ≤ 100
  q1 : ∀ p ∈ qs, 0 ≤ p.1 ∧ p.1 < p.2 ∧ p.2 ≤ (n : Int)
  l1 : ∀ p ∈ ls, 0 ≤ p.1 ∧ p.1 < p.2 ∧ p.2 ≤ (n : Int)
  ql : qs.length ≤ 60
  ll : ls.length ≤ 60
theorem all_mapB {β : Type} (q : β → Bool) (xs : List β) (S : Store) : fAll [.lst (xs.map fun x => D.bl (q x))] S = .ok (.bl (xs.all q)) S := by
  rw [all_lst (bools_map q xs), List.all_map]
  rfl
theorem any_mapB {β : Type} (q : β → Bool) (xs : List β) (S : Store) : fAny [.lst (xs.map fun x => D.bl (q x))] S = .ok (.bl (xs.any q)) S := by
  rw [any_lst (bools_map q xs), List.any_map]
  rfl
theorem neI {i j : Int} {S : Store} : opNe (.int i) (.int j) S = .ok (.bl (decide (i ≠ j))) S := by
  rw [ne_plain (shal_int 20 i) (shal_int 20 j)]
  by_cases h : i = j
  · subst h
    simp [deq]
  · simp [deq, h]
theorem by_hts (a b : Int) (h0 : 0 ≤ a) (h1 : a ≤ b) : ∀ (h : List Int) (x c : Int) (i : Nat), i ≤ h.length → gI (hts a b c (logBy a b (x :: h))) (i : Nat) = c + a * (b - a) * (gI (x :: h) (i : Nat) - x)
  | h, x, c, 0, _ => by
    have e1 : gI (x :: h) ((0 : Nat) : Int) = x := rfl
    have e2 : gI (hts a b c (logBy a b (x :: h))) ((0 : Nat) : Int) = c := by cases logBy a b (x :: h) <;> rfl
    rw [e1, e2, Int.sub_self, Int.mul_zero, Int.add_zero]
  | [], x, c, i + 1, hi => by simp at hi
  | y :: h, x, c, i + 1, hi => by
    have ih := by_hts a b h0 h1 h y (c + (b - a) * (byP a b (x, y)).2 - a * (byP a b (x, y)).1) i (by simpa using hi)
    have e1 : gI (hts a b c (logBy a b (x :: y :: h))) ((i + 1 : Nat) : Int) = gI (hts a b (c + (b - a) * (byP a b (x, y)).2 - a * (byP a b (x, y)).1) (logBy a b (y :: h))) (i : Nat) := by
      have : logBy a b (x :: y :: h) = byP a b (x, y) :: logBy a b (y :: h) := rfl
      rw [this]
      unfold gI
      rw [Int.toNat_natCast, Int.toNat_natCast]
      rfl
    have e2 : gI (x :: y :: h) ((i + 1 : Nat) : Int) = gI (y :: h) (i : Nat) := by
      unfold gI
      rw [Int.toNat_natCast, Int.toNat_natCast]
      rfl
    have e3 : (b - a) * (byP a b (x, y)).2 - a * (byP a b (x, y)).1 = a * (b - a) * (y - x) := by
      unfold byP
      dsimp only
      rcases Int.le_total x y with z | z
      · rw [Int.max_eq_right (show 0 ≤ y - x by omega), Int.max_eq_left (show x - y ≤ 0 by omega), Int.zero_mul, Int.mul_zero, Int.sub_zero, Int.mul_comm (y - x) a, ← Int.mul_assoc, Int.mul_comm (b - a) a]
      · rw [Int.max_eq_left (show y - x ≤ 0 by omega), Int.max_eq_right (show 0 ≤ x - y by omega), Int.zero_mul, Int.mul_zero, Int.zero_sub, Int.mul_comm (x - y) (b - a), ← Int.mul_assoc, ← Int.mul_neg]
        congr 1
        omega
    rw [e1, ih, e2]
    have e4 : a * (b - a) * (gI (y :: h) (i : Nat) - x) = a * (b - a) * (y - x) + a * (b - a) * (gI (y :: h) (i : Nat) - y) := by
      rw [← Int.mul_add]
      congr 1
      omega
    rw [e4]
    omega
theorem hgt_len (x : Int) (h : List Int) : (logBy a b (x :: h)).length = h.length := by
  unfold logBy hgt
  rw [List.length_map, List.length_zip, List.tail_cons, List.length_cons]
  omega
theorem fit_fits {c : Int → Int} (hd : DayOk n a b qs ls) (P : Pot n (arcsL qs ls) c) : fitsB n a b qs ls (fitL n a b qs ls) = true := by
  obtain ⟨r1, r2, r3⟩ := ranks_ok P
  have a0 := hd.a0; have ab := hd.ab
  have er : rnds (arcsL qs ls) n (zeros n) = ranksL n (arcsL qs ls) := rfl
  rw [er] at r1 r2 r3
  obtain ⟨x, h, hx⟩ : ∃ x h, ranksL n (arcsL qs ls) = x :: h := by
    cases e : ranksL n (arcsL qs ls) with
    | nil => rw [e] at r1; simp at r1
    | cons x h => exact ⟨x, h, rfl⟩
  have hl : h.length = n := by rw [hx] at r1; simpa using r1
  have fl : (fitL n a b qs ls).length = n := by
    unfold fitL
    rw [hx, hgt_len, hl]
  have pos : 0 < a * (b - a) := Int.mul_pos a0 (by omega)
  have hd2 : ∀ p : Int × Int, 0 ≤ p.1 → p.1 < p.2 → p.2 ≤ (n : Int) → loudP a b (fitL n a b qs ls) p = decide (gI (ranksL n (arcsL qs ls)) p.1 < gI (ranksL n (arcsL qs ls)) p.2) := fun p h0 h1 h2 => by
    rw [loud_ht h0 h1 (by rw [fl]; exact h2), decide_eq_decide]
    unfold htL fitL
    rw [hx]
    have b1 := by_hts a b (by omega) (by omega) h x 0 p.1.toNat (by omega)
    have b2 := by_hts a b (by omega) (by omega) h x 0 p.2.toNat (by omega)
    rw [show ((p.1.toNat : Nat) : Int) = p.1 by omega] at b1
    rw [show ((p.2.toNat : Nat) : Int) = p.2 by omega] at b2
    rw [b1, b2]
    constructor
    · intro z
      have : a * (b - a) * (gI (x :: h) p.1 - x) < a * (b - a) * (gI (x :: h) p.2 - x) := by omega
      have := Int.lt_of_mul_lt_mul_left this (by omega)
      omega
    · intro z
      have := Int.mul_lt_mul_of_pos_left (show gI (x :: h) p.1 - x < gI (x :: h) p.2 - x by omega) pos
      omega
  unfold fitsB
  rw [decide_eq_true fl, Bool.true_and, Bool.and_eq_true, List.all_eq_true, List.all_eq_true]
  refine ⟨fun p hp => ?_, fun p hp => ?_⟩
  · have q := hd.q1 p hp
    have := r3 (swp p) (List.mem_append.mpr (.inl (List.mem_map.mpr ⟨p, hp, rfl⟩)))
    have e1 : (swp p).1 = p.2 := rfl
    have e2 : (swp p).2 = p.1 := rfl
    rw [e1, e2] at this
    rw [hd2 p q.1 q.2.1 q.2.2, decide_eq_false (by omega)]
    rfl
  · have q := hd.l1 p hp
    have := r3 p (List.mem_append.mpr (.inr hp))
    rw [hd2 p q.1 q.2.1 q.2.2, decide_eq_true (by omega)]
end
def ledStep (F : List Int) (p : Int × Int) : List Int := if p.1 ∈ F ∧ p.2 ∉ F then F ++ [p.2] else F
def ledR (arcs : List (Int × Int)) (F : List Int) : List Int := arcs.foldl ledStep F
def leds (arcs : List (Int × Int)) : Nat → List Int → List Int
  | 0, F => F
  | k + 1, F => leds arcs k (ledR arcs F)
theorem ledR_new : ∀ (arcs : List (Int × Int)) (F : List Int), ∃ new, ledR arcs F = F ++ new ∧ new.length ≤ arcs.length ∧ ∀ y ∈ new, y ∉ F ∧ ∃ p ∈ arcs, p.2 = y
  | [], F => ⟨[], by simp [ledR], by simp, by simp⟩
  | p :: arcs, F => by
    by_cases h : p.1 ∈ F ∧ p.2 ∉ F
    · obtain ⟨new, e, l, hn⟩ := ledR_new arcs (F ++ [p.2])
      refine ⟨p.2 :: new, ?_, by simp; omega, fun y hy => ?_⟩
      · show ledR arcs (ledStep F p) = _
        rw [show ledStep F p = F ++ [p.2] from if_pos h, e]
        simp
      · rcases List.mem_cons.mp hy with rfl | hy
        · exact ⟨h.2, p, List.mem_cons_self .., rfl⟩
        · obtain ⟨h1, q, hq, e⟩ := hn y hy
          exact ⟨fun z => h1 (List.mem_append.mpr (.inl z)), q, List.mem_cons_of_mem _ hq, e⟩
    · obtain ⟨new, e, l, hn⟩ := ledR_new arcs F
      refine ⟨new, ?_, by simp; omega, fun y hy => ?_⟩
      · show ledR arcs (ledStep F p) = _
        rw [show ledStep F p = F from if_neg h, e]
      · obtain ⟨h1, q, hq, e⟩ := hn y hy
        exact ⟨h1, q, List.mem_cons_of_mem _ hq, e⟩
theorem ledR_sub {arcs : List (Int × Int)} {F : List Int} {x : Int} (h : x ∈ F) : x ∈ ledR arcs F := by
  obtain ⟨new, e, _⟩ := ledR_new arcs F
  rw [e]
  exact List.mem_append.mpr (.inl h)
theorem ledR_arc : ∀ {arcs : List (Int × Int)} {F : List Int} {p : Int × Int}, p ∈ arcs → p.1 ∈ F → p.2 ∈ ledR arcs F
  | q :: arcs, F, p, hp, h => by
    show p.2 ∈ ledR arcs (ledStep F q)
    have sub : ∀ x, x ∈ F → x ∈ ledStep F q := fun x hx => by
      unfold ledStep
      split
      · exact List.mem_append.mpr (.inl hx)
      · exact hx
    rcases List.mem_cons.mp hp with rfl | hp
    · refine ledR_sub ?_
      unfold ledStep
      split
      · simp
      · next z =>
        by_cases hm : p.2 ∈ F
        · exact hm
        · exact absurd ⟨h, hm⟩ z
    · exact ledR_arc hp (sub _ h)
theorem leds_sub {arcs : List (Int × Int)} : ∀ (k : Nat) (F : List Int) {x : Int}, x ∈ F → x ∈ leds arcs k F
  | 0, F, x, h => h
  | k + 1, F, x, h => leds_sub k _ (ledR_sub h)
theorem leds_min {arcs : List (Int × Int)} {T : Int → Prop} (hT : ∀ p ∈ arcs, T p.1 → T p.2) : ∀ (k : Nat) (F : List Int), (∀ x ∈ F, T x) → ∀ x ∈ leds arcs k F, T x
  | 0, F, h => h
  | k + 1, F, h => leds_min hT k (ledR arcs F) (by
    have : ∀ (L : List (Int × Int)) (F : List Int), (∀ p ∈ L, p ∈ arcs) → (∀ x ∈ F, T x) → ∀ x ∈ L.foldl ledStep F, T x := fun L => by
      induction L with
      | nil => exact fun F _ h => h
      | cons p L ih =>
        intro F hL hF
        rw [List.foldl_cons]
        refine ih _ (fun q hq => hL q (List.mem_cons_of_mem _ hq)) fun x hx => ?_
        unfold ledStep at hx
        split at hx
        · next z =>
          rcases List.mem_append.mp hx with hx | hx
          · exact hF x hx
          · rw [List.mem_singleton] at hx
            rw [hx]
            exact hT p (hL p (List.mem_cons_self ..)) (hF _ z.1)
        · exact hF x hx
    exact this arcs F (fun p hp => hp) h)
def openN (arcs : List (Int × Int)) (F : List Int) : Nat := (arcs.filter fun p => !decide (p.2 ∈ F)).length
theorem filtP_le {β : Type} {P Q : β → Bool} : ∀ (xs : List β), (∀ i ∈ xs, P i = true → Q i = true) → (xs.filter P).length ≤ (xs.filter Q).length
  | [], _ => Nat.le_refl _
  | x :: xs, h => by
    have ih := filtP_le xs fun i hi => h i (List.mem_cons_of_mem _ hi)
    have hx := h x (List.mem_cons_self ..)
    rw [List.filter_cons, List.filter_cons]
    cases hP : P x with
    | true => rw [hx hP]; simp; exact ih
    | false => cases Q x <;> simp <;> omega
theorem filtP_lt {β : Type} {P Q : β → Bool} {m : β} (hQ : Q m = true) (hP : P m = false) : ∀ (xs : List β), m ∈ xs → (∀ i ∈ xs, P i = true → Q i = true) → (xs.filter P).length + 1 ≤ (xs.filter Q).length
  | [], hm, _ => by cases hm
  | x :: xs, hm, h => by
    have le := filtP_le xs fun i hi => h i (List.mem_cons_of_mem _ hi)
    have hx := h x (List.mem_cons_self ..)
    rw [List.filter_cons, List.filter_cons]
    rcases List.mem_cons.mp hm with rfl | hm
    · rw [hQ, hP]
      simp
      exact le
    · have ih := filtP_lt hQ hP xs hm fun i hi => h i (List.mem_cons_of_mem _ hi)
      cases hPx : P x with
      | true => rw [hx hPx]; simp; exact ih
      | false => cases Q x <;> simp <;> omega
theorem leds_closed {arcs : List (Int × Int)} : ∀ (k : Nat) (F : List Int), openN arcs F ≤ k → ∀ p ∈ arcs, p.1 ∈ leds arcs k F → p.2 ∈ leds arcs k F
  | 0, F, h, p, hp, _ => by
    have e : arcs.filter (fun p => !decide (p.2 ∈ F)) = [] := List.eq_nil_of_length_eq_zero (Nat.le_zero.mp h)
    rw [List.filter_eq_nil_iff] at e
    have := e p hp
    show p.2 ∈ F
    simpa using this
  | k + 1, F, h, p, hp, h1 => by
    by_cases e : ledR arcs F = F
    · have st : ∀ j, leds arcs j F = F := fun j => by
        induction j with
        | zero => rfl
        | succ j ih => show leds arcs j (ledR arcs F) = F; rw [e]; exact ih
      rw [st] at h1 ⊢
      have := ledR_arc hp h1
      rw [e] at this
      exact this
    · obtain ⟨new, en, _, hn⟩ := ledR_new arcs F
      obtain ⟨y, hy⟩ : ∃ y, y ∈ new := by
        cases new with
        | nil => rw [List.append_nil] at en; exact absurd en e
        | cons y _ => exact ⟨y, List.mem_cons_self ..⟩
      obtain ⟨hyF, q, hq, rfl⟩ := hn y hy
      have hyR : q.2 ∈ ledR arcs F := by rw [en]; exact List.mem_append.mpr (.inr hy)
      have := filtP_lt (P := fun p : Int × Int => !decide (p.2 ∈ ledR arcs F)) (Q := fun p => !decide (p.2 ∈ F)) (m := q) (by simp [hyF]) (by simp [hyR]) arcs hq (fun i _ hi => by
        simp only [Bool.not_eq_true', decide_eq_false_iff_not] at hi ⊢
        exact fun z => hi (ledR_sub z))
      exact leds_closed k (ledR arcs F) (by unfold openN at h ⊢; omega) p hp h1
def Led (arcs : List (Int × Int)) (F : List Int) : List Int := leds arcs arcs.length F
theorem Led_closed {arcs : List (Int × Int)} {F : List Int} {p : Int × Int} (hp : p ∈ arcs) (h : p.1 ∈ Led arcs F) : p.2 ∈ Led arcs F := leds_closed arcs.length F (List.length_filter_le _ _) p hp h
def ringedB (arcs : List (Int × Int)) : Bool := arcs.any fun p => decide (p.1 ∈ Led arcs [p.2])
def ledPhi (n : Nat) (arcs : List (Int × Int)) (x : Int) : Int := -((((List.range (n + 1)).filter fun i : Nat => decide ((i : Int) ∈ Led arcs [x])).length : Nat) : Int)
theorem calm_pot {n : Nat} {arcs : List (Int × Int)} (ar : ∀ p ∈ arcs, (0 ≤ p.1 ∧ p.1 ≤ n) ∧ 0 ≤ p.2 ∧ p.2 ≤ (n : Int)) (h : ringedB arcs = false) : Pot n arcs (below n (ledPhi n arcs)) := by
  refine below_pot ar fun p hp => ?_
  obtain ⟨⟨a0, a1⟩, b0, b1⟩ := ar p hp
  have nr : p.1 ∉ Led arcs [p.2] := by
    unfold ringedB at h
    rw [List.any_eq_false] at h
    simpa using h p hp
  have self : p.1 ∈ Led arcs [p.1] := leds_sub _ _ (List.mem_singleton.mpr rfl)
  have v : p.2 ∈ Led arcs [p.1] := Led_closed hp self
  have sub : ∀ x ∈ Led arcs [p.2], x ∈ Led arcs [p.1] := leds_min (T := fun x => x ∈ Led arcs [p.1]) (fun q hq hh => Led_closed hq hh) arcs.length [p.2] fun x hx => by
    rw [List.mem_singleton] at hx
    exact hx ▸ v
  have := filter_lt2 (m := p.1.toNat) (P := fun i : Nat => decide ((i : Int) ∈ Led arcs [p.2])) (Q := fun i : Nat => decide ((i : Int) ∈ Led arcs [p.1])) (by rw [show ((p.1.toNat : Nat) : Int) = p.1 by omega]; exact decide_eq_true self) (by rw [show ((p.1.toNat : Nat) : Int) = p.1 by omega]; exact decide_eq_false nr) (List.range (n + 1)) (List.mem_range.mpr (by omega)) (fun i _ hi => by
    rw [decide_eq_true_eq] at hi ⊢
    exact sub _ hi)
  unfold ledPhi
  omega
section
variable {arcs : List (Int × Int)} {x y z : Int}
theorem led_trans (h : x ∈ Led arcs [y]) (h2 : y ∈ Led arcs [z]) : x ∈ Led arcs [z] :=
  leds_min (T := fun x => x ∈ Led arcs [z]) (fun _ hq hh => Led_closed hq hh) arcs.length [y] (fun w hw => by rw [List.mem_singleton] at hw; exact hw ▸ h2) x h
theorem led_self : x ∈ Led arcs [x] := leds_sub _ _ (List.mem_singleton.mpr rfl)
theorem led_tail (h : x ∈ Led arcs [y]) : x = y ∨ ∃ q ∈ arcs, q.1 ∈ Led arcs [y] ∧ q.2 = x :=
  (leds_min (T := fun x => x ∈ Led arcs [y] ∧ (x = y ∨ ∃ q ∈ arcs, q.1 ∈ Led arcs [y] ∧ q.2 = x)) (fun p hp hh => ⟨Led_closed hp hh.1, .inr ⟨p, hp, hh.1, rfl⟩⟩) arcs.length [y] (fun w hw => by rw [List.mem_singleton] at hw; subst hw; exact ⟨led_self, .inl rfl⟩) x h).2
theorem led_head (h : x ∈ Led arcs [y]) : x = y ∨ ∃ q ∈ arcs, q.1 = y ∧ x ∈ Led arcs [q.2] :=
  leds_min (T := fun x => x = y ∨ ∃ q ∈ arcs, q.1 = y ∧ x ∈ Led arcs [q.2]) (fun p hp hh => by
    rcases hh with e | ⟨q, hq, e, hm⟩
    · exact .inr ⟨p, hp, e, led_self⟩
    · exact .inr ⟨q, hq, e, Led_closed hp hm⟩) arcs.length [y] (fun w hw => by rw [List.mem_singleton] at hw; exact .inl hw) x h
structure Loop (arcs W : List (Int × Int)) : Prop where
  ne : W ≠ []
  sub : ∀ q ∈ W, q ∈ arcs
  bk : ∀ q ∈ W, ∃ q' ∈ W, q'.2 = q.1
  fw : ∀ q ∈ W, ∃ q' ∈ W, q'.1 = q.2
theorem loop_ex (h : ringedB arcs = true) : ∃ W, Loop arcs W := by
  unfold ringedB at h
  rw [List.any_eq_true] at h
  obtain ⟨p, hp, h⟩ := h
  rw [decide_eq_true_eq] at h
  let W := arcs.filter fun q => decide (q.1 ∈ Led arcs [p.2]) && decide (p.1 ∈ Led arcs [q.2])
  have mW : ∀ q, q ∈ W ↔ q ∈ arcs ∧ q.1 ∈ Led arcs [p.2] ∧ p.1 ∈ Led arcs [q.2] := fun q => by
    show q ∈ arcs.filter _ ↔ _
    rw [List.mem_filter, Bool.and_eq_true, decide_eq_true_eq, decide_eq_true_eq]
  have pW : p ∈ W := (mW p).mpr ⟨hp, h, h⟩
  refine ⟨W, List.ne_nil_of_mem pW, fun q hq => ((mW q).mp hq).1, fun q hq => ?_, fun q hq => ?_⟩
  · obtain ⟨h1, h2, h3⟩ := (mW q).mp hq
    rcases led_tail h2 with e | ⟨q', hq', e1, e2⟩
    · exact ⟨p, pW, e.symm⟩
    · refine ⟨q', (mW q').mpr ⟨hq', e1, led_trans h3 ?_⟩, e2⟩
      rw [e2]
      exact Led_closed h1 led_self
  · obtain ⟨h1, h2, h3⟩ := (mW q).mp hq
    rcases led_head h3 with e | ⟨q', hq', e1, e2⟩
    · exact ⟨p, pW, e⟩
    · refine ⟨q', (mW q').mpr ⟨hq', ?_, e2⟩, e1⟩
      rw [e1]
      exact Led_closed h1 h2
theorem stuck_nil2 {m : Nat} {c : Int → Int} {left : List (Int × Int)} (P : Pot m arcs c) (hs : ∀ p ∈ left, p ∈ arcs) (hf : ∀ p ∈ left, ∃ q ∈ left, q.1 = p.2) : left = [] := by
  have key : ∀ k : Nat, ∀ p ∈ left, ¬ (m : Int) - c p.2 < (k : Int) := by
    intro k
    induction k with
    | zero =>
      intro p hp h
      obtain ⟨_, b0, b1⟩ := P.ar p (hs p hp)
      have := (P.lo p.2 b0 b1).2
      omega
    | succ k ih =>
      intro p hp h
      obtain ⟨q, hq, e⟩ := hf p hp
      have := P.up q (hs q hq)
      rw [e] at this
      exact ih q hq (by omega)
  cases left with
  | nil => rfl
  | cons p left =>
    obtain ⟨_, b0, b1⟩ := P.ar p (hs p (List.mem_cons_self ..))
    have := (P.lo p.2 b0 b1).2
    exact absurd (show (m : Int) - c p.2 < (((m : Int) - c p.2).toNat + 1 : Nat) by omega) (key _ p (List.mem_cons_self ..))
structure Left (arcs left : List (Int × Int)) : Prop where
  sub : ∀ p ∈ left, p ∈ arcs
  len : left.length ≤ 500
  all : ∀ W, Loop arcs W → ∀ q ∈ W, q ∈ left
theorem Left.kept {left : List (Int × Int)} (h : Left arcs left) : Left arcs (kept left) :=
  ⟨fun p hp => h.sub p (List.mem_filter.mp hp).1, Nat.le_trans (List.length_filter_le _ _) h.len, fun W hW q hq => List.mem_filter.mpr ⟨h.all W hW q hq, by
    obtain ⟨q', hq', e⟩ := hW.bk q hq
    exact decide_eq_true (List.mem_map.mpr ⟨q', h.all W hW q' hq', e⟩)⟩⟩
theorem turningG (hl : arcs.length ≤ 500) : ∃ left, Left arcs left ∧ (∀ p ∈ left, ∃ q ∈ left, q.2 = p.1) ∧ ∀ S, fPure f_p_turning [arcsD arcs] S = .ok (arcsD left) S := by
  have pa := pure_arcs arcs
  have z1 : (arcs.map pairD).length = arcs.length := List.length_map _
  have wh : (whileF (mTB (mOp opLt (mCall fLen (mCons (mVar 1) mNil)) (mVar 2))) mTu 1000 [some (arcsD arcs), some (arcsD arcs), some (.int ((arcs.length : Nat) + 1)), none, none, none, none] []).Sat fun f S' => (∃ left v2 v3, (Left arcs left ∧ (∀ p ∈ left, ∃ q ∈ left, q.2 = p.1)) ∧ f = .nx [some (arcsD arcs), some (arcsD left), v2, v3, none, none, none]) ∧ S' = [] := by
    refine whileF_sat (fun k ρ S' => S' = [] ∧ ∃ (left : List (Int × Int)) (v3 : Option D), ρ = [some (arcsD arcs), some (arcsD left), some (.int (k : Nat)), v3, none, none, none] ∧ Left arcs left ∧ (k ≤ left.length → ∀ p ∈ left, ∃ q ∈ left, q.2 = p.1)) ?_ 1000 (arcs.length + 1) _ _ (by omega) ⟨rfl, arcs, none, by simp, ⟨fun p h => h, hl, fun W hW q hq => hW.sub q hq⟩, fun h => by omega⟩
    rintro k ρ S' ⟨rfl, left, v3, rfl, L, lk⟩
    have ll : (((left.map pairD).length : Nat) : Int) = ((left.length : Nat) : Int) := by rw [List.length_map]
    have lenL : fLen [arcsD left] [] = .ok (.int ((left.length : Nat) : Int)) [] := by
      show Res.ok (D.int (((left.map pairD).length : Nat) : Int)) [] = _
      rw [ll]
    by_cases h : left.length < k
    · have st := tu_step (A := arcsD arcs) (v2 := some (.int (k : Nat))) (v3 := v3) (left := left) (by have := L.len; omega) []
      have hlt : ((left.length : Nat) : Int) < ((k : Nat) : Int) := by omega
      have goal : (mTu [some (arcsD arcs), some (arcsD left), some (.int (k : Nat)), v3, none, none, none] []).Sat (Turn (fun ρ' S' => ∃ m, m < k ∧ S' = [] ∧ ∃ (left : List (Int × Int)) (v3 : Option D), ρ' = [some (arcsD arcs), some (arcsD left), some (.int (m : Nat)), v3, none, none, none] ∧ Left arcs left ∧ (m ≤ left.length → ∀ p ∈ left, ∃ q ∈ left, q.2 = p.1)) fun f S' => (∃ left v2 v3, (Left arcs left ∧ (∀ p ∈ left, ∃ q ∈ left, q.2 = p.1)) ∧ f = .nx [some (arcsD arcs), some (arcsD left), v2, v3, none, none, none]) ∧ S' = []) := by
        refine sat_of st ?_
        rw [turn_nx]
        have kl : (kept left).length ≤ left.length := List.length_filter_le _ _
        refine ⟨left.length, h, rfl, kept left, _, rfl, L.kept, fun hk p hp => ?_⟩
        have same : kept left = left := by
          have : (kept left).length = left.length := by omega
          exact (List.filter_sublist (l := left)).eq_of_length this
        rw [same] at hp ⊢
        have hp2 : p ∈ kept left := by rw [same]; exact hp
        have := (List.mem_filter.mp hp2).2
        rw [decide_eq_true_eq] at this
        obtain ⟨q, hq, e⟩ := List.mem_map.mp this
        exact ⟨q, hq, e⟩
      have te : (mTB (mOp opLt (mCall fLen (mCons (mVar 1) mNil)) (mVar 2))) [some (arcsD arcs), some (arcsD left), some (.int (k : Nat)), v3, none, none, none] [] = .ok true [] := by
        generalize arcsD left = LD at *
        simp [lenL, hlt]
      exact sat_of te goal
    · have hlt : ¬ ((left.length : Nat) : Int) < ((k : Nat) : Int) := by omega
      have te : (mTB (mOp opLt (mCall fLen (mCons (mVar 1) mNil)) (mVar 2))) [some (arcsD arcs), some (arcsD left), some (.int (k : Nat)), v3, none, none, none] [] = .ok false [] := by
        generalize arcsD left = LD at *
        simp [lenL, hlt]
      refine sat_of te ?_
      exact ⟨⟨left, _, _, ⟨L, lk (by omega)⟩, rfl⟩, rfl⟩
  have hlen : fLen [arcsD arcs] [] = .ok (.int ((arcs.length : Nat) : Int)) [] := by
    show Res.ok (D.int (((arcs.map pairD).length : Nat) : Int)) [] = _
    rw [z1]
  obtain ⟨f, S2, e, ⟨left, v2, v3, ⟨L, st⟩, rfl⟩, rfl⟩ := sat_eq wh
  refine ⟨left, L, st, fun S => fPure_ap S (by simp [pa]) ?_⟩
  have p0 := pure_arcs left
  unfold f_p_turning m_p_turning
  rw [fnM_1]
  show endM 0 ((mSeq _ (mSeq (mWhile _ _ mTu) _)) _ _) = _
  generalize mTu = TU at *
  generalize arcsD arcs = A at *
  generalize arcsD left = B at *
  simp -implicitDefEqProofs [hlen, e, fin_nil, p0]
def keptL (left : List (Int × Int)) : List (Int × Int) := left.filter fun p => decide (p.2 ∈ left.map (·.1))
theorem Left.keptL {left : List (Int × Int)} (h : Left arcs left) : Left arcs (keptL left) :=
  ⟨fun p hp => h.sub p (List.mem_filter.mp hp).1, Nat.le_trans (List.length_filter_le _ _) h.len, fun W hW q hq => List.mem_filter.mpr ⟨h.all W hW q hq, by
    obtain ⟨q', hq', e⟩ := hW.fw q hq
    exact decide_eq_true (List.mem_map.mpr ⟨q', h.all W hW q' hq', e⟩)⟩⟩
def mRg : MS := (mSeq (mAsg (mLc (mItems (mVar 2)) (mgN 7) mYes (mOp opIx (mVar 7) (mC (.int 0))) [7]) (mgN 4))
  (mSeq (mAsg (mLc (mItems (mVar 2)) (mgN 7) (mTB (mOp opIn (mOp opIx (mVar 7) (mC (.int 1))) (mVar 4))) (mVar 7) [7]) (mgN 5))
  (mSeq (mAsg (mOp opLt (mCall fLen (mCons (mVar 5) mNil)) (mCall fLen (mCons (mVar 2) mNil))) (mgN 3))
  (mAsg (mVar 5) (mgN 2)))))
theorem rg_step {v0 v1 v3 v4 v5 : Option D} {left : List (Int × Int)} (hl : left.length ≤ 1000) (S : Store) :
    ∃ w4 w5, mRg [v0, v1, some (arcsD left), v3, v4, v5, none, none] S = .ok (.nx [v0, v1, some (arcsD (keptL left)), some (.bl (decide ((keptL left).length < left.length))), w4, w5, none, none]) S := by
  have z1 : (left.map pairD).length ≤ 100000 := by simp; omega
  have ll : (((left.map pairD).length : Nat) : Int) = ((left.length : Nat) : Int) := by rw [List.length_map]
  have lk : ((((keptL left).map pairD).length : Nat) : Int) = (((keptL left).length : Nat) : Int) := by rw [List.length_map]
  have c1 : ∀ v0 v1 v2 v3 v4 v5 v6 S, lcL (mgN 7) mYes (mOp opIx (mVar 7) (mC (.int 0))) [v0, v1, v2, v3, v4, v5, v6, none] (left.map pairD) S = .ok ((left.map (·.1)).map .int) S := fun v0 v1 v2 v3 v4 v5 v6 S => by
    rw [List.map_map]
    exact lcL_mapx _ S fun r hr => ⟨[v0, v1, v2, v3, v4, v5, v6, some (pairD r)], rfl, by simp [pairD]⟩
  have c2 : ∀ v0 v1 v2 v3 v5 v6 S, lcL (mgN 7) (mTB (mOp opIn (mOp opIx (mVar 7) (mC (.int 1))) (mVar 4))) (mVar 7) [v0, v1, v2, v3, some (.lst ((left.map (·.1)).map .int)), v5, v6, none] (left.map pairD) S = .ok ((keptL left).map pairD) S := fun v0 v1 v2 v3 v5 v6 S => by
    refine lcL_filterb left S fun p hp => ⟨[v0, v1, v2, v3, some (.lst ((left.map (·.1)).map .int)), v5, v6, some (pairD p)], rfl, ?_, by simp⟩
    have i1 : opIx (pairD p) (.int 1) S = .ok (.int p.2) S := rfl
    have il := in_ints (P := left.map (·.1)) (m := p.2) (S := S)
    generalize (left.map (·.1)).map D.int = Z at *
    generalize pairD p = W at *
    simp [i1, il]
  have lenL : ∀ S, fLen [.lst (left.map pairD)] S = .ok (.int ((left.length : Nat) : Int)) S := fun S => by
    show Res.ok (D.int (((left.map pairD).length : Nat) : Int)) S = _
    rw [ll]
  have lenK : ∀ S, fLen [.lst ((keptL left).map pairD)] S = .ok (.int (((keptL left).length : Nat) : Int)) S := fun S => by
    show Res.ok (D.int ((((keptL left).map pairD).length : Nat) : Int)) S = _
    rw [lk]
  have e : decide ((((keptL left).length : Nat) : Int) < ((left.length : Nat) : Int)) = decide ((keptL left).length < left.length) := by rw [decide_eq_decide]; omega
  refine ⟨some (.lst ((left.map (·.1)).map .int)), some (.lst ((keptL left).map pairD)), ?_⟩
  rw [← e]
  unfold arcsD
  generalize (left.map (·.1)).map D.int = Z at *
  generalize (((keptL left).length : Nat) : Int) = ka at *
  generalize ((left.length : Nat) : Int) = la at *
  generalize (keptL left).map pairD = K at *
  generalize left.map pairD = L at *
  unfold mRg
  simp -implicitDefEqProofs [z1, c1, c2, lenL, lenK]
theorem ne_nilD (left : List (Int × Int)) (S : Store) : opNe (arcsD left) (.lst []) S = .ok (.bl (decide (left ≠ []))) S := by
  have s1 : shal 20 (arcsD left) = true := by unfold arcsD; rw [shal_lst]; exact shal_map (fun _ => rfl) left
  rw [ne_plain s1 rfl]
  unfold arcsD
  cases left with
  | nil => rfl
  | cons p left => simp [deq, deqL]
theorem lringP {n : Nat} {qs ls : List (Int × Int)} (h1 : qs.length ≤ 200) (h2 : ls.length ≤ 200) (ar : ∀ p ∈ arcsL qs ls, (0 ≤ p.1 ∧ p.1 ≤ n) ∧ 0 ≤ p.2 ∧ p.2 ≤ (n : Int)) (S : Store) : fPure f_l_ring [.lst (qs.map pairD), looksD ls] S = .ok (.bl (ringedB (arcsL qs ls))) S := by
  have pq := pure_pairs qs
  have pl := pure_looks ls
  refine fPure_ap S (by simp [pq, pl]) ?_
  have al : (arcsL qs ls).length ≤ 400 := by simp [arcsL]; omega
  generalize hA : arcsL qs ls = arcs at *
  have wh : ∀ v0 v1, (whileF (mTest (mVar 3)) mRg 1000 [v0, v1, some (arcsD arcs), some (.bl true), none, none, none, none] []).Sat fun f S' => (∃ left w3 w4 w5, (Left arcs left ∧ (∀ p ∈ left, ∃ q ∈ left, q.1 = p.2)) ∧ f = .nx [v0, v1, some (arcsD left), w3, w4, w5, none, none]) ∧ S' = [] := fun v0 v1 => by
    refine whileF_sat (fun k ρ S' => S' = [] ∧ ∃ (left : List (Int × Int)) (on : Bool) (w4 w5 : Option D), ρ = [v0, v1, some (arcsD left), some (.bl on), w4, w5, none, none] ∧ Left arcs left ∧ (k = left.length + (if on then 1 else 0)) ∧ (on = false → ∀ p ∈ left, ∃ q ∈ left, q.1 = p.2)) ?_ 1000 (arcs.length + 1) _ _ (by omega) ⟨rfl, arcs, true, none, none, rfl, ⟨fun p h => h, by omega, fun W hW q hq => hW.sub q hq⟩, rfl, fun h => by cases h⟩
    rintro k ρ S' ⟨rfl, left, on, w4, w5, rfl, L, ek, st⟩
    cases on with
    | false =>
      refine sat_of (a := false) (S := []) (by simp) ?_
      exact ⟨⟨left, _, _, _, ⟨L, st rfl⟩, rfl⟩, rfl⟩
    | true =>
      refine sat_of (a := true) (S := []) (by simp) ?_
      obtain ⟨u4, u5, es⟩ := rg_step (v0 := v0) (v1 := v1) (v3 := some (.bl true)) (v4 := w4) (v5 := w5) (left := left) (by have := L.len; omega) []
      refine sat_of es ?_
      rw [turn_nx]
      have kl : (keptL left).length ≤ left.length := List.length_filter_le _ _
      refine ⟨(keptL left).length + (if decide ((keptL left).length < left.length) then 1 else 0), ?_, rfl, keptL left, _, _, _, rfl, L.keptL, rfl, fun hk p hp => ?_⟩
      · rw [ek]
        simp only [decide_eq_true_eq, if_true]
        split <;> omega
      · rw [decide_eq_false_iff_not] at hk
        have same : keptL left = left := (List.filter_sublist (l := left)).eq_of_length (by show (keptL left).length = _; omega)
        have hp2 := (List.mem_filter.mp hp).2
        rw [decide_eq_true_eq] at hp2
        rw [same]
        exact List.mem_map.mp hp2
  have c1 : ∀ v0 v1 v2 v3 v4 v5 v7 S, lcL (mgN 6) mYes (mTup (mCons (mOp opIx (mVar 6) (mC (.int 1))) (mCons (mOp opIx (mVar 6) (mC (.int 0))) mNil))) [v0, v1, v2, v3, v4, v5, none, v7] (qs.map pairD) S = .ok ((qs.map swp).map pairD) S := fun v0 v1 v2 v3 v4 v5 v7 S => by
    rw [List.map_map]
    exact lcL_mapx _ S fun r hr => ⟨[v0, v1, v2, v3, v4, v5, some (pairD r), v7], rfl, by simp [pairD, swp]⟩
  have c2 : ∀ v0 v1 v2 v3 v4 v5 v7 S, lcL (mgN 6) mYes (mTup (mCons (mOp opIx (mVar 6) (mC (.int 0))) (mCons (mOp opIx (mVar 6) (mC (.int 1))) mNil))) [v0, v1, v2, v3, v4, v5, none, v7] (ls.map pairD) S = .ok (ls.map pairD) S := fun v0 v1 v2 v3 v4 v5 v7 S =>
    lcL_mapx _ S fun r hr => ⟨[v0, v1, v2, v3, v4, v5, some (pairD r), v7], rfl, by simp [pairD]⟩
  have z1 : (qs.map pairD).length ≤ 100000 := by simp; omega
  have z2 : (ls.map pairD).length ≤ 100000 := by simp; omega
  have z3 : ((qs.map swp).map pairD).length + (ls.map pairD).length ≤ 100000 := by simp; omega
  have eA : D.lst ((qs.map swp).map pairD ++ ls.map pairD) = arcsD arcs := by
    rw [← hA]
    unfold arcsD arcsL
    rw [List.map_append]
  have key : ∀ left, Left arcs left → (∀ p ∈ left, ∃ q ∈ left, q.1 = p.2) → decide (left ≠ []) = ringedB arcs := fun left L st => by
    cases hr : ringedB arcs with
    | true =>
      obtain ⟨W, hW⟩ := loop_ex hr
      obtain ⟨q, hq⟩ := List.exists_mem_of_ne_nil _ hW.ne
      exact decide_eq_true (List.ne_nil_of_mem (L.all W hW q hq))
    | false =>
      have := stuck_nil2 (calm_pot ar hr) L.sub st
      rw [this]
      rfl
  obtain ⟨f, S2, e, ⟨left, w3, w4, w5, ⟨L, st⟩, rfl⟩, rfl⟩ := sat_eq (wh (some (.lst (qs.map pairD))) (some (looksD ls)))
  have ne := fun S => ne_nilD left S
  rw [key left L st] at ne
  have fn : ∀ b, fin 0 (.bl b) [] = .ok (.bl b) [] := fun b => fin_nil rfl
  unfold f_l_ring m_l_ring
  rw [fnM_2]
  show endM 0 ((mSeq _ (mSeq _ (mSeq (mWhile _ _ mRg) _))) _ _) = _
  unfold looksD at e ⊢
  generalize ringedB arcs = rr at *
  generalize mRg = M at *
  generalize arcsD arcs = A at *
  generalize arcsD left = B at *
  generalize (qs.map swp).map pairD = Q1 at *
  generalize qs.map pairD = Q2 at *
  generalize ls.map pairD = Q3 at *
  simp -implicitDefEqProofs [z1, z2, z3, c1, c2, eA, e, ne, fn]
end
abbrev Way := List Int × Int
def wayD (w : Way) : D := .tup ((w.1 ++ [w.2]).map .int)
def stepW (w : Way) (s : List Int × List Way) (p : Int × Int) : List Int × List Way := if p.1 = w.2 ∧ p.2 ∉ s.1 then (s.1 ++ [p.2], s.2 ++ [(w.1 ++ [w.2], p.2)]) else s
def spread (arcs : List (Int × Int)) (s : List Int × List Way) (w : Way) : List Int × List Way := arcs.foldl (stepW w) s
structure Grow (arcs : List (Int × Int)) (B : Nat) (s t : List Int × List Way) : Prop where
  sub : ∀ x ∈ s.1, x ∈ t.1
  sub2 : ∀ w ∈ s.2, w ∈ t.2
  new : ∀ x ∈ t.1, x ∈ s.1 ∨ ∃ w ∈ t.2, w.2 = x
  op : openN arcs t.1 + t.2.length ≤ openN arcs s.1 + s.2.length
  len : t.1.length + openN arcs t.1 ≤ s.1.length + openN arcs s.1
  lens : ∀ w ∈ t.2, w ∈ s.2 ∨ w.1.length ≤ B
section
variable {arcs : List (Int × Int)} {B : Nat} {s t u : List Int × List Way}
theorem Grow.refl : Grow arcs B s s := ⟨fun _ h => h, fun _ h => h, fun _ h => .inl h, Nat.le_refl _, Nat.le_refl _, fun _ h => .inl h⟩
theorem Grow.trans (h : Grow arcs B s t) (h2 : Grow arcs B t u) : Grow arcs B s u :=
  ⟨fun x hx => h2.sub x (h.sub x hx), fun x hx => h2.sub2 x (h.sub2 x hx), fun x hx => by
    rcases h2.new x hx with z | z
    · rcases h.new x z with y | ⟨w, hw, e⟩
      · exact .inl y
      · exact .inr ⟨w, h2.sub2 w hw, e⟩
    · exact .inr z, Nat.le_trans h2.op h.op, Nat.le_trans h2.len h.len, fun w hw => by
    rcases h2.lens w hw with z | z
    · exact h.lens w z
    · exact .inr z⟩
theorem step_grow {w : Way} {p : Int × Int} (hp : p ∈ arcs) (hB : w.1.length + 1 ≤ B) : Grow arcs B s (stepW w s p) := by
  unfold stepW
  split
  · next h =>
    have lt := filtP_lt (P := fun q : Int × Int => !decide (q.2 ∈ s.1 ++ [p.2])) (Q := fun q => !decide (q.2 ∈ s.1)) (m := p) (by simp [h.2]) (by simp) arcs hp (fun i _ hi => by
      simp only [Bool.not_eq_true', decide_eq_false_iff_not, List.mem_append, not_or] at hi ⊢
      exact hi.1)
    have lt2 : openN arcs (s.1 ++ [p.2]) + 1 ≤ openN arcs s.1 := lt
    refine ⟨fun x hx => List.mem_append.mpr (.inl hx), fun x hx => List.mem_append.mpr (.inl hx), fun x hx => ?_, ?_, ?_, fun v hv => ?_⟩
    · rcases List.mem_append.mp hx with z | z
      · exact .inl z
      · rw [List.mem_singleton] at z
        exact .inr ⟨_, List.mem_append.mpr (.inr (List.mem_singleton.mpr rfl)), z.symm⟩
    · show openN arcs (s.1 ++ [p.2]) + (s.2 ++ [_]).length ≤ _
      rw [List.length_append, List.length_singleton]
      omega
    · show (s.1 ++ [p.2]).length + openN arcs (s.1 ++ [p.2]) ≤ _
      rw [List.length_append, List.length_singleton]
      omega
    · rcases List.mem_append.mp hv with z | z
      · exact .inl z
      · rw [List.mem_singleton] at z
        subst z
        right
        show (w.1 ++ [w.2]).length ≤ B
        rw [List.length_append, List.length_singleton]
        omega
  · exact .refl
theorem step_arc {w : Way} {p : Int × Int} (h : p.1 = w.2) : p.2 ∈ (stepW w s p).1 := by
  unfold stepW
  split
  · exact List.mem_append.mpr (.inr (List.mem_singleton.mpr rfl))
  · next z =>
    by_cases m : p.2 ∈ s.1
    · exact m
    · exact absurd ⟨h, m⟩ z
theorem fold_grow {w : Way} (hB : w.1.length + 1 ≤ B) : ∀ (L : List (Int × Int)) (s : List Int × List Way), (∀ p ∈ L, p ∈ arcs) → Grow arcs B s (L.foldl (stepW w) s) ∧ ∀ p ∈ L, p.1 = w.2 → p.2 ∈ (L.foldl (stepW w) s).1
  | [], s, _ => ⟨.refl, fun p hp => by cases hp⟩
  | p :: L, s, h => by
    obtain ⟨g, a⟩ := fold_grow hB L (stepW w s p) fun q hq => h q (List.mem_cons_of_mem _ hq)
    refine ⟨(step_grow (h p (List.mem_cons_self ..)) hB).trans g, fun q hq e => ?_⟩
    rcases List.mem_cons.mp hq with rfl | m
    · exact g.sub _ (step_arc e)
    · exact a q m e
theorem spreads_grow : ∀ (ws : List Way) (s : List Int × List Way), (∀ w ∈ ws, w.1.length + 1 ≤ B) → Grow arcs B s (ws.foldl (spread arcs) s) ∧ ∀ w ∈ ws, ∀ p ∈ arcs, p.1 = w.2 → p.2 ∈ (ws.foldl (spread arcs) s).1
  | [], s, _ => ⟨.refl, fun w hw => by cases hw⟩
  | w :: ws, s, h => by
    obtain ⟨g0, a0⟩ := fold_grow (h w (List.mem_cons_self ..)) arcs s fun p hp => hp
    obtain ⟨g, a⟩ := spreads_grow ws (spread arcs s w) fun v hv => h v (List.mem_cons_of_mem _ hv)
    refine ⟨g0.trans g, fun v hv p hp e => ?_⟩
    rcases List.mem_cons.mp hv with rfl | m
    · exact g.sub _ (a0 p hp e)
    · exact a v m p hp e
end
def mPi : MS := (mIf (mAndT (mTB (mOp opEq (mVar 7) (mOp opIx (mVar 6) (mNeg (mC (.int 1)))))) (mTB (mOp opNin (mVar 8) (mVar 4)))) (mSeq (mDrop (mApp (mVar 4) (mVar 8)))
  (mDrop (mApp (mVar 5) (mTup (mStar (mVar 6) (mCons (mVar 8) mNil)))))) mSkip)
def mPw : MS := (mSeq (mIf (mTB (mOp opEq (mOp opIx (mVar 6) (mNeg (mC (.int 1)))) (mVar 2))) (mRet (mVar 6)) mSkip)
  (mFor (mItems (mVar 0)) (mgTup 2 (mgCons (mgN 7) (mgCons (mgN 8) mgNil))) mPi))
def mPb : MS := (mSeq (mAsg (mCell mNil) (mgN 5))
  (mSeq (mFor (mItems (mFrz (mVar 3))) (mgN 6) mPw)
  (mAsg (mVar 5) (mgN 3))))
def stP (mid : Store) (s : List Int × List Way) : Store := .lst (s.1.map .int) :: (mid ++ [.lst (s.2.map wayD)])
section
variable {arcs : List (Int × Int)} {mid : Store} {s : List Int × List Way}
theorem eqI {i j : Int} {S : Store} : opEq (.int i) (.int j) S = .ok (.bl (decide (i = j))) S := by
  rw [eq_plain rfl rfl]
  show Res.ok (D.bl (i == j)) S = _
  rfl
theorem stP_at : (stP mid s)[mid.length + 1]? = some (.lst (s.2.map wayD)) := by
  unfold stP
  simp
theorem stP_setL (ws : List Way) : (stP mid s).set (mid.length + 1) (.lst (ws.map wayD)) = stP mid (s.1, ws) := by
  unfold stP
  simp
theorem way_ix (w : Way) (S : Store) : opIx (wayD w) (.int (-1)) S = .ok (.int w.2) S := by
  unfold wayD
  rw [ix_tupD, List.map_append, List.map_singleton, atI_last]
  rfl
theorem way_star (w : Way) (x : Int) (ρ : Q.Env) (S : Store) (m : MA) (h : m ρ S = .ok [.int x] S) : starK m ρ (wayD w) S = .ok ((w.1 ++ [w.2] ++ [x]).map .int) S := by
  unfold wayD
  rw [starK_tup, h, bind_ok, starK2_ap, List.map_append (l₂ := [x])]
  rfl
theorem pi_step {A v1 v2 v3 : Option D} {w : Way} {p : Int × Int} (h1 : s.1.length < 90000) (h2 : s.2.length < 90000) (hw : w.1.length < 90000) :
    mPi [A, v1, v2, v3, some (.ref 0), some (.ref (mid.length + 1)), some (wayD w), some (.int p.1), some (.int p.2)] (stP mid s) = .ok (.nx [A, v1, v2, v3, some (.ref 0), some (.ref (mid.length + 1)), some (wayD w), some (.int p.1), some (.int p.2)]) (stP mid (stepW w s p)) := by
  have ix := way_ix w (stP mid s)
  have ni : opNin (.int p.2) (.ref 0) (stP mid s) = .ok (.bl (!decide (p.2 ∈ s.1))) (stP mid s) := nin_ints (S := stP mid s)
  have eq := eqI (i := p.1) (j := w.2) (S := stP mid s)
  unfold mPi stepW
  by_cases e1 : p.1 = w.2
  · by_cases e2 : p.2 ∈ s.1
    · rw [if_neg (fun z => z.2 e2)]
      rw [decide_eq_true e2] at ni
      rw [decide_eq_true e1] at eq
      generalize stP mid s = T at *
      generalize wayD w = W at *
      simp -implicitDefEqProofs [ix, ni, eq]
    · rw [if_pos ⟨e1, e2⟩]
      rw [decide_eq_false e2] at ni
      rw [decide_eq_true e1] at eq
      have ap : appTo 0 (.int p.2) (stP mid s) = .ok .non (stP mid (s.1 ++ [p.2], s.2)) := by
        rw [appTo_ok (xs := s.1.map .int) _ rfl (by rw [List.length_map]; omega)]
        show Res.ok D.non (Cell.lst (s.1.map .int ++ [.int p.2]) :: (mid ++ [.lst (s.2.map wayD)])) = Res.ok D.non (Cell.lst ((s.1 ++ [p.2]).map .int) :: (mid ++ [.lst (s.2.map wayD)]))
        rw [List.map_append]
        rfl
      have no1 : notOb (stP mid s) 0 = true := notOb_lst (xs := s.1.map .int) rfl
      have at2 := stP_at (mid := mid) (s := (s.1 ++ [p.2], s.2))
      have no2 := notOb_lst at2
      have ap2 : appTo (mid.length + 1) (.tup ((w.1 ++ [w.2] ++ [p.2]).map .int)) (stP mid (s.1 ++ [p.2], s.2)) = .ok .non (stP mid (s.1 ++ [p.2], s.2 ++ [(w.1 ++ [w.2], p.2)])) := by
        rw [appTo_ok _ at2 (by rw [List.length_map]; exact Nat.lt_of_lt_of_le h2 (by decide))]
        congr 1
        have := stP_setL (mid := mid) (s := (s.1 ++ [p.2], s.2)) (s.2 ++ [(w.1 ++ [w.2], p.2)])
        rw [List.map_append] at this
        exact this
      have sk := fun ρ S m h => way_star w p.2 ρ S m h
      have hz : ((w.1 ++ [w.2] ++ [p.2]).map D.int).length ≤ 100000 := by simp; omega
      generalize stP mid s = T at *
      generalize stP mid (s.1 ++ [p.2], s.2) = T2 at *
      generalize stP mid (s.1 ++ [p.2], s.2 ++ [(w.1 ++ [w.2], p.2)]) = T3 at *
      generalize (w.1 ++ [w.2] ++ [p.2]).map D.int = WP at *
      generalize wayD w = W at *
      simp -implicitDefEqProofs [ix, ni, eq, no1, ap, no2, ap2, sk, hz]
  · rw [if_neg (fun z => e1 z.1)]
    rw [decide_eq_false e1] at eq
    generalize stP mid s = T at *
    generalize wayD w = W at *
    simp -implicitDefEqProofs [ix, eq]
theorem pi_loop {A v1 v2 v3 : Option D} {w : Way} (hw : w.1.length < 90000) : ∀ (L : List (Int × Int)) (s : List Int × List Way) (v7 v8 : Option D), s.1.length + L.length < 90000 → s.2.length + L.length < 90000 →
    ∃ w7 w8, forL (mgTup 2 (mgCons (mgN 7) (mgCons (mgN 8) mgNil))) mPi (L.map pairD) [A, v1, v2, v3, some (.ref 0), some (.ref (mid.length + 1)), some (wayD w), v7, v8] (stP mid s) = .ok (.nx [A, v1, v2, v3, some (.ref 0), some (.ref (mid.length + 1)), some (wayD w), w7, w8]) (stP mid (L.foldl (stepW w) s))
  | [], s, v7, v8, _, _ => ⟨v7, v8, rfl⟩
  | p :: L, s, v7, v8, h1, h2 => by
    rw [List.length_cons] at h1 h2
    have l1 : (stepW w s p).1.length ≤ s.1.length + 1 := by unfold stepW; split <;> simp
    have l2 : (stepW w s p).2.length ≤ s.2.length + 1 := by unfold stepW; split <;> simp
    obtain ⟨w7, w8, ih⟩ := pi_loop (A := A) (v1 := v1) (v2 := v2) (v3 := v3) hw L (stepW w s p) (some (.int p.1)) (some (.int p.2)) (by omega) (by omega)
    refine ⟨w7, w8, ?_⟩
    have st := pi_step (A := A) (v1 := v1) (v2 := v2) (v3 := v3) (mid := mid) (s := s) (w := w) (p := p) (by omega) (by omega) hw
    have g0 : mgTup 2 (mgCons (mgN 7) (mgCons (mgN 8) mgNil)) (pairD p) [A, v1, v2, v3, some (.ref 0), some (.ref (mid.length + 1)), some (wayD w), v7, v8] (stP mid s) = .ok [A, v1, v2, v3, some (.ref 0), some (.ref (mid.length + 1)), some (wayD w), some (.int p.1), some (.int p.2)] (stP mid s) := by
      generalize stP mid s = T at *
      simp [pairD]
    rw [List.map_cons, forL_cons, g0, bind_ok, forBK_ap, st, bind_ok]
    exact ih
theorem pw_step {v1 v3 : Option D} {e : Int} {w : Way} {v7 v8 : Option D} (hw : w.1.length < 90000) (hl : arcs.length ≤ 1000) (h1 : s.1.length + arcs.length < 90000) (h2 : s.2.length + arcs.length < 90000) :
    ∃ w7 w8, mPw [some (arcsD arcs), v1, some (.int e), v3, some (.ref 0), some (.ref (mid.length + 1)), some (wayD w), v7, v8] (stP mid s) = if w.2 = e then .ok (.rt (wayD w)) (stP mid s) else .ok (.nx [some (arcsD arcs), v1, some (.int e), v3, some (.ref 0), some (.ref (mid.length + 1)), some (wayD w), w7, w8]) (stP mid (spread arcs s w)) := by
  obtain ⟨w7, w8, lp⟩ := pi_loop (A := some (arcsD arcs)) (v1 := v1) (v2 := some (.int e)) (v3 := v3) (mid := mid) hw arcs s v7 v8 h1 h2
  refine ⟨w7, w8, ?_⟩
  have ix := way_ix w (stP mid s)
  have eq := eqI (i := w.2) (j := e) (S := stP mid s)
  have z : (arcs.map pairD).length ≤ 100000 := by simp; omega
  unfold mPw spread
  unfold arcsD at *
  generalize mPi = M at *
  generalize arcs.map pairD = A at *
  generalize stP mid (arcs.foldl (stepW w) s) = T2 at *
  generalize stP mid s = T at *
  generalize wayD w = W at *
  by_cases c : w.2 = e
  · rw [if_pos c]
    rw [decide_eq_true c] at eq
    simp -implicitDefEqProofs [ix, eq]
  · rw [if_neg c]
    rw [decide_eq_false c] at eq
    simp -implicitDefEqProofs [ix, eq, z, lp]
def PwP (arcs : List (Int × Int)) (mid : Store) (e : Int) (v0 v1 v3 : Option D) (ws : List Way) (s : List Int × List Way) (r : Res Fl) : Prop :=
  (∃ w ∈ ws, ∃ T, r = .ok (.rt (wayD w)) T) ∨ ((∀ w ∈ ws, w.2 ≠ e) ∧ ∃ w6 w7 w8, r = .ok (.nx [v0, v1, some (.int e), v3, some (.ref 0), some (.ref (mid.length + 1)), w6, w7, w8]) (stP mid (ws.foldl (spread arcs) s)))
theorem pw_loop {v1 v3 : Option D} {e : Int} {B C : Nat} (hl : arcs.length ≤ 1000) (hB : B ≤ 1000) (hC : C ≤ 50000) : ∀ (ws : List Way) (s : List Int × List Way) (v6 v7 v8 : Option D), (∀ w ∈ ws, w.1.length + 1 ≤ B) → s.1.length + openN arcs s.1 ≤ C → openN arcs s.1 + s.2.length ≤ C →
    PwP arcs mid e (some (arcsD arcs)) v1 v3 ws s (forL (mgN 6) mPw (ws.map wayD) [some (arcsD arcs), v1, some (.int e), v3, some (.ref 0), some (.ref (mid.length + 1)), v6, v7, v8] (stP mid s))
  | [], s, v6, v7, v8, _, _, _ => .inr ⟨fun w hw => (by cases hw), v6, v7, v8, rfl⟩
  | w :: ws, s, v6, v7, v8, h, h1, h2 => by
    have hwB := h w (List.mem_cons_self ..)
    obtain ⟨w7, w8, st⟩ := pw_step (v1 := v1) (v3 := v3) (e := e) (mid := mid) (s := s) (v7 := v7) (v8 := v8) (w := w) (by omega) hl (by omega) (by omega)
    have g0 : mgN 6 (wayD w) [some (arcsD arcs), v1, some (.int e), v3, some (.ref 0), some (.ref (mid.length + 1)), v6, v7, v8] (stP mid s) = .ok [some (arcsD arcs), v1, some (.int e), v3, some (.ref 0), some (.ref (mid.length + 1)), some (wayD w), v7, v8] (stP mid s) := rfl
    rw [List.map_cons, forL_cons, g0, bind_ok, forBK_ap, st]
    by_cases c : w.2 = e
    · rw [if_pos c, bind_ok]
      exact .inl ⟨w, List.mem_cons_self .., _, rfl⟩
    · rw [if_neg c, bind_ok]
      have g := (fold_grow (B := B) hwB arcs s fun p hp => hp).1
      have ih := pw_loop (v1 := v1) (v3 := v3) (e := e) hl hB hC ws (spread arcs s w) (some (wayD w)) w7 w8 (fun v hv => h v (List.mem_cons_of_mem _ hv)) (Nat.le_trans g.len h1) (Nat.le_trans g.op h2)
      rcases ih with ⟨v, hv, T, er⟩ | ⟨hne, u6, u7, u8, er⟩
      · exact .inl ⟨v, List.mem_cons_of_mem _ hv, T, er⟩
      · refine .inr ⟨fun v hv => ?_, u6, u7, u8, er⟩
        rcases List.mem_cons.mp hv with rfl | m
        · exact c
        · exact hne v m
end
theorem len_refL {S : Store} {k : Nat} {xs : List D} (h : S[k]? = some (.lst xs)) : fLen [.ref k] S = .ok (.int (xs.length : Nat)) S := by simp [fLen, un1, gLen, seqOf, rdL, lstOf, h]
def HasW (mid : Store) (ws : List Way) (d : D) : Prop := d = .lst (ws.map wayD) ∨ ∃ i, d = .ref (i + 1) ∧ mid[i]? = some (.lst (ws.map wayD))
section
variable {arcs : List (Int × Int)} {mid : Store} {ws : List Way} {d : D} {seen : List Int}
theorem HasW.len (h : HasW mid ws d) : fLen [d] (.lst (seen.map .int) :: mid) = .ok (.int (ws.length : Nat)) (.lst (seen.map .int) :: mid) := by
  rcases h with rfl | ⟨i, rfl, h⟩
  · rw [len_lst, List.length_map]
  · rw [len_refL (xs := ws.map wayD) (by simpa using h), List.length_map]
theorem HasW.fz (h : HasW mid ws d) : ∃ mid', mid'.length = mid.length ∧ Q.fz d (stP mid (seen, [])) = .ok (.lst (ws.map wayD)) (stP mid' (seen, [])) := by
  rcases h with rfl | ⟨i, rfl, h⟩
  · exact ⟨mid, rfl, rfl⟩
  · have hi : i < mid.length := (List.getElem?_eq_some_iff.mp h).1
    refine ⟨mid.set i (.frz (ws.map wayD)), List.length_set .., ?_⟩
    have g : (stP mid (seen, []))[i + 1]? = some (.lst (ws.map wayD)) := by
      unfold stP
      rw [List.getElem?_cons_succ, List.getElem?_append_left hi, h]
    rw [fz_ref g]
    unfold stP
    rw [List.set_cons_succ, List.set_append_left _ _ hi]
structure Heads (arcs : List (Int × Int)) (a e : Int) (seen : List Int) (ws : List Way) (k : Nat) : Prop where
  st : a ∈ seen
  cl : ∀ x ∈ seen, (x ≠ e ∧ ∀ p ∈ arcs, p.1 = x → p.2 ∈ seen) ∨ ∃ w ∈ ws, w.2 = x
  kk : k = openN arcs seen + ws.length
  len : seen.length + openN arcs seen ≤ arcs.length + 1
  lens : ∀ w ∈ ws, w.1.length + k ≤ arcs.length + 1
theorem Heads.next {a e : Int} {k : Nat} (h : Heads arcs a e seen ws k) (hne : ∀ w ∈ ws, w.2 ≠ e) (hw : ws ≠ []) :
    ∃ m, m < k ∧ Heads arcs a e (ws.foldl (spread arcs) (seen, [])).1 (ws.foldl (spread arcs) (seen, [])).2 m := by
  have hk := List.length_pos_iff.mpr hw
  have kk := h.kk
  have kle : k ≤ arcs.length + 1 := by
    obtain ⟨w, hm⟩ := List.exists_mem_of_ne_nil _ hw
    have := h.lens w hm
    omega
  obtain ⟨g, al⟩ := spreads_grow (arcs := arcs) (B := arcs.length + 2 - k) ws (seen, []) fun w hm => by have := h.lens w hm; omega
  have op := g.op
  have op2 : openN arcs (ws.foldl (spread arcs) (seen, [])).1 + (ws.foldl (spread arcs) (seen, [])).2.length ≤ openN arcs seen + 0 := op
  refine ⟨openN arcs (ws.foldl (spread arcs) (seen, [])).1 + (ws.foldl (spread arcs) (seen, [])).2.length, by omega, g.sub a h.st, fun x hx => ?_, rfl, Nat.le_trans g.len h.len, fun w hm => ?_⟩
  · rcases g.new x hx with z | z
    · rcases h.cl x z with ⟨c1, c2⟩ | ⟨w, hm, rfl⟩
      · exact .inl ⟨c1, fun p hp e => g.sub _ (c2 p hp e)⟩
      · exact .inl ⟨hne w hm, fun p hp e => al w hm p hp e⟩
    · exact .inr z
  · rcases g.lens w hm with z | z
    · cases z
    · omega
def PathD (arcs : List (Int × Int)) (a e : Int) (d : D) : Prop := (d = .non ∧ e ∉ Led arcs [a]) ∨ ∃ w : Way, w.1.length ≤ 1000 ∧ d = wayD w
theorem Heads.stop {a e : Int} {k : Nat} (h : Heads arcs a e seen [] k) : e ∉ Led arcs [a] := fun z => by
  have key := leds_min (T := fun x => x ∈ seen ∧ x ≠ e) (fun p hp hh => by
    have c : ∀ x ∈ seen, x ≠ e ∧ ∀ p ∈ arcs, p.1 = x → p.2 ∈ seen := fun x hx => by
      rcases h.cl x hx with z | ⟨w, hw, _⟩
      · exact z
      · cases hw
    have m := (c p.1 hh.1).2 p hp rfl
    exact ⟨m, (c p.2 m).1⟩) arcs.length [a] (fun x hx => by
      rw [List.mem_singleton] at hx
      subst hx
      refine ⟨h.st, ?_⟩
      rcases h.cl x h.st with z | ⟨w, hw, _⟩
      · exact z.1
      · cases hw) e z
  exact key.2 rfl
def PbP (arcs : List (Int × Int)) (a e : Int) (f : Fl) (S : Store) : Prop := (∃ w : Way, w.1.length ≤ 1000 ∧ f = .rt (wayD w)) ∨ (e ∉ Led arcs [a] ∧ ∃ ρ, f = .nx ρ)
def PbI (arcs : List (Int × Int)) (a e : Int) (k : Nat) (ρ : Q.Env) (S : Store) : Prop := ∃ (mid : Store) (seen : List Int) (ws : List Way) (d : D) (v5 v6 v7 v8 : Option D), HasW mid ws d ∧ Heads arcs a e seen ws k ∧ S = .lst (seen.map .int) :: mid ∧ ρ = [some (arcsD arcs), some (.int a), some (.int e), some d, some (.ref 0), v5, v6, v7, v8]
theorem pb_turn {a e : Int} (hl : arcs.length ≤ 900) {k : Nat} {v5 v6 v7 v8 : Option D} (hW : HasW mid ws d) (h : Heads arcs a e seen ws k) (hw : ws ≠ []) :
    (mPb [some (arcsD arcs), some (.int a), some (.int e), some d, some (.ref 0), v5, v6, v7, v8] (.lst (seen.map .int) :: mid)).Sat (Turn (fun ρ' S' => ∃ m, m < k ∧ PbI arcs a e m ρ' S') (PbP arcs a e)) := by
  obtain ⟨mid', ml, fz⟩ := hW.fz (seen := seen)
  have kk := h.kk
  have kle : k ≤ arcs.length + 1 := by
    obtain ⟨w, hm⟩ := List.exists_mem_of_ne_nil _ hw
    have := h.lens w hm
    omega
  have hlw : ∀ w ∈ ws, w.1.length + 1 ≤ arcs.length + 2 := fun w hm => by have := h.lens w hm; omega
  have lp := pw_loop (mid := mid') (v1 := some (.int a)) (v3 := some d) (e := e) (B := arcs.length + 2) (C := arcs.length + 1) (arcs := arcs) (by omega) (by omega) (by omega) ws (seen, []) v6 v7 v8 hlw h.len (by show openN arcs seen + 0 ≤ _; omega)
  have zw : (ws.map wayD).length ≤ 100000 := by rw [List.length_map]; omega
  have s0 : Cell.lst (seen.map D.int) :: mid ++ [Cell.lst []] = stP mid (seen, []) := rfl
  have sl : (Cell.lst (seen.map D.int) :: mid).length = mid.length + 1 := rfl
  rw [ml] at lp
  rcases lp with ⟨w, hm, T, er⟩ | ⟨hne, u6, u7, u8, er⟩
  · have g : mPb [some (arcsD arcs), some (.int a), some (.int e), some d, some (.ref 0), v5, v6, v7, v8] (.lst (seen.map .int) :: mid) = .ok (.rt (wayD w)) T := by
      unfold mPb
      generalize mPw = M at *
      generalize wayD w = WW at *
      generalize arcsD arcs = A at *
      generalize stP mid (seen, []) = T1 at *
      generalize stP mid' (seen, []) = T2 at *
      generalize ws.map wayD = WS at *
      generalize Cell.lst (seen.map D.int) :: mid = T0 at *
      simp -implicitDefEqProofs [s0, sl, fz, zw, er]
    refine sat_of g ?_
    rw [turn_rt]
    exact .inl ⟨w, by have := hlw w hm; omega, rfl⟩
  · obtain ⟨m, hm, hh⟩ := h.next hne hw
    generalize ws.foldl (spread arcs) (seen, []) = s2 at *
    have g : mPb [some (arcsD arcs), some (.int a), some (.int e), some d, some (.ref 0), v5, v6, v7, v8] (.lst (seen.map .int) :: mid) = .ok (.nx [some (arcsD arcs), some (.int a), some (.int e), some (.ref (mid.length + 1)), some (.ref 0), some (.ref (mid.length + 1)), u6, u7, u8]) (stP mid' s2) := by
      unfold mPb
      generalize mPw = M at *
      generalize arcsD arcs = A at *
      generalize stP mid (seen, []) = T1 at *
      generalize stP mid' (seen, []) = T2 at *
      generalize stP mid' s2 = T3 at *
      generalize ws.map wayD = WS at *
      generalize Cell.lst (seen.map D.int) :: mid = T0 at *
      simp -implicitDefEqProofs [s0, sl, fz, zw, er, ml]
    refine sat_of g ?_
    rw [turn_nx]
    exact ⟨m, hm, mid' ++ [.lst (s2.2.map wayD)], s2.1, s2.2, .ref (mid.length + 1), _, _, _, _, .inr ⟨mid.length, rfl, by rw [← ml]; simp⟩, hh, rfl, rfl⟩
theorem pureWay (w : Way) : pureD (wayD w) = true := pure_ints _
theorem pathP (hl : arcs.length ≤ 900) (a e : Int) : ∃ d, PathD arcs a e d ∧ ∀ S, fPure f_p_path [arcsD arcs, .int a, .int e] S = .ok d S := by
  have pa := pure_arcs arcs
  have wh : (whileF (mTB (mOp opGt (mCall fLen (mCons (mVar 3) mNil)) (mC (.int 0)))) mPb 1000 [some (arcsD arcs), some (.int a), some (.int e), some (.lst [wayD ([], a)]), some (.ref 0), none, none, none, none] [.lst [.int a]]).Sat (PbP arcs a e) := by
    have op : openN arcs [a] ≤ arcs.length := List.length_filter_le _ _
    refine whileF_sat (PbI arcs a e) ?_ 1000 (openN arcs [a] + 1) _ _ (by omega) ⟨[], [a], [([], a)], _, _, _, _, _, .inl rfl, ⟨List.mem_singleton.mpr rfl, fun x hx => .inr ⟨_, List.mem_singleton.mpr rfl, (List.mem_singleton.mp hx).symm⟩, rfl, by simp only [List.length_singleton]; omega, fun w hw => by rw [List.mem_singleton] at hw; subst hw; simp only [List.length_nil]; omega⟩, rfl, rfl⟩
    rintro k ρ S ⟨mid, seen, ws, d, v5, v6, v7, v8, hW, hh, rfl, rfl⟩
    have ln := hW.len (seen := seen)
    cases ws with
    | nil =>
      refine sat_of (a := false) (S := .lst (seen.map .int) :: mid) ?_ ?_
      · generalize Cell.lst (seen.map D.int) :: mid = T at *
        have e0 : ((([] : List Way).length : Nat) : Int) = 0 := rfl
        rw [e0] at ln
        simp -implicitDefEqProofs [ln]
      · exact .inr ⟨hh.stop, _, rfl⟩
    | cons w ws =>
      refine sat_of (a := true) (S := .lst (seen.map .int) :: mid) ?_ (pb_turn hl hW hh (by simp))
      generalize Cell.lst (seen.map D.int) :: mid = T at *
      have e0 : ((((w :: ws).length : Nat) : Int) > 0) := by rw [List.length_cons]; omega
      generalize (((w :: ws).length : Nat) : Int) = L at *
      simp -implicitDefEqProofs [ln]
      exact e0
  obtain ⟨f, S2, er, hp⟩ := sat_eq wh
  have w0 : D.tup [.int a] = wayD ([], a) := rfl
  have hf : ∃ d, PathD arcs a e d ∧ fnM 9 3 m_p_path [arcsD arcs, .int a, .int e] [] = .ok d [] := by
    unfold m_p_path
    rw [fnM_3]
    show ∃ d, _ ∧ endM 0 (mSeq _ (mSeq (mWhile _ _ mPb) _) _ _) = _
    rcases hp with ⟨w, hw, rfl⟩ | ⟨hn, ρ, rfl⟩
    · refine ⟨wayD w, .inr ⟨w, hw, rfl⟩, ?_⟩
      have pw := fin_nil (S := S2) (pureWay w)
      rw [← w0] at er
      generalize mPb = M at *
      generalize wayD w = W at *
      generalize arcsD arcs = A at *
      simp -implicitDefEqProofs [er, pw]
    · refine ⟨.non, .inl ⟨rfl, hn⟩, ?_⟩
      have pw := fin_nil (S := S2) (d := .non) rfl
      rw [← w0] at er
      generalize mPb = M at *
      generalize arcsD arcs = A at *
      simp -implicitDefEqProofs [er, pw]
  obtain ⟨d, hd, e1⟩ := hf
  exact ⟨d, hd, fun S => fPure_ap S (by simp [pa]) e1⟩
def mRn : MS := (mSeq (mAsg (mCall (fPure f_p_path) (mCons (mVar 1) (mCons (mVar 3) (mCons (mVar 2) mNil)))) (mgN 4))
  (mIf (mTB (mNotN (mVar 4))) (mRet (mTup (mCons (mVar 2) (mStar (mVar 4) mNil)))) mSkip))
theorem rn_loop {left : List (Int × Int)} (hl : left.length ≤ 900) {X : Option D} : ∀ (L : List (Int × Int)) (v2 v3 v4 : Option D), (∃ p ∈ L, p.1 ∈ Led left [p.2]) →
    ∃ d, d ≠ .non ∧ pureD d = true ∧ ∀ S, forL (mgTup 2 (mgCons (mgN 2) (mgCons (mgN 3) mgNil))) mRn (L.map pairD) [X, some (arcsD left), v2, v3, v4] S = .ok (.rt d) S
  | [], _, _, _, h => by obtain ⟨p, hp, _⟩ := h; cases hp
  | p :: L, v2, v3, v4, h => by
    obtain ⟨d, hd, e⟩ := pathP hl p.2 p.1
    have g0 : ∀ S, mgTup 2 (mgCons (mgN 2) (mgCons (mgN 3) mgNil)) (pairD p) [X, some (arcsD left), v2, v3, v4] S = .ok [X, some (arcsD left), some (.int p.1), some (.int p.2), v4] S := fun S => by simp [pairD]
    rcases hd with ⟨rfl, hn⟩ | ⟨w, hw, rfl⟩
    · have h2 : ∃ p ∈ L, p.1 ∈ Led left [p.2] := by
        obtain ⟨q, hq, hm⟩ := h
        rcases List.mem_cons.mp hq with rfl | m
        · exact absurd hm hn
        · exact ⟨q, m, hm⟩
      obtain ⟨d, d1, d2, ih⟩ := rn_loop hl (X := X) L (some (.int p.1)) (some (.int p.2)) (some .non) h2
      refine ⟨d, d1, d2, fun S => ?_⟩
      have hb : mRn [X, some (arcsD left), some (.int p.1), some (.int p.2), v4] S = .ok (.nx [X, some (arcsD left), some (.int p.1), some (.int p.2), some .non]) S := by
        have e' := e S
        unfold mRn
        generalize arcsD left = A at *
        simp -implicitDefEqProofs [e']
      rw [List.map_cons, forL_cons, g0, bind_ok, forBK_ap, hb, bind_ok]
      exact ih S
    · refine ⟨.tup (.int p.1 :: (w.1 ++ [w.2]).map .int), by simp, pure_ints (p.1 :: (w.1 ++ [w.2])), fun S => ?_⟩
      have hb : mRn [X, some (arcsD left), some (.int p.1), some (.int p.2), v4] S = .ok (.rt (.tup (.int p.1 :: (w.1 ++ [w.2]).map .int))) S := by
        have e' := e S
        have z : ((w.1 ++ [w.2]).map D.int).length + 1 ≤ 100000 := by simp; omega
        unfold wayD at e'
        unfold mRn
        generalize arcsD left = A at *
        generalize (w.1 ++ [w.2]).map D.int = W at *
        simp -implicitDefEqProofs [e', z]
      rw [List.map_cons, forL_cons, g0, bind_ok, forBK_ap, hb, bind_ok]
      rfl
theorem ringG {X : D} {n : Nat} {a b : Int} {qs ls : List (Int × Int)} (hX : IsDay X n a b qs ls) (h1 : qs.length ≤ 200) (h2 : ls.length ≤ 200) (ar : ∀ p ∈ arcsL qs ls, (0 ≤ p.1 ∧ p.1 ≤ n) ∧ 0 ≤ p.2 ∧ p.2 ≤ (n : Int)) (hr : ringedB (arcsL qs ls) = true) : ∃ d, d ≠ .non ∧ ∀ S, fPure f_p_ring [X] S = .ok d S := by
  have px := hX.pure
  have al : (arcsL qs ls).length ≤ 400 := by simp [arcsL]; omega
  obtain ⟨left, L, st, tu⟩ := turningG (arcs := arcsL qs ls) (by omega)
  have lne : left ≠ [] := by
    obtain ⟨W, hW⟩ := loop_ex hr
    obtain ⟨q, hq⟩ := List.exists_mem_of_ne_nil _ hW.ne
    exact List.ne_nil_of_mem (L.all W hW q hq)
  have hl2 : ringedB left = true := by
    cases hb : ringedB left with
    | true => rfl
    | false => exact absurd (stuck_nil (calm_pot (n := n) (fun p hp => ar p (L.sub p hp)) hb) (fun p hp => hp) st) lne
  unfold ringedB at hl2
  rw [List.any_eq_true] at hl2
  obtain ⟨p, hp, hm⟩ := hl2
  rw [decide_eq_true_eq] at hm
  obtain ⟨d, d1, d2, lp⟩ := rn_loop (left := left) (by have := L.len; omega) (X := some X) left none none none ⟨p, hp, hm⟩
  refine ⟨d, d1, fun S => fPure_ap S (by simp [px]) ?_⟩
  have arp := fun S => arcsP hX (by omega) (by omega) S
  have it : ∀ S, itemsOf (arcsD left) S = .ok (left.map pairD) S := fun S => rfl
  have hz : (left.map pairD).length ≤ 100000 := by have := L.len; rw [List.length_map]; omega
  have lp' := lp []
  have fn := fin_nil (S := []) d2
  unfold f_p_ring m_p_ring
  rw [fnM_1]
  show endM 0 (mSeq _ (mSeq (mFor _ _ mRn) _) _ _) = _
  generalize mRn = M at *
  generalize left.map pairD = LP at *
  generalize arcsD left = B at *
  generalize arcsD (arcsL qs ls) = A at *
  simp -implicitDefEqProofs [arp, tu, it, hz, lp', fn]
end
section
variable {S : Store}
theorem inD_pairs {xs : List (Int × Int)} {p : Int × Int} : inD (xs.map pairD) (pairD p) = decide (p ∈ xs) := by
  induction xs with
  | nil => simp [inD]
  | cons x xs ih =>
    have e : inD ((x :: xs).map pairD) (pairD p) = (deq (pairD x) (pairD p) || inD (xs.map pairD) (pairD p)) := by simp [inD]
    rw [e, ih]
    have e2 : deq (pairD x) (pairD p) = decide (p = x) := by
      have : deq (pairD x) (pairD p) = ((x.1 == p.1) && ((x.2 == p.2) && true)) := rfl
      rw [this]
      by_cases h : p = x
      · subst h; simp
      · have h2 : ¬ (x.1 = p.1 ∧ x.2 = p.2) := fun z => h (Prod.ext z.1.symm z.2.symm)
        rw [decide_eq_false h]
        by_cases h3 : x.1 = p.1
        · have h4 : ¬ x.2 = p.2 := fun z => h2 ⟨h3, z⟩
          simp [h3, h4]
        · simp [h3]
    rw [e2]
    simp
theorem shal_looks (ps : List (Int × Int)) : shal 20 (looksD ps) = true := by
  show (ps.map pairD).all (shal 19) = true
  exact shal_map (fun _ => rfl) ps
theorem in_looks {ps : List (Int × Int)} {p : Int × Int} : opIn (.tup [.int p.1, .int p.2]) (looksD ps) S = .ok (.bl (decide (p ∈ ps))) S := by
  unfold looksD
  rw [in_tup (a := .tup [.int p.1, .int p.2]) rfl (shal_looks ps)]
  exact congrArg (fun b => Res.ok (D.bl b) S) inD_pairs
end
structure CaseO (n : Nat) (a b : Int) (R : List Row) : Prop where
  ha : 0 < a
  hab : a < b
  hb : b < 2 ^ 71
  n1 : n ≤ 40
  rows : ∀ r ∈ R, r ≠ [] ∧ r.length ≤ 60 ∧ ∀ p ∈ r, 0 ≤ p.1 ∧ p.1 < p.2 ∧ p.2 ≤ (n : Int)
  len : R.length ≤ 60
  ways : prodR R ≤ 64
structure LookO (n : Nat) (own : Row) : Prop where
  len : own.length ≤ 60
  ok : ∀ p ∈ own, 0 ≤ p.1 ∧ p.1 < p.2 ∧ p.2 ≤ (n : Int)
def mWi : MS := (mAsg (mOp opAdd (mVar 3) (mLc (mItems (mVar 2)) (mgN 5) mYes (mOp opAdd (mVar 4) (mTup (mCons (mVar 5) mNil))) [5])) (mgN 3))
def mWo : MS := (mSeq (mAsg (mLst mNil) (mgN 3))
  (mSeq (mFor (mItems (mVar 1)) (mgN 4) mWi)
  (mAsg (mVar 3) (mgN 1))))
theorem pure_looksL (R : List Row) : pureL (R.map looksD) = true := pureL_map (fun r => pure_looks r) R
theorem wi_loop {v0 v1 : Option D} {r : Row} (hr : r.length ≤ 1000) {S : Store} : ∀ (F G : List Row) (v4 : Option D), (∀ c ∈ F, c.length ≤ 1000) → G.length + F.length * r.length ≤ 10000 → ∃ w4,
    forL (mgN 4) mWi (F.map looksD) [v0, v1, some (looksD r), some (.lst (G.map looksD)), v4, none] S = .ok (.nx [v0, v1, some (looksD r), some (.lst ((G ++ waysF F r).map looksD)), w4, none]) S
  | [], G, v4, _, _ => ⟨v4, by rw [show waysF [] r = [] from rfl, List.append_nil]; rfl⟩
  | c :: F, G, v4, hF, hl => by
    have hc := hF c (List.mem_cons_self ..)
    have e : waysF (c :: F) r = (r.map fun l => c ++ [l]) ++ waysF F r := rfl
    have hl2 : G.length + (r.length + F.length * r.length) ≤ 10000 := by
      rw [List.length_cons, Nat.succ_mul] at hl
      omega
    obtain ⟨w4, ih⟩ := wi_loop (v0 := v0) (v1 := v1) (r := r) hr (S := S) F (G ++ r.map fun l => c ++ [l]) (some (looksD c)) (fun q hq => hF q (List.mem_cons_of_mem _ hq)) (by rw [List.length_append, List.length_map]; omega)
    refine ⟨w4, ?_⟩
    have lc : lcL (mgN 5) mYes (mOp opAdd (mVar 4) (mTup (mCons (mVar 5) mNil))) [v0, v1, some (looksD r), some (.lst (G.map looksD)), some (looksD c), none] (r.map pairD) S = .ok (r.map fun l => looksD (c ++ [l])) S :=
      lcL_mapx (u := pairD) (w := fun l => looksD (c ++ [l])) r S fun l _ => ⟨[v0, v1, some (looksD r), some (.lst (G.map looksD)), some (looksD c), some (pairD l)], rfl, by
        rw [← star_choice c l S]
        have z : (c.map pairD).length + 1 ≤ 100000 := by rw [List.length_map]; omega
        unfold looksD
        generalize pairD l = pl at *
        generalize c.map pairD = cp at *
        simp -implicitDefEqProofs [z]⟩
    have e2 : (r.map fun l => looksD (c ++ [l])) = (r.map fun l => c ++ [l]).map looksD := by rw [List.map_map]; rfl
    have z1 : (r.map pairD).length ≤ 100000 := by rw [List.length_map]; omega
    have it : ∀ S, itemsOf (looksD r) S = .ok (r.map pairD) S := fun S => by
      unfold looksD
      generalize r.map pairD = X at *
      simp -implicitDefEqProofs [z1]
    have z2 : (G.map looksD).length + ((r.map fun l => c ++ [l]).map looksD).length ≤ 100000 := by simp only [List.length_map]; omega
    have eb : mWi [v0, v1, some (looksD r), some (.lst (G.map looksD)), some (looksD c), none] S = .ok (.nx [v0, v1, some (looksD r), some (.lst ((G ++ r.map fun l => c ++ [l]).map looksD)), some (looksD c), none]) S := by
      rw [List.map_append]
      rw [e2] at lc
      unfold mWi
      generalize (r.map fun l => c ++ [l]).map looksD = Z at *
      generalize G.map looksD = Y at *
      generalize looksD r = L at *
      generalize looksD c = C at *
      generalize r.map pairD = X at *
      simp -implicitDefEqProofs [it, lc, z1, z2]
    rw [e, ← List.append_assoc, List.map_cons, forL_cons, ← ih]
    have g0 : mgN 4 (looksD c) [v0, v1, some (looksD r), some (.lst (G.map looksD)), v4, none] S = .ok [v0, v1, some (looksD r), some (.lst (G.map looksD)), some (looksD c), none] S := rfl
    rw [g0, bind_ok]
    show (mWi _ S).bind (forK _) = _
    rw [eb, bind_ok, forK_nx]
theorem wo_loop {v0 : Option D} {S : Store} : ∀ (R : List Row) (F : List Row) (v2 v3 v4 : Option D), (∀ c ∈ F, c.length + R.length ≤ 1000) → (∀ r ∈ R, r ≠ [] ∧ r.length ≤ 64) → F.length * prodR R ≤ 64 → ∃ w2 w3 w4,
    forL (mgN 2) mWo (R.map looksD) [v0, some (.lst (F.map looksD)), v2, v3, v4, none] S = .ok (.nx [v0, some (.lst ((R.foldl waysF F).map looksD)), w2, w3, w4, none]) S
  | [], F, v2, v3, v4, _, _, _ => ⟨v2, v3, v4, rfl⟩
  | r :: R, F, v2, v3, v4, hF, h, hw => by
    have hr := h r (List.mem_cons_self ..)
    have hp := prod_pos fun q hq => (h q (List.mem_cons_of_mem _ hq)).1
    have e : F.length * prodR (r :: R) = F.length * r.length * prodR R := by show _ * (r.length * prodR R) = _; rw [Nat.mul_assoc]
    rw [e, ← waysF_len] at hw
    have b1 : (waysF F r).length ≤ 64 := Nat.le_trans (Nat.le_mul_of_pos_right _ hp) hw
    have b2 := b1
    rw [waysF_len] at b2
    have b3 : F.length ≤ 64 := Nat.le_trans (Nat.le_mul_of_pos_right _ (List.length_pos_iff.mpr hr.1)) b2
    obtain ⟨u4, il⟩ := wi_loop (v0 := v0) (v1 := some (.lst (F.map looksD))) (r := r) (by omega) (S := S) F [] v4 (fun c hc => by have := hF c hc; omega) (by rw [List.length_nil]; omega)
    obtain ⟨w2, w3, w4, ih⟩ := wo_loop (v0 := v0) (S := S) R (waysF F r) (some (looksD r)) (some (.lst ((waysF F r).map looksD))) u4 (fun c hc => by
      obtain ⟨c0, h0, l, _, rfl⟩ := mem_waysF.mp hc
      have := hF c0 h0
      simp only [List.length_cons, List.length_append, List.length_nil] at this ⊢
      omega) (fun q hq => h q (List.mem_cons_of_mem _ hq)) hw
    refine ⟨w2, w3, w4, ?_⟩
    have hz : (F.map looksD).length ≤ 100000 := by rw [List.length_map]; omega
    rw [List.nil_append, show ([] : List Row).map looksD = [] from rfl] at il
    have eb : mWo [v0, some (.lst (F.map looksD)), some (looksD r), v3, v4, none] S = .ok (.nx [v0, some (.lst ((waysF F r).map looksD)), some (looksD r), some (.lst ((waysF F r).map looksD)), u4, none]) S := by
      unfold mWo
      generalize mWi = M at *
      generalize looksD r = L at *
      generalize (waysF F r).map looksD = Z at *
      generalize F.map looksD = X at *
      simp -implicitDefEqProofs [hz, il]
    rw [List.map_cons, forL_cons, List.foldl_cons, ← ih]
    have g0 : mgN 2 (looksD r) [v0, some (.lst (F.map looksD)), v2, v3, v4, none] S = .ok [v0, some (.lst (F.map looksD)), some (looksD r), v3, v4, none] S := rfl
    rw [g0, bind_ok]
    show (mWo _ S).bind (forK _) = _
    rw [eb, bind_ok, forK_nx]
theorem pure_rows (R : List Row) : pureD (rowsD R) = true := pureL_map (fun r => pure_looks r) R
theorem items_rows {R : List Row} (h : R.length ≤ 100000) (S : Store) : itemsOf (rowsD R) S = .ok (R.map looksD) S := by
  have lz : (R.map looksD).length ≤ 100000 := by rw [List.length_map]; omega
  unfold rowsD
  generalize R.map looksD = X at *
  simp -implicitDefEqProofs [lz]
section
variable {n : Nat} {a b : Int} {R : List Row} {own c : Row}
theorem lwaysP (h : ∀ r ∈ R, r ≠ [] ∧ r.length ≤ 64) (hl : R.length ≤ 1000) (hw : prodR R ≤ 64) (S : Store) : fPure f_l_ways [rowsD R] S = .ok (.lst ((waysR R).map looksD)) S := by
  have pc := pure_rows R
  have pw : pureD (.lst ((waysR R).map looksD)) = true := pureL_map (fun r => pure_looks r) _
  refine fPure_ap S (by simp only [pureL_cons, pc, pureL_nil]; rfl) ?_
  obtain ⟨w2, w3, w4, lp⟩ := wo_loop (v0 := some (rowsD R)) (S := []) R [[]] none none none (fun c hc => by rw [List.mem_singleton.mp hc]; simp; omega) h (by simpa using hw)
  have e0 : [looksD []] = ([[]] : List Row).map looksD := rfl
  have e1 : looksD [] = .tup [] := rfl
  rw [show R.foldl waysF [[]] = waysR R from rfl, ← e0, e1] at lp
  have it := fun S => items_rows (R := R) (by omega) S
  unfold f_l_ways m_l_ways
  rw [fnM_1]
  show endM _ (mSeq _ (mSeq (mFor _ _ mWo) _) _ _) = _
  generalize mWo = M at *
  generalize R.map looksD = X at *
  generalize rowsD R = RD at *
  generalize (waysR R).map looksD = W at *
  simp -implicitDefEqProofs [it, lp, fin_nil pw]
def opensB (own c : Row) : Bool := (c.filter fun l => decide (l ∈ own)).isEmpty && !ringedB (arcsL (sortU c) own)
theorem CaseO.pick (h : CaseO n a b R) (hc : c ∈ waysR R) : c.length ≤ 60 ∧ ∀ p ∈ c, 0 ≤ p.1 ∧ p.1 < p.2 ∧ p.2 ≤ (n : Int) := by
  have hc := mem_waysR.mp hc
  refine ⟨by rw [hc.len]; exact h.len, fun p hp => ?_⟩
  obtain ⟨r, hr, hm⟩ := hc.mem p hp
  exact (h.rows r hr).2.2 p hm
theorem day_arcs {qs ls : Row} (h1 : ∀ p ∈ qs, 0 ≤ p.1 ∧ p.1 < p.2 ∧ p.2 ≤ (n : Int)) (h2 : ∀ p ∈ ls, 0 ≤ p.1 ∧ p.1 < p.2 ∧ p.2 ≤ (n : Int)) : ∀ p ∈ arcsL qs ls, (0 ≤ p.1 ∧ p.1 ≤ n) ∧ 0 ≤ p.2 ∧ p.2 ≤ (n : Int) := fun p hp => by
  rcases List.mem_append.mp hp with hp | hp
  · obtain ⟨q, hq, rfl⟩ := List.mem_map.mp hp
    have := h1 q hq
    unfold swp
    simp only
    omega
  · have := h2 p hp
    omega
theorem sortU_in {qs : Row} (h : ∀ p ∈ qs, 0 ≤ p.1 ∧ p.1 < p.2 ∧ p.2 ≤ (n : Int)) : ∀ p ∈ sortU qs, 0 ≤ p.1 ∧ p.1 < p.2 ∧ p.2 ≤ (n : Int) := fun p hp => h p (mem_sortU.mp hp)
theorem in_looksP {ps : List (Int × Int)} {p : Int × Int} (S : Store) : opIn (pairD p) (looksD ps) S = .ok (.bl (decide (p ∈ ps))) S := in_looks
def mId : MS := (mSeq (mAsg (mLc (mItems (mVar 2)) (mgN 4) (mTB (mOp opIn (mVar 4) (mVar 1))) (mVar 4) [4]) (mgN 3))
  (mIf (mAndT (mTB (mOp opEq (mVar 3) (mLst mNil))) (mNotT (mTest (mCall (fPure f_l_ring) (mCons (mSortSetT (mVar 2)) (mCons (mVar 1) mNil)))))) (mRet (mC (.bl false))) mSkip))
theorem eq_nilP (left : Row) (S : Store) : opEq (.lst (left.map pairD)) (.lst []) S = .ok (.bl left.isEmpty) S := by
  have s1 : shal 20 (D.lst (left.map pairD)) = true := by rw [shal_lst]; exact shal_map (fun _ => rfl) left
  rw [eq_plain s1 rfl]
  cases left with
  | nil => rfl
  | cons p left => simp [deq, deqL]
theorem id_step (hn : n ≤ 40) (ho : LookO n own) (hc : c.length ≤ 60) (hc2 : ∀ p ∈ c, 0 ≤ p.1 ∧ p.1 < p.2 ∧ p.2 ≤ (n : Int)) {v0 v3 : Option D} (S : Store) : ∃ w3,
    mId [v0, some (looksD own), some (looksD c), v3, none] S = .ok (if opensB own c then .rt (.bl false) else .nx [v0, some (looksD own), some (looksD c), w3, none]) S := by
  refine ⟨some (.lst ((c.filter fun l => decide (l ∈ own)).map pairD)), ?_⟩
  have lc : lcL (mgN 4) (mTB (mOp opIn (mVar 4) (mVar 1))) (mVar 4) [v0, some (looksD own), some (looksD c), v3, none] (c.map pairD) S = .ok ((c.filter fun l => decide (l ∈ own)).map pairD) S :=
    lcL_filterb c S fun p hp => ⟨[v0, some (looksD own), some (looksD c), v3, some (pairD p)], rfl, by
      have il := fun S => in_looksP (ps := own) (p := p) S
      generalize looksD own = O at *
      generalize pairD p = P at *
      simp -implicitDefEqProofs [il], by simp⟩
  have z1 : (c.map pairD).length ≤ 100000 := by rw [List.length_map]; omega
  have it : ∀ S, itemsOf (looksD c) S = .ok (c.map pairD) S := fun S => by
    unfold looksD
    generalize c.map pairD = X at *
    simp -implicitDefEqProofs [z1]
  have ss : ∀ S, ssKT (looksD c) S = .ok (.lst ((sortU c).map pairD)) S := fun S => ssKT_pairs (fun p hp => by have := hc2 p hp; unfold lim; omega) (by omega)
  have sl := sortU_len c
  have rg := fun S => lringP (n := n) (qs := sortU c) (ls := own) (by omega) (by have := ho.len; omega) (day_arcs (sortU_in hc2) ho.ok) S
  have en := fun S => eq_nilP (c.filter fun l => decide (l ∈ own)) S
  unfold opensB
  generalize (c.filter fun l => decide (l ∈ own)).isEmpty = t at *
  generalize ringedB (arcsL (sortU c) own) = u at *
  generalize (c.filter fun l => decide (l ∈ own)).map pairD = Z at *
  generalize (sortU c).map pairD = Y at *
  generalize c.map pairD = X at *
  generalize looksD own = O at *
  generalize looksD c = C at *
  unfold mId
  cases t <;> cases u <;> simp -implicitDefEqProofs [it, z1, lc, ss, rg, en]
theorem id_loop (hn : n ≤ 40) (ho : LookO n own) {v0 : Option D} {S : Store} : ∀ (L : List Row) (v2 v3 : Option D), (∀ c ∈ L, c.length ≤ 60 ∧ ∀ p ∈ c, 0 ≤ p.1 ∧ p.1 < p.2 ∧ p.2 ≤ (n : Int)) → ∃ w2 w3,
    forL (mgN 2) mId (L.map looksD) [v0, some (looksD own), v2, v3, none] S = .ok (if L.any (opensB own) then .rt (.bl false) else .nx [v0, some (looksD own), w2, w3, none]) S
  | [], v2, v3, _ => ⟨v2, v3, rfl⟩
  | c :: L, v2, v3, h => by
    have hc := h c (List.mem_cons_self ..)
    obtain ⟨u3, es⟩ := id_step hn ho hc.1 hc.2 (v0 := v0) (v3 := v3) S
    obtain ⟨w2, w3, ih⟩ := id_loop hn ho (v0 := v0) (S := S) L (some (looksD c)) u3 (fun q hq => h q (List.mem_cons_of_mem _ hq))
    refine ⟨w2, w3, ?_⟩
    have g0 : mgN 2 (looksD c) [v0, some (looksD own), v2, v3, none] S = .ok [v0, some (looksD own), some (looksD c), v3, none] S := rfl
    rw [List.map_cons, forL_cons, g0, bind_ok]
    show (mId _ S).bind (forK _) = _
    rw [es, bind_ok, List.any_cons]
    cases opensB own c with
    | true => rfl
    | false =>
      rw [Bool.false_or, ← ih]
      exact forK_nx ..
theorem lidleP (h : CaseO n a b R) (ho : LookO n own) (S : Store) : fPure f_l_idle [rowsD R, looksD own] S = .ok (.bl (!(waysR R).any (opensB own))) S := by
  have p1 := pure_rows R
  have p2 := pure_looks own
  refine fPure_ap S (by simp only [pureL_cons, p1, p2, pureL_nil]; rfl) ?_
  have wl : (waysR R).length ≤ 64 := by rw [waysR_len]; exact h.ways
  obtain ⟨w2, w3, lp⟩ := id_loop h.n1 ho (v0 := some (rowsD R)) (S := []) (waysR R) none none (fun c hc => h.pick hc)
  have ws := fun S => lwaysP (R := R) (fun r hr => ⟨(h.rows r hr).1, by have := (h.rows r hr).2.1; omega⟩) (by have := h.len; omega) h.ways S
  have lz : ((waysR R).map looksD).length ≤ 100000 := by rw [List.length_map]; omega
  have fn : ∀ b, fin 0 (.bl b) [] = .ok (.bl b) [] := fun b => fin_nil rfl
  unfold f_l_idle m_l_idle
  rw [fnM_2]
  show endM _ (mSeq (mFor _ _ mId) _ _ _) = _
  generalize mId = M at *
  generalize (waysR R).any (opensB own) = t at *
  generalize (waysR R).map looksD = X at *
  generalize rowsD R = RD at *
  generalize looksD own = O at *
  cases t <;> simp -implicitDefEqProofs [ws, lz, lp, fn]
end
section
variable {n : Nat} {a b : Int} {R : List Row} {own c : Row}
structure IsLk (X : D) (own : Row) : Prop where
  tup : ∀ S, fPure (f_p_tupled 30) [X] S = .ok (looksD own) S
  pure : pureD X = true
theorem isLk (h : own.length ≤ 100000) : IsLk (looksD own) own := ⟨fun S => tup_choice own h S, pure_looks own⟩
theorem CaseO.day (h : CaseO n a b R) (ho : LookO n own) (hc : c ∈ waysR R) : DayOk n a b (sortU c) own := by
  have p := h.pick hc
  have sl := sortU_len c
  exact ⟨h.ha, h.hab, h.hb, by have := h.n1; omega, sortU_in p.2, ho.ok, by omega, ho.len⟩
theorem DayOk.arcs {qs ls : Row} (h : DayOk n a b qs ls) : ∀ p ∈ arcsL qs ls, (0 ≤ p.1 ∧ p.1 ≤ n) ∧ 0 ≤ p.2 ∧ p.2 ≤ (n : Int) := day_arcs h.q1 h.l1
def GoD (n : Nat) (a b : Int) (R : List Row) (own : Row) (d : D) : Prop :=
  (∃ c ∈ waysR R, opensB own c = true ∧ d = logD (fitL n a b (sortU c) own)) ∨ ((waysR R).any (opensB own) = false ∧ d = .non)
def mGo : MS := (mSeq (mAsg (mTup (mCons (mVar 2) (mCons (mVar 3) (mCons (mCall fTuple (mCons (mSortSetT (mVar 6)) mNil)) (mCons (mVar 5) mNil))))) (mgN 7))
  (mIf (mAndT (mNotT (mTest (mCall fAny (mCons (mLc (mItems (mVar 6)) (mgN 8) mYes (mOp opIn (mVar 8) (mVar 5)) [8]) mNil)))) (mTB (mIsN (mCall (fPure f_p_ring) (mCons (mVar 7) mNil))))) (mRet (mCallX (fPureX g_p_fitting) (mCons (mVar 7) mNil))) mSkip))
theorem filt_any (own c : Row) : (c.filter fun l => decide (l ∈ own)).isEmpty = !c.any fun l => decide (l ∈ own) := by
  induction c with
  | nil => rfl
  | cons l c ih =>
    rw [List.filter_cons, List.any_cons]
    cases h : decide (l ∈ own) with
    | true => rfl
    | false =>
      rw [if_neg (by simp), ih]
      rfl
theorem go_step (h : CaseO n a b R) (ho : LookO n own) (hc : c ∈ waysR R) {v0 v1 v4 v7 : Option D} : ∃ w7, ∀ S,
    mGo [v0, v1, some (.int (n : Nat)), some (.tup [.int a, .int b]), v4, some (looksD own), some (looksD c), v7, none] S = .ok (if opensB own c then .rt (logD (fitL n a b (sortU c) own)) else .nx [v0, v1, some (.int (n : Nat)), some (.tup [.int a, .int b]), v4, some (looksD own), some (looksD c), w7, none]) S := by
  have hp := h.pick hc
  have hd := h.day ho hc
  have ol := ho.len
  have sl := sortU_len c
  have D1 := isDay (n := n) (a := a) (b := b) (qs := sortU c) (ls := own) (by omega) (by omega)
  refine ⟨some (dayD n a b (sortU c) own), fun S => ?_⟩
  have lc : ∀ v7 S, lcL (mgN 8) mYes (mOp opIn (mVar 8) (mVar 5)) [v0, v1, some (.int (n : Nat)), some (.tup [.int a, .int b]), v4, some (looksD own), some (looksD c), v7, none] (c.map pairD) S = .ok (c.map fun l => D.bl (decide (l ∈ own))) S := fun v7 S =>
    lcL_mapx c S fun p _ => ⟨[v0, v1, some (.int (n : Nat)), some (.tup [.int a, .int b]), v4, some (looksD own), some (looksD c), v7, some (pairD p)], rfl, by
      have il := fun S => in_looksP (ps := own) (p := p) S
      generalize looksD own = O at *
      generalize looksD c = CC at *
      generalize pairD p = P at *
      simp -implicitDefEqProofs [il]⟩
  have z1 : (c.map pairD).length ≤ 100000 := by rw [List.length_map]; omega
  have z2 : ((sortU c).map pairD).length ≤ 100000 := by rw [List.length_map]; omega
  have it : ∀ S, itemsOf (looksD c) S = .ok (c.map pairD) S := fun S => by
    unfold looksD
    generalize c.map pairD = X at *
    simp -implicitDefEqProofs [z1]
  have ss : ∀ S, ssKT (looksD c) S = .ok (.lst ((sortU c).map pairD)) S := fun S => ssKT_pairs (fun p hm => by have := hp.2 p hm; have := h.n1; unfold lim; omega) (by omega)
  have tl : ∀ S, fTuple [.lst ((sortU c).map pairD)] S = .ok (looksD (sortU c)) S := fun S => by
    unfold looksD
    generalize (sortU c).map pairD = X at *
    simp -implicitDefEqProofs [z2]
  have an := fun S => any_mapB (fun l => decide (l ∈ own)) c S
  have ed : D.tup [.int (n : Nat), .tup [.int a, .int b], looksD (sortU c), looksD own] = dayD n a b (sortU c) own := rfl
  have key : (∃ d, d ≠ .non ∧ ∀ S, fPure f_p_ring [dayD n a b (sortU c) own] S = .ok d S) ∧ ringedB (arcsL (sortU c) own) = true ∨ ((∀ S, fPure f_p_ring [dayD n a b (sortU c) own] S = .ok .non S) ∧ ∀ S, fPureX g_p_fitting [dayD n a b (sortU c) own] S = .ok (logD (fitL n a b (sortU c) own)) S) ∧ ringedB (arcsL (sortU c) own) = false := by
    cases hr : ringedB (arcsL (sortU c) own) with
    | true => exact .inl ⟨ringG D1 (by omega) (by omega) hd.arcs hr, rfl⟩
    | false =>
      have P := calm_pot hd.arcs hr
      exact .inr ⟨⟨fun S => ringP D1 P (by omega) (by omega) S, fun S => fittingX D1 P hd.a0 hd.ab (by have := hd.b2; omega) (by have := h.n1; omega) (by omega) (by omega) S⟩, rfl⟩
  unfold opensB
  rw [filt_any]
  generalize (c.any fun l => decide (l ∈ own)) = t at *
  generalize ringedB (arcsL (sortU c) own) = u at *
  generalize logD (fitL n a b (sortU c) own) = FL at *
  generalize dayD n a b (sortU c) own = DD at *
  generalize (c.map fun l => D.bl (decide (l ∈ own))) = Z at *
  generalize looksD (sortU c) = SC at *
  generalize (sortU c).map pairD = Y at *
  generalize c.map pairD = X at *
  generalize looksD own = O at *
  generalize looksD c = CC at *
  unfold mGo
  rcases key with ⟨⟨d, d0, rg⟩, rfl⟩ | ⟨⟨rg, ft⟩, rfl⟩
  · have nn : Q.isNon d = false := by cases d <;> first | rfl | exact absurd rfl d0
    cases t <;> simp -implicitDefEqProofs [it, z1, lc, ss, tl, an, ed, rg, nn]
  · cases t <;> simp -implicitDefEqProofs [it, z1, lc, ss, tl, an, ed, rg, ft]
theorem go_loop (h : CaseO n a b R) (ho : LookO n own) : ∀ (L : List Row), (∀ c ∈ L, c ∈ waysR R) →
    (∃ c ∈ L, opensB own c = true ∧ ∀ v0 v1 v4 v6 v7 S, forL (mgN 6) mGo (L.map looksD) [v0, v1, some (.int (n : Nat)), some (.tup [.int a, .int b]), v4, some (looksD own), v6, v7, none] S = .ok (.rt (logD (fitL n a b (sortU c) own))) S) ∨
    (L.any (opensB own) = false ∧ ∀ v0 v1 v4 v6 v7 S, ∃ w6 w7, forL (mgN 6) mGo (L.map looksD) [v0, v1, some (.int (n : Nat)), some (.tup [.int a, .int b]), v4, some (looksD own), v6, v7, none] S = .ok (.nx [v0, v1, some (.int (n : Nat)), some (.tup [.int a, .int b]), v4, some (looksD own), w6, w7, none]) S)
  | [], _ => .inr ⟨rfl, fun v0 v1 v4 v6 v7 S => ⟨v6, v7, rfl⟩⟩
  | c :: L, hL => by
    have hc := hL c (List.mem_cons_self ..)
    have g0 : ∀ v0 v1 v4 v6 v7 S, mgN 6 (looksD c) [v0, v1, some (.int (n : Nat)), some (.tup [.int a, .int b]), v4, some (looksD own), v6, v7, none] S = .ok [v0, v1, some (.int (n : Nat)), some (.tup [.int a, .int b]), v4, some (looksD own), some (looksD c), v7, none] S := fun v0 v1 v4 v6 v7 S => rfl
    cases ho2 : opensB own c with
    | true =>
      refine .inl ⟨c, List.mem_cons_self .., ho2, fun v0 v1 v4 v6 v7 S => ?_⟩
      obtain ⟨u7, es⟩ := go_step h ho hc (v0 := v0) (v1 := v1) (v4 := v4) (v7 := v7)
      rw [ho2] at es
      rw [List.map_cons, forL_cons, g0, bind_ok]
      show (mGo _ S).bind (forK _) = _
      rw [es, bind_ok]
      rfl
    | false =>
      have st : ∀ v0 v1 v4 v7, ∃ u7, ∀ S, mGo [v0, v1, some (.int (n : Nat)), some (.tup [.int a, .int b]), v4, some (looksD own), some (looksD c), v7, none] S = .ok (.nx [v0, v1, some (.int (n : Nat)), some (.tup [.int a, .int b]), v4, some (looksD own), some (looksD c), u7, none]) S := fun v0 v1 v4 v7 => by
        obtain ⟨u7, es⟩ := go_step h ho hc (v0 := v0) (v1 := v1) (v4 := v4) (v7 := v7)
        rw [ho2] at es
        exact ⟨u7, es⟩
      rcases go_loop h ho L (fun q hq => hL q (List.mem_cons_of_mem _ hq)) with ⟨q, hq, h1, ih⟩ | ⟨h1, ih⟩
      · refine .inl ⟨q, List.mem_cons_of_mem _ hq, h1, fun v0 v1 v4 v6 v7 S => ?_⟩
        obtain ⟨u7, es⟩ := st v0 v1 v4 v7
        rw [List.map_cons, forL_cons, g0, bind_ok]
        show (mGo _ S).bind (forK _) = _
        rw [es, bind_ok, forK_nx]
        exact ih ..
      · refine .inr ⟨by rw [List.any_cons, ho2, h1]; rfl, fun v0 v1 v4 v6 v7 S => ?_⟩
        obtain ⟨u7, es⟩ := st v0 v1 v4 v7
        obtain ⟨w6, w7, e⟩ := ih v0 v1 v4 (some (looksD c)) u7 S
        refine ⟨w6, w7, ?_⟩
        rw [List.map_cons, forL_cons, g0, bind_ok]
        show (mGo _ S).bind (forK _) = _
        rw [es, bind_ok, forK_nx]
        exact e
theorem goingoffP (h : CaseO n a b R) (ho : LookO n own) : ∃ d, GoD n a b R own d ∧ ∀ C X S, IsCase C n a b R → IsLk X own → fPure f_p_going_off [C, X] S = .ok d S := by
  have wl : (waysR R).length ≤ 64 := by rw [waysR_len]; exact h.ways
  have lz : ((waysR R).map looksD).length ≤ 100000 := by rw [List.length_map]; omega
  have chs := fun C S (hC : IsCase C n a b R) => choicesX hC (fun r hr => ⟨(h.rows r hr).1, by have := (h.rows r hr).2.1; omega⟩) (by have := h.len; omega) h.ways S
  rcases go_loop h ho (waysR R) (fun c hc => hc) with ⟨c, hc, h1, lp⟩ | ⟨h1, lp⟩
  · refine ⟨_, .inl ⟨c, hc, h1, rfl⟩, fun C X S hC hX => ?_⟩
    have pc := hC.pure
    have px := hX.pure
    refine fPure_ap S (by simp [pc, px]) ?_
    have t1 := hC.tup
    have t2 := hX.tup
    have ch := fun S => chs C S hC
    have lp' := lp (some C) (some X) (some (rowsD R)) none none []
    have fn := fin_nil (S := []) (pure_logD (fitL n a b (sortU c) own))
    change ∀ S, fPure (f_p_tupled 30) [C] S = .ok (.tup [.int n, .tup [.int a, .int b], rowsD R]) S at t1
    unfold f_p_going_off m_p_going_off
    rw [fnM_2]
    show endM _ (mSeq _ (mSeq _ (mSeq (mFor _ _ mGo) _)) _ _) = _
    generalize mGo = M at *
    generalize logD (fitL n a b (sortU c) own) = FL at *
    generalize (waysR R).map looksD = W at *
    generalize looksD own = O at *
    generalize rowsD R = RD at *
    simp -implicitDefEqProofs [t1, t2, ch, lz, lp', fn]
  · refine ⟨_, .inr ⟨h1, rfl⟩, fun C X S hC hX => ?_⟩
    have pc := hC.pure
    have px := hX.pure
    refine fPure_ap S (by simp [pc, px]) ?_
    have t1 := hC.tup
    have t2 := hX.tup
    have ch := fun S => chs C S hC
    obtain ⟨w6, w7, lp'⟩ := lp (some C) (some X) (some (rowsD R)) none none []
    have fn := fin_nil (S := []) (d := .non) rfl
    change ∀ S, fPure (f_p_tupled 30) [C] S = .ok (.tup [.int n, .tup [.int a, .int b], rowsD R]) S at t1
    unfold f_p_going_off m_p_going_off
    rw [fnM_2]
    show endM _ (mSeq _ (mSeq _ (mSeq (mFor _ _ mGo) _)) _ _) = _
    generalize mGo = M at *
    generalize (waysR R).map looksD = W at *
    generalize looksD own = O at *
    generalize rowsD R = RD at *
    simp -implicitDefEqProofs [t1, t2, ch, lz, lp', fn]
theorem GoD.pure {d : D} (h : GoD n a b R own d) : pureD d = true := by
  rcases h with ⟨c, _, _, rfl⟩ | ⟨_, rfl⟩
  · exact pure_logD _
  · rfl
end
theorem ls_looks (k : Nat) (r : Row) : lsD (k + 2) (looksD r) = looksL r := by
  unfold looksL looksD
  show D.lst ((r.map pairD).map (lsD (k + 1))) = _
  rw [List.map_map]
  congr 1
  exact List.map_congr_left fun p _ => by cases k <;> rfl
theorem ls_case (n a b : Int) (R : List Row) : lsD 10 (caseD n a b R) = caseLD n a b R := by
  show D.lst [.int n, .lst [.int a, .int b], .lst ((R.map looksD).map (lsD 8))] = _
  rw [List.map_map]
  have e : R.map (lsD 8 ∘ looksD) = R.map looksL := List.map_congr_left fun r _ => ls_looks 6 r
  rw [e]
  rfl
theorem lists_case {n a b : Int} {R : List Row} (h : R.length ≤ 100000) (h2 : ∀ r ∈ R, r.length ≤ 100000) (S : Store) : fPure (f_l_lists 30) [caseD n a b R] S = .ok (caseLD n a b R) S := by
  rw [listsP S (case_okD n a b R h h2) (by decide), ls_case]
section
variable {n : Nat} {a b : Int} {R : List Row} {own c : Row} {qs ls rows : List (Int × Int)}
theorem fitL_pos (h0 : 0 < a) (hab : a < b) : ∀ r ∈ fitL n a b qs ls, 0 ≤ r.1 ∧ 0 ≤ r.2 := fun r hr => by
  unfold fitL logBy at hr
  obtain ⟨p, _, rfl⟩ := List.mem_map.mp hr
  unfold byP
  refine ⟨?_, ?_⟩
  · show 0 ≤ max 0 (p.1 - p.2) * (b - a)
    exact Int.mul_nonneg (by omega) (by omega)
  · show 0 ≤ max 0 (p.2 - p.1) * a
    exact Int.mul_nonneg (by omega) (by omega)
theorem fit_rows {c : Int → Int} (hd : DayOk n a b qs ls) (P : Pot n (arcsL qs ls) c) : RowsOk (10 ^ 60) (fitL n a b qs ls) := fun r hr => by
  have h0 := hd.a0
  have hab := hd.ab
  have hb := hd.b2
  have hn := hd.n1
  have q := fitL_pos (n := n) (qs := qs) (ls := ls) h0 hab r hr
  obtain ⟨r1, r2, r3⟩ := ranks_ok P
  have hx : ∀ x ∈ ranksL n (arcsL qs ls), 0 ≤ x ∧ x ≤ (n : Int) := fun x hx => by
    obtain ⟨i, hi, rfl⟩ := List.getElem_of_mem hx
    have hi2 : i < n + 1 := by rw [ranksL_len] at hi; exact hi
    have := r2 (i : Nat) (by omega) (by omega)
    have e : gI (rnds (arcsL qs ls) n (zeros n)) (i : Nat) = (ranksL n (arcsL qs ls))[i] := by
      unfold gI
      rw [List.getD_eq_getElem?_getD, Int.toNat_natCast]
      have : (rnds (arcsL qs ls) n (zeros n))[i]? = some (ranksL n (arcsL qs ls))[i] := List.getElem?_eq_getElem hi
      rw [this]
      rfl
    rw [e] at this
    exact this
  unfold fitL logBy at hr
  obtain ⟨p, hp, rfl⟩ := List.mem_map.mp hr
  have m := List.of_mem_zip (show (p.1, p.2) ∈ (ranksL n (arcsL qs ls)).zip (ranksL n (arcsL qs ls)).tail from hp)
  have x1 := hx _ m.1
  have x2 := hx _ (List.mem_of_mem_tail m.2)
  have u1 : max 0 (p.1 - p.2) * (b - a) ≤ 100 * 2 ^ 71 := Int.mul_le_mul (by omega) (by omega) (by omega) (by decide)
  have u2 : max 0 (p.2 - p.1) * a ≤ 100 * 2 ^ 71 := Int.mul_le_mul (by omega) (by omega) (by omega) (by decide)
  have u3 : (100 : Int) * 2 ^ 71 ≤ 10 ^ 60 := by decide
  refine ⟨⟨q.1, ?_⟩, q.2, ?_⟩
  · show max 0 (p.1 - p.2) * (b - a) ≤ _
    omega
  · show max 0 (p.2 - p.1) * a ≤ _
    omega
def mOf : MS := (mIf (mTest (mCall fAll (mCons (mLc (mItems (mVar 3)) (mgN 4) mYes (mCall (fPure f_l_above) (mCons (mOp opIx (mVar 0) (mC (.int 1))) (mCons (mCall (fPure f_l_calls) (mCons (mVar 1) (mCons (mVar 4) mNil))) mNil))) [4]) mNil))) (mDrop (mApp (mVar 2) (mVar 3))) mSkip)
def offR (a b : Int) (rows : List (Int × Int)) (R : List Row) : List Row := R.filter fun r => r.all (loudP a b rows)
theorem one_loud (h0 : 0 < a) (hab : a < b) (hb : b < 2 ^ 71) (hr : RowsOk (10 ^ 60) rows) (hl : rows.length ≤ 200) {p : Int × Int} (h1 : 0 ≤ p.1) (h2 : p.1 < p.2) :
    (∀ S, fPure f_l_calls [logD rows, pairD p] S = .ok (.tup [.int (sg rows p.1.toNat p.2.toNat), .int (sf rows p.1.toNat p.2.toNat)]) S) ∧ ∀ S, fPure f_l_above [.tup [.int a, .int b], .tup [.int (sg rows p.1.toNat p.2.toNat), .int (sf rows p.1.toNat p.2.toNat)]] S = .ok (.bl (loudP a b rows p)) S := by
  refine ⟨fun S => ?_, fun S => ?_⟩
  · have ca := fPure_ap (S := S) (show pureL [logD rows, .tup [.int (p.1.toNat : Nat), .int (p.2.toNat : Nat)]] = true by simp) (l_calls (S := []) (rows := rows) (s := p.1.toNat) (e := p.2.toNat) (by omega))
    rw [show ((p.1.toNat : Nat) : Int) = p.1 by omega, show ((p.2.toNat : Nat) : Int) = p.2 by omega] at ca
    exact ca
  · have sm := sums60 hr (by omega) p.1.toNat p.2.toNat
    have bg : ∀ x : Int, x < 10 ^ 70 → x < big := fun x h => bigH (Int.le_trans (Int.le_of_lt h) (by decide))
    exact fPure_ap (S := S) (show pureL [.tup [.int a, .int b], .tup [.int (sg rows p.1.toNat p.2.toNat), .int (sf rows p.1.toNat p.2.toNat)]] = true from rfl) (above_l (S := []) (mulOk_big (by omega) (bg _ (by omega)) sm.2.1 (bg _ (by omega))) (mulOk_big (by omega) (bg _ (by omega)) (by omega) (bg _ (by omega))))
theorem of_loop (h0 : 0 < a) (hab : a < b) (hb : b < 2 ^ 71) (hr : RowsOk (10 ^ 60) rows) (hl : rows.length ≤ 200) {R0 : List Row} : ∀ (L G : List Row) (v3 : Option D), (∀ r ∈ L, r.length ≤ 60 ∧ ∀ p ∈ r, 0 ≤ p.1 ∧ p.1 < p.2) → G.length + L.length ≤ 1000 → ∃ w3,
    forL (mgN 3) mOf (L.map looksD) [some (caseD n a b R0), some (logD rows), some (.ref 0), v3, none] [.lst (G.map looksD)] = .ok (.nx [some (caseD n a b R0), some (logD rows), some (.ref 0), w3, none]) [.lst ((G ++ offR a b rows L).map looksD)]
  | [], G, v3, _, _ => ⟨v3, by rw [show offR a b rows [] = [] from rfl, List.append_nil]; rfl⟩
  | r :: L, G, v3, h, hn => by
    have hh := h r (List.mem_cons_self ..)
    rw [List.length_cons] at hn
    have lc : ∀ S, lcL (mgN 4) mYes (mCall (fPure f_l_above) (mCons (mOp opIx (mVar 0) (mC (.int 1))) (mCons (mCall (fPure f_l_calls) (mCons (mVar 1) (mCons (mVar 4) mNil))) mNil))) [some (caseD n a b R0), some (logD rows), some (.ref 0), some (looksD r), none] (r.map pairD) S = .ok (r.map fun p => D.bl (loudP a b rows p)) S := fun S =>
      lcL_mapx r S fun p hp => ⟨[some (caseD n a b R0), some (logD rows), some (.ref 0), some (looksD r), some (pairD p)], rfl, by
        obtain ⟨o1, o2⟩ := one_loud h0 hab hb hr hl (hh.2 p hp).1 (hh.2 p hp).2
        have i1 : ∀ S, opIx (caseD n a b R0) (.int 1) S = .ok (.tup [.int a, .int b]) S := fun S => rfl
        generalize D.tup [.int (sg rows p.1.toNat p.2.toNat), .int (sf rows p.1.toNat p.2.toNat)] = X at *
        generalize loudP a b rows p = t at *
        generalize D.tup [.int a, .int b] = M at *
        generalize logD rows = LG at *
        generalize caseD n a b R0 = CD at *
        generalize pairD p = P at *
        simp -implicitDefEqProofs [i1, o1, o2]⟩
    have z1 : (r.map pairD).length ≤ 100000 := by rw [List.length_map]; omega
    have it : ∀ S, itemsOf (looksD r) S = .ok (r.map pairD) S := fun S => by
      unfold looksD
      generalize r.map pairD = X at *
      simp -implicitDefEqProofs [z1]
    have an := fun S => all_mapB (loudP a b rows) r S
    have pl := pure_looks r
    have z2 : (G.map looksD).length < 100000 := by rw [List.length_map]; omega
    have eb : mOf [some (caseD n a b R0), some (logD rows), some (.ref 0), some (looksD r), none] [.lst (G.map looksD)] = .ok (.nx [some (caseD n a b R0), some (logD rows), some (.ref 0), some (looksD r), none]) [.lst ((G ++ if r.all (loudP a b rows) then [r] else []).map looksD)] := by
      rw [List.map_append]
      have e1 : [r].map looksD = [looksD r] := rfl
      have e2 : ([] : List Row).map looksD = [] := rfl
      unfold mOf
      generalize r.all (loudP a b rows) = t at *
      generalize caseD n a b R0 = CD at *
      generalize logD rows = LG at *
      generalize G.map looksD = GG at *
      generalize (r.map fun p => D.bl (loudP a b rows p)) = Z at *
      cases t
      · rw [if_neg (by decide), e2, List.append_nil]
        generalize looksD r = LL at *
        generalize r.map pairD = X at *
        simp -implicitDefEqProofs [it, z1, lc, an]
      · rw [if_pos rfl, e1]
        generalize looksD r = LL at *
        generalize r.map pairD = X at *
        have ap : appTo 0 LL [.lst GG] = .ok .non [.lst (GG ++ [LL])] := by simp [appTo, z2]
        simp -implicitDefEqProofs [it, z1, lc, an, ap, notOb_0]
    obtain ⟨w3, ih⟩ := of_loop h0 hab hb hr hl (R0 := R0) L (G ++ if r.all (loudP a b rows) then [r] else []) (some (looksD r)) (fun q hq => h q (List.mem_cons_of_mem _ hq)) (by
      rw [List.length_append]
      have : (if r.all (loudP a b rows) = true then [r] else []).length ≤ 1 := by split <;> simp
      omega)
    refine ⟨w3, ?_⟩
    have e : G ++ offR a b rows (r :: L) = G ++ (if r.all (loudP a b rows) then [r] else []) ++ offR a b rows L := by
      unfold offR
      rw [List.filter_cons, List.append_assoc]
      split <;> rfl
    have g0 : mgN 3 (looksD r) [some (caseD n a b R0), some (logD rows), some (.ref 0), v3, none] [.lst (G.map looksD)] = .ok [some (caseD n a b R0), some (logD rows), some (.ref 0), some (looksD r), none] [.lst (G.map looksD)] := rfl
    rw [e, List.map_cons, forL_cons, g0, bind_ok]
    show (mOf _ _).bind (forK _) = _
    rw [eb, bind_ok, forK_nx]
    exact ih
theorem offP (h0 : 0 < a) (hab : a < b) (hb : b < 2 ^ 71) (hr : RowsOk (10 ^ 60) rows) (hl : rows.length ≤ 200) (hR : ∀ r ∈ R, r.length ≤ 60 ∧ ∀ p ∈ r, 0 ≤ p.1 ∧ p.1 < p.2) (hn : R.length ≤ 1000) (S : Store) : fPure f_l_off [caseD n a b R, logD rows] S = .ok (.lst ((offR a b rows R).map looksD)) S := by
  have pc := pure_case n a b R
  have pl := pure_logD rows
  refine fPure_ap S (by simp only [pureL_cons, pc, pl, pureL_nil]; rfl) ?_
  obtain ⟨w3, lp⟩ := of_loop (n := n) h0 hab hb hr hl (R0 := R) R [] none hR (by simpa using hn)
  rw [List.nil_append] at lp
  have e0 : ([] : List Row).map looksD = [] := rfl
  rw [e0] at lp
  have i2 : ∀ S, opIx (caseD n a b R) (.int 2) S = .ok (rowsD R) S := fun S => rfl
  have it := fun S => items_rows (R := R) (by omega) S
  have z : ((offR a b rows R).map looksD).length ≤ 100000 := by
    have : (offR a b rows R).length ≤ R.length := List.length_filter_le _ _
    rw [List.length_map]
    omega
  have pz : pureD (.lst ((offR a b rows R).map looksD)) = true := pure_looksL _
  have fn := fin_nil (S := [.frz ((offR a b rows R).map looksD)]) pz
  unfold f_l_off m_l_off
  rw [fnM_2]
  show endM _ (mSeq _ (mSeq (mFor _ _ mOf) _) _ _) = _
  generalize mOf = M at *
  generalize (offR a b rows R).map looksD = Z at *
  generalize R.map looksD = X at *
  generalize rowsD R = RD at *
  generalize caseD n a b R = CD at *
  generalize logD rows = LG at *
  have fzz : fz (.ref 0) [.lst Z] = .ok (.lst Z) [.frz Z] := fz_ref rfl
  simp -implicitDefEqProofs [i2, it, lp, z, fn, fzz]
end
section
variable {n : Nat} {a b : Int} {R : List Row} {own c : Row}
theorem CaseO.rl (h : CaseO n a b R) : ∀ r ∈ R, r.length ≤ 100000 := fun r hr => by have := (h.rows r hr).2.1; omega
theorem CaseO.Rl (h : CaseO n a b R) : R.length ≤ 100000 := by have := h.len; omega
theorem fits_off (h : CaseO n a b R) (hc : c ∈ waysR R) {rows : List (Int × Int)} (hf : fitsB n a b (sortU c) own rows = true) : offR a b rows R = [] ∧ offR a b rows [own] = [own] := by
  unfold fitsB at hf
  rw [Bool.and_eq_true, Bool.and_eq_true, List.all_eq_true, List.all_eq_true] at hf
  obtain ⟨_, h1, h2⟩ := hf
  refine ⟨?_, ?_⟩
  · unfold offR
    rw [List.filter_eq_nil_iff]
    have q := (chosen_ex (p := fun l => loudP a b rows l = false) (R := R)).mpr ⟨c, mem_waysR.mp hc, fun l hl => by
      have := h1 l (mem_sortU.mpr hl)
      simpa using this⟩
    intro r hr hal
    obtain ⟨l, hl, e⟩ := q r hr
    have := List.all_eq_true.mp hal l hl
    rw [e] at this
    cases this
  · unfold offR
    rw [List.filter_cons, if_pos (List.all_eq_true.mpr h2)]
    rfl
end
theorem mul_ok71 {x y : Int} (h0 : 0 ≤ x) (h1 : x < 2 ^ 72) (h2 : 0 ≤ y) (h3 : y < 2 ^ 72) : mulOk x y = true :=
  mulOk_big2 (by unfold big; omega) (Int.lt_trans h1 (by unfold big; decide)) (by unfold big; omega) (Int.lt_trans h3 (by unfold big; decide))
section
variable {n m : Nat} {a b a2 b2 : Int} {R R2 : List Row} {own c r : Row} {C C2 d : D} {rows : List (Int × Int)}
theorem goingoffX (h : CaseO n a b R) (ho : LookO n own) : ∃ d, GoD n a b R own d ∧ ∀ C X S, IsCase C n a b R → IsLk X own → fPureX g_p_going_off [C, X] S = .ok d S := by
  obtain ⟨d, hd, e⟩ := goingoffP h ho
  exact ⟨d, hd, fun C X S hC hX => fPX_of (nN := 9) (nP := 2) (n := m_p_going_off) (e C X [] hC hX)⟩
def idleB (R : List Row) (own : Row) : Bool := !(waysR R).any (opensB own)
structure Part (n : Nat) (a b : Int) (R : List Row) (own : Row) (rows : List (Int × Int)) : Prop where
  len : rows.length = n
  ro : RowsOk (10 ^ 60) rows
  off : offR a b rows R = []
  on : own.all (loudP a b rows) = true
theorem GoD.told (h : CaseO n a b R) (ho : LookO n own) (hd : GoD n a b R own d) : (d = .non ∧ idleB R own = true) ∨ (Q.isNon d = false ∧ idleB R own = false ∧ ∃ rows, d = logD rows ∧ Part n a b R own rows) := by
  rcases hd with ⟨c, hc, z, rfl⟩ | ⟨z, rfl⟩
  · refine .inr ⟨rfl, ?_, _, rfl, ?_⟩
    · unfold idleB
      rw [List.any_eq_true.mpr ⟨c, hc, z⟩]
      rfl
    · have hd := h.day ho hc
      unfold opensB at z
      rw [Bool.and_eq_true] at z
      have r : ringedB (arcsL (sortU c) own) = false := by simpa using z.2
      have P := calm_pot hd.arcs r
      have ft := fit_fits hd P
      obtain ⟨o1, o2⟩ := fits_off h hc ft
      refine ⟨?_, fit_rows hd P, o1, ?_⟩
      · unfold fitsB at ft
        rw [Bool.and_eq_true] at ft
        exact of_decide_eq_true ft.1
      · have m : own ∈ offR a b (fitL n a b (sortU c) own) [own] := by rw [o2]; simp
        exact (List.mem_filter.mp m).2
  · refine .inl ⟨rfl, ?_⟩
    unfold idleB
    rw [z]
    rfl
theorem loud_scale (hb : 0 < b) (hb2 : 0 < b2) (e : a * b2 = a2 * b) (p : Int × Int) : loudP a2 b2 rows p = loudP a b rows p := by
  unfold loudP
  refine decide_eq_decide.mpr ?_
  generalize sg rows p.1.toNat p.2.toNat + sf rows p.1.toNat p.2.toNat = x
  generalize sf rows p.1.toNat p.2.toNat = y
  have e1 : a2 * x * b = a * x * b2 := by
    rw [Int.mul_right_comm, ← e, Int.mul_right_comm]
  have e2 : b2 * y * b = b * y * b2 := by grind
  constructor
  · intro h
    have := Int.mul_lt_mul_of_pos_right h hb
    rw [e1, e2] at this
    exact Int.lt_of_mul_lt_mul_right this (by omega)
  · intro h
    have := Int.mul_lt_mul_of_pos_right h hb2
    rw [← e1, ← e2] at this
    exact Int.lt_of_mul_lt_mul_right this (by omega)
theorem Part.other (P : Part n a b R own rows) (hb : 0 < b) (hb2 : 0 < b2) (e : a * b2 = a2 * b) (hr : own ∈ R2) : offR a2 b2 rows R2 ≠ [] := fun z => by
  unfold offR at z
  rw [List.filter_eq_nil_iff] at z
  refine z own hr ?_
  rw [List.all_eq_true]
  intro l hl
  rw [loud_scale hb hb2 e]
  exact List.all_eq_true.mp P.on l hl
def PtD (n : Nat) (a b : Int) (R : List Row) (a2 b2 : Int) (R2 : List Row) (d : D) : Prop :=
  (d = .non ∧ (R2.all (idleB R) && R.all (idleB R2)) = true) ∨ (Q.isNon d = false ∧ (R2.all (idleB R) && R.all (idleB R2)) = false ∧ ∃ rows, d = logD rows ∧ rows.length = n ∧ RowsOk (10 ^ 60) rows ∧ (offR a b rows R = [] ∧ offR a2 b2 rows R2 ≠ [] ∨ offR a b rows R ≠ [] ∧ offR a2 b2 rows R2 = []))
def mPi44 : MS := (mSeq (mAsg (mCallX (fPureX g_p_going_off) (mCons (mVar 5) (mCons (mVar 7) mNil))) (mgN 8)) (mIf (mTB (mNotN (mVar 8))) (mRet (mVar 8)) mSkip))
def mPo44 : MS := mFor (mItems (mOp opIx (mVar 6) (mC (.int 2)))) (mgN 7) mPi44
theorem row_loop44 {C : D} {g : Row → D} {v0 v1 v2 v3 v4 v6 : Option D} {S : Store} : ∀ (L : List Row) (v7 v8 : Option D), (∀ r ∈ L, ∀ S, fPureX g_p_going_off [C, looksD r] S = .ok (g r) S) → ∃ w7 w8,
    forL (mgN 7) mPi44 (L.map looksD) [v0, v1, v2, v3, v4, some C, v6, v7, v8] S = .ok (match L.find? (fun r => !Q.isNon (g r)) with | some r => .rt (g r) | none => .nx [v0, v1, v2, v3, v4, some C, v6, w7, w8]) S
  | [], v7, v8, _ => ⟨v7, v8, rfl⟩
  | r :: L, v7, v8, h => by
    have gr := h r (List.mem_cons_self ..)
    obtain ⟨w7, w8, ih⟩ := row_loop44 (C := C) (g := g) (v0 := v0) (v1 := v1) (v2 := v2) (v3 := v3) (v4 := v4) (v6 := v6) (S := S) L (some (looksD r)) (some (g r)) fun q hq => h q (List.mem_cons_of_mem _ hq)
    refine ⟨w7, w8, ?_⟩
    have g0 : mgN 7 (looksD r) [v0, v1, v2, v3, v4, some C, v6, v7, v8] S = .ok [v0, v1, v2, v3, v4, some C, v6, some (looksD r), v8] S := rfl
    have eb : mPi44 [v0, v1, v2, v3, v4, some C, v6, some (looksD r), v8] S = .ok (if Q.isNon (g r) = true then .nx [v0, v1, v2, v3, v4, some C, v6, some (looksD r), some (g r)] else .rt (g r)) S := by
      unfold mPi44
      generalize looksD r = X at *
      generalize g r = G at *
      cases q : Q.isNon G <;> simp -implicitDefEqProofs [gr, q]
    rw [List.map_cons, forL_cons, g0, bind_ok]
    show (mPi44 _ S).bind (forK _) = _
    rw [eb, bind_ok]
    cases q : Q.isNon (g r) with
    | true =>
      rw [if_pos rfl, forK_nx, List.find?_cons_of_neg (by rw [q]; simp)]
      exact ih
    | false =>
      rw [if_neg (by simp), List.find?_cons_of_pos (by rw [q]; rfl)]
      rfl
theorem agree44 (h : CaseO n a b R) (h2 : CaseO m a2 b2 R2) (S : Store) : fPure f_p_agree [.tup [.int a, .int b], .tup [.int a2, .int b2]] S = .ok (.bl (decide (a * b2 = a2 * b))) S := by
  have x1 := h.ha; have x2 := h.hab; have x3 := h.hb
  have y1 := h2.ha; have y2 := h2.hab; have y3 := h2.hb
  have m1 : mulOk a b2 = true := mul_ok71 (by omega) (by omega) (by omega) (by omega)
  have m2 : mulOk a2 b = true := mul_ok71 (by omega) (by omega) (by omega) (by omega)
  refine fPure_ap S rfl ?_
  have eq : ∀ S, opEq (.int (a * b2)) (.int (a2 * b)) S = .ok (.bl (decide (a * b2 = a2 * b))) S := fun S => by
    rw [eq_plain (shal_int _ _) (shal_int _ _)]
    rfl
  have i0 : ∀ (x y : Int) S, opIx (.tup [.int x, .int y]) (.int 0) S = .ok (.int x) S := fun x y S => rfl
  have i1 : ∀ (x y : Int) S, opIx (.tup [.int x, .int y]) (.int 1) S = .ok (.int y) S := fun x y S => rfl
  have i0a := i0 a b
  have i1a := i1 a b
  have i0b := i0 a2 b2
  have i1b := i1 a2 b2
  unfold f_p_agree m_p_agree
  rw [fnM_2]
  generalize D.tup [.int a, .int b] = M at *
  generalize D.tup [.int a2, .int b2] = M2 at *
  simp -implicitDefEqProofs [i0a, i1a, i0b, i1b, m1, m2, eq, fin_nil]
theorem CaseO.look (h : CaseO n a b R) {r : Row} (hr : r ∈ R) : LookO n r := ⟨(h.rows r hr).2.1, (h.rows r hr).2.2⟩
theorem CaseO.isC (h : CaseO n a b R) : IsCase (caseD n a b R) n a b R := isCase h.Rl h.rl
theorem go_fun (h : CaseO n a b R) : ∃ g : Row → D, ∀ r, LookO n r → GoD n a b R r (g r) ∧ ∀ S, fPureX g_p_going_off [caseD n a b R, looksD r] S = .ok (g r) S :=
  Classical.axiomOfChoice (r := fun (r : Row) (d : D) => LookO n r → GoD n a b R r d ∧ ∀ S, fPureX g_p_going_off [caseD n a b R, looksD r] S = .ok d S) fun r => by
    by_cases ho : LookO n r
    · obtain ⟨d, hd, e⟩ := goingoffX h ho
      exact ⟨d, fun _ => ⟨hd, fun S => e _ _ S h.isC (isLk (by have := ho.len; omega))⟩⟩
    · exact ⟨.non, fun z => absurd z ho⟩
theorem all_false {q : Row → Bool} {L : List Row} {r : Row} (hr : r ∈ L) (h : q r = false) : L.all q = false := List.all_eq_false.mpr ⟨r, hr, by rw [h]; exact Bool.false_ne_true⟩
theorem partingG (h : CaseO n a b R) (h2 : CaseO n a2 b2 R2) (e : a * b2 = a2 * b) : ∃ d, PtD n a b R a2 b2 R2 d ∧ pureD d = true ∧ (∀ C C2, IsCase C n a b R → IsCase C2 n a2 b2 R2 → fnM 9 2 m_p_parting_alarms [C, C2] [] = .ok d []) := by
  obtain ⟨g, hg⟩ := go_fun h
  obtain ⟨g2, hg2⟩ := go_fun h2
  have x1 := h.ha; have x2 := h.hab; have y1 := h2.ha; have y2 := h2.hab
  have hC := h.isC
  have hC2 := h2.isC
  have c1 := fun S => choicesX hC (fun r hr => ⟨(h.rows r hr).1, by have := (h.rows r hr).2.1; omega⟩) (by have := h.len; omega) h.ways S
  have c2 := fun S => choicesX hC2 (fun r hr => ⟨(h2.rows r hr).1, by have := (h2.rows r hr).2.1; omega⟩) (by have := h2.len; omega) h2.ways S
  have ag := fun S => agree44 h h2 S
  rw [decide_eq_true e] at ag
  have ne : ∀ S, opNe (.int (n : Nat)) (.int (n : Nat)) S = .ok (.bl false) S := fun S => ne_selfD (shal_int _ _)
  have it1 : ∀ S, itemsOf (rowsD R2) S = .ok (R2.map looksD) S := fun S => items_rows h2.Rl S
  have it2 : ∀ S, itemsOf (rowsD R) S = .ok (R.map looksD) S := fun S => items_rows h.Rl S
  have i0a : ∀ S, opIx (caseD n a b R) (.int 0) S = .ok (.int (n : Nat)) S := fun S => rfl
  have i1a : ∀ S, opIx (caseD n a b R) (.int 1) S = .ok (.tup [.int a, .int b]) S := fun S => rfl
  have i2a : ∀ S, opIx (caseD n a b R) (.int 2) S = .ok (rowsD R) S := fun S => rfl
  have i0b : ∀ S, opIx (caseD n a2 b2 R2) (.int 0) S = .ok (.int (n : Nat)) S := fun S => rfl
  have i1b : ∀ S, opIx (caseD n a2 b2 R2) (.int 1) S = .ok (.tup [.int a2, .int b2]) S := fun S => rfl
  have i2b : ∀ S, opIx (caseD n a2 b2 R2) (.int 2) S = .ok (rowsD R2) S := fun S => rfl
  have lz1 : (R.map looksD).length ≤ 100000 := by rw [List.length_map]; exact h.Rl
  have lz2 : (R2.map looksD).length ≤ 100000 := by rw [List.length_map]; exact h2.Rl
  have l1 := fun v0 v1 v2 v3 v4 v6 v7 v8 => row_loop44 (C := caseD n a b R) (g := g) (v0 := v0) (v1 := v1) (v2 := v2) (v3 := v3) (v4 := v4) (v6 := v6) (S := []) R2 v7 v8 fun r hr S => (hg r (h2.look hr)).2 S
  have l2 := fun v0 v1 v2 v3 v4 v6 v7 v8 => row_loop44 (C := caseD n a2 b2 R2) (g := g2) (v0 := v0) (v1 := v1) (v2 := v2) (v3 := v3) (v4 := v4) (v6 := v6) (S := []) R v7 v8 fun r hr S => (hg2 r (h.look hr)).2 S
  have shape : ∀ (d : D), pureD d = true → (∀ v0 v1 v2 v3 v4, (∃ w7 w8, forL (mgN 7) mPi44 (R2.map looksD) [v0, v1, v2, v3, v4, some (caseD n a b R), some (caseD n a2 b2 R2), none, none] ([] : Store) = .ok (.nx [v0, v1, v2, v3, v4, some (caseD n a b R), some (caseD n a2 b2 R2), w7, w8]) [] ∧ ((∃ u7 u8, forL (mgN 7) mPi44 (R.map looksD) [v0, v1, v2, v3, v4, some (caseD n a2 b2 R2), some (caseD n a b R), w7, w8] ([] : Store) = .ok (.nx [v0, v1, v2, v3, v4, some (caseD n a2 b2 R2), some (caseD n a b R), u7, u8]) []) ∧ d = .non ∨ forL (mgN 7) mPi44 (R.map looksD) [v0, v1, v2, v3, v4, some (caseD n a2 b2 R2), some (caseD n a b R), w7, w8] ([] : Store) = .ok (.rt d) [])) ∨ forL (mgN 7) mPi44 (R2.map looksD) [v0, v1, v2, v3, v4, some (caseD n a b R), some (caseD n a2 b2 R2), none, none] ([] : Store) = .ok (.rt d) []) → ∀ C C2, IsCase C n a b R → IsCase C2 n a2 b2 R2 → fnM 9 2 m_p_parting_alarms [C, C2] [] = .ok d [] := fun d pd lp C C2 iC iC2 => by
    have t1 := iC.tup
    have t2 := iC2.tup
    have fnd : fin 0 d ([] : Store) = .ok d [] := fin_nil pd
    have lp := lp (some C) (some C2) (some (caseD n a b R)) (some (caseD n a2 b2 R2)) (some (.lst [.tup [caseD n a b R, caseD n a2 b2 R2], .tup [caseD n a2 b2 R2, caseD n a b R]]))
    unfold m_p_parting_alarms
    rw [fnM_2]
    show endM _ (mSeq _ (mSeq _ (mSeq _ (mSeq _ (mSeq (mFor _ _ mPo44) _)))) _ _) = _
    unfold mPo44
    clear l1 l2 hC hC2
    generalize mPi44 = M at *
    generalize (waysR R).map looksD = W1 at *
    generalize (waysR R2).map looksD = W2 at *
    generalize R.map looksD = X1 at *
    generalize R2.map looksD = X2 at *
    generalize rowsD R = RD at *
    generalize rowsD R2 = RD2 at *
    generalize caseD n a b R = CD at *
    generalize caseD n a2 b2 R2 = CD2 at *
    generalize D.tup [.int a, .int b] = LM at *
    generalize D.tup [.int a2, .int b2] = LM2 at *
    rcases lp with ⟨w7, w8, o1, ⟨⟨u7, u8, o2⟩, rfl⟩ | o2⟩ | o1
    · simp -implicitDefEqProofs [t1, t2, i0a, i0b, i1a, i1b, i2a, i2b, ag, ne, c1, c2, it1, it2, o1, o2, fnd, lz1, lz2, forL_cons, forL_nil]
    · simp -implicitDefEqProofs [t1, t2, i0a, i0b, i1a, i1b, i2a, i2b, ag, ne, c1, c2, it1, it2, o1, o2, fnd, lz1, lz2, forL_cons, forL_nil]
    · simp -implicitDefEqProofs [t1, t2, i0a, i0b, i1a, i1b, i2a, i2b, ag, ne, c1, c2, it1, it2, o1, fnd, lz1, lz2, forL_cons, forL_nil]
  cases z1 : R2.find? (fun r => !Q.isNon (g r)) with
  | some r =>
    have hr := List.mem_of_find?_eq_some z1
    have hn := List.find?_some z1
    have hn : Q.isNon (g r) = false := by simpa using hn
    obtain ⟨gd, _⟩ := hg r (h2.look hr)
    rcases gd.told h (h2.look hr) with ⟨q, _⟩ | ⟨_, q, rows, er, P⟩
    · rw [q] at hn; cases hn
    · refine ⟨g r, .inr ⟨hn, ?_, rows, er, P.len, P.ro, .inl ⟨P.off, P.other (by omega) (by omega) e hr⟩⟩, gd.pure, ?_⟩
      · rw [all_false hr q]; rfl
      · refine shape (g r) gd.pure fun v0 v1 v2 v3 v4 => .inr ?_
        obtain ⟨w7, w8, el⟩ := l1 v0 v1 v2 v3 v4 (some (caseD n a2 b2 R2)) none none
        rw [el, z1]
  | none =>
    have i1 : ∀ r ∈ R2, idleB R r = true := fun r hr => by
      rw [List.find?_eq_none] at z1
      have := z1 r hr
      rcases (hg r (h2.look hr)).1.told h (h2.look hr) with ⟨_, q⟩ | ⟨q, _⟩
      · exact q
      · rw [q] at this; exact absurd rfl this
    have a1 : R2.all (idleB R) = true := List.all_eq_true.mpr i1
    cases z2 : R.find? (fun r => !Q.isNon (g2 r)) with
    | some r =>
      have hr := List.mem_of_find?_eq_some z2
      have hn := List.find?_some z2
      have hn : Q.isNon (g2 r) = false := by simpa using hn
      obtain ⟨gd, _⟩ := hg2 r (h.look hr)
      rcases gd.told h2 (h.look hr) with ⟨q, _⟩ | ⟨_, q, rows, er, P⟩
      · rw [q] at hn; cases hn
      · refine ⟨g2 r, .inr ⟨hn, ?_, rows, er, P.len, P.ro, .inr ⟨P.other (by omega) (by omega) e.symm hr, P.off⟩⟩, gd.pure, ?_⟩
        · rw [all_false hr q, Bool.and_false]
        · refine shape (g2 r) gd.pure fun v0 v1 v2 v3 v4 => .inl ?_
          obtain ⟨w7, w8, el⟩ := l1 v0 v1 v2 v3 v4 (some (caseD n a2 b2 R2)) none none
          obtain ⟨u7, u8, el2⟩ := l2 v0 v1 v2 v3 v4 (some (caseD n a b R)) w7 w8
          exact ⟨w7, w8, by rw [el, z1], .inr (by rw [el2, z2])⟩
    | none =>
      have i2 : ∀ r ∈ R, idleB R2 r = true := fun r hr => by
        rw [List.find?_eq_none] at z2
        have := z2 r hr
        rcases (hg2 r (h.look hr)).1.told h2 (h.look hr) with ⟨_, q⟩ | ⟨q, _⟩
        · exact q
        · rw [q] at this; exact absurd rfl this
      refine ⟨.non, .inl ⟨rfl, by rw [a1, List.all_eq_true.mpr i2]; rfl⟩, rfl, ?_⟩
      refine shape .non rfl fun v0 v1 v2 v3 v4 => .inl ?_
      obtain ⟨w7, w8, el⟩ := l1 v0 v1 v2 v3 v4 (some (caseD n a2 b2 R2)) none none
      obtain ⟨u7, u8, el2⟩ := l2 v0 v1 v2 v3 v4 (some (caseD n a b R)) w7 w8
      exact ⟨w7, w8, by rw [el, z1], .inl ⟨⟨u7, u8, by rw [el2, z2]⟩, rfl⟩⟩
end
def mPr44_0 : MS := (mPar 2 3 (mCons (mCall (fPure f_l_due) (mCons (mVar 0) (mCons (mVar 1) mNil))) (mCons (mLst (mCons (mCall (fPure (f_l_lists 30)) (mCons (mVar 0) mNil)) (mCons (mCall (fPure (f_l_lists 30)) (mCons (mVar 1) mNil)) mNil))) mNil)))
def mPr44_1 : MS := (mAsg (mCell (mCons (mCall (fPure f_p_alike_alarms) (mCons (mVar 0) (mCons (mVar 1) mNil))) (mCons (mCallK (fPure f_p_alike_alarms) 0 2 [1, 0] mNil (mCons (mOp opIx (mVar 3) (mC (.int 1))) (mCons (mOp opIx (mVar 3) (mC (.int 0))) mNil))) (mCons (mCall (fPure f_p_alike_alarms) (mCons (mVar 1) (mCons (mVar 0) mNil))) mNil)))) (mgN 4))
def mPr44_2 : MS := (mIf (mNotT (mTest (mCall (fPure (f_l_same 30)) (mCons (mFrz (mVar 4)) (mCons (mOp opMul (mLst (mCons (mVar 2) mNil)) (mC (.int 3))) mNil))))) (mRet (mC (.bl false))) mSkip)
def mPr44_3 : MS := (mAsg (mCell (mCons (mCall (fPure f_p_parting_alarms) (mCons (mVar 0) (mCons (mVar 1) mNil))) (mCons (mCall (fPure f_p_parting_alarms) (mCons (mVar 1) (mCons (mVar 0) mNil))) mNil))) (mgN 4))
def mPr44_4 : MS := (mDrop (mApp (mVar 4) (mCallK (fPure f_p_parting_alarms) 0 2 [1, 0] mNil (mCons (mOp opIx (mVar 3) (mC (.int 1))) (mCons (mOp opIx (mVar 3) (mC (.int 0))) mNil)))))
def mPr44_5 : MS := (mFor (mItems (mFrz (mVar 4))) (mgN 5) (mSeq (mIf (mTB (mOp opNe (mIsN (mVar 5)) (mVar 2))) (mRet (mC (.bl false))) mSkip) (mIf (mTB (mNotN (mVar 5))) (mSeq (mIf (mOrT (mNotT (mTest (mIsi .tuple (mVar 5)))) (mTB (mOp opNe (mCall fLen (mCons (mVar 5) mNil)) (mOp opIx (mVar 0) (mC (.int 0)))))) (mRet (mC (.bl false))) mSkip) (mIf (mTB (mOp opEq (mOp opEq (mCall (fPure f_l_off) (mCons (mVar 0) (mCons (mVar 5) mNil))) (mLst mNil)) (mOp opEq (mCall (fPure f_l_off) (mCons (mVar 1) (mCons (mVar 5) mNil))) (mLst mNil)))) (mRet (mC (.bl false))) mSkip)) mSkip)))
def mPr44_6 : MS := (mRet (mOp opEq (mVar 3) (mLst (mCons (mCall (fPure (f_l_lists 30)) (mCons (mVar 0) mNil)) (mCons (mCall (fPure (f_l_lists 30)) (mCons (mVar 1) mNil)) mNil)))))
theorem form_mPr44_ : m_l_pair_right = mSeq mPr44_0 (mSeq mPr44_1 (mSeq mPr44_2 (mSeq mPr44_3 (mSeq mPr44_4 (mSeq mPr44_5 mPr44_6))))) := rfl
def mPl44_0 : MS := (mIf (mTB (mOp opNe (mIsN (mVar 5)) (mVar 2))) (mRet (mC (.bl false))) mSkip)
def mPl44_1 : MS := (mIf (mTB (mNotN (mVar 5))) (mSeq (mIf (mOrT (mNotT (mTest (mIsi .tuple (mVar 5)))) (mTB (mOp opNe (mCall fLen (mCons (mVar 5) mNil)) (mOp opIx (mVar 0) (mC (.int 0)))))) (mRet (mC (.bl false))) mSkip) (mIf (mTB (mOp opEq (mOp opEq (mCall (fPure f_l_off) (mCons (mVar 0) (mCons (mVar 5) mNil))) (mLst mNil)) (mOp opEq (mCall (fPure f_l_off) (mCons (mVar 1) (mCons (mVar 5) mNil))) (mLst mNil)))) (mRet (mC (.bl false))) mSkip)) mSkip)
def mBodyPl44 : MS := mSeq mPl44_0 (mPl44_1)
def mDu44_0 : MS := (mIf (mNotT (mTest (mCall fAll (mCons (mLc (mItems (mOp opIx (mVar 3) (mC (.int 2)))) (mgN 4) mYes (mCall (fPure f_l_idle) (mCons (mOp opIx (mVar 2) (mC (.int 2))) (mCons (mVar 4) mNil))) [4]) mNil)))) (mRet (mC (.bl false))) mSkip)
def mBodyDu44 : MS := mDu44_0
theorem bodyDu44 : m_l_due = (mSeq (mFor (mItems (mTup (mCons (mTup (mCons (mVar 0) (mCons (mVar 1) mNil))) (mCons (mTup (mCons (mVar 1) (mCons (mVar 0) mNil))) mNil)))) (mgTup 2 (mgCons (mgN 2) (mgCons (mgN 3) mgNil))) mBodyDu44) (mRet (mC (.bl true)))) := rfl
theorem pl44_eq : mPr44_5 = (mFor (mItems (mFrz (mVar 4))) (mgN 5) mBodyPl44) := rfl
section
variable {n m : Nat} {a b a2 b2 : Int} {R R2 : List Row} {own c r : Row} {C C2 d d1 d2 : D} {rows : List (Int × Int)}
theorem partP44 (h : CaseO n a b R) (h2 : CaseO n a2 b2 R2) (e : a * b2 = a2 * b) : ∃ d, PtD n a b R a2 b2 R2 d ∧ pureD d = true ∧ ∀ C C2, IsCase C n a b R → IsCase C2 n a2 b2 R2 → (∀ S, fPure f_p_parting_alarms [C, C2] S = .ok d S) ∧ ∀ S, fPure f_p_alike_alarms [C, C2] S = .ok (.bl (Q.isNon d)) S := by
  obtain ⟨d, hd, pd, hp⟩ := partingG h h2 e
  refine ⟨d, hd, pd, fun C C2 hC hC2 => ?_⟩
  have pp : pureL [C, C2] = true := by simp only [pureL_cons, hC.pure, hC2.pure, pureL_nil]; rfl
  have e1 : ∀ S, fPure f_p_parting_alarms [C, C2] S = .ok d S := fun S => fPure_ap S pp (hp C C2 hC hC2)
  refine ⟨e1, fun S => fPure_ap S pp ?_⟩
  have x := fun S => fPX_of (nN := 9) (nP := 2) (n := m_p_parting_alarms) (S := S) (e1 [])
  change ∀ S, fPureX g_p_parting_alarms [C, C2] S = .ok d S at x
  unfold f_p_alike_alarms m_p_alike_alarms
  rw [fnM_2]
  simp -implicitDefEqProofs [x, fin_nil]
theorem partE44 {X : D} (h : CaseO n a b R) (t1 : ∀ S, fPure (f_p_tupled 30) [C] S = .ok (caseD n a b R) S) (t2 : ∀ S, fPure (f_p_tupled 30) [C2] S = .ok (.tup [.int (m : Nat), .tup [.int a2, .int b2], X]) S) (p1 : pureD C = true) (p2 : pureD C2 = true) (e : n ≠ m ∨ ∀ S, fPure f_p_agree [.tup [.int a, .int b], .tup [.int a2, .int b2]] S = .ok (.bl false) S) (e' : n ≠ m ∨ ∀ S, fPure f_p_agree [.tup [.int a2, .int b2], .tup [.int a, .int b]] S = .ok (.bl false) S) :
    (∀ S, fPureX g_p_parting_alarms [C, C2] S = .ex ⟨10, []⟩ S) ∧ (∀ S, fPureX g_p_parting_alarms [C2, C] S = .ex ⟨10, []⟩ S) ∧ ∀ S, fPureX g_p_alike_alarms [C, C2] S = .ex ⟨10, []⟩ S := by
  have neI : ∀ (x y : Nat) S, opNe (.int (x : Nat)) (.int (y : Nat)) S = .ok (.bl (!decide (x = y))) S := fun x y S => by
    rw [ne_plain (shal_int _ _) (shal_int _ _)]
    have : deq (.int (x : Nat)) (.int (y : Nat)) = decide (x = y) := by
      show ((x : Int) == (y : Int)) = decide (x = y)
      by_cases k : x = y
      · subst k
        rw [decide_eq_true rfl]
        exact beq_self_eq_true _
      · rw [decide_eq_false k]
        exact beq_eq_false_iff_ne.mpr (by omega)
    rw [this]
  have i0 : ∀ S, opIx (caseD n a b R) (.int 0) S = .ok (.int (n : Nat)) S := fun S => rfl
  have i1 : ∀ S, opIx (caseD n a b R) (.int 1) S = .ok (.tup [.int a, .int b]) S := fun S => rfl
  have j0 : ∀ S, opIx (.tup [.int (m : Nat), .tup [.int a2, .int b2], X]) (.int 0) S = .ok (.int (m : Nat)) S := fun S => rfl
  have j1 : ∀ S, opIx (.tup [.int (m : Nat), .tup [.int a2, .int b2], X]) (.int 1) S = .ok (.tup [.int a2, .int b2]) S := fun S => rfl
  have n1 := fun S => neI n m S
  have n2 := fun S => neI m n S
  have q1 : ∀ S, fPureX g_p_parting_alarms [C, C2] S = .ex ⟨10, []⟩ S := fun S => by
    refine fPureX_ex (by simp only [pureL_cons, p1, p2, pureL_nil]; rfl) ?_ rfl
    unfold g_p_parting_alarms m_p_parting_alarms
    rw [fnX_2]
    generalize caseD n a b R = CD at *
    generalize D.tup [.int a, .int b] = LM at *
    generalize D.tup [.int a2, .int b2] = LM2 at *
    generalize D.tup [.int (m : Nat), LM2, X] = CD2 at *
    rcases e with e | e
    · rw [decide_eq_false e] at n1
      simp -implicitDefEqProofs [t1, t2, i0, i1, j0, j1, n1]
      rfl
    · by_cases k : n = m
      · rw [decide_eq_true k] at n1
        simp -implicitDefEqProofs [t1, t2, i0, i1, j0, j1, n1, e]
        rfl
      · rw [decide_eq_false k] at n1
        simp -implicitDefEqProofs [t1, t2, i0, i1, j0, j1, n1]
        rfl
  have q2 : ∀ S, fPureX g_p_parting_alarms [C2, C] S = .ex ⟨10, []⟩ S := fun S => by
    refine fPureX_ex (by simp only [pureL_cons, p1, p2, pureL_nil]; rfl) ?_ rfl
    unfold g_p_parting_alarms m_p_parting_alarms
    rw [fnX_2]
    generalize caseD n a b R = CD at *
    generalize D.tup [.int a, .int b] = LM at *
    generalize D.tup [.int a2, .int b2] = LM2 at *
    generalize D.tup [.int (m : Nat), LM2, X] = CD2 at *
    rcases e' with e | e
    · rw [decide_eq_false (fun z => e z.symm)] at n2
      simp -implicitDefEqProofs [t1, t2, i0, i1, j0, j1, n2]
      rfl
    · by_cases k : m = n
      · rw [decide_eq_true k] at n2
        simp -implicitDefEqProofs [t1, t2, i0, i1, j0, j1, n2, e]
        rfl
      · rw [decide_eq_false k] at n2
        simp -implicitDefEqProofs [t1, t2, i0, i1, j0, j1, n2]
        rfl
  refine ⟨q1, q2, fun S => ?_⟩
  refine fPureX_ex (by simp only [pureL_cons, p1, p2, pureL_nil]; rfl) ?_ rfl
  unfold g_p_alike_alarms m_p_alike_alarms
  rw [fnX_2]
  simp [q1]
  rfl
theorem dueP44 (h : CaseO n a b R) (h2 : CaseO n a2 b2 R2) (S0 : Store) : fPure f_l_due [caseD n a b R, caseD n a2 b2 R2] S0 = .ok (.bl (R2.all (idleB R) && R.all (idleB R2))) S0 := by
  have hC := h.isC
  have hC2 := h2.isC
  refine fPure_ap S0 (by simp only [pureL_cons, hC.pure, hC2.pure, pureL_nil]; rfl) ?_
  have side : ∀ {a b a2 b2 : Int} {R R2 : List Row} (h : CaseO n a b R) (h2 : CaseO n a2 b2 R2) v0 v1 S, (∀ S, lcL (mgN 4) mYes (mCall (fPure f_l_idle) (mCons (mOp opIx (mVar 2) (mC (.int 2))) (mCons (mVar 4) mNil))) [v0, v1, some (caseD n a b R), some (caseD n a2 b2 R2), none] (R2.map looksD) S = .ok (R2.map fun r => D.bl (idleB R r)) S) → mBodyDu44 [v0, v1, some (caseD n a b R), some (caseD n a2 b2 R2), none] S = .ok (if R2.all (idleB R) = true then .nx [v0, v1, some (caseD n a b R), some (caseD n a2 b2 R2), none] else .rt (.bl false)) S := fun {a b a2 b2 R R2} h h2 v0 v1 S lc => by
    have i2 : ∀ S, opIx (caseD n a2 b2 R2) (.int 2) S = .ok (rowsD R2) S := fun S => rfl
    have it : ∀ S, itemsOf (rowsD R2) S = .ok (R2.map looksD) S := fun S => items_rows h2.Rl S
    have al := fun S => all_mapB (idleB R) R2 S
    have lz : (R2.map looksD).length ≤ 100000 := by rw [List.length_map]; exact h2.Rl
    have lz2 : (R2.map fun r => D.bl (idleB R r)).length ≤ 100000 := by rw [List.length_map]; exact h2.Rl
    unfold mBodyDu44 mDu44_0
    generalize (R2.map fun r => D.bl (idleB R r)) = Y at *
    generalize R2.map looksD = X at *
    generalize R2.all (idleB R) = t at *
    generalize caseD n a b R = CD at *
    generalize caseD n a2 b2 R2 = CD2 at *
    generalize rowsD R2 = RD at *
    cases t <;> simp -implicitDefEqProofs [i2, it, lc, al, lz, lz2]
  have lcs : ∀ {a b a2 b2 : Int} {R R2 : List Row} (h : CaseO n a b R) (h2 : CaseO n a2 b2 R2) v0 v1 S, lcL (mgN 4) mYes (mCall (fPure f_l_idle) (mCons (mOp opIx (mVar 2) (mC (.int 2))) (mCons (mVar 4) mNil))) [v0, v1, some (caseD n a b R), some (caseD n a2 b2 R2), none] (R2.map looksD) S = .ok (R2.map fun r => D.bl (idleB R r)) S := fun {a b a2 b2 R R2} h h2 v0 v1 S =>
    lcL_mapx (u := looksD) (w := fun r => D.bl (idleB R r)) R2 S fun r hr => ⟨[v0, v1, some (caseD n a b R), some (caseD n a2 b2 R2), some (looksD r)], rfl, by
      have id : ∀ S, fPure f_l_idle [rowsD R, looksD r] S = .ok (.bl (idleB R r)) S := fun S => lidleP h (h2.look hr) S
      have i2 : ∀ S, opIx (caseD n a b R) (.int 2) S = .ok (rowsD R) S := fun S => rfl
      generalize caseD n a b R = CD at *
      generalize caseD n a2 b2 R2 = CD2 at *
      generalize rowsD R = RD at *
      generalize looksD r = L at *
      simp -implicitDefEqProofs [id, i2]⟩
  have s1 := fun v0 v1 S => side h h2 v0 v1 S fun S => lcs h h2 v0 v1 S
  have s2 := fun v0 v1 S => side h2 h v0 v1 S fun S => lcs h2 h v0 v1 S
  clear side lcs
  unfold f_l_due
  rw [bodyDu44, fnM_2]
  generalize mBodyDu44 = B at *
  generalize R2.all (idleB R) = t1 at *
  generalize R.all (idleB R2) = t2 at *
  generalize caseD n a b R = CD at *
  generalize caseD n a2 b2 R2 = CD2 at *
  cases t1 <;> cases t2 <;> simp -implicitDefEqProofs [s1, s2, forL_cons, forL_nil, fin_nil]
structure Good44 (n : Nat) (a b : Int) (R : List Row) (a2 b2 : Int) (R2 : List Row) (t : Bool) (d : D) : Prop where
  non : Q.isNon d = t
  log : t = false → ∃ rows, d = logD rows ∧ rows.length = n ∧ RowsOk (10 ^ 60) rows ∧ (offR a b rows R).isEmpty ≠ (offR a2 b2 rows R2).isEmpty
theorem emp_ne {α : Type} {xs ys : List α} (h : xs = [] ∧ ys ≠ [] ∨ xs ≠ [] ∧ ys = []) : xs.isEmpty ≠ ys.isEmpty := by
  rcases h with ⟨rfl, h⟩ | ⟨h, rfl⟩
  · cases ys with
    | nil => exact absurd rfl h
    | cons _ _ => exact fun z => by cases z
  · cases xs with
    | nil => exact absurd rfl h
    | cons _ _ => exact fun z => by cases z
theorem PtD.good (h : PtD n a b R a2 b2 R2 d) : Good44 n a b R a2 b2 R2 (R2.all (idleB R) && R.all (idleB R2)) d := by
  rcases h with ⟨rfl, e⟩ | ⟨nn, e, rows, rfl, h1, h2, h3⟩
  · rw [e]; exact ⟨rfl, fun z => by cases z⟩
  · rw [e]; exact ⟨nn, fun _ => ⟨rows, rfl, h1, h2, emp_ne h3⟩⟩
theorem PtD.good2 (h : PtD n a2 b2 R2 a b R d) : Good44 n a b R a2 b2 R2 (R2.all (idleB R) && R.all (idleB R2)) d := by
  have g := h.good
  rw [Bool.and_comm] at g
  exact ⟨g.non, fun z => by
    obtain ⟨rows, e1, e2, e3, e4⟩ := g.log z
    exact ⟨rows, e1, e2, e3, fun k => e4 k.symm⟩⟩
theorem eq_rowsN (L : List Row) (S : Store) : opEq (.lst (L.map looksD)) (.lst []) S = .ok (.bl L.isEmpty) S := by
  have sh : shal 20 (D.lst (L.map looksD)) = true := by
    rw [shal_lst]
    refine shal_map (fun r => ?_) _
    unfold looksD
    rw [shal_tup]
    exact shal_map (fun _ => rfl) _
  rw [eq_plain sh rfl]
  cases L <;> rfl
theorem pl_step (h : CaseO n a b R) (h2 : CaseO n a2 b2 R2) {t : Bool} (g : Good44 n a b R a2 b2 R2 t d) {v3 v4 : Option D} (S : Store) : mBodyPl44 [some (caseD n a b R), some (caseD n a2 b2 R2), some (.bl t), v3, v4, some d] S = .ok (.nx [some (caseD n a b R), some (caseD n a2 b2 R2), some (.bl t), v3, v4, some d]) S := by
  have ne : ∀ t S, opNe (.bl t) (.bl t) S = .ok (.bl false) S := fun t S => by cases t <;> rfl
  have nn := g.non
  unfold mBodyPl44 mPl44_0 mPl44_1
  cases t with
  | true =>
    generalize caseD n a b R = CD at *
    generalize caseD n a2 b2 R2 = CD2 at *
    simp -implicitDefEqProofs [nn, ne]
  | false =>
    obtain ⟨rows, rfl, e2, e3, e4⟩ := g.log rfl
    have o1 := fun S => offP h.ha h.hab h.hb e3 (by have := h.n1; omega) (fun r hr => ⟨(h.rows r hr).2.1, fun p hp => ⟨((h.rows r hr).2.2 p hp).1, ((h.rows r hr).2.2 p hp).2.1⟩⟩) (by have := h.len; omega) (n := n) (R := R) S
    have o2 := fun S => offP h2.ha h2.hab h2.hb e3 (by have := h.n1; omega) (fun r hr => ⟨(h2.rows r hr).2.1, fun p hp => ⟨((h2.rows r hr).2.2 p hp).1, ((h2.rows r hr).2.2 p hp).2.1⟩⟩) (by have := h2.len; omega) (n := n) (R := R2) S
    have q1 := fun S => eq_rowsN (offR a b rows R) S
    have q2 := fun S => eq_rowsN (offR a2 b2 rows R2) S
    have eb : ∀ (x y : Bool) S, x ≠ y → opEq (.bl x) (.bl y) S = .ok (.bl false) S := fun x y S k => by cases x <;> cases y <;> first | rfl | exact absurd rfl k
    have eb := fun S => eb _ _ S e4
    have fl : ∀ S, fLen [logD rows] S = .ok (.int (n : Nat)) S := fun S => by
      rw [← e2]
      show Res.ok (D.int (((rows.map rowD).length : Nat) : Int)) S = _
      rw [List.length_map]
    have i0 : ∀ S, opIx (caseD n a b R) (.int 0) S = .ok (.int (n : Nat)) S := fun S => rfl
    have nI : ∀ S, opNe (.int (n : Nat)) (.int (n : Nat)) S = .ok (.bl false) S := fun S => ne_selfD (shal_int _ _)
    have ty : isTy .tuple (logD rows) = true := rfl
    have io : ∀ S, isOk S (logD rows) = true := fun S => rfl
    generalize (offR a b rows R).isEmpty = x at *
    generalize (offR a2 b2 rows R2).isEmpty = y at *
    generalize (offR a b rows R).map looksD = X at *
    generalize (offR a2 b2 rows R2).map looksD = Y at *
    generalize caseD n a b R = CD at *
    generalize caseD n a2 b2 R2 = CD2 at *
    generalize logD rows = LG at *
    simp -implicitDefEqProofs [nn, ne, ty, io, fl, i0, nI, o1, o2, q1, q2, eb]
theorem pl_loop (h : CaseO n a b R) (h2 : CaseO n a2 b2 R2) {t : Bool} {v3 v4 : Option D} {S : Store} : ∀ (L : List D) (v5 : Option D), (∀ d ∈ L, Good44 n a b R a2 b2 R2 t d) → ∃ w5, forL (mgN 5) mBodyPl44 L [some (caseD n a b R), some (caseD n a2 b2 R2), some (.bl t), v3, v4, v5] S = .ok (.nx [some (caseD n a b R), some (caseD n a2 b2 R2), some (.bl t), v3, v4, w5]) S
  | [], v5, _ => ⟨v5, rfl⟩
  | d :: L, v5, g => by
    obtain ⟨w5, ih⟩ := pl_loop h h2 (t := t) (v3 := v3) (v4 := v4) (S := S) L (some d) fun q hq => g q (List.mem_cons_of_mem _ hq)
    refine ⟨w5, ?_⟩
    have g0 : mgN 5 d [some (caseD n a b R), some (caseD n a2 b2 R2), some (.bl t), v3, v4, v5] S = .ok [some (caseD n a b R), some (caseD n a2 b2 R2), some (.bl t), v3, v4, some d] S := rfl
    rw [forL_cons, g0, bind_ok]
    show (mBodyPl44 _ S).bind (forK _) = _
    rw [pl_step h h2 (g d (List.mem_cons_self ..)), bind_ok, forK_nx]
    exact ih
theorem shal_caseL44 (n a b : Int) (R : List Row) : shal 20 (caseLD n a b R) = true := by
  unfold caseLD
  rw [shal_lst]
  refine List.all_eq_true.mpr fun d hd => ?_
  simp only [List.mem_cons, List.not_mem_nil, or_false] at hd
  rcases hd with rfl | rfl | rfl
  · rfl
  · rfl
  · rw [shal_lst]
    refine shal_map (fun r => ?_) _
    unfold looksL
    rw [shal_lst]
    exact shal_map (fun _ => rfl) _
theorem pairP44 (h : CaseO n a b R) (h2 : CaseO n a2 b2 R2) (e : a * b2 = a2 * b) (S0 : Store) : fPure f_l_pair_right [caseD n a b R, caseD n a2 b2 R2] S0 = .ok (.bl true) S0 := by
  obtain ⟨d1, k1, p1, f1⟩ := partP44 h h2 e
  obtain ⟨d2, k2, p2, f2⟩ := partP44 h2 h e.symm
  have hC := h.isC
  have hC2 := h2.isC
  have hL : IsCase (caseLD n a b R) n a b R := isCaseL h.Rl h.rl
  have hL2 : IsCase (caseLD n a2 b2 R2) n a2 b2 R2 := isCaseL h2.Rl h2.rl
  obtain ⟨pa1, al1⟩ := f1 _ _ hC hC2
  obtain ⟨pa2, al2⟩ := f2 _ _ hC2 hC
  obtain ⟨pa3, al3⟩ := f1 _ _ hL hL2
  have g1 := k1.good
  have g2 := k2.good2
  have du := fun S => dueP44 h h2 S
  have li1 := fun S => lists_case (n := (n : Int)) (a := a) (b := b) h.Rl h.rl S
  have li2 := fun S => lists_case (n := (n : Int)) (a := a2) (b := b2) h2.Rl h2.rl S
  generalize (R2.all (idleB R) && R.all (idleB R2)) = t at *
  rw [g1.non] at al1 al3
  rw [g2.non] at al2
  refine fPure_ap S0 (by simp only [pureL_cons, hC.pure, hC2.pure, pureL_nil]; rfl) ?_
  have es : ∀ S, opEq (.lst [caseLD n a b R, caseLD n a2 b2 R2]) (.lst [caseLD n a b R, caseLD n a2 b2 R2]) S = .ok (.bl true) S := fun S => by
    have x1 := shal_caseL44 n a b R
    have x2 := shal_caseL44 n a2 b2 R2
    have sh : ∀ m X, shal m X = true → shal (m + 1) X = true := fun m X => by
      induction m generalizing X with
      | zero => intro k; cases X <;> simp_all [shal]
      | succ m ih =>
        intro k
        cases X <;> simp_all [shal]
    have e1 := deq_self 20 _ x1
    have e2 := deq_self 20 _ x2
    have s21 : shal 21 (D.lst [caseLD n a b R, caseLD n a2 b2 R2]) = true := by
      show ([caseLD n a b R, caseLD n a2 b2 R2].all (shal 20)) = true
      simp [x1, x2]
    exact eq_selfD (by
      show ([caseLD n a b R, caseLD n a2 b2 R2].all (shal 19)) = true
      have y : ∀ (n a b : Int) (R : List Row), shal 19 (caseLD n a b R) = true := fun n a b R => by
        unfold caseLD
        show (_ : List D).all (shal 18) = true
        refine List.all_eq_true.mpr fun d hd => ?_
        simp only [List.mem_cons, List.not_mem_nil, or_false] at hd
        rcases hd with rfl | rfl | rfl
        · rfl
        · rfl
        · show (R.map looksL).all (shal 17) = true
          refine List.all_eq_true.mpr fun d hd => ?_
          obtain ⟨r, _, rfl⟩ := List.mem_map.mp hd
          show (r.map pairL).all (shal 16) = true
          exact shal_map (fun _ => rfl) _
      simp [y])
  have sa : ∀ S, fPure (f_l_same 30) [.lst [.bl t, .bl t, .bl t], .lst [.bl t, .bl t, .bl t]] S = .ok (.bl true) S := fun S => sameP S (by cases t <;> rfl)
  have mu : ∀ S, opMul (.lst [.bl t]) (.int 3) S = .ok (.lst [.bl t, .bl t, .bl t]) S := fun S => by
    unfold opMul opMulI fI opRep
    simp [lstOf, Res.orE]
  obtain ⟨w5, lp⟩ := pl_loop h h2 (t := t) (v3 := some (.lst [caseLD n a b R, caseLD n a2 b2 R2])) (v4 := some (.ref 1)) (S := [.frz [.bl t, .bl t, .bl t], .frz [d1, d2, d1]]) [d1, d2, d1] none fun d hd => by
    simp only [List.mem_cons, List.not_mem_nil, or_false] at hd
    rcases hd with rfl | rfl | rfl
    · exact g1
    · exact g2
    · exact g1
  have i0 : ∀ (x y : D) S, opIx (.lst [x, y]) (.int 0) S = .ok x S := fun x y S => rfl
  have i1 : ∀ (x y : D) S, opIx (.lst [x, y]) (.int 1) S = .ok y S := fun x y S => rfl
  have pl : ∀ x y : D, place [1, 0] [y, x] = [x, y] := fun x y => rfl
  unfold f_l_pair_right
  rw [form_mPr44_, fnM_2, pl44_eq]
  unfold mPr44_0 mPr44_1 mPr44_2 mPr44_3 mPr44_4 mPr44_6
  clear hC hC2 hL hL2 f1 f2 k1 k2 g1 g2
  generalize mBodyPl44 = B at *
  generalize caseD n a b R = CD at *
  generalize caseD n a2 b2 R2 = CD2 at *
  generalize caseLD n a b R = CL at *
  generalize caseLD n a2 b2 R2 = CL2 at *
  have fz1 : fz (.ref 0) [.lst [.bl t, .bl t, .bl t]] = .ok (.lst [.bl t, .bl t, .bl t]) [.frz [.bl t, .bl t, .bl t]] := fz_ref rfl
  have ap : appTo 1 d1 [.frz [.bl t, .bl t, .bl t], .lst [d1, d2]] = .ok .non [.frz [.bl t, .bl t, .bl t], .lst [d1, d2, d1]] := by simp [appTo]
  have fz2 : fz (.ref 1) [.frz [.bl t, .bl t, .bl t], .lst [d1, d2, d1]] = .ok (.lst [d1, d2, d1]) [.frz [.bl t, .bl t, .bl t], .frz [d1, d2, d1]] := fz_ref rfl
  have nob : notOb [.frz [.bl t, .bl t, .bl t], .lst [d1, d2]] 1 = true := rfl
  have fn : fin 0 (.bl true) [.frz [.bl t, .bl t, .bl t], .frz [d1, d2, d1]] = .ok (.bl true) [] := fin_nil rfl
  have it3 : ∀ S, itemsOf (.lst [d1, d2, d1]) S = .ok [d1, d2, d1] S := fun S => rfl
  simp -implicitDefEqProofs [du, li1, li2, al1, al2, al3, pa1, pa2, pa3, i0, i1, pl, sa, mu, fz1, ap, fz2, nob, it3, lp, es, fn]
end
section
variable {C C2 : D}
theorem refusedP (a1 : ∀ S, fPureX g_p_alike_alarms [C, C2] S = .ex ⟨10, []⟩ S) (q1 : ∀ S, fPureX g_p_parting_alarms [C2, C] S = .ex ⟨10, []⟩ S) (p1 : pureD C = true) (p2 : pureD C2 = true) (S0 : Store) : fPure f_l_refused [C, C2] S0 = .ok (.bl true) S0 := by
  refine fPure_ap S0 (by simp only [pureL_cons, p1, p2, pureL_nil]; rfl) ?_
  have c1 : ∀ xs : List D, xs.length = 2 → opCatC (.ref 0) (.lst xs) [.lst []] = .ok (.ref 1) [.lst [], .lst xs] := fun xs h => by
    have := catC_ref (S := [.lst []]) (k := 0) (xs := []) xs rfl
    rw [this, if_pos (by simp [h])]
    rfl
  have c2 : ∀ xs ys : List D, xs.length = 2 → ys.length = 2 → opCatC (.ref 1) (.lst ys) [.lst [], .lst xs] = .ok (.ref 2) [.lst [], .lst xs, .lst (xs ++ ys)] := fun xs ys h h2 => by
    have := catC_ref (S := [.lst [], .lst xs]) (k := 1) (xs := xs) ys rfl
    rw [this, if_pos (by omega)]
    rfl
  have c1 := c1 [.str "unlike", .bl true] rfl
  have c2 := c2 [.str "unlike", .bl true] [.str "unlike", .bl true] rfl rfl
  have eq : opEq (.ref 2) (.lst [.str "unlike", .bl true, .str "unlike", .bl true]) [.lst [], .lst [.str "unlike", .bl true], .lst [.str "unlike", .bl true, .str "unlike", .bl true]] = .ok (.bl true) [.lst [], .lst [.str "unlike", .bl true], .lst [.str "unlike", .bl true, .str "unlike", .bl true]] := by
    refine eq_refD (k := 2) (xs := [.str "unlike", .bl true, .str "unlike", .bl true]) rfl ?_
    decide +kernel
  have fn : fin 0 (.bl true) [.lst [], .lst [.str "unlike", .bl true], .lst [.str "unlike", .bl true, .str "unlike", .bl true]] = .ok (.bl true) [] := fin_nil rfl
  unfold f_l_refused m_l_refused
  rw [fnM_2]
  simp [a1, q1, hands_yes, isX_exn, c1, c2, eq, fn]
end
theorem deq_pairM {p q : Int × Int} : deq (pairD q) (pairD p) = decide (q = p) := by
  have : deq (pairD q) (pairD p) = ((q.1 == p.1) && ((q.2 == p.2) && true)) := rfl
  rw [this]
  by_cases h : q = p
  · subst h; simp
  · rw [decide_eq_false h]
    by_cases h3 : q.1 = p.1
    · have h4 : ¬ q.2 = p.2 := fun z => h (Prod.ext h3 z)
      simp [h3, h4]
    · simp [h3]
def lexP : List (Int × Int) → List (Int × Int) → Bool
  | [], [] => false
  | [], _ :: _ => true
  | _ :: _, [] => false
  | x :: xs, y :: ys => if x = y then lexP xs ys else decide (x.1 < y.1 ∨ (x.1 = y.1 ∧ x.2 < y.2))
theorem lexP_toks : ∀ xs ys : List (Int × Int), PyProof.Rows.lexLt PyProof.Rows.itemOrd (PySem.W.keyToksAll (toPyL (xs.map pairD))) (PySem.W.keyToksAll (toPyL (ys.map pairD))) = lexP xs ys
  | [], [] => by rw [List.map_nil]; rfl
  | [], y :: ys => by
    rw [List.map_nil, List.map_cons, toPyL, toPyL, PySem.W.keyToksAll, PySem.W.keyToksAll]
    rfl
  | x :: xs, [] => by
    rw [List.map_nil, List.map_cons, toPyL, toPyL, PySem.W.keyToksAll, PySem.W.keyToksAll]
    rfl
  | x :: xs, y :: ys => by
    have al : PySem.W.alike (toPy (pairD x)) (toPy (pairD y)) = true := rfl
    have eq : PyData.eqv (toPy (pairD x)) (toPy (pairD y)) = decide (x = y) := by
      rw [deq_py 5 5 (pairD x) (pairD y) rfl rfl]
      exact deq_pairM
    have lt : PySem.W.dataLt (toPy (pairD x)) (toPy (pairD y)) = decide (x.1 < y.1 ∨ (x.1 = y.1 ∧ x.2 < y.2)) := PySem.W.dataLt_ii x.1 x.2 y.1 y.2
    rw [List.map_cons, List.map_cons, toPyL, toPyL, PySem.W.dataLt_cons al, eq, lt, lexP_toks xs ys]
    show _ = (if x = y then lexP xs ys else decide (x.1 < y.1 ∨ (x.1 = y.1 ∧ x.2 < y.2)))
    by_cases e : x = y
    · rw [decide_eq_true e, if_pos rfl, if_pos e]
    · rw [decide_eq_false e, if_neg (by simp), if_neg e]
theorem lexP_data (xs ys : List (Int × Int)) : PySem.W.dataLt (toPy (looksD xs)) (toPy (looksD ys)) = lexP xs ys := by
  rw [← lexP_toks]
  exact PySem.W.dataLt_tuple _ _
theorem lexP_neg : ∀ {a b c : List (Int × Int)}, lexP c a = true → lexP c b = true ∨ lexP b a = true
  | [], [], c, h => .inl h
  | [], y :: b, [], h => by cases h
  | [], y :: b, z :: c, h => by cases h
  | x :: a, [], [], h => .inr h
  | x :: a, y :: b, [], _ => .inl rfl
  | x :: a, [], z :: c, h => .inr rfl
  | x :: a, y :: b, z :: c, h => by
    unfold lexP at h ⊢
    by_cases e1 : z = y
    · subst e1
      by_cases e2 : z = x
      · subst e2
        rw [if_pos rfl] at h ⊢
        rw [if_pos rfl]
        exact lexP_neg h
      · rw [if_neg e2] at h ⊢
        exact .inr h
    · rw [if_neg e1]
      by_cases e2 : y = x
      · subst e2
        rw [if_neg e1] at h
        exact .inl h
      · rw [if_neg e2, decide_eq_true_eq, decide_eq_true_eq]
        have n1 : ¬ (z.1 = y.1 ∧ z.2 = y.2) := fun q => e1 (Prod.ext q.1 q.2)
        have n2 : ¬ (y.1 = x.1 ∧ y.2 = x.2) := fun q => e2 (Prod.ext q.1 q.2)
        by_cases e3 : z = x
        · subst e3
          omega
        · rw [if_neg e3, decide_eq_true_eq] at h
          omega
theorem lexP_asym {a b : List (Int × Int)} (h : lexP a b = true) : lexP b a = false := by
  cases e : lexP b a with
  | false => rfl
  | true =>
    -- a < b and b < a
    have asym : ∀ (a b : List (Int × Int)), lexP a b = true → lexP b a = true → False := fun a => by
      induction a with
      | nil => intro b _ h2; cases b <;> cases h2
      | cons x a ih =>
        intro b h1 h2
        cases b with
        | nil => cases h1
        | cons y b =>
          unfold lexP at h1 h2
          by_cases e : x = y
          · subst e
            rw [if_pos rfl] at h1 h2
            exact ih b h1 h2
          · rw [if_neg e, decide_eq_true_eq] at h1
            rw [if_neg (fun z => e z.symm), decide_eq_true_eq] at h2
            omega
    exact (asym a b h e).elim
theorem lexP_conn : ∀ {a b : List (Int × Int)}, a ≠ b → lexP a b = true ∨ lexP b a = true
  | [], [], h => absurd rfl h
  | [], _ :: _, _ => .inl rfl
  | _ :: _, [], _ => .inr rfl
  | x :: a, y :: b, h => by
    unfold lexP
    by_cases e : x = y
    · subst e
      rw [if_pos rfl, if_pos rfl]
      exact lexP_conn fun z => h (by rw [z])
    · rw [if_neg e, if_neg (fun z => e z.symm), decide_eq_true_eq, decide_eq_true_eq]
      have n1 : ¬ (x.1 = y.1 ∧ x.2 = y.2) := fun q => e (Prod.ext q.1 q.2)
      omega
def leR (a b : List (Int × Int)) : Bool := !lexP b a
theorem leR_trans (a b c : List (Int × Int)) (h1 : leR a b = true) (h2 : leR b c = true) : leR a c = true := by
  unfold leR at *
  rw [Bool.not_eq_true'] at *
  cases e : lexP c a with
  | false => rfl
  | true =>
    rcases lexP_neg (b := b) e with z | z
    · rw [h2] at z; cases z
    · rw [h1] at z; cases z
theorem leR_total (a b : List (Int × Int)) : (leR a b || leR b a) = true := by
  unfold leR
  cases e : lexP b a with
  | false => rfl
  | true => rw [lexP_asym e]; rfl
theorem rows_up {R : List (List (Int × Int))} (h : R.Pairwise fun a b => leR a b = true) (nd : R.Nodup) : R.Pairwise fun a b => lexP a b = true := by
  unfold List.Nodup at nd
  refine (h.and nd).imp fun ⟨h1, h2⟩ => ?_
  unfold leR at h1
  rw [Bool.not_eq_true'] at h1
  rcases lexP_conn h2 with z | z
  · exact z
  · rw [h1] at z; cases z
def dedR : List (List (Int × Int)) → List (List (Int × Int))
  | [] => []
  | x :: xs => if x ∈ xs then dedR xs else x :: dedR xs
theorem dedR_cons (x : List (Int × Int)) (xs : List (List (Int × Int))) : dedR (x :: xs) = if x ∈ xs then dedR xs else x :: dedR xs := rfl
theorem mem_dedR {r : List (Int × Int)} : ∀ R : List (List (Int × Int)), r ∈ dedR R ↔ r ∈ R
  | [] => Iff.rfl
  | x :: xs => by
    unfold dedR
    split
    case isTrue h =>
      rw [mem_dedR xs, List.mem_cons]
      exact ⟨.inr, fun e => e.elim (fun e => e ▸ h) id⟩
    case isFalse h => rw [List.mem_cons, List.mem_cons, mem_dedR xs]
theorem dedR_nodup : ∀ R : List (List (Int × Int)), (dedR R).Nodup
  | [] => List.nodup_nil
  | x :: xs => by
    unfold dedR
    split
    case isTrue h => exact dedR_nodup xs
    case isFalse h => exact List.nodup_cons.mpr ⟨fun m => h ((mem_dedR xs).mp m), dedR_nodup xs⟩
theorem looks_num (r : List (Int × Int)) (k : Nat) : numD (k + 2) (looksD r) = true := by
  unfold looksD numD
  rw [List.all_map]
  exact List.all_eq_true.mpr fun p _ => by simp [pairD, numD]
theorem looks_inj {r s : List (Int × Int)} (h : looksD r = looksD s) : r = s := by
  unfold looksD at h
  injection h with h
  exact (List.map_inj_right fun x y e => by
    unfold pairD at e
    injection e with e
    injection e with e1 e2
    injection e2 with e2 _
    injection e1 with e1
    injection e2 with e2
    exact Prod.ext e1 e2).mp h
theorem dedup_rows : ∀ R : List (List (Int × Int)), dedupN (R.map looksD) = (dedR R).map looksD
  | [] => rfl
  | x :: xs => by
    have e : ((xs.map looksD).any fun y => decide (nkD y = nkD (looksD x))) = decide (x ∈ xs) := by
      rw [Bool.eq_iff_iff, List.any_eq_true, decide_eq_true_eq]
      constructor
      · rintro ⟨y, hy, he⟩
        obtain ⟨s, hs, rfl⟩ := List.mem_map.mp hy
        exact looks_inj (nkD_inj 8 _ _ (looks_num s 6) (looks_num x 6) (of_decide_eq_true he)) ▸ hs
      · exact fun m => ⟨_, List.mem_map_of_mem m, decide_eq_true rfl⟩
    show (if _ then _ else _) = _
    rw [e, dedup_rows xs, dedR_cons]
    by_cases m : x ∈ xs
    · rw [if_pos m, if_pos (decide_eq_true m)]
    · rw [if_neg m, if_neg (by simp [m])]; rfl
theorem strict_rows : ∀ {R : List (List (Int × Int))}, R.Pairwise (fun a b => lexP a b = true) → strictA (R.map looksD) = true
  | [], _ => rfl
  | r :: R, h => by
    have h := List.pairwise_cons.mp h
    show (_ && _) = true
    rw [strict_rows h.2, Bool.and_true, List.all_map]
    exact List.all_eq_true.mpr fun s hs => (lexP_data r s).trans (h.1 s hs)
theorem set_rows {R : List (List (Int × Int))} (h : ∀ r ∈ R, r ≠ []) (hl : R.length < 64) :
    ∃ R' : List (List (Int × Int)), R'.Nodup ∧ R'.Pairwise (fun a b => lexP a b = true) ∧ (∀ r, r ∈ R' ↔ r ∈ R) ∧ okN (R.map looksD) = true ∧ sortA (dedupN (R.map looksD)) = R'.map looksD := by
  have e : ((dedR R).mergeSort leR).map looksD = sortA ((dedR R).map looksD) := List.map_mergeSort fun a _ b _ => by
    show leR a b = !PySem.W.dataLt (toPy (looksD b)) (toPy (looksD a))
    rw [lexP_data]
    rfl
  have nd : ((dedR R).mergeSort leR).Nodup := (List.mergeSort_perm _ _).nodup_iff.mpr (dedR_nodup R)
  have up := rows_up (List.pairwise_mergeSort leR_trans leR_total (dedR R)) nd
  refine ⟨(dedR R).mergeSort leR, nd, up, fun r => ((List.mergeSort_perm _ _).mem_iff).trans (mem_dedR R), ?_, by rw [dedup_rows, e]⟩
  unfold okN
  rw [rows_okA h, dedup_rows, ← e, strict_rows up, Bool.true_and, Bool.and_true, List.all_map, List.length_map, decide_eq_true hl, Bool.and_true]
  exact List.all_eq_true.mpr fun r _ => looks_num r 6
theorem setL_rows {R : List (List (Int × Int))} (h : ∀ r ∈ R, r ≠ []) (hl : R.length < 64) :
    ∃ R' : List (List (Int × Int)), R'.Nodup ∧ R'.Pairwise (fun a b => lexP a b = true) ∧ (∀ r, r ∈ R' ↔ r ∈ R) ∧ ∀ {d : D} {S : Store}, rdL S d = some (R.map looksD) → ssNL d S = .ok (.lst (R'.map looksD)) S := by
  obtain ⟨R', a, b, c, ok, e⟩ := set_rows h hl
  exact ⟨R', a, b, c, fun hd => by rw [ssNL_ok hd ok, e]⟩
theorem dedR_len : ∀ R : List Row, (dedR R).length ≤ R.length
  | [] => Nat.le_refl _
  | x :: xs => by
    have ih := dedR_len xs
    rw [dedR_cons]
    split
    · simp; omega
    · simp; omega
theorem dedR_prod : ∀ R : List Row, (∀ r ∈ R, r ≠ []) → prodR (dedR R) ≤ prodR R
  | [], _ => Nat.le_refl _
  | x :: xs, h => by
    have ih := dedR_prod xs fun r hr => h r (List.mem_cons_of_mem _ hr)
    have hx : 1 ≤ x.length := by
      have := h x (List.mem_cons_self ..)
      cases x with
      | nil => exact absurd rfl this
      | cons _ _ => simp
    rw [dedR_cons]
    split
    · show prodR (dedR xs) ≤ x.length * prodR xs
      exact Nat.le_trans ih (Nat.le_mul_of_pos_left _ (by omega))
    · show x.length * prodR (dedR xs) ≤ x.length * prodR xs
      exact Nat.mul_le_mul_left _ ih
theorem nodup_perm {xs ys : List Row} (h : xs.Nodup) (h' : ys.Nodup) (e : ∀ r, r ∈ xs ↔ r ∈ ys) : xs.Perm ys := (List.perm_ext_iff_of_nodup h h').mpr e
theorem setL_rows2 {R : List Row} (h : ∀ r ∈ R, r ≠ []) (hl : R.length < 64) :
    ∃ R' : List Row, (∀ r, r ∈ R' ↔ r ∈ R) ∧ R'.length ≤ R.length ∧ prodR R' ≤ prodR R ∧ ∀ {S : Store}, ssNL (.lst (R.map looksD)) S = .ok (.lst (R'.map looksD)) S := by
  obtain ⟨R', a, b, c, e⟩ := setL_rows h hl
  have p := nodup_perm a (dedR_nodup R) fun r => (c r).trans (mem_dedR R).symm
  exact ⟨R', c, by rw [p.length_eq]; exact dedR_len R, by rw [prodR_perm p]; exact dedR_prod R h, fun {S} => e (d := .lst (R.map looksD)) (S := S) rfl⟩
theorem deqL_pairs : ∀ r s : Row, deqL (r.map pairD) (s.map pairD) = decide (r = s)
  | [], [] => rfl
  | [], _ :: _ => rfl
  | _ :: _, [] => rfl
  | x :: r, y :: s => by
    show (deq (pairD x) (pairD y) && deqL (r.map pairD) (s.map pairD)) = _
    rw [deqL_pairs r s, deq_pairM]
    by_cases h1 : x = y <;> by_cases h2 : r = s <;> simp [h1, h2]
theorem ne_looks44 (r s : Row) (S : Store) : opNe (looksD r) (looksD s) S = .ok (.bl (!decide (r = s))) S := by
  rw [ne_plain (shal_looks r) (shal_looks s)]
  show Res.ok (D.bl (!deqL (r.map pairD) (s.map pairD))) S = _
  rw [deqL_pairs]
def mVr44_0 : MS := (mAsg (mVar 1) (mgTup 3 (mgCons (mgN 2) (mgCons (mgN 3) (mgCons (mgN 4) mgNil)))))
def mVr44_1 : MS := (mAsg (mTup (mCons (mCall (fCall f_l_take) (mCons (mVar 0) (mCons (mC (.int 6)) mNil))) (mCons (mCall (fCall f_l_alarm) (mCons (mVar 0) (mCons (mVar 2) (mCons (mC (.int 3)) mNil)))) (mCons (mTup mNil) mNil)))) (mgTup 3 (mgCons (mgN 5) (mgCons (mgN 6) (mgCons (mgN 7) mgNil)))))
def mVr44_2 : MS := (mIf (mTB (mOp opEq (mVar 5) (mC (.int 0)))) (mRet (mTup (mCons (mVar 2) (mCons (mTup (mCons (mOp opMul (mC (.int 3)) (mOp opIx (mVar 3) (mC (.int 0)))) (mCons (mOp opMul (mC (.int 3)) (mOp opIx (mVar 3) (mC (.int 1)))) mNil))) (mCons (mVar 4) mNil))))) mSkip)
def mVr44_3 : MS := (mIf (mTB (mOp opNe (mVar 4) (mTup mNil))) (mAsg (mCall (fCall f_l_of) (mCons (mVar 0) (mCons (mVar 4) mNil))) (mgN 7)) mSkip)
def mVr44_4 : MS := (mAsg (mLc (mItems (mVar 4)) (mgN 9) (mTB (mOp opNe (mVar 9) (mVar 7))) (mVar 9) [9]) (mgN 8))
def mVr44_5 : MS := (mIf (mTB (mOp opEq (mVar 5) (mC (.int 1)))) (mRet (mTup (mCons (mVar 2) (mCons (mVar 3) (mCons (mCall fTuple (mCons (mVar 8) mNil)) mNil))))) mSkip)
def mVr44_6 : MS := (mIf (mAndT (mTB (mOp opEq (mVar 5) (mC (.int 2)))) (mTB (mOp opNe (mVar 7) (mTup mNil)))) (mRet (mTup (mCons (mVar 2) (mCons (mVar 3) (mCons (mCall fTuple (mCons (mSortSetNL (mOp opAdd (mVar 8) (mLst (mCons (mCall fTuple (mCons (mSortSetT (mOp opAdd (mVar 7) (mSl (mVar 6) mNoO (mSoO (mC (.int 1)))))) mNil)) mNil)))) mNil)) mNil))))) mSkip)
def mVr44_7 : MS := (mIf (mAndT (mTB (mOp opEq (mVar 5) (mC (.int 3)))) (mTB (mOp opGt (mCall fLen (mCons (mVar 7) mNil)) (mC (.int 1))))) (mRet (mTup (mCons (mVar 2) (mCons (mVar 3) (mCons (mCall fTuple (mCons (mSortSetNL (mOp opAdd (mVar 8) (mLst (mCons (mSl (mVar 7) (mSoO (mC (.int 1))) mNoO) mNil)))) mNil)) mNil))))) mSkip)
def mVr44_8 : MS := (mIf (mTB (mOp opEq (mVar 5) (mC (.int 4)))) (mAsg (mSl (mVar 6) mNoO (mSoO (mC (.int 1)))) (mgN 6)) mSkip)
def mVr44_9 : MS := (mRet (mTup (mCons (mVar 2) (mCons (mVar 3) (mCons (mCall fTuple (mCons (mSortSetNL (mOp opAdd (mCall fList (mCons (mVar 4) mNil)) (mLst (mCons (mVar 6) mNil)))) mNil)) mNil)))))
theorem form_mVr44_ : m_l_varied = mSeq mVr44_0 (mSeq mVr44_1 (mSeq mVr44_2 (mSeq mVr44_3 (mSeq mVr44_4 (mSeq mVr44_5 (mSeq mVr44_6 (mSeq mVr44_7 (mSeq mVr44_8 mVr44_9)))))))) := rfl
def mRt44_0 : MS := (mAsg (mCall (fCall f_l_alarms) (mCons (mVar 0) (mCons (mC (.int 10)) (mCons (mC (.int 4)) (mCons (mC (.int 3)) (mCons (mC (.int 6)) mNil)))))) (mgN 2))
def mRt44_1 : MS := (mAsg (mCall (fCall f_l_varied) (mCons (mVar 0) (mCons (mVar 2) mNil))) (mgN 3))
def mRt44_2 : MS := (mAsg (mIfE (mTB (mOp opEq (mVar 1) (mC (.int 0)))) (mCall (fCall f_l_varied) (mCons (mVar 0) (mCons (mVar 3) mNil))) (mVar 2)) (mgN 4))
def mRt44_3 : MS := (mIf (mOrT (mNotT (mTest (mCall (fPure f_l_pair_right) (mCons (mVar 2) (mCons (mVar 3) mNil))))) (mNotT (mTest (mCall (fPure f_l_pair_right) (mCons (mVar 3) (mCons (mVar 4) mNil)))))) (mRet (mC (.bl false))) mSkip)
def mRt44_4 : MS := (mAsg (mOp opIx (mVar 2) (mC (.int 1))) (mgTup 2 (mgCons (mgN 5) (mgCons (mgN 6) mgNil))))
def mRt44_5 : MS := (mIf (mNotT (mTest (mCall (fPure f_l_refused) (mCons (mVar 2) (mCons (mOp opAdd (mTup (mCons (mOp opAdd (mOp opIx (mVar 2) (mC (.int 0))) (mC (.int 1))) mNil)) (mSl (mVar 3) (mSoO (mC (.int 1))) mNoO)) mNil))))) (mRet (mC (.bl false))) mSkip)
def mRt44_6 : MS := (mIf (mNotT (mTest (mCall (fPure f_l_refused) (mCons (mVar 2) (mCons (mTup (mCons (mOp opIx (mVar 2) (mC (.int 0))) (mCons (mTup (mCons (mVar 5) (mCons (mOp opAdd (mVar 6) (mC (.int 1))) mNil))) (mCons (mOp opIx (mVar 3) (mC (.int 2))) mNil)))) mNil))))) (mRet (mC (.bl false))) mSkip)
def mBodyRt44 : MS := mSeq mRt44_0 (mSeq mRt44_1 (mSeq mRt44_2 (mSeq mRt44_3 (mSeq mRt44_4 (mSeq mRt44_5 (mRt44_6))))))
structure CaseV (n : Nat) (a b : Int) (R : List Row) (B : Int) (A L W : Nat) : Prop where
  hn : 0 < n
  ha : 0 < a
  hab : a < b
  hb : b < B
  rows : ∀ r ∈ R, RowOk n r
  len : R.length ≤ A
  lens : ∀ r ∈ R, r.length ≤ L
  ways : prodR R ≤ W
theorem prod_filter {q : Row → Bool} : ∀ {R : List Row}, (∀ r ∈ R, r ≠ []) → prodR (R.filter q) ≤ prodR R
  | [], _ => Nat.le_refl _
  | r :: R, h => by
    have ih := prod_filter (q := q) (R := R) fun x hx => h x (List.mem_cons_of_mem _ hx)
    have hr : 1 ≤ r.length := by
      have := h r (List.mem_cons_self ..)
      cases r with
      | nil => exact absurd rfl this
      | cons _ _ => simp
    rw [List.filter_cons]
    split
    · show r.length * prodR (R.filter q) ≤ r.length * prodR R
      exact Nat.mul_le_mul_left _ ih
    · show prodR (R.filter q) ≤ r.length * prodR R
      exact Nat.le_trans ih (Nat.le_mul_of_pos_left _ (by omega))
theorem prod_without {one : Row} : ∀ {R : List Row}, (∀ r ∈ R, r ≠ []) → one ∈ R → prodR (R.filter fun r => !decide (r = one)) * one.length ≤ prodR R
  | [], _, h => absurd h List.not_mem_nil
  | r :: R, h, hm => by
    have h' : ∀ x ∈ R, x ≠ [] := fun x hx => h x (List.mem_cons_of_mem _ hx)
    by_cases e : r = one
    · subst e
      rw [List.filter_cons, if_neg (by simp)]
      show _ ≤ r.length * prodR R
      rw [Nat.mul_comm]
      exact Nat.mul_le_mul_left _ (prod_filter h')
    · have m : one ∈ R := (List.mem_cons.mp hm).resolve_left fun k => e k.symm
      rw [List.filter_cons, if_pos (by simpa using e)]
      show r.length * prodR _ * one.length ≤ r.length * prodR R
      rw [Nat.mul_assoc]
      exact Nat.mul_le_mul_left _ (prod_without h' m)
section
variable {n A L W : Nat} {a b B : Int} {R : List Row} {row one g : Row} {S : Store}
theorem CaseA.v (h : CaseA n a b R A L W) : CaseV n a b R (2 ^ 67) A L W := ⟨h.hn, h.ha, h.hab, h.hb, h.rows, h.len, h.lens, h.ways⟩
theorem CaseV.o (h : CaseV n a b R B A L W) (hB : B ≤ 2 ^ 71) (hA : A ≤ 60) (hL : L ≤ 60) (hW : W ≤ 64) (hn : n ≤ 40) : CaseO n a b R :=
  ⟨h.ha, h.hab, Int.lt_of_lt_of_le h.hb hB, hn, fun r hr => ⟨(h.rows r hr).ne, Nat.le_trans (h.lens r hr) hL, fun l hl => (h.rows r hr).lk.ok l hl⟩, Nat.le_trans h.len hA, Nat.le_trans h.ways hW⟩
theorem CaseV.mono {B' : Int} {A' L' W' : Nat} (h : CaseV n a b R B A L W) (hB : B ≤ B') (hA : A ≤ A') (hL : L ≤ L') (hW : W ≤ W') : CaseV n a b R B' A' L' W' := ⟨h.hn, h.ha, h.hab, Int.lt_of_lt_of_le h.hb hB, h.rows, Nat.le_trans h.len hA, fun r hr => Nat.le_trans (h.lens r hr) hL, Nat.le_trans h.ways hW⟩
theorem CaseV.put (h : CaseV n a b R B A L W) (hA : A ≤ 20) (hL : 3 ≤ L) {F : List Row} (hF : ∀ r ∈ F, r ∈ R) (hl : F.length ≤ R.length) (hg : RowOk n g) (hgl : g.length ≤ L + 1) (hw : prodR F * g.length ≤ 3 * W) : ∃ R', CaseV n a b R' B (A + 1) (L + 1) (3 * W) ∧ ∀ {S : Store}, ssNL (.lst ((F ++ [g]).map looksD)) S = .ok (.lst (R'.map looksD)) S := by
  have ne : ∀ r ∈ F ++ [g], RowOk n r ∧ r.length ≤ L + 1 := fun r hr' => by
    rcases List.mem_append.mp hr' with m | m
    · have := h.lens r (hF r m)
      exact ⟨h.rows r (hF r m), by omega⟩
    · rw [List.mem_singleton.mp m]; exact ⟨hg, hgl⟩
  have len := h.len
  obtain ⟨R', h1, h2, h3, h4⟩ := setL_rows2 (R := F ++ [g]) (fun r hr => (ne r hr).1.ne) (by rw [List.length_append]; simp; omega)
  have e2 : (F ++ [g]).length = F.length + 1 := by simp
  have e3 : prodR (F ++ [g]) = prodR F * g.length := prodR_app F g
  exact ⟨R', ⟨h.hn, h.ha, h.hab, h.hb, fun r m => (ne r ((h1 r).mp m)).1, by omega, fun r m => (ne r ((h1 r).mp m)).2, by omega⟩, h4⟩
theorem CaseV.cut (h : CaseV n a b R B A L W) (q : Row → Bool) : CaseV n a b (R.filter q) B (A + 1) (L + 1) (3 * W) := by
  have l := List.length_filter_le q R
  have p := prod_filter (q := q) fun r hr => (h.rows r hr).ne
  have := h.len
  have := h.ways
  exact ⟨h.hn, h.ha, h.hab, h.hb, fun r hr => h.rows r (List.mem_filter.mp hr).1, by omega, fun r hr => by have := h.lens r (List.mem_filter.mp hr).1; omega, by omega⟩
def lessR (R : List Row) (one : Row) : List Row := R.filter fun r => !decide (r = one)
def Ev44 (v0 v1 v2 v3 v4 v5 v6 v7 v8 : Option D) : Q.Env := [v0, v1, v2, v3, v4, v5, v6, v7, v8, none]
theorem cat_lst44 {xs ys : List D} (h : xs.length + ys.length ≤ 100000) (S : Store) : opAdd (.lst xs) (.lst ys) S = .ok (.lst (xs ++ ys)) S := by simp [h]
theorem cat_tup44 {xs ys : List D} (h : xs.length + ys.length ≤ 100000) (S : Store) : opAdd (.tup xs) (.tup ys) S = .ok (.tup (xs ++ ys)) S := by simp [h]
theorem tup_rows44 (R : List Row) (S : Store) : fTuple [.lst (R.map looksD)] S = .ok (rowsD R) S := by
  unfold rowsD
  generalize R.map looksD = Y at *
  simp [fTuple, un1, gTuple, seqOf, rdL, lstOf]
theorem vr4 (hR : R.length ≤ 1000) {v0 v1 v2 v3 v5 v6 v8 : Option D} (S : Store) : mVr44_4 (Ev44 v0 v1 v2 v3 (some (rowsD R)) v5 v6 (some (looksD one)) v8) S = .ok (.nx (Ev44 v0 v1 v2 v3 (some (rowsD R)) v5 v6 (some (looksD one)) (some (.lst ((lessR R one).map looksD))))) S := by
  have it : ∀ S, itemsOf (rowsD R) S = .ok (R.map looksD) S := fun S => items_rows (by omega) S
  have z2 : (R.map looksD).length ≤ 100000 := by rw [List.length_map]; omega
  have fz : (lessR R one).length ≤ R.length := List.length_filter_le _ _
  have z1 : ((lessR R one).map looksD).length ≤ 100000 := by rw [List.length_map]; omega
  have lc : ∀ S, lcL (mgN 9) (mTB (mOp opNe (mVar 9) (mVar 7))) (mVar 9) (Ev44 v0 v1 v2 v3 (some (rowsD R)) v5 v6 (some (looksD one)) v8) (R.map looksD) S = .ok ((lessR R one).map looksD) S := fun S =>
    lcL_filtermap (u := looksD) (w := looksD) (q := fun r => !decide (r = one)) R S fun r _ => ⟨_, rfl, by
      have nl := fun S => ne_looks44 r one S
      unfold Ev44
      generalize looksD r = L1 at *
      generalize looksD one = L2 at *
      generalize rowsD R = RR at *
      simp -implicitDefEqProofs [nl], by
      unfold Ev44
      generalize looksD r = L1 at *
      generalize looksD one = L2 at *
      generalize rowsD R = RR at *
      simp -implicitDefEqProofs⟩
  unfold mVr44_4
  unfold Ev44 at *
  generalize (lessR R one).map looksD = Y at *
  generalize R.map looksD = X at *
  generalize rowsD R = RR at *
  generalize looksD one = O at *
  simp -implicitDefEqProofs [it, lc, z1, z2]
theorem eqI44 (i j : Int) (S : Store) : opEq (.int i) (.int j) S = .ok (.bl (decide (i = j))) S := by
  rw [eq_plain (shal_int _ _) (shal_int _ _)]
  rfl
theorem ne_nil44 (c : Row) (S : Store) : opNe (looksD c) (.tup []) S = .ok (.bl (!c.isEmpty)) S := by
  rw [ne_plain (shal_looks c) rfl]
  cases c <;> rfl
def VrD (n : Nat) (a b : Int) (R : List Row) (B : Int) (A L W : Nat) (r : Res Fl) (S : Store) : Prop := ∃ R', CaseV n a b R' B (A + 1) (L + 1) (3 * W) ∧ r = .ok (.rt (caseD n a b R')) S
theorem vr_tail (h : CaseV n a b R B A L W) (hA : A ≤ 20) (hL : 3 ≤ L) (hL2 : L ≤ 20) (hn : n ≤ 40) (hr : RowOk n row) (hrl : row.length ≤ 3) (ho : one ∈ R ∨ one = []) (w : Int) {v0 v1 : Option D} (S : Store) :
    VrD n a b R B A L W (mSeq mVr44_4 (mSeq mVr44_5 (mSeq mVr44_6 (mSeq mVr44_7 (mSeq mVr44_8 mVr44_9)))) (Ev44 v0 v1 (some (.int (n : Nat))) (some (.tup [.int a, .int b])) (some (rowsD R)) (some (.int w)) (some (looksD row)) (some (looksD one)) none) S) S := by
  have hlen := h.len
  have hways := h.ways
  have fz : (lessR R one).length ≤ R.length := List.length_filter_le _ _
  have sub : ∀ r ∈ lessR R one, r ∈ R := fun r hr => (List.mem_filter.mp hr).1
  have rne : ∀ r ∈ R, r ≠ [] := fun r hr => (h.rows r hr).ne
  rw [ap_seq, vr4 (by omega), bind_ok, seqK_nx, ap_seq]
  have e1 := fun S => eqI44 w 1 S
  have e2 := fun S => eqI44 w 2 S
  have e3 := fun S => eqI44 w 3 S
  have e4 := fun S => eqI44 w 4 S
  have tr := fun (R : List Row) S => tup_rows44 R S
  have ca : ∀ (F : List Row) (g : Row) S, F.length ≤ 1000 → opAdd (.lst (F.map looksD)) (.lst [looksD g]) S = .ok (.lst ((F ++ [g]).map looksD)) S := fun F g S hF => by
    rw [List.map_append, List.map_cons, List.map_nil]
    exact cat_lst44 (by rw [List.length_map]; simp; omega) S
  by_cases w1 : w = 1
  · refine ⟨lessR R one, h.cut _, ?_⟩
    rw [decide_eq_true w1] at e1
    have t1 := tr (lessR R one)
    unfold mVr44_5 Ev44
    show _ = Res.ok (Fl.rt (.tup [.int n, .tup [.int a, .int b], rowsD (lessR R one)])) S
    generalize (lessR R one).map looksD = Y at *
    generalize rowsD (lessR R one) = RL at *
    generalize rowsD R = RR at *
    generalize looksD one = O at *
    generalize looksD row = RW at *
    simp -implicitDefEqProofs [e1, t1]
  · have p5 : ∀ v8 S, mVr44_5 (Ev44 v0 v1 (some (.int (n : Nat))) (some (.tup [.int a, .int b])) (some (rowsD R)) (some (.int w)) (some (looksD row)) (some (looksD one)) v8) S = .ok (.nx (Ev44 v0 v1 (some (.int (n : Nat))) (some (.tup [.int a, .int b])) (some (rowsD R)) (some (.int w)) (some (looksD row)) (some (looksD one)) v8)) S := fun v8 S => by
      rw [decide_eq_false w1] at e1
      unfold mVr44_5 Ev44
      generalize rowsD R = RR at *
      generalize looksD one = O at *
      generalize looksD row = RW at *
      simp -implicitDefEqProofs [e1]
    rw [p5, bind_ok, seqK_nx, ap_seq]
    have nn := fun S => ne_nil44 one S
    by_cases w2 : w = 2 ∧ one ≠ []
    · obtain ⟨w2, o0⟩ := w2
      have hm : one ∈ R := ho.resolve_right o0
      have o1 := h.rows one hm
      have o2 := h.lens one hm
      have ol : 1 ≤ one.length := by
        cases one with
        | nil => exact absurd rfl o0
        | cons _ _ => simp
      have gl : (sortU (one ++ row.take 1)).length ≤ one.length + 1 := Nat.le_trans (sortU_len _) (by rw [List.length_append, List.length_take]; omega)
      have gok : RowOk n (sortU (one ++ row.take 1)) := ⟨⟨sortU_up _, fun q hq => by
        rcases List.mem_append.mp (mem_sortU.mp hq) with m | m
        · exact o1.lk.ok q m
        · exact hr.lk.ok q (List.mem_of_mem_take m)⟩, sortU_ne fun z => o1.ne (List.append_eq_nil_iff.mp z).1⟩
      have pw : prodR (lessR R one) * (sortU (one ++ row.take 1)).length ≤ 3 * W := by
        have x1 : prodR (lessR R one) * (sortU (one ++ row.take 1)).length ≤ prodR (lessR R one) * (2 * one.length) := Nat.mul_le_mul_left _ (by omega)
        have x2 : prodR (lessR R one) * one.length ≤ prodR R := prod_without rne hm
        have x3 : prodR (lessR R one) * (2 * one.length) = 2 * (prodR (lessR R one) * one.length) := Nat.mul_left_comm ..
        omega
      obtain ⟨R', hV, hS⟩ := h.put hA hL sub fz gok (by omega) pw
      refine ⟨R', hV, ?_⟩
      have sl : ∀ S, opSl (looksD row) none (some 1) S = .ok (looksD (row.take 1)) S := fun S => by
        show Res.ok (D.tup (cutD (row.map pairD) none (some 1))) S = _
        have e : cutD (row.map pairD) none (some 1) = (row.take 1).map pairD := by
          rw [List.map_take]
          cases row with
          | nil => rfl
          | cons x r =>
            unfold cutD
            have e1 : HT.sIx ((x :: r).map pairD).length 0 none = 0 := by unfold HT.sIx; simp
            have e2 : HT.sIx ((x :: r).map pairD).length ((x :: r).map pairD).length (some 1) = 1 := by unfold HT.sIx; simp
            rw [e1, e2]
            simp
        rw [e]
        rfl
      have ad : ∀ S, opAdd (looksD one) (looksD (row.take 1)) S = .ok (looksD (one ++ row.take 1)) S := fun S => by
        unfold looksD
        rw [List.map_append]
        refine cat_tup44 ?_ S
        rw [List.length_map, List.length_map, List.length_take]
        omega
      have ss : ∀ S, ssKT (looksD (one ++ row.take 1)) S = .ok (.lst ((sortU (one ++ row.take 1)).map pairD)) S := fun S => by
        refine ssKT_pairs (fun q hq => ?_) (by rw [List.length_append, List.length_take]; omega)
        have := (List.mem_append.mp hq).elim (fun m => o1.lk.ok q m) (fun m => hr.lk.ok q (List.mem_of_mem_take m))
        unfold lim
        omega
      have ft : ∀ S, fTuple [.lst ((sortU (one ++ row.take 1)).map pairD)] S = .ok (looksD (sortU (one ++ row.take 1))) S := fun S => by
        unfold looksD
        generalize (sortU (one ++ row.take 1)).map pairD = Y at *
        simp [fTuple, un1, gTuple, seqOf, rdL, lstOf]
      have ca := fun S => ca (lessR R one) (sortU (one ++ row.take 1)) S (by omega)
      have so := fun S => hS (S := S)
      have t1 := tr R'
      have ie : one.isEmpty = false := by
        cases one with
        | nil => exact absurd rfl o0
        | cons _ _ => rfl
      rw [decide_eq_true w2] at e2
      rw [ie] at nn
      clear hS
      unfold mVr44_6 Ev44
      show _ = Res.ok (Fl.rt (.tup [.int n, .tup [.int a, .int b], rowsD R'])) S
      generalize (lessR R one ++ [sortU (one ++ row.take 1)]).map looksD = FY at *
      generalize (lessR R one).map looksD = Y at *
      generalize R'.map looksD = LX at *
      generalize (sortU (one ++ row.take 1)).map pairD = SP at *
      generalize looksD (sortU (one ++ row.take 1)) = G at *
      generalize looksD (one ++ row.take 1) = OR at *
      generalize looksD (row.take 1) = OT at *
      generalize rowsD R' = RL at *
      generalize rowsD R = RR at *
      generalize looksD one = O at *
      generalize looksD row = RW at *
      simp -implicitDefEqProofs [e2, nn, sl, ad, ss, ft, ca, so, t1]
    · have p6 : ∀ v8 S, mVr44_6 (Ev44 v0 v1 (some (.int (n : Nat))) (some (.tup [.int a, .int b])) (some (rowsD R)) (some (.int w)) (some (looksD row)) (some (looksD one)) v8) S = .ok (.nx (Ev44 v0 v1 (some (.int (n : Nat))) (some (.tup [.int a, .int b])) (some (rowsD R)) (some (.int w)) (some (looksD row)) (some (looksD one)) v8)) S := fun v8 S => by
        unfold mVr44_6 Ev44
        by_cases k : w = 2
        · have o0 : one = [] := Classical.byContradiction fun z => w2 ⟨k, z⟩
          have ie : one.isEmpty = true := by rw [o0]; rfl
          rw [decide_eq_true k] at e2
          rw [ie] at nn
          generalize rowsD R = RR at *
          generalize looksD one = O at *
          generalize looksD row = RW at *
          simp -implicitDefEqProofs [e2, nn]
        · rw [decide_eq_false k] at e2
          generalize rowsD R = RR at *
          generalize looksD one = O at *
          generalize looksD row = RW at *
          simp -implicitDefEqProofs [e2]
      rw [p6, bind_ok, seqK_nx, ap_seq]
      have fl : ∀ S, fLen [looksD one] S = .ok (.int (one.length : Nat)) S := fun S => by
        show Res.ok (D.int (((one.map pairD).length : Nat) : Int)) S = _
        rw [List.length_map]
      have gt : ∀ S, opGt (.int (one.length : Nat)) (.int 1) S = .ok (.bl (decide (1 < one.length))) S := fun S => by
        have e : decide ((1 : Int) < (one.length : Int)) = decide (1 < one.length) := decide_eq_decide.mpr (by omega)
        rw [← e]
        generalize (one.length : Int) = z
        simp
      by_cases w3 : w = 3 ∧ 1 < one.length
      · obtain ⟨w3, o0⟩ := w3
        have hm : one ∈ R := ho.resolve_right fun z => by rw [z] at o0; simp at o0
        have o1 := h.rows one hm
        have o2 := h.lens one hm
        have gok : RowOk n (one.drop 1) := ⟨⟨o1.lk.up.sublist (List.drop_sublist _ _), fun q hq => o1.lk.ok q (List.mem_of_mem_drop hq)⟩, fun z => by
          have := congrArg List.length z
          rw [List.length_drop] at this
          simp at this
          omega⟩
        have dl : (one.drop 1).length ≤ one.length := by rw [List.length_drop]; omega
        have pw : prodR (lessR R one) * (one.drop 1).length ≤ 3 * W := by
          have x1 : prodR (lessR R one) * (one.drop 1).length ≤ prodR (lessR R one) * one.length := Nat.mul_le_mul_left _ dl
          have x2 : prodR (lessR R one) * one.length ≤ prodR R := prod_without rne hm
          omega
        obtain ⟨R', hV, hS⟩ := h.put hA hL sub fz gok (by omega) pw
        refine ⟨R', hV, ?_⟩
        have sl : ∀ S, opSl (looksD one) (some 1) none S = .ok (looksD (one.drop 1)) S := fun S => by
          show Res.ok (D.tup (cutD (one.map pairD) (some ((1 : Nat) : Int)) none)) S = _
          rw [cut_suf, ← List.map_drop]
          rfl
        have ca := fun S => ca (lessR R one) (one.drop 1) S (by omega)
        have so := fun S => hS (S := S)
        have t1 := tr R'
        rw [decide_eq_true w3] at e3
        rw [decide_eq_true o0] at gt
        clear hS
        unfold mVr44_7 Ev44
        show _ = Res.ok (Fl.rt (.tup [.int n, .tup [.int a, .int b], rowsD R'])) S
        generalize (lessR R one ++ [one.drop 1]).map looksD = FY at *
        generalize (lessR R one).map looksD = Y at *
        generalize R'.map looksD = LX at *
        generalize looksD (one.drop 1) = G at *
        generalize rowsD R' = RL at *
        generalize rowsD R = RR at *
        generalize looksD one = O at *
        generalize looksD row = RW at *
        simp -implicitDefEqProofs [e3, fl, gt, sl, ca, so, t1]
      · have p7 : ∀ v8 S, mVr44_7 (Ev44 v0 v1 (some (.int (n : Nat))) (some (.tup [.int a, .int b])) (some (rowsD R)) (some (.int w)) (some (looksD row)) (some (looksD one)) v8) S = .ok (.nx (Ev44 v0 v1 (some (.int (n : Nat))) (some (.tup [.int a, .int b])) (some (rowsD R)) (some (.int w)) (some (looksD row)) (some (looksD one)) v8)) S := fun v8 S => by
          unfold mVr44_7 Ev44
          by_cases k : w = 3
          · have o0 : ¬ 1 < one.length := fun z => w3 ⟨k, z⟩
            rw [decide_eq_true k] at e3
            rw [decide_eq_false o0] at gt
            generalize rowsD R = RR at *
            generalize looksD one = O at *
            generalize looksD row = RW at *
            simp -implicitDefEqProofs [e3, fl, gt]
          · rw [decide_eq_false k] at e3
            generalize rowsD R = RR at *
            generalize looksD one = O at *
            generalize looksD row = RW at *
            simp -implicitDefEqProofs [e3]
        rw [p7, bind_ok, seqK_nx, ap_seq]
        have sl : ∀ S, opSl (looksD row) none (some 1) S = .ok (looksD (row.take 1)) S := fun S => by
          show Res.ok (D.tup (cutD (row.map pairD) none (some 1))) S = _
          have e : cutD (row.map pairD) none (some 1) = (row.take 1).map pairD := by
            rw [List.map_take]
            cases row with
            | nil => rfl
            | cons x r =>
              unfold cutD
              have e1 : HT.sIx ((x :: r).map pairD).length 0 none = 0 := by unfold HT.sIx; simp
              have e2 : HT.sIx ((x :: r).map pairD).length ((x :: r).map pairD).length (some 1) = 1 := by unfold HT.sIx; simp
              rw [e1, e2]
              simp
          rw [e]
          rfl
        have p8 : ∀ v8 S, ∃ row', RowOk n row' ∧ row'.length ≤ 3 ∧ mVr44_8 (Ev44 v0 v1 (some (.int (n : Nat))) (some (.tup [.int a, .int b])) (some (rowsD R)) (some (.int w)) (some (looksD row)) (some (looksD one)) v8) S = .ok (.nx (Ev44 v0 v1 (some (.int (n : Nat))) (some (.tup [.int a, .int b])) (some (rowsD R)) (some (.int w)) (some (looksD row')) (some (looksD one)) v8)) S := fun v8 S => by
          by_cases k : w = 4
          · refine ⟨row.take 1, ⟨⟨hr.lk.up.sublist (List.take_sublist _ _), fun q hq => hr.lk.ok q (List.mem_of_mem_take hq)⟩, fun z => ?_⟩, by rw [List.length_take]; omega, ?_⟩
            · cases row with
              | nil => exact hr.ne rfl
              | cons x r => simp at z
            · rw [decide_eq_true k] at e4
              unfold mVr44_8 Ev44
              generalize rowsD R = RR at *
              generalize looksD one = O at *
              generalize looksD (row.take 1) = RT at *
              generalize looksD row = RW at *
              simp -implicitDefEqProofs [e4, sl]
          · refine ⟨row, hr, hrl, ?_⟩
            rw [decide_eq_false k] at e4
            unfold mVr44_8 Ev44
            generalize rowsD R = RR at *
            generalize looksD one = O at *
            generalize looksD row = RW at *
            simp -implicitDefEqProofs [e4]
        obtain ⟨row', hr', hl', e8⟩ := p8 (some (.lst ((lessR R one).map looksD))) S
        have pw : prodR R * row'.length ≤ 3 * W := by
          have := Nat.mul_le_mul hways hl'
          omega
        obtain ⟨R', hV, hS⟩ := h.put hA hL (F := R) (fun r hr => hr) (Nat.le_refl _) hr' (by omega) pw
        refine ⟨R', hV, ?_⟩
        rw [e8, bind_ok, seqK_nx]
        have ca := fun S => ca R row' S (by omega)
        have so := fun S => hS (S := S)
        have t1 := tr R'
        have fl2 : ∀ S, fList [rowsD R] S = .ok (.lst (R.map looksD)) S := fun S => rfl
        clear hS
        unfold mVr44_9 Ev44
        show _ = Res.ok (Fl.rt (.tup [.int n, .tup [.int a, .int b], rowsD R'])) S
        generalize (R ++ [row']).map looksD = FY at *
        generalize (lessR R one).map looksD = Y at *
        generalize R'.map looksD = LX at *
        generalize R.map looksD = RX at *
        generalize rowsD R' = RL at *
        generalize rowsD R = RR at *
        generalize looksD one = O at *
        generalize looksD row' = RW at *
        simp -implicitDefEqProofs [fl2, ca, so, t1]
end
theorem of_t {S0 S : Store} {k N : Nat} {xs : List D} (h : BoxS S0 k N S) (hN : N < 2 ^ 40) (h0 : xs ≠ []) (h1 : xs.length < 2 ^ 60) :
    (f_l_of [.ref k, .tup xs] S).Sat fun d S' => d ∈ xs ∧ BoxS S0 k (N + 1) S' := by
  have hp : 0 < xs.length := List.length_pos_iff.mpr h0
  unfold f_l_of m_l_of
  rw [fnM_2]
  simp
  refine sat_step (take_s (n := (xs.length : Int)) h hN (by omega) (Int.lt_of_lt_of_le (show (xs.length : Int) < 2 ^ 60 by omega) (by decide))) ?_
  rintro _ S1 ⟨r, rfl, r0, r1, hS1⟩
  have hl : r.toNat < xs.length := by omega
  have hg : atI xs r = some xs[r.toNat] := by
    have e : ((r.toNat : Nat) : Int) = r := by omega
    have z := atI_get (List.getElem?_eq_getElem hl)
    rw [e] at z
    exact z
  simp [hg, fin_len (hS1.len.trans h.len.symm)]
  exact hS1
section
variable {S0 T T' : Store} {k N M i j l : Nat}
def InB (S0 : Store) (k N : Nat) (T : Store) : Prop := ∃ U : Store, BoxS (S0 ++ U) k N T ∧ k < S0.length
theorem InB.start (h : BoxS S0 k N T) : InB S0 k N T := ⟨[], by simpa using h, h.lt⟩
theorem InB.len (h : InB S0 k N T) : S0.length ≤ T.length := by
  obtain ⟨U, hb, _⟩ := h
  rw [hb.len]
  simp
theorem InB.lt (h : InB S0 k N T) : k < S0.length := by obtain ⟨U, _, hk⟩ := h; exact hk
theorem InB.mono (h : InB S0 k N T) (hM : N ≤ M) : InB S0 k M T := by obtain ⟨U, hb, hk⟩ := h; exact ⟨U, hb.mono hM, hk⟩
theorem InB.push (c : Cell) (h : InB S0 k N T) : InB S0 k N (T ++ [c]) := by
  obtain ⟨U, hb, hk⟩ := h
  exact ⟨U ++ [c], by rw [← List.append_assoc]; exact hb.push c, hk⟩
theorem InB.put {c : Cell} (h : InB S0 k N T) (hi : S0.length ≤ i) : InB S0 k N (T.set i c) := by
  obtain ⟨U, ⟨y, rfl, hy, _⟩, hk⟩ := h
  refine ⟨U.set (i - S0.length) c, ⟨y, ?_, hy, by simp; omega⟩, hk⟩
  rw [List.set_comm _ _ (show k ≠ i by omega), List.set_append_right _ _ hi]
theorem InB.box (h : InB S0 k N T) : BoxS T k N T := by
  obtain ⟨U, ⟨y, rfl, hy, hk2⟩, hk⟩ := h
  exact BoxS.start (x := y) (List.getElem?_set_self (by simp; omega)) hy
theorem InB.fin {d : D} (h : InB S0 k N T) (hp : S0.all Cell.pure = true) (hd : pureD d = true) : ∃ S', fin S0.length d T = .ok d S' ∧ BoxS S0 k N S' := by
  obtain ⟨U, ⟨y, rfl, hy, hk2⟩, hk⟩ := h
  have e : ((S0 ++ U).set k y).take S0.length = S0.set k y := by
    rw [List.set_append_left _ _ hk]
    exact List.take_left' (by simp)
  have hb : BoxS S0 k N (S0.set k y) := ⟨y, rfl, hy, hk⟩
  refine ⟨S0.set k y, ?_, hb⟩
  by_cases hl : S0.length < ((S0 ++ U).set k y).length
  · rw [fin_ok hl hd (by rw [e]; exact hb.pure hp), e]
  · have hU : U = [] := by
      simp at hl
      exact hl
    subst hU
    unfold Q.fin
    rw [if_pos (by simp)]
    simp
end
theorem bools_true : ∀ t, boolsD (List.replicate t (D.bl true)) = some (List.replicate t true)
  | 0 => rfl
  | t + 1 => by rw [List.replicate_succ, boolsD, bools_true t]; rfl
theorem all_trues {xs : List D} {S : Store} (h : ∀ d ∈ xs, d = .bl true) : fAll [.lst xs] S = .ok (.bl true) S := by
  rw [List.eq_replicate_iff.mpr ⟨rfl, h⟩, all_lst (bools_true _)]
  simp
theorem box_p {S : Store} {cs : List Int} {k : Nat} (hb : BoxOk) (hk : k < cs.length) (hk2 : k < 100) (hp : S.all Cell.pure = true) : (f_l_box [.lst (cs.map .int), .int (k : Nat)] S).Sat fun d S' => d = .ref S.length ∧ S.length + 1 = S'.length ∧ BoxS S' S.length 0 S' ∧ S'.all Cell.pure = true := by
  obtain ⟨x, hx, e⟩ := hb S cs k hk hk2
  exact sat_of e ⟨rfl, by simp, BoxS.start (x := x) (by simp) hx, by rw [List.all_append, hp]; simp [hx.pure]⟩
def RightG (G : List D → Store → Res D) (W : Nat) : Prop := ∀ (S0 S : Store) (k N : Nat), S0.all Cell.pure = true → BoxS S0 k N S → N + W < 1000000000000 → (G [.ref k] S).Sat fun d S' => d = .bl true ∧ BoxS S0 k (N + W) S'
def mLaw7 (G : List D → Store → Res D) (m : Nat) : MS := (mSeq (mAsg (mCall (fPure f_l_cells) (mCons (mVar 0) (mCons (mC (.int (m : Nat))) mNil))) (mgN 1))
  (mRet (mCall fAll (mCons (mLc (mRange1 (mCall fLen (mCons (mVar 1) mNil))) (mgN 2) mYes (mCall (fCall G) (mCons (mCall (fCall f_l_box) (mCons (mVar 1) (mCons (mVar 2) mNil))) mNil)) [2]) mNil))))
theorem law7_s (G : List D → Store → Res D) (m : Nat) (hm : 0 < m) (hm2 : m ≤ 63) (W : Nat) (hW : W ≤ 100000000) (hr : RightG G W) (hb : BoxOk)
    (ns : List Int) (hn : ns.length ≤ 63) : ∃ S, fnM 3 1 (mLaw7 G m) [scriptD ns] [] = .ok (.bl true) S := by
  obtain ⟨cs, h0, h1, hcs⟩ := cells_ok ns hn m hm hm2
  have hp : pureL [scriptD ns, .int (m : Nat)] = true := by simp only [pureL_cons, scriptD, pureD_fro, pure_ints, pureD_int, pureL_nil, Bool.and_self]
  have hc := fPure_ap (S := []) hp hcs
  have lc : ∀ ρ : Q.Env, 2 < ρ.length → ρ[1]? = some (some (.lst (cs.map .int))) → ∃ vs S1, lcL (mgN 2) mYes (mCall (fCall G) (mCons (mCall (fCall f_l_box) (mCons (mVar 1) (mCons (mVar 2) mNil))) mNil)) ρ (rangeD 0 cs.length) [] = .ok vs S1 ∧ ∀ d ∈ vs, d = .bl true := fun ρ hρ h => by
    obtain ⟨vs, S1, e, _, hP, _⟩ := lcL_ind (g := mgN 2) (m := mCall (fCall G) (mCons (mCall (fCall f_l_box) (mCons (mVar 1) (mCons (mVar 2) mNil))) mNil)) (ρ := ρ) (fun _ S => S.all Cell.pure = true) (fun _ d => d = .bl true) (rangeD 0 cs.length) [] rfl (by
      rintro k S d hd hS
      obtain ⟨hk, rfl⟩ := rangeD_get hd
      have e1 : (ρ.set 2 (some (.int (0 + (k : Int)))))[1]? = some (some (.lst (cs.map .int))) := by rw [List.getElem?_set_ne (by decide)]; exact h
      have e2 : (ρ.set 2 (some (.int (0 + (k : Int)))))[2]? = some (some (.int (0 + (k : Int)))) := List.getElem?_set_self hρ
      obtain ⟨d1, S2, eb, rfl, hl1, hB, hp1⟩ := sat_eq (box_p (S := S) hb hk (by omega) hS)
      obtain ⟨d2, S3, er, rfl, hB2⟩ := sat_eq (hr S2 S2 S.length 0 hp1 hB (by omega))
      refine ⟨_, .bl true, S3, rfl, ?_, rfl, hB2.pure hp1⟩
      have e0 : (0 : Int) + (k : Int) = (k : Nat) := by omega
      rw [e0] at e1 e2 ⊢
      generalize ρ.set 2 (some (.int ((k : Nat) : Int))) = ρ1 at *
      simp only [ap_call, ap_cons, ap_var, e1, e2, varK_some, bind_ok, consK_ap, ap_nil, consK2_ap, fCall_ap, eb, nox_ok, er])
    exact ⟨vs, S1, e, fun d hd => by
      obtain ⟨i, hi, rfl⟩ := List.getElem_of_mem hd
      exact hP i _ (List.getElem?_eq_getElem hi)⟩
  have hlen : (cs.map D.int).length = cs.length := List.length_map _
  have hl3 : cs.length ≤ 100000 := by omega
  obtain ⟨vs, S1, e, hv⟩ := lc [some (scriptD ns), some (.lst (cs.map .int)), none] (by simp) rfl
  have al := all_trues (S := S1) hv
  generalize cs.map D.int = L at *
  generalize scriptD ns = sc at *
  refine ⟨[], ?_⟩
  unfold mLaw7
  rw [fnM_1]
  simp [hc, hlen, r1K_nat cs.length (show cs.length < 2 ^ 60 by omega), rangeD_len, hl3, e, al, fin_nil (show pureD (.bl true) = true from rfl)]
def isT (r : Res D) : Bool := match r with
  | .ok (.bl b) [] => b
  | _ => false
theorem isT_ok {r : Res D} (h : isT r = true) : r = .ok (.bl true) [] := by
  unfold isT at h
  split at h
  · rw [h]
  · cases h
section
variable {S0 S : Store} {k N n A L W : Nat} {a b a2 b2 B : Int} {R R2 : List Row} {row one : Row} {v0 v1 v2 v3 v4 v5 v6 v7 v8 : Option D}
theorem sat_end44 {r : Res Fl} {P : Fl → Store → Prop} {Q : D → Store → Prop} {n : Nat} (h : r.Sat P) (hf : ∀ f S, P f S → (endM n (.ok f S)).Sat Q) : (endM n r).Sat Q := by
  cases r with
  | ok f S => exact hf f S h
  | ex _ _ => exact h.elim
  | no => exact h.elim
def VrP (S0 : Store) (k N n : Nat) (a b B : Int) (A L W : Nat) (d : D) (S' : Store) : Prop := ∃ a' b' R', d = caseD n a' b' R' ∧ CaseV n a' b' R' (3 * B) (A + 1) (L + 1) (3 * W) ∧ a * b' = a' * b ∧ BoxS S0 k N S'
def VrF (S0 : Store) (k N n : Nat) (a b B : Int) (A L W : Nat) (f : Fl) (S' : Store) : Prop := ∃ d, f = .rt d ∧ VrP S0 k N n a b B A L W d S'
theorem vr0 (S : Store) : mVr44_0 (Ev44 v0 (some (caseD n a b R)) v2 v3 v4 v5 v6 v7 v8) S = .ok (.nx (Ev44 v0 (some (caseD n a b R)) (some (.int (n : Nat))) (some (.tup [.int a, .int b])) (some (rowsD R)) v5 v6 v7 v8)) S := by
  have tg : ∀ ρ S, mgTup 3 (mgCons (mgN 2) (mgCons (mgN 3) (mgCons (mgN 4) mgNil))) (caseD n a b R) ρ S = .ok (((ρ.set 2 (some (.int (n : Nat)))).set 3 (some (.tup [.int a, .int b]))).set 4 (some (rowsD R))) S := fun ρ S => rfl
  unfold mVr44_0 Ev44
  generalize caseD n a b R = BD at *
  generalize rowsD R = LK at *
  simp -implicitDefEqProofs [tg]
def Dr44 (S0 : Store) (k N n : Nat) (E : D → D → Q.Env) (f : Fl) (S' : Store) : Prop := ∃ (w : Int) (row : Row), f = .nx (E (.int w) (looksD row)) ∧ RowOk n row ∧ row.length ≤ 3 ∧ BoxS S0 k N S'
theorem vr1 (h : BoxS S0 k N S) (hp : S0.all Cell.pure = true) (hN : N + 1000 < 2 ^ 40) (hn : 0 < n) (hn2 : n ≤ 40) : (mVr44_1 (Ev44 (some (.ref k)) v1 (some (.int (n : Nat))) v3 v4 none none none none) S).Sat (Dr44 S0 k (N + 10) n fun w r => Ev44 (some (.ref k)) v1 (some (.int (n : Nat))) v3 v4 (some w) (some r) (some (looksD [])) none) := by
  have al := fun S1 (h1 : BoxS S0 k (N + 1) S1) => alarm_s (many := (n : Int)) (most := 3) h1 hp (by omega) (by omega) (by unfold lim; omega) (by decide) (by decide)
  have e0 : looksD [] = .tup [] := rfl
  unfold mVr44_1 Ev44
  simp -implicitDefEqProofs
  refine sat_step (take_s (n := 6) h (by omega) (by decide) (by decide)) ?_
  rintro _ S1 ⟨w, rfl, _, _, h1⟩
  simp -implicitDefEqProofs
  refine sat_step (al S1 h1) ?_
  rintro _ S2 ⟨row, rfl, hr, hl, h2⟩
  have q : Dr44 S0 k (N + 10) n (fun w r => [some (.ref k), v1, some (.int (n : Nat)), v3, v4, some w, some r, some (looksD []), none, none]) (.nx [some (.ref k), v1, some (.int (n : Nat)), v3, v4, some (.int w), some (looksD row), some (looksD []), none, none]) S2 := ⟨w, row, rfl, hr, hl, h2⟩
  rw [e0] at q ⊢
  generalize Dr44 S0 k (N + 10) n (fun w r => [some (.ref k), v1, some (.int (n : Nat)), v3, v4, some w, some r, some (.tup []), none, none]) = PP at *
  generalize looksD row = RW at *
  simp -implicitDefEqProofs
  exact q
def On44 (S0 : Store) (k N : Nat) (R : List Row) (E : D → Q.Env) (f : Fl) (S' : Store) : Prop := ∃ one : Row, f = .nx (E (looksD one)) ∧ (one ∈ R ∨ one = []) ∧ BoxS S0 k N S'
theorem vr3 (h : BoxS S0 k N S) (hN : N + 1000 < 2 ^ 40) (hR : R.length ≤ 1000) : (mVr44_3 (Ev44 (some (.ref k)) v1 v2 v3 (some (rowsD R)) v5 v6 (some (looksD [])) v8) S).Sat (On44 S0 k (N + 1) R fun d => Ev44 (some (.ref k)) v1 v2 v3 (some (rowsD R)) v5 v6 (some d) v8) := by
  by_cases hR0 : R = []
  · subst hR0
    refine sat_of (a := .nx (Ev44 (some (.ref k)) v1 v2 v3 (some (rowsD [])) v5 v6 (some (looksD [])) v8)) (S := S) ?_ ⟨[], rfl, .inr rfl, h.mono (by omega)⟩
    have ne : ∀ S, opNe (rowsD []) (.tup []) S = .ok (.bl false) S := fun S => rfl
    unfold mVr44_3 Ev44
    generalize rowsD [] = RR at *
    generalize looksD [] = L at *
    simp -implicitDefEqProofs [ne]
  · have ne : ∀ S, opNe (rowsD R) (.tup []) S = .ok (.bl true) S := fun S => by
      unfold rowsD
      have sh : shal 20 (.tup (R.map looksD)) = true := by
        rw [shal_tup]
        refine List.all_eq_true.mpr fun d hd => ?_
        obtain ⟨r, _, rfl⟩ := List.mem_map.mp hd
        unfold looksD
        rw [shal_tup]
        exact shal_map (fun _ => rfl) _
      rw [ne_plain sh (by rfl)]
      cases R with
      | nil => exact absurd rfl hR0
      | cons _ _ => rfl
    have of := of_t (xs := R.map looksD) h (by omega) (by simpa using hR0) (by rw [List.length_map]; omega)
    have pq : ∀ (one : Row) S', one ∈ R → BoxS S0 k (N + 1) S' → On44 S0 k (N + 1) R (fun d => Ev44 (some (.ref k)) v1 v2 v3 (some (rowsD R)) v5 v6 (some d) v8) (.nx (Ev44 (some (.ref k)) v1 v2 v3 (some (rowsD R)) v5 v6 (some (looksD one)) v8)) S' := fun one S' h1 h2 => ⟨one, rfl, .inl h1, h2⟩
    generalize On44 S0 k (N + 1) R (fun d => Ev44 (some (.ref k)) v1 v2 v3 (some (rowsD R)) v5 v6 (some d) v8) = PP at *
    unfold mVr44_3
    unfold Ev44 at *
    generalize hX : R.map looksD = X at *
    have eR : rowsD R = .tup X := by rw [← hX]; rfl
    rw [eR] at ne pq ⊢
    generalize looksD [] = L0 at *
    simp -implicitDefEqProofs [ne]
    refine sat_step of ?_
    rintro d S1 ⟨hd, h1⟩
    rw [← hX] at hd
    obtain ⟨one, ho, rfl⟩ := List.mem_map.mp hd
    have q := pq one S1 ho h1
    generalize looksD one = O at *
    simp -implicitDefEqProofs
    exact q
theorem varied_s (h : BoxS S0 k N S) (hp : S0.all Cell.pure = true) (hN : N + 2000 < 2 ^ 40) (hV : CaseV n a b R B A L W) (hB : B ≤ 2 ^ 70) (hA : A ≤ 20) (hL : 3 ≤ L) (hL2 : L ≤ 20) (hn2 : n ≤ 40) : (f_l_varied [.ref k, caseD n a b R] S).Sat (VrP S0 k (N + 11) n a b B A L W) := by
  have hlen := hV.len
  have hn := hV.hn
  have h1' := hV.ha
  have h2' := hV.hab
  have h3' := hV.hb
  unfold f_l_varied
  rw [form_mVr44_, fnM_2]
  show (endM S.length (mSeq mVr44_0 (mSeq mVr44_1 (mSeq mVr44_2 (mSeq mVr44_3 (mSeq mVr44_4 (mSeq mVr44_5 (mSeq mVr44_6 (mSeq mVr44_7 (mSeq mVr44_8 mVr44_9)))))))) (Ev44 (some (.ref k)) (some (caseD n a b R)) none none none none none none none) S)).Sat _
  refine sat_end44 (P := VrF S0 k (N + 11) n a b B A L W) ?_ ?_
  · rw [ap_seq, vr0, bind_ok, seqK_nx, ap_seq]
    refine sat_step (vr1 h hp (by omega) hn hn2) ?_
    rintro _ S1 ⟨w, row, rfl, hr, hrl, h1⟩
    rw [seqK_nx, ap_seq]
    have e0 := fun S => eqI44 w 0 S
    by_cases w0 : w = 0
    · rw [decide_eq_true w0] at e0
      have m1 : mulOk 3 a = true := mul_ok71 (by omega) (by omega) (by omega) (by omega)
      have m2 : mulOk 3 b = true := mul_ok71 (by omega) (by omega) (by omega) (by omega)
      have i0 : ∀ S, opIx (.tup [.int a, .int b]) (.int 0) S = .ok (.int a) S := fun S => rfl
      have i1 : ∀ S, opIx (.tup [.int a, .int b]) (.int 1) S = .ok (.int b) S := fun S => rfl
      have e2 : mVr44_2 (Ev44 (some (.ref k)) (some (caseD n a b R)) (some (.int (n : Nat))) (some (.tup [.int a, .int b])) (some (rowsD R)) (some (.int w)) (some (looksD row)) (some (looksD [])) none) S1 = .ok (.rt (caseD n (3 * a) (3 * b) R)) S1 := by
        show _ = Res.ok (Fl.rt (.tup [.int n, .tup [.int (3 * a), .int (3 * b)], rowsD R])) S1
        unfold mVr44_2 Ev44
        generalize caseD n a b R = CD at *
        generalize rowsD R = RR at *
        generalize looksD row = RW at *
        generalize looksD [] = L0 at *
        generalize D.tup [.int a, .int b] = LM at *
        simp -implicitDefEqProofs [e0, i0, i1, m1, m2]
      rw [e2, bind_ok]
      have len2 : R.length ≤ A + 1 := by omega
      exact ⟨_, rfl, 3 * a, 3 * b, R, rfl, ⟨hn, by omega, by omega, by omega, hV.rows, len2, fun r hr => by have := hV.lens r hr; omega, by have := hV.ways; omega⟩, by grind, h1.mono (by omega)⟩
    · have e2 : mVr44_2 (Ev44 (some (.ref k)) (some (caseD n a b R)) (some (.int (n : Nat))) (some (.tup [.int a, .int b])) (some (rowsD R)) (some (.int w)) (some (looksD row)) (some (looksD [])) none) S1 = .ok (.nx (Ev44 (some (.ref k)) (some (caseD n a b R)) (some (.int (n : Nat))) (some (.tup [.int a, .int b])) (some (rowsD R)) (some (.int w)) (some (looksD row)) (some (looksD [])) none)) S1 := by
        rw [decide_eq_false w0] at e0
        unfold mVr44_2 Ev44
        generalize caseD n a b R = CD at *
        generalize rowsD R = RR at *
        generalize looksD row = RW at *
        generalize looksD [] = L0 at *
        simp -implicitDefEqProofs [e0]
      rw [e2, bind_ok, seqK_nx, ap_seq]
      refine sat_step (vr3 h1 (by omega) (by omega)) ?_
      rintro _ S2 ⟨one, rfl, ho, h2⟩
      rw [seqK_nx]
      obtain ⟨R', hV', er⟩ := vr_tail (v0 := some (.ref k)) (v1 := some (caseD n a b R)) hV hA hL hL2 hn2 hr hrl ho w S2
      rw [er]
      refine ⟨_, rfl, a, b, R', rfl, hV'.mono (by omega) (Nat.le_refl _) (Nat.le_refl _) (Nat.le_refl _), rfl, h2⟩
  · rintro _ S' ⟨d, rfl, a', b', R', rfl, q1, q2, q3⟩
    have pc := pure_case n a' b' R'
    refine sat_of (a := caseD n a' b' R') (S := S') ?_ ⟨a', b', R', rfl, q1, q2, q3⟩
    generalize caseD n a' b' R' = CD at *
    simp [fin_len (q3.len.trans h.len.symm)]
def Er44 (k : Nat) (v1 v2 v3 v4 v5 v6 : Option D) : Q.Env := [some (.ref k), v1, v2, v3, v4, v5, v6]
def Al44 (S0 : Store) (k N : Nat) (E : D → Q.Env) (f : Fl) (S' : Store) : Prop := ∃ (n : Nat) (a b : Int) (R : List Row), f = .nx (E (caseD n a b R)) ∧ n ≤ 10 ∧ CaseA n a b R 4 3 6 ∧ BoxS S0 k N S'
theorem rt0 (h : BoxS S0 k N S) (hp : S0.all Cell.pure = true) (hN : N + 1000 < 2 ^ 40) : (mRt44_0 (Er44 k v1 v2 v3 v4 v5 v6) S).Sat (Al44 S0 k (N + 44) fun d => Er44 k v1 (some d) v3 v4 v5 v6) := by
  have al := alarms_s (mm := 10) (A := 4) (L := 3) (W := 6) h hp (by omega) (by decide) (by decide) (by decide) (by decide) (by decide) (by decide) (by decide)
  unfold mRt44_0 Er44
  simp -implicitDefEqProofs
  refine sat_step al ?_
  rintro _ S1 ⟨n, a, b, R, rfl, hn, hA, h1⟩
  exact ⟨n, a, b, R, rfl, hn, hA, h1⟩
def It44 (S0 : Store) (k N n : Nat) (a b B : Int) (A L W : Nat) (E : D → Q.Env) (f : Fl) (S' : Store) : Prop := ∃ a' b' R', f = .nx (E (caseD n a' b' R')) ∧ CaseV n a' b' R' (3 * B) (A + 1) (L + 1) (3 * W) ∧ a * b' = a' * b ∧ BoxS S0 k N S'
theorem rt1 (h : BoxS S0 k N S) (hp : S0.all Cell.pure = true) (hN : N + 2000 < 2 ^ 40) (hV : CaseV n a b R B A L W) (hB : B ≤ 2 ^ 70) (hA : A ≤ 20) (hL : 3 ≤ L) (hL2 : L ≤ 20) (hn2 : n ≤ 40) : (mRt44_1 (Er44 k v1 (some (caseD n a b R)) v3 v4 v5 v6) S).Sat (It44 S0 k (N + 11) n a b B A L W fun d => Er44 k v1 (some (caseD n a b R)) (some d) v4 v5 v6) := by
  have vs := varied_s h hp hN hV hB hA hL hL2 hn2
  have pq : ∀ a' b' R' S', CaseV n a' b' R' (3 * B) (A + 1) (L + 1) (3 * W) → a * b' = a' * b → BoxS S0 k (N + 11) S' → It44 S0 k (N + 11) n a b B A L W (fun d => Er44 k v1 (some (caseD n a b R)) (some d) v4 v5 v6) (.nx (Er44 k v1 (some (caseD n a b R)) (some (caseD n a' b' R')) v4 v5 v6)) S' := fun a' b' R' S' x y z => ⟨a', b', R', rfl, x, y, z⟩
  generalize It44 S0 k (N + 11) n a b B A L W (fun d => Er44 k v1 (some (caseD n a b R)) (some d) v4 v5 v6) = PP at *
  unfold mRt44_1
  unfold Er44 at *
  generalize caseD n a b R = CD at *
  simp -implicitDefEqProofs
  refine sat_step vs ?_
  rintro _ S1 ⟨a', b', R', rfl, x, y, z⟩
  have q := pq a' b' R' S1 x y z
  generalize caseD n a' b' R' = CD2 at *
  simp -implicitDefEqProofs
  exact q
def Fa44 (S0 : Store) (k N n : Nat) (a b : Int) (E : D → Q.Env) (f : Fl) (S' : Store) : Prop := ∃ a' b' R', f = .nx (E (caseD n a' b' R')) ∧ CaseO n a' b' R' ∧ a * b' = a' * b ∧ BoxS S0 k N S'
theorem rt2 (h : BoxS S0 k N S) (hp : S0.all Cell.pure = true) (hN : N + 2000 < 2 ^ 40) (hO : CaseO n a b R) (hV : CaseV n a2 b2 R2 (3 * 2 ^ 67) 5 4 18) (e : a * b2 = a2 * b) (hn2 : n ≤ 40) {t : Int} : (mRt44_2 (Er44 k (some (.int t)) (some (caseD n a b R)) (some (caseD n a2 b2 R2)) v4 v5 v6) S).Sat (Fa44 S0 k (N + 11) n a2 b2 fun d => Er44 k (some (.int t)) (some (caseD n a b R)) (some (caseD n a2 b2 R2)) (some d) v5 v6) := by
  have vs := varied_s h hp hN hV (by decide) (by decide) (by decide) (by decide) hn2
  have e0 := fun S => eqI44 t 0 S
  have pq : ∀ a' b' R' S', CaseO n a' b' R' → a2 * b' = a' * b2 → BoxS S0 k (N + 11) S' → Fa44 S0 k (N + 11) n a2 b2 (fun d => Er44 k (some (.int t)) (some (caseD n a b R)) (some (caseD n a2 b2 R2)) (some d) v5 v6) (.nx (Er44 k (some (.int t)) (some (caseD n a b R)) (some (caseD n a2 b2 R2)) (some (caseD n a' b' R')) v5 v6)) S' := fun a' b' R' S' x y z => ⟨a', b', R', rfl, x, y, z⟩
  by_cases t0 : t = 0
  · rw [decide_eq_true t0] at e0
    generalize Fa44 S0 k (N + 11) n a2 b2 (fun d => Er44 k (some (.int t)) (some (caseD n a b R)) (some (caseD n a2 b2 R2)) (some d) v5 v6) = PP at *
    unfold mRt44_2
    unfold Er44 at *
    generalize caseD n a b R = CD at *
    generalize caseD n a2 b2 R2 = CD2 at *
    simp -implicitDefEqProofs [e0]
    refine sat_step vs ?_
    rintro _ S1 ⟨a', b', R', rfl, x, y, z⟩
    have q := pq a' b' R' S1 (x.o (by decide) (by decide) (by decide) (by decide) hn2) y z
    generalize caseD n a' b' R' = CD3 at *
    simp -implicitDefEqProofs
    exact q
  · rw [decide_eq_false t0] at e0
    refine sat_of (a := .nx (Er44 k (some (.int t)) (some (caseD n a b R)) (some (caseD n a2 b2 R2)) (some (caseD n a b R)) v5 v6)) (S := S) ?_ (pq a b R S hO e.symm (h.mono (by omega)))
    unfold mRt44_2 Er44
    generalize caseD n a b R = CD at *
    generalize caseD n a2 b2 R2 = CD2 at *
    simp -implicitDefEqProofs [e0]
theorem refuse44 {m : Nat} (h : CaseO n a b R) (h2 : CaseO m a2 b2 R2) (e : n ≠ m ∨ a * b2 ≠ a2 * b) (S : Store) : fPure f_l_refused [caseD n a b R, caseD m a2 b2 R2] S = .ok (.bl true) S := by
  have hC := h.isC
  have hC2 := h2.isC
  have g1 : n ≠ m ∨ ∀ S, fPure f_p_agree [.tup [.int a, .int b], .tup [.int a2, .int b2]] S = .ok (.bl false) S := e.imp id fun z S => by rw [agree44 h h2, decide_eq_false z]
  have g2 : n ≠ m ∨ ∀ S, fPure f_p_agree [.tup [.int a2, .int b2], .tup [.int a, .int b]] S = .ok (.bl false) S := e.imp id fun z S => by rw [agree44 h2 h, decide_eq_false fun y => z y.symm]
  obtain ⟨q1, q2, q3⟩ := partE44 (X := rowsD R2) h hC.tup hC2.tup hC.pure hC2.pure g1 g2
  exact refusedP q3 q2 hC.pure hC2.pure S
theorem rts (h : CaseO n a b R) (h2 : CaseO n a2 b2 R2) {a3 b3 : Int} {R3 : List Row} (h3 : CaseO n a3 b3 R3) (e : a * b2 = a2 * b) (e2 : a2 * b3 = a3 * b2) (hn : n ≤ 39) (hb : b < 2 ^ 70) (S : Store) :
    (mSeq mRt44_3 (mSeq mRt44_4 (mSeq mRt44_5 mRt44_6))) (Er44 k v1 (some (caseD n a b R)) (some (caseD n a2 b2 R2)) (some (caseD n a3 b3 R3)) v5 v6) S = .ok (.nx (Er44 k v1 (some (caseD n a b R)) (some (caseD n a2 b2 R2)) (some (caseD n a3 b3 R3)) (some (.int a)) (some (.int b)))) S := by
  have p1 := fun S => pairP44 h h2 e S
  have p2 := fun S => pairP44 h2 h3 e2 S
  have h4 : CaseO (n + 1) a2 b2 R2 := ⟨h2.ha, h2.hab, h2.hb, by omega, fun r hr => ⟨(h2.rows r hr).1, (h2.rows r hr).2.1, fun p hp => by have := (h2.rows r hr).2.2 p hp; omega⟩, h2.len, h2.ways⟩
  have h5 : CaseO n a (b + 1) R2 := ⟨h.ha, by have := h.hab; omega, by omega, h.n1, h2.rows, h2.len, h2.ways⟩
  have r1 := fun S => refuse44 h h4 (.inl (by omega)) S
  have ne : a * (b + 1) ≠ a * b := fun z => by
    have := h.ha
    have : b + 1 = b := Int.eq_of_mul_eq_mul_left (by omega) z
    omega
  have r2 := fun S => refuse44 h h5 (.inr ne) S
  have i0 : ∀ S, opIx (caseD n a b R) (.int 0) S = .ok (.int (n : Nat)) S := fun S => rfl
  have i1 : ∀ S, opIx (caseD n a b R) (.int 1) S = .ok (.tup [.int a, .int b]) S := fun S => rfl
  have j2 : ∀ S, opIx (caseD n a2 b2 R2) (.int 2) S = .ok (rowsD R2) S := fun S => rfl
  have tg : ∀ ρ S, mgTup 2 (mgCons (mgN 5) (mgCons (mgN 6) mgNil)) (.tup [.int a, .int b]) ρ S = .ok ((ρ.set 5 (some (.int a))).set 6 (some (.int b))) S := fun ρ S => rfl
  have sl : ∀ S, opSl (caseD n a2 b2 R2) (some 1) none S = .ok (.tup [.tup [.int a2, .int b2], rowsD R2]) S := fun S => rfl
  have ad : ∀ S, opAdd (.tup [.int ((n : Int) + 1)]) (.tup [.tup [.int a2, .int b2], rowsD R2]) S = .ok (caseD (n + 1 : Nat) a2 b2 R2) S := fun S => rfl
  have ec : D.tup [.int (n : Nat), .tup [.int a, .int (b + 1)], rowsD R2] = caseD n a (b + 1) R2 := rfl
  unfold mRt44_3 mRt44_4 mRt44_5 mRt44_6 Er44
  generalize caseD (n + 1 : Nat) a2 b2 R2 = C4 at *
  generalize caseD n a (b + 1) R2 = C5 at *
  generalize caseD n a b R = CD at *
  generalize caseD n a2 b2 R2 = CD2 at *
  generalize caseD n a3 b3 R3 = CD3 at *
  generalize rowsD R2 = RR at *
  generalize D.tup [.int a, .int b] = LM at *
  generalize D.tup [.tup [.int a2, .int b2], RR] = TL at *
  simp -implicitDefEqProofs [p1, p2, r1, r2, i0, i1, j2, tg, sl, ad, ec]
def Tu44 (S0 : Store) (k N : Nat) (v1 : Option D) (f : Fl) (S' : Store) : Prop := (∃ v2 v3 v4 v5 v6, f = .nx (Er44 k v1 v2 v3 v4 v5 v6)) ∧ BoxS S0 k N S'
theorem turn44 {t : Int} (h : BoxS S0 k N S) (hp : S0.all Cell.pure = true) (hN : N + 8000 < 2 ^ 40) : (mBodyRt44 (Er44 k (some (.int t)) v2 v3 v4 v5 v6) S).Sat (Tu44 S0 k (N + 70) (some (.int t))) := by
  unfold mBodyRt44
  rw [ap_seq]
  refine sat_step (rt0 h hp (by omega)) ?_
  rintro _ S1 ⟨n, a, b, R, rfl, hn, hA, h1⟩
  rw [seqK_nx, ap_seq]
  refine sat_step (rt1 h1 hp (by omega) hA.v (by decide) (by decide) (by decide) (by decide) (by omega)) ?_
  rintro _ S2 ⟨a2, b2, R2, rfl, hV, e, h2⟩
  have hO := hA.v.o (by decide) (by decide) (by decide) (by decide) (show n ≤ 40 by omega)
  rw [seqK_nx, ap_seq]
  refine sat_step (rt2 h2 hp (by omega) hO hV e (by omega)) ?_
  rintro _ S3 ⟨a3, b3, R3, rfl, hO3, e2, h3⟩
  rw [seqK_nx, rts hO (hV.o (by decide) (by decide) (by decide) (by decide) (by omega)) hO3 e e2 (by omega) (by have := hA.hb; omega)]
  exact ⟨⟨_, _, _, _, _, rfl⟩, h3.mono (by omega)⟩
def mR44 (bh : List D → Store → Res D) : MS := mSeq (mIf (mNotT (mTest (mCall bh mNil))) (mRet (mC (.bl false))) mSkip) (mSeq (mFor (mRange1 (mC (.int 3))) (mgN 1) mBodyRt44) (mRet (mC (.bl true))))
theorem right44 (bh : List D → Store → Res D) (hb : ∀ S, bh [] S = .ok (.bl true) S) : RightG (fnM 7 1 (mR44 bh)) 300 := by
  intro S0 S k N hp h hN
  have ht := fun (S : Store) (M : Nat) (t : Int) v2 v3 v4 v5 v6 (h1 : BoxS S0 k M S) (hM : M + 8000 < 2 ^ 40) => turn44 (t := t) (v2 := v2) (v3 := v3) (v4 := v4) (v5 := v5) (v6 := v6) h1 hp hM
  have r3 : ∀ S, r1K (.int 3) S = .ok (rangeD 0 3) S := fun S => r1K_nat 3 (by decide)
  have rd : rangeD 0 3 = [.int 0, .int 1, .int 2] := rfl
  unfold Tu44 Er44 at ht
  unfold mR44
  generalize mBodyRt44 = T44 at *
  rw [fnM_1]
  simp -implicitDefEqProofs [hb, r3, rd, forL_cons, forL_nil]
  refine sat_step (ht S _ _ _ _ _ _ _ h (by omega)) ?_
  rintro _ S1 ⟨⟨_, _, _, _, _, rfl⟩, h1⟩
  simp -implicitDefEqProofs [forL_cons, forL_nil]
  refine sat_step (ht S1 _ _ _ _ _ _ _ h1 (by omega)) ?_
  rintro _ S2 ⟨⟨_, _, _, _, _, rfl⟩, h2⟩
  simp -implicitDefEqProofs [forL_cons, forL_nil]
  refine sat_step (ht S2 _ _ _ _ _ _ _ h2 (by omega)) ?_
  rintro _ S3 ⟨⟨_, _, _, _, _, rfl⟩, h3⟩
  simp -implicitDefEqProofs [forL_cons, forL_nil, fin_len (h3.len.trans h.len.symm)]
  exact h3.mono (by omega)
end
theorem hand44P : ∀ S, fPure f_l_by_hand_right [] S = .ok (.bl true) S := fun S => fPure_ap (ds := []) S rfl (isT_ok (by decide +kernel : isT (f_l_by_hand_right [] []) = true))
theorem hl44 : m_l_law = mLaw7 (fnM 7 1 (mR44 (fPure f_l_by_hand_right))) 2 := by
  unfold m_l_law mLaw7
  rfl
theorem holds44 (G : List D → Store → Res D) (hr : RightG G 300) : ∀ ns : List Int, ns.length ≤ 63 → ∃ S, fnM 3 1 (mLaw7 G 2) [scriptD ns] [] = .ok (.bl true) S :=
  fun ns hn => law7_s G 2 (by decide) (by decide) 300 (by decide) hr (fun S cs k h h2 => box_ok S cs k 844 h h2 (by decide) rfl) ns hn
theorem holds44b (bh : List D → Store → Res D) (hb : ∀ S, bh [] S = .ok (.bl true) S) : ∀ ns : List Int, ns.length ≤ 63 → ∃ S, fnM 3 1 (mLaw7 (fnM 7 1 (mR44 bh)) 2) [scriptD ns] [] = .ok (.bl true) S := holds44 (fnM 7 1 (mR44 bh)) (right44 bh hb)
theorem holds44c (m : MS) (bh : List D → Store → Res D) (hb : ∀ S, bh [] S = .ok (.bl true) S) (e : m = mLaw7 (fnM 7 1 (mR44 bh)) 2) : ∀ ns : List Int, ns.length ≤ 63 → ∃ S, fnM 3 1 m [scriptD ns] [] = .ok (.bl true) S := by
  subst e
  exact holds44b bh hb
theorem holds : ∀ ns : List Int, ns.length ≤ 63 → ∃ S, f_l_law [scriptD ns] [] = .ok (.bl true) S := holds44c m_l_law (fPure f_l_by_hand_right) hand44P hl44
end Lw
namespace Lw
open PySem L2 Q
abbrev N_l_cells : List Str := ["_law_script", "_law_most_so", "_law_cells_here", "_law_k", "_law_cell", "_law_at_so"]
theorem sc_l_cells : FnScope N_l_cells ["_law_script", "_law_most_so"] (defScope s_l_cells) := ⟨rfl, rfl, rfl, by decide +kernel, rfl, by decide +kernel, by decide +kernel⟩
abbrev N_p_tupled : List Str := ["thing", "part"]
theorem sc_p_tupled : FnScope N_p_tupled ["thing"] (defScope s_p_tupled) := ⟨rfl, rfl, rfl, by decide +kernel, rfl, by decide +kernel, by decide +kernel⟩
abbrev N_p_choices : List Str := ["alarms", "rows", "many", "row", "found", "choice", "look"]
theorem sc_p_choices : FnScope N_p_choices ["alarms"] (defScope s_p_choices) := ⟨rfl, rfl, rfl, by decide +kernel, rfl, by decide +kernel, by decide +kernel⟩
abbrev N_p_agree : List Str := ["limit", "other"]
theorem sc_p_agree : FnScope N_p_agree ["limit", "other"] (defScope s_p_agree) := ⟨rfl, rfl, rfl, by decide +kernel, rfl, by decide +kernel, by decide +kernel⟩
abbrev N_p_turning : List Str := ["arcs", "left", "many", "ends", "one", "other", "arc"]
theorem sc_p_turning : FnScope N_p_turning ["arcs"] (defScope s_p_turning) := ⟨rfl, rfl, rfl, by decide +kernel, rfl, by decide +kernel, by decide +kernel⟩
abbrev N_p_arcs_of : List Str := ["day", "minutes", "limit", "quiet", "loud", "start", "end", "look"]
theorem sc_p_arcs_of : FnScope N_p_arcs_of ["day"] (defScope s_p_arcs_of) := ⟨rfl, rfl, rfl, by decide +kernel, rfl, by decide +kernel, by decide +kernel⟩
abbrev N_p_path : List Str := ["arcs", "one", "other", "edge", "seen", "later", "way", "mine", "its"]
theorem sc_p_path : FnScope N_p_path ["arcs", "one", "other"] (defScope s_p_path) := ⟨rfl, rfl, rfl, by decide +kernel, rfl, by decide +kernel, by decide +kernel⟩
abbrev N_p_ring : List Str := ["day", "arcs", "one", "other", "back"]
theorem sc_p_ring : FnScope N_p_ring ["day"] (defScope s_p_ring) := ⟨rfl, rfl, rfl, by decide +kernel, rfl, by decide +kernel, by decide +kernel⟩
abbrev N_p_check : List Str := ["day", "found"]
theorem sc_p_check : FnScope N_p_check ["day"] (defScope s_p_check) := ⟨rfl, rfl, rfl, by decide +kernel, rfl, by decide +kernel, by decide +kernel⟩
abbrev N_p_log_by : List Str := ["limit", "high", "p", "q", "found", "low", "top"]
theorem sc_p_log_by : FnScope N_p_log_by ["limit", "high"] (defScope s_p_log_by) := ⟨rfl, rfl, rfl, by decide +kernel, rfl, by decide +kernel, by decide +kernel⟩
abbrev N_p_ranks : List Str := ["many", "arcs", "high", "turn", "one", "other"]
theorem sc_p_ranks : FnScope N_p_ranks ["many", "arcs"] (defScope s_p_ranks) := ⟨rfl, rfl, rfl, by decide +kernel, rfl, by decide +kernel, by decide +kernel⟩
abbrev N_p_fitting : List Str := ["day", "minutes", "limit", "quiet", "loud"]
theorem sc_p_fitting : FnScope N_p_fitting ["day"] (defScope s_p_fitting) := ⟨rfl, rfl, rfl, by decide +kernel, rfl, by decide +kernel, by decide +kernel⟩
abbrev N_p_going_off : List Str := ["alarms", "looks", "minutes", "limit", "rows", "own", "choice", "day", "look"]
theorem sc_p_going_off : FnScope N_p_going_off ["alarms", "looks"] (defScope s_p_going_off) := ⟨rfl, rfl, rfl, by decide +kernel, rfl, by decide +kernel, by decide +kernel⟩
abbrev N_p_parting_alarms : List Str := ["alarms", "other", "mine", "its", "sides", "one", "another", "row", "log"]
theorem sc_p_parting_alarms : FnScope N_p_parting_alarms ["alarms", "other"] (defScope s_p_parting_alarms) := ⟨rfl, rfl, rfl, by decide +kernel, rfl, by decide +kernel, by decide +kernel⟩
abbrev N_p_alike_alarms : List Str := ["alarms", "other"]
theorem sc_p_alike_alarms : FnScope N_p_alike_alarms ["alarms", "other"] (defScope s_p_alike_alarms) := ⟨rfl, rfl, rfl, by decide +kernel, rfl, by decide +kernel, by decide +kernel⟩
abbrev N_l_refused : List Str := ["_law_case", "_law_its", "_law_said", "e"]
theorem sc_l_refused : FnScope N_l_refused ["_law_case", "_law_its"] (defScope s_l_refused) := ⟨rfl, rfl, rfl, by decide +kernel, rfl, by decide +kernel, by decide +kernel⟩
abbrev N_l_same : List Str := ["_law_got", "_law_due_here", "_law_mine", "_law_its"]
theorem sc_l_same : FnScope N_l_same ["_law_got", "_law_due_here"] (defScope s_l_same) := ⟨rfl, rfl, rfl, by decide +kernel, rfl, by decide +kernel, by decide +kernel⟩
abbrev N_l_ways : List Str := ["_law_rows", "_law_found", "_law_row_so", "_law_longer", "_law_own", "_law_look"]
theorem sc_l_ways : FnScope N_l_ways ["_law_rows"] (defScope s_l_ways) := ⟨rfl, rfl, rfl, by decide +kernel, rfl, by decide +kernel, by decide +kernel⟩
abbrev N_l_ring : List Str := ["_law_calm", "_law_noisy", "_law_left", "_law_grown_so", "_law_ahead", "_law_kept", "_law_span", "_law_arc"]
theorem sc_l_ring : FnScope N_l_ring ["_law_calm", "_law_noisy"] (defScope s_l_ring) := ⟨rfl, rfl, rfl, by decide +kernel, rfl, by decide +kernel, by decide +kernel⟩
abbrev N_l_idle : List Str := ["_law_rows", "_law_looks_so", "_law_way_so", "_law_common_so", "_law_look"]
theorem sc_l_idle : FnScope N_l_idle ["_law_rows", "_law_looks_so"] (defScope s_l_idle) := ⟨rfl, rfl, rfl, by decide +kernel, rfl, by decide +kernel, by decide +kernel⟩
abbrev N_l_due : List Str := ["_law_case", "_law_its", "_law_front", "_law_rear", "_law_row_so"]
theorem sc_l_due : FnScope N_l_due ["_law_case", "_law_its"] (defScope s_l_due) := ⟨rfl, rfl, rfl, by decide +kernel, rfl, by decide +kernel, by decide +kernel⟩
abbrev N_l_lists : List Str := ["_law_matter", "_law_bit"]
theorem sc_l_lists : FnScope N_l_lists ["_law_matter"] (defScope s_l_lists) := ⟨rfl, rfl, rfl, by decide +kernel, rfl, by decide +kernel, by decide +kernel⟩
abbrev N_l_above : List Str := ["_law_limit_so", "_law_minute"]
theorem sc_l_above : FnScope N_l_above ["_law_limit_so", "_law_minute"] (defScope s_l_above) := ⟨rfl, rfl, rfl, by decide +kernel, rfl, by decide +kernel, by decide +kernel⟩
abbrev N_l_calls : List Str := ["_law_log_so", "_law_span", "_law_own", "_law_minute"]
theorem sc_l_calls : FnScope N_l_calls ["_law_log_so", "_law_span"] (defScope s_l_calls) := ⟨rfl, rfl, rfl, by decide +kernel, rfl, by decide +kernel, by decide +kernel⟩
abbrev N_l_off : List Str := ["_law_case", "_law_log_so", "_law_found", "_law_row_so", "_law_look"]
theorem sc_l_off : FnScope N_l_off ["_law_case", "_law_log_so"] (defScope s_l_off) := ⟨rfl, rfl, rfl, by decide +kernel, rfl, by decide +kernel, by decide +kernel⟩
abbrev N_l_pair_right : List Str := ["_law_case", "_law_its", "_law_due_here", "_law_soft", "_law_got", "_law_log_so"]
theorem sc_l_pair_right : FnScope N_l_pair_right ["_law_case", "_law_its"] (defScope s_l_pair_right) := ⟨rfl, rfl, rfl, by decide +kernel, rfl, by decide +kernel, by decide +kernel⟩
abbrev N_l_by_hand_right : List Str := ["_law_one", "_law_two", "_law_pairs", "_law_case", "_law_its", "_law_due_here"]
theorem sc_l_by_hand_right : FnScope N_l_by_hand_right [] (defScope s_l_by_hand_right) := ⟨rfl, rfl, rfl, by decide +kernel, rfl, by decide +kernel, by decide +kernel⟩
abbrev N_l_take : List Str := ["_law_box_here", "_law_below", "_law_drawn", "_law_once", "_law_far", "_law_twice"]
theorem sc_l_take : FnScope N_l_take ["_law_box_here", "_law_below"] (defScope s_l_take) := ⟨rfl, rfl, rfl, by decide +kernel, rfl, by decide +kernel, by decide +kernel⟩
abbrev N_l_of : List Str := ["_law_box_here", "_law_some"]
theorem sc_l_of : FnScope N_l_of ["_law_box_here", "_law_some"] (defScope s_l_of) := ⟨rfl, rfl, rfl, by decide +kernel, rfl, by decide +kernel, by decide +kernel⟩
abbrev N_l_alarm : List Str := ["_law_box_here", "_law_many", "_law_most_so", "_law_found", "_law_wide", "_law_turn", "_law_start"]
theorem sc_l_alarm : FnScope N_l_alarm ["_law_box_here", "_law_many", "_law_most_so"] (defScope s_l_alarm) := ⟨rfl, rfl, rfl, by decide +kernel, rfl, by decide +kernel, by decide +kernel⟩
abbrev N_l_limit : List Str := ["_law_box_here", "_law_way_so"]
theorem sc_l_limit : FnScope N_l_limit ["_law_box_here"] (defScope s_l_limit) := ⟨rfl, rfl, rfl, by decide +kernel, rfl, by decide +kernel, by decide +kernel⟩
abbrev N_l_alarms : List Str := ["_law_box_here", "_law_most_minutes", "_law_most_alarms", "_law_most_looks", "_law_most_ways", "_law_many", "_law_rows", "_law_ways_here", "_law_turn", "_law_row_so"]
theorem sc_l_alarms : FnScope N_l_alarms ["_law_box_here", "_law_most_minutes", "_law_most_alarms", "_law_most_looks", "_law_most_ways"] (defScope s_l_alarms) := ⟨rfl, rfl, rfl, by decide +kernel, rfl, by decide +kernel, by decide +kernel⟩
abbrev N_l_varied : List Str := ["_law_box_here", "_law_case", "_law_many", "_law_limit_so", "_law_rows", "_law_way_so", "_law_row_so", "_law_one_so", "_law_less_so", "_law_own"]
theorem sc_l_varied : FnScope N_l_varied ["_law_box_here", "_law_case"] (defScope s_l_varied) := ⟨rfl, rfl, rfl, by decide +kernel, rfl, by decide +kernel, by decide +kernel⟩
abbrev N_l_right : List Str := ["_law_box_here", "_law_turn", "_law_case", "_law_its", "_law_far", "_law_part_so", "_law_whole_so"]
theorem sc_l_right : FnScope N_l_right ["_law_box_here"] (defScope s_l_right) := ⟨rfl, rfl, rfl, by decide +kernel, rfl, by decide +kernel, by decide +kernel⟩
abbrev N_l_box : List Str := ["_law_script", "_law_k", "_law_cell"]
theorem sc_l_box : FnScope N_l_box ["_law_script", "_law_k"] (defScope s_l_box) := ⟨rfl, rfl, rfl, by decide +kernel, rfl, by decide +kernel, by decide +kernel⟩
abbrev N_l_law : List Str := ["_law_script", "_law_cells_here", "_law_k"]
theorem sc_l_law : FnScope N_l_law ["_law_script"] (defScope s_l_law) := ⟨rfl, rfl, rfl, by decide +kernel, rfl, by decide +kernel, by decide +kernel⟩
theorem su_10 : SupSrc s_exc_10 "unlike minutes or limits" := ⟨⟨_, _, _, _, _, _, _, rfl, fun _ _ _ _ _ => ⟨_, rfl⟩⟩, ⟨_, rfl, rfl⟩, rfl, rfl, rfl, rfl, fun _ _ _ _ _ => rfl, rfl, rfl, by decide +kernel, fun _ _ _ _ _ _ _ _ _ _ => rfl⟩
theorem su_11 : SupSrc s_exc_11 "too many choices" := ⟨⟨_, _, _, _, _, _, _, rfl, fun _ _ _ _ _ => ⟨_, rfl⟩⟩, ⟨_, rfl, rfl⟩, rfl, rfl, rfl, rfl, fun _ _ _ _ _ => rfl, rfl, rfl, by decide +kernel, fun _ _ _ _ _ _ _ _ _ _ => rfl⟩
theorem su_12 : ExB s_exc_12 "no log fits" "ring" "ring" "tupled" := ⟨_, _, _, ⟨⟨_, _, _, _, _, _, _, _, _, _, rfl, fun _ _ _ _ _ => ⟨_, rfl⟩, fun _ _ _ _ _ => rfl⟩, ⟨_, _, rfl, rfl⟩, by decide, rfl, rfl, rfl, rfl, rfl, fun _ _ _ _ _ => rfl, rfl, rfl, by decide +kernel, fun _ _ _ _ _ _ _ _ _ _ _ => rfl⟩, rfl, fun _ _ _ _ _ => rfl, fun _ _ _ _ _ => rfl⟩
structure Txt (P : Program) (K : PySem.W.Frag) (mg : Str → Option Value) (cl : Nat → Addr) (sp_ : Nat → Str → Addr) (a : Nat → Addr) (d : Nat → FuncData) : Prop where
  F_l_cells : Fun K "_law_cells" "_law_cells" s_l_cells (a 0) (d 0)
  F_p_tupled : Fun K "tupled" "tupled" s_p_tupled (a 1) (d 1)
  F_p_choices : Fun K "choices" "choices" s_p_choices (a 2) (d 2)
  F_p_agree : Fun K "agree" "agree" s_p_agree (a 3) (d 3)
  F_p_turning : Fun K "turning" "turning" s_p_turning (a 4) (d 4)
  F_p_arcs_of : Fun K "arcs_of" "arcs_of" s_p_arcs_of (a 5) (d 5)
  F_p_path : Fun K "path" "path" s_p_path (a 6) (d 6)
  F_p_ring : Fun K "ring" "ring" s_p_ring (a 7) (d 7)
  F_p_check : Fun K "check" "check" s_p_check (a 8) (d 8)
  F_p_log_by : Fun K "log_by" "log_by" s_p_log_by (a 9) (d 9)
  F_p_ranks : Fun K "ranks" "ranks" s_p_ranks (a 10) (d 10)
  F_p_fitting : Fun K "fitting" "fitting" s_p_fitting (a 11) (d 11)
  F_p_going_off : Fun K "going_off" "going_off" s_p_going_off (a 12) (d 12)
  F_p_parting_alarms : Fun K "parting_alarms" "parting_alarms" s_p_parting_alarms (a 13) (d 13)
  F_p_alike_alarms : Fun K "alike_alarms" "alike_alarms" s_p_alike_alarms (a 14) (d 14)
  F_l_refused : Fun K "_law_refused" "_law_refused" s_l_refused (a 15) (d 15)
  F_l_same : Fun K "_law_same" "_law_same" s_l_same (a 16) (d 16)
  F_l_ways : Fun K "_law_ways" "_law_ways" s_l_ways (a 17) (d 17)
  F_l_ring : Fun K "_law_ring" "_law_ring" s_l_ring (a 18) (d 18)
  F_l_idle : Fun K "_law_idle" "_law_idle" s_l_idle (a 19) (d 19)
  F_l_due : Fun K "_law_due" "_law_due" s_l_due (a 20) (d 20)
  F_l_lists : Fun K "_law_lists" "_law_lists" s_l_lists (a 21) (d 21)
  F_l_above : Fun K "_law_above" "_law_above" s_l_above (a 22) (d 22)
  F_l_calls : Fun K "_law_calls" "_law_calls" s_l_calls (a 23) (d 23)
  F_l_off : Fun K "_law_off" "_law_off" s_l_off (a 24) (d 24)
  F_l_pair_right : Fun K "_law_pair_right" "_law_pair_right" s_l_pair_right (a 25) (d 25)
  F_l_by_hand_right : Fun K "_law_by_hand_right" "_law_by_hand_right" s_l_by_hand_right (a 26) (d 26)
  F_l_take : Fun K "_law_take" "_law_take" s_l_take (a 27) (d 27)
  F_l_of : Fun K "_law_of" "_law_of" s_l_of (a 28) (d 28)
  F_l_alarm : Fun K "_law_alarm" "_law_alarm" s_l_alarm (a 29) (d 29)
  F_l_limit : Fun K "_law_limit" "_law_limit" s_l_limit (a 30) (d 30)
  F_l_alarms : Fun K "_law_alarms" "_law_alarms" s_l_alarms (a 31) (d 31)
  F_l_varied : Fun K "_law_varied" "_law_varied" s_l_varied (a 32) (d 32)
  F_l_right : Fun K "_law_right" "_law_right" s_l_right (a 33) (d 33)
  F_l_box : Fun K "_law_box" "_law_box" s_l_box (a 34) (d 34)
  F_l_law : Fun K "law" "law" s_l_law (a 35) (d 35)
  g_l_cells : mg "_law_cells" = some (.ref (a 0))
  g_p_tupled : mg "tupled" = some (.ref (a 1))
  g_p_choices : mg "choices" = some (.ref (a 2))
  g_p_agree : mg "agree" = some (.ref (a 3))
  g_p_turning : mg "turning" = some (.ref (a 4))
  g_p_arcs_of : mg "arcs_of" = some (.ref (a 5))
  g_p_path : mg "path" = some (.ref (a 6))
  g_p_ring : mg "ring" = some (.ref (a 7))
  g_p_check : mg "check" = some (.ref (a 8))
  g_p_log_by : mg "log_by" = some (.ref (a 9))
  g_p_ranks : mg "ranks" = some (.ref (a 10))
  g_p_fitting : mg "fitting" = some (.ref (a 11))
  g_p_going_off : mg "going_off" = some (.ref (a 12))
  g_p_parting_alarms : mg "parting_alarms" = some (.ref (a 13))
  g_p_alike_alarms : mg "alike_alarms" = some (.ref (a 14))
  g_l_refused : mg "_law_refused" = some (.ref (a 15))
  g_l_same : mg "_law_same" = some (.ref (a 16))
  g_l_ways : mg "_law_ways" = some (.ref (a 17))
  g_l_ring : mg "_law_ring" = some (.ref (a 18))
  g_l_idle : mg "_law_idle" = some (.ref (a 19))
  g_l_due : mg "_law_due" = some (.ref (a 20))
  g_l_lists : mg "_law_lists" = some (.ref (a 21))
  g_l_above : mg "_law_above" = some (.ref (a 22))
  g_l_calls : mg "_law_calls" = some (.ref (a 23))
  g_l_off : mg "_law_off" = some (.ref (a 24))
  g_l_pair_right : mg "_law_pair_right" = some (.ref (a 25))
  g_l_by_hand_right : mg "_law_by_hand_right" = some (.ref (a 26))
  g_l_take : mg "_law_take" = some (.ref (a 27))
  g_l_of : mg "_law_of" = some (.ref (a 28))
  g_l_alarm : mg "_law_alarm" = some (.ref (a 29))
  g_l_limit : mg "_law_limit" = some (.ref (a 30))
  g_l_alarms : mg "_law_alarms" = some (.ref (a 31))
  g_l_varied : mg "_law_varied" = some (.ref (a 32))
  g_l_right : mg "_law_right" = some (.ref (a 33))
  g_l_box : mg "_law_box" = some (.ref (a 34))
  g_l_law : mg "law" = some (.ref (a 35))
  c_MOST_CHOICES : ∃ t, mg "MOST_CHOICES" = some (.int 64 t)
  exq_10 : mg (clN 10) = some (.ref (cl 10)) ∧ ExcQ K (cl 10)
  exq_11 : mg (clN 11) = some (.ref (cl 11)) ∧ ExcQ K (cl 11)
  exq_12 : mg (clN 12) = some (.ref (cl 12)) ∧ ExcQ K (cl 12)
  exs_12 : ExcS K (cl 12) (exB 12) (exM 12) "ring" ∧ XfQ K (cl 12) "ring"
  exu_10 : ExcU P K (cl 10) (a 36) (exB 10) (exN 10) (exI 10) (exM 10) s_exc_10
  exu_11 : ExcU P K (cl 11) (a 37) (exB 11) (exN 11) (exI 11) (exM 11) s_exc_11
  exu_12 : ExcU P K (cl 12) (a 38) (exB 12) (exN 12) (exI 12) (exM 12) s_exc_12
  exm_10_Unlike : PySem.W.exmOne K (.ref (cl 10)) (.ref (cl 10)) = some true
  exm_11_Unlike : PySem.W.exmOne K (.ref (cl 11)) (.ref (cl 10)) = some false
  exm_12_Unlike : PySem.W.exmOne K (.ref (cl 12)) (.ref (cl 10)) = some false
  kit_10_ValueError : PySem.W.kitOne K (.ref (cl 10)) (.type "ValueError") = some true
  kit_11_ValueError : PySem.W.kitOne K (.ref (cl 11)) (.type "ValueError") = some true
  kit_12_ValueError : PySem.W.kitOne K (.ref (cl 12)) (.type "ValueError") = some true
  n_ValueError : mg "ValueError" = none
  n_abs : mg "abs" = none
  n_all : mg "all" = none
  n_any : mg "any" = none
  n_bool : mg "bool" = none
  n_enumerate : mg "enumerate" = none
  n_int : mg "int" = none
  n_isinstance : mg "isinstance" = none
  n_len : mg "len" = none
  n_list : mg "list" = none
  n_max : mg "max" = none
  n_min : mg "min" = none
  n_range : mg "range" = none
  n_set : mg "set" = none
  n_sorted : mg "sorted" = none
  n_str : mg "str" = none
  n_sum : mg "sum" = none
  n_tuple : mg "tuple" = none
  n_zip : mg "zip" = none
section
variable {P : Program} {w : World} {K : PySem.W.Frag} {mg : Str → Option Value} {base : Heap} {cl : Nat → Addr} {sp_ : Nat → Str → Addr} {a : Nat → Addr} {d : Nat → FuncData}
theorem b_l_cells (T : Txt P K mg cl sp_ a d) : Binds K (d 0) ["_law_script", "_law_most_so"] [] := T.F_l_cells.binds (ps := ["_law_script", "_law_most_so"]) fun _ _ _ _ _ _ us hl => match us, hl with | [_, _], _ => rfl
theorem ok_l_cells (T : Txt P K mg cl sp_ a d) : FnOk P w K mg base CX0 1 (a 0) (d 0) ["_law_script", "_law_most_so"] (spM ⟨K, cl⟩ f_l_cells) :=
  fn_ok 6 2 (k := 0) T.F_l_cells sc_l_cells fun cdv A outer s H E hr =>
      (qss_cons (qs_set 2 (q_orV (q_callTy listCQ (by rfl) T.n_list (by decide +kernel) (q_cons (q_sl (q_var 0) q_noO (q_soO (q_var 1))) q_nil)) (q_oneV (q_cell (q_cons q_int q_nil)))) sc_l_cells.nd)
      (qss_cons (qs_for (qi_enum (q_sl (q_var 0) (q_soO (q_var 1)) (q_soO q_int)) (by rfl) T.n_enumerate) (qg_tup 2 (qgs_cons (qg_name 3 sc_l_cells.nd) (qgs_cons (qg_name 4 sc_l_cells.nd) qgs_nil))) (qss_cons (qs_set 5 (q_op modI (q_callTy intQ (by rfl) T.n_int (by decide +kernel) (q_cons (q_var 3) q_nil)) (q_var 1)) sc_l_cells.nd)
      (qss_one (qs_asg (q_op addQ (q_ix (q_var 2) (q_var 5)) (q_op mulQ (q_var 4) (q_op addQ (q_var 3) q_int))) (qg_sub (q_var 2) (q_var 5))))))
      (qss_one (qs_ret (q_frz (q_var 2))))))
theorem b_p_tupled (T : Txt P K mg cl sp_ a d) : Binds K (d 1) ["thing"] [] := T.F_p_tupled.binds (ps := ["thing"]) fun _ _ _ _ _ _ us hl => match us, hl with | [_], _ => rfl
theorem ok_p_tupled (T : Txt P K mg cl sp_ a d) (k : Nat) : FnOk P w K mg base CX0 (0 + k) (a 1) (d 1) ["thing"] (spM ⟨K, cl⟩ (f_p_tupled k)) := by
  induction k with
  | zero => exact fn_none
  | succ k ih =>
    exact fn_ok 2 1 (k := 0 + k) T.F_p_tupled sc_p_tupled fun cdv A outer s H E hr =>
      (qss_one (qs_ret (q_ifE (q_test (q_isi2 .list .tuple (q_var 0) (by rfl) T.n_isinstance (by rfl) T.n_list (by decide +kernel) (by rfl) T.n_tuple (by decide +kernel))) (q_callTy tupleQ (by rfl) T.n_tuple (by decide +kernel) (q_cons (q_lc [("part", 1)] (qi_items (q_var 0)) sc_p_tupled.nd (blkOk_by (N := N_p_tupled) (sc := defScope s_p_tupled) (by decide +kernel)) (fun _ _ _ _ _ => (qg_name 1 sc_p_tupled.nd)) (fun _ _ _ _ _ => (q_call ih (hr.mono (by omega)) (by rfl) T.g_p_tupled T.F_p_tupled.kp (b_p_tupled T) (q_cons (q_var 1) q_nil) sp_pure))) q_nil)) (q_var 0))))
theorem b_p_choices (T : Txt P K mg cl sp_ a d) : Binds K (d 2) ["alarms"] [] := T.F_p_choices.binds (ps := ["alarms"]) fun _ _ _ _ _ _ us hl => match us, hl with | [_], _ => rfl
theorem okx_p_choices (T : Txt P K mg cl sp_ a d) : FnOk P w K mg base (L2.CX P w) 32 (a 2) (d 2) ["alarms"] (spM ⟨K, cl⟩ g_p_choices) :=
  fn_okX 7 1 (k := 31) T.F_p_choices sc_p_choices fun cdv A outer s H E hr tk po =>
      (qss_cons (qs_par 1 2 sc_p_choices.nd (q_cons (q_ix (q_call (ok_p_tupled T 30) (hr.mono (by omega)) (by rfl) T.g_p_tupled T.F_p_tupled.kp (b_p_tupled T) (q_cons (q_var 0) q_nil) sp_pure) q_int) (q_cons q_int q_nil)))
      (qss_cons (qs_for (hp := po) (qi_items (q_var 1)) (qg_name 3 sc_p_choices.nd) (qss_cons (qs_augM 2 (q_callB lenQ (by rfl) T.n_len (by decide +kernel) (q_cons (q_var 3) q_nil)) sc_p_choices.nd)
      (qss_one (qs_if (q_tcmp gtI (q_var 2) (q_globI (by rfl) T.c_MOST_CHOICES.choose_spec)) (qss_one (qs_raise (cl := cl) 11 su_11 T.exu_11 tk (hr.mono (by omega)) (by rfl) T.exq_11.1)) qss_nil))))
      (qss_cons (qs_set 4 (q_lst (q_cons (q_tup q_nil) q_nil)) sc_p_choices.nd)
      (qss_cons (qs_for (hp := po) (qi_items (q_var 1)) (qg_name 3 sc_p_choices.nd) (qss_one (qs_setLc2 4 [("choice", 5), ("look", 6)] [6] (qi_items (q_var 4)) sc_p_choices.nd (blkOk_by (N := N_p_choices) (sc := defScope s_p_choices) (by decide +kernel)) (fun _ _ _ _ _ => (qg_name 5 sc_p_choices.nd)) (fun _ _ _ _ _ => ts_nil) (fun _ _ _ _ _ => (qi_items (q_var 3))) (fun _ _ _ _ _ => (qg_name 6 sc_p_choices.nd)) (fun _ _ _ _ _ => ts_nil) (fun _ _ _ _ _ => (q_tup (q_star (q_var 5) (q_cons (q_var 6) q_nil)))))))
      (qss_one (qs_ret (q_var 4)))))))
theorem b_p_agree (T : Txt P K mg cl sp_ a d) : Binds K (d 3) ["limit", "other"] [] := T.F_p_agree.binds (ps := ["limit", "other"]) fun _ _ _ _ _ _ us hl => match us, hl with | [_, _], _ => rfl
theorem ok_p_agree (T : Txt P K mg cl sp_ a d) : FnOk P w K mg base CX0 1 (a 3) (d 3) ["limit", "other"] (spM ⟨K, cl⟩ f_p_agree) :=
  fn_ok 2 2 (k := 0) T.F_p_agree sc_p_agree fun cdv A outer s H E hr =>
      (qss_one (qs_ret (q_cmp (eqQ hr) (q_op mulQ (q_ix (q_var 0) q_int) (q_ix (q_var 1) q_int)) (q_op mulQ (q_ix (q_var 1) q_int) (q_ix (q_var 0) q_int)))))
theorem b_p_turning (T : Txt P K mg cl sp_ a d) : Binds K (d 4) ["arcs"] [] := T.F_p_turning.binds (ps := ["arcs"]) fun _ _ _ _ _ _ us hl => match us, hl with | [_], _ => rfl
theorem ok_p_turning (T : Txt P K mg cl sp_ a d) : FnOk P w K mg base CX0 1 (a 4) (d 4) ["arcs"] (spM ⟨K, cl⟩ f_p_turning) :=
  fn_ok 7 1 (k := 0) T.F_p_turning sc_p_turning fun cdv A outer s H E hr =>
      (qss_cons (qs_par 1 2 sc_p_turning.nd (q_cons (q_var 0) (q_cons (q_op addQ (q_callB lenQ (by rfl) T.n_len (by decide +kernel) (q_cons (q_var 0) q_nil)) q_int) q_nil)))
      (qss_cons (qs_while (fun _ _ => 1000) (q_tcmp ltI (q_callB lenQ (by rfl) T.n_len (by decide +kernel) (q_cons (q_var 1) q_nil)) (q_var 2)) (qss_cons (qs_set 2 (q_callB lenQ (by rfl) T.n_len (by decide +kernel) (q_cons (q_var 1) q_nil)) sc_p_turning.nd)
      (qss_cons (qs_set 3 (q_lc [("one", 4), ("other", 5)] (qi_items (q_var 1)) sc_p_turning.nd (blkOk_by (N := N_p_turning) (sc := defScope s_p_turning) (by decide +kernel)) (fun _ _ _ _ _ => (qg_tup 2 (qgs_cons (qg_name 4 sc_p_turning.nd) (qgs_cons (qg_name 5 sc_p_turning.nd) qgs_nil)))) (fun _ _ _ _ _ => (q_var 5))) sc_p_turning.nd)
      (qss_one (qs_setLc 1 [("arc", 6)] false (qi_items (q_var 1)) sc_p_turning.nd (blkOk_by (N := N_p_turning) (sc := defScope s_p_turning) (by decide +kernel)) (fun _ _ _ _ _ => (qg_name 6 sc_p_turning.nd)) (fun _ _ _ _ _ => (ts_one (q_tcmp (inQ hr) (q_ix (q_var 6) q_int) (q_var 3)))) (fun _ _ _ _ _ => (q_var 6)))))))
      (qss_one (qs_ret (q_var 1)))))
theorem b_p_arcs_of (T : Txt P K mg cl sp_ a d) : Binds K (d 5) ["day"] [] := T.F_p_arcs_of.binds (ps := ["day"]) fun _ _ _ _ _ _ us hl => match us, hl with | [_], _ => rfl
theorem ok_p_arcs_of (T : Txt P K mg cl sp_ a d) : FnOk P w K mg base CX0 32 (a 5) (d 5) ["day"] (spM ⟨K, cl⟩ f_p_arcs_of) :=
  fn_ok 8 1 (k := 31) T.F_p_arcs_of sc_p_arcs_of fun cdv A outer s H E hr =>
      (qss_cons (qs_asg (q_call (ok_p_tupled T 30) (hr.mono (by omega)) (by rfl) T.g_p_tupled T.F_p_tupled.kp (b_p_tupled T) (q_cons (q_var 0) q_nil) sp_pure) (qg_tup 4 (qgs_cons (qg_name 1 sc_p_arcs_of.nd) (qgs_cons (qg_name 2 sc_p_arcs_of.nd) (qgs_cons (qg_name 3 sc_p_arcs_of.nd) (qgs_cons (qg_name 4 sc_p_arcs_of.nd) qgs_nil))))))
      (qss_one (qs_ret (q_op addQ (q_lc [("start", 5), ("end", 6)] (qi_items (q_var 3)) sc_p_arcs_of.nd (blkOk_by (N := N_p_arcs_of) (sc := defScope s_p_arcs_of) (by decide +kernel)) (fun _ _ _ _ _ => (qg_tup 2 (qgs_cons (qg_name 5 sc_p_arcs_of.nd) (qgs_cons (qg_name 6 sc_p_arcs_of.nd) qgs_nil)))) (fun _ _ _ _ _ => (q_tup (q_cons (q_var 6) (q_cons (q_var 5) q_nil))))) (q_lc [("look", 7)] (qi_items (q_var 4)) sc_p_arcs_of.nd (blkOk_by (N := N_p_arcs_of) (sc := defScope s_p_arcs_of) (by decide +kernel)) (fun _ _ _ _ _ => (qg_name 7 sc_p_arcs_of.nd)) (fun _ _ _ _ _ => (q_var 7)))))))
theorem b_p_path (T : Txt P K mg cl sp_ a d) : Binds K (d 6) ["arcs", "one", "other"] [] := T.F_p_path.binds (ps := ["arcs", "one", "other"]) fun _ _ _ _ _ _ us hl => match us, hl with | [_, _, _], _ => rfl
theorem ok_p_path (T : Txt P K mg cl sp_ a d) : FnOk P w K mg base CX0 1 (a 6) (d 6) ["arcs", "one", "other"] (spM ⟨K, cl⟩ f_p_path) :=
  fn_ok 9 3 (k := 0) T.F_p_path sc_p_path fun cdv A outer s H E hr =>
      (qss_cons (qs_par 3 4 sc_p_path.nd (q_cons (q_lst (q_cons (q_tup (q_cons (q_var 1) q_nil)) q_nil)) (q_cons (q_cell (q_cons (q_var 1) q_nil)) q_nil)))
      (qss_cons (qs_while (fun _ _ => 1000) (q_tcmp gtI (q_callB lenQ (by rfl) T.n_len (by decide +kernel) (q_cons (q_var 3) q_nil)) q_int) (qss_cons (qs_set 5 (q_cell q_nil) sc_p_path.nd)
      (qss_cons (qs_for (qi_items (q_frz (q_var 3))) (qg_name 6 sc_p_path.nd) (qss_cons (qs_if (q_tcmp (eqQ hr) (q_ix (q_var 6) (q_neg q_int)) (q_var 2)) (qss_one (qs_ret (q_var 6))) qss_nil)
      (qss_one (qs_for (qi_items (q_var 0)) (qg_tup 2 (qgs_cons (qg_name 7 sc_p_path.nd) (qgs_cons (qg_name 8 sc_p_path.nd) qgs_nil))) (qss_one (qs_if (q_w (q_and (q_tcmp (eqQ hr) (q_var 7) (q_ix (q_var 6) (q_neg q_int))) (q_and1 (q_tcmp (ninQ hr) (q_var 8) (q_var 4))))) (qss_cons (qs_expr (q_app (q_var 4) (q_var 8)))
      (qss_one (qs_expr (q_app (q_var 5) (q_tup (q_star (q_var 6) (q_cons (q_var 8) q_nil))))))) qss_nil))))))
      (qss_one (qs_set 3 (q_var 5) sc_p_path.nd)))))
      (qss_one (qs_ret q_non))))
theorem b_p_ring (T : Txt P K mg cl sp_ a d) : Binds K (d 7) ["day"] [] := T.F_p_ring.binds (ps := ["day"]) fun _ _ _ _ _ _ us hl => match us, hl with | [_], _ => rfl
theorem ok_p_ring (T : Txt P K mg cl sp_ a d) : FnOk P w K mg base CX0 33 (a 7) (d 7) ["day"] (spM ⟨K, cl⟩ f_p_ring) :=
  fn_ok 5 1 (k := 32) T.F_p_ring sc_p_ring fun cdv A outer s H E hr =>
      (qss_cons (qs_set 1 (q_call (ok_p_turning T) (hr.mono (by omega)) (by rfl) T.g_p_turning T.F_p_turning.kp (b_p_turning T) (q_cons (q_call (ok_p_arcs_of T) (hr.mono (by omega)) (by rfl) T.g_p_arcs_of T.F_p_arcs_of.kp (b_p_arcs_of T) (q_cons (q_var 0) q_nil) sp_pure) q_nil) sp_pure) sc_p_ring.nd)
      (qss_cons (qs_for (qi_items (q_var 1)) (qg_tup 2 (qgs_cons (qg_name 2 sc_p_ring.nd) (qgs_cons (qg_name 3 sc_p_ring.nd) qgs_nil))) (qss_cons (qs_set 4 (q_call (ok_p_path T) (hr.mono (by omega)) (by rfl) T.g_p_path T.F_p_path.kp (b_p_path T) (q_cons (q_var 1) (q_cons (q_var 3) (q_cons (q_var 2) q_nil))) sp_pure) sc_p_ring.nd)
      (qss_one (qs_if (q_tnotN (q_var 4)) (qss_one (qs_ret (q_tup (q_cons (q_var 2) (q_star (q_var 4) q_nil))))) qss_nil))))
      (qss_one (qs_ret q_non))))
theorem b_p_check (T : Txt P K mg cl sp_ a d) : Binds K (d 8) ["day"] [] := T.F_p_check.binds (ps := ["day"]) fun _ _ _ _ _ _ us hl => match us, hl with | [_], _ => rfl
theorem okx_p_check (T : Txt P K mg cl sp_ a d) : FnOk P w K mg base (L2.CX P w) 34 (a 8) (d 8) ["day"] (spM ⟨K, cl⟩ g_p_check) :=
  fn_okX 2 1 (k := 33) T.F_p_check sc_p_check fun cdv A outer s H E hr tk po =>
      (qss_cons (qs_set 1 (q_call (ok_p_ring T) (hr.mono (by omega)) (by rfl) T.g_p_ring T.F_p_ring.kp (b_p_ring T) (q_cons (q_var 0) q_nil) sp_pure) sc_p_check.nd)
      (qss_one (qs_if (q_tnotN (q_var 1)) (qss_one (qs_rB (cl := cl) 12 su_12 T.exu_12 T.exs_12.1 tk (hr.mono (by omega)) (by rfl) T.exq_12.1 (ok_p_tupled T 30) T.g_p_tupled T.F_p_tupled.kp (b_p_tupled T) sp_pure (q_var 1))) qss_nil)))
theorem b_p_log_by (T : Txt P K mg cl sp_ a d) : Binds K (d 9) ["limit", "high"] [] := T.F_p_log_by.binds (ps := ["limit", "high"]) fun _ _ _ _ _ _ us hl => match us, hl with | [_, _], _ => rfl
theorem ok_p_log_by (T : Txt P K mg cl sp_ a d) : FnOk P w K mg base CX0 1 (a 9) (d 9) ["limit", "high"] (spM ⟨K, cl⟩ f_p_log_by) :=
  fn_ok 7 2 (k := 0) T.F_p_log_by sc_p_log_by fun cdv A outer s H E hr =>
      (qss_cons (qs_asg (q_var 0) (qg_tup 2 (qgs_cons (qg_name 2 sc_p_log_by.nd) (qgs_cons (qg_name 3 sc_p_log_by.nd) qgs_nil))))
      (qss_cons (qs_set 4 (q_cell q_nil) sc_p_log_by.nd)
      (qss_cons (qs_for (qi_zip (q_cons (q_var 1) (q_cons (q_sl (q_var 1) (q_soO q_int) q_noO) q_nil)) (by rfl) T.n_zip) (qg_tup 2 (qgs_cons (qg_name 5 sc_p_log_by.nd) (qgs_cons (qg_name 6 sc_p_log_by.nd) qgs_nil))) (qss_one (qs_expr (q_app (q_var 4) (q_tup (q_cons (q_op mulQ (q_callB max2Q (by rfl) T.n_max (by decide +kernel) (q_cons q_int (q_cons (q_op subI (q_var 5) (q_var 6)) q_nil))) (q_op subI (q_var 3) (q_var 2))) (q_cons (q_op mulQ (q_callB max2Q (by rfl) T.n_max (by decide +kernel) (q_cons q_int (q_cons (q_op subI (q_var 6) (q_var 5)) q_nil))) (q_var 2)) q_nil)))))))
      (qss_one (qs_ret (q_callTy tupleQ (by rfl) T.n_tuple (by decide +kernel) (q_cons (q_var 4) q_nil)))))))
theorem b_p_ranks (T : Txt P K mg cl sp_ a d) : Binds K (d 10) ["many", "arcs"] [] := T.F_p_ranks.binds (ps := ["many", "arcs"]) fun _ _ _ _ _ _ us hl => match us, hl with | [_, _], _ => rfl
theorem ok_p_ranks (T : Txt P K mg cl sp_ a d) : FnOk P w K mg base CX0 1 (a 10) (d 10) ["many", "arcs"] (spM ⟨K, cl⟩ f_p_ranks) :=
  fn_ok 6 2 (k := 0) T.F_p_ranks sc_p_ranks fun cdv A outer s H E hr =>
      (qss_cons (qs_set 2 (q_op repC (q_lst (q_cons q_int q_nil)) (q_op addQ (q_var 0) q_int)) sc_p_ranks.nd)
      (qss_cons (qs_for (qi_range1 (q_var 0) (by rfl) T.n_range) (qg_name 3 sc_p_ranks.nd) (qss_one (qs_for (qi_items (q_var 1)) (qg_tup 2 (qgs_cons (qg_name 4 sc_p_ranks.nd) (qgs_cons (qg_name 5 sc_p_ranks.nd) qgs_nil))) (qss_one (qs_asg (q_callB max2Q (by rfl) T.n_max (by decide +kernel) (q_cons (q_ix (q_var 2) (q_var 5)) (q_cons (q_op addQ (q_ix (q_var 2) (q_var 4)) q_int) q_nil))) (qg_sub (q_var 2) (q_var 5)))))))
      (qss_one (qs_ret (q_frz (q_var 2))))))
theorem b_p_fitting (T : Txt P K mg cl sp_ a d) : Binds K (d 11) ["day"] [] := T.F_p_fitting.binds (ps := ["day"]) fun _ _ _ _ _ _ us hl => match us, hl with | [_], _ => rfl
theorem okx_p_fitting (T : Txt P K mg cl sp_ a d) : FnOk P w K mg base (L2.CX P w) 35 (a 11) (d 11) ["day"] (spM ⟨K, cl⟩ g_p_fitting) :=
  fn_okX 5 1 (k := 34) T.F_p_fitting sc_p_fitting fun cdv A outer s H E hr tk po =>
      (qss_cons (qs_expr (qx_call (okx_p_check T) tk (hr.mono (by omega)) (by rfl) T.g_p_check T.F_p_check.kp (b_p_check T) (q_cons (q_var 0) q_nil) spx_pure).qe)
      (qss_cons (qs_asg (q_call (ok_p_tupled T 30) (hr.mono (by omega)) (by rfl) T.g_p_tupled T.F_p_tupled.kp (b_p_tupled T) (q_cons (q_var 0) q_nil) sp_pure) (qg_tup 4 (qgs_cons (qg_name 1 sc_p_fitting.nd) (qgs_cons (qg_name 2 sc_p_fitting.nd) (qgs_cons (qg_name 3 sc_p_fitting.nd) (qgs_cons (qg_name 4 sc_p_fitting.nd) qgs_nil))))))
      (qss_one (qs_ret (q_call (ok_p_log_by T) (hr.mono (by omega)) (by rfl) T.g_p_log_by T.F_p_log_by.kp (b_p_log_by T) (q_cons (q_var 2) (q_cons (q_call (ok_p_ranks T) (hr.mono (by omega)) (by rfl) T.g_p_ranks T.F_p_ranks.kp (b_p_ranks T) (q_cons (q_var 1) (q_cons (q_call (ok_p_arcs_of T) (hr.mono (by omega)) (by rfl) T.g_p_arcs_of T.F_p_arcs_of.kp (b_p_arcs_of T) (q_cons (q_var 0) q_nil) sp_pure) q_nil)) sp_pure) q_nil)) sp_pure)))))
theorem b_p_going_off (T : Txt P K mg cl sp_ a d) : Binds K (d 12) ["alarms", "looks"] [] := T.F_p_going_off.binds (ps := ["alarms", "looks"]) fun _ _ _ _ _ _ us hl => match us, hl with | [_, _], _ => rfl
theorem okx_p_going_off (T : Txt P K mg cl sp_ a d) : FnOk P w K mg base (L2.CX P w) 36 (a 12) (d 12) ["alarms", "looks"] (spM ⟨K, cl⟩ g_p_going_off) :=
  fn_okX 9 2 (k := 35) T.F_p_going_off sc_p_going_off fun cdv A outer s H E hr tk po =>
      (qss_cons (qs_asg (q_call (ok_p_tupled T 30) (hr.mono (by omega)) (by rfl) T.g_p_tupled T.F_p_tupled.kp (b_p_tupled T) (q_cons (q_var 0) q_nil) sp_pure) (qg_tup 3 (qgs_cons (qg_name 2 sc_p_going_off.nd) (qgs_cons (qg_name 3 sc_p_going_off.nd) (qgs_cons (qg_name 4 sc_p_going_off.nd) qgs_nil)))))
      (qss_cons (qs_set 5 (q_call (ok_p_tupled T 30) (hr.mono (by omega)) (by rfl) T.g_p_tupled T.F_p_tupled.kp (b_p_tupled T) (q_cons (q_var 1) q_nil) sp_pure) sc_p_going_off.nd)
      (qss_cons (qs_for (hp := po) (qi_items (qx_call (okx_p_choices T) tk (hr.mono (by omega)) (by rfl) T.g_p_choices T.F_p_choices.kp (b_p_choices T) (q_cons (q_var 0) q_nil) spx_pure).qe) (qg_name 6 sc_p_going_off.nd) (qss_cons (qs_set 7 (q_tup (q_cons (q_var 2) (q_cons (q_var 3) (q_cons (q_callTy tupleQ (by rfl) T.n_tuple (by decide +kernel) (q_cons (q_sortsetT hr (q_var 6) (by rfl) T.n_sorted (by rfl) T.n_set) q_nil)) (q_cons (q_var 5) q_nil))))) sc_p_going_off.nd)
      (qss_one (qs_if (q_w (q_and (q_not (q_test (q_callB anyQ (by rfl) T.n_any (by decide +kernel) (q_cons (q_lc [("look", 8)] (qi_items (q_var 6)) sc_p_going_off.nd (blkOk_by (N := N_p_going_off) (sc := defScope s_p_going_off) (by decide +kernel)) (fun _ _ _ _ _ => (qg_name 8 sc_p_going_off.nd)) (fun _ _ _ _ _ => (q_cmp (inQ hr) (q_var 8) (q_var 5)))) q_nil)))) (q_and1 (q_tisN (q_call (ok_p_ring T) (hr.mono (by omega)) (by rfl) T.g_p_ring T.F_p_ring.kp (b_p_ring T) (q_cons (q_var 7) q_nil) sp_pure))))) (qss_one (qs_ret (qx_call (okx_p_fitting T) tk (hr.mono (by omega)) (by rfl) T.g_p_fitting T.F_p_fitting.kp (b_p_fitting T) (q_cons (q_var 7) q_nil) spx_pure).qe)) qss_nil))))
      (qss_one (qs_ret q_non)))))
theorem b_p_parting_alarms (T : Txt P K mg cl sp_ a d) : Binds K (d 13) ["alarms", "other"] [] := T.F_p_parting_alarms.binds (ps := ["alarms", "other"]) fun _ _ _ _ _ _ us hl => match us, hl with | [_, _], _ => rfl
theorem okx_p_parting_alarms (T : Txt P K mg cl sp_ a d) : FnOk P w K mg base (L2.CX P w) 37 (a 13) (d 13) ["alarms", "other"] (spM ⟨K, cl⟩ g_p_parting_alarms) :=
  fn_okX 9 2 (k := 36) T.F_p_parting_alarms sc_p_parting_alarms fun cdv A outer s H E hr tk po =>
      (qss_cons (qs_par 2 3 sc_p_parting_alarms.nd (q_cons (q_call (ok_p_tupled T 30) (hr.mono (by omega)) (by rfl) T.g_p_tupled T.F_p_tupled.kp (b_p_tupled T) (q_cons (q_var 0) q_nil) sp_pure) (q_cons (q_call (ok_p_tupled T 30) (hr.mono (by omega)) (by rfl) T.g_p_tupled T.F_p_tupled.kp (b_p_tupled T) (q_cons (q_var 1) q_nil) sp_pure) q_nil)))
      (qss_cons (qs_if (q_w (q_or (q_tcmp (neQ hr) (q_ix (q_var 2) q_int) (q_ix (q_var 3) q_int)) (q_or1 (q_not (q_test (q_call (ok_p_agree T) (hr.mono (by omega)) (by rfl) T.g_p_agree T.F_p_agree.kp (b_p_agree T) (q_cons (q_ix (q_var 2) q_int) (q_cons (q_ix (q_var 3) q_int) q_nil)) sp_pure)))))) (qss_one (qs_raise (cl := cl) 10 su_10 T.exu_10 tk (hr.mono (by omega)) (by rfl) T.exq_10.1)) qss_nil)
      (qss_cons (qs_set 4 (q_lst (q_cons (q_tup (q_cons (q_var 2) (q_cons (q_var 3) q_nil))) (q_cons (q_tup (q_cons (q_var 3) (q_cons (q_var 2) q_nil))) q_nil))) sc_p_parting_alarms.nd)
      (qss_cons (qs_for (hp := po) (qi_items (q_var 4)) (qg_tup 2 (qgs_cons (qg_name 5 sc_p_parting_alarms.nd) (qgs_cons (qg_name 6 sc_p_parting_alarms.nd) qgs_nil))) (qss_one (qs_expr (qx_call (okx_p_choices T) tk (hr.mono (by omega)) (by rfl) T.g_p_choices T.F_p_choices.kp (b_p_choices T) (q_cons (q_var 5) q_nil) spx_pure).qe)))
      (qss_cons (qs_for (hp := po) (qi_items (q_var 4)) (qg_tup 2 (qgs_cons (qg_name 5 sc_p_parting_alarms.nd) (qgs_cons (qg_name 6 sc_p_parting_alarms.nd) qgs_nil))) (qss_one (qs_for (hp := po) (qi_items (q_ix (q_var 6) q_int)) (qg_name 7 sc_p_parting_alarms.nd) (qss_cons (qs_set 8 (qx_call (okx_p_going_off T) tk (hr.mono (by omega)) (by rfl) T.g_p_going_off T.F_p_going_off.kp (b_p_going_off T) (q_cons (q_var 5) (q_cons (q_var 7) q_nil)) spx_pure).qe sc_p_parting_alarms.nd)
      (qss_one (qs_if (q_tnotN (q_var 8)) (qss_one (qs_ret (q_var 8))) qss_nil))))))
      (qss_one (qs_ret q_non)))))))
theorem ok_p_parting_alarms (T : Txt P K mg cl sp_ a d) : FnOk P w K mg base CX0 37 (a 13) (d 13) ["alarms", "other"] (spM ⟨K, cl⟩ f_p_parting_alarms) := fn_quiet (okx_p_parting_alarms T)
theorem b_p_alike_alarms (T : Txt P K mg cl sp_ a d) : Binds K (d 14) ["alarms", "other"] [] := T.F_p_alike_alarms.binds (ps := ["alarms", "other"]) fun _ _ _ _ _ _ us hl => match us, hl with | [_, _], _ => rfl
theorem okx_p_alike_alarms (T : Txt P K mg cl sp_ a d) : FnOk P w K mg base (L2.CX P w) 38 (a 14) (d 14) ["alarms", "other"] (spM ⟨K, cl⟩ g_p_alike_alarms) :=
  fn_okX 2 2 (k := 37) T.F_p_alike_alarms sc_p_alike_alarms fun cdv A outer s H E hr tk po =>
      (qss_one (qs_ret (q_isN (qx_call (okx_p_parting_alarms T) tk (hr.mono (by omega)) (by rfl) T.g_p_parting_alarms T.F_p_parting_alarms.kp (b_p_parting_alarms T) (q_cons (q_var 0) (q_cons (q_var 1) q_nil)) spx_pure).qe)))
theorem ok_p_alike_alarms (T : Txt P K mg cl sp_ a d) : FnOk P w K mg base CX0 38 (a 14) (d 14) ["alarms", "other"] (spM ⟨K, cl⟩ f_p_alike_alarms) := fn_quiet (okx_p_alike_alarms T)
theorem b_l_refused (T : Txt P K mg cl sp_ a d) : Binds K (d 15) ["_law_case", "_law_its"] [] := T.F_l_refused.binds (ps := ["_law_case", "_law_its"]) fun _ _ _ _ _ _ us hl => match us, hl with | [_, _], _ => rfl
theorem ok_l_refused (T : Txt P K mg cl sp_ a d) : FnOk P w K mg base CX0 39 (a 15) (d 15) ["_law_case", "_law_its"] (spM ⟨K, cl⟩ f_l_refused) :=
  fn_ok 4 2 (k := 38) T.F_l_refused sc_l_refused fun cdv A outer s H E hr =>
      (qss_cons (qs_set 2 (q_cell q_nil) sc_l_refused.nd)
      (qss_cons (qs_try rfl rfl rfl sc_l_refused.nd (fun W pn xe tk po => (qxs_one (qx_expr (qx_app (q_var 2) (qx_call (okx_p_alike_alarms T) tk (hr.mono (by omega)) (by rfl) T.g_p_alike_alarms T.F_p_alike_alarms.kp (b_p_alike_alarms T) (q_cons (q_var 0) (q_cons (q_var 1) q_nil)) spx_pure))))) (.cons rfl rfl (hdt_name ⟨by rfl, by decide, .inl T.exq_10.1⟩ (tab_cons T.exm_10_Unlike (tab_cons T.exm_11_Unlike (tab_cons T.exm_12_Unlike tab_nil)))) (fun _ _ => (qss_one (qs_set 2 (q_op catC (q_var 2) (q_lst (q_cons q_str (q_cons (q_isX [(10, true), (11, true), (12, true)] (q_var 3) (by rfl) T.n_isinstance (pe_bltn (v := .ty "ValueError") (by rfl) T.n_ValueError (by decide +kernel) rfl) (.ty _) (tab_cons ⟨T.exq_10.2, T.kit_10_ValueError⟩ (tab_cons ⟨T.exq_11.2, T.kit_11_ValueError⟩ (tab_cons ⟨T.exq_12.2, T.kit_12_ValueError⟩ tab_nil)))) q_nil)))) sc_l_refused.nd))) .nil))
      (qss_cons (qs_try rfl rfl rfl sc_l_refused.nd (fun W pn xe tk po => (qxs_one (qx_expr (qx_app (q_var 2) (qx_call (okx_p_parting_alarms T) tk (hr.mono (by omega)) (by rfl) T.g_p_parting_alarms T.F_p_parting_alarms.kp (b_p_parting_alarms T) (q_cons (q_var 1) (q_cons (q_var 0) q_nil)) spx_pure))))) (.cons rfl rfl (hdt_name ⟨by rfl, by decide, .inl T.exq_10.1⟩ (tab_cons T.exm_10_Unlike (tab_cons T.exm_11_Unlike (tab_cons T.exm_12_Unlike tab_nil)))) (fun _ _ => (qss_one (qs_set 2 (q_op catC (q_var 2) (q_lst (q_cons q_str (q_cons (q_isX [(10, true), (11, true), (12, true)] (q_var 3) (by rfl) T.n_isinstance (pe_bltn (v := .ty "ValueError") (by rfl) T.n_ValueError (by decide +kernel) rfl) (.ty _) (tab_cons ⟨T.exq_10.2, T.kit_10_ValueError⟩ (tab_cons ⟨T.exq_11.2, T.kit_11_ValueError⟩ (tab_cons ⟨T.exq_12.2, T.kit_12_ValueError⟩ tab_nil)))) q_nil)))) sc_l_refused.nd))) .nil))
      (qss_one (qs_ret (q_cmp (eqQ hr) (q_var 2) (q_lst (q_cons q_str (q_cons q_bl (q_cons q_str (q_cons q_bl q_nil)))))))))))
theorem b_l_same (T : Txt P K mg cl sp_ a d) : Binds K (d 16) ["_law_got", "_law_due_here"] [] := T.F_l_same.binds (ps := ["_law_got", "_law_due_here"]) fun _ _ _ _ _ _ us hl => match us, hl with | [_, _], _ => rfl
theorem ok_l_same (T : Txt P K mg cl sp_ a d) (k : Nat) : FnOk P w K mg base CX0 (0 + k) (a 16) (d 16) ["_law_got", "_law_due_here"] (spM ⟨K, cl⟩ (f_l_same k)) := by
  induction k with
  | zero => exact fn_none
  | succ k ih =>
    exact fn_ok 4 2 (k := 0 + k) T.F_l_same sc_l_same fun cdv A outer s H E hr =>
      (qss_cons (qs_if (q_test (q_isi2 .list .tuple (q_var 1) (by rfl) T.n_isinstance (by rfl) T.n_list (by decide +kernel) (by rfl) T.n_tuple (by decide +kernel))) (qss_cons (qs_if (q_w (q_or (q_tcmp (neQ hr) (q_isi .list (q_var 0) (by rfl) T.n_isinstance (by rfl) T.n_list (by decide +kernel)) (q_isi .list (q_var 1) (by rfl) T.n_isinstance (by rfl) T.n_list (by decide +kernel))) (q_or1 (q_tcmp (neQ hr) (q_isi .tuple (q_var 0) (by rfl) T.n_isinstance (by rfl) T.n_tuple (by decide +kernel)) (q_isi .tuple (q_var 1) (by rfl) T.n_isinstance (by rfl) T.n_tuple (by decide +kernel)))))) (qss_one (qs_ret q_bl)) qss_nil)
      (qss_one (qs_ret (q_andV (q_cmp (eqQ hr) (q_callB lenQ (by rfl) T.n_len (by decide +kernel) (q_cons (q_var 0) q_nil)) (q_callB lenQ (by rfl) T.n_len (by decide +kernel) (q_cons (q_var 1) q_nil))) (q_oneV (q_callB allQ (by rfl) T.n_all (by decide +kernel) (q_cons (q_lc [("_law_mine", 2), ("_law_its", 3)] (qi_zip (q_cons (q_var 0) (q_cons (q_var 1) q_nil)) (by rfl) T.n_zip) sc_l_same.nd (blkOk_by (N := N_l_same) (sc := defScope s_l_same) (by decide +kernel)) (fun _ _ _ _ _ => (qg_tup 2 (qgs_cons (qg_name 2 sc_l_same.nd) (qgs_cons (qg_name 3 sc_l_same.nd) qgs_nil)))) (fun _ _ _ _ _ => (q_call ih (hr.mono (by omega)) (by rfl) T.g_l_same T.F_l_same.kp (b_l_same T) (q_cons (q_var 2) (q_cons (q_var 3) q_nil)) sp_pure))) q_nil))))))) qss_nil)
      (qss_cons (qs_if (q_w (q_or (q_tisN (q_var 1)) (q_or1 (q_test (q_isi2 .bool .str (q_var 1) (by rfl) T.n_isinstance (by rfl) T.n_bool (by decide +kernel) (by rfl) T.n_str (by decide +kernel)))))) (qss_one (qs_ret (q_andV (q_cmp (eqQ hr) (q_var 0) (q_var 1)) (q_andV (q_cmp (eqQ hr) (q_isi .bool (q_var 0) (by rfl) T.n_isinstance (by rfl) T.n_bool (by decide +kernel)) (q_isi .bool (q_var 1) (by rfl) T.n_isinstance (by rfl) T.n_bool (by decide +kernel))) (q_oneV (q_cmp (eqQ hr) (q_isN (q_var 0)) (q_isN (q_var 1)))))))) qss_nil)
      (qss_one (qs_ret (q_andV (q_isi .int (q_var 0) (by rfl) T.n_isinstance (by rfl) T.n_int (by decide +kernel)) (q_andV (q_notV (q_isi .bool (q_var 0) (by rfl) T.n_isinstance (by rfl) T.n_bool (by decide +kernel))) (q_oneV (q_cmp (eqQ hr) (q_var 0) (q_var 1)))))))))
theorem b_l_ways (T : Txt P K mg cl sp_ a d) : Binds K (d 17) ["_law_rows"] [] := T.F_l_ways.binds (ps := ["_law_rows"]) fun _ _ _ _ _ _ us hl => match us, hl with | [_], _ => rfl
theorem ok_l_ways (T : Txt P K mg cl sp_ a d) : FnOk P w K mg base CX0 1 (a 17) (d 17) ["_law_rows"] (spM ⟨K, cl⟩ f_l_ways) :=
  fn_ok 6 1 (k := 0) T.F_l_ways sc_l_ways fun cdv A outer s H E hr =>
      (qss_cons (qs_set 1 (q_lst (q_cons (q_tup q_nil) q_nil)) sc_l_ways.nd)
      (qss_cons (qs_for (qi_items (q_var 0)) (qg_name 2 sc_l_ways.nd) (qss_cons (qs_set 3 (q_lst q_nil) sc_l_ways.nd)
      (qss_cons (qs_for (qi_items (q_var 1)) (qg_name 4 sc_l_ways.nd) (qss_one (qs_set 3 (q_op addQ (q_var 3) (q_lc [("_law_look", 5)] (qi_items (q_var 2)) sc_l_ways.nd (blkOk_by (N := N_l_ways) (sc := defScope s_l_ways) (by decide +kernel)) (fun _ _ _ _ _ => (qg_name 5 sc_l_ways.nd)) (fun _ _ _ _ _ => (q_op addQ (q_var 4) (q_tup (q_cons (q_var 5) q_nil)))))) sc_l_ways.nd)))
      (qss_one (qs_set 1 (q_var 3) sc_l_ways.nd)))))
      (qss_one (qs_ret (q_var 1)))))
theorem b_l_ring (T : Txt P K mg cl sp_ a d) : Binds K (d 18) ["_law_calm", "_law_noisy"] [] := T.F_l_ring.binds (ps := ["_law_calm", "_law_noisy"]) fun _ _ _ _ _ _ us hl => match us, hl with | [_, _], _ => rfl
theorem ok_l_ring (T : Txt P K mg cl sp_ a d) : FnOk P w K mg base CX0 1 (a 18) (d 18) ["_law_calm", "_law_noisy"] (spM ⟨K, cl⟩ f_l_ring) :=
  fn_ok 8 2 (k := 0) T.F_l_ring sc_l_ring fun cdv A outer s H E hr =>
      (qss_cons (qs_set 2 (q_op addQ (q_lc [("_law_span", 6)] (qi_items (q_var 0)) sc_l_ring.nd (blkOk_by (N := N_l_ring) (sc := defScope s_l_ring) (by decide +kernel)) (fun _ _ _ _ _ => (qg_name 6 sc_l_ring.nd)) (fun _ _ _ _ _ => (q_tup (q_cons (q_ix (q_var 6) q_int) (q_cons (q_ix (q_var 6) q_int) q_nil))))) (q_lc [("_law_span", 6)] (qi_items (q_var 1)) sc_l_ring.nd (blkOk_by (N := N_l_ring) (sc := defScope s_l_ring) (by decide +kernel)) (fun _ _ _ _ _ => (qg_name 6 sc_l_ring.nd)) (fun _ _ _ _ _ => (q_tup (q_cons (q_ix (q_var 6) q_int) (q_cons (q_ix (q_var 6) q_int) q_nil)))))) sc_l_ring.nd)
      (qss_cons (qs_set 3 q_bl sc_l_ring.nd)
      (qss_cons (qs_while (fun _ _ => 1000) (q_test (q_var 3)) (qss_cons (qs_set 4 (q_lc [("_law_arc", 7)] (qi_items (q_var 2)) sc_l_ring.nd (blkOk_by (N := N_l_ring) (sc := defScope s_l_ring) (by decide +kernel)) (fun _ _ _ _ _ => (qg_name 7 sc_l_ring.nd)) (fun _ _ _ _ _ => (q_ix (q_var 7) q_int))) sc_l_ring.nd)
      (qss_cons (qs_setLc 5 [("_law_arc", 7)] false (qi_items (q_var 2)) sc_l_ring.nd (blkOk_by (N := N_l_ring) (sc := defScope s_l_ring) (by decide +kernel)) (fun _ _ _ _ _ => (qg_name 7 sc_l_ring.nd)) (fun _ _ _ _ _ => (ts_one (q_tcmp (inQ hr) (q_ix (q_var 7) q_int) (q_var 4)))) (fun _ _ _ _ _ => (q_var 7)))
      (qss_cons (qs_set 3 (q_cmp ltI (q_callB lenQ (by rfl) T.n_len (by decide +kernel) (q_cons (q_var 5) q_nil)) (q_callB lenQ (by rfl) T.n_len (by decide +kernel) (q_cons (q_var 2) q_nil))) sc_l_ring.nd)
      (qss_one (qs_set 2 (q_var 5) sc_l_ring.nd))))))
      (qss_one (qs_ret (q_cmp (neQ hr) (q_var 2) (q_lst q_nil)))))))
theorem b_l_idle (T : Txt P K mg cl sp_ a d) : Binds K (d 19) ["_law_rows", "_law_looks_so"] [] := T.F_l_idle.binds (ps := ["_law_rows", "_law_looks_so"]) fun _ _ _ _ _ _ us hl => match us, hl with | [_, _], _ => rfl
theorem ok_l_idle (T : Txt P K mg cl sp_ a d) : FnOk P w K mg base CX0 2 (a 19) (d 19) ["_law_rows", "_law_looks_so"] (spM ⟨K, cl⟩ f_l_idle) :=
  fn_ok 5 2 (k := 1) T.F_l_idle sc_l_idle fun cdv A outer s H E hr =>
      (qss_cons (qs_for (qi_items (q_call (ok_l_ways T) (hr.mono (by omega)) (by rfl) T.g_l_ways T.F_l_ways.kp (b_l_ways T) (q_cons (q_var 0) q_nil) sp_pure)) (qg_name 2 sc_l_idle.nd) (qss_cons (qs_setLc 3 [("_law_look", 4)] false (qi_items (q_var 2)) sc_l_idle.nd (blkOk_by (N := N_l_idle) (sc := defScope s_l_idle) (by decide +kernel)) (fun _ _ _ _ _ => (qg_name 4 sc_l_idle.nd)) (fun _ _ _ _ _ => (ts_one (q_tcmp (inQ hr) (q_var 4) (q_var 1)))) (fun _ _ _ _ _ => (q_var 4)))
      (qss_one (qs_if (q_w (q_and (q_tcmp (eqQ hr) (q_var 3) (q_lst q_nil)) (q_and1 (q_not (q_test (q_call (ok_l_ring T) (hr.mono (by omega)) (by rfl) T.g_l_ring T.F_l_ring.kp (b_l_ring T) (q_cons (q_sortsetT hr (q_var 2) (by rfl) T.n_sorted (by rfl) T.n_set) (q_cons (q_var 1) q_nil)) sp_pure)))))) (qss_one (qs_ret q_bl)) qss_nil))))
      (qss_one (qs_ret q_bl)))
theorem b_l_due (T : Txt P K mg cl sp_ a d) : Binds K (d 20) ["_law_case", "_law_its"] [] := T.F_l_due.binds (ps := ["_law_case", "_law_its"]) fun _ _ _ _ _ _ us hl => match us, hl with | [_, _], _ => rfl
theorem ok_l_due (T : Txt P K mg cl sp_ a d) : FnOk P w K mg base CX0 3 (a 20) (d 20) ["_law_case", "_law_its"] (spM ⟨K, cl⟩ f_l_due) :=
  fn_ok 5 2 (k := 2) T.F_l_due sc_l_due fun cdv A outer s H E hr =>
      (qss_cons (qs_for (qi_items (q_tup (q_cons (q_tup (q_cons (q_var 0) (q_cons (q_var 1) q_nil))) (q_cons (q_tup (q_cons (q_var 1) (q_cons (q_var 0) q_nil))) q_nil)))) (qg_tup 2 (qgs_cons (qg_name 2 sc_l_due.nd) (qgs_cons (qg_name 3 sc_l_due.nd) qgs_nil))) (qss_one (qs_if (q_not (q_test (q_callB allQ (by rfl) T.n_all (by decide +kernel) (q_cons (q_lc [("_law_row_so", 4)] (qi_items (q_ix (q_var 3) q_int)) sc_l_due.nd (blkOk_by (N := N_l_due) (sc := defScope s_l_due) (by decide +kernel)) (fun _ _ _ _ _ => (qg_name 4 sc_l_due.nd)) (fun _ _ _ _ _ => (q_call (ok_l_idle T) (hr.mono (by omega)) (by rfl) T.g_l_idle T.F_l_idle.kp (b_l_idle T) (q_cons (q_ix (q_var 2) q_int) (q_cons (q_var 4) q_nil)) sp_pure))) q_nil)))) (qss_one (qs_ret q_bl)) qss_nil)))
      (qss_one (qs_ret q_bl)))
theorem b_l_lists (T : Txt P K mg cl sp_ a d) : Binds K (d 21) ["_law_matter"] [] := T.F_l_lists.binds (ps := ["_law_matter"]) fun _ _ _ _ _ _ us hl => match us, hl with | [_], _ => rfl
theorem ok_l_lists (T : Txt P K mg cl sp_ a d) (k : Nat) : FnOk P w K mg base CX0 (0 + k) (a 21) (d 21) ["_law_matter"] (spM ⟨K, cl⟩ (f_l_lists k)) := by
  induction k with
  | zero => exact fn_none
  | succ k ih =>
    exact fn_ok 2 1 (k := 0 + k) T.F_l_lists sc_l_lists fun cdv A outer s H E hr =>
      (qss_one (qs_ret (q_ifE (q_test (q_isi2 .list .tuple (q_var 0) (by rfl) T.n_isinstance (by rfl) T.n_list (by decide +kernel) (by rfl) T.n_tuple (by decide +kernel))) (q_lc [("_law_bit", 1)] (qi_items (q_var 0)) sc_l_lists.nd (blkOk_by (N := N_l_lists) (sc := defScope s_l_lists) (by decide +kernel)) (fun _ _ _ _ _ => (qg_name 1 sc_l_lists.nd)) (fun _ _ _ _ _ => (q_call ih (hr.mono (by omega)) (by rfl) T.g_l_lists T.F_l_lists.kp (b_l_lists T) (q_cons (q_var 1) q_nil) sp_pure))) (q_var 0))))
theorem b_l_above (T : Txt P K mg cl sp_ a d) : Binds K (d 22) ["_law_limit_so", "_law_minute"] [] := T.F_l_above.binds (ps := ["_law_limit_so", "_law_minute"]) fun _ _ _ _ _ _ us hl => match us, hl with | [_, _], _ => rfl
theorem ok_l_above (T : Txt P K mg cl sp_ a d) : FnOk P w K mg base CX0 1 (a 22) (d 22) ["_law_limit_so", "_law_minute"] (spM ⟨K, cl⟩ f_l_above) :=
  fn_ok 2 2 (k := 0) T.F_l_above sc_l_above fun cdv A outer s H E hr =>
      (qss_one (qs_ret (q_cmp gtI (q_op mulQ (q_ix (q_var 0) q_int) (q_ix (q_var 1) q_int)) (q_op mulQ (q_ix (q_var 0) q_int) (q_op addQ (q_ix (q_var 1) q_int) (q_ix (q_var 1) q_int))))))
theorem b_l_calls (T : Txt P K mg cl sp_ a d) : Binds K (d 23) ["_law_log_so", "_law_span"] [] := T.F_l_calls.binds (ps := ["_law_log_so", "_law_span"]) fun _ _ _ _ _ _ us hl => match us, hl with | [_, _], _ => rfl
theorem ok_l_calls (T : Txt P K mg cl sp_ a d) : FnOk P w K mg base CX0 1 (a 23) (d 23) ["_law_log_so", "_law_span"] (spM ⟨K, cl⟩ f_l_calls) :=
  fn_ok 4 2 (k := 0) T.F_l_calls sc_l_calls fun cdv A outer s H E hr =>
      (qss_cons (qs_set 2 (q_sl (q_var 0) (q_soO (q_ix (q_var 1) q_int)) (q_soO (q_ix (q_var 1) q_int))) sc_l_calls.nd)
      (qss_one (qs_ret (q_tup (q_cons (q_callB sumQ (by rfl) T.n_sum (by decide +kernel) (q_cons (q_lc [("_law_minute", 3)] (qi_items (q_var 2)) sc_l_calls.nd (blkOk_by (N := N_l_calls) (sc := defScope s_l_calls) (by decide +kernel)) (fun _ _ _ _ _ => (qg_name 3 sc_l_calls.nd)) (fun _ _ _ _ _ => (q_ix (q_var 3) q_int))) q_nil)) (q_cons (q_callB sumQ (by rfl) T.n_sum (by decide +kernel) (q_cons (q_lc [("_law_minute", 3)] (qi_items (q_var 2)) sc_l_calls.nd (blkOk_by (N := N_l_calls) (sc := defScope s_l_calls) (by decide +kernel)) (fun _ _ _ _ _ => (qg_name 3 sc_l_calls.nd)) (fun _ _ _ _ _ => (q_ix (q_var 3) q_int))) q_nil)) q_nil))))))
theorem b_l_off (T : Txt P K mg cl sp_ a d) : Binds K (d 24) ["_law_case", "_law_log_so"] [] := T.F_l_off.binds (ps := ["_law_case", "_law_log_so"]) fun _ _ _ _ _ _ us hl => match us, hl with | [_, _], _ => rfl
theorem ok_l_off (T : Txt P K mg cl sp_ a d) : FnOk P w K mg base CX0 2 (a 24) (d 24) ["_law_case", "_law_log_so"] (spM ⟨K, cl⟩ f_l_off) :=
  fn_ok 5 2 (k := 1) T.F_l_off sc_l_off fun cdv A outer s H E hr =>
      (qss_cons (qs_set 2 (q_cell q_nil) sc_l_off.nd)
      (qss_cons (qs_for (qi_items (q_ix (q_var 0) q_int)) (qg_name 3 sc_l_off.nd) (qss_one (qs_if (q_test (q_callB allQ (by rfl) T.n_all (by decide +kernel) (q_cons (q_lc [("_law_look", 4)] (qi_items (q_var 3)) sc_l_off.nd (blkOk_by (N := N_l_off) (sc := defScope s_l_off) (by decide +kernel)) (fun _ _ _ _ _ => (qg_name 4 sc_l_off.nd)) (fun _ _ _ _ _ => (q_call (ok_l_above T) (hr.mono (by omega)) (by rfl) T.g_l_above T.F_l_above.kp (b_l_above T) (q_cons (q_ix (q_var 0) q_int) (q_cons (q_call (ok_l_calls T) (hr.mono (by omega)) (by rfl) T.g_l_calls T.F_l_calls.kp (b_l_calls T) (q_cons (q_var 1) (q_cons (q_var 4) q_nil)) sp_pure) q_nil)) sp_pure))) q_nil))) (qss_one (qs_expr (q_app (q_var 2) (q_var 3)))) qss_nil)))
      (qss_one (qs_ret (q_frz (q_var 2))))))
theorem b_l_pair_right (T : Txt P K mg cl sp_ a d) : Binds K (d 25) ["_law_case", "_law_its"] [] := T.F_l_pair_right.binds (ps := ["_law_case", "_law_its"]) fun _ _ _ _ _ _ us hl => match us, hl with | [_, _], _ => rfl
theorem ok_l_pair_right (T : Txt P K mg cl sp_ a d) : FnOk P w K mg base CX0 39 (a 25) (d 25) ["_law_case", "_law_its"] (spM ⟨K, cl⟩ f_l_pair_right) :=
  fn_ok 6 2 (k := 38) T.F_l_pair_right sc_l_pair_right fun cdv A outer s H E hr =>
      (qss_cons (qs_par 2 3 sc_l_pair_right.nd (q_cons (q_call (ok_l_due T) (hr.mono (by omega)) (by rfl) T.g_l_due T.F_l_due.kp (b_l_due T) (q_cons (q_var 0) (q_cons (q_var 1) q_nil)) sp_pure) (q_cons (q_lst (q_cons (q_call (ok_l_lists T 30) (hr.mono (by omega)) (by rfl) T.g_l_lists T.F_l_lists.kp (b_l_lists T) (q_cons (q_var 0) q_nil) sp_pure) (q_cons (q_call (ok_l_lists T 30) (hr.mono (by omega)) (by rfl) T.g_l_lists T.F_l_lists.kp (b_l_lists T) (q_cons (q_var 1) q_nil) sp_pure) q_nil))) q_nil)))
      (qss_cons (qs_set 4 (q_cell (q_cons (q_call (ok_p_alike_alarms T) (hr.mono (by omega)) (by rfl) T.g_p_alike_alarms T.F_p_alike_alarms.kp (b_p_alike_alarms T) (q_cons (q_var 0) (q_cons (q_var 1) q_nil)) sp_pure) (q_cons (q_callK0 (ok_p_alike_alarms T) (hr.mono (by omega)) (by rfl) T.g_p_alike_alarms T.F_p_alike_alarms.kp (kbn T.F_p_alike_alarms 0 [1, 0] (ks := ["other", "alarms"]) (ps := ["alarms", "other"]) fun _ _ _ _ _ _ us ws h1 h2 => match us, ws, h1, h2 with | [], [_, _], _, _ => rfl) (qk_cons (q_ix (q_var 3) q_int) (qk_cons (q_ix (q_var 3) q_int) qk_nil)) sp_pure) (q_cons (q_call (ok_p_alike_alarms T) (hr.mono (by omega)) (by rfl) T.g_p_alike_alarms T.F_p_alike_alarms.kp (b_p_alike_alarms T) (q_cons (q_var 1) (q_cons (q_var 0) q_nil)) sp_pure) q_nil)))) sc_l_pair_right.nd)
      (qss_cons (qs_if (q_not (q_test (q_call (ok_l_same T 30) (hr.mono (by omega)) (by rfl) T.g_l_same T.F_l_same.kp (b_l_same T) (q_cons (q_frz (q_var 4)) (q_cons (q_op mulQ (q_lst (q_cons (q_var 2) q_nil)) q_int) q_nil)) sp_pure))) (qss_one (qs_ret q_bl)) qss_nil)
      (qss_cons (qs_set 4 (q_cell (q_cons (q_call (ok_p_parting_alarms T) (hr.mono (by omega)) (by rfl) T.g_p_parting_alarms T.F_p_parting_alarms.kp (b_p_parting_alarms T) (q_cons (q_var 0) (q_cons (q_var 1) q_nil)) sp_pure) (q_cons (q_call (ok_p_parting_alarms T) (hr.mono (by omega)) (by rfl) T.g_p_parting_alarms T.F_p_parting_alarms.kp (b_p_parting_alarms T) (q_cons (q_var 1) (q_cons (q_var 0) q_nil)) sp_pure) q_nil))) sc_l_pair_right.nd)
      (qss_cons (qs_expr (q_app (q_var 4) (q_callK0 (ok_p_parting_alarms T) (hr.mono (by omega)) (by rfl) T.g_p_parting_alarms T.F_p_parting_alarms.kp (kbn T.F_p_parting_alarms 0 [1, 0] (ks := ["other", "alarms"]) (ps := ["alarms", "other"]) fun _ _ _ _ _ _ us ws h1 h2 => match us, ws, h1, h2 with | [], [_, _], _, _ => rfl) (qk_cons (q_ix (q_var 3) q_int) (qk_cons (q_ix (q_var 3) q_int) qk_nil)) sp_pure)))
      (qss_cons (qs_for (qi_items (q_frz (q_var 4))) (qg_name 5 sc_l_pair_right.nd) (qss_cons (qs_if (q_tcmp (neQ hr) (q_isN (q_var 5)) (q_var 2)) (qss_one (qs_ret q_bl)) qss_nil)
      (qss_one (qs_if (q_tnotN (q_var 5)) (qss_cons (qs_if (q_w (q_or (q_not (q_test (q_isi .tuple (q_var 5) (by rfl) T.n_isinstance (by rfl) T.n_tuple (by decide +kernel)))) (q_or1 (q_tcmp (neQ hr) (q_callB lenQ (by rfl) T.n_len (by decide +kernel) (q_cons (q_var 5) q_nil)) (q_ix (q_var 0) q_int))))) (qss_one (qs_ret q_bl)) qss_nil)
      (qss_one (qs_if (q_tcmp (eqQ hr) (q_cmp (eqQ hr) (q_call (ok_l_off T) (hr.mono (by omega)) (by rfl) T.g_l_off T.F_l_off.kp (b_l_off T) (q_cons (q_var 0) (q_cons (q_var 5) q_nil)) sp_pure) (q_lst q_nil)) (q_cmp (eqQ hr) (q_call (ok_l_off T) (hr.mono (by omega)) (by rfl) T.g_l_off T.F_l_off.kp (b_l_off T) (q_cons (q_var 1) (q_cons (q_var 5) q_nil)) sp_pure) (q_lst q_nil))) (qss_one (qs_ret q_bl)) qss_nil))) qss_nil))))
      (qss_one (qs_ret (q_cmp (eqQ hr) (q_var 3) (q_lst (q_cons (q_call (ok_l_lists T 30) (hr.mono (by omega)) (by rfl) T.g_l_lists T.F_l_lists.kp (b_l_lists T) (q_cons (q_var 0) q_nil) sp_pure) (q_cons (q_call (ok_l_lists T 30) (hr.mono (by omega)) (by rfl) T.g_l_lists T.F_l_lists.kp (b_l_lists T) (q_cons (q_var 1) q_nil) sp_pure) q_nil))))))))))))
theorem b_l_by_hand_right (T : Txt P K mg cl sp_ a d) : Binds K (d 26) [] [] := T.F_l_by_hand_right.binds (ps := []) fun _ _ _ _ _ _ us hl => match us, hl with | [], _ => rfl
theorem ok_l_by_hand_right (T : Txt P K mg cl sp_ a d) : FnOk P w K mg base CX0 40 (a 26) (d 26) [] (spM ⟨K, cl⟩ f_l_by_hand_right) :=
  fn_ok 6 0 (k := 39) T.F_l_by_hand_right sc_l_by_hand_right fun cdv A outer s H E hr =>
      (qss_cons (qs_set 0 (q_tup (q_cons q_int (q_cons (q_tup (q_cons q_int (q_cons q_int q_nil))) (q_cons (q_tup (q_cons (q_tup (q_cons (q_tup (q_cons q_int (q_cons q_int q_nil))) q_nil)) (q_cons (q_tup (q_cons (q_tup (q_cons q_int (q_cons q_int q_nil))) (q_cons (q_tup (q_cons q_int (q_cons q_int q_nil))) q_nil))) q_nil))) q_nil)))) sc_l_by_hand_right.nd)
      (qss_cons (qs_set 1 (q_tup (q_cons q_int (q_cons (q_tup (q_cons q_int (q_cons q_int q_nil))) (q_cons (q_tup (q_cons (q_tup (q_cons (q_tup (q_cons q_int (q_cons q_int q_nil))) q_nil)) (q_cons (q_tup (q_cons (q_tup (q_cons q_int (q_cons q_int q_nil))) q_nil)) q_nil))) q_nil)))) sc_l_by_hand_right.nd)
      (qss_cons (qs_set 2 (q_lst (q_cons (q_tup (q_cons (q_var 0) (q_cons (q_tup (q_cons q_int (q_cons (q_tup (q_cons q_int (q_cons q_int q_nil))) (q_cons (q_tup (q_cons (q_tup (q_cons (q_tup (q_cons q_int (q_cons q_int q_nil))) q_nil)) (q_cons (q_tup (q_cons (q_tup (q_cons q_int (q_cons q_int q_nil))) q_nil)) q_nil))) q_nil)))) (q_cons q_bl q_nil)))) (q_cons (q_tup (q_cons (q_var 0) (q_cons (q_tup (q_cons q_int (q_cons (q_tup (q_cons q_int (q_cons q_int q_nil))) (q_cons (q_tup (q_cons (q_tup (q_cons (q_tup (q_cons q_int (q_cons q_int q_nil))) q_nil)) (q_cons (q_tup (q_cons (q_tup (q_cons q_int (q_cons q_int q_nil))) q_nil)) q_nil))) q_nil)))) (q_cons q_bl q_nil)))) q_nil))) sc_l_by_hand_right.nd)
      (qss_cons (qs_set 2 (q_op addQ (q_var 2) (q_lst (q_cons (q_tup (q_cons (q_var 0) (q_cons (q_var 1) (q_cons q_bl q_nil)))) (q_cons (q_tup (q_cons (q_var 0) (q_cons (q_var 0) (q_cons q_bl q_nil)))) (q_cons (q_tup (q_cons (q_tup (q_cons q_int (q_cons (q_tup (q_cons q_int (q_cons q_int q_nil))) (q_cons (q_tup q_nil) q_nil)))) (q_cons (q_tup (q_cons q_int (q_cons (q_tup (q_cons q_int (q_cons q_int q_nil))) (q_cons (q_tup q_nil) q_nil)))) (q_cons q_bl q_nil)))) q_nil))))) sc_l_by_hand_right.nd)
      (qss_cons (qs_set 2 (q_op addQ (q_var 2) (q_lst (q_cons (q_tup (q_cons (q_var 1) (q_cons (q_tup (q_cons q_int (q_cons (q_tup (q_cons q_int (q_cons q_int q_nil))) (q_cons (q_tup (q_cons (q_tup (q_cons (q_tup (q_cons q_int (q_cons q_int q_nil))) (q_cons (q_tup (q_cons q_int (q_cons q_int q_nil))) q_nil))) (q_cons (q_tup (q_cons (q_tup (q_cons q_int (q_cons q_int q_nil))) q_nil)) (q_cons (q_tup (q_cons (q_tup (q_cons q_int (q_cons q_int q_nil))) q_nil)) q_nil)))) q_nil)))) (q_cons q_bl q_nil)))) q_nil))) sc_l_by_hand_right.nd)
      (qss_cons (qs_set 2 (q_op addQ (q_var 2) (q_lst (q_cons (q_tup (q_cons (q_var 1) (q_cons (q_tup (q_cons q_int (q_cons (q_tup (q_cons q_int (q_cons q_int q_nil))) (q_cons (q_tup (q_cons (q_tup (q_cons (q_tup (q_cons q_int (q_cons q_int q_nil))) (q_cons (q_tup (q_cons q_int (q_cons q_int q_nil))) q_nil))) (q_cons (q_tup (q_cons (q_tup (q_cons q_int (q_cons q_int q_nil))) q_nil)) q_nil))) q_nil)))) (q_cons q_bl q_nil)))) q_nil))) sc_l_by_hand_right.nd)
      (qss_cons (qs_for (qi_items (q_var 2)) (qg_tup 3 (qgs_cons (qg_name 3 sc_l_by_hand_right.nd) (qgs_cons (qg_name 4 sc_l_by_hand_right.nd) (qgs_cons (qg_name 5 sc_l_by_hand_right.nd) qgs_nil)))) (qss_one (qs_if (q_w (q_or (q_not (q_test (q_call (ok_l_same T 30) (hr.mono (by omega)) (by rfl) T.g_l_same T.F_l_same.kp (b_l_same T) (q_cons (q_call (ok_p_alike_alarms T) (hr.mono (by omega)) (by rfl) T.g_p_alike_alarms T.F_p_alike_alarms.kp (b_p_alike_alarms T) (q_cons (q_var 3) (q_cons (q_var 4) q_nil)) sp_pure) (q_cons (q_var 5) q_nil)) sp_pure))) (q_or1 (q_not (q_test (q_call (ok_l_pair_right T) (hr.mono (by omega)) (by rfl) T.g_l_pair_right T.F_l_pair_right.kp (b_l_pair_right T) (q_cons (q_var 3) (q_cons (q_var 4) q_nil)) sp_pure)))))) (qss_one (qs_ret q_bl)) qss_nil)))
      (qss_cons (qs_if (q_w (q_or (q_not (q_test (q_call (ok_l_refused T) (hr.mono (by omega)) (by rfl) T.g_l_refused T.F_l_refused.kp (b_l_refused T) (q_cons (q_var 0) (q_cons (q_op addQ (q_tup (q_cons q_int q_nil)) (q_sl (q_var 0) (q_soO q_int) q_noO)) q_nil)) sp_pure))) (q_or1 (q_not (q_test (q_call (ok_l_refused T) (hr.mono (by omega)) (by rfl) T.g_l_refused T.F_l_refused.kp (b_l_refused T) (q_cons (q_var 0) (q_cons (q_tup (q_cons q_int (q_cons (q_tup (q_cons q_int (q_cons q_int q_nil))) (q_cons (q_ix (q_var 0) q_int) q_nil)))) q_nil)) sp_pure)))))) (qss_one (qs_ret q_bl)) qss_nil)
      (qss_one (qs_ret (q_call (ok_l_refused T) (hr.mono (by omega)) (by rfl) T.g_l_refused T.F_l_refused.kp (b_l_refused T) (q_cons (q_var 1) (q_cons (q_tup (q_cons q_int (q_cons (q_tup (q_cons q_int (q_cons q_int q_nil))) (q_cons (q_tup q_nil) q_nil)))) q_nil)) sp_pure)))))))))))
theorem b_l_take (T : Txt P K mg cl sp_ a d) : Binds K (d 27) ["_law_box_here", "_law_below"] [] := T.F_l_take.binds (ps := ["_law_box_here", "_law_below"]) fun _ _ _ _ _ _ us hl => match us, hl with | [_, _], _ => rfl
theorem ok_l_take (T : Txt P K mg cl sp_ a d) : FnOk P w K mg base CX0 1 (a 27) (d 27) ["_law_box_here", "_law_below"] (spM ⟨K, cl⟩ f_l_take) :=
  fn_ok 6 2 (k := 0) T.F_l_take sc_l_take fun cdv A outer s H E hr =>
      (qss_cons (qs_if (q_tcmp gtI (q_ix (q_var 0) q_int) q_int) (qss_cons (qs_set 2 (q_op modI (q_callTy intQ (by rfl) T.n_int (by decide +kernel) (q_cons (q_ix (q_var 0) q_int) q_nil)) (q_var 1)) sc_l_take.nd)
      (qss_cons (qs_asg (q_op divI (q_ix (q_var 0) q_int) (q_var 1)) (qg_sub (q_var 0) q_int))
      (qss_one (qs_ret (q_var 2))))) qss_nil)
      (qss_cons (qs_asg (q_op addQ (q_ix (q_var 0) q_int) q_int) (qg_sub (q_var 0) q_int))
      (qss_cons (qs_set 3 (q_op modI (q_callTy intQ (by rfl) T.n_int (by decide +kernel) (q_cons (q_op mulQ (q_op addQ (q_ix (q_var 0) q_int) (q_op mulQ q_int (q_ix (q_var 0) q_int))) (q_op addQ q_int (q_ix (q_var 0) q_int))) q_nil)) q_int) sc_l_take.nd)
      (qss_cons (qs_set 4 (q_op addQ (q_op modI (q_callTy intQ (by rfl) T.n_int (by decide +kernel) (q_cons (q_var 3) q_nil)) q_int) q_int) sc_l_take.nd)
      (qss_cons (qs_set 5 (q_op modI (q_callTy intQ (by rfl) T.n_int (by decide +kernel) (q_cons (q_op mulQ (q_op addQ (q_op addQ (q_var 3) (q_ix (q_var 0) q_int)) (q_op divI (q_ix (q_var 0) q_int) q_int)) (q_var 4)) q_nil)) q_int) sc_l_take.nd)
      (qss_one (qs_ret (q_op modI (q_callTy intQ (by rfl) T.n_int (by decide +kernel) (q_cons (q_op divI (q_op modI (q_callTy intQ (by rfl) T.n_int (by decide +kernel) (q_cons (q_op addQ (q_op mulQ (q_var 5) q_int) (q_var 3)) q_nil)) q_int) q_int) q_nil)) (q_var 1)))))))))
theorem b_l_of (T : Txt P K mg cl sp_ a d) : Binds K (d 28) ["_law_box_here", "_law_some"] [] := T.F_l_of.binds (ps := ["_law_box_here", "_law_some"]) fun _ _ _ _ _ _ us hl => match us, hl with | [_, _], _ => rfl
theorem ok_l_of (T : Txt P K mg cl sp_ a d) : FnOk P w K mg base CX0 2 (a 28) (d 28) ["_law_box_here", "_law_some"] (spM ⟨K, cl⟩ f_l_of) :=
  fn_ok 2 2 (k := 1) T.F_l_of sc_l_of fun cdv A outer s H E hr =>
      (qss_one (qs_ret (q_ix (q_var 1) (q_call (ok_l_take T) (hr.mono (by omega)) (by rfl) T.g_l_take T.F_l_take.kp (b_l_take T) (q_cons (q_var 0) (q_cons (q_callB lenQ (by rfl) T.n_len (by decide +kernel) (q_cons (q_var 1) q_nil)) q_nil)) sp_call))))
theorem b_l_alarm (T : Txt P K mg cl sp_ a d) : Binds K (d 29) ["_law_box_here", "_law_many", "_law_most_so"] [] := T.F_l_alarm.binds (ps := ["_law_box_here", "_law_many", "_law_most_so"]) fun _ _ _ _ _ _ us hl => match us, hl with | [_, _, _], _ => rfl
theorem ok_l_alarm (T : Txt P K mg cl sp_ a d) : FnOk P w K mg base CX0 3 (a 29) (d 29) ["_law_box_here", "_law_many", "_law_most_so"] (spM ⟨K, cl⟩ f_l_alarm) :=
  fn_ok 7 3 (k := 2) T.F_l_alarm sc_l_alarm fun cdv A outer s H E hr =>
      (qss_cons (qs_par 3 4 sc_l_alarm.nd (q_cons (q_cell q_nil) (q_cons (q_call (ok_l_of T) (hr.mono (by omega)) (by rfl) T.g_l_of T.F_l_of.kp (b_l_of T) (q_cons (q_var 0) (q_cons (q_lst (q_cons q_int (q_cons q_int (q_cons q_int (q_cons (q_var 1) q_nil))))) q_nil)) sp_call) q_nil)))
      (qss_cons (qs_for (qi_range1 (q_op addQ q_int (q_call (ok_l_take T) (hr.mono (by omega)) (by rfl) T.g_l_take T.F_l_take.kp (b_l_take T) (q_cons (q_var 0) (q_cons (q_var 2) q_nil)) sp_call)) (by rfl) T.n_range) (qg_name 5 sc_l_alarm.nd) (qss_cons (qs_set 6 (q_call (ok_l_take T) (hr.mono (by omega)) (by rfl) T.g_l_take T.F_l_take.kp (b_l_take T) (q_cons (q_var 0) (q_cons (q_var 1) q_nil)) sp_call) sc_l_alarm.nd)
      (qss_one (qs_expr (q_app (q_var 3) (q_tup (q_cons (q_var 6) (q_cons (q_callB min2Q (by rfl) T.n_min (by decide +kernel) (q_cons (q_var 1) (q_cons (q_op addQ (q_op addQ (q_var 6) q_int) (q_call (ok_l_take T) (hr.mono (by omega)) (by rfl) T.g_l_take T.F_l_take.kp (b_l_take T) (q_cons (q_var 0) (q_cons (q_var 4) q_nil)) sp_call)) q_nil))) q_nil))))))))
      (qss_one (qs_ret (q_callTy tupleQ (by rfl) T.n_tuple (by decide +kernel) (q_cons (q_sortset hr (q_frz (q_var 3)) (by rfl) T.n_sorted (by rfl) T.n_set) q_nil))))))
theorem b_l_limit (T : Txt P K mg cl sp_ a d) : Binds K (d 30) ["_law_box_here"] [] := T.F_l_limit.binds (ps := ["_law_box_here"]) fun _ _ _ _ _ _ us hl => match us, hl with | [_], _ => rfl
theorem ok_l_limit (T : Txt P K mg cl sp_ a d) : FnOk P w K mg base CX0 3 (a 30) (d 30) ["_law_box_here"] (spM ⟨K, cl⟩ f_l_limit) :=
  fn_ok 2 1 (k := 2) T.F_l_limit sc_l_limit fun cdv A outer s H E hr =>
      (qss_cons (qs_set 1 (q_call (ok_l_take T) (hr.mono (by omega)) (by rfl) T.g_l_take T.F_l_take.kp (b_l_take T) (q_cons (q_var 0) (q_cons q_int q_nil)) sp_call) sc_l_limit.nd)
      (qss_cons (qs_if (q_tcmp (eqQ hr) (q_var 1) q_int) (qss_one (qs_ret (q_tup (q_cons (q_op addQ q_int (q_call (ok_l_take T) (hr.mono (by omega)) (by rfl) T.g_l_take T.F_l_take.kp (b_l_take T) (q_cons (q_var 0) (q_cons (q_op powI q_int q_int) q_nil)) sp_call)) (q_cons (q_op addQ (q_op addQ (q_op powI q_int q_int) q_int) (q_call (ok_l_take T) (hr.mono (by omega)) (by rfl) T.g_l_take T.F_l_take.kp (b_l_take T) (q_cons (q_var 0) (q_cons (q_op powI q_int q_int) q_nil)) sp_call)) q_nil))))) qss_nil)
      (qss_cons (qs_if (q_tcmp (eqQ hr) (q_var 1) q_int) (qss_one (qs_ret (q_tup (q_cons (q_op addQ q_int (q_op mulQ (q_call (ok_l_take T) (hr.mono (by omega)) (by rfl) T.g_l_take T.F_l_take.kp (b_l_take T) (q_cons (q_var 0) (q_cons q_int q_nil)) sp_call) q_int)) (q_cons q_int q_nil))))) qss_nil)
      (qss_one (qs_ret (q_call (ok_l_of T) (hr.mono (by omega)) (by rfl) T.g_l_of T.F_l_of.kp (b_l_of T) (q_cons (q_var 0) (q_cons (q_lst (q_cons (q_tup (q_cons q_int (q_cons q_int q_nil))) (q_cons (q_tup (q_cons q_int (q_cons q_int q_nil))) (q_cons (q_tup (q_cons q_int (q_cons q_int q_nil))) (q_cons (q_tup (q_cons q_int (q_cons q_int q_nil))) (q_cons (q_tup (q_cons q_int (q_cons q_int q_nil))) (q_cons (q_tup (q_cons q_int (q_cons q_int q_nil))) q_nil))))))) q_nil)) sp_call))))))
theorem b_l_alarms (T : Txt P K mg cl sp_ a d) : Binds K (d 31) ["_law_box_here", "_law_most_minutes", "_law_most_alarms", "_law_most_looks", "_law_most_ways"] [] := T.F_l_alarms.binds (ps := ["_law_box_here", "_law_most_minutes", "_law_most_alarms", "_law_most_looks", "_law_most_ways"]) fun _ _ _ _ _ _ us hl => match us, hl with | [_, _, _, _, _], _ => rfl
theorem ok_l_alarms (T : Txt P K mg cl sp_ a d) : FnOk P w K mg base CX0 4 (a 31) (d 31) ["_law_box_here", "_law_most_minutes", "_law_most_alarms", "_law_most_looks", "_law_most_ways"] (spM ⟨K, cl⟩ f_l_alarms) :=
  fn_ok 10 5 (k := 3) T.F_l_alarms sc_l_alarms fun cdv A outer s H E hr =>
      (qss_cons (qs_par3 5 6 7 sc_l_alarms.nd (q_cons (q_op addQ q_int (q_call (ok_l_take T) (hr.mono (by omega)) (by rfl) T.g_l_take T.F_l_take.kp (b_l_take T) (q_cons (q_var 0) (q_cons (q_var 1) q_nil)) sp_call)) (q_cons (q_cell q_nil) (q_cons q_int q_nil))))
      (qss_cons (qs_for (qi_range1 (q_call (ok_l_take T) (hr.mono (by omega)) (by rfl) T.g_l_take T.F_l_take.kp (b_l_take T) (q_cons (q_var 0) (q_cons (q_op addQ (q_var 2) q_int) q_nil)) sp_call) (by rfl) T.n_range) (qg_name 8 sc_l_alarms.nd) (qss_cons (qs_set 9 (q_call (ok_l_alarm T) (hr.mono (by omega)) (by rfl) T.g_l_alarm T.F_l_alarm.kp (b_l_alarm T) (q_cons (q_var 0) (q_cons (q_var 5) (q_cons (q_var 3) q_nil))) sp_call) sc_l_alarms.nd)
      (qss_one (qs_if (q_w (q_and (q_tcmp (ninQ hr) (q_var 9) (q_var 6)) (q_and1 (q_tcmp leI (q_op mulQ (q_var 7) (q_callB lenQ (by rfl) T.n_len (by decide +kernel) (q_cons (q_var 9) q_nil))) (q_var 4))))) (qss_cons (qs_expr (q_app (q_var 6) (q_var 9)))
      (qss_one (qs_set 7 (q_op mulQ (q_var 7) (q_callB lenQ (by rfl) T.n_len (by decide +kernel) (q_cons (q_var 9) q_nil))) sc_l_alarms.nd))) qss_nil))))
      (qss_one (qs_ret (q_tup (q_cons (q_var 5) (q_cons (q_call (ok_l_limit T) (hr.mono (by omega)) (by rfl) T.g_l_limit T.F_l_limit.kp (b_l_limit T) (q_cons (q_var 0) q_nil) sp_call) (q_cons (q_callTy tupleQ (by rfl) T.n_tuple (by decide +kernel) (q_cons (q_sortA hr (q_var 6) (by rfl) T.n_sorted) q_nil)) q_nil))))))))
theorem b_l_varied (T : Txt P K mg cl sp_ a d) : Binds K (d 32) ["_law_box_here", "_law_case"] [] := T.F_l_varied.binds (ps := ["_law_box_here", "_law_case"]) fun _ _ _ _ _ _ us hl => match us, hl with | [_, _], _ => rfl
theorem ok_l_varied (T : Txt P K mg cl sp_ a d) : FnOk P w K mg base CX0 4 (a 32) (d 32) ["_law_box_here", "_law_case"] (spM ⟨K, cl⟩ f_l_varied) :=
  fn_ok 10 2 (k := 3) T.F_l_varied sc_l_varied fun cdv A outer s H E hr =>
      (qss_cons (qs_asg (q_var 1) (qg_tup 3 (qgs_cons (qg_name 2 sc_l_varied.nd) (qgs_cons (qg_name 3 sc_l_varied.nd) (qgs_cons (qg_name 4 sc_l_varied.nd) qgs_nil)))))
      (qss_cons (qs_asg (q_tup (q_cons (q_call (ok_l_take T) (hr.mono (by omega)) (by rfl) T.g_l_take T.F_l_take.kp (b_l_take T) (q_cons (q_var 0) (q_cons q_int q_nil)) sp_call) (q_cons (q_call (ok_l_alarm T) (hr.mono (by omega)) (by rfl) T.g_l_alarm T.F_l_alarm.kp (b_l_alarm T) (q_cons (q_var 0) (q_cons (q_var 2) (q_cons q_int q_nil))) sp_call) (q_cons (q_tup q_nil) q_nil)))) (qg_tup 3 (qgs_cons (qg_name 5 sc_l_varied.nd) (qgs_cons (qg_name 6 sc_l_varied.nd) (qgs_cons (qg_name 7 sc_l_varied.nd) qgs_nil)))))
      (qss_cons (qs_if (q_tcmp (eqQ hr) (q_var 5) q_int) (qss_one (qs_ret (q_tup (q_cons (q_var 2) (q_cons (q_tup (q_cons (q_op mulQ q_int (q_ix (q_var 3) q_int)) (q_cons (q_op mulQ q_int (q_ix (q_var 3) q_int)) q_nil))) (q_cons (q_var 4) q_nil)))))) qss_nil)
      (qss_cons (qs_if (q_tcmp (neQ hr) (q_var 4) (q_tup q_nil)) (qss_one (qs_set 7 (q_call (ok_l_of T) (hr.mono (by omega)) (by rfl) T.g_l_of T.F_l_of.kp (b_l_of T) (q_cons (q_var 0) (q_cons (q_var 4) q_nil)) sp_call) sc_l_varied.nd)) qss_nil)
      (qss_cons (qs_setLc 8 [("_law_own", 9)] false (qi_items (q_var 4)) sc_l_varied.nd (blkOk_by (N := N_l_varied) (sc := defScope s_l_varied) (by decide +kernel)) (fun _ _ _ _ _ => (qg_name 9 sc_l_varied.nd)) (fun _ _ _ _ _ => (ts_one (q_tcmp (neQ hr) (q_var 9) (q_var 7)))) (fun _ _ _ _ _ => (q_var 9)))
      (qss_cons (qs_if (q_tcmp (eqQ hr) (q_var 5) q_int) (qss_one (qs_ret (q_tup (q_cons (q_var 2) (q_cons (q_var 3) (q_cons (q_callTy tupleQ (by rfl) T.n_tuple (by decide +kernel) (q_cons (q_var 8) q_nil)) q_nil)))))) qss_nil)
      (qss_cons (qs_if (q_w (q_and (q_tcmp (eqQ hr) (q_var 5) q_int) (q_and1 (q_tcmp (neQ hr) (q_var 7) (q_tup q_nil))))) (qss_one (qs_ret (q_tup (q_cons (q_var 2) (q_cons (q_var 3) (q_cons (q_callTy tupleQ (by rfl) T.n_tuple (by decide +kernel) (q_cons (q_sortsetNL hr (q_op addQ (q_var 8) (q_lst (q_cons (q_callTy tupleQ (by rfl) T.n_tuple (by decide +kernel) (q_cons (q_sortsetT hr (q_op addQ (q_var 7) (q_sl (q_var 6) q_noO (q_soO q_int))) (by rfl) T.n_sorted (by rfl) T.n_set) q_nil)) q_nil))) (by rfl) T.n_sorted (by rfl) T.n_set) q_nil)) q_nil)))))) qss_nil)
      (qss_cons (qs_if (q_w (q_and (q_tcmp (eqQ hr) (q_var 5) q_int) (q_and1 (q_tcmp gtI (q_callB lenQ (by rfl) T.n_len (by decide +kernel) (q_cons (q_var 7) q_nil)) q_int)))) (qss_one (qs_ret (q_tup (q_cons (q_var 2) (q_cons (q_var 3) (q_cons (q_callTy tupleQ (by rfl) T.n_tuple (by decide +kernel) (q_cons (q_sortsetNL hr (q_op addQ (q_var 8) (q_lst (q_cons (q_sl (q_var 7) (q_soO q_int) q_noO) q_nil))) (by rfl) T.n_sorted (by rfl) T.n_set) q_nil)) q_nil)))))) qss_nil)
      (qss_cons (qs_if (q_tcmp (eqQ hr) (q_var 5) q_int) (qss_one (qs_set 6 (q_sl (q_var 6) q_noO (q_soO q_int)) sc_l_varied.nd)) qss_nil)
      (qss_one (qs_ret (q_tup (q_cons (q_var 2) (q_cons (q_var 3) (q_cons (q_callTy tupleQ (by rfl) T.n_tuple (by decide +kernel) (q_cons (q_sortsetNL hr (q_op addQ (q_callTy listQ (by rfl) T.n_list (by decide +kernel) (q_cons (q_var 4) q_nil)) (q_lst (q_cons (q_var 6) q_nil))) (by rfl) T.n_sorted (by rfl) T.n_set) q_nil)) q_nil)))))))))))))))
theorem b_l_right (T : Txt P K mg cl sp_ a d) : Binds K (d 33) ["_law_box_here"] [] := T.F_l_right.binds (ps := ["_law_box_here"]) fun _ _ _ _ _ _ us hl => match us, hl with | [_], _ => rfl
theorem ok_l_right (T : Txt P K mg cl sp_ a d) : FnOk P w K mg base CX0 41 (a 33) (d 33) ["_law_box_here"] (spM ⟨K, cl⟩ f_l_right) :=
  fn_ok 7 1 (k := 40) T.F_l_right sc_l_right fun cdv A outer s H E hr =>
      (qss_cons (qs_if (q_not (q_test (q_call0 (ok_l_by_hand_right T) (hr.mono (by omega)) (by rfl) T.g_l_by_hand_right T.F_l_by_hand_right.kp (b_l_by_hand_right T) sp_pure))) (qss_one (qs_ret q_bl)) qss_nil)
      (qss_cons (qs_for (qi_range1 q_int (by rfl) T.n_range) (qg_name 1 sc_l_right.nd) (qss_cons (qs_set 2 (q_call (ok_l_alarms T) (hr.mono (by omega)) (by rfl) T.g_l_alarms T.F_l_alarms.kp (b_l_alarms T) (q_cons (q_var 0) (q_cons q_int (q_cons q_int (q_cons q_int (q_cons q_int q_nil))))) sp_call) sc_l_right.nd)
      (qss_cons (qs_set 3 (q_call (ok_l_varied T) (hr.mono (by omega)) (by rfl) T.g_l_varied T.F_l_varied.kp (b_l_varied T) (q_cons (q_var 0) (q_cons (q_var 2) q_nil)) sp_call) sc_l_right.nd)
      (qss_cons (qs_set 4 (q_ifE (q_tcmp (eqQ hr) (q_var 1) q_int) (q_call (ok_l_varied T) (hr.mono (by omega)) (by rfl) T.g_l_varied T.F_l_varied.kp (b_l_varied T) (q_cons (q_var 0) (q_cons (q_var 3) q_nil)) sp_call) (q_var 2)) sc_l_right.nd)
      (qss_cons (qs_if (q_w (q_or (q_not (q_test (q_call (ok_l_pair_right T) (hr.mono (by omega)) (by rfl) T.g_l_pair_right T.F_l_pair_right.kp (b_l_pair_right T) (q_cons (q_var 2) (q_cons (q_var 3) q_nil)) sp_pure))) (q_or1 (q_not (q_test (q_call (ok_l_pair_right T) (hr.mono (by omega)) (by rfl) T.g_l_pair_right T.F_l_pair_right.kp (b_l_pair_right T) (q_cons (q_var 3) (q_cons (q_var 4) q_nil)) sp_pure)))))) (qss_one (qs_ret q_bl)) qss_nil)
      (qss_cons (qs_asg (q_ix (q_var 2) q_int) (qg_tup 2 (qgs_cons (qg_name 5 sc_l_right.nd) (qgs_cons (qg_name 6 sc_l_right.nd) qgs_nil))))
      (qss_cons (qs_if (q_not (q_test (q_call (ok_l_refused T) (hr.mono (by omega)) (by rfl) T.g_l_refused T.F_l_refused.kp (b_l_refused T) (q_cons (q_var 2) (q_cons (q_op addQ (q_tup (q_cons (q_op addQ (q_ix (q_var 2) q_int) q_int) q_nil)) (q_sl (q_var 3) (q_soO q_int) q_noO)) q_nil)) sp_pure))) (qss_one (qs_ret q_bl)) qss_nil)
      (qss_one (qs_if (q_not (q_test (q_call (ok_l_refused T) (hr.mono (by omega)) (by rfl) T.g_l_refused T.F_l_refused.kp (b_l_refused T) (q_cons (q_var 2) (q_cons (q_tup (q_cons (q_ix (q_var 2) q_int) (q_cons (q_tup (q_cons (q_var 5) (q_cons (q_op addQ (q_var 6) q_int) q_nil))) (q_cons (q_ix (q_var 3) q_int) q_nil)))) q_nil)) sp_pure))) (qss_one (qs_ret q_bl)) qss_nil)))))))))
      (qss_one (qs_ret q_bl))))
theorem b_l_box (T : Txt P K mg cl sp_ a d) : Binds K (d 34) ["_law_script", "_law_k"] [] := T.F_l_box.binds (ps := ["_law_script", "_law_k"]) fun _ _ _ _ _ _ us hl => match us, hl with | [_, _], _ => rfl
theorem ok_l_box (T : Txt P K mg cl sp_ a d) : FnOk P w K mg base CX0 1 (a 34) (d 34) ["_law_script", "_law_k"] (spM ⟨K, cl⟩ f_l_box) :=
  fn_okC 3 2 (k := 0) T.F_l_box sc_l_box fun cdv A outer s H E hr =>
      (qss_cons (qs_set 2 (q_ifE (q_tcmp ltI (q_var 1) (q_callB lenQ (by rfl) T.n_len (by decide +kernel) (q_cons (q_var 0) q_nil))) (q_ix (q_var 0) (q_var 1)) q_int) sc_l_box.nd)
      (qss_one (qs_ret (q_cell (q_cons (q_op mulQ (q_callB absQ (by rfl) T.n_abs (by decide +kernel) (q_cons (q_var 2) q_nil)) (q_callTy intQ (by rfl) T.n_int (by decide +kernel) (q_cons (q_cmp geI (q_callB absQ (by rfl) T.n_abs (by decide +kernel) (q_cons (q_var 2) q_nil)) (q_op powI q_int q_int)) q_nil))) (q_cons (q_op addQ (q_op addQ (q_op modI (q_callTy intQ (by rfl) T.n_int (by decide +kernel) (q_cons (q_var 2) q_nil)) q_int) (q_op mulQ q_int (q_var 1))) q_int) (q_cons q_int q_nil)))))))
theorem ok_l_law (T : Txt P K mg cl sp_ a d) : FnOk P w K mg base CX0 42 (a 35) (d 35) ["_law_script"] (spM ⟨K, cl⟩ f_l_law) :=
  fn_ok 3 1 (k := 41) T.F_l_law sc_l_law fun cdv A outer s H E hr =>
      (qss_cons (qs_set 1 (q_call (ok_l_cells T) (hr.mono (by omega)) (by rfl) T.g_l_cells T.F_l_cells.kp (b_l_cells T) (q_cons (q_var 0) (q_cons q_int q_nil)) sp_pure) sc_l_law.nd)
      (qss_one (qs_ret (q_callB allQ (by rfl) T.n_all (by decide +kernel) (q_cons (q_lc [("_law_k", 2)] (qi_range1 (q_callB lenQ (by rfl) T.n_len (by decide +kernel) (q_cons (q_var 1) q_nil)) (by rfl) T.n_range) sc_l_law.nd (blkOk_by (N := N_l_law) (sc := defScope s_l_law) (by decide +kernel)) (fun _ _ _ _ _ => (qg_name 2 sc_l_law.nd)) (fun _ _ _ _ _ => (q_call (ok_l_right T) (hr.mono (by omega)) (by rfl) T.g_l_right T.F_l_right.kp (b_l_right T) (q_cons (q_call (ok_l_box T) (hr.mono (by omega)) (by rfl) T.g_l_box T.F_l_box.kp (b_l_box T) (q_cons (q_var 1) (q_cons (q_var 2) q_nil)) sp_call) q_nil) sp_call))) q_nil)))))
end
theorem factsR {P : Program} {w : World} {K : PySem.W.Frag} {h : Heap} {mg : Str → Option Value} {f : Addr} (X : K.In h) (G : h.Ns PySem.mainGlobals mg) (hfa : mg ("law" : Str) = some (.ref f)) (c : SaysQ fas fns K) (hPf : ((P.main.file : Str) == ("/claim/cut.py" : Str)) = true) (hPt : (P.main.scope.names.lookup ("super" : Str)).isSome = false) :
    ∃ fd : FuncData, (∀ (s : Shared) (v : Value), BindsTo s fd ⟨[v], []⟩ [("_law_script", v)]) ∧ ∀ base : Heap, K.In base → base.Ns PySem.mainGlobals mg → FnOk P w K mg base CX0 42 f fd ["_law_script"] (spLaw K) := by
  obtain ⟨fd0, F0⟩ := c.def_ 0 (d := ⟨.glo "_law_cells", "_law_cells", "_law_cells", s_l_cells⟩) rfl
  obtain ⟨fd1, F1⟩ := c.def_ 1 (d := ⟨.glo "tupled", "tupled", "tupled", s_p_tupled⟩) rfl
  obtain ⟨fd2, F2⟩ := c.def_ 2 (d := ⟨.glo "choices", "choices", "choices", s_p_choices⟩) rfl
  obtain ⟨fd3, F3⟩ := c.def_ 3 (d := ⟨.glo "agree", "agree", "agree", s_p_agree⟩) rfl
  obtain ⟨fd4, F4⟩ := c.def_ 4 (d := ⟨.glo "turning", "turning", "turning", s_p_turning⟩) rfl
  obtain ⟨fd5, F5⟩ := c.def_ 5 (d := ⟨.glo "arcs_of", "arcs_of", "arcs_of", s_p_arcs_of⟩) rfl
  obtain ⟨fd6, F6⟩ := c.def_ 6 (d := ⟨.glo "path", "path", "path", s_p_path⟩) rfl
  obtain ⟨fd7, F7⟩ := c.def_ 7 (d := ⟨.glo "ring", "ring", "ring", s_p_ring⟩) rfl
  obtain ⟨fd8, F8⟩ := c.def_ 8 (d := ⟨.glo "check", "check", "check", s_p_check⟩) rfl
  obtain ⟨fd9, F9⟩ := c.def_ 9 (d := ⟨.glo "log_by", "log_by", "log_by", s_p_log_by⟩) rfl
  obtain ⟨fd10, F10⟩ := c.def_ 10 (d := ⟨.glo "ranks", "ranks", "ranks", s_p_ranks⟩) rfl
  obtain ⟨fd11, F11⟩ := c.def_ 11 (d := ⟨.glo "fitting", "fitting", "fitting", s_p_fitting⟩) rfl
  obtain ⟨fd12, F12⟩ := c.def_ 12 (d := ⟨.glo "going_off", "going_off", "going_off", s_p_going_off⟩) rfl
  obtain ⟨fd13, F13⟩ := c.def_ 13 (d := ⟨.glo "parting_alarms", "parting_alarms", "parting_alarms", s_p_parting_alarms⟩) rfl
  obtain ⟨fd14, F14⟩ := c.def_ 14 (d := ⟨.glo "alike_alarms", "alike_alarms", "alike_alarms", s_p_alike_alarms⟩) rfl
  obtain ⟨fd15, F15⟩ := c.def_ 15 (d := ⟨.glo "_law_refused", "_law_refused", "_law_refused", s_l_refused⟩) rfl
  obtain ⟨fd16, F16⟩ := c.def_ 16 (d := ⟨.glo "_law_same", "_law_same", "_law_same", s_l_same⟩) rfl
  obtain ⟨fd17, F17⟩ := c.def_ 17 (d := ⟨.glo "_law_ways", "_law_ways", "_law_ways", s_l_ways⟩) rfl
  obtain ⟨fd18, F18⟩ := c.def_ 18 (d := ⟨.glo "_law_ring", "_law_ring", "_law_ring", s_l_ring⟩) rfl
  obtain ⟨fd19, F19⟩ := c.def_ 19 (d := ⟨.glo "_law_idle", "_law_idle", "_law_idle", s_l_idle⟩) rfl
  obtain ⟨fd20, F20⟩ := c.def_ 20 (d := ⟨.glo "_law_due", "_law_due", "_law_due", s_l_due⟩) rfl
  obtain ⟨fd21, F21⟩ := c.def_ 21 (d := ⟨.glo "_law_lists", "_law_lists", "_law_lists", s_l_lists⟩) rfl
  obtain ⟨fd22, F22⟩ := c.def_ 22 (d := ⟨.glo "_law_above", "_law_above", "_law_above", s_l_above⟩) rfl
  obtain ⟨fd23, F23⟩ := c.def_ 23 (d := ⟨.glo "_law_calls", "_law_calls", "_law_calls", s_l_calls⟩) rfl
  obtain ⟨fd24, F24⟩ := c.def_ 24 (d := ⟨.glo "_law_off", "_law_off", "_law_off", s_l_off⟩) rfl
  obtain ⟨fd25, F25⟩ := c.def_ 25 (d := ⟨.glo "_law_pair_right", "_law_pair_right", "_law_pair_right", s_l_pair_right⟩) rfl
  obtain ⟨fd26, F26⟩ := c.def_ 26 (d := ⟨.glo "_law_by_hand_right", "_law_by_hand_right", "_law_by_hand_right", s_l_by_hand_right⟩) rfl
  obtain ⟨fd27, F27⟩ := c.def_ 27 (d := ⟨.glo "_law_take", "_law_take", "_law_take", s_l_take⟩) rfl
  obtain ⟨fd28, F28⟩ := c.def_ 28 (d := ⟨.glo "_law_of", "_law_of", "_law_of", s_l_of⟩) rfl
  obtain ⟨fd29, F29⟩ := c.def_ 29 (d := ⟨.glo "_law_alarm", "_law_alarm", "_law_alarm", s_l_alarm⟩) rfl
  obtain ⟨fd30, F30⟩ := c.def_ 30 (d := ⟨.glo "_law_limit", "_law_limit", "_law_limit", s_l_limit⟩) rfl
  obtain ⟨fd31, F31⟩ := c.def_ 31 (d := ⟨.glo "_law_alarms", "_law_alarms", "_law_alarms", s_l_alarms⟩) rfl
  obtain ⟨fd32, F32⟩ := c.def_ 32 (d := ⟨.glo "_law_varied", "_law_varied", "_law_varied", s_l_varied⟩) rfl
  obtain ⟨fd33, F33⟩ := c.def_ 33 (d := ⟨.glo "_law_right", "_law_right", "_law_right", s_l_right⟩) rfl
  obtain ⟨fd34, F34⟩ := c.def_ 34 (d := ⟨.glo "_law_box", "_law_box", "_law_box", s_l_box⟩) rfl
  obtain ⟨fd35, F35⟩ := c.def_ 35 (d := ⟨.glo "law", "law", "law", s_l_law⟩) rfl
  have e := hfa.symm.trans (qf_glo X G (c.fact 35 (f := .glo "law") rfl))
  cases e
  let aa : Nat → Addr := fun i => match i with | 0 => Dat.ad K (.glo "_law_cells") | 1 => Dat.ad K (.glo "tupled") | 2 => Dat.ad K (.glo "choices") | 3 => Dat.ad K (.glo "agree") | 4 => Dat.ad K (.glo "turning") | 5 => Dat.ad K (.glo "arcs_of") | 6 => Dat.ad K (.glo "path") | 7 => Dat.ad K (.glo "ring") | 8 => Dat.ad K (.glo "check") | 9 => Dat.ad K (.glo "log_by") | 10 => Dat.ad K (.glo "ranks") | 11 => Dat.ad K (.glo "fitting") | 12 => Dat.ad K (.glo "going_off") | 13 => Dat.ad K (.glo "parting_alarms") | 14 => Dat.ad K (.glo "alike_alarms") | 15 => Dat.ad K (.glo "_law_refused") | 16 => Dat.ad K (.glo "_law_same") | 17 => Dat.ad K (.glo "_law_ways") | 18 => Dat.ad K (.glo "_law_ring") | 19 => Dat.ad K (.glo "_law_idle") | 20 => Dat.ad K (.glo "_law_due") | 21 => Dat.ad K (.glo "_law_lists") | 22 => Dat.ad K (.glo "_law_above") | 23 => Dat.ad K (.glo "_law_calls") | 24 => Dat.ad K (.glo "_law_off") | 25 => Dat.ad K (.glo "_law_pair_right") | 26 => Dat.ad K (.glo "_law_by_hand_right") | 27 => Dat.ad K (.glo "_law_take") | 28 => Dat.ad K (.glo "_law_of") | 29 => Dat.ad K (.glo "_law_alarm") | 30 => Dat.ad K (.glo "_law_limit") | 31 => Dat.ad K (.glo "_law_alarms") | 32 => Dat.ad K (.glo "_law_varied") | 33 => Dat.ad K (.glo "_law_right") | 34 => Dat.ad K (.glo "_law_box") | 35 => Dat.ad K (.glo "law") | 36 => Dat.ad K (.exc 10) | 37 => Dat.ad K (.exc 11) | 38 => Dat.ad K (.exc 12) | _ => 0
  let dd : Nat → FuncData := fun i => match i with | 0 => fd0 | 1 => fd1 | 2 => fd2 | 3 => fd3 | 4 => fd4 | 5 => fd5 | 6 => fd6 | 7 => fd7 | 8 => fd8 | 9 => fd9 | 10 => fd10 | 11 => fd11 | 12 => fd12 | 13 => fd13 | 14 => fd14 | 15 => fd15 | 16 => fd16 | 17 => fd17 | 18 => fd18 | 19 => fd19 | 20 => fd20 | 21 => fd21 | 22 => fd22 | 23 => fd23 | 24 => fd24 | 25 => fd25 | 26 => fd26 | 27 => fd27 | 28 => fd28 | 29 => fd29 | 30 => fd30 | 31 => fd31 | 32 => fd32 | 33 => fd33 | 34 => fd34 | 35 => fd35 | _ => fd0
  have T : Txt P K mg (clK K) (fun c f => He.ma K (clK K c) f) aa dd := {
    F_l_cells := F0
    F_p_tupled := F1
    F_p_choices := F2
    F_p_agree := F3
    F_p_turning := F4
    F_p_arcs_of := F5
    F_p_path := F6
    F_p_ring := F7
    F_p_check := F8
    F_p_log_by := F9
    F_p_ranks := F10
    F_p_fitting := F11
    F_p_going_off := F12
    F_p_parting_alarms := F13
    F_p_alike_alarms := F14
    F_l_refused := F15
    F_l_same := F16
    F_l_ways := F17
    F_l_ring := F18
    F_l_idle := F19
    F_l_due := F20
    F_l_lists := F21
    F_l_above := F22
    F_l_calls := F23
    F_l_off := F24
    F_l_pair_right := F25
    F_l_by_hand_right := F26
    F_l_take := F27
    F_l_of := F28
    F_l_alarm := F29
    F_l_limit := F30
    F_l_alarms := F31
    F_l_varied := F32
    F_l_right := F33
    F_l_box := F34
    F_l_law := F35
    g_l_cells := qf_glo X G (c.fact 0 (f := .glo "_law_cells") rfl)
    g_p_tupled := qf_glo X G (c.fact 1 (f := .glo "tupled") rfl)
    g_p_choices := qf_glo X G (c.fact 2 (f := .glo "choices") rfl)
    g_p_agree := qf_glo X G (c.fact 3 (f := .glo "agree") rfl)
    g_p_turning := qf_glo X G (c.fact 4 (f := .glo "turning") rfl)
    g_p_arcs_of := qf_glo X G (c.fact 5 (f := .glo "arcs_of") rfl)
    g_p_path := qf_glo X G (c.fact 6 (f := .glo "path") rfl)
    g_p_ring := qf_glo X G (c.fact 7 (f := .glo "ring") rfl)
    g_p_check := qf_glo X G (c.fact 8 (f := .glo "check") rfl)
    g_p_log_by := qf_glo X G (c.fact 9 (f := .glo "log_by") rfl)
    g_p_ranks := qf_glo X G (c.fact 10 (f := .glo "ranks") rfl)
    g_p_fitting := qf_glo X G (c.fact 11 (f := .glo "fitting") rfl)
    g_p_going_off := qf_glo X G (c.fact 12 (f := .glo "going_off") rfl)
    g_p_parting_alarms := qf_glo X G (c.fact 13 (f := .glo "parting_alarms") rfl)
    g_p_alike_alarms := qf_glo X G (c.fact 14 (f := .glo "alike_alarms") rfl)
    g_l_refused := qf_glo X G (c.fact 15 (f := .glo "_law_refused") rfl)
    g_l_same := qf_glo X G (c.fact 16 (f := .glo "_law_same") rfl)
    g_l_ways := qf_glo X G (c.fact 17 (f := .glo "_law_ways") rfl)
    g_l_ring := qf_glo X G (c.fact 18 (f := .glo "_law_ring") rfl)
    g_l_idle := qf_glo X G (c.fact 19 (f := .glo "_law_idle") rfl)
    g_l_due := qf_glo X G (c.fact 20 (f := .glo "_law_due") rfl)
    g_l_lists := qf_glo X G (c.fact 21 (f := .glo "_law_lists") rfl)
    g_l_above := qf_glo X G (c.fact 22 (f := .glo "_law_above") rfl)
    g_l_calls := qf_glo X G (c.fact 23 (f := .glo "_law_calls") rfl)
    g_l_off := qf_glo X G (c.fact 24 (f := .glo "_law_off") rfl)
    g_l_pair_right := qf_glo X G (c.fact 25 (f := .glo "_law_pair_right") rfl)
    g_l_by_hand_right := qf_glo X G (c.fact 26 (f := .glo "_law_by_hand_right") rfl)
    g_l_take := qf_glo X G (c.fact 27 (f := .glo "_law_take") rfl)
    g_l_of := qf_glo X G (c.fact 28 (f := .glo "_law_of") rfl)
    g_l_alarm := qf_glo X G (c.fact 29 (f := .glo "_law_alarm") rfl)
    g_l_limit := qf_glo X G (c.fact 30 (f := .glo "_law_limit") rfl)
    g_l_alarms := qf_glo X G (c.fact 31 (f := .glo "_law_alarms") rfl)
    g_l_varied := qf_glo X G (c.fact 32 (f := .glo "_law_varied") rfl)
    g_l_right := qf_glo X G (c.fact 33 (f := .glo "_law_right") rfl)
    g_l_box := qf_glo X G (c.fact 34 (f := .glo "_law_box") rfl)
    g_l_law := qf_glo X G (c.fact 35 (f := .glo "law") rfl)
    c_MOST_CHOICES := qf_int X G (c.fact 36 (f := .int "MOST_CHOICES" 64) rfl)
    exq_10 := qf_exq X G (c.fact 37 (f := .exq 10) rfl)
    exq_11 := qf_exq X G (c.fact 38 (f := .exq 11) rfl)
    exq_12 := qf_exq X G (c.fact 39 (f := .exq 12) rfl)
    exs_12 := qf_exs (c.fact 40 (f := .exs 12 "ring") rfl)
    exu_10 := (DefQ.exu (d := ⟨.exc 10, "__init__", "Unlike.__init__", s_exc_10⟩) X G rfl (c.both 36 rfl).1 (c.both 36 rfl).2 (c.fact 41 (f := .exc 10) rfl) hPf hPt).2
    exu_11 := (DefQ.exu (d := ⟨.exc 11, "__init__", "TooMany.__init__", s_exc_11⟩) X G rfl (c.both 37 rfl).1 (c.both 37 rfl).2 (c.fact 42 (f := .exc 11) rfl) hPf hPt).2
    exu_12 := (DefQ.exu (d := ⟨.exc 12, "__init__", "Contradiction.__init__", s_exc_12⟩) X G rfl (c.both 38 rfl).1 (c.both 38 rfl).2 (c.fact 43 (f := .exc 12) rfl) hPf hPt).2
    exm_10_Unlike := qf_exm (c.fact 44 (f := .exm 10 (.own 10) true) rfl)
    exm_11_Unlike := qf_exm (c.fact 45 (f := .exm 11 (.own 10) false) rfl)
    exm_12_Unlike := qf_exm (c.fact 46 (f := .exm 12 (.own 10) false) rfl)
    kit_10_ValueError := qf_kit (c.fact 47 (f := .kit 10 (.bi "ValueError") true) rfl)
    kit_11_ValueError := qf_kit (c.fact 48 (f := .kit 11 (.bi "ValueError") true) rfl)
    kit_12_ValueError := qf_kit (c.fact 49 (f := .kit 12 (.bi "ValueError") true) rfl)
    n_ValueError := qf_free X G (c.fact 50 (f := .free "ValueError") rfl)
    n_abs := qf_free X G (c.fact 51 (f := .free "abs") rfl)
    n_all := qf_free X G (c.fact 52 (f := .free "all") rfl)
    n_any := qf_free X G (c.fact 53 (f := .free "any") rfl)
    n_bool := qf_free X G (c.fact 54 (f := .free "bool") rfl)
    n_enumerate := qf_free X G (c.fact 55 (f := .free "enumerate") rfl)
    n_int := qf_free X G (c.fact 56 (f := .free "int") rfl)
    n_isinstance := qf_free X G (c.fact 57 (f := .free "isinstance") rfl)
    n_len := qf_free X G (c.fact 58 (f := .free "len") rfl)
    n_list := qf_free X G (c.fact 59 (f := .free "list") rfl)
    n_max := qf_free X G (c.fact 60 (f := .free "max") rfl)
    n_min := qf_free X G (c.fact 61 (f := .free "min") rfl)
    n_range := qf_free X G (c.fact 62 (f := .free "range") rfl)
    n_set := qf_free X G (c.fact 63 (f := .free "set") rfl)
    n_sorted := qf_free X G (c.fact 64 (f := .free "sorted") rfl)
    n_str := qf_free X G (c.fact 65 (f := .free "str") rfl)
    n_sum := qf_free X G (c.fact 66 (f := .free "sum") rfl)
    n_tuple := qf_free X G (c.fact 67 (f := .free "tuple") rfl)
    n_zip := qf_free X G (c.fact 68 (f := .free "zip") rfl)
    }
  exact ⟨fd35, fun s v => bindsA0 F35 (fun _ _ _ _ _ _ => rfl) s, fun base _ _ => law_ok (ok_l_law T) holds⟩
end Lw
open PySem PySem.W PySem.Calls PyProof.Rows
set_option maxRecDepth 100000 in
set_option maxHeartbeats 0 in
theorem PySem.Challenge.cw_quietshare_k44_alarms_alike_or_a_log_tha_holds : PySem.Challenge.rw_quietshare_k44_alarms_alike_or_a_log_tha.Holds := by
  w_on; o_law
  refine HandSHeadRun.head_any (r := OpenLaw.row PySem.Challenge.rw_quietshare_k44_alarms_alike_or_a_log_tha) (q := view (OpenLaw.row PySem.Challenge.rw_quietshare_k44_alarms_alike_or_a_log_tha).prog [46]) (H := Lw.hkR) (ob := Lw.obR) (M := 8000) (loose := Lw.loose) (d := HandSHeadRun.topDef (OpenLaw.row PySem.Challenge.rw_quietshare_k44_alarms_alike_or_a_log_tha).prog 46) (kwd := []) Lw.obR_eq
    (by kernel_rfl) (fun s => by kernel_rfl) Lw.runR (by kernel_rfl) (by kernel_rfl) (by kernel_rfl) (by rfl) (by first | assumption | decide +kernel) (by decide +kernel) ⟨rfl, rfl, rfl, rfl, rfl, by decide +kernel⟩ ?hw ?hc
  case hw => w_witness2
  case hc =>
    refine L2.walk_ofE (l := PySem.Challenge.rw_quietshare_k44_alarms_alike_or_a_log_tha) (n := 63) (k := 42) (x := "_law_script") (CX := L2.CX0) rfl (by decide) (by kernel_rfl) ⟨rfl, by decide, by decide⟩ ?F (fun _ _ _ _ z => z)
    intro w mg fa h Y G hmg0
    obtain ⟨K, KX, c⟩ := Y
    have hmg : mg ("law" : PySem.Str) = some (.ref fa) := by
      have e : (HandSHeadRun.topDef (OpenLaw.row PySem.Challenge.rw_quietshare_k44_alarms_alike_or_a_log_tha).prog 46).name = ("law" : PySem.Str) := by kernel_rfl
      rw [← e]
      exact hmg0
    obtain ⟨fd, hb, hF⟩ := Lw.factsR (P := (PySem.Challenge.rw_quietshare_k44_alarms_alike_or_a_log_tha).prog) (w := w) KX G hmg c (by kernel_rfl) (by kernel_rfl)
    exact ⟨K, fd, Q.spLaw K, KX, hb, fun H a ns hl _ hS => ⟨a, ns, rfl, hS, hl, fun _ => rfl⟩, hF⟩
