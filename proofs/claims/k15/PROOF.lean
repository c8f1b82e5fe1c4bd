import PyProof.Rows.All
import Wide.All
import OpenK.AllK
import Wide.FinOn
import HandS.ForMost
import HandS.Base
import HandS.Call
import HandS.List
import HandS.Slots
import HandS.Exc
import HandS.TupAny
import HandS.TupMul
import HandS.Wide
import HandS.Flow
import HandS.IsInst
import HandS.Deep
import HandS.Text
import HandS.Words
import HandS.Comp
import HandS.Iter
import HandS.Zip
import HandS.TryOnly
import HandS.Defaults
import HandS.SlotsOwn
import HandS.MakeKwOnly
import HandS.Style
import HandS.Star
import HandS.ClsMeth
import PyProof.InstNe
import HandS.TupSets
import HandS.SortInts
import HandS.SetFor
import HandS.Strs
import HandS.SortKw
import HandS.Dict
import HandS.Walk
import HandS.SortRule
import HandS.Small
import HandS.DictComp
import HandS.TupLen
import HandS.Conv
import PyProof.SetRoads
import HandS.ExcOwn
import HandS.ExcInit
import HandS.WordsExc
import KE.KExcSuper
import KE.KExcIs
import KE.KSuper
import HandS.ExcValue
import KE.SortData
import KE.DatumOrd
import KE.KOpsOwn
import OpenK.KMeth
import PyProof.ReprRoads
import PyProof.ReprBulk
import HandS.HeadEnd
import KE.DataCmp
import PyProof.Rows.IntBool
import HandS.More
import PyProof.LongRange
import HandS.ExcField
import KE.KDictZip
import OpenK.KOps
import KE.KeyNested
import HandS.FStr
import HandS.Flt
import PyProof.StrOps2
import KE.KStateDown
import HandS.Head0
import HandS.Head1
import HandS.Head2
import HandS.HeadHook1
import HandS.HeadHook2
import PySem.Challenge.RW_quietshare_k15_small_things_as_texts
set_option Elab.async false
set_option linter.all false
set_option maxRecDepth 100000
set_option maxHeartbeats 4000000
namespace Q
open PySem PySem.Spec PyProof.Rows L2 He
inductive Cst where
  | bl (b : Bool) | int (i : Int)
def Cst.is : Cst → Value → Bool
  | .bl b, .bool c => b == c
  | .int i, .int j _ => i == j
  | _, _ => false
def kwIn (K : PySem.W.Frag) (f : Addr) (x : Str) (c : Cst) : Bool := match K.lookup f with
  | some ⟨_, _, .func fd, _⟩ => (match fd.kwdefaults with
    | .ref E => (match PySem.W.nsIn K E x with
      | some (some u) => c.is u
      | _ => false)
    | _ => false)
  | _ => false
def clsAt (st : Stmt) (j : Nat) : Stmt := match st with
  | .ClassDef _ _ _ body _ _ _ _ _ _ _ => body.getD j (.Pass ⟨0, 0, 0, 0⟩)
  | _ => .Pass ⟨0, 0, 0, 0⟩
def clN : Nat → Str
  | 0 => "Share" | 1 => "Log" | 2 => "Flow" | 3 => "Net" | 4 => "Sums" | 5 => "Watch" | 6 => "Desk" | 7 => "NoMinute" | 8 => "NoWay" | 9 => "NothingDone" | 10 => "Unlike" | 11 => "TooMany" | 12 => "Contradiction" | 13 => "BadText" | 14 => "BadLine"
  | 15 => "Flow_walks" | 16 => "Flow_tracks"
  | _ => ""
def clK (K : PySem.W.Frag) (c : Nat) : Addr := ga K (clN c)
def kinds : List String := ["NoneType", "bool", "int", "str", "tuple", "list"]
inductive EV where
  | own (c : Nat) | bi (T : String)
def EV.val (K : PySem.W.Frag) : EV → Value
  | .own c => .ref (clK K c)
  | .bi T => .type T
inductive Qf where
  | glo (x : Str) | free (x : Str) | int (x : Str) (i : Int) | str (x z : Str)
  | cls (c : Nat)
  | slot (c : Nat) (f : Str) (i : Nat)
  | mkr (c : Nat)
  | meth (c : Nat) (m : Str)
  | isi (c : Nat)
  | eq (c : Nat)
  | call (c : Nat)
  | sta (c : Nat) (m : Str)
  | exc (c : Nat)
  | exq (c : Nat)
  | kits (c : Nat) (vs : List EV) (b : Bool)
  | kit (c : Nat) (v : EV) (b : Bool)
  | exm (c : Nat) (v : EV) (b : Bool)
  | exms (c : Nat) (vs : List EV) (b : Bool)
  | mul (c : Nat)
  | addc (c : Nat)
  | iaddc (c : Nat)
  | inc (c : Nat)
  | kwd (x k : Str) (c : Cst)
  | exs (c : Nat) (f : Str)
  | als (x y : Str)
  | seti (c : Nat)
  | geti (c : Nat)
  | lenc (c : Nat)
def exB (c : Nat) : String := if c ≤ 9 then "LookupError" else "ValueError"
def exN (c : Nat) : String := if c ≤ 9 then "LookupError.__new__" else "ValueError.__new__"
def exI (c : Nat) : String := if c ≤ 9 then "LookupError.__init__" else "ValueError.__init__"
def exM (c : Nat) : List Value := if c ≤ 9 then [.type "LookupError", .type "Exception", .type "BaseException", .type "object"] else [.type "ValueError", .type "Exception", .type "BaseException", .type "object"]
def supIn (K : PySem.W.Frag) (C f : Addr) : Bool := match K.lookup f with
  | some ⟨_, _, .func fd, _⟩ => (match fd.code with
    | .ref cda => (match K.lookup cda with
      | some ⟨_, _, .fields vs, _⟩ => (match (vs[2]? : Option Value) with
        | some (.str z _) => z == ("/claim/cut.py" : Str)
        | _ => false)
      | _ => false)
    | _ => false) && (match fd.closure with
    | [(_, cc)] => (match K.lookup cc with
      | some ⟨_, _, .cell (some (.ref D)), _⟩ => decide (D = C)
      | _ => false)
    | _ => false)
  | _ => false
def staP (K : PySem.W.Frag) (C : Addr) (m : Str) : Addr := match PySem.W.findCls K (.ref C) (.type "type") m with
  | some (.get _ (.ref p) .none _) => p
  | _ => 0
def staA (K : PySem.W.Frag) (C : Addr) (m : Str) : Addr := match PySem.W.recIn K (staP K C m) "staticmethod" with
  | some (.ref g :: _) => g
  | _ => 0
def ob {α : Type} [DecidableEq α] (a b : α) : Bool := decide (a = b)
theorem ob_ok {α : Type} [DecidableEq α] {a b : α} (h : ob a b = true) : a = b := of_decide_eq_true h
def Qf.ok (K : PySem.W.Frag) : Qf → Bool
  | .glo x => (Fa.glo x).ok K
  | .free x => (Fa.free x).ok K
  | .seti c => let C := clK K c; PySem.W.noSeq K C && (He.eqO (PySem.W.findIn K (.ref C) "__setitem__") (some (some (.ref (ma K C "__setitem__")))) && PySem.W.isFn K (.ref (ma K C "__setitem__")))
  | .geti c => let C := clK K c; let g := ma K C "__getitem__"; He.eqO (PySem.W.findIn K (.ref C) "__getitem__") (some (some (.ref g))) && (PySem.W.fnIn K g && PySem.W.isFn K (.ref g))
  | .lenc c => let C := clK K c; let g := ma K C "__len__"; He.eqO (PySem.W.findIn K (.ref C) "__len__") (some (some (.ref g))) && PySem.W.isFn K (.ref g)
  | .als x y => He.eqO (PySem.W.nsIn K mainGlobals x) (some (some (.ref (ga K y))))
  | .int x i => (Fa.int x i).ok K
  | .str x z => (Fa.str x z).ok K
  | .cls c => He.eqO (PySem.W.nsIn K mainGlobals (clN c)) (some (some (.ref (clK K c)))) && (PySem.W.plainGet K (clK K c) Str.empty && (PySem.W.isClsIn K (clK K c) && (PySem.W.plainOver K (clK K c) && He.eqO (PySem.W.findIn K (.ref (clK K c)) "__setattr__") (some (some (.builtin "object.__setattr__"))))))
  | .slot c f i => let C := clK K c; let p := ma K C f; He.eqO (PySem.W.findIn K (.ref C) f) (some (some (.ref p))) && (He.eqO (PySem.W.specialIn K (.ref p) "__get__") (some (some (.builtin "member_descriptor.__get__"))) && (ob (PySem.W.takesIn K (.ref p)) (some true) && (ob (PySem.W.typeIn K (.ref p)) (some (.type "member_descriptor")) && (ob (PySem.W.slotIn K p C) (some i) && decide (i < 1000)))))
  | .mkr c => (Fa.mkr (clN c)).ok K
  | .meth c m => (Fa.meth (clN c) m).ok K
  | .isi c => let C := clK K c; He.eqO (PySem.W.findIn K (.ref C) "__class__") (some (some (.builtin "object.__class__"))) && (He.eqO (PySem.W.specialIn K (.builtin "object.__class__") "__get__") (some (some (.builtin "getset_descriptor.__get__"))) && (ob (PySem.W.takesIn K (.builtin "object.__class__")) (some true) && (ob (PySem.W.mroIn K C (.type "object")) (some true) &&
      (ob (PySem.W.kitOne K (.ref C) (.ref C)) (some true) && kinds.all fun t => ob (PySem.W.kitOne K (.type t) (.ref C)) (some false)))))
  | .eq c => let C := clK K c; let g := ma K C "__eq__"; He.eqO (PySem.W.findIn K (.ref C) "__eq__") (some (some (.ref g))) && (PySem.W.isFn K (.ref g) && (He.eqO (PySem.W.findIn K (.ref C) "__ne__") (some (some (.builtin "object.__ne__"))) && (ob (PySem.W.mroIn K C (.type "object")) (some true) && (PySem.W.notFirst K C (.ref C) && kinds.all fun t => PySem.W.notFirst K C (.type t)))))
  | .call c => let C := clK K c; let g := ma K C "__call__"; He.eqO (PySem.W.findIn K (.ref C) "__call__") (some (some (.ref g))) && (PySem.W.isFn K (.ref g) && PySem.W.fnIn K g)
  | .sta c m => let C := clK K c; PySem.W.readsIn K C (.type "type") && (He.eqO (PySem.W.specialIn K (.ref C) "__getattribute__") (some (some (.builtin "type.__getattribute__"))) && ((match PySem.W.findCls K (.ref C) (.type "type") m with
      | some (.get (.builtin g) (.ref p) .none (.ref D)) => ob g "staticmethod.__get__" && (ob p (staP K C m) && ob D C)
      | _ => false) && ((match PySem.W.recIn K (staP K C m) "staticmethod" with
      | some (.ref g :: _) => ob g (staA K C m)
      | _ => false) && PySem.W.keepIn K (.ref (staA K C m)))))
  | .exc c => let C := clK K c; let f := ma K C "__init__"; PySem.W.excInitIn K C (exM c) (exN c) && (He.eqO (PySem.W.findIn K (.ref C) "__init__") (some (some (.ref f))) && (ob (PySem.W.typeIn K (.ref f)) (some (.type "function")) && (supIn K C f && ((PySem.W.clsIn K C).isSome && (ob (PySem.W.mroIn K C (.ref C)) (some true) && (He.eqO (PySem.W.nsIn K mainGlobals "super") (some none) && (He.eqO (PySem.W.nsIn K cStatics "thirdparty.any") (some none) && (He.eqO (PySem.W.ks_superIn K C C "__init__") (some (some (.builtin (exI c)))) && (ob (PySem.W.subIn K (.ref C) (.type (exB c))) (some true) && (ob (PySem.W.subIn K (.ref C) (.type "BaseException")) (some true) && (ob (PySem.W.typeIn K (.ref C)) (some (.type "type")) && (PySem.W.keepIn K (.ref C) && (He.eqO (PySem.W.nsIn K mainGlobals (clN c)) (some (some (.ref C))))))))))))))))
  | .exq c => let C := clK K c; (PySem.W.clsIn K C).isSome && (He.eqO (PySem.W.findIn K (.ref C) "__getattribute__") (some (some (.builtin "BaseException.__getattribute__"))) && (He.eqO (PySem.W.findIn K (.ref C) "__getattr__") (some none) && (ob (PySem.W.subIn K (.ref C) (.type "BaseException")) (some true) && (He.eqO (PySem.W.findIn K (.ref C) "__class__") (some (some (.builtin "object.__class__"))) && (He.eqO (PySem.W.specialIn K (.builtin "object.__class__") "__get__") (some (some (.builtin "getset_descriptor.__get__"))) && (ob (PySem.W.takesIn K (.builtin "object.__class__")) (some true) && (ob (PySem.W.mroIn K C (.type "object")) (some true) && (He.eqO (PySem.W.nsIn K mainGlobals (clN c)) (some (some (.ref C)))))))))))
  | .kit c v b => ob (PySem.W.kitOne K (.ref (clK K c)) (v.val K)) (some b)
  | .kits c vs b => ob (PySem.W.kitAny K (.ref (clK K c)) (vs.map fun v => v.val K)) (some b)
  | .exm c v b => ob (PySem.W.exmOne K (.ref (clK K c)) (v.val K)) (some b)
  | .exms c vs b => ob (PySem.W.exmAny K (.ref (clK K c)) (vs.map fun v => v.val K)) (some b)
  | .mul c => let C := clK K c; PySem.W.selfFirst K C && (He.eqO (PySem.W.findIn K (.ref C) (dunder "mul")) (some (some (.ref (ma K C "__mul__")))) && (He.eqO (PySem.W.findIn K (.ref C) (dunderR "mul")) (some (some (.ref (ma K C "__rmul__")))) && (PySem.W.isFn K (.ref (ma K C "__mul__")) && (PySem.W.isFn K (.ref (ma K C "__rmul__")) && (ob (PySem.W.subIn K (.ref C) (.type "int")) (some false) && ((PySem.W.findIn K (.type "int") (dunder "mul")).isSome && ((PySem.W.findIn K (.type "int") (dunderR "mul")).isSome && ob (PySem.W.subIn K (.type "int") (.ref C)) (some false))))))))
  | .addc c => let C := clK K c; PySem.W.selfFirst K C && (He.eqO (PySem.W.findIn K (.ref C) (dunder "add")) (some (some (.ref (ma K C "__add__")))) && PySem.W.isFn K (.ref (ma K C "__add__")))
  | .iaddc c => let C := clK K c; PySem.W.selfFirst K C && (He.eqO (PySem.W.findIn K (.ref C) (dunderI "add")) (some (some (.ref (ma K C "__iadd__")))) && PySem.W.isFn K (.ref (ma K C "__iadd__")))
  | .inc c => let C := clK K c; He.eqO (PySem.W.findIn K (.ref C) "__contains__") (some (some (.ref (ma K C "__contains__")))) && PySem.W.isFn K (.ref (ma K C "__contains__"))
  | .kwd x k c => kwIn K (ga K x) k c
  | .exs c f => let C := clK K c; He.eqO (PySem.W.findIn K (.ref C) "__setattr__") (some (some (.builtin "object.__setattr__"))) && (PySem.W.excOver K C (exM c) && (PySem.W.hasDictIn K C && (He.eqO (PySem.W.findIn K (.ref C) f) (some none) && (He.eqO (PySem.W.findIn K (.ref C) "__getattribute__") (some (some (.builtin "BaseException.__getattribute__"))) && (He.eqO (PySem.W.findIn K (.ref C) "__getattr__") (some none) && ob (PySem.W.subIn K (.ref C) (.type "BaseException")) (some true))))))
inductive Dat where
  | glo (x : Str) | meth (c : Nat) (m : Str) | sta (c : Nat) (m : Str) | exc (c : Nat)
def Dat.cn : Dat → List Str
  | .exc _ => ["__class__"]
  | _ => []
def Dat.ad (K : PySem.W.Frag) : Dat → Addr
  | .exc c => ma K (clK K c) "__init__"
  | .glo x => ga K x
  | .meth c m => ma K (clK K c) m
  | .sta c m => staA K (clK K c) m
structure DefQ where
  at_ : Dat
  name : Str
  qual : Str
  st : Stmt
abbrev FnQ : Type := Option (Str × Str × Arguments × FuncBody × Scope × Addr × List Str × Addr)
def fnQ (K : PySem.W.Frag) (d : DefQ) : FnQ := match K.lookup (d.at_.ad K) with
  | some ⟨_, _, .func fd, _⟩ => some (fd.name, fd.qualname, fd.params, fd.body, fd.scope, fd.globals, fd.closure.map (·.1), fd.builtins)
  | _ => none
def DefQ.val (d : DefQ) : FnQ := some (d.name, d.qual, defArgs d.st, .stmts (defBody d.st), defScope d.st, mainGlobals, d.at_.cn, builtinsNs)
def DefQ.ok (K : PySem.W.Frag) (d : DefQ) : Bool := PySem.W.keepIn K (.ref (d.at_.ad K)) && (match K.lookup (d.at_.ad K) with
  | some ⟨_, _, .func fd, _⟩ => PySem.W.codeIn K fd.code d.qual && (match fd.defaults with
    | .none => true
    | _ => false)
  | _ => false)
def adrN {α : Type} : List Addr → Nat → List Addr → (Nat → List Addr → α) → α
  | [], m, acc, k => k m acc
  | a :: r, m, acc, k => HandSHeadRun.frNat a fun a => match Nat.land (Nat.shiftRight m a) 1 with
    | 0 => HandSHeadRun.frNat (Nat.lor m (Nat.shiftLeft 1 a)) fun m => adrN r m (a :: acc) k
    | _ => adrN r m acc k
def adrR {α : Type} (g : Addr → Option Obj) : List Addr → Nat → List Addr → (Nat → List Addr → α) → α
  | [], m, acc, k => k m acc
  | a :: r, m, acc, k => match g a with
    | some o => adrN (refsD o) m acc fun m acc => adrR g r m acc k
    | none => adrR g r m acc k
def adrL (g : Addr → Option Obj) : Nat → List Addr → Nat → List Addr
  | 0, fr, _ => fr
  | n + 1, fr, m => fr ++ adrR g fr m [] fun m fr => adrL g n fr m
def asQ (g : Addr → Option Obj) (n : Nat) : List Addr := adrN [mainGlobals, PySem.cStatics] 0 [] fun m fr => adrL g n fr m
abbrev AlQ : Type := Bool × List FnQ
def obsQ (fa : List Qf) (fn : List DefQ) (K : PySem.W.Frag) : AlQ := ((fa.all fun f => f.ok K) && fn.all fun d => d.ok K, fn.map fun d => fnQ K d)
def valQ (fn : List DefQ) : AlQ := (true, fn.map DefQ.val)
def SaysQ (fa : List Qf) (fn : List DefQ) (K : PySem.W.Frag) : Prop := obsQ fa fn K = valQ fn
def obsQG (n : Nat) (fa : List Qf) (fn : List DefQ) (g : Addr → Option Obj) : AlQ := obsQ fa fn (frG g (asQ g n))
def hookQ (n : Nat) (fa : List Qf) (fn : List DefQ) : PySem.W.Hook where
  α := AlQ
  obs := fun s => obsQG n fa fn s.heap.get?
  val := fun _ => valQ fn
  says := fun _ h => ∃ K : PySem.W.Frag, K.In h ∧ SaysQ fa fn K
  of := fun _ _ e => ⟨_, frG_in, e⟩
  keeps := fun _ _ _ ⟨K, hK, c⟩ k => ⟨K, PySem.W.Frag.In.keeps hK k, c⟩
theorem obsQG_eq {n : Nat} {fa : List Qf} {fn : List DefQ} {g : Addr → Option Obj} {s : Shared} (h : ∀ a, g a = s.heap.get? a) : obsQG n fa fn g = (hookQ n fa fn).obs s := by
  have e : g = s.heap.get? := funext h
  rw [e] <;> rfl
end Q
namespace Lw
open PySem L2 Q
def top (i : Nat) : Stmt := PySem.Challenge.pw_quietshare_k15_small_things_as_texts.main.body.getD i (.Pass ⟨0, 0, 0, 0⟩)
abbrev s_l_cells : Stmt := top 51
abbrev s_l_same : Stmt := top 54
abbrev s_p_told : Stmt := top 41
abbrev s_p_number_of : Stmt := top 33
abbrev s_p_pair_of : Stmt := top 34
abbrev s_p_is_tuple : Stmt := top 4
abbrev s_p_is_number : Stmt := top 3
abbrev s_p_is_limit : Stmt := top 15
abbrev s_p_limit_of : Stmt := top 35
abbrev s_p_limit_in : Stmt := top 42
abbrev s_p_common_divisor : Stmt := top 16
abbrev s_p_reduced : Stmt := top 17
abbrev s_p_Share_init : Stmt := clsAt (top 18) 1
abbrev s_p_Share_parts : Stmt := clsAt (top 18) 5
abbrev s_p_share_of : Stmt := top 36
abbrev s_p_share_in : Stmt := top 43
abbrev s_p_look_of : Stmt := top 37
abbrev s_p_look_in : Stmt := top 44
abbrev s_p_log_of : Stmt := top 38
abbrev s_p_log_in : Stmt := top 45
abbrev s_p_row_of : Stmt := top 39
abbrev s_p_row_in : Stmt := top 46
abbrev s_p_looks_of : Stmt := top 40
abbrev s_p_looks_in : Stmt := top 47
abbrev s_l_read : Stmt := top 57
abbrev s_l_by_hand_right : Stmt := top 66
abbrev s_p_pair_text : Stmt := top 25
abbrev s_p_limit_text : Stmt := top 27
abbrev s_p_share_text : Stmt := top 28
abbrev s_p_look_text : Stmt := top 29
abbrev s_p_log_text : Stmt := top 30
abbrev s_p_words_text : Stmt := top 26
abbrev s_p_row_text : Stmt := top 31
abbrev s_p_looks_text : Stmt := top 32
abbrev s_l_names_right : Stmt := top 65
abbrev s_l_take : Stmt := top 50
abbrev s_l_of : Stmt := top 52
abbrev s_l_number : Stmt := top 56
abbrev s_l_common : Stmt := top 61
abbrev s_l_limit : Stmt := top 55
abbrev s_l_drawn : Stmt := top 63
abbrev s_l_written : Stmt := top 58
abbrev s_l_bent : Stmt := top 64
abbrev s_l_lists : Stmt := top 53
abbrev s_l_value : Stmt := top 59
abbrev s_l_pair : Stmt := top 60
abbrev s_l_due : Stmt := top 62
abbrev s_l_right : Stmt := top 67
abbrev s_l_box : Stmt := top 49
abbrev s_l_law : Stmt := top 68
abbrev s_exc_13 : Stmt := clsAt (top 12) 0
def fns : List DefQ := [⟨.glo "_law_cells", "_law_cells", "_law_cells", s_l_cells⟩, ⟨.glo "_law_same", "_law_same", "_law_same", s_l_same⟩, ⟨.glo "told", "told", "told", s_p_told⟩, ⟨.glo "number_of", "number_of", "number_of", s_p_number_of⟩, ⟨.glo "pair_of", "pair_of", "pair_of", s_p_pair_of⟩, ⟨.glo "is_tuple", "is_tuple", "is_tuple", s_p_is_tuple⟩, ⟨.glo "is_number", "is_number", "is_number", s_p_is_number⟩, ⟨.glo "is_limit", "is_limit", "is_limit", s_p_is_limit⟩, ⟨.glo "limit_of", "limit_of", "limit_of", s_p_limit_of⟩, ⟨.glo "limit_in", "limit_in", "limit_in", s_p_limit_in⟩, ⟨.glo "common_divisor", "common_divisor", "common_divisor", s_p_common_divisor⟩, ⟨.glo "reduced", "reduced", "reduced", s_p_reduced⟩, ⟨.meth 0 "__init__", "__init__", "Share.__init__", s_p_Share_init⟩, ⟨.meth 0 "parts", "parts", "Share.parts", s_p_Share_parts⟩, ⟨.glo "share_of", "share_of", "share_of", s_p_share_of⟩, ⟨.glo "share_in", "share_in", "share_in", s_p_share_in⟩, ⟨.glo "look_of", "look_of", "look_of", s_p_look_of⟩, ⟨.glo "look_in", "look_in", "look_in", s_p_look_in⟩, ⟨.glo "log_of", "log_of", "log_of", s_p_log_of⟩, ⟨.glo "log_in", "log_in", "log_in", s_p_log_in⟩, ⟨.glo "row_of", "row_of", "row_of", s_p_row_of⟩, ⟨.glo "row_in", "row_in", "row_in", s_p_row_in⟩, ⟨.glo "looks_of", "looks_of", "looks_of", s_p_looks_of⟩, ⟨.glo "looks_in", "looks_in", "looks_in", s_p_looks_in⟩, ⟨.glo "_law_read", "_law_read", "_law_read", s_l_read⟩, ⟨.glo "_law_by_hand_right", "_law_by_hand_right", "_law_by_hand_right", s_l_by_hand_right⟩, ⟨.glo "pair_text", "pair_text", "pair_text", s_p_pair_text⟩, ⟨.glo "limit_text", "limit_text", "limit_text", s_p_limit_text⟩, ⟨.glo "share_text", "share_text", "share_text", s_p_share_text⟩, ⟨.glo "look_text", "look_text", "look_text", s_p_look_text⟩, ⟨.glo "log_text", "log_text", "log_text", s_p_log_text⟩, ⟨.glo "words_text", "words_text", "words_text", s_p_words_text⟩, ⟨.glo "row_text", "row_text", "row_text", s_p_row_text⟩, ⟨.glo "looks_text", "looks_text", "looks_text", s_p_looks_text⟩, ⟨.glo "_law_names_right", "_law_names_right", "_law_names_right", s_l_names_right⟩, ⟨.glo "_law_take", "_law_take", "_law_take", s_l_take⟩, ⟨.glo "_law_of", "_law_of", "_law_of", s_l_of⟩, ⟨.glo "_law_number", "_law_number", "_law_number", s_l_number⟩, ⟨.glo "_law_common", "_law_common", "_law_common", s_l_common⟩, ⟨.glo "_law_limit", "_law_limit", "_law_limit", s_l_limit⟩, ⟨.glo "_law_drawn", "_law_drawn", "_law_drawn", s_l_drawn⟩, ⟨.glo "_law_written", "_law_written", "_law_written", s_l_written⟩, ⟨.glo "_law_bent", "_law_bent", "_law_bent", s_l_bent⟩, ⟨.glo "_law_lists", "_law_lists", "_law_lists", s_l_lists⟩, ⟨.glo "_law_value", "_law_value", "_law_value", s_l_value⟩, ⟨.glo "_law_pair", "_law_pair", "_law_pair", s_l_pair⟩, ⟨.glo "_law_due", "_law_due", "_law_due", s_l_due⟩, ⟨.glo "_law_right", "_law_right", "_law_right", s_l_right⟩, ⟨.glo "_law_box", "_law_box", "_law_box", s_l_box⟩, ⟨.glo "law", "law", "law", s_l_law⟩, ⟨.exc 13, "__init__", "BadText.__init__", s_exc_13⟩]
def fas : List Qf := [.glo "_law_cells", .glo "_law_same", .glo "told", .glo "number_of", .glo "pair_of", .glo "is_tuple", .glo "is_number", .glo "is_limit", .glo "limit_of", .glo "limit_in", .glo "common_divisor", .glo "reduced", .glo "share_of", .glo "share_in", .glo "look_of", .glo "look_in", .glo "log_of", .glo "log_in", .glo "row_of", .glo "row_in", .glo "looks_of", .glo "looks_in", .glo "_law_read", .glo "_law_by_hand_right", .glo "pair_text", .glo "limit_text", .glo "share_text", .glo "look_text", .glo "log_text", .glo "words_text", .glo "row_text", .glo "looks_text", .glo "_law_names_right", .glo "_law_take", .glo "_law_of", .glo "_law_number", .glo "_law_common", .glo "_law_limit", .glo "_law_drawn", .glo "_law_written", .glo "_law_bent", .glo "_law_lists", .glo "_law_value", .glo "_law_pair", .glo "_law_due", .glo "_law_right", .glo "_law_box", .glo "law", .cls 0, .str "BLANK" " ", .str "DIGITS" "0123456789", .int "MOST_DIGITS" 60, .str "NONE" "-", .int "PAIR" 2, .meth 0 "parts", .mkr 0, .slot 0 "own_calls" 0, .slot 0 "own_failed" 1, .exq 10, .exq 11, .exq 12, .exq 13, .exq 14, .exq 7, .exq 8, .exq 9, .exc 13, .exms 13 [.own 14, .own 13, .own 12, .own 7, .own 8, .own 9, .own 11, .own 10] true, .kit 13 (.own 13) true, .kit 13 (.bi "ValueError") true, .kits 13 [.own 14, .own 10, .bi "LookupError"] false, .free "LookupError", .free "ValueError", .free "abs", .free "all", .free "bool", .free "enumerate", .free "int", .free "isinstance", .free "len", .free "list", .free "max", .free "min", .free "range", .free "str", .free "tuple", .free "zip"]
def loose : List PySem.Str := (["_wall", "tupled", "is_number", "is_tuple", "NoMinute", "NoWay", "NothingDone", "Unlike", "TooMany", "Contradiction", "BadText", "BadLine", "is_limit", "common_divisor", "reduced", "Share", "PAIR", "DIGITS", "MOST_DIGITS", "BLANK"] : List PySem.Str) ++ (["NONE", "pair_text", "words_text", "limit_text", "share_text", "look_text", "log_text", "row_text", "looks_text", "number_of", "pair_of", "limit_of", "share_of", "look_of", "log_of", "row_of", "looks_of", "told", "limit_in", "share_in"] : List PySem.Str) ++ (["look_in", "log_in", "row_in", "looks_in", "_law_box", "_law_take", "_law_cells", "_law_of", "_law_lists", "_law_same", "_law_limit", "_law_number", "_law_read", "_law_written", "_law_value", "_law_pair", "_law_common", "_law_due", "_law_drawn", "_law_bent"] : List PySem.Str) ++ (["_law_names_right", "_law_by_hand_right", "_law_right"] : List PySem.Str)
abbrev RR : PySem.W.OpenRow := PySem.W.OpenLaw.row PySem.Challenge.rw_quietshare_k15_small_things_as_texts
abbrev hkR : PySem.W.Hook := hookQ 5 fas fns
def obR (s : PySem.W.SharedT) : AlQ := obsQG 5 fas fns (HandSHeadRun.getT s)
theorem obR_eq (s : PySem.W.SharedT) : obR s = hkR.obs s.abs := obsQG_eq (HandSHeadRun.getT_eq s)
section
open PySem PySem.W PySem.Calls
theorem comb3 {δ α β γ : Type} {x : Option δ} {f : δ → α} {g : δ → β} {h : δ → γ} {a : α} {b : β} {c : γ} (A : x.map f = some a) (B : x.map g = some b) (C : x.map h = some c) : x.map (fun s => (f s, g s, h s)) = some (a, b, c) := by
  cases x with
  | none => cases A
  | some s =>
    have A1 := Option.some.inj A
    have B1 := Option.some.inj B
    have C1 := Option.some.inj C
    subst A1 B1 C1
    rfl
theorem runA (w : World) (os : OsState) : (HandSHeadRun.endF (HandSHeadRun.stepQ (HandSHeadRun.denQ HandSHeadRun.tabQ) RR.prog w) 8000 RR.prog w os).map (fun s => HandSHeadRun.looksF RR.prog (boot_heap w.params) s.abs) = some true := by
  kernel_rfl
theorem runB (w : World) (os : OsState) : (HandSHeadRun.endF (HandSHeadRun.stepQ (HandSHeadRun.denQ HandSHeadRun.tabQ) RR.prog w) 8000 RR.prog w os).map (fun s => HandSHeadRun.seenQ (PySem.W.view RR.prog [68]) loose (importedModules RR.prog.main.body) (fun s => xlAt (PySem.W.view RR.prog [68]) [] s && recOk RR.toRowW.records s) s.abs) = some (openGood (PySem.W.view RR.prog [68]) loose) := by
  kernel_rfl
def fas0 : List Qf := [.glo "_law_cells", .glo "_law_same", .glo "told", .glo "number_of", .glo "pair_of", .glo "is_tuple", .glo "is_number", .glo "is_limit", .glo "limit_of", .glo "limit_in", .glo "common_divisor", .glo "reduced", .glo "share_of", .glo "share_in", .glo "look_of", .glo "look_in", .glo "log_of", .glo "log_in", .glo "row_of", .glo "row_in", .glo "looks_of", .glo "looks_in", .glo "_law_read", .glo "_law_by_hand_right", .glo "pair_text", .glo "limit_text", .glo "share_text", .glo "look_text", .glo "log_text", .glo "words_text", .glo "row_text", .glo "looks_text", .glo "_law_names_right", .glo "_law_take", .glo "_law_of", .glo "_law_number", .glo "_law_common", .glo "_law_limit", .glo "_law_drawn", .glo "_law_written", .glo "_law_bent", .glo "_law_lists", .glo "_law_value", .glo "_law_pair", .glo "_law_due", .glo "_law_right", .glo "_law_box", .glo "law", .cls 0, .str "BLANK" " ", .str "DIGITS" "0123456789", .int "MOST_DIGITS" 60, .str "NONE" "-", .int "PAIR" 2, .meth 0 "parts", .mkr 0, .slot 0 "own_calls" 0, .slot 0 "own_failed" 1, .exq 10, .exq 11, .exq 12, .exq 13, .exq 14, .exq 7, .exq 8, .exq 9, .exc 13, .exms 13 [.own 14, .own 13, .own 12, .own 7, .own 8, .own 9, .own 11, .own 10] true, .kit 13 (.own 13) true, .kit 13 (.bi "ValueError") true, .kits 13 [.own 14, .own 10, .bi "LookupError"] false, .free "LookupError", .free "ValueError", .free "abs", .free "all", .free "bool", .free "enumerate", .free "int", .free "isinstance", .free "len", .free "list", .free "max", .free "min", .free "range", .free "str", .free "tuple", .free "zip"]
def fns0 : List DefQ := [⟨.glo "_law_cells", "_law_cells", "_law_cells", s_l_cells⟩, ⟨.glo "_law_same", "_law_same", "_law_same", s_l_same⟩, ⟨.glo "told", "told", "told", s_p_told⟩, ⟨.glo "number_of", "number_of", "number_of", s_p_number_of⟩, ⟨.glo "pair_of", "pair_of", "pair_of", s_p_pair_of⟩, ⟨.glo "is_tuple", "is_tuple", "is_tuple", s_p_is_tuple⟩, ⟨.glo "is_number", "is_number", "is_number", s_p_is_number⟩, ⟨.glo "is_limit", "is_limit", "is_limit", s_p_is_limit⟩, ⟨.glo "limit_of", "limit_of", "limit_of", s_p_limit_of⟩, ⟨.glo "limit_in", "limit_in", "limit_in", s_p_limit_in⟩, ⟨.glo "common_divisor", "common_divisor", "common_divisor", s_p_common_divisor⟩, ⟨.glo "reduced", "reduced", "reduced", s_p_reduced⟩, ⟨.meth 0 "__init__", "__init__", "Share.__init__", s_p_Share_init⟩, ⟨.meth 0 "parts", "parts", "Share.parts", s_p_Share_parts⟩, ⟨.glo "share_of", "share_of", "share_of", s_p_share_of⟩, ⟨.glo "share_in", "share_in", "share_in", s_p_share_in⟩, ⟨.glo "look_of", "look_of", "look_of", s_p_look_of⟩, ⟨.glo "look_in", "look_in", "look_in", s_p_look_in⟩, ⟨.glo "log_of", "log_of", "log_of", s_p_log_of⟩, ⟨.glo "log_in", "log_in", "log_in", s_p_log_in⟩, ⟨.glo "row_of", "row_of", "row_of", s_p_row_of⟩, ⟨.glo "row_in", "row_in", "row_in", s_p_row_in⟩, ⟨.glo "looks_of", "looks_of", "looks_of", s_p_looks_of⟩, ⟨.glo "looks_in", "looks_in", "looks_in", s_p_looks_in⟩, ⟨.glo "_law_read", "_law_read", "_law_read", s_l_read⟩, ⟨.glo "_law_by_hand_right", "_law_by_hand_right", "_law_by_hand_right", s_l_by_hand_right⟩, ⟨.glo "pair_text", "pair_text", "pair_text", s_p_pair_text⟩, ⟨.glo "limit_text", "limit_text", "limit_text", s_p_limit_text⟩, ⟨.glo "share_text", "share_text", "share_text", s_p_share_text⟩, ⟨.glo "look_text", "look_text", "look_text", s_p_look_text⟩, ⟨.glo "log_text", "log_text", "log_text", s_p_log_text⟩, ⟨.glo "words_text", "words_text", "words_text", s_p_words_text⟩, ⟨.glo "row_text", "row_text", "row_text", s_p_row_text⟩, ⟨.glo "looks_text", "looks_text", "looks_text", s_p_looks_text⟩, ⟨.glo "_law_names_right", "_law_names_right", "_law_names_right", s_l_names_right⟩, ⟨.glo "_law_take", "_law_take", "_law_take", s_l_take⟩, ⟨.glo "_law_of", "_law_of", "_law_of", s_l_of⟩, ⟨.glo "_law_number", "_law_number", "_law_number", s_l_number⟩, ⟨.glo "_law_common", "_law_common", "_law_common", s_l_common⟩, ⟨.glo "_law_limit", "_law_limit", "_law_limit", s_l_limit⟩, ⟨.glo "_law_drawn", "_law_drawn", "_law_drawn", s_l_drawn⟩, ⟨.glo "_law_written", "_law_written", "_law_written", s_l_written⟩, ⟨.glo "_law_bent", "_law_bent", "_law_bent", s_l_bent⟩, ⟨.glo "_law_lists", "_law_lists", "_law_lists", s_l_lists⟩, ⟨.glo "_law_value", "_law_value", "_law_value", s_l_value⟩, ⟨.glo "_law_pair", "_law_pair", "_law_pair", s_l_pair⟩, ⟨.glo "_law_due", "_law_due", "_law_due", s_l_due⟩, ⟨.glo "_law_right", "_law_right", "_law_right", s_l_right⟩, ⟨.glo "_law_box", "_law_box", "_law_box", s_l_box⟩, ⟨.glo "law", "law", "law", s_l_law⟩, ⟨.exc 13, "__init__", "BadText.__init__", s_exc_13⟩]
theorem runC0 (w : World) (os : OsState) : (HandSHeadRun.endF (HandSHeadRun.stepQ (HandSHeadRun.denQ HandSHeadRun.tabQ) RR.prog w) 8000 RR.prog w os).map (fun s => obsQG 5 fas0 fns0 (HandSHeadRun.getT s)) = some (valQ fns0) := by
  kernel_rfl
theorem fas_eq : fas0 = fas := rfl
theorem fns_eq : fns0 = fns := rfl
theorem runC (w : World) (os : OsState) : (HandSHeadRun.endF (HandSHeadRun.stepQ (HandSHeadRun.denQ HandSHeadRun.tabQ) RR.prog w) 8000 RR.prog w os).map obR = some (hkR.val w) := by
  have h := (runC0 w os)
  rw [fas_eq, fns_eq] at h
  exact h
theorem runR (w : World) : HandSHeadRun.RunEq RR (PySem.W.view RR.prog [68]) hkR obR 8000 loose w := fun os => comb3 (runA w os) (runB w os) (runC w os)
end
end Lw
namespace Q
open PySem L2
inductive D where
  | non | bl (b : Bool) | int (i : Int) | str (x : Str) | tup (xs : List D) | lst (xs : List D) | fro (xs : List D) | obj (c : Nat) (fs : List D) | exn (c : Nat) (fs : List D) | ref (k : Nat)
inductive Cell where
  | lst (xs : List D) | frz (xs : List D) | dk (lk : Bool) (kvs : List (Key × D)) | dt (lk : Bool) (kvs : List (List Key × D)) | ob (c : Nat) (fs : List (Option D))
def Cell.live : Cell → Bool
  | .lst _ => true
  | .frz _ => false
  | .dk lk _ => !lk
  | .dt lk _ => !lk
  | .ob _ _ => true
abbrev Store := List Cell
abbrev Env := List (Option D)
structure Exn where
  cls : Nat
  fs : List D
inductive Res (β : Type) where
  | ok (a : β) (S : Store) | ex (e : Exn) (S : Store) | no
def Res.bind {β γ : Type} (r : Res β) (f : β → Store → Res γ) : Res γ := match r with
  | .ok a S => f a S
  | .ex e S => .ex e S
  | .no => .no
@[simp] theorem bind_ok {β γ : Type} (a : β) (S : Store) (f : β → Store → Res γ) : (Res.ok a S).bind f = f a S := rfl
@[simp] theorem bind_no {β γ : Type} (f : β → Store → Res γ) : (Res.no : Res β).bind f = .no := rfl
@[simp] theorem bind_ex {β γ : Type} (e : Exn) (S : Store) (f : β → Store → Res γ) : (Res.ex e S : Res β).bind f = .ex e S := rfl
structure Gm where
  K : PySem.W.Frag
  cl : Nat → Addr
def ObAt (G : Hp) (a C : Addr) (vs : List V) : Prop := ∃ dx, G a = some (SlX.SlO a C dx (vs.map some)) ∧ G dx = some (.xd [])
def ExK (cls : Value) (d : Option Addr) (a : Addr) : HO := .ext fun h => ∃ (oe : Obj) (ws : Array Value), h.get? a = some oe ∧ Zc cls d oe ∧ oe.data = .fields ws
def ExF (G : Hp) (d : Option Addr) (vs : List V) : Prop := (vs = [] ∧ d = none) ∨ ∃ (nm : Str) (v : V) (dd : Addr), vs = [.str nm, v] ∧ d = some dd ∧ G dd = some (.xd [(nm, v)])
def ExAt (G : Hp) (a C : Addr) (vs : List V) : Prop := ∃ d, G a = some (ExK (.ref C) d a) ∧ ExF G d vs
theorem ExF.keep {G G' : Hp} (k : ∀ a fs, G a = some (.xd fs) → G' a = some (.xd fs)) {d : Option Addr} {vs : List V} (h : ExF G d vs) : ExF G' d vs := by
  rcases h with h | ⟨nm, v, dd, e1, e2, e3⟩
  · exact .inl h
  · exact .inr ⟨nm, v, dd, e1, e2, k _ _ e3⟩
section
variable (Γ : Gm) (α : List Addr) (G : Hp)
mutual
def Rep : D → V → Prop
  | .non, v => v = .non
  | .bl b, v => v = .bl b
  | .int i, v => v = .int i
  | .str s, v => v = .str s
  | .tup ds, v => ∃ a vs, v = .ref a ∧ G a = some (.tup vs) ∧ RepL ds vs
  | .lst ds, v => ∃ a vs, v = .ref a ∧ G a = some (.lst vs) ∧ RepL ds vs
  | .fro ds, v => ∃ a vs, v = .ref a ∧ SqL Γ.K G a vs ∧ RepL ds vs
  | .obj c fs, v => ∃ a vs, v = .ref a ∧ ObAt G a (Γ.cl c) vs ∧ RepL fs vs
  | .exn c fs, v => ∃ a vs, v = .ref a ∧ ExAt G a (Γ.cl c) vs ∧ RepL fs vs
  | .ref k, v => ∃ a, v = .ref a ∧ α[k]? = some a
def RepL : List D → List V → Prop
  | [], vs => vs = []
  | d :: ds, vs => ∃ v r, vs = v :: r ∧ Rep d v ∧ RepL ds r
end
end
def Sub (G H : Hp) : Prop := ∀ a o, G a = some o → H a = some o
theorem Sub.refl (G : Hp) : Sub G G := fun _ _ h => h
theorem Sub.trans {G H J : Hp} (a : Sub G H) (b : Sub H J) : Sub G J := fun x o h => b x o (a x o h)
theorem Sub.new {H : Hp} {p : Addr} {o : HO} (h : H p = none) : Sub H (upd H p o) := fun a u e => by
  rw [upd_ne (ne_of_none e h)]; exact e
theorem Sub.rd {G H : Hp} (s : Sub G H) {a : Addr} {u : HO} (h : Rd G a u) : Rd H a u := by
  rcases h with h | ⟨o, h⟩
  · exact .inl (s a _ h)
  · exact .inr ⟨o, s a _ h⟩
theorem Sub.sqL {K : PySem.W.Frag} {G H : Hp} (s : Sub G H) {a : Addr} {xs : List V} (h : SqL K G a xs) : SqL K H a xs := by
  rcases h with h | h
  · exact .inl (s.rd h)
  · exact .inr h
theorem Sub.sqT {K : PySem.W.Frag} {G H : Hp} (s : Sub G H) {a : Addr} {xs : List V} (h : SqT K G a xs) : SqT K H a xs := by
  rcases h with h | h
  · exact .inl (s.rd h)
  · exact .inr h
theorem Sub.none {G H : Hp} (s : Sub G H) {a : Addr} (h : H a = none) : G a = none := by
  cases q : G a with
  | none => rfl
  | some o => rw [s a o q] at h; cases h
section
variable {Γ : Gm} {α α' : List Addr} {G G' : Hp}
mutual
theorem Rep.mono (hp : ∃ β, α' = α ++ β) (hs : Sub G G') : ∀ (d : D) (v : V), Rep Γ α G d v → Rep Γ α' G' d v
  | .non, v, h => by simpa [Rep] using h
  | .bl b, v, h => by simpa [Rep] using h
  | .int i, v, h => by simpa [Rep] using h
  | .str s, v, h => by simpa [Rep] using h
  | .tup ds, v, h => by
    unfold Rep at h ⊢
    obtain ⟨a, vs, e, q, r⟩ := h
    exact ⟨a, vs, e, hs _ _ q, RepL.mono hp hs ds vs r⟩
  | .lst ds, v, h => by
    unfold Rep at h ⊢
    obtain ⟨a, vs, e, q, r⟩ := h
    exact ⟨a, vs, e, hs _ _ q, RepL.mono hp hs ds vs r⟩
  | .fro ds, v, h => by
    unfold Rep at h ⊢
    obtain ⟨a, vs, e, q, r⟩ := h
    exact ⟨a, vs, e, hs.sqL q, RepL.mono hp hs ds vs r⟩
  | .obj c fs, v, h => by
    unfold Rep at h ⊢
    obtain ⟨a, vs, e, ⟨dx, h1, h2⟩, r⟩ := h
    exact ⟨a, vs, e, ⟨dx, hs _ _ h1, hs _ _ h2⟩, RepL.mono hp hs fs vs r⟩
  | .exn c fs, v, h => by
    unfold Rep at h ⊢
    obtain ⟨a, vs, e, ⟨d, h1, h2⟩, r⟩ := h
    exact ⟨a, vs, e, ⟨d, hs _ _ h1, h2.keep fun _ _ z => hs _ _ z⟩, RepL.mono hp hs fs vs r⟩
  | .ref k, v, h => by
    unfold Rep at h ⊢
    obtain ⟨a, e, q⟩ := h
    obtain ⟨β, rfl⟩ := hp
    exact ⟨a, e, by rw [List.getElem?_append_left (List.getElem?_eq_some_iff.mp q).1]; exact q⟩
theorem RepL.mono (hp : ∃ β, α' = α ++ β) (hs : Sub G G') : ∀ (ds : List D) (vs : List V), RepL Γ α G ds vs → RepL Γ α' G' ds vs
  | [], vs, h => by simpa [RepL] using h
  | d :: ds, vs, h => by
    unfold RepL at h ⊢
    obtain ⟨v, r, e, h1, h2⟩ := h
    exact ⟨v, r, e, Rep.mono hp hs d v h1, RepL.mono hp hs ds r h2⟩
end
theorem RepL.length : ∀ {ds : List D} {vs : List V}, RepL Γ α G ds vs → ds.length = vs.length
  | [], vs, h => by unfold RepL at h; subst h; rfl
  | d :: ds, vs, h => by
    unfold RepL at h
    obtain ⟨v, r, rfl, _, h2⟩ := h
    simp [RepL.length h2]
theorem RepL.get : ∀ {ds : List D} {vs : List V} {i : Nat} {d : D}, RepL Γ α G ds vs → ds[i]? = some d → ∃ v, vs[i]? = some v ∧ Rep Γ α G d v
  | [], _, _, _, _, h => by simp at h
  | d :: ds, vs, 0, e, r, h => by
    unfold RepL at r
    obtain ⟨v, w, rfl, h1, _⟩ := r
    simp at h
    subst h
    exact ⟨v, rfl, h1⟩
  | d :: ds, vs, i + 1, e, r, h => by
    unfold RepL at r
    obtain ⟨v, w, rfl, _, h2⟩ := r
    simpa using RepL.get h2 (by simpa using h)
theorem RepL.append : ∀ {ds es : List D} {vs ws : List V}, RepL Γ α G ds vs → RepL Γ α G es ws → RepL Γ α G (ds ++ es) (vs ++ ws)
  | [], es, vs, ws, h, h' => by
    unfold RepL at h; subst h; exact h'
  | d :: ds, es, vs, ws, h, h' => by
    unfold RepL at h
    obtain ⟨v, r, rfl, h1, h2⟩ := h
    show RepL Γ α G (d :: (ds ++ es)) (v :: (r ++ ws))
    unfold RepL
    exact ⟨v, _, rfl, h1, RepL.append h2 h'⟩
theorem RepL.set : ∀ {ds : List D} {vs : List V} (i : Nat) {d : D} {v : V}, RepL Γ α G ds vs → Rep Γ α G d v → RepL Γ α G (ds.set i d) (vs.set i v)
  | [], vs, i, d, v, h, _ => by unfold RepL at h; subst h; simp [RepL]
  | e :: ds, vs, 0, d, v, h, hv => by
    unfold RepL at h
    obtain ⟨w, r, rfl, h1, h2⟩ := h
    show RepL Γ α G (d :: ds) (v :: r)
    unfold RepL
    exact ⟨v, r, rfl, hv, h2⟩
  | e :: ds, vs, i + 1, d, v, h, hv => by
    unfold RepL at h
    obtain ⟨w, r, rfl, h1, h2⟩ := h
    show RepL Γ α G (e :: ds.set i d) (w :: r.set i v)
    unfold RepL
    exact ⟨w, _, rfl, h1, RepL.set i h2 hv⟩
theorem RepL.take : ∀ {ds : List D} {vs : List V} (n : Nat), RepL Γ α G ds vs → RepL Γ α G (ds.take n) (vs.take n)
  | ds, vs, 0, h => by simp [RepL]
  | [], vs, n + 1, h => by unfold RepL at h; subst h; simp [RepL]
  | d :: ds, vs, n + 1, h => by
    unfold RepL at h
    obtain ⟨w, r, rfl, h1, h2⟩ := h
    show RepL Γ α G (d :: ds.take n) (w :: r.take n)
    unfold RepL
    exact ⟨w, _, rfl, h1, RepL.take n h2⟩
theorem RepL.drop : ∀ {ds : List D} {vs : List V} (n : Nat), RepL Γ α G ds vs → RepL Γ α G (ds.drop n) (vs.drop n)
  | ds, vs, 0, h => h
  | [], vs, n + 1, h => by unfold RepL at h; subst h; simp [RepL]
  | d :: ds, vs, n + 1, h => by
    unfold RepL at h
    obtain ⟨w, r, rfl, h1, h2⟩ := h
    exact RepL.drop n h2
end
def RepKV (Γ : Gm) (α : List Addr) (G : Hp) {κ : Type} : List (κ × D) → List (κ × V) → Prop
  | [], ws => ws = []
  | kd :: r, ws => ∃ v t, ws = (kd.1, v) :: t ∧ Rep Γ α G kd.2 v ∧ RepKV Γ α G r t
def RepO (Γ : Gm) (α : List Addr) (G : Hp) (fs : List (Option D)) (vs : List (Option V)) : Prop := ∀ (i : Nat) (d : D), fs[i]? = some (some d) → ∃ v, vs[i]? = some (some v) ∧ Rep Γ α G d v
def RepC (Γ : Gm) (α : List Addr) (G : Hp) (a : Addr) : Cell → HO → Prop
  | .lst ds, o => ∃ vs, o = .lst vs ∧ RepL Γ α G ds vs
  | .frz ds, o => ∃ vs, o = .lst vs ∧ RepL Γ α G ds vs
  | .dk lk kvs, o => ∃ ws, RepKV Γ α G kvs ws ∧ ((lk = false ∧ o = .dK ws) ∨ (lk = true ∧ ∃ od, o = .frz od (.dK ws)))
  | .dt lk kvs, o => ∃ ws, RepKV Γ α G kvs ws ∧ ((lk = false ∧ o = .dT ws) ∨ (lk = true ∧ ∃ od, o = .frz od (.dT ws)))
  | .ob c fs, o => ∃ dx vs, o = SlX.SlO a (Γ.cl c) dx vs ∧ G dx = some (.xd []) ∧ RepO Γ α G fs vs
def CellOk (Γ : Gm) (α : List Addr) (G H : Hp) (a : Addr) (c : Cell) : Prop := ∃ o, RepC Γ α G a c o ∧ ((c.live = true ∧ H a = some o ∧ G a = none) ∨ (c.live = false ∧ G a = some o))
section
variable {Γ : Gm} {α α' : List Addr} {G G' H H' : Hp} {a : Addr}
theorem RepKV.mono {κ : Type} (hp : ∃ β, α' = α ++ β) (hs : Sub G G') : ∀ {kvs : List (κ × D)} {ws : List (κ × V)}, RepKV Γ α G kvs ws → RepKV Γ α' G' kvs ws
  | [], ws, h => by simpa [RepKV] using h
  | (k, d) :: r, ws, h => by
    unfold RepKV at h ⊢
    obtain ⟨v, t, e, h1, h2⟩ := h
    exact ⟨v, t, e, Rep.mono hp hs _ _ h1, RepKV.mono hp hs h2⟩
theorem RepO.mono (hp : ∃ β, α' = α ++ β) (hs : Sub G G') {fs : List (Option D)} {vs : List (Option V)} (h : RepO Γ α G fs vs) : RepO Γ α' G' fs vs := fun i d hd => by
  obtain ⟨v, e, r⟩ := h i d hd
  exact ⟨v, e, Rep.mono hp hs _ _ r⟩
theorem RepC.mono (hp : ∃ β, α' = α ++ β) (hs : Sub G G') {c : Cell} {o : HO} (h : RepC Γ α G a c o) : RepC Γ α' G' a c o := by
  cases c with
  | lst ds => obtain ⟨vs, e, r⟩ := h; exact ⟨vs, e, RepL.mono hp hs _ _ r⟩
  | frz ds => obtain ⟨vs, e, r⟩ := h; exact ⟨vs, e, RepL.mono hp hs _ _ r⟩
  | dk lk kvs => obtain ⟨ws, r, e⟩ := h; exact ⟨ws, r.mono hp hs, e⟩
  | dt lk kvs => obtain ⟨ws, r, e⟩ := h; exact ⟨ws, r.mono hp hs, e⟩
  | ob c fs => obtain ⟨dx, vs, e, hx, r⟩ := h; exact ⟨dx, vs, e, hs _ _ hx, r.mono hp hs⟩
theorem RepC.ntup {c : Cell} {o : HO} (h : RepC Γ α G a c o) : ∀ xs, o ≠ .tup xs := by
  intro xs z
  cases c with
  | lst ds => obtain ⟨vs, e, r⟩ := h; rw [e] at z; cases z
  | frz ds => obtain ⟨vs, e, r⟩ := h; rw [e] at z; cases z
  | dk lk kvs =>
    obtain ⟨ws, r, e⟩ := h
    rcases e with ⟨_, e⟩ | ⟨_, od, e⟩ <;> (rw [e] at z; cases z)
  | dt lk kvs =>
    obtain ⟨ws, r, e⟩ := h
    rcases e with ⟨_, e⟩ | ⟨_, od, e⟩ <;> (rw [e] at z; cases z)
  | ob c fs => obtain ⟨dx, vs, e, hx, r⟩ := h; rw [e] at z; unfold SlX.SlO at z; cases z
theorem CellOk.mono {c : Cell} (h : CellOk Γ α G H a c) (hp : ∃ β, α' = α ++ β) (hs : Sub G G') (hl : c.live = true → H' a = H a ∧ (G a = none → G' a = none)) : CellOk Γ α' G' H' a c := by
  obtain ⟨o, r, h⟩ := h
  refine ⟨o, r.mono hp hs, ?_⟩
  rcases h with ⟨l, h1, h2⟩ | ⟨l, h1⟩
  · exact .inl ⟨l, by rw [(hl l).1]; exact h1, (hl l).2 h2⟩
  · exact .inr ⟨l, hs _ _ h1⟩
theorem CellOk.ntup {c : Cell} (h : CellOk Γ α G H a c) (hs : Sub G H) : ∀ xs, H a ≠ some (.tup xs) := by
  intro xs z
  obtain ⟨o, r, h⟩ := h
  rcases h with ⟨_, h1, _⟩ | ⟨_, h1⟩
  · rw [h1] at z; exact r.ntup xs (Option.some.inj z)
  · rw [hs _ _ h1] at z; exact r.ntup xs (Option.some.inj z)
theorem CellOk.lst {ds : List D} (h : CellOk Γ α G H a (.lst ds)) : ∃ vs, H a = some (.lst vs) ∧ RepL Γ α G ds vs ∧ G a = none := by
  obtain ⟨o, ⟨vs, e, r⟩, h⟩ := h
  subst e
  rcases h with ⟨_, h1, h2⟩ | ⟨l, _⟩
  · exact ⟨vs, h1, r, h2⟩
  · cases l
theorem CellOk.frz {ds : List D} (h : CellOk Γ α G H a (.frz ds)) : ∃ vs, G a = some (.lst vs) ∧ RepL Γ α G ds vs := by
  obtain ⟨o, ⟨vs, e, r⟩, h⟩ := h
  subst e
  rcases h with ⟨l, _⟩ | ⟨_, h1⟩
  · cases l
  · exact ⟨vs, h1, r⟩
theorem CellOk.mkL {ds : List D} {vs : List V} (h1 : H a = some (.lst vs)) (r : RepL Γ α G ds vs) (h2 : G a = none) : CellOk Γ α G H a (.lst ds) := ⟨_, ⟨vs, rfl, r⟩, .inl ⟨rfl, h1, h2⟩⟩
theorem CellOk.mkF {ds : List D} {vs : List V} (h1 : G a = some (.lst vs)) (r : RepL Γ α G ds vs) : CellOk Γ α G H a (.frz ds) := ⟨_, ⟨vs, rfl, r⟩, .inr ⟨rfl, h1⟩⟩
end
structure Rl (Γ : Gm) (α : List Addr) (G : Hp) (S : Store) (H : Hp) : Prop where
  sub : Sub G H
  len : α.length = S.length
  nd : α.Nodup
  tr : ∀ a ∈ α, H a ≠ none
  ok : ∀ (k : Nat) (c : Cell) (a : Addr), S[k]? = some c → α[k]? = some a → CellOk Γ α G H a c
structure Ext (α : List Addr) (G H : Hp) (α' : List Addr) (G' H' : Hp) : Prop where
  pre : ∃ β, α' = α ++ β
  sub : Sub G G'
  fr : ∀ a o, H a = some o → a ∉ α → H' a = some o
  na : ∀ a ∈ α', a ∈ α ∨ H a = none
  ng : ∀ a, G' a ≠ none → G a ≠ none ∨ a ∈ α ∨ H a = none ∨ ∃ xs, H a = some (.tup xs)
theorem Ext.refl (α : List Addr) (G H : Hp) : Ext α G H α G H := ⟨⟨[], by simp⟩, Sub.refl G, fun _ _ h _ => h, fun _ h => .inl h, fun _ h => .inl h⟩
theorem Ext.back {α α' : List Addr} {G H G' H' : Hp} (e : Ext α G H α' G' H') {a : Addr} (h : H' a = none) : a ∈ α ∨ H a = none := by
  by_cases m : a ∈ α
  · exact .inl m
  · cases q : H a with
    | none => exact .inr rfl
    | some o => rw [e.fr a o q m] at h; cases h
theorem Ext.mem {α α' : List Addr} {G H G' H' : Hp} (e : Ext α G H α' G' H') {a : Addr} (h : a ∈ α) : a ∈ α' := by
  obtain ⟨β, rfl⟩ := e.pre
  exact List.mem_append_left _ h
theorem Ext.trans {α α1 α2 : List Addr} {G H G1 H1 G2 H2 : Hp} (a : Ext α G H α1 G1 H1) (b : Ext α1 G1 H1 α2 G2 H2) : Ext α G H α2 G2 H2 := by
  refine ⟨?_, a.sub.trans b.sub, fun x o h m => ?_, fun x m => ?_, fun x h => ?_⟩
  · obtain ⟨β, rfl⟩ := a.pre
    obtain ⟨γ, rfl⟩ := b.pre
    exact ⟨β ++ γ, by simp⟩
  · refine b.fr x o (a.fr x o h m) fun m1 => ?_
    rcases a.na x m1 with z | z
    · exact m z
    · rw [z] at h; cases h
  · rcases b.na x m with z | z
    · exact a.na x z
    · exact a.back z
  · rcases b.ng x h with z | z | z | ⟨xs, z⟩
    · exact a.ng x z
    · rcases a.na x z with z | z
      · exact .inr (.inl z)
      · exact .inr (.inr (.inl z))
    · rcases a.back z with z | z
      · exact .inr (.inl z)
      · exact .inr (.inr (.inl z))
    · by_cases m : x ∈ α
      · exact .inr (.inl m)
      · cases q : H x with
        | none => exact .inr (.inr (.inl rfl))
        | some o =>
          have q2 := a.fr x o q m
          rw [z] at q2
          cases q2
          exact .inr (.inr (.inr ⟨xs, rfl⟩))
def ExR (Γ : Gm) (α : List Addr) (G : Hp) (e : Exn) (c : Value) (x : Option Addr) (H : Hp) : Prop := c = .ref (Γ.cl e.cls) ∧ ∃ vs, RepL Γ α G e.fs vs ∧ ExF G x vs
section
variable (Γ : Gm)
def Post {β γ : Type} (R : List Addr → Hp → β → γ → Prop) (α : List Addr) (G H : Hp) (r : Res β) (Q : γ → Hp → Prop) (E : XK) : Prop := match r with
  | .ok d S' => ∀ α' G' H' v, Ext α G H α' G' H' → Rl Γ α' G' S' H' → R α' G' d v → Q v H'
  | .ex e S' => ∀ α' G' H' c x, Ext α G H α' G' H' → Rl Γ α' G' S' H' → ExR Γ α' G' e c x H' → E c x H'
  | .no => False
end
section
variable {Γ : Gm} {β γ δ ε : Type} {R : List Addr → Hp → β → γ → Prop} {R' : List Addr → Hp → δ → ε → Prop} {α α1 : List Addr} {G H G1 H1 : Hp} {Q : γ → Hp → Prop} {Q' : ε → Hp → Prop} {E : XK}
theorem Post.mono {r : Res β} (h : Post Γ R α G H r Q E) (e : Ext α G H α1 G1 H1) : Post Γ R α1 G1 H1 r Q E := by
  cases r with
  | ok d S' => exact fun α' G' H' v x rl rp => h α' G' H' v (e.trans x) rl rp
  | ex d S' => exact fun α' G' H' c x y rl rp => h α' G' H' c x (e.trans y) rl rp
  | no => exact h
theorem post_bind {r : Res β} {f : β → Store → Res δ} (h : Post Γ R' α G H (r.bind f) Q' E)
    (k : ∀ a S1 α1 G1 H1 x, r = .ok a S1 → Ext α G H α1 G1 H1 → Rl Γ α1 G1 S1 H1 → R α1 G1 a x → Post Γ R' α1 G1 H1 (f a S1) Q' E → Q x H1) : Post Γ R α G H r Q E := by
  cases r with
  | ok d S' =>
    intro α' G' H' v e rl rp
    exact k d S' α' G' H' v rfl e rl rp (Post.mono h e)
  | ex e S' => exact h
  | no => exact h
theorem post_ok {a : β} {S : Store} {x : γ} (h : Post Γ R α G H (.ok a S) Q E) (rl : Rl Γ α G S H) (rp : R α G a x) : Q x H := h α G H x (Ext.refl α G H) rl rp
end
def EnvR (Γ : Gm) (α : List Addr) (G : Hp) (ρ : Env) (σ : L2.St) : Prop := ρ.length = σ.length ∧ ∀ (i : Nat) d, ρ[i]? = some (some d) → ∃ v, σ[i]? = some (some v) ∧ Rep Γ α G d v
theorem EnvR.mono {Γ : Gm} {α α' : List Addr} {G H G' H' : Hp} {ρ : Env} {σ : L2.St} (h : EnvR Γ α G ρ σ) (e : Ext α G H α' G' H') : EnvR Γ α' G' ρ σ :=
  ⟨h.1, fun i d hi => let ⟨v, a, b⟩ := h.2 i d hi; ⟨v, a, Rep.mono e.pre e.sub _ _ b⟩⟩
theorem EnvR.set {Γ : Gm} {α : List Addr} {G : Hp} {ρ : Env} {σ : L2.St} (h : EnvR Γ α G ρ σ) (i : Nat) {d : D} {v : V} (r : Rep Γ α G d v) : EnvR Γ α G (ρ.set i (some d)) (σ.set i (some v)) := by
  refine ⟨by simp [h.1], fun j e hj => ?_⟩
  by_cases hij : i = j
  · subst hij
    have hl : i < ρ.length := by
      have := (List.getElem?_eq_some_iff.mp hj).1
      simpa using this
    rw [List.getElem?_set_self hl] at hj
    cases hj
    exact ⟨v, List.getElem?_set_self (by rw [← h.1]; exact hl), r⟩
  · rw [List.getElem?_set_ne hij] at hj
    obtain ⟨w, h1, h2⟩ := h.2 j e hj
    exact ⟨w, by rw [List.getElem?_set_ne hij]; exact h1, h2⟩
abbrev ME := Env → Store → Res D
abbrev MT := Env → Store → Res Bool
abbrev MA := Env → Store → Res (List D)
inductive Fl where
  | nx (ρ : Env) | rt (d : D) | bk (ρ : Env) | ct (ρ : Env)
abbrev MS := Env → Store → Res Fl
def RB : List Addr → Hp → Bool → Bool → Prop := fun _ _ a b => a = b
section
variable (Γ : Gm) (E : XK)
def SndE (t : TE) (m : ME) : Prop := ∀ (ρ : Env) (S : Store) (σ : L2.St) (α : List Addr) (G H : Hp) (Q : VK), EnvR Γ α G ρ σ → Rl Γ α G S H → Post Γ (Rep Γ) α G H (m ρ S) Q E → t σ H Q
def SndT (t : TT) (m : MT) : Prop := ∀ (ρ : Env) (S : Store) (σ : L2.St) (α : List Addr) (G H : Hp) (Q : Bool → Hp → Prop), EnvR Γ α G ρ σ → Rl Γ α G S H → Post Γ RB α G H (m ρ S) Q E → t σ H Q
def SndA (t : TA) (m : MA) : Prop := ∀ (ρ : Env) (S : Store) (σ : L2.St) (α : List Addr) (G H : Hp) (Q : List V → Hp → Prop), EnvR Γ α G ρ σ → Rl Γ α G S H → Post Γ (RepL Γ) α G H (m ρ S) Q E → t σ H Q
def PostS (α : List Addr) (G H : Hp) (r : Res Fl) (Dn : Ends) : Prop := match r with
  | .ok (.nx ρ) S' => ∀ α' G' H' σ', Ext α G H α' G' H' → Rl Γ α' G' S' H' → EnvR Γ α' G' ρ σ' → Dn.nx σ' H'
  | .ok (.rt d) S' => ∀ α' G' H' v, Ext α G H α' G' H' → Rl Γ α' G' S' H' → Rep Γ α' G' d v → Dn.rt v H'
  | .ok (.bk ρ) S' => ∀ α' G' H' σ', Ext α G H α' G' H' → Rl Γ α' G' S' H' → EnvR Γ α' G' ρ σ' → Dn.bk σ' H'
  | .ok (.ct ρ) S' => ∀ α' G' H' σ', Ext α G H α' G' H' → Rl Γ α' G' S' H' → EnvR Γ α' G' ρ σ' → Dn.ct σ' H'
  | .ex e S' => ∀ α' G' H' c x, Ext α G H α' G' H' → Rl Γ α' G' S' H' → ExR Γ α' G' e c x H' → E c x H'
  | .no => False
def SndS (t : TS) (m : MS) : Prop := ∀ (ρ : Env) (S : Store) (σ : L2.St) (α : List Addr) (G H : Hp) (Dn : Ends), EnvR Γ α G ρ σ → Rl Γ α G S H → PostS Γ E α G H (m ρ S) Dn → t Dn σ H
end
theorem PostS.mono {Γ : Gm} {E : XK} {α α1 : List Addr} {G H G1 H1 : Hp} {r : Res Fl} {Dn : Ends} (h : PostS Γ E α G H r Dn) (e : Ext α G H α1 G1 H1) : PostS Γ E α1 G1 H1 r Dn := by
  cases r with
  | ok f S' => cases f <;> exact fun α' G' H' v x rl rp => h α' G' H' v (e.trans x) rl rp
  | ex d S' => exact fun α' G' H' c x y rl rp => h α' G' H' c x (e.trans y) rl rp
  | no => exact h
theorem posts_bind {Γ : Gm} {E : XK} {β γ : Type} {R : List Addr → Hp → β → γ → Prop} {α : List Addr} {G H : Hp} {r : Res β} {f : β → Store → Res Fl} {Dn : Ends} {Q : γ → Hp → Prop} (h : PostS Γ E α G H (r.bind f) Dn)
    (k : ∀ a S1 α1 G1 H1 x, r = .ok a S1 → Ext α G H α1 G1 H1 → Rl Γ α1 G1 S1 H1 → R α1 G1 a x → PostS Γ E α1 G1 H1 (f a S1) Dn → Q x H1) : Post Γ R α G H r Q E := by
  cases r with
  | ok d S' =>
    intro α' G' H' v e rl rp
    exact k d S' α' G' H' v rfl e rl rp (PostS.mono h e)
  | ex e S' => exact h
  | no => exact h
structure QE (X : Cx) (cl : Nat → Addr) (E : XK) (e : Expr) (m : ME) : Prop where
  ex : ∃ t, PE X e t ∧ SndE ⟨X.K, cl⟩ E t m
structure QT (X : Cx) (cl : Nat → Addr) (E : XK) (e : Expr) (m : MT) : Prop where
  ex : ∃ t, PT X e t ∧ SndT ⟨X.K, cl⟩ E t m
structure QW (X : Cx) (cl : Nat → Addr) (E : XK) (e : Expr) (m : MT) : Prop where
  ex : ∃ t, PW X e t ∧ SndT ⟨X.K, cl⟩ E t m
structure QA (X : Cx) (cl : Nat → Addr) (E : XK) (es : List Expr) (m : MA) : Prop where
  ex : ∃ t, PA X es t ∧ SndA ⟨X.K, cl⟩ E t m
structure QS (X : Cx) (cl : Nat → Addr) (E : XK) (st : Stmt) (m : MS) : Prop where
  ex : ∃ t, PS X st t ∧ SndS ⟨X.K, cl⟩ E t m
structure QSs (X : Cx) (cl : Nat → Addr) (E : XK) (st : List Stmt) (m : MS) : Prop where
  ex : ∃ t, PSs X st t ∧ SndS ⟨X.K, cl⟩ E t m
end Q
namespace Q
open PySem L2
theorem Sub.upd2 {G H : Hp} (s : Sub G H) (p : Addr) (o : HO) : Sub (upd G p o) (upd H p o) := fun a u e => by
  by_cases h : a = p
  · subst h; rw [upd_same] at e ⊢; exact e
  · rw [upd_ne h] at e ⊢; exact s a u e
section
variable {Γ : Gm} {α : List Addr} {G H : Hp} {S : Store}
theorem Rl.ntup (R : Rl Γ α G S H) {a : Addr} (h : a ∈ α) : ∀ xs, H a ≠ some (.tup xs) := by
  obtain ⟨k, hk⟩ := List.mem_iff_getElem?.mp h
  have hl : k < S.length := by rw [← R.len]; exact (List.getElem?_eq_some_iff.mp hk).1
  exact (R.ok k S[k] a (List.getElem?_eq_getElem hl) hk).ntup R.sub
theorem Rl.gnone (R : Rl Γ α G S H) {p : Addr} (h : H p = none) : G p = none := R.sub.none h
theorem Rl.get (R : Rl Γ α G S H) {k : Nat} {c : Cell} (h : S[k]? = some c) : ∃ a, α[k]? = some a ∧ a ∈ α ∧ CellOk Γ α G H a c := by
  have hl : k < α.length := by rw [R.len]; exact (List.getElem?_eq_some_iff.mp h).1
  exact ⟨α[k], List.getElem?_eq_getElem hl, List.getElem_mem hl, R.ok k c _ h (List.getElem?_eq_getElem hl)⟩
theorem Rl.new (R : Rl Γ α G S H) {p : Addr} (hp : H p = none) (o : HO) : Rl Γ α (upd G p o) S (upd H p o) ∧ Ext α G H α (upd G p o) (upd H p o) := by
  have ne : ∀ a ∈ α, a ≠ p := fun a m e => by subst e; exact R.tr a m hp
  have sg : Sub G (upd G p o) := Sub.new (R.gnone hp)
  refine ⟨⟨R.sub.upd2 p o, R.len, R.nd, fun a m => by rw [upd_ne (ne a m)]; exact R.tr a m, fun k c a hc ha => ?_⟩, ⟨⟨[], by simp⟩, sg, fun a u e _ => ?_, fun a m => .inl m, fun a h => ?_⟩⟩
  · have hm : a ∈ α := List.mem_of_getElem? ha
    exact (R.ok k c a hc ha).mono ⟨[], by simp⟩ sg fun _ => ⟨upd_ne (ne a hm), fun h3 => by rw [upd_ne (ne a hm)]; exact h3⟩
  · rw [upd_ne (ne_of_none e hp)]; exact e
  · by_cases e : a = p
    · subst e; exact .inr (.inr (.inl hp))
    · rw [upd_ne e] at h; exact .inl h
theorem Rl.out (R : Rl Γ α G S H) {p : Addr} (hp : H p = none) (o : HO) : Rl Γ α G S (upd H p o) ∧ Ext α G H α G (upd H p o) := by
  have ne : ∀ a ∈ α, a ≠ p := fun a m e => by subst e; exact R.tr a m hp
  refine ⟨⟨R.sub.trans (Sub.new hp), R.len, R.nd, fun a m => by rw [upd_ne (ne a m)]; exact R.tr a m, fun k c a hc ha => ?_⟩, ⟨⟨[], by simp⟩, Sub.refl G, fun a u e _ => ?_, fun a m => .inl m, fun a h => .inl h⟩⟩
  · have hm : a ∈ α := List.mem_of_getElem? ha
    exact (R.ok k c a hc ha).mono ⟨[], by simp⟩ (Sub.refl G) fun _ => ⟨upd_ne (ne a hm), fun h3 => h3⟩
  · rw [upd_ne (ne_of_none e hp)]; exact e
theorem Rl.cellC (R : Rl Γ α G S H) {p : Addr} (hp : H p = none) {c0 : Cell} {o0 : HO} (hl : c0.live = true) (r : RepC Γ α G p c0 o0) :
    Rl Γ (α ++ [p]) G (S ++ [c0]) (upd H p o0) ∧ Ext α G H (α ++ [p]) G (upd H p o0) ∧ Rep Γ (α ++ [p]) G (.ref S.length) (.ref p) := by
  have ne : ∀ a ∈ α, a ≠ p := fun a m e => by subst e; exact R.tr a m hp
  refine ⟨⟨R.sub.trans (Sub.new hp), by simp [R.len], ?_, fun a m => ?_, fun k c a hc ha => ?_⟩, ⟨⟨[p], rfl⟩, Sub.refl G, fun a u e _ => by rw [upd_ne (ne_of_none e hp)]; exact e, fun a m => ?_, fun a h => .inl h⟩, ?_⟩
  · rw [List.nodup_append]
    exact ⟨R.nd, by simp, fun a m b mb => by simp at mb; subst mb; exact ne a m⟩
  · by_cases e : a = p
    · subst e; rw [upd_same]; simp
    · rw [upd_ne e]
      rcases List.mem_append.mp m with m | m
      · exact R.tr a m
      · simp at m; exact absurd m e
  · by_cases hk : k < α.length
    · rw [List.getElem?_append_left hk] at ha
      rw [List.getElem?_append_left (by rw [← R.len]; exact hk)] at hc
      have hm : a ∈ α := List.mem_of_getElem? ha
      exact (R.ok k c a hc ha).mono ⟨[p], rfl⟩ (Sub.refl G) fun _ => ⟨upd_ne (ne a hm), fun h3 => h3⟩
    · rw [List.getElem?_append_right (by omega)] at ha
      rw [List.getElem?_append_right (by rw [← R.len]; omega)] at hc
      have e1 : k - α.length = 0 := by
        have := (List.getElem?_eq_some_iff.mp ha).1
        simp at this
        omega
      have e2 : k - S.length = 0 := by rw [← R.len]; exact e1
      rw [e1] at ha
      rw [e2] at hc
      simp at ha hc
      subst ha
      subst hc
      exact ⟨o0, r.mono ⟨[_], rfl⟩ (Sub.refl G), .inl ⟨hl, upd_same, R.gnone hp⟩⟩
  · rcases List.mem_append.mp m with m | m
    · exact .inl m
    · simp at m; subst m; exact .inr hp
  · unfold Rep
    exact ⟨p, rfl, by rw [← R.len]; simp⟩
theorem Rl.cell (R : Rl Γ α G S H) {p : Addr} (hp : H p = none) {ds : List D} {vs : List V} (r : RepL Γ α G ds vs) :
    Rl Γ (α ++ [p]) G (S ++ [.lst ds]) (upd H p (.lst vs)) ∧ Ext α G H (α ++ [p]) G (upd H p (.lst vs)) ∧ Rep Γ (α ++ [p]) G (.ref S.length) (.ref p) := R.cellC hp rfl ⟨vs, rfl, r⟩
theorem Rl.putC (R : Rl Γ α G S H) {k : Nat} {a : Addr} {c0 c1 : Cell} {o1 : HO} (hk : S[k]? = some c0) (ha : α[k]? = some a) (hl : c0.live = true) (hl1 : c1.live = true) (r : RepC Γ α G a c1 o1) :
    Rl Γ α G (S.set k c1) (upd H a o1) ∧ Ext α G H α G (upd H a o1) := by
  have hm : a ∈ α := List.mem_of_getElem? ha
  have a3 : G a = none := by
    obtain ⟨o, _, h⟩ := R.ok k _ a hk ha
    rcases h with ⟨_, _, h⟩ | ⟨l, _⟩
    · exact h
    · rw [hl] at l; cases l
  refine ⟨⟨fun b o e => ?_, by simp [R.len], R.nd, fun b m => ?_, fun j c b hc hb => ?_⟩, ⟨⟨[], by simp⟩, Sub.refl G, fun b u e nb => ?_, fun b m => .inl m, fun b h => .inl h⟩⟩
  · have hb : b ≠ a := fun z => by subst z; rw [a3] at e; cases e
    rw [upd_ne hb]
    exact R.sub b o e
  · by_cases e : b = a
    · subst e; rw [upd_same]; simp
    · rw [upd_ne e]; exact R.tr b m
  · by_cases hjk : k = j
    · subst hjk
      rw [List.getElem?_set_self (List.getElem?_eq_some_iff.mp hk).1] at hc
      rw [ha] at hb
      cases hb
      cases hc
      exact ⟨o1, r, .inl ⟨hl1, upd_same, a3⟩⟩
    · rw [List.getElem?_set_ne hjk] at hc
      have hb' : b ≠ a := fun z => by
        subst z
        obtain ⟨h1, e1⟩ := List.getElem?_eq_some_iff.mp ha
        obtain ⟨h2, e2⟩ := List.getElem?_eq_some_iff.mp hb
        exact hjk ((List.getElem_inj R.nd).mp (e1.trans e2.symm))
      exact (R.ok j c b hc hb).mono ⟨[], by simp⟩ (Sub.refl G) fun _ => ⟨upd_ne hb', fun h3 => h3⟩
  · have hb : b ≠ a := fun z => by subst z; exact nb hm
    rw [upd_ne hb]
    exact e
theorem Rl.put (R : Rl Γ α G S H) {k : Nat} {a : Addr} {ds es : List D} {ws : List V} (hk : S[k]? = some (.lst ds)) (ha : α[k]? = some a) (r : RepL Γ α G es ws) :
    Rl Γ α G (S.set k (.lst es)) (upd H a (.lst ws)) ∧ Ext α G H α G (upd H a (.lst ws)) := R.putC hk ha rfl rfl ⟨ws, rfl, r⟩
theorem Rl.freeze (R : Rl Γ α G S H) {k : Nat} {a : Addr} {ds : List D} (hk : S[k]? = some (.lst ds)) (ha : α[k]? = some a) :
    ∃ vs, RepL Γ α G ds vs ∧ Rl Γ α (upd G a (.lst vs)) (S.set k (.frz ds)) H ∧ Ext α G H α (upd G a (.lst vs)) H := by
  have hm : a ∈ α := List.mem_of_getElem? ha
  obtain ⟨vs, a1, a2, a3⟩ := (R.ok k _ a hk ha).lst
  have sg : Sub G (upd G a (.lst vs)) := Sub.new a3
  refine ⟨vs, a2, ⟨fun b o e => ?_, by simp [R.len], R.nd, R.tr, fun j c b hc hb => ?_⟩, ⟨⟨[], by simp⟩, sg, fun b u e _ => e, fun b m => .inl m, fun b h => ?_⟩⟩
  · by_cases e' : b = a
    · subst e'; rw [upd_same] at e; cases e; exact a1
    · rw [upd_ne e'] at e; exact R.sub b o e
  · by_cases hjk : k = j
    · subst hjk
      rw [List.getElem?_set_self (List.getElem?_eq_some_iff.mp hk).1] at hc
      rw [ha] at hb
      cases hb
      cases hc
      exact .mkF upd_same (RepL.mono ⟨[], by simp⟩ sg _ _ a2)
    · rw [List.getElem?_set_ne hjk] at hc
      have hb' : b ≠ a := fun z => by
        subst z
        obtain ⟨h1, e1⟩ := List.getElem?_eq_some_iff.mp ha
        obtain ⟨h2, e2⟩ := List.getElem?_eq_some_iff.mp hb
        exact hjk ((List.getElem_inj R.nd).mp (e1.trans e2.symm))
      exact (R.ok j c b hc hb).mono ⟨[], by simp⟩ sg fun _ => ⟨rfl, fun h3 => by rw [upd_ne hb']; exact h3⟩
  · by_cases e : b = a
    · subst e; exact .inr (.inl hm)
    · rw [upd_ne e] at h; exact .inl h
end
def lstOf (S : Store) : D → Option (List D)
  | .lst xs => some xs
  | .ref k => match S[k]? with
    | some (.lst xs) => some xs
    | some (.frz xs) => some xs
    | _ => none
  | _ => none
def rdL (S : Store) : D → Option (List D)
  | .fro xs => some xs
  | d => lstOf S d
section
variable {Γ : Gm} {α : List Addr} {G H : Hp} {S : Store}
theorem lstOf_at (R : Rl Γ α G S H) {d : D} {v : V} {xs : List D} (r : Rep Γ α G d v) (h : lstOf S d = some xs) : ∃ a vs, v = .ref a ∧ H a = some (.lst vs) ∧ RepL Γ α G xs vs := by
  cases d with
  | lst ys =>
    have e : ys = xs := Option.some.inj h
    subst e
    unfold Rep at r
    obtain ⟨a, vs, e, q, r⟩ := r
    exact ⟨a, vs, e, R.sub _ _ q, r⟩
  | ref k =>
    unfold Rep at r
    obtain ⟨a, e, ha⟩ := r
    unfold lstOf at h
    cases hc : S[k]? with
    | none => simp [hc] at h
    | some c =>
      have z := R.ok k c a hc ha
      cases c with
      | lst ys =>
        simp [hc] at h
        subst h
        obtain ⟨vs, h1, h2, h3⟩ := z.lst
        exact ⟨a, vs, e, h1, h2⟩
      | frz ys =>
        simp [hc] at h
        subst h
        obtain ⟨vs, h1, h2⟩ := z.frz
        exact ⟨a, vs, e, R.sub _ _ h1, h2⟩
      | _ => simp [hc] at h
  | _ => simp [lstOf] at h
theorem rdL_at (R : Rl Γ α G S H) {d : D} {v : V} {xs : List D} (r : Rep Γ α G d v) (h : rdL S d = some xs) : ∃ a vs, v = .ref a ∧ SqL Γ.K H a vs ∧ RepL Γ α G xs vs := by
  have go : lstOf S d = some xs → ∃ a vs, v = .ref a ∧ SqL Γ.K H a vs ∧ RepL Γ α G xs vs := fun h => by
    obtain ⟨a, vs, e, q, r⟩ := lstOf_at R r h
    exact ⟨a, vs, e, .inl (.inl q), r⟩
  cases d with
  | fro ys =>
    have e : ys = xs := Option.some.inj h
    subst e
    unfold Rep at r
    obtain ⟨a, vs, e, q, r⟩ := r
    exact ⟨a, vs, e, R.sub.sqL q, r⟩
  | _ => exact go h
theorem tup_at (R : Rl Γ α G S H) {v : V} {xs : List D} (r : Rep Γ α G (.tup xs) v) : ∃ a vs, v = .ref a ∧ SqT Γ.K H a vs ∧ RepL Γ α G xs vs := by
  unfold Rep at r
  obtain ⟨a, vs, e, q, r⟩ := r
  exact ⟨a, vs, e, .inl (.inl (R.sub _ _ q)), r⟩
theorem sz {n : Nat} (h : n ≤ 100000) : n ≤ sizeLine := Nat.le_trans h (by decide)
theorem rep_lst {p : Addr} {xs : List D} {vs : List V} (h : G p = some (.lst vs)) (r : RepL Γ α G xs vs) : Rep Γ α G (.lst xs) (.ref p) := by unfold Rep; exact ⟨p, vs, rfl, h, r⟩
theorem rep_tup {p : Addr} {xs : List D} {vs : List V} (h : G p = some (.tup vs)) (r : RepL Γ α G xs vs) : Rep Γ α G (.tup xs) (.ref p) := by unfold Rep; exact ⟨p, vs, rfl, h, r⟩
theorem post_lst {Q : VK} {E : XK} {xs : List D} {vs : List V} (R : Rl Γ α G S H) (r : RepL Γ α G xs vs) (h : Post Γ (Rep Γ) α G H (.ok (.lst xs) S) Q E) {p : Addr} (hp : H p = none) : Q (.ref p) (upd H p (.lst vs)) := by
  obtain ⟨R', e⟩ := R.new hp (.lst vs)
  exact h _ _ _ _ e R' (rep_lst upd_same (RepL.mono e.pre e.sub _ _ r))
theorem post_tup {Q : VK} {E : XK} {xs : List D} {vs : List V} (R : Rl Γ α G S H) (r : RepL Γ α G xs vs) (h : Post Γ (Rep Γ) α G H (.ok (.tup xs) S) Q E) {p : Addr} (hp : H p = none) : Q (.ref p) (upd H p (.tup vs)) := by
  obtain ⟨R', e⟩ := R.new hp (.tup vs)
  exact h _ _ _ _ e R' (rep_tup upd_same (RepL.mono e.pre e.sub _ _ r))
theorem post_cell {Q : VK} {E : XK} {xs : List D} {vs : List V} (R : Rl Γ α G S H) (r : RepL Γ α G xs vs) (h : Post Γ (Rep Γ) α G H (.ok (.ref S.length) (S ++ [.lst xs])) Q E) {p : Addr} (hp : H p = none) : Q (.ref p) (upd H p (.lst vs)) := by
  obtain ⟨R', e, r'⟩ := R.cell hp r
  exact h _ _ _ _ e R' r'
end
end Q
namespace Q
open PySem L2
def mVar (i : Nat) : ME := fun ρ S => match ρ[i]? with
  | some (some d) => .ok d S
  | _ => .no
def mC (d : D) : ME := fun _ S => .ok d S
section
variable {X : Cx} {cl : Nat → Addr} {E : XK} {a b c e : Expr} {ma mb mc m : ME} {pos : Pos}
theorem snd_var {Γ : Gm} (i : Nat) : SndE Γ E (tVar i) (mVar i) := fun ρ S σ α G H Q hρ hR h => by
  unfold mVar at h
  cases q : ρ[i]? with
  | none => simp [q, Post] at h
  | some o =>
    cases o with
    | none => simp [q, Post] at h
    | some d =>
      simp only [q] at h
      obtain ⟨v, hv, r⟩ := hρ.2 i d q
      exact ⟨v, hv, post_ok h hR r⟩
theorem snd_c {Γ : Gm} {v : V} {d : D} (hr : ∀ α G, Rep Γ α G d v) : SndE Γ E (tC v) (mC d) := fun ρ S σ α G H Q hρ hR h => post_ok h hR (hr _ _)
theorem q_var (i : Nat) {x : Str} {pos : Pos} (hN : X.N[i]? = some x := by rfl) (hv : Vis X.env.scope x := by first | exact Or.inl rfl | exact Or.inr (Or.inl rfl) | exact Or.inr (Or.inr rfl)) (hd : (x == ("__debug__" : Str)) = false := by decide)
    (hcd : (x == ("__classdict__" : Str)) = false := by decide) : QE X cl E (.Name x pos) (mVar i) := ⟨_, pe_var hN hv hd hcd, snd_var i⟩
theorem q_int {i j pos} : QE X cl E (.Constant (.int i) j pos) (mC (.int i)) := ⟨_, pe_int, snd_c fun _ _ => by simp [Rep]⟩
theorem q_bl {i j pos} : QE X cl E (.Constant (.bool i) j pos) (mC (.bl i)) := ⟨_, pe_bl, snd_c fun _ _ => by simp [Rep]⟩
theorem q_non {j pos} : QE X cl E (.Constant .none j pos) (mC .non) := ⟨_, pe_non, snd_c fun _ _ => by simp [Rep]⟩
theorem q_str {i j pos} : QE X cl E (.Constant (.str i) j pos) (mC (.str i)) := ⟨_, pe_str, snd_c fun _ _ => by simp [Rep]⟩
theorem q_globI {x : Str} {i : Int} {t : Tok} {pos : Pos} (hg : Gl X x) (hm : X.mg x = some (.int i t)) (hd : (x == ("__debug__" : Str)) = false := by decide) : QE X cl E (.Name x pos) (mC (.int i)) :=
  ⟨_, pe_glob (v := .int i) hg hm ⟨_, rfl⟩ hd, snd_c fun _ _ => by simp [Rep]⟩
def SndR (Γ : Gm) (E : XK) (r : R2) (f : D → D → Store → Res D) : Prop := ∀ (a b : D) (S : Store) (α : List Addr) (G H : Hp) (x y : V) (Q : VK), Rl Γ α G S H → Rep Γ α G a x → Rep Γ α G b y → Post Γ (Rep Γ) α G H (f a b S) Q E → r x y H Q
structure QR (X : Cx) (cl : Nat → Addr) (E : XK) (op : Value → Value → Sem Value) (f : D → D → Store → Res D) : Prop where
  ex : ∃ r, OpR X op r ∧ SndR ⟨X.K, cl⟩ E r f
def mOp (f : D → D → Store → Res D) (ma mb : ME) : ME := fun ρ S => (ma ρ S).bind fun x S1 => (mb ρ S1).bind fun y S2 => f x y S2
theorem snd_op {Γ : Gm} {r : R2} {f : D → D → Store → Res D} {ta tb : TE} (hr : SndR Γ E r f) (ha : SndE Γ E ta ma) (hb : SndE Γ E tb mb) : SndE Γ E (tOp r ta tb) (mOp f ma mb) := fun ρ S σ α G H Q hρ hR h =>
  ha ρ S σ α G H _ hρ hR (post_bind h fun x S1 α1 G1 H1 v _ e1 R1 r1 h1 =>
    hb ρ S1 σ α1 G1 H1 _ (hρ.mono e1) R1 (post_bind h1 fun y S2 α2 G2 H2 w _ e2 R2 r2 h2 =>
      hr x y S2 α2 G2 H2 v w Q R2 (Rep.mono e2.pre e2.sub _ _ r1) r2 h2))
theorem q_op {op : Operator} {f : D → D → Store → Res D} (ho : QR X cl E (binaryOp op) f) (ha : QE X cl E a ma) (hb : QE X cl E b mb) : QE X cl E (.BinOp a op b pos) (mOp f ma mb) := by
  obtain ⟨r, h1, h2⟩ := ho.ex
  obtain ⟨ta, a1, a2⟩ := ha.ex
  obtain ⟨tb, b1, b2⟩ := hb.ex
  exact ⟨_, pe_op h1 a1 b1, snd_op h2 a2 b2⟩
theorem q_cmp {op : CmpOp} {f : D → D → Store → Res D} (ho : QR X cl E (compareOp op) f) (ha : QE X cl E a ma) (hb : QE X cl E b mb) (hm : behindInMarks op b = false := by first | rfl | exact nomark _) : QE X cl E (.Compare a [op] [b] pos) (mOp f ma mb) := by
  obtain ⟨r, h1, h2⟩ := ho.ex
  obtain ⟨ta, a1, a2⟩ := ha.ex
  obtain ⟨tb, b1, b2⟩ := hb.ex
  exact ⟨_, pe_cmpR h1 a1 b1 hm, snd_op h2 a2 b2⟩
theorem OpR.or {f : Value → Value → Sem Value} {r r' : R2} (h : OpR X f r) (h' : OpR X f r') : OpR X f (fun x y H Q => r x y H Q ∨ r' x y H Q) := fun pins s σ H x y v u Q I rx ry q => by
  rcases q with q | q
  · exact h pins s σ H x y v u Q I rx ry q
  · exact h' pins s σ H x y v u Q I rx ry q
def Res.orE {β : Type} (r s : Res β) : Res β := match r with
  | .no => s
  | r => r
@[simp] theorem orE_ok {β : Type} (a : β) (S : Store) (s : Res β) : (Res.ok a S).orE s = .ok a S := rfl
@[simp] theorem orE_no {β : Type} (s : Res β) : (Res.no : Res β).orE s = s := rfl
theorem QR.or {op : Value → Value → Sem Value} {f g : D → D → Store → Res D} (h : QR X cl E op f) (h' : QR X cl E op g) : QR X cl E op (fun a b S => (f a b S).orE (g a b S)) := by
  obtain ⟨r, h1, h2⟩ := h.ex
  obtain ⟨r', h1', h2'⟩ := h'.ex
  refine ⟨_, h1.or h1', fun a b S α G H x y Q hR ra rb hp => ?_⟩
  simp only at hp
  cases q : f a b S with
  | no =>
    rw [q] at hp
    exact .inr (h2' a b S α G H x y Q hR ra rb hp)
  | ok d S' =>
    rw [q] at hp
    exact .inl (h2 a b S α G H x y Q hR ra rb (by rw [q]; exact hp))
  | ex d S' =>
    rw [q] at hp
    exact .inl (h2 a b S α G H x y Q hR ra rb (by rw [q]; exact hp))
def fI (C : Int → Int → Bool) (g : Int → Int → D) : D → D → Store → Res D := fun a b S => match a, b with
  | .int i, .int j => if C i j = true then .ok (g i j) S else .no
  | _, _ => .no
def fI0 (g : Int → Int → D) : D → D → Store → Res D := fun a b S => match a, b with
  | .int i, .int j => .ok (g i j) S
  | _, _ => .no
theorem snd_I {Γ : Gm} {C : Int → Int → Prop} {C' : Int → Int → Bool} {g : Int → Int → V} {g' : Int → Int → D} (hc : ∀ i j, C' i j = true → C i j) (hg : ∀ α G i j, Rep Γ α G (g' i j) (g i j)) : SndR Γ E (rI C g) (fI C' g') := by
  intro a b S α G H x y Q hR ra rb h
  cases a <;> cases b <;> try exact h.elim
  rename_i i j
  simp only [Rep] at ra rb
  unfold fI at h
  simp only at h
  split at h
  · rename_i hh
    exact ⟨i, j, ra, rb, hc i j hh, post_ok h hR (hg _ _ _ _)⟩
  · exact h.elim
theorem snd_I0 {Γ : Gm} {g : Int → Int → V} {g' : Int → Int → D} (hg : ∀ α G i j, Rep Γ α G (g' i j) (g i j)) : SndR Γ E (rI0 g) (fI0 g') := by
  intro a b S α G H x y Q hR ra rb h
  cases a <;> cases b <;> try exact h.elim
  rename_i i j
  simp only [Rep] at ra rb
  exact ⟨i, j, ra, rb, post_ok (a := g' i j) h hR (hg _ _ _ _)⟩
def mulOk (i j : Int) : Bool := decide (i.natAbs < 2 ^ 64) || decide (j.natAbs < 2 ^ 64) || decide (i.natAbs.log2 + j.natAbs.log2 < 1000000)
def divOk (_ j : Int) : Bool := decide (0 < j ∧ j.natAbs.log2 < 9000)
def modOk (_ j : Int) : Bool := decide (0 < j)
def powOk (i j : Int) : Bool := decide (0 ≤ j ∧ j.natAbs ≤ 1000000 ∧ i.natAbs < 2 ^ 64)
def opAddI := fI0 fun i j => .int (i + j)
def opSubI := fI0 fun i j => .int (i - j)
def opMulI := fI mulOk fun i j => .int (i * j)
def opDivI := fI divOk fun i j => .int (i / j)
def opModI := fI modOk fun i j => .int (i % j)
def opPowI := fI powOk fun i j => .int (i ^ j.toNat)
theorem addI : QR X cl E (binaryOp .Add) opAddI := ⟨_, op_add, snd_I0 fun _ _ _ _ => by simp [Rep]⟩
theorem subI : QR X cl E (binaryOp .Sub) opSubI := ⟨_, op_sub, snd_I0 fun _ _ _ _ => by simp [Rep]⟩
theorem mulI : QR X cl E (binaryOp .Mult) opMulI := by
  refine ⟨_, OpR.or op_mul op_mulW, fun a b S α G H x y Q hR ra rb h => ?_⟩
  cases a <;> cases b <;> try exact h.elim
  rename_i i j
  simp only [Rep] at ra rb
  unfold opMulI fI at h
  simp only at h
  split at h
  · rename_i hh
    have q := post_ok (x := V.int (i * j)) h hR (by simp [Rep])
    unfold mulOk at hh
    simp only [Bool.or_eq_true, decide_eq_true_eq] at hh
    rcases hh with (hh | hh) | hh
    · exact .inl ⟨i, j, ra, rb, .inl (by omega), q⟩
    · exact .inl ⟨i, j, ra, rb, .inr (by omega), q⟩
    · exact .inr ⟨i, j, ra, rb, hh, q⟩
  · exact h.elim
theorem divI : QR X cl E (binaryOp .FloorDiv) opDivI := ⟨_, op_fdivW, snd_I (fun i j h => by simpa [divOk, CDivW] using h) fun _ _ _ _ => by simp [Rep]⟩
theorem modI : QR X cl E (binaryOp .Mod) opModI := ⟨_, op_mod, snd_I (fun i j h => by simpa [modOk] using h) fun _ _ _ _ => by simp [Rep]⟩
theorem powI : QR X cl E (binaryOp .Pow) opPowI := ⟨_, op_pow, snd_I (fun i j h => by
  have h2 : 0 ≤ j ∧ j.natAbs ≤ 1000000 ∧ i.natAbs < 2 ^ 64 := of_decide_eq_true h
  have h3 : 0 ≤ j ∧ j ≤ 1000000 ∧ i.natAbs < 2 ^ 64 := ⟨h2.1, by omega, h2.2.2⟩
  simpa [CPow] using h3) fun _ _ _ _ => by simp [Rep]⟩
def opLt := fI0 fun i j => .bl (decide (i < j))
def opLe := fI0 fun i j => .bl (decide (i ≤ j))
def opGt := fI0 fun i j => .bl (decide (j < i))
def opGe := fI0 fun i j => .bl (decide (j ≤ i))
theorem ltI : QR X cl E (compareOp .Lt) opLt := ⟨_, op_lt, snd_I0 fun _ _ _ _ => by simp [Rep]⟩
theorem leI : QR X cl E (compareOp .LtE) opLe := ⟨_, op_le, snd_I0 fun _ _ _ _ => by simp [Rep]⟩
theorem gtI : QR X cl E (compareOp .Gt) opGt := ⟨_, op_gt, snd_I0 fun _ _ _ _ => by simp [Rep]⟩
theorem geI : QR X cl E (compareOp .GtE) opGe := ⟨_, op_ge, snd_I0 fun _ _ _ _ => by simp [Rep]⟩
def opCat : D → D → Store → Res D := fun a b S => match a, b with
  | .str s, .str t => if s.length + t.length ≤ 100000 then .ok (.str (s ++ t)) S else .no
  | .tup xs, .tup ys => if xs.length + ys.length ≤ 100000 then .ok (.tup (xs ++ ys)) S else .no
  | a, b => match lstOf S a, lstOf S b with
    | some xs, some ys => if xs.length + ys.length ≤ 100000 then .ok (.lst (xs ++ ys)) S else .no
    | _, _ => .no
theorem repL_nil {Γ : Gm} {α : List Addr} {G : Hp} {xs : List D} {vs : List V} (r : RepL Γ α G xs vs) : xs = [] ↔ vs = [] := by
  have := r.length
  constructor
  · intro h; subst h; simpa using this.symm
  · intro h; subst h; simpa using this
theorem catQ (hc : True) : QR X cl E (binaryOp .Add) opCat := by
  refine ⟨_, OpR.or op_add_str (OpR.or op_catA op_cat), fun a b S α G H x y Q hR ra rb h => ?_⟩
  have lists : (match lstOf S a, lstOf S b with
      | some xs, some ys => if xs.length + ys.length ≤ 100000 then Res.ok (.lst (xs ++ ys)) S else .no
      | _, _ => .no) = opCat a b S → rCat x y H Q := fun e => by
    rw [← e] at h
    cases h1 : lstOf S a with
    | none => simp [h1, Post] at h
    | some xs =>
      cases h2 : lstOf S b with
      | none => simp [h1, h2, Post] at h
      | some ys =>
        simp only [h1, h2] at h
        split at h
        · rename_i hs
          obtain ⟨p, vs, rfl, q1, r1⟩ := lstOf_at hR ra h1
          obtain ⟨p2, ws, rfl, q2, r2⟩ := lstOf_at hR rb h2
          exact ⟨p, p2, vs, ws, rfl, rfl, q1, q2, by rw [← r1.length, ← r2.length]; exact sz hs, fun z hz => post_lst hR (r1.append r2) h hz⟩
        · exact h.elim
  cases a <;> cases b <;> first
    | exact .inr (.inr (lists rfl))
    | skip
  · rename_i s t
    simp only [Rep] at ra rb
    simp only [opCat] at h
    split at h
    · rename_i hs
      exact .inl ⟨s, t, ra, rb, sz hs, post_ok h hR (by simp [Rep])⟩
    · exact h.elim
  · rename_i xs ys
    simp only [opCat] at h
    split at h
    · rename_i hs
      obtain ⟨p, vs, rfl, q1, r1⟩ := tup_at hR ra
      obtain ⟨p2, ws, rfl, q2, r2⟩ := tup_at hR rb
      refine .inr (.inl ⟨p, p2, vs, ws, rfl, rfl, q1, q2, by rw [← r1.length, ← r2.length]; exact sz hs, fun e => ?_, fun e e2 => ?_, fun e e2 z hz => post_tup hR (r1.append r2) h hz⟩)
      · have e' := (repL_nil r1).mpr e
        subst e'
        exact post_ok h hR rb
      · have e' := (repL_nil r2).mpr e2
        subst e'
        rw [List.append_nil] at h
        exact post_ok h hR ra
    · exact h.elim
def opAdd : D → D → Store → Res D := fun a b S => (opAddI a b S).orE (opCat a b S)
theorem addQ : QR X cl E (binaryOp .Add) opAdd := addI.or (catQ trivial)
def opRep : D → D → Store → Res D := fun a b S => match lstOf S a, b with
  | some xs, .int k => if (-100000 ≤ k ∧ k ≤ 100000) ∧ xs.length * k.toNat ≤ 100000 then .ok (.lst (List.replicate k.toNat xs).flatten) S else .no
  | _, _ => .no
theorem RepL.flat {Γ : Gm} {α : List Addr} {G : Hp} {xs : List D} {vs : List V} (r : RepL Γ α G xs vs) : ∀ n : Nat, RepL Γ α G (List.replicate n xs).flatten (List.replicate n vs).flatten
  | 0 => by simp [RepL]
  | n + 1 => by
    simp only [List.replicate_succ, List.flatten_cons]
    exact r.append (RepL.flat r n)
theorem repQ : QR X cl E (binaryOp .Mult) opRep := by
  refine ⟨_, op_rep, fun a b S α G H x y Q hR ra rb h => ?_⟩
  unfold opRep at h
  cases h1 : lstOf S a with
  | none => simp [h1, Post] at h
  | some xs =>
    cases b <;> simp only [h1] at h <;> try exact h.elim
    rename_i k
    split at h
    · rename_i hs
      obtain ⟨p, vs, rfl, q1, r1⟩ := lstOf_at hR ra h1
      simp only [Rep] at rb
      refine ⟨p, k, vs, rfl, rb, q1, ?_, ?_, by rw [← r1.length]; exact sz hs.2, fun z hz => post_lst hR (r1.flat _) h hz⟩
      · have : (100000 : Int) < 2 ^ 63 := by decide
        omega
      · have : (100000 : Int) < 2 ^ 63 := by decide
        omega
    · exact h.elim
end
end Q
namespace L2
open PySem PySem.Spec PyProof.Rows
theorem tuple_mul_one (l : Addr) (items : Array Value) (n : Nat) (dd : Option Addr) (sl : Array (Option Value)) (x : Int) (u : Tok) (hx : x = 1) :
    Meets (Builtin.«tuple.__mul__» { pos := [.ref l, .int x u] }) fun _ R s => s.heap.get? l = some { cls := .type "tuple", dict := dd, data := .seq items n, slots := sl } ∧ R (.ok (.ret (.ref l))) s := by
  refine Meets.of_wp fun prog w A R s h => ?_
  obtain ⟨hl, h⟩ := h
  have ht : IsTup s.heap l items := ⟨_, hl, rfl, n, rfl⟩
  have hT : s.TypeIs (.ref l) "tuple" := ⟨_, hl, rfl⟩
  apply wpAny_bind (m := asIndex (.int x u))
  refine wpAny_bind (wpAny_pure (wpAny_pure ?_))
  refine wpAny_ite_false (by subst hx; decide) (wpAny_bind (tupleItemsOf_ ht ?_))
  refine wpAny_ite_true (by subst hx; simp) (wpAny_bind (wpAny_bind (wpAny_typeOf hT (wpAny_pure ?_))))
  refine wpAny_ite_true rfl (wpAny_bind (wpAny_rule ?_))
  exact wpAny_pure ⟨_, rfl, h⟩
theorem tuple_mul_none (l : Addr) (items : Array Value) (n : Nat) (dd : Option Addr) (sl : Array (Option Value)) (x : Int) (u : Tok) (hx : x ≤ 0) (hx2 : -(2 ^ 60) ≤ x) (hi : items.isEmpty = false) :
    Meets (Builtin.«tuple.__mul__» { pos := [.ref l, .int x u] }) fun _ R s => s.heap.get? l = some { cls := .type "tuple", dict := dd, data := .seq items n, slots := sl } ∧ R (.ok (.ret (.ref s.heap.objs.size))) { heap := s.heap.push { cls := .type "tuple", data := .seq #[] }, gens := s.gens, drawn := s.drawn, toks := s.toks, os := s.os } := by
  refine Meets.of_wp fun prog w A R s h => ?_
  obtain ⟨hl, h⟩ := h
  have ht : IsTup s.heap l items := ⟨_, hl, rfl, n, rfl⟩
  apply wpAny_bind (m := asIndex (.int x u))
  refine wpAny_bind (wpAny_pure (wpAny_pure ?_))
  refine wpAny_ite_false (by simp; omega) (wpAny_bind (tupleItemsOf_ ht ?_))
  have h1 : (x == 1) = false := by simp; omega
  refine wpAny_ite_false (by rw [hi, h1]; rfl) ?_
  refine wpAny_ite_true (by simp [hx]) (wpAny_bind ?_)
  refine wpAny_newObj_type ?_ (by show (0 : Nat) ≤ sizeLine; omega)
  exact wpAny_pure ⟨_, rfl, h⟩
def rRepT1 (K : PySem.W.Frag) : R2 := fun x y H Q => ∃ (l : Addr) (k : Int) (xs : List V), x = .ref l ∧ y = .int k ∧ SqT K H l xs ∧ xs ≠ [] ∧ -1000 ≤ k ∧ k ≤ 1 ∧ (k = 1 → Q (.ref l) H) ∧ (k ≤ 0 → ∀ p, H p = none → Q (.ref p) (upd H p (.tup [])))
theorem op_repT1 {X : Cx} : OpR X (binaryOp .Mult) (rRepT1 X.K) := by
  intro pins s σ H x y v u Q I rx ry h
  obtain ⟨l, k, xs, rfl, rfl, hx, hne, hk0, hk1, q1, q0⟩ := h
  cases rx
  obtain ⟨t, rfl⟩ := ry
  obtain ⟨its, r, ⟨o, ho, hc, n, hd⟩, hz⟩ := I.tuple hx
  obtain ⟨cls, dd, data, sl⟩ := o
  simp only at hc hd
  subst hc hd
  have hie : its.toArray.isEmpty = false := by
    cases its with
    | nil => cases r; exact absurd rfl hne
    | cons a b => rfl
  have go : wpAny (model X.prog X.w) X.A (call (.builtin "tuple.__mul__") [.ref l, .int k t]) (EP X pins σ Q) X.xe s := by
    by_cases h1 : k = 1
    · exact call_meets F.slot_tuple_mul ⟨_, ho, rfl⟩ F.entry_tuple_mul (F.args_tuple_mul_2 _ _) (tuple_mul_one l its.toArray n dd sl k t h1) ⟨ho, .ref l, H, I, rfl, q1 h1⟩
    · refine call_meets F.slot_tuple_mul ⟨_, ho, rfl⟩ F.entry_tuple_mul (F.args_tuple_mul_2 _ _) (tuple_mul_none l its.toArray n dd sl k t (by omega) (by omega) hie) ⟨ho, ?_⟩
      refine ⟨.ref _, upd H _ (.tup []), I.laid (fun b ob q => Heap.get?_push_of_some _ q) (Nat.le_refl _) ⟨by simp, [], .nil, ?_⟩, rfl, q0 (by omega) _ (I.hok.fresh (Nat.le_refl _))⟩
      exact IsTup.new _ _
  exact wpAny_binaryOp_repeat_ref (T := "tuple") (U := "int") (by decide) ⟨_, ho, rfl⟩ (fun s' => typeIs_int s' k t) noFill_tuple_mul F.fills_int_mul F.slot_int_rmul repeat_tuple F.slot_int_index.lookup
    (call_meets F.slot_int_rmul (typeIs_int s k t) F.entry_int_rmul (F.args_int_rmul_2 _ _) (int_rmul_tuple k t l its.toArray n dd sl) ⟨ho, rfl, ⟨_, ho, rfl⟩, go⟩)
end L2
namespace Q
open PySem L2
section
variable {X : Cx} {cl : Nat → Addr} {E : XK} {a b c e : Expr} {ma mb mc m : ME} {pos : Pos}
def opRepT : D → D → Store → Res D := fun a b S => match a, b with
  | .tup xs, .int k => if 0 < xs.length ∧ -1000 ≤ k ∧ k ≤ 1000 ∧ xs.length ≤ 1000 then .ok (.tup (List.replicate k.toNat xs).flatten) S else .no
  | _, _ => .no
theorem repTQ : QR X cl E (binaryOp .Mult) opRepT := by
  refine ⟨_, OpR.or op_repT op_repT1, fun a b S α G H x y Q hR ra rb h => ?_⟩
  cases a <;> cases b <;> try exact h.elim
  rename_i xs k
  simp only [opRepT] at h
  split at h
  · rename_i hs
    obtain ⟨p, vs, rfl, q1, r1⟩ := tup_at hR ra
    simp only [Rep] at rb
    have hne : vs ≠ [] := fun e => by
      have := (repL_nil r1).mpr e
      subst this
      simp at hs
    by_cases hk : 2 ≤ k
    · exact .inl ⟨p, k, vs, rfl, rb, q1, hne, hk, hs.2.2.1, by rw [← r1.length]; exact hs.2.2.2, fun z hz => post_tup hR (r1.flat _) h hz⟩
    · refine .inr ⟨p, k, vs, rfl, rb, q1, hne, hs.2.1, by omega, fun e => ?_, fun e z hz => ?_⟩
      · subst e
        have e2 : (List.replicate (1 : Int).toNat xs).flatten = xs := by
          show (List.replicate 1 xs).flatten = xs
          simp
        rw [e2] at h
        exact post_ok h hR ra
      · have e2 : (List.replicate k.toNat xs).flatten = [] := by
          rw [show k.toNat = 0 by omega]
          rfl
        rw [e2] at h
        exact post_tup hR (by simp [RepL]) h hz
  · exact h.elim
def opMul : D → D → Store → Res D := fun a b S => (opMulI a b S).orE ((opRep a b S).orE (opRepT a b S))
theorem mulQ : QR X cl E (binaryOp .Mult) opMul := mulI.or (repQ.or repTQ)
mutual
def deq : D → D → Bool
  | .non, .non => true
  | .bl a, .bl b => a == b
  | .bl a, .int j => (if a then 1 else 0) == j
  | .int i, .bl b => i == (if b then 1 else 0)
  | .int i, .int j => i == j
  | .str x, .str y => x == y
  | .tup xs, .tup ys => deqL xs ys
  | .lst xs, .lst ys => deqL xs ys
  | _, _ => false
def deqL : List D → List D → Bool
  | [], [] => true
  | x :: xs, y :: ys => deq x y && deqL xs ys
  | _, _ => false
end
mutual
def toPy : D → PyData
  | .non => .none
  | .bl b => .bool b
  | .int i => .int i
  | .str s => .str s
  | .tup xs => .tuple (toPyL xs)
  | .lst xs => .list (toPyL xs)
  | .fro _ | .obj _ _ | .exn _ _ | .ref _ => .none
def toPyL : List D → List PyData
  | [] => []
  | x :: xs => toPy x :: toPyL xs
end
def shal : Nat → D → Bool
  | _, .non => true
  | _, .bl _ => true
  | _, .int _ => true
  | _, .str s => PyData.strOk s
  | n + 1, .tup xs => xs.all (shal n)
  | n + 1, .lst xs => xs.all (shal n)
  | _, _ => false
theorem toPyL_map : ∀ xs : List D, toPyL xs = xs.map toPy
  | [] => rfl
  | x :: xs => by simp [toPyL, toPyL_map xs]
theorem depthAll_le {n : Nat} : ∀ {xs : List PyData}, (∀ x ∈ xs, x.depth ≤ n) → PyData.depthAll xs ≤ n
  | [], _ => by simp [PyData.depthAll]
  | x :: xs, h => by
    simp only [PyData.depthAll]
    have h1 := h x (by simp)
    have h2 := depthAll_le (xs := xs) fun y hy => h y (by simp [hy])
    omega
theorem canLayAll {xs : List PyData} : (∀ x ∈ xs, x.canLay0 = true) → PyData.canLayAll0 xs = true := by
  induction xs with
  | nil => intro _; rfl
  | cons x xs ih =>
    intro h
    simp only [PyData.canLayAll0, Bool.and_eq_true]
    exact ⟨h x (by simp), ih fun y hy => h y (by simp [hy])⟩
theorem shal_lay : ∀ (n : Nat) (d : D), shal n d = true → (toPy d).canLay0 = true ∧ (toPy d).depth ≤ n
  | n, .non, _ => by simp [toPy, PyData.canLay0, PyData.depth]
  | n, .bl _, _ => by simp [toPy, PyData.canLay0, PyData.depth]
  | n, .int _, _ => by simp [toPy, PyData.canLay0, PyData.depth]
  | n, .str s, h => by
    have : PyData.strOk s = true := by cases n <;> simpa [shal] using h
    simp [toPy, PyData.canLay0, PyData.depth, this]
  | n + 1, .tup xs, h => by
    have h' : ∀ x ∈ xs, shal n x = true := by simpa [shal] using h
    have k : ∀ y ∈ toPyL xs, y.canLay0 = true ∧ y.depth ≤ n := fun y hy => by
      rw [toPyL_map] at hy
      obtain ⟨x, hx, rfl⟩ := List.mem_map.mp hy
      exact shal_lay n x (h' x hx)
    exact ⟨canLayAll fun y hy => (k y hy).1, by
      simp only [toPy, PyData.depth]
      have := depthAll_le fun y hy => (k y hy).2
      omega⟩
  | n + 1, .lst xs, h => by
    have h' : ∀ x ∈ xs, shal n x = true := by simpa [shal] using h
    have k : ∀ y ∈ toPyL xs, y.canLay0 = true ∧ y.depth ≤ n := fun y hy => by
      rw [toPyL_map] at hy
      obtain ⟨x, hx, rfl⟩ := List.mem_map.mp hy
      exact shal_lay n x (h' x hx)
    exact ⟨canLayAll fun y hy => (k y hy).1, by
      simp only [toPy, PyData.depth]
      have := depthAll_le fun y hy => (k y hy).2
      omega⟩
  | 0, .tup xs, h => by simp [shal] at h
  | 0, .lst xs, h => by simp [shal] at h
  | 0, .fro _, h => by simp [shal] at h
  | 0, .obj _ _, h => by simp [shal] at h
  | 0, .exn _ _, h => by simp [shal] at h
  | 0, .ref _, h => by simp [shal] at h
  | n + 1, .fro _, h => by simp [shal] at h
  | n + 1, .obj _ _, h => by simp [shal] at h
  | n + 1, .exn _ _, h => by simp [shal] at h
  | n + 1, .ref _, h => by simp [shal] at h
theorem shal_shaped {d : D} (h : shal 20 d = true) : SeqAt.shaped (toPy d) = true := by
  obtain ⟨h1, h2⟩ := shal_lay 20 d h
  unfold SeqAt.shaped
  rw [h1, decide_eq_true (by omega)]
  rfl
mutual
theorem deq_py : ∀ (n m : Nat) (a b : D), shal n a = true → shal m b = true → PyData.eqv (toPy a) (toPy b) = deq a b
  | n, m, a, b, ha, hb => by
    cases a <;> cases b <;> first
      | (simp only [toPy, deq, PyData.eqv]; done)
      | (cases n <;> simp [shal] at ha; done)
      | (cases m <;> simp [shal] at hb; done)
      | skip
    all_goals
      rename_i xs ys
      cases n with
      | zero => simp [shal] at ha
      | succ n =>
        cases m with
        | zero => simp [shal] at hb
        | succ m =>
          simp only [toPy, deq, PyData.eqv]
          exact deqL_py n m xs ys (by simpa [shal] using ha) (by simpa [shal] using hb)
theorem deqL_py : ∀ (n m : Nat) (a b : List D), (∀ x ∈ a, shal n x = true) → (∀ x ∈ b, shal m x = true) → PyData.eqvAll (toPyL a) (toPyL b) = deqL a b
  | n, m, [], [], _, _ => rfl
  | n, m, [], _ :: _, _, _ => rfl
  | n, m, _ :: _, [], _, _ => rfl
  | n, m, x :: xs, y :: ys, ha, hb => by
    simp only [toPyL, PyData.eqvAll, deqL]
    rw [deq_py n m x y (ha x (by simp)) (hb y (by simp)), deqL_py n m xs ys (fun z hz => ha z (by simp [hz])) (fun z hz => hb z (by simp [hz]))]
end
mutual
theorem rep_dp {Γ : Gm} {α : List Addr} {G H : Hp} (s : Sub G H) : ∀ (n : Nat) (d : D) (v : V), shal n d = true → Rep Γ α G d v → Dp Γ.K H v (toPy d)
  | n, .non, v, _, r => by simp only [Rep] at r; subst r; exact .non
  | n, .bl b, v, _, r => by simp only [Rep] at r; subst r; exact .bl b
  | n, .int b, v, _, r => by simp only [Rep] at r; subst r; exact .int b
  | n, .str b, v, _, r => by simp only [Rep] at r; subst r; exact .str b
  | n + 1, .tup xs, v, h, r => by
    unfold Rep at r
    obtain ⟨a, vs, rfl, q, r⟩ := r
    exact .tup (.inl (.inl (s _ _ q))) (repL_dp s n xs vs (by simpa [shal] using h) r)
  | n + 1, .lst xs, v, h, r => by
    unfold Rep at r
    obtain ⟨a, vs, rfl, q, r⟩ := r
    exact .lst (.inl (.inl (s _ _ q))) (repL_dp s n xs vs (by simpa [shal] using h) r)
  | 0, .tup xs, v, h, _ => by simp [shal] at h
  | 0, .lst xs, v, h, _ => by simp [shal] at h
  | n, .fro _, v, h, _ => by cases n <;> simp [shal] at h
  | n, .obj _ _, v, h, _ => by cases n <;> simp [shal] at h
  | n, .exn _ _, v, h, _ => by cases n <;> simp [shal] at h
  | n, .ref _, v, h, _ => by cases n <;> simp [shal] at h
theorem repL_dp {Γ : Gm} {α : List Addr} {G H : Hp} (s : Sub G H) : ∀ (n : Nat) (ds : List D) (vs : List V), (∀ x ∈ ds, shal n x = true) → RepL Γ α G ds vs → DpAll Γ.K H vs (toPyL ds)
  | n, [], vs, _, r => by unfold RepL at r; subst r; exact .nil
  | n, d :: ds, vs, h, r => by
    unfold RepL at r
    obtain ⟨v, w, rfl, h1, h2⟩ := r
    exact .cons (rep_dp s n d v (h d (by simp)) h1) (repL_dp s n ds w (fun z hz => h z (by simp [hz])) h2)
end
def deref (S : Store) (d : D) : D := match d with
  | .ref k => match S[k]? with
    | some (.lst xs) => .lst xs
    | some (.frz xs) => .lst xs
    | _ => d
  | d => d
theorem deref_dp {Γ : Gm} {α : List Addr} {G H : Hp} {S : Store} (R : Rl Γ α G S H) {d : D} {v : V} (h : shal 20 (deref S d) = true) (r : Rep Γ α G d v) : Dp Γ.K H v (toPy (deref S d)) := by
  cases d with
  | ref k =>
    cases q : lstOf S (.ref k) with
    | none =>
      have : deref S (.ref k) = .ref k := by
        unfold lstOf at q
        unfold deref
        cases hc : S[k]? with
        | none => simp [hc]
        | some c => cases c <;> simp [hc] at q ⊢
      rw [this] at h
      simp [shal] at h
    | some xs =>
      have e : deref S (.ref k) = .lst xs := by
        unfold lstOf at q
        unfold deref
        cases hc : S[k]? with
        | none => simp [hc] at q
        | some c => cases c <;> simp [hc] at q <;> subst q <;> simp [hc]
      obtain ⟨a, vs, rfl, q1, r1⟩ := lstOf_at R r q
      rw [e] at h ⊢
      have h' : ∀ x ∈ xs, shal 19 x = true := by simpa [shal] using h
      exact .lst (.inl (.inl q1)) (repL_dp R.sub 19 xs vs h' r1)
  | _ => exact rep_dp R.sub 20 _ v h r
def opEq : D → D → Store → Res D := fun a b S => match a, b with
  | .int i, .int j => .ok (.bl (i == j)) S
  | .str i, .str j => .ok (.bl (i == j)) S
  | .bl i, .bl j => .ok (.bl (i == j)) S
  | a, b => if shal 20 (deref S a) && shal 20 (deref S b) then .ok (.bl (deq (deref S a) (deref S b))) S else .no
def opNe : D → D → Store → Res D := fun a b S => match a, b with
  | .int i, .int j => .ok (.bl (!(i == j))) S
  | .str i, .str j => .ok (.bl (!(i == j))) S
  | .bl i, .bl j => .ok (.bl (!(i == j))) S
  | a, b => if shal 20 (deref S a) && shal 20 (deref S b) then .ok (.bl (!deq (deref S a) (deref S b))) S else .no
theorem eqQ {k : Nat} (hr : Room k X.A) : QR X cl E (compareOp .Eq) opEq := by
  refine ⟨_, OpR.or op_eq (op_eqD hr.units), fun a b S α G H x y Q hR ra rb h => ?_⟩
  have deep : (if shal 20 (deref S a) && shal 20 (deref S b) then Res.ok (.bl (deq (deref S a) (deref S b))) S else .no) = opEq a b S → rEqD X.K x y H Q := fun e => by
    rw [← e] at h
    split at h
    · rename_i hs
      rw [Bool.and_eq_true] at hs
      refine ⟨_, _, deref_dp (Γ := ⟨X.K, cl⟩) hR hs.1 ra, deref_dp (Γ := ⟨X.K, cl⟩) hR hs.2 rb, shal_shaped hs.1, shal_shaped hs.2, ?_⟩
      rw [deq_py 20 20 _ _ hs.1 hs.2]
      exact post_ok h hR (by simp [Rep])
    · exact h.elim
  cases a <;> cases b <;> first
    | exact .inr (deep rfl)
    | skip
  all_goals
    simp only [Rep] at ra rb
    subst ra rb
    refine .inl ⟨rfl, ?_⟩
    simp only [opEq] at h
    first | rw [dec_int] | rw [dec_bl] | rw [dec_str]
    exact post_ok h hR (by simp [Rep])
theorem neQ {k : Nat} (hr : Room k X.A) : QR X cl E (compareOp .NotEq) opNe := by
  refine ⟨_, OpR.or op_ne (op_neD hr.units), fun a b S α G H x y Q hR ra rb h => ?_⟩
  have deep : (if shal 20 (deref S a) && shal 20 (deref S b) then Res.ok (.bl (!deq (deref S a) (deref S b))) S else .no) = opNe a b S → rNeD X.K x y H Q := fun e => by
    rw [← e] at h
    split at h
    · rename_i hs
      rw [Bool.and_eq_true] at hs
      refine ⟨_, _, deref_dp (Γ := ⟨X.K, cl⟩) hR hs.1 ra, deref_dp (Γ := ⟨X.K, cl⟩) hR hs.2 rb, shal_shaped hs.1, shal_shaped hs.2, ?_⟩
      rw [deq_py 20 20 _ _ hs.1 hs.2]
      exact post_ok h hR (by simp [Rep])
    · exact h.elim
  cases a <;> cases b <;> first
    | exact .inr (deep rfl)
    | skip
  all_goals
    simp only [Rep] at ra rb
    subst ra rb
    refine .inl ⟨rfl, ?_⟩
    simp only [opNe] at h
    first | rw [dec_int] | rw [dec_bl] | rw [dec_str]
    exact post_ok h hR (by simp [Rep])
end
end Q
namespace Q
open PySem L2
section
variable {X : Cx} {cl : Nat → Addr} {E : XK} {a b c e : Expr} {ma mb mc m : ME} {mt mu : MT} {pos : Pos}
def truth (S : Store) : D → Option Bool
  | .non => some false
  | .bl b => some b
  | .int i => some (i != 0)
  | .tup xs => some (!xs.isEmpty)
  | .str s => if s.length ≤ 100000 then some ((s.length : Int) != 0) else none
  | .obj _ _ => none
  | .exn _ _ => none
  | d => (rdL S d).map fun xs => !xs.isEmpty
def oRes {β : Type} (o : Option β) (S : Store) : Res β := match o with
  | some b => .ok b S
  | none => .no
@[simp] theorem oRes_some {β : Type} (b : β) (S : Store) : oRes (some b) S = .ok b S := rfl
@[simp] theorem oRes_none {β : Type} (S : Store) : oRes (none : Option β) S = .no := rfl
def mTest (m : ME) : MT := fun ρ S => (m ρ S).bind fun d S1 => oRes (truth S1 d) S1
theorem isEmpty_rep {Γ : Gm} {α : List Addr} {G : Hp} {xs : List D} {vs : List V} (r : RepL Γ α G xs vs) : xs.isEmpty = vs.isEmpty := by
  have := r.length
  cases xs <;> cases vs <;> simp_all
theorem truth_at {Γ : Gm} {α : List Addr} {G H : Hp} {S : Store} (R : Rl Γ α G S H) {d : D} {v : V} {k : Bool} (r : Rep Γ α G d v) (h : truth S d = some k) : TruV Γ.K v H k := by
  have lists : (rdL S d).map (fun xs => !xs.isEmpty) = some k → TruV Γ.K v H k := fun h => by
    cases q : rdL S d with
    | none => simp [q] at h
    | some xs =>
      simp only [q, Option.map_some, Option.some.injEq] at h
      obtain ⟨p, vs, rfl, q1, r1⟩ := rdL_at R r q
      exact .inl ⟨vs, q1, by rw [← isEmpty_rep r1]; exact h.symm⟩
  cases d with
  | non => simp only [Rep] at r; subst r; simp only [truth, Option.some.injEq] at h; exact h.symm
  | bl b => simp only [Rep] at r; subst r; simp only [truth, Option.some.injEq] at h; exact h.symm
  | int i => simp only [Rep] at r; subst r; simp only [truth, Option.some.injEq] at h; exact h.symm
  | str i =>
    simp only [Rep] at r
    subst r
    simp only [truth] at h
    split at h
    · rename_i hs
      exact ⟨sz hs, (Option.some.inj h).symm⟩
    · cases h
  | tup xs =>
    obtain ⟨p, vs, rfl, q1, r1⟩ := tup_at R r
    simp only [truth, Option.some.injEq] at h
    exact .inr (.inl ⟨vs, q1, by rw [← isEmpty_rep r1]; exact h.symm⟩)
  | obj _ _ => simp [truth] at h
  | exn _ _ => simp [truth] at h
  | lst xs => exact lists h
  | fro xs => exact lists h
  | ref k => exact lists h
theorem q_test (h : QE X cl E e m) (he : ∀ whole, isTrue e X.env whole = (do let v ← whole; standAt e.pos; holding [v] (truthy v)) := by intro _; rfl) : QT X cl E e (mTest m) := by
  obtain ⟨t, h1, h2⟩ := h.ex
  refine ⟨_, pt_truth h1 he, fun ρ S σ α G H Q hρ hR hp => h2 ρ S σ α G H _ hρ hR (post_bind hp fun d S1 α1 G1 H1 v _ e1 R1 r1 hp1 => ?_)⟩
  cases q : truth S1 d with
  | none => simp [q, Post] at hp1
  | some k =>
    simp only [q, oRes_some] at hp1
    exact ⟨k, truth_at R1 r1 q, post_ok hp1 R1 rfl⟩
def mTB (m : ME) : MT := fun ρ S => (m ρ S).bind fun d S1 => match d with
  | .bl b => .ok b S1
  | _ => .no
theorem snd_tb {Γ : Gm} {t : TE} (h : SndE Γ E t m) : SndT Γ E (tTest t) (mTB m) := fun ρ S σ α G H Q hρ hR hp => h ρ S σ α G H _ hρ hR (post_bind hp fun d S1 α1 G1 H1 v _ e1 R1 r1 hp1 => by
    cases d <;> first
      | (simp only [Post] at hp1; done)
      | skip
    simp only [Rep] at r1
    exact ⟨_, r1, post_ok hp1 R1 rfl⟩)
theorem q_tcmp {op : CmpOp} {f : D → D → Store → Res D} (ho : QR X cl E (compareOp op) f) (ha : QE X cl E a ma) (hb : QE X cl E b mb) (hm : behindInMarks op b = false := by first | rfl | exact nomark _) : QT X cl E (.Compare a [op] [b] pos) (mTB (mOp f ma mb)) := by
  obtain ⟨r, h1, h2⟩ := ho.ex
  obtain ⟨ta, a1, a2⟩ := ha.ex
  obtain ⟨tb, b1, b2⟩ := hb.ex
  exact ⟨_, pt_cmpR h1 a1 b1 hm, snd_tb (snd_op h2 a2 b2)⟩
def mNotT (m : MT) : MT := fun ρ S => (m ρ S).bind fun b S1 => .ok (!b) S1
def mAndT (m n : MT) : MT := fun ρ S => (m ρ S).bind fun b S1 => match b with
  | true => n ρ S1
  | false => .ok false S1
def mOrT (m n : MT) : MT := fun ρ S => (m ρ S).bind fun b S1 => match b with
  | true => .ok true S1
  | false => n ρ S1
theorem snd_notT {Γ : Gm} {t : TT} (h : SndT Γ E t mt) : SndT Γ E (tNot t) (mNotT mt) := fun ρ S σ α G H Q hρ hR hp => h ρ S σ α G H _ hρ hR (post_bind hp fun b S1 α1 G1 H1 v _ e1 R1 r1 hp1 => by
  have r1 : b = v := r1
  subst r1
  exact post_ok hp1 R1 rfl)
theorem snd_andT {Γ : Gm} {t u : TT} (h : SndT Γ E t mt) (k : SndT Γ E u mu) : SndT Γ E (tAnd t u) (mAndT mt mu) := fun ρ S σ α G H Q hρ hR hp => h ρ S σ α G H _ hρ hR (post_bind hp fun b S1 α1 G1 H1 v _ e1 R1 r1 hp1 => by
  have r1 : b = v := r1
  subst r1
  cases b with
  | true => exact iteT (k ρ S1 σ α1 G1 H1 Q (hρ.mono e1) R1 hp1)
  | false => exact iteF (post_ok hp1 R1 rfl))
theorem snd_orT {Γ : Gm} {t u : TT} (h : SndT Γ E t mt) (k : SndT Γ E u mu) : SndT Γ E (tOr t u) (mOrT mt mu) := fun ρ S σ α G H Q hρ hR hp => h ρ S σ α G H _ hρ hR (post_bind hp fun b S1 α1 G1 H1 v _ e1 R1 r1 hp1 => by
  have r1 : b = v := r1
  subst r1
  cases b with
  | true => exact iteT (post_ok hp1 R1 rfl)
  | false => exact iteF (k ρ S1 σ α1 G1 H1 Q (hρ.mono e1) R1 hp1))
theorem q_not (h : QT X cl E a mt) : QT X cl E (.UnaryOp .Not a pos) (mNotT mt) := by
  obtain ⟨t, h1, h2⟩ := h.ex
  exact ⟨_, pt_not h1, snd_notT h2⟩
theorem q_w (h : QW X cl E e mt) : QT X cl E e mt := by
  obtain ⟨t, h1, h2⟩ := h.ex
  exact ⟨_, h1.pt, h2⟩
theorem q_and1 (h : QT X cl E a mt) : QW X cl E (.BoolOp .And [a] pos) mt := by
  obtain ⟨t, h1, h2⟩ := h.ex
  exact ⟨_, pw_and1 h1, h2⟩
theorem q_or1 (h : QT X cl E a mt) : QW X cl E (.BoolOp .Or [a] pos) mt := by
  obtain ⟨t, h1, h2⟩ := h.ex
  exact ⟨_, pw_or1 h1, h2⟩
theorem q_and {rest : List Expr} (h : QT X cl E a mt) (k : QW X cl E (.BoolOp .And (b :: rest) pos) mu) : QW X cl E (.BoolOp .And (a :: b :: rest) pos) (mAndT mt mu) := by
  obtain ⟨t, h1, h2⟩ := h.ex
  obtain ⟨u, k1, k2⟩ := k.ex
  exact ⟨_, pw_and h1 k1, snd_andT h2 k2⟩
theorem q_or {rest : List Expr} (h : QT X cl E a mt) (k : QW X cl E (.BoolOp .Or (b :: rest) pos) mu) : QW X cl E (.BoolOp .Or (a :: b :: rest) pos) (mOrT mt mu) := by
  obtain ⟨t, h1, h2⟩ := h.ex
  obtain ⟨u, k1, k2⟩ := k.ex
  exact ⟨_, pw_or h1 k1, snd_orT h2 k2⟩
def mAndV (m n : ME) : ME := fun ρ S => (m ρ S).bind fun d S1 => (oRes (truth S1 d) S1).bind fun b S2 => match b with
  | true => n ρ S2
  | false => .ok d S2
def mOrV (m n : ME) : ME := fun ρ S => (m ρ S).bind fun d S1 => (oRes (truth S1 d) S1).bind fun b S2 => match b with
  | true => .ok d S2
  | false => n ρ S2
def mNotV (m : ME) : ME := fun ρ S => (m ρ S).bind fun d S1 => (oRes (truth S1 d) S1).bind fun b S2 => .ok (.bl (!b)) S2
theorem q_oneV {op : BoolOp} (h : QE X cl E a m) : QE X cl E (.BoolOp op [a] pos) m := by
  obtain ⟨t, h1, h2⟩ := h.ex
  exact ⟨_, pe_one h1, h2⟩
theorem q_andV {rest : List Expr} (h : QE X cl E a ma) (k : QE X cl E (.BoolOp .And (b :: rest) pos) mb) : QE X cl E (.BoolOp .And (a :: b :: rest) pos) (mAndV ma mb) := by
  obtain ⟨t, h1, h2⟩ := h.ex
  obtain ⟨u, k1, k2⟩ := k.ex
  refine ⟨_, pe_andT h1 k1, fun ρ S σ α G H Q hρ hR hp => h2 ρ S σ α G H _ hρ hR (post_bind hp fun d S1 α1 G1 H1 v _ e1 R1 r1 hp1 => ?_)⟩
  cases q : truth S1 d with
  | none => simp [q, Post] at hp1
  | some k =>
    simp only [q, oRes_some, bind_ok] at hp1
    refine ⟨k, truth_at R1 r1 q, ?_⟩
    cases k with
    | true => exact iteT (k2 ρ S1 σ α1 G1 H1 Q (hρ.mono e1) R1 hp1)
    | false => exact iteF (post_ok hp1 R1 r1)
theorem q_orV {rest : List Expr} (h : QE X cl E a ma) (k : QE X cl E (.BoolOp .Or (b :: rest) pos) mb) : QE X cl E (.BoolOp .Or (a :: b :: rest) pos) (mOrV ma mb) := by
  obtain ⟨t, h1, h2⟩ := h.ex
  obtain ⟨u, k1, k2⟩ := k.ex
  refine ⟨_, pe_orT h1 k1, fun ρ S σ α G H Q hρ hR hp => h2 ρ S σ α G H _ hρ hR (post_bind hp fun d S1 α1 G1 H1 v _ e1 R1 r1 hp1 => ?_)⟩
  cases q : truth S1 d with
  | none => simp [q, Post] at hp1
  | some k =>
    simp only [q, oRes_some, bind_ok] at hp1
    refine ⟨k, truth_at R1 r1 q, ?_⟩
    cases k with
    | true => exact iteT (post_ok hp1 R1 r1)
    | false => exact iteF (k2 ρ S1 σ α1 G1 H1 Q (hρ.mono e1) R1 hp1)
theorem q_notV (h : QE X cl E a ma) : QE X cl E (.UnaryOp .Not a pos) (mNotV ma) := by
  obtain ⟨t, h1, h2⟩ := h.ex
  refine ⟨_, pe_notT h1, fun ρ S σ α G H Q hρ hR hp => h2 ρ S σ α G H _ hρ hR (post_bind hp fun d S1 α1 G1 H1 v _ e1 R1 r1 hp1 => ?_)⟩
  cases q : truth S1 d with
  | none => simp [q, Post] at hp1
  | some k =>
    simp only [q, oRes_some, bind_ok] at hp1
    exact ⟨k, truth_at R1 r1 q, post_ok (x := V.bl (!k)) hp1 R1 (by simp [Rep])⟩
def mIfE (t : MT) (m n : ME) : ME := fun ρ S => (t ρ S).bind fun b S1 => match b with
  | true => m ρ S1
  | false => n ρ S1
theorem q_ifE {c : Expr} (hc : QT X cl E c mt) (ha : QE X cl E a ma) (hb : QE X cl E b mb) : QE X cl E (.IfExp c a b pos) (mIfE mt ma mb) := by
  obtain ⟨t, h1, h2⟩ := hc.ex
  obtain ⟨u, k1, k2⟩ := ha.ex
  obtain ⟨w, l1, l2⟩ := hb.ex
  refine ⟨_, pe_ifExp h1 k1 l1, fun ρ S σ α G H Q hρ hR hp => h2 ρ S σ α G H _ hρ hR (post_bind hp fun b S1 α1 G1 H1 v _ e1 R1 r1 hp1 => ?_)⟩
  have r1 : b = v := r1
  subst r1
  cases b with
  | true => exact iteT (k2 ρ S1 σ α1 G1 H1 Q (hρ.mono e1) R1 hp1)
  | false => exact iteF (l2 ρ S1 σ α1 G1 H1 Q (hρ.mono e1) R1 hp1)
def isNon : D → Bool
  | .non => true
  | _ => false
def mIsN (m : ME) : ME := fun ρ S => (m ρ S).bind fun d S1 => .ok (.bl (isNon d)) S1
theorem isNon_at {Γ : Gm} {α : List Addr} {G : Hp} {d : D} {v : V} (r : Rep Γ α G d v) : decide (v = .non) = isNon d := by
  cases d <;> (unfold Rep at r; first
    | (subst r; simp [isNon]; done)
    | (obtain ⟨a, vs, rfl, _⟩ := r; simp [isNon]; done)
    | (obtain ⟨a, rfl, _⟩ := r; simp [isNon]; done))
theorem snd_isN {Γ : Gm} {t : TE} (h : SndE Γ E t m) : SndE Γ E (tIsN t) (mIsN m) := fun ρ S σ α G H Q hρ hR hp => h ρ S σ α G H _ hρ hR (post_bind hp fun d S1 α1 G1 H1 v _ e1 R1 r1 hp1 => by
  rw [isNon_at r1]
  exact post_ok hp1 R1 (by simp [Rep]))
theorem q_isN {j pos'} (h : QE X cl E a m) : QE X cl E (.Compare a [.Is] [.Constant .none j pos'] pos) (mIsN m) := by
  obtain ⟨t, h1, h2⟩ := h.ex
  exact ⟨_, pe_cmp (pc_isN h1), snd_isN h2⟩
theorem snd_tB {Γ : Gm} {t : TE} (h : SndE Γ E t m) : SndT Γ E (tB t) (mTB m) := snd_tb h
theorem q_tisN {j pos'} (h : QE X cl E a m) : QT X cl E (.Compare a [.Is] [.Constant .none j pos'] pos) (mTB (mIsN m)) := by
  obtain ⟨t, h1, h2⟩ := h.ex
  exact ⟨_, pt_cmp (pc_isN h1), snd_tB (snd_isN h2)⟩
def mNil : MA := fun _ S => .ok [] S
def mCons (m : ME) (n : MA) : MA := fun ρ S => (m ρ S).bind fun d S1 => (n ρ S1).bind fun ds S2 => .ok (d :: ds) S2
theorem snd_nil {Γ : Gm} : SndA Γ E tNil mNil := fun ρ S σ α G H Q hρ hR hp => post_ok (x := ([] : List V)) hp hR (by simp [RepL])
theorem snd_cons {Γ : Gm} {t : TE} {u : TA} {n : MA} (h : SndE Γ E t m) (k : SndA Γ E u n) : SndA Γ E (tCons t u) (mCons m n) := fun ρ S σ α G H Q hρ hR hp =>
  h ρ S σ α G H _ hρ hR (post_bind hp fun d S1 α1 G1 H1 v _ e1 R1 r1 hp1 => k ρ S1 σ α1 G1 H1 _ (hρ.mono e1) R1 (post_bind hp1 fun ds S2 α2 G2 H2 vs _ e2 R2 r2 hp2 =>
    post_ok hp2 R2 (by show RepL _ _ _ (d :: ds) (v :: vs); unfold RepL; exact ⟨v, vs, rfl, Rep.mono e2.pre e2.sub _ _ r1, r2⟩)))
theorem q_nil : QA X cl E [] mNil := ⟨_, pa_nil, snd_nil⟩
theorem q_cons {es : List Expr} {n : MA} (h : QE X cl E e m) (k : QA X cl E es n) (hs : starEach (e :: es) X.env = (false, eval e X.env) :: starEach es X.env := by rfl) : QA X cl E (e :: es) (mCons m n) := by
  obtain ⟨t, h1, h2⟩ := h.ex
  obtain ⟨u, k1, k2⟩ := k.ex
  exact ⟨_, pa_cons h1 k1 hs, snd_cons h2 k2⟩
def mTup (n : MA) : ME := fun ρ S => (n ρ S).bind fun ds S1 => if ds.length ≤ 100000 then .ok (.tup ds) S1 else .no
def mLst (n : MA) : ME := fun ρ S => (n ρ S).bind fun ds S1 => if ds.length ≤ 100000 then .ok (.lst ds) S1 else .no
def mCell (n : MA) : ME := fun ρ S => (n ρ S).bind fun ds S1 => if ds.length ≤ 100000 then .ok (.ref S1.length) (S1 ++ [.lst ds]) else .no
theorem q_tup {es : List Expr} {n : MA} {x1} (h : QA X cl E es n) : QE X cl E (.Tuple es x1 pos) (mTup n) := by
  obtain ⟨t, h1, h2⟩ := h.ex
  refine ⟨_, pe_tup h1, fun ρ S σ α G H Q hρ hR hp => h2 ρ S σ α G H _ hρ hR (post_bind hp fun ds S1 α1 G1 H1 vs _ e1 R1 r1 hp1 => ?_)⟩
  split at hp1
  · rename_i hs
    exact ⟨by rw [← r1.length]; exact sz hs, fun p hz => post_tup R1 r1 hp1 hz⟩
  · exact hp1.elim
theorem q_lst {es : List Expr} {n : MA} (h : QA X cl E es n) : QE X cl E (.List es pos) (mLst n) := by
  obtain ⟨t, h1, h2⟩ := h.ex
  refine ⟨_, pe_lst h1, fun ρ S σ α G H Q hρ hR hp => h2 ρ S σ α G H _ hρ hR (post_bind hp fun ds S1 α1 G1 H1 vs _ e1 R1 r1 hp1 => ?_)⟩
  split at hp1
  · rename_i hs
    exact ⟨by rw [← r1.length]; exact sz hs, fun p hz => post_lst R1 r1 hp1 hz⟩
  · exact hp1.elim
theorem q_cell {es : List Expr} {n : MA} (h : QA X cl E es n) : QE X cl E (.List es pos) (mCell n) := by
  obtain ⟨t, h1, h2⟩ := h.ex
  refine ⟨_, pe_lst h1, fun ρ S σ α G H Q hρ hR hp => h2 ρ S σ α G H _ hρ hR (post_bind hp fun ds S1 α1 G1 H1 vs _ e1 R1 r1 hp1 => ?_)⟩
  split at hp1
  · rename_i hs
    exact ⟨by rw [← r1.length]; exact sz hs, fun p hz => post_cell R1 r1 hp1 hz⟩
  · exact hp1.elim
def fz (d : D) (S : Store) : Res D := match d with
  | .ref k => match S[k]? with
    | some (.lst xs) => .ok (.lst xs) (S.set k (.frz xs))
    | some (.frz xs) => .ok (.lst xs) S
    | _ => .no
  | d => .ok d S
def mFrz (m : ME) : ME := fun ρ S => (m ρ S).bind fz
theorem fz_at {Γ : Gm} {α : List Addr} {G H : Hp} {S : Store} {d : D} {v : V} {Q : VK} (R : Rl Γ α G S H) (r : Rep Γ α G d v) (hp : Post Γ (Rep Γ) α G H (fz d S) Q E) : Q v H := by
  cases d with
  | ref k =>
    simp only [fz] at hp
    unfold Rep at r
    obtain ⟨a, rfl, ha⟩ := r
    cases hc : S[k]? with
    | none => simp [hc, Post] at hp
    | some c =>
      cases c with
      | lst xs =>
        simp only [hc] at hp
        obtain ⟨vs, r1, R1, e1⟩ := R.freeze hc ha
        exact hp _ _ _ _ e1 R1 (rep_lst upd_same (RepL.mono e1.pre e1.sub _ _ r1))
      | frz xs =>
        simp only [hc] at hp
        obtain ⟨vs, h1, h2⟩ := (R.ok k _ a hc ha).frz
        exact post_ok hp R (rep_lst h1 h2)
      | _ => simp [hc, Post] at hp
  | _ => exact post_ok hp R r
theorem snd_frz {Γ : Gm} {t : TE} (h : SndE Γ E t m) : SndE Γ E t (mFrz m) := fun ρ S σ α G H Q hρ hR hp => h ρ S σ α G H _ hρ hR (post_bind hp fun d S1 α1 G1 H1 v _ e1 R1 r1 hp1 => fz_at R1 r1 hp1)
theorem q_frz (h : QE X cl E e m) : QE X cl E e (mFrz m) := by
  obtain ⟨t, h1, h2⟩ := h.ex
  exact ⟨t, h1, snd_frz h2⟩
def opIx : D → D → Store → Res D := fun a b S => match b with
  | .int i => match a with
    | .tup xs => oRes (atI xs i) S
    | .str s => if s.length ≤ 100000 then match atI s.cps.toList i with
        | some c => .ok (.str ⟨#[c]⟩) S
        | none => .no
      else .no
    | a => match rdL S a with
      | some xs => oRes (atI xs i) S
      | none => .no
  | _ => .no
theorem atI_rep {Γ : Gm} {α : List Addr} {G : Hp} {xs : List D} {vs : List V} {i : Int} {d : D} (r : RepL Γ α G xs vs) (h : atI xs i = some d) : ∃ v, atI vs i = some v ∧ Rep Γ α G d v := by
  unfold atI at h ⊢
  rw [r.length] at h
  cases q : ixN vs.length i with
  | none => simp [q] at h
  | some j =>
    simp only [q, Option.bind_some] at h ⊢
    exact r.get h
structure QIx (X : Cx) (cl : Nat → Addr) (E : XK) (f : D → D → Store → Res D) : Prop where
  ex : ∃ r, IxR X r ∧ SndR ⟨X.K, cl⟩ E r f
theorem ixQ : QIx X cl E opIx := by
  refine ⟨_, ix_seq, fun a b S α G H x y Q hR ra rb h => ?_⟩
  cases b <;> try exact h.elim
  rename_i i
  simp only [opIx] at h
  simp only [Rep] at rb
  have lists : ∀ o, rdL S a = o → Post ⟨X.K, cl⟩ (Rep ⟨X.K, cl⟩) α G H (match o with
      | some xs => oRes (atI xs i) S
      | none => .no) Q E → rIx X.K x y H Q := fun o q h => by
    cases o with
    | none => exact h.elim
    | some xs =>
      obtain ⟨p, vs, rfl, q1, r1⟩ := rdL_at hR ra q
      cases z : atI xs i with
      | none => simp [z, Post] at h
      | some d =>
        simp only [z, oRes_some] at h
        obtain ⟨v, e, rv⟩ := atI_rep r1 z
        exact .inl ⟨p, vs, i, v, rfl, rb, q1, e, post_ok h hR rv⟩
  cases a with
  | tup xs =>
    obtain ⟨p, vs, rfl, q1, r1⟩ := tup_at hR ra
    simp only at h
    cases z : atI xs i with
    | none => simp [z, Post] at h
    | some d =>
      simp only [z, oRes_some] at h
      obtain ⟨v, e, rv⟩ := atI_rep r1 z
      exact .inr (.inl ⟨p, vs, i, v, rfl, rb, q1, e, post_ok h hR rv⟩)
  | str s =>
    simp only at h
    simp only [Rep] at ra
    split at h
    · rename_i hs
      cases z : atI s.cps.toList i with
      | none => simp [z, Post] at h
      | some c =>
        simp only [z] at h
        exact .inr (.inr ⟨s, i, c, ra, rb, sz hs, z, post_ok h hR (by simp [Rep])⟩)
    · exact h.elim
  | _ => exact lists _ rfl h
theorem q_ix (ha : QE X cl E a ma) (hb : QE X cl E b mb) (hs : PlainIx b := by exact fun _ _ => rfl) : QE X cl E (.Subscript a b pos) (mOp opIx ma mb) := by
  obtain ⟨r, h1, h2⟩ := (ixQ (X := X) (cl := cl) (E := E)).ex
  obtain ⟨ta, a1, a2⟩ := ha.ex
  obtain ⟨tb, b1, b2⟩ := hb.ex
  exact ⟨_, pe_ix h1 a1 b1 hs, snd_op h2 a2 b2⟩
abbrev MO := Env → Store → Res (Option Int)
def RO : List Addr → Hp → Option Int → Option Int → Prop := fun _ _ a b => a = b
def SndO (Γ : Gm) (E : XK) (t : TO) (m : MO) : Prop := ∀ (ρ : Env) (S : Store) (σ : L2.St) (α : List Addr) (G H : Hp) (Q : Option Int → Hp → Prop), EnvR Γ α G ρ σ → Rl Γ α G S H → Post Γ RO α G H (m ρ S) Q E → t σ H Q
structure QO (X : Cx) (cl : Nat → Addr) (E : XK) (e : Option Expr) (m : MO) : Prop where
  ex : ∃ t, PO X e t ∧ SndO ⟨X.K, cl⟩ E t m
def mNoO : MO := fun _ S => .ok none S
def mSoO (m : ME) : MO := fun ρ S => (m ρ S).bind fun d S1 => match d with
  | .int i => .ok (some i) S1
  | _ => .no
theorem q_noO : QO X cl E none mNoO := ⟨_, po_none, fun ρ S σ α G H Q hρ hR hp => post_ok hp hR rfl⟩
theorem q_soO (h : QE X cl E e m) : QO X cl E (some e) (mSoO m) := by
  obtain ⟨t, h1, h2⟩ := h.ex
  refine ⟨_, po_some h1, fun ρ S σ α G H Q hρ hR hp => h2 ρ S σ α G H _ hρ hR (post_bind hp fun d S1 α1 G1 H1 v _ e1 R1 r1 hp1 => ?_)⟩
  cases d <;> try exact hp1.elim
  simp only [Rep] at r1
  exact ⟨_, r1, post_ok hp1 R1 rfl⟩
def cutD (xs : List D) (lo hi : Option Int) : List D := (xs.drop (HT.sIx xs.length 0 lo)).take (HT.sIx xs.length xs.length hi - HT.sIx xs.length 0 lo)
theorem cut_rep {Γ : Gm} {α : List Addr} {G : Hp} {xs : List D} {vs : List V} (r : RepL Γ α G xs vs) (lo hi : Option Int) : RepL Γ α G (cutD xs lo hi) (cutV vs lo hi) := by
  unfold cutD cutV
  rw [r.length]
  exact (r.drop _).take _
def opSl : D → Option Int → Option Int → Store → Res D := fun a lo hi S => match a with
  | .tup xs => .ok (.tup (cutD xs lo hi)) S
  | .str s => if s.length ≤ 100000 then .ok (.str (cutS s lo hi)) S else .no
  | a => match rdL S a with
    | some xs => .ok (.lst (cutD xs lo hi)) S
    | none => .no
def mSl (m : ME) (l h : MO) : ME := fun ρ S => (m ρ S).bind fun d S1 => (l ρ S1).bind fun lo S2 => (h ρ S2).bind fun hi S3 => opSl d lo hi S3
theorem cutD_whole {xs : List D} {lo hi : Option Int} (h : HT.sIx xs.length 0 lo = 0 ∧ HT.sIx xs.length xs.length hi = xs.length) : cutD xs lo hi = xs := by
  unfold cutD
  rw [h.1, h.2]
  simp
theorem snd_sl {Γ : Gm} : ∀ (d : D) (lo hi : Option Int) (S : Store) (α : List Addr) (G H : Hp) (x : V) (Q : VK), Rl Γ α G S H → Rep Γ α G d x → Post Γ (Rep Γ) α G H (opSl d lo hi S) Q E → (rSlL Γ.K x lo hi H Q ∨ rSlA Γ.K x lo hi H Q ∨ rSlS x lo hi H Q) := by
  intro d lo hi S α G H x Q hR ra h
  have lists : ∀ o, rdL S d = o → Post Γ (Rep Γ) α G H (match o with
      | some xs => Res.ok (.lst (cutD xs lo hi)) S
      | none => .no) Q E → rSlL Γ.K x lo hi H Q := fun o q h => by
    cases o with
    | none => exact h.elim
    | some xs =>
      obtain ⟨p, vs, rfl, q1, r1⟩ := rdL_at hR ra q
      exact ⟨p, vs, rfl, q1, fun z hz => post_lst hR (cut_rep r1 lo hi) h hz⟩
  cases d with
  | tup xs =>
    obtain ⟨p, vs, rfl, q1, r1⟩ := tup_at hR ra
    simp only [opSl] at h
    refine .inr (.inl ⟨p, vs, rfl, q1, fun w => ?_, fun _ z hz => post_tup hR (cut_rep r1 lo hi) h hz⟩)
    rw [← r1.length] at w
    rw [cutD_whole w] at h
    exact post_ok h hR ra
  | str s =>
    simp only [opSl] at h
    simp only [Rep] at ra
    split at h
    · rename_i hs
      exact .inr (.inr ⟨s, ra, sz hs, post_ok h hR (by simp [Rep])⟩)
    · exact h.elim
  | _ => exact .inl (lists _ rfl h)
theorem q_sl {lo hi : Option Expr} {l h : MO} {p2 : Pos} (ha : QE X cl E a ma) (hl : QO X cl E lo l) (hh : QO X cl E hi h) : QE X cl E (.Subscript a (.Slice lo hi none p2) pos) (mSl ma l h) := by
  obtain ⟨t, h1, h2⟩ := ha.ex
  obtain ⟨u, k1, k2⟩ := hl.ex
  obtain ⟨w, l1, l2⟩ := hh.ex
  refine ⟨_, pe_slice (sl_list.or (sl_tupA.or sl_str)) h1 k1 l1, fun ρ S σ α G H Q hρ hR hp => h2 ρ S σ α G H _ hρ hR (post_bind hp fun d S1 α1 G1 H1 v _ e1 R1 r1 hp1 => ?_)⟩
  refine k2 ρ S1 σ α1 G1 H1 _ (hρ.mono e1) R1 (post_bind hp1 fun o S2 α2 G2 H2 o' _ e2 R2 r2 hp2 => ?_)
  refine l2 ρ S2 σ α2 G2 H2 _ ((hρ.mono e1).mono e2) R2 (post_bind hp2 fun i S3 α3 G3 H3 i' _ e3 R3 r3 hp3 => ?_)
  have r2 : o = o' := r2
  have r3 : i = i' := r3
  subst r2 r3
  exact snd_sl d o i S3 α3 G3 H3 v Q R3 (Rep.mono e3.pre e3.sub _ _ (Rep.mono e2.pre e2.sub _ _ r1)) hp3
end
end Q
namespace Q
open PySem L2
section
variable {X : Cx} {cl : Nat → Addr} {E : XK} {a b c e : Expr} {ma mb mc m : ME} {mt mu : MT} {pos : Pos}
def SndC (Γ : Gm) (E : XK) (r : List V → Hp → VK → Prop) (f : List D → Store → Res D) : Prop := ∀ (ds : List D) (S : Store) (α : List Addr) (G H : Hp) (vs : List V) (Q : VK), Rl Γ α G S H → RepL Γ α G ds vs → Post Γ (Rep Γ) α G H (f ds S) Q E → r vs H Q
structure QC (X : Cx) (cl : Nat → Addr) (E : XK) (v : Value) (f : List D → Store → Res D) : Prop where
  ex : ∃ r, CallR X v r ∧ SndC ⟨X.K, cl⟩ E r f
def mCall (f : List D → Store → Res D) (n : MA) : ME := fun ρ S => (n ρ S).bind f
theorem snd_cb {Γ : Gm} {r : List V → Hp → VK → Prop} {f : List D → Store → Res D} {n : MA} {t : TA} (hr : SndC Γ E r f) (h : SndA Γ E t n) : SndE Γ E (tCB r t) (mCall f n) := fun ρ S σ α G H Q hρ hR hp =>
  h ρ S σ α G H _ hρ hR (post_bind hp fun ds S1 α1 G1 H1 vs _ e1 R1 r1 hp1 => hr ds S1 α1 G1 H1 vs Q R1 r1 hp1)
theorem q_callB {x : Str} {p : Pos} {id : String} {es : List Expr} {n : MA} {f : List D → Store → Res D} (hc : QC X cl E (.builtin id) f) (hg : Gl X x) (hm : X.mg x = none) (hv : bootBuiltins x = some (.builtin id)) (ha : QA X cl E (e :: es) n) (hn : x ≠ "__name__" := by decide) (hdb : (x == ("__debug__" : Str)) = false := by decide)
    (he : starEach (e :: es) X.env = (false, eval e X.env) :: starEach es X.env := by rfl) (hpl : (backTo pos (starEach es X.env)).any (·.1) = false := by rfl) : QE X cl E (.Call (.Name x p) (e :: es) [] pos) (mCall f n) := by
  obtain ⟨r, h1, h2⟩ := hc.ex
  obtain ⟨t, k1, k2⟩ := ha.ex
  exact ⟨_, pe_callB h1 hg hm hv k1 hn hdb he hpl, snd_cb h2 k2⟩
theorem q_callTy {x : Str} {p : Pos} {T : String} {es : List Expr} {n : MA} {f : List D → Store → Res D} (hc : QC X cl E (.type T) f) (hg : Gl X x) (hm : X.mg x = none) (hv : bootBuiltins x = some (.type T)) (ha : QA X cl E (e :: es) n) (hn : x ≠ "__name__" := by decide) (hdb : (x == ("__debug__" : Str)) = false := by decide)
    (he : starEach (e :: es) X.env = (false, eval e X.env) :: starEach es X.env := by rfl) (hpl : (backTo pos (starEach es X.env)).any (·.1) = false := by rfl) : QE X cl E (.Call (.Name x p) (e :: es) [] pos) (mCall f n) := by
  obtain ⟨r, h1, h2⟩ := hc.ex
  obtain ⟨t, k1, k2⟩ := ha.ex
  exact ⟨_, pe_callTy h1 hg hm hv k1 hn hdb he hpl, snd_cb h2 k2⟩
theorem repL1 {Γ : Gm} {α : List Addr} {G : Hp} {d : D} {vs : List V} (r : RepL Γ α G [d] vs) : ∃ v, vs = [v] ∧ Rep Γ α G d v := by
  unfold RepL at r
  obtain ⟨v, w, rfl, h1, h2⟩ := r
  unfold RepL at h2
  subst h2
  exact ⟨v, rfl, h1⟩
theorem repL2 {Γ : Gm} {α : List Addr} {G : Hp} {d d' : D} {vs : List V} (r : RepL Γ α G [d, d'] vs) : ∃ v v', vs = [v, v'] ∧ Rep Γ α G d v ∧ Rep Γ α G d' v' := by
  unfold RepL at r
  obtain ⟨v, w, rfl, h1, h2⟩ := r
  obtain ⟨v', rfl, h3⟩ := repL1 h2
  exact ⟨v, v', rfl, h1, h3⟩
def un1 (g : D → Store → Res D) : List D → Store → Res D
  | [d], S => g d S
  | _, _ => .no
def un2 (g : D → D → Store → Res D) : List D → Store → Res D
  | [d, d'], S => g d d' S
  | _, _ => .no
theorem snd_un1 {Γ : Gm} {r : List V → Hp → VK → Prop} {g : D → Store → Res D} (h : ∀ d S α G H v Q, Rl Γ α G S H → Rep Γ α G d v → Post Γ (Rep Γ) α G H (g d S) Q E → r [v] H Q) : SndC Γ E r (un1 g) := fun ds S α G H vs Q hR rv hp => by
  cases ds with
  | nil => exact hp.elim
  | cons d ds =>
    cases ds with
    | nil =>
      obtain ⟨v, rfl, rv'⟩ := repL1 rv
      exact h d S α G H v Q hR rv' hp
    | cons _ _ => exact hp.elim
theorem snd_un2 {Γ : Gm} {r : List V → Hp → VK → Prop} {g : D → D → Store → Res D} (h : ∀ d d' S α G H v v' Q, Rl Γ α G S H → Rep Γ α G d v → Rep Γ α G d' v' → Post Γ (Rep Γ) α G H (g d d' S) Q E → r [v, v'] H Q) : SndC Γ E r (un2 g) := fun ds S α G H vs Q hR rv hp => by
  cases ds with
  | nil => exact hp.elim
  | cons d ds =>
    cases ds with
    | nil => exact hp.elim
    | cons d' ds =>
      cases ds with
      | cons _ _ => exact hp.elim
      | nil =>
        obtain ⟨v, v', rfl, r1, r2⟩ := repL2 rv
        exact h d d' S α G H v v' Q hR r1 r2 hp
def seqOf (S : Store) : D → Option (List D)
  | .tup xs => some xs
  | d => rdL S d
theorem seqOf_at {Γ : Gm} {α : List Addr} {G H : Hp} {S : Store} (R : Rl Γ α G S H) {d : D} {v : V} {xs : List D} (r : Rep Γ α G d v) (h : seqOf S d = some xs) : ∃ a vs, v = .ref a ∧ (SqL Γ.K H a vs ∨ SqT Γ.K H a vs) ∧ RepL Γ α G xs vs := by
  have go : rdL S d = some xs → ∃ a vs, v = .ref a ∧ (SqL Γ.K H a vs ∨ SqT Γ.K H a vs) ∧ RepL Γ α G xs vs := fun h => by
    obtain ⟨a, vs, e, q, r⟩ := rdL_at R r h
    exact ⟨a, vs, e, .inl q, r⟩
  cases d with
  | tup ys =>
    have e : ys = xs := Option.some.inj h
    subst e
    obtain ⟨a, vs, e, q, r⟩ := tup_at R r
    exact ⟨a, vs, e, .inr q, r⟩
  | _ => exact go h
def gLen : D → Store → Res D := fun d S => match d with
  | .str s => if s.length ≤ 100000 then .ok (.int s.length) S else .no
  | d => match seqOf S d with
    | some xs => .ok (.int xs.length) S
    | none => .no
def fLen := un1 gLen
theorem lenQ : QC X cl E (.builtin "len") fLen := by
  refine ⟨_, call_len, snd_un1 fun d S α G H v Q hR rv h => ?_⟩
  have seqs : ∀ o, seqOf S d = o → Post ⟨X.K, cl⟩ (Rep ⟨X.K, cl⟩) α G H (match o with
      | some xs => Res.ok (.int xs.length) S
      | none => .no) Q E → ∃ x n, [v] = [x] ∧ LenV X.K x H n ∧ Q (.int n) H := fun o q h => by
    cases o with
    | none => exact h.elim
    | some xs =>
      obtain ⟨p, ws, rfl, q1, r1⟩ := seqOf_at hR rv q
      refine ⟨.ref p, xs.length, rfl, ?_, post_ok h hR (by simp [Rep])⟩
      rcases q1 with q1 | q1
      · exact .inl ⟨ws, q1, r1.length⟩
      · exact .inr ⟨ws, q1, r1.length⟩
  cases d with
  | str s =>
    simp only [gLen] at h
    simp only [Rep] at rv
    split at h
    · rename_i hs
      exact ⟨v, s.length, rfl, by subst rv; exact ⟨sz hs, rfl⟩, post_ok h hR (by simp [Rep])⟩
    · exact h.elim
  | _ => exact seqs _ rfl h
def gAbs : D → Store → Res D := fun d S => match d with
  | .int i => .ok (.int (if i < 0 then -i else i)) S
  | _ => .no
def fAbs := un1 gAbs
theorem absQ : QC X cl E (.builtin "abs") fAbs := by
  refine ⟨_, call_abs, snd_un1 fun d S α G H v Q hR rv h => ?_⟩
  cases d <;> try exact h.elim
  rename_i i
  simp only [Rep] at rv
  subst rv
  exact ⟨i, rfl, post_ok (x := V.int (if i < 0 then -i else i)) h hR (by simp [Rep])⟩
def gInt : D → Store → Res D := fun d S => match d with
  | .int i => .ok (.int i) S
  | .bl b => .ok (.int (if b then 1 else 0)) S
  | _ => .no
def fInt := un1 gInt
theorem intQ : QC X cl E (.type "int") fInt := by
  refine ⟨_, call_int1, snd_un1 fun d S α G H v Q hR rv h => ?_⟩
  cases d <;> try exact h.elim
  · rename_i b
    simp only [Rep] at rv
    subst rv
    exact .inr ⟨b, rfl, post_ok (x := V.int (if b then 1 else 0)) h hR (by simp [Rep])⟩
  · rename_i i
    simp only [Rep] at rv
    subst rv
    exact .inl ⟨i, rfl, post_ok (x := V.int i) h hR (by simp [Rep])⟩
def gListC : D → Store → Res D := fun d S => match seqOf S d with
  | some xs => .ok (.ref S.length) (S ++ [.lst xs])
  | none => .no
def fListC := un1 gListC
theorem listCQ : QC X cl E (.type "list") fListC := by
  refine ⟨_, call_list_of, snd_un1 fun d S α G H v Q hR rv h => ?_⟩
  simp only [gListC] at h
  cases q : seqOf S d with
  | none => simp [q, Post] at h
  | some xs =>
    simp only [q] at h
    obtain ⟨p, ws, rfl, q1, r1⟩ := seqOf_at hR rv q
    exact ⟨p, ws, rfl, q1, fun z hz => post_cell hR r1 h hz⟩
def gTuple : D → Store → Res D := fun d S => match d with
  | .tup xs => .ok (.tup xs) S
  | d => match rdL S d with
    | some xs => .ok (.tup xs) S
    | none => .no
def fTuple := un1 gTuple
theorem tupleQ : QC X cl E (.type "tuple") fTuple := by
  refine ⟨_, call_tuple_of, snd_un1 fun d S α G H v Q hR rv h => ?_⟩
  have lists : ∀ o, rdL S d = o → Post ⟨X.K, cl⟩ (Rep ⟨X.K, cl⟩) α G H (match o with
      | some xs => Res.ok (.tup xs) S
      | none => .no) Q E → ∃ p ys, [v] = [.ref p] ∧ ((SqL X.K H p ys ∧ ∀ l, H l = none → Q (.ref l) (upd H l (.tup ys))) ∨ (SqT X.K H p ys ∧ Q (.ref p) H)) := fun o q h => by
    cases o with
    | none => exact h.elim
    | some xs =>
      obtain ⟨p, ws, rfl, q1, r1⟩ := rdL_at hR rv q
      exact ⟨p, ws, rfl, .inl ⟨q1, fun z hz => post_tup hR r1 h hz⟩⟩
  cases d with
  | tup xs =>
    obtain ⟨p, ws, rfl, q1, r1⟩ := tup_at hR rv
    exact ⟨p, ws, rfl, .inr ⟨q1, post_ok h hR rv⟩⟩
  | _ => exact lists _ rfl h
def boolsD : List D → Option (List Bool)
  | [] => some []
  | .bl b :: ds => (boolsD ds).map (b :: ·)
  | _ => none
theorem bools_rep {Γ : Gm} {α : List Addr} {G : Hp} : ∀ {ds : List D} {vs : List V} {bs : List Bool}, RepL Γ α G ds vs → boolsD ds = some bs → vs = bs.map V.bl
  | [], vs, bs, r, h => by
    unfold RepL at r
    simp only [boolsD, Option.some.injEq] at h
    subst r h
    rfl
  | d :: ds, vs, bs, r, h => by
    unfold RepL at r
    obtain ⟨v, w, rfl, h1, h2⟩ := r
    cases d <;> simp only [boolsD, reduceCtorEq] at h
    rename_i b
    simp only [Rep] at h1
    subst h1
    cases q : boolsD ds with
    | none => simp [q] at h
    | some cs =>
      simp only [q, Option.map_some, Option.some.injEq] at h
      subst h
      rw [bools_rep h2 q]
      rfl
def onBools (g : List Bool → D) := un1 fun d S => match (rdL S d).bind boolsD with
  | some bs => .ok (g bs) S
  | none => .no
def fAll := onBools fun bs => .bl (bs.all id)
def maxI : List Int → Int
  | [] => 0
  | [x] => x
  | x :: xs => if maxI xs > x then maxI xs else x
theorem maxI_ge : ∀ {ns : List Int} {y : Int}, y ∈ ns → y ≤ maxI ns
  | [x], y, h => by simp at h; subst h; simp [maxI]
  | x :: x' :: xs, y, h => by
    have ih : ∀ z ∈ x' :: xs, z ≤ maxI (x' :: xs) := fun z hz => maxI_ge hz
    rcases List.mem_cons.mp h with rfl | h
    · show y ≤ if maxI (x' :: xs) > y then maxI (x' :: xs) else y
      split <;> omega
    · have := ih y h
      show y ≤ if maxI (x' :: xs) > x then maxI (x' :: xs) else x
      split <;> omega
theorem maxI_mem : ∀ {ns : List Int}, ns ≠ [] → maxI ns ∈ ns
  | [x], _ => by simp [maxI]
  | x :: x' :: xs, _ => by
    have ih : maxI (x' :: xs) ∈ x' :: xs := maxI_mem (by simp)
    show (if maxI (x' :: xs) > x then maxI (x' :: xs) else x) ∈ _
    split
    · exact List.mem_cons_of_mem _ ih
    · exact List.mem_cons_self
theorem snd_bools {Γ : Gm} {g : List Bool → D} {g' : List Bool → V} (hg : ∀ α G bs, Rep Γ α G (g bs) (g' bs)) : SndC Γ E (fun vs H Q => ∃ (a : Addr) (bs : List Bool), vs = [V.ref a] ∧ SqL Γ.K H a (bs.map V.bl) ∧ Q (g' bs) H) (onBools g) := snd_un1 fun d S α G H v Q hR rv h => by
  cases q : rdL S d with
  | none => simp [q, Post] at h
  | some xs =>
    simp only [q, Option.bind_some] at h
    obtain ⟨p, ws, rfl, q1, r1⟩ := rdL_at hR rv q
    cases z : boolsD xs with
    | none => simp [z, Post] at h
    | some bs =>
      simp only [z] at h
      rw [bools_rep r1 z] at q1
      exact ⟨p, bs, rfl, q1, post_ok h hR (hg _ _ _)⟩
theorem allQ (hc : X.calm = true := by rfl) : QC X cl E (.builtin "all") fAll := ⟨_, cr_all hc, snd_bools (Γ := ⟨X.K, cl⟩) fun _ _ _ => by simp [Rep]⟩
def gMax2 : D → D → Store → Res D := fun a b S => match a, b with
  | .int i, .int j => .ok (.int (if j > i then j else i)) S
  | _, _ => .no
def gMin2 : D → D → Store → Res D := fun a b S => match a, b with
  | .int i, .int j => .ok (.int (if j < i then j else i)) S
  | _, _ => .no
def fMax2 := un2 gMax2
def fMin2 := un2 gMin2
theorem max2Q (hc : X.calm = true := by rfl) : QC X cl E (.builtin "max") fMax2 := by
  refine ⟨_, call_max2 hc, snd_un2 fun a b S α G H v w Q hR rv rw' h => ?_⟩
  cases a <;> cases b <;> try exact h.elim
  rename_i i j
  simp only [Rep] at rv rw'
  subst rv rw'
  exact ⟨i, j, rfl, post_ok (x := V.int (if j > i then j else i)) h hR (by simp [Rep])⟩
theorem min2Q (hc : X.calm = true := by rfl) : QC X cl E (.builtin "min") fMin2 := by
  refine ⟨_, call_min2 hc, snd_un2 fun a b S α G H v w Q hR rv rw' h => ?_⟩
  cases a <;> cases b <;> try exact h.elim
  rename_i i j
  simp only [Rep] at rv rw'
  subst rv rw'
  exact ⟨i, j, rfl, post_ok (x := V.int (if j < i then j else i)) h hR (by simp [Rep])⟩
theorem op_inT {hu : X.A.units + 65 < cLine} : OpR X (compareOp .In) (fun x y H Q => ∃ d ds, Dp X.K H x d ∧ Dp X.K H y (.tuple ds) ∧ SeqAt.shaped d = true ∧ SeqAt.shaped (.tuple ds) = true ∧ Q (.bl (ds.any fun z => PyData.eqv z d)) H) := by
  intro pins s σ H x y v u Q I rx ry h
  obtain ⟨d, ds, hd, he, sd, se, q⟩ := h
  obtain ⟨as, r1⟩ := Dp.reads I d x v hd rx
  obtain ⟨bs, r2⟩ := Dp.reads I (.tuple ds) y u he ry
  exact SeqAt.in_tuple_reads r2 r1 (SeqAt.canLay_of_shaped se) (SeqAt.canLay_of_shaped sd) (PyProof.Rows.room_in_shaped sd hu) ⟨.bl _, H, I, rfl, q⟩
theorem op_ninT {hu : X.A.units + 65 < cLine} : OpR X (compareOp .NotIn) (fun x y H Q => ∃ d ds, Dp X.K H x d ∧ Dp X.K H y (.tuple ds) ∧ SeqAt.shaped d = true ∧ SeqAt.shaped (.tuple ds) = true ∧ Q (.bl (!ds.any fun z => PyData.eqv z d)) H) := by
  intro pins s σ H x y v u Q I rx ry h
  obtain ⟨d, ds, hd, he, sd, se, q⟩ := h
  obtain ⟨as, r1⟩ := Dp.reads I d x v hd rx
  obtain ⟨bs, r2⟩ := Dp.reads I (.tuple ds) y u he ry
  exact SeqAt.notIn_tuple_reads r2 r1 (SeqAt.canLay_of_shaped se) (SeqAt.canLay_of_shaped sd) (PyProof.Rows.room_in_shaped sd hu) ⟨.bl _, H, I, rfl, q⟩
def inD (xs : List D) (a : D) : Bool := xs.any fun z => deq z a
def opIn : D → D → Store → Res D := fun a b S => match deref S b with
  | .tup xs => if shal 20 a && shal 20 (.tup xs) then .ok (.bl (inD xs a)) S else .no
  | .lst xs => if shal 20 a && shal 20 (.lst xs) then .ok (.bl (inD xs a)) S else .no
  | _ => .no
def opNin : D → D → Store → Res D := fun a b S => match deref S b with
  | .tup xs => if shal 20 a && shal 20 (.tup xs) then .ok (.bl (!inD xs a)) S else .no
  | .lst xs => if shal 20 a && shal 20 (.lst xs) then .ok (.bl (!inD xs a)) S else .no
  | _ => .no
theorem any_py {xs : List D} {a : D} (h : ∀ x ∈ xs, shal 19 x = true) (ha : shal 20 a = true) : ((toPyL xs).any fun z => PyData.eqv z (toPy a)) = inD xs a := by
  rw [toPyL_map, List.any_map]
  unfold inD
  induction xs with
  | nil => rfl
  | cons x xs ih =>
    simp only [List.any_cons, Function.comp]
    rw [deq_py 19 20 x a (h x (by simp)) ha]
    have ih' := ih fun z hz => h z (by simp [hz])
    rw [ih']
theorem shal19 {xs : List D} (h : shal 20 (.tup xs) = true) : ∀ x ∈ xs, shal 19 x = true := by simpa [shal] using h
theorem shal19l {xs : List D} (h : shal 20 (.lst xs) = true) : ∀ x ∈ xs, shal 19 x = true := by simpa [shal] using h
theorem inQ {k : Nat} (hr : Room k X.A) : QR X cl E (compareOp .In) opIn := by
  have hu : X.A.units + 65 < cLine := by have := hr.un; omega
  refine ⟨_, OpR.or (op_inT (hu := hu)) (op_inD hu), fun a b S α G H x y Q hR ra rb h => ?_⟩
  unfold opIn at h
  have hd := @deref_dp (Γ := ⟨X.K, cl⟩) α G H S hR b y
  split at h
  · rename_i xs e
    rw [e] at hd
    split at h
    · rename_i hs
      rw [Bool.and_eq_true] at hs
      have s2 := shal_shaped hs.2
      have d2 := hd hs.2 rb
      simp only [toPy] at s2 d2
      exact .inl ⟨_, _, rep_dp (Γ := ⟨X.K, cl⟩) hR.sub 20 a x hs.1 ra, d2, shal_shaped hs.1, s2, by rw [any_py (shal19 hs.2) hs.1]; exact post_ok h hR (by simp [Rep])⟩
    · exact h.elim
  · rename_i xs e
    rw [e] at hd
    split at h
    · rename_i hs
      rw [Bool.and_eq_true] at hs
      have s2 := shal_shaped hs.2
      have d2 := hd hs.2 rb
      simp only [toPy] at s2 d2
      exact .inr ⟨_, _, rep_dp (Γ := ⟨X.K, cl⟩) hR.sub 20 a x hs.1 ra, d2, shal_shaped hs.1, s2, by rw [any_py (shal19l hs.2) hs.1]; exact post_ok h hR (by simp [Rep])⟩
    · exact h.elim
  · exact h.elim
theorem ninQ {k : Nat} (hr : Room k X.A) : QR X cl E (compareOp .NotIn) opNin := by
  have hu : X.A.units + 65 < cLine := by have := hr.un; omega
  refine ⟨_, OpR.or (op_ninT (hu := hu)) (op_notInD hu), fun a b S α G H x y Q hR ra rb h => ?_⟩
  unfold opNin at h
  have hd := @deref_dp (Γ := ⟨X.K, cl⟩) α G H S hR b y
  split at h
  · rename_i xs e
    rw [e] at hd
    split at h
    · rename_i hs
      rw [Bool.and_eq_true] at hs
      have s2 := shal_shaped hs.2
      have d2 := hd hs.2 rb
      simp only [toPy] at s2 d2
      exact .inl ⟨_, _, rep_dp (Γ := ⟨X.K, cl⟩) hR.sub 20 a x hs.1 ra, d2, shal_shaped hs.1, s2, by rw [any_py (shal19 hs.2) hs.1]; exact post_ok h hR (by simp [Rep])⟩
    · exact h.elim
  · rename_i xs e
    rw [e] at hd
    split at h
    · rename_i hs
      rw [Bool.and_eq_true] at hs
      have s2 := shal_shaped hs.2
      have d2 := hd hs.2 rb
      simp only [toPy] at s2 d2
      exact .inr ⟨_, _, rep_dp (Γ := ⟨X.K, cl⟩) hR.sub 20 a x hs.1 ra, d2, shal_shaped hs.1, s2, by rw [any_py (shal19l hs.2) hs.1]; exact post_ok h hR (by simp [Rep])⟩
    · exact h.elim
  · exact h.elim
inductive Ty where
  | int | bool | str | list | tuple
def Ty.nm : Ty → String
  | .int => "int" | .bool => "bool" | .str => "str" | .list => "list" | .tuple => "tuple"
def tyN : D → String
  | .non => "NoneType" | .bl _ => "bool" | .int _ => "int" | .str _ => "str" | .tup _ => "tuple" | .lst _ => "list" | .fro _ => "list" | .ref _ => "list" | .obj _ _ => "object" | .exn _ _ => "object"
def isTy (T : Ty) : D → Bool
  | .bl _ => match T with | .int => true | .bool => true | _ => false
  | .int _ => match T with | .int => true | _ => false
  | .str _ => match T with | .str => true | _ => false
  | .tup _ => match T with | .tuple => true | _ => false
  | .lst _ | .fro _ | .ref _ => match T with | .list => true | _ => false
  | .non | .obj _ _ | .exn _ _ => false
def isOk (S : Store) : D → Bool
  | .obj _ _ => false
  | .exn _ _ => false
  | .ref k => (lstOf S (.ref k)).isSome
  | _ => true
theorem tyx_at {Γ : Gm} {α : List Addr} {G H : Hp} {S : Store} (R : Rl Γ α G S H) {d : D} {v : V} (r : Rep Γ α G d v) (h : isOk S d = true) : TyX Γ.K H v (.type (tyN d)) := by
  have lists : ∀ {a : Addr} {vs : List V}, SqL Γ.K H a vs → TyX Γ.K H (.ref a) (.type "list") := fun {a vs} q => by
    rcases q with (q | ⟨o, q⟩) | ⟨o, its, n, q, c, _⟩
    · exact .base (.lst q)
    · exact .base (.frz q)
    · exact .kList q c
  cases d with
  | non => simp only [Rep] at r; subst r; exact .base .non
  | bl b => simp only [Rep] at r; subst r; exact .base (.bl b)
  | int b => simp only [Rep] at r; subst r; exact .base (.int b)
  | str b => simp only [Rep] at r; subst r; exact .base (.str b)
  | tup xs =>
    obtain ⟨a, vs, rfl, q, _⟩ := tup_at R r
    rcases q with (q | ⟨o, q⟩) | ⟨o, its, n, q, c, _⟩
    · exact .base (.tup q)
    · exact .fTuple q
    · exact .kTuple q c
  | lst xs =>
    obtain ⟨a, vs, rfl, q, _⟩ := rdL_at R r (show rdL S (.lst xs) = some xs from rfl)
    exact lists q
  | fro xs =>
    obtain ⟨a, vs, rfl, q, _⟩ := rdL_at R r (show rdL S (.fro xs) = some xs from rfl)
    exact lists q
  | obj _ _ => simp [isOk] at h
  | exn _ _ => simp [isOk] at h
  | ref k =>
    obtain ⟨xs, hx⟩ := Option.isSome_iff_exists.mp h
    obtain ⟨a, vs, rfl, h1, _⟩ := lstOf_at R r hx
    exact lists (.inl (.inl h1))
theorem kit_at {S : Store} (T : Ty) (d : D) (h : isOk S d = true) {K : PySem.W.Frag} : PySem.W.kitOne K (.type (tyN d)) (.type T.nm) = some (isTy T d) := by
  cases d <;> first
    | (simp [isOk] at h; done)
    | (cases T <;> exact kit_ty (by dsimp only [tyN, isTy, Ty.nm]; decide +kernel))
def mIsi (T : Ty) (m : ME) : ME := fun ρ S => (m ρ S).bind fun d S1 => if isOk S1 d then .ok (.bl (isTy T d)) S1 else .no
theorem q_isi (T : Ty) {x : Str} {p p2 : Pos} (h : QE X cl E a m) (hg : Gl X "isinstance") (hm : X.mg "isinstance" = none) (hg2 : Gl X x) (hm2 : X.mg x = none) (hv : bootBuiltins x = some (.type T.nm)) (hn : x ≠ "__name__" := by decide) (hdb : (x == ("__debug__" : Str)) = false := by decide)
    (hs1 : starEach [a, .Name x p2] X.env = (false, eval a X.env) :: starEach [.Name x p2] X.env := by rfl) (hs2 : starEach [.Name x p2] X.env = (false, eval (.Name x p2) X.env) :: starEach [] X.env := by rfl) (hpl : (backTo pos (starEach [.Name x p2] X.env)).any (·.1) = false := by rfl) :
    QE X cl E (.Call (.Name "isinstance" p) [a, .Name x p2] [] pos) (mIsi T m) := by
  obtain ⟨t, h1, h2⟩ := h.ex
  refine ⟨_, pe_callB call_isi hg hm (by decide +kernel) (pa_cons h1 (pa_cons (pe_bltn (v := .ty T.nm) hg2 hm2 hv rfl hn hdb) pa_nil hs2) hs1) (by decide) (by decide) hs1 hpl, fun ρ S σ α G H Q hρ hR hp => h2 ρ S σ α G H _ hρ hR (post_bind hp fun d S1 α1 G1 H1 v _ e1 R1 r1 hp1 => ?_)⟩
  split at hp1
  · rename_i hk
    exact ⟨v, .ty T.nm, .type (tyN d), .type T.nm, isTy T d, rfl, .ty _, tyx_at R1 r1 hk, kit_at T d hk, post_ok hp1 R1 (by simp [Rep])⟩
  · exact hp1.elim
def mIsi2 (T U : Ty) (m : ME) : ME := fun ρ S => (m ρ S).bind fun d S1 => if isOk S1 d then .ok (.bl (isTy T d || isTy U d)) S1 else .no
theorem q_isi2 (T U : Ty) {x y : Str} {p p2 p3 p4 : Pos} {x1} (h : QE X cl E a m) (hg : Gl X "isinstance") (hm : X.mg "isinstance" = none) (hg2 : Gl X x) (hm2 : X.mg x = none) (hv : bootBuiltins x = some (.type T.nm)) (hg3 : Gl X y) (hm3 : X.mg y = none) (hv3 : bootBuiltins y = some (.type U.nm))
    (hn : x ≠ "__name__" := by decide) (hdb : (x == ("__debug__" : Str)) = false := by decide) (hn3 : y ≠ "__name__" := by decide) (hdb3 : (y == ("__debug__" : Str)) = false := by decide)
    (hs1 : starEach [a, .Tuple [.Name x p2, .Name y p3] x1 p4] X.env = (false, eval a X.env) :: starEach [.Tuple [.Name x p2, .Name y p3] x1 p4] X.env := by rfl) (hs2 : starEach [.Tuple [.Name x p2, .Name y p3] x1 p4] X.env = (false, eval (.Tuple [.Name x p2, .Name y p3] x1 p4) X.env) :: starEach [] X.env := by rfl)
    (hs3 : starEach [.Name x p2, .Name y p3] X.env = (false, eval (.Name x p2) X.env) :: starEach [.Name y p3] X.env := by rfl) (hs4 : starEach [.Name y p3] X.env = (false, eval (.Name y p3) X.env) :: starEach [] X.env := by rfl)
    (hpl : (backTo pos (starEach [.Tuple [.Name x p2, .Name y p3] x1 p4] X.env)).any (·.1) = false := by rfl) :
    QE X cl E (.Call (.Name "isinstance" p) [a, .Tuple [.Name x p2, .Name y p3] x1 p4] [] pos) (mIsi2 T U m) := by
  obtain ⟨t, h1, h2⟩ := h.ex
  refine ⟨_, pe_callB call_isiT hg hm (by decide +kernel) (pa_cons h1 (pa_cons (pe_tup (pa_cons (pe_bltn (v := .ty T.nm) hg2 hm2 hv rfl hn hdb) (pa_cons (pe_bltn (v := .ty U.nm) hg3 hm3 hv3 rfl hn3 hdb3) pa_nil hs4) hs3)) pa_nil hs2) hs1) (by decide) (by decide) hs1 hpl, fun ρ S σ α G H Q hρ hR hp => h2 ρ S σ α G H _ hρ hR (post_bind hp fun d S1 α1 G1 H1 v _ e1 R1 r1 hp1 => ?_)⟩
  split at hp1
  · rename_i hk
    refine ⟨sz (by simp), fun tp htp => ?_⟩
    obtain ⟨R2, e2⟩ := R1.out htp (.tup [.ty T.nm, .ty U.nm])
    refine ⟨v, tp, [.ty T.nm, .ty U.nm], .type (tyN d), [.type T.nm, .type U.nm], isTy T d || isTy U d, rfl, upd_same, .cons (.ty _) (.cons (.ty _) .nil), tyx_at R2 (Rep.mono e2.pre e2.sub _ _ r1) hk, ?_, hp1 _ _ _ _ e2 R2 (by simp [Rep])⟩
    refine kitAny_cons (kit_at T d hk) (fun e => ?_) (fun e => by rw [e]; rfl)
    refine kitAny_cons (kit_at U d hk) (fun e' => ?_) (fun e' => by rw [e']; simp)
    rw [e, e']
    exact kitAny_nil
  · exact hp1.elim
def spM (Γ : Gm) (f : List D → Store → Res D) : Sp := fun vs H Q E => ∃ ds α G S, RepL Γ α G ds vs ∧ Rl Γ α G S H ∧ Post Γ (Rep Γ) α G H (f ds S) Q E
def nox {β : Type} : Res β → Res β
  | .ex _ _ => .no
  | r => r
@[simp] theorem nox_ok {β : Type} (a : β) (S : Store) : nox (Res.ok a S) = .ok a S := rfl
@[simp] theorem nox_no {β : Type} : nox (Res.no : Res β) = .no := rfl
def fCall (f : List D → Store → Res D) : List D → Store → Res D := fun ds S => nox (f ds S)
mutual
def pureD : D → Bool
  | .ref _ => false
  | .tup xs => pureL xs
  | .lst xs => pureL xs
  | .fro xs => pureL xs
  | .obj _ fs => pureL fs
  | .exn _ fs => pureL fs
  | _ => true
def pureL : List D → Bool
  | [] => true
  | d :: ds => pureD d && pureL ds
end
def fPure (f : List D → Store → Res D) : List D → Store → Res D := fun ds S => if pureL ds then match f ds [] with
  | .ok d [] => .ok d S
  | _ => .no
  else .no
mutual
theorem pure_rep {Γ : Gm} {α β : List Addr} {G : Hp} : ∀ (d : D) (v : V), pureD d = true → Rep Γ α G d v → Rep Γ β G d v
  | .non, v, _, h => by simpa [Rep] using h
  | .bl b, v, _, h => by simpa [Rep] using h
  | .int i, v, _, h => by simpa [Rep] using h
  | .str s, v, _, h => by simpa [Rep] using h
  | .tup ds, v, p, h => by
    unfold Rep at h ⊢
    obtain ⟨a, vs, e, q, r⟩ := h
    exact ⟨a, vs, e, q, pureL_rep ds vs (by simpa [pureD] using p) r⟩
  | .lst ds, v, p, h => by
    unfold Rep at h ⊢
    obtain ⟨a, vs, e, q, r⟩ := h
    exact ⟨a, vs, e, q, pureL_rep ds vs (by simpa [pureD] using p) r⟩
  | .fro ds, v, p, h => by
    unfold Rep at h ⊢
    obtain ⟨a, vs, e, q, r⟩ := h
    exact ⟨a, vs, e, q, pureL_rep ds vs (by simpa [pureD] using p) r⟩
  | .obj c ds, v, p, h => by
    unfold Rep at h ⊢
    obtain ⟨a, vs, e, q, r⟩ := h
    exact ⟨a, vs, e, q, pureL_rep ds vs (by simpa [pureD] using p) r⟩
  | .exn c ds, v, p, h => by
    unfold Rep at h ⊢
    obtain ⟨a, vs, e, q, r⟩ := h
    exact ⟨a, vs, e, q, pureL_rep ds vs (by simpa [pureD] using p) r⟩
  | .ref k, v, p, _ => by simp [pureD] at p
theorem pureL_rep {Γ : Gm} {α β : List Addr} {G : Hp} : ∀ (ds : List D) (vs : List V), pureL ds = true → RepL Γ α G ds vs → RepL Γ β G ds vs
  | [], vs, _, h => by simpa [RepL] using h
  | d :: ds, vs, p, h => by
    unfold RepL at h ⊢
    obtain ⟨v, r, e, h1, h2⟩ := h
    simp only [pureL, Bool.and_eq_true] at p
    exact ⟨v, r, e, pure_rep d v p.1 h1, pureL_rep ds r p.2 h2⟩
end
theorem nox_post {Γ : Gm} {α : List Addr} {G H : Hp} {r : Res D} {Q : VK} (h : Post Γ (Rep Γ) α G H (nox r) Q E) {E' : XK} : Post Γ (Rep Γ) α G H r Q E' := by
  cases r with
  | ok d S => exact h
  | ex e S => exact h.elim
  | no => exact h.elim
theorem sp_call {Γ : Gm} {f : List D → Store → Res D} : SndC Γ E (fun vs H Q => spM Γ f vs H Q E0) (fCall f) := fun ds S α G H vs Q hR r h => ⟨ds, α, G, S, r, hR, nox_post h⟩
theorem Rl.bare {Γ : Gm} {α : List Addr} {G H : Hp} {S : Store} (R : Rl Γ α G S H) : Rl Γ [] G [] H := ⟨R.sub, rfl, List.nodup_nil, fun a m => (by simp at m), fun k c a h => (by simp at h)⟩
theorem Rl.back {Γ : Gm} {α : List Addr} {G H G' H' : Hp} {S : Store} (R : Rl Γ α G S H) (R' : Rl Γ [] G' [] H') (e : Ext [] G H [] G' H') : Rl Γ α G' S H' ∧ Ext α G H α G' H' := by
  have keep : ∀ a o, H a = some o → H' a = some o := fun a o h => e.fr a o h (by simp)
  have gn : ∀ a, a ∈ α → G a = none → G' a = none := fun a m h => by
    cases q : G' a with
    | none => rfl
    | some o =>
      rcases e.ng a (by rw [q]; simp) with z | z | z | ⟨xs, z⟩
      · exact absurd h z
      · simp at z
      · exact absurd z (R.tr a m)
      · exact absurd z (R.ntup m xs)
  refine ⟨⟨R'.sub, R.len, R.nd, fun a m => ?_, fun k c a hc ha => ?_⟩, ⟨⟨[], by simp⟩, e.sub, fun a o h _ => keep a o h, fun a m => .inl m, fun a h => ?_⟩⟩
  · cases q : H a with
    | none => exact absurd q (R.tr a m)
    | some o => rw [keep a o q]; simp
  · have hm : a ∈ α := List.mem_of_getElem? ha
    refine (R.ok k c a hc ha).mono ⟨[], by simp⟩ e.sub fun _ => ⟨?_, gn a hm⟩
    cases q : H a with
    | none => exact absurd q (R.tr a hm)
    | some o => exact keep a o q
  · rcases e.ng a h with z | z | z
    · exact .inl z
    · simp at z
    · exact .inr (.inr z)
theorem sp_pure {Γ : Gm} {f : List D → Store → Res D} : SndC Γ E (fun vs H Q => spM Γ f vs H Q E0) (fPure f) := fun ds S α G H vs Q hR r h => by
  unfold fPure at h
  split at h
  · rename_i hp
    refine ⟨ds, [], G, [], pureL_rep ds vs hp r, hR.bare, ?_⟩
    cases q : f ds [] with
    | no => rw [q] at h; exact h.elim
    | ex e S' => rw [q] at h; exact h.elim
    | ok d S' =>
      rw [q] at h
      cases S' with
      | cons c T => exact h.elim
      | nil =>
        intro α' G' H' v e R' rv
        have ea : α' = [] := List.eq_nil_of_length_eq_zero (by rw [R'.len]; rfl)
        subst ea
        obtain ⟨R2, e2⟩ := hR.back R' e
        exact h α G' H' v e2 R2 (Rep.mono (α := []) ⟨α, by simp⟩ (Sub.refl _) _ _ rv)
  · exact h.elim
theorem q_call {g : List D → Store → Res D} {f : List D → Store → Res D} {k : Nat} {fa : Addr} {fd : FuncData} {ps : List Str} {x : Str} {p : Pos} {es : List Expr} {n : MA} (F : FnOk X.prog X.w X.K X.mg X.base CX0 k fa fd ps (spM ⟨X.K, cl⟩ f)) (hr : Room k X.A)
    (hg : Gl X x) (hm : X.mg x = some (.ref fa)) (hk : PySem.W.keepIn X.K (.ref fa) = true) (hb : Binds X.K fd ps []) (ha : QA X cl E (e :: es) n) (hf : SndC ⟨X.K, cl⟩ E (fun vs H Q => spM ⟨X.K, cl⟩ f vs H Q E0) g)
    (hdb : (x == ("__debug__" : Str)) = false := by decide) (he : starEach (e :: es) X.env = (false, eval e X.env) :: starEach es X.env := by rfl) (hpl : (backTo pos (starEach es X.env)).any (·.1) = false := by rfl) :
    QE X cl E (.Call (.Name x p) (e :: es) [] pos) (mCall g n) := by
  obtain ⟨t, h1, h2⟩ := ha.ex
  refine ⟨_, pe_call F hr hg hm hk hb .nil pass0 h1 hdb he hpl, fun ρ S σ α G H Q hρ hR hp => h2 ρ S σ α G H _ hρ hR (post_bind hp fun ds S1 α1 G1 H1 vs _ e1 R1 r1 hp1 => ?_)⟩
  rw [List.append_nil]
  exact hf ds S1 α1 G1 H1 vs Q R1 r1 hp1
theorem q_call0 {g : List D → Store → Res D} {f : List D → Store → Res D} {k : Nat} {fa : Addr} {fd : FuncData} {ps : List Str} {x : Str} {p : Pos} (F : FnOk X.prog X.w X.K X.mg X.base CX0 k fa fd ps (spM ⟨X.K, cl⟩ f)) (hr : Room k X.A)
    (hg : Gl X x) (hm : X.mg x = some (.ref fa)) (hk : PySem.W.keepIn X.K (.ref fa) = true) (hb : Binds X.K fd ps []) (hf : SndC ⟨X.K, cl⟩ E (fun vs H Q => spM ⟨X.K, cl⟩ f vs H Q E0) g)
    (hdb : (x == ("__debug__" : Str)) = false := by decide) :
    QE X cl E (.Call (.Name x p) [] [] pos) (mCall g mNil) := by
  refine ⟨_, pe_call0 F hr hg hm hk hb .nil pass0 hdb, fun ρ S σ α G H Q hρ hR hp => ?_⟩
  exact hf [] S α G H [] Q hR (by simp [RepL]) hp
end
end Q
namespace Q
open PySem L2
section
variable {X : Cx} {cl : Nat → Addr} {E : XK} {a b c e : Expr} {ma mb mc m : ME} {mt mu : MT} {pos : Pos} {st : Stmt} {rest : List Stmt} {n n' : MS}
def mSkip : MS := fun ρ S => .ok (.nx ρ) S
def mSeq (n n' : MS) : MS := fun ρ S => (n ρ S).bind fun f S1 => match f with
  | .nx ρ1 => n' ρ1 S1
  | f => .ok f S1
theorem snd_seq {Γ : Gm} {t u : TS} (h : SndS Γ E t n) (k : SndS Γ E u n') : SndS Γ E (tSeq t u) (mSeq n n') := fun ρ S σ α G H Dn hρ hR hp => by
  refine h ρ S σ α G H _ hρ hR ?_
  unfold mSeq at hp
  cases q : n ρ S with
  | no => rw [q] at hp; exact hp
  | ex e S' => rw [q] at hp; exact hp
  | ok f S' =>
    rw [q] at hp
    cases f with
    | nx ρ1 => exact fun α' G' H' σ' e1 R1 r1 => k ρ1 S' σ' α' G' H' Dn r1 R1 (PostS.mono hp e1)
    | rt d => exact hp
    | bk ρ1 => exact hp
    | ct ρ1 => exact hp
theorem qss_nil : QSs X cl E [] mSkip := ⟨_, pss_nil, fun ρ S σ α G H Dn hρ hR hp => hp α G H σ (Ext.refl _ _ _) hR hρ⟩
theorem qss_cons (h : QS X cl E st n) (k : QSs X cl E rest n') : QSs X cl E (st :: rest) (mSeq n n') := by
  obtain ⟨t, h1, h2⟩ := h.ex
  obtain ⟨u, k1, k2⟩ := k.ex
  exact ⟨_, pss_cons h1 k1, snd_seq h2 k2⟩
theorem qss_one (h : QS X cl E st n) : QSs X cl E [st] n := by
  obtain ⟨t, h1, h2⟩ := h.ex
  exact ⟨_, pss_one h1, h2⟩
def mDrop (m : ME) : MS := fun ρ S => (m ρ S).bind fun _ S1 => .ok (.nx ρ) S1
theorem qs_expr (h : QE X cl E e m) (hs : swapsWith e none pos.line X.env = pure false := by rfl) : QS X cl E (.Expr e pos) (mDrop m) := by
  obtain ⟨t, h1, h2⟩ := h.ex
  exact ⟨_, ps_expr h1 hs, fun ρ S σ α G H Dn hρ hR hp => h2 ρ S σ α G H _ hρ hR (posts_bind hp fun d S1 α1 G1 H1 v _ e1 R1 r1 hp1 => hp1 α1 G1 H1 σ (Ext.refl _ _ _) R1 (hρ.mono e1))⟩
def mRet (m : ME) : MS := fun ρ S => (m ρ S).bind fun d S1 => .ok (.rt d) S1
theorem qs_ret (h : QE X cl E e m) : QS X cl E (.Return (some e) pos) (mRet m) := by
  obtain ⟨t, h1, h2⟩ := h.ex
  exact ⟨_, ps_ret h1, fun ρ S σ α G H Dn hρ hR hp => h2 ρ S σ α G H _ hρ hR (posts_bind hp fun d S1 α1 G1 H1 v _ e1 R1 r1 hp1 => hp1 α1 G1 H1 v (Ext.refl _ _ _) R1 r1)⟩
def mIf (t : MT) (n n' : MS) : MS := fun ρ S => (t ρ S).bind fun b S1 => match b with
  | true => n ρ S1
  | false => n' ρ S1
theorem qs_if {c : Expr} {sa sb : List Stmt} (hc : QT X cl E c mt) (ha : QSs X cl E sa n) (hb : QSs X cl E sb n') : QS X cl E (.If c sa sb pos) (mIf mt n n') := by
  obtain ⟨t, h1, h2⟩ := hc.ex
  obtain ⟨u, k1, k2⟩ := ha.ex
  obtain ⟨w, l1, l2⟩ := hb.ex
  refine ⟨_, ps_if h1 k1 l1, fun ρ S σ α G H Dn hρ hR hp => h2 ρ S σ α G H _ hρ hR (posts_bind hp fun b S1 α1 G1 H1 v _ e1 R1 r1 hp1 => ?_)⟩
  have r1 : b = v := r1
  subst r1
  cases b with
  | true => exact iteT (k2 ρ S1 σ α1 G1 H1 Dn (hρ.mono e1) R1 hp1)
  | false => exact iteF (l2 ρ S1 σ α1 G1 H1 Dn (hρ.mono e1) R1 hp1)
abbrev MG := D → Env → Store → Res Env
abbrev MGs := List D → Env → Store → Res Env
def SndG (Γ : Gm) (E : XK) (g : TG) (mg : MG) (js : List Nat) : Prop := ∀ (d : D) (ρ : Env) (S : Store) (σ : L2.St) (α : List Addr) (G H : Hp) (v : V) (Q : L2.St → Hp → Prop), EnvR Γ α G ρ σ → Rl Γ α G S H → Rep Γ α G d v →
  Post Γ (EnvR Γ) α G H (mg d ρ S) (fun σ' H' => σ'.length = σ.length ∧ (∀ i, i ∉ js → σ'[i]? = σ[i]?) → Q σ' H') E → g v σ H Q
def SndGs (Γ : Gm) (E : XK) (g : TGs) (mg : MGs) (js : List Nat) : Prop := ∀ (ds : List D) (ρ : Env) (S : Store) (σ : L2.St) (α : List Addr) (G H : Hp) (vs : List V) (Q : L2.St → Hp → Prop), EnvR Γ α G ρ σ → Rl Γ α G S H → RepL Γ α G ds vs →
  Post Γ (EnvR Γ) α G H (mg ds ρ S) (fun σ' H' => σ'.length = σ.length ∧ (∀ i, i ∉ js → σ'[i]? = σ[i]?) → Q σ' H') E → g vs σ H Q
structure QG (X : Cx) (cl : Nat → Addr) (E : XK) (tg : Expr) (mg : MG) (js : List Nat) : Prop where
  ex : ∃ g, PG X tg g ∧ SndG ⟨X.K, cl⟩ E g mg js
structure QGs (X : Cx) (cl : Nat → Addr) (E : XK) (tgs : List Expr) (mg : MGs) (js : List Nat) : Prop where
  ex : ∃ g, PGs X tgs g ∧ SndGs ⟨X.K, cl⟩ E g mg js
def mgN (i : Nat) : MG := fun d ρ S => .ok (ρ.set i (some d)) S
theorem qg_name (i : Nat) {x : Str} (hN : X.N.Nodup) (hi : X.N[i]? = some x := by rfl) (hx : Loc X.env.scope x := by first | exact .inl rfl | exact .inr rfl) (hf : X.fn x = true ∨ X.env.scope.names.lookup x = some .local := by first | exact .inl rfl | exact .inr rfl) : QG X cl E (.Name x pos) (mgN i) [i] := by
  refine ⟨_, pg_name hN hi hx hf, fun d ρ S σ α G H v Q hρ hR r hp => ?_⟩
  refine post_ok (x := σ.set i (some v)) hp hR (hρ.set i r) ⟨by simp, fun j hj => ?_⟩
  rw [List.getElem?_set_ne]
  simpa using fun e => hj (by simp [e])
def mgNil : MGs := fun ds ρ S => match ds with
  | [] => .ok ρ S
  | _ => .no
def mgCons (g : MG) (gs : MGs) : MGs := fun ds ρ S => match ds with
  | [] => .no
  | d :: ds => (g d ρ S).bind fun ρ1 S1 => gs ds ρ1 S1
theorem qgs_nil : QGs X cl E [] mgNil [] := by
  refine ⟨_, pgs_nil, fun ds ρ S σ α G H vs Q hρ hR r hp => ?_⟩
  cases ds with
  | cons d ds => exact hp.elim
  | nil =>
    unfold RepL at r
    exact ⟨r, post_ok (x := σ) hp hR hρ ⟨rfl, fun _ _ => rfl⟩⟩
theorem qgs_cons {tg : Expr} {tgs : List Expr} {g : MG} {gs : MGs} {js ks : List Nat} (h : QG X cl E tg g js) (k : QGs X cl E tgs gs ks) (hs : (assignEach (tg :: tgs) X.env).map (·.2) = assign tg X.env :: (assignEach tgs X.env).map (·.2) := by rfl) : QGs X cl E (tg :: tgs) (mgCons g gs) (js ++ ks) := by
  obtain ⟨t, h1, h2⟩ := h.ex
  obtain ⟨u, k1, k2⟩ := k.ex
  refine ⟨_, pgs_cons h1 k1 hs, fun ds ρ S σ α G H vs Q hρ hR r hp => ?_⟩
  cases ds with
  | nil => exact hp.elim
  | cons d ds =>
    unfold RepL at r
    obtain ⟨v, w, rfl, r1, r2⟩ := r
    refine ⟨v, w, rfl, h2 d ρ S σ α G H v _ hρ hR r1 (post_bind hp fun ρ1 S1 α1 G1 H1 σ1 _ e1 R1 q1 hp1 => fun ⟨l1, o1⟩ => ?_)⟩
    refine k2 ds ρ1 S1 σ1 α1 G1 H1 w _ q1 R1 (RepL.mono e1.pre e1.sub _ _ r2) ?_
    revert hp1
    cases gs ds ρ1 S1 with
    | no => exact id
    | ex e S' => exact id
    | ok ρ2 S2 => exact fun hp1 α' G' H' σ' e R r c => hp1 α' G' H' σ' e R r ⟨by rw [c.1, l1], fun i hi => by rw [c.2 i (fun z => hi (List.mem_append_right _ z)), o1 i (fun z => hi (List.mem_append_left _ z))]⟩
def mgTup (k : Nat) (gs : MGs) : MG := fun d ρ S => match seqOf S d with
  | some ds => if ds.length = k then gs ds ρ S else .no
  | none => .no
theorem PG.or {tg : Expr} {t u : TG} (h : PG X tg t) (h' : PG X tg u) : PG X tg (fun v σ H Q => t v σ H Q ∨ u v σ H Q) := ⟨fun pins s σ H v w Q I r q => q.elim (fun q => h.run pins s σ H v w Q I r q) (fun q => h'.run pins s σ H v w Q I r q)⟩
theorem qg_tup (k : Nat) {es : List Expr} {x1 : Nat} {gs : MGs} {js : List Nat} (h : QGs X cl E es gs js) (hc : X.calm = true := by rfl) (hn : (assignEach es X.env).length = k := by rfl) (hst : (assignEach es X.env).findIdx? (·.1) = none := by rfl) : QG X cl E (.Tuple es x1 pos) (mgTup k gs) js := by
  obtain ⟨t, h1, h2⟩ := h.ex
  refine ⟨_, PG.or (pg_tup hc h1 hn hst) (pg_lst hc h1 hn hst), fun d ρ S σ α G H v Q hρ hR r hp => ?_⟩
  unfold mgTup at hp
  cases q : seqOf S d with
  | none => simp [q, Post] at hp
  | some ds =>
    simp only [q] at hp
    split at hp
    · rename_i hk
      obtain ⟨p, vs, rfl, q1, r1⟩ := seqOf_at hR r q
      have hl : vs.length = k := by rw [← r1.length]; exact hk
      rcases q1 with q1 | q1
      · exact .inr ⟨p, vs, rfl, q1, hl, h2 ds ρ S σ α G H vs Q hρ hR r1 hp⟩
      · exact .inl ⟨p, vs, rfl, q1, hl, h2 ds ρ S σ α G H vs Q hρ hR r1 hp⟩
    · exact hp.elim
def setIx (o i : D) (d : D) (S : Store) : Res Unit := match o, i with
  | .ref k, .int j => match S[k]? with
    | some (.lst xs) => match ixN xs.length j with
      | some jj => .ok () (S.set k (.lst (xs.set jj d)))
      | none => .no
    | _ => .no
  | _, _ => .no
def mgSub (mo mi : ME) : MG := fun d ρ S => (mo ρ S).bind fun o S1 => (mi ρ S1).bind fun i S2 => (setIx o i d S2).bind fun _ S3 => .ok ρ S3
theorem qg_sub {o i : Expr} {mo mi : ME} (ho : QE X cl E o mo) (hi : QE X cl E i mi)
    (ha : ∀ v, assign (.Subscript o i pos) X.env v = (do
      let ov ← holding [v] (eval o X.env)
      let iv ← holding [v, ov] (eval i X.env)
      standAt pos
      holding [v, ov, iv] (setItem ov iv v)
      release [v, ov, iv] []) := by intro _; rfl) : QG X cl E (.Subscript o i pos) (mgSub mo mi) [] := by
  obtain ⟨t, h1, h2⟩ := ho.ex
  obtain ⟨u, k1, k2⟩ := hi.ex
  refine ⟨_, pg_sub h1 k1 set_list ha, fun d ρ S σ α G H v Q hρ hR r hp => ?_⟩
  refine h2 ρ S σ α G H _ hρ hR (post_bind hp fun od S1 α1 G1 H1 ov q1 e1 R1 r1 hp1 => ?_)
  clear q1
  refine k2 ρ S1 σ α1 G1 H1 _ (hρ.mono e1) R1 (post_bind hp1 fun id S2 α2 G2 H2 iv q2 e2 R2 r2 hp2 => ?_)
  clear q2
  have r0 : Rep ⟨X.K, cl⟩ α2 G2 d v := Rep.mono e2.pre e2.sub _ _ (Rep.mono e1.pre e1.sub _ _ r)
  have ro : Rep ⟨X.K, cl⟩ α2 G2 od ov := Rep.mono e2.pre e2.sub _ _ r1
  cases od <;> try exact hp2.elim
  rename_i kk
  cases id <;> try exact hp2.elim
  rename_i j
  simp only [setIx] at hp2
  unfold Rep at ro
  obtain ⟨p, rfl, hp'⟩ := ro
  simp only [Rep] at r2
  cases hc : S2[kk]? with
  | none => simp [hc, Post] at hp2
  | some c =>
    cases c with
    | frz xs => simp [hc, Post] at hp2
    | dk l xs => simp [hc, Post] at hp2
    | dt l xs => simp [hc, Post] at hp2
    | ob l xs => simp [hc, Post] at hp2
    | lst xs =>
      simp only [hc] at hp2
      cases hj : ixN xs.length j with
      | none => simp [hj, Post] at hp2
      | some jj =>
        simp only [hj, bind_ok] at hp2
        obtain ⟨vs, q1, q2, q3⟩ := (R2.ok kk _ p hc hp').lst
        obtain ⟨R3, e3⟩ := R2.put hc hp' (q2.set jj r0)
        refine ⟨p, vs, j, jj, rfl, r2, q1, by rw [← q2.length]; exact hj, ?_⟩
        exact hp2 _ _ _ σ e3 R3 (((hρ.mono e1).mono e2).mono e3) ⟨rfl, fun _ _ => rfl⟩
def mAsg (m : ME) (g : MG) : MS := fun ρ S => (m ρ S).bind fun d S1 => (g d ρ S1).bind fun ρ1 S2 => .ok (.nx ρ1) S2
theorem snd_asg {Γ : Gm} {t : TE} {g : TG} {mg : MG} {js : List Nat} (h : SndE Γ E t m) (k : SndG Γ E g mg js) : SndS Γ E (tAsg t g) (mAsg m mg) := fun ρ S σ α G H Dn hρ hR hp =>
  h ρ S σ α G H _ hρ hR (posts_bind hp fun d S1 α1 G1 H1 v _ e1 R1 r1 hp1 =>
    k d ρ S1 σ α1 G1 H1 v _ (hρ.mono e1) R1 r1 (posts_bind hp1 fun ρ1 S2 α2 G2 H2 σ2 _ e2 R2 q2 hp2 => fun _ => hp2 α2 G2 H2 σ2 (Ext.refl _ _ _) R2 q2))
theorem qs_asg {tg : Expr} {mg : MG} {js : List Nat} (h : QE X cl E e m) (k : QG X cl E tg mg js) (hs : swapsWithSole [tg] e pos.line X.env = pure false := by rfl) (hw : swappedStores [tg] e X.env = pure none := by rfl)
    (h1 : (assignEach [tg] X.env).map (·.2) = [assign tg X.env] := by rfl) : QS X cl E (.Assign [tg] e pos) (mAsg m mg) := by
  obtain ⟨t, a1, a2⟩ := h.ex
  obtain ⟨g, b1, b2⟩ := k.ex
  exact ⟨_, ps_asg a1 b1 hs hw h1, snd_asg a2 b2⟩
theorem sndg_name {Γ : Gm} (i : Nat) : SndG Γ E (gName i) (mgN i) [i] := fun d ρ S σ α G H v Q hρ hR r hp => by
  refine post_ok (x := σ.set i (some v)) hp hR (hρ.set i r) ⟨by simp, fun j hj => ?_⟩
  rw [List.getElem?_set_ne]
  simpa using fun e => hj (by simp [e])
theorem qs_set (i : Nat) {x : Str} {px : Pos} (h : QE X cl E e m) (hN : X.N.Nodup) (hi : X.N[i]? = some x := by rfl) (hx : Loc X.env.scope x := by first | exact .inl rfl | exact .inr rfl) (hs : swapsWith e (some (.Name x px)) pos.line X.env = pure false := by rfl) (hf : X.fn x = true ∨ X.env.scope.names.lookup x = some .local := by first | exact .inl rfl | exact .inr rfl) :
    QS X cl E (.Assign [.Name x px] e pos) (mAsg m (mgN i)) := by
  obtain ⟨t, a1, a2⟩ := h.ex
  exact ⟨_, ps_set hN hi hx a1 hs hf, snd_asg a2 (sndg_name i)⟩
def mPar (i j : Nat) (n : MA) : MS := fun ρ S => (n ρ S).bind fun ds S1 => match ds with
  | [d, d'] => .ok (.nx ((ρ.set i (some d)).set j (some d'))) S1
  | _ => .no
theorem qs_par (i j : Nat) {x y : Str} {px py pt : Pos} {kt k2 pt2} {na : MA} (hN : X.N.Nodup) (ha : QA X cl E [a, b] na) (hi : X.N[i]? = some x := by rfl) (hj : X.N[j]? = some y := by rfl) (hij : i ≠ j := by decide)
    (hx : X.env.scope.names.lookup x = some .local := by rfl) (hy : X.env.scope.names.lookup y = some .local := by rfl) (hw : swappedStores [.Tuple [.Name x px, .Name y py] kt pt] (.Tuple [a, b] k2 pt2) X.env = pure (some [x, y]) := by rfl)
    (hs : swapsWithSole [.Tuple [.Name x px, .Name y py] kt pt] (.Tuple [a, b] k2 pt2) pos.line X.env = pure false := by rfl) (hc : X.calm = true := by rfl) : QS X cl E (.Assign [.Tuple [.Name x px, .Name y py] kt pt] (.Tuple [a, b] k2 pt2) pos) (mPar i j na) := by
  obtain ⟨t, h1, h2⟩ := ha.ex
  refine ⟨_, ps_par hc hN hi hj hij hx hy h1 hw hs, fun ρ S σ α G H Dn hρ hR hp => h2 ρ S σ α G H _ hρ hR (posts_bind hp fun ds S1 α1 G1 H1 vs _ e1 R1 r1 hp1 => ?_)⟩
  match ds, hp1, r1 with
  | [d, d'], hp1, r1 =>
    obtain ⟨v, v', rfl, rv, rv'⟩ := repL2 r1
    exact ⟨v, v', rfl, hp1 α1 G1 H1 _ (Ext.refl _ _ _) R1 (((hρ.mono e1).set i rv).set j rv')⟩
  | [], hp1, _ => exact hp1.elim
  | [_], hp1, _ => exact hp1.elim
  | _ :: _ :: _ :: _, hp1, _ => exact hp1.elim
def appTo (k : Nat) (d : D) (S : Store) : Res D := match S[k]? with
  | some (.lst xs) => if xs.length < 100000 then .ok .non (S.set k (.lst (xs ++ [d]))) else .no
  | _ => .no
def notOb (S : Store) (k : Nat) : Bool := match S[k]? with
  | some (.dk _ _) => false
  | some (.dt _ _) => false
  | some (.ob _ _) => false
  | _ => true
def mApp (mo m : ME) : ME := fun ρ S => (mo ρ S).bind fun o S1 => match o with
  | .ref k => if notOb S1 k = true then (m ρ S1).bind fun d S2 => appTo k d S2 else .no
  | _ => .no
theorem listy {Γ : Gm} {α : List Addr} {G H : Hp} {S : Store} (R : Rl Γ α G S H) {k : Nat} {v : V} (r : Rep Γ α G (.ref k) v) (h : notOb S k = true) : ∃ p, v = .ref p ∧ α[k]? = some p ∧ tyV Γ.K "list" (.ref p) H := by
  unfold Rep at r
  obtain ⟨p, rfl, hp'⟩ := r
  have hk : k < S.length := by rw [← R.len]; exact (List.getElem?_eq_some_iff.mp hp').1
  have hc : S[k]? = some S[k] := List.getElem?_eq_getElem hk
  have z := R.ok k S[k] p hc hp'
  unfold notOb at h
  rw [hc] at h
  cases q : S[k] with
  | lst xs =>
    rw [q] at z
    obtain ⟨vs, q1, _⟩ := z.lst
    exact ⟨p, rfl, hp', .inl ⟨rfl, vs, .inl (.inl q1)⟩⟩
  | frz xs =>
    rw [q] at z
    obtain ⟨vs, q1, _⟩ := z.frz
    exact ⟨p, rfl, hp', .inl ⟨rfl, vs, .inl (.inl (R.sub _ _ q1))⟩⟩
  | _ => rw [q] at h; cases h
theorem q_app {o : Expr} {mo : ME} {apos cpos : Pos} (ho : QE X cl E o mo) (he : QE X cl E e m) (hbase : attributeBase o "append" X.env (eval o X.env) = eval o X.env := by rfl)
    (hfew : ((backTo cpos (starEach [e] X.env)).all (fun x => !x.1) && (backToKw cpos (keywordEach [] X.env)).all (fun x => x.1.isSome)
      && decide (([e] : List Expr).length + ([] : List Keyword).length + (if ([] : List Keyword).isEmpty then 0 else 1) < 30)) = true := by rfl)
    (hline : (apos.endLine == cpos.line) = true := by rfl) (hs : starEach [e] X.env = (false, eval e X.env) :: starEach [] X.env := by rfl) (hplain : (backTo cpos (starEach [] X.env)).any (·.1) = false := by rfl) :
    QE X cl E (.Call (.Attribute o "append" apos) [e] [] cpos) (mApp mo m) := by
  obtain ⟨t, h1, h2⟩ := ho.ex
  obtain ⟨u, k1, k2⟩ := he.ex
  refine ⟨_, pe_bm PySem.F.plainAttrs_list PySem.F.slot_list_append PySem.F.type_list_append mt_append h1 (pa_cons k1 pa_nil hs) hbase hfew hline hs hplain, fun ρ S σ α G H Q hρ hR hp => ?_⟩
  refine h2 ρ S σ α G H _ hρ hR (post_bind hp fun od S1 α1 G1 H1 ov q1 e1 R1 r1 hp1 => ?_)
  clear q1
  cases od <;> try exact hp1.elim
  rename_i kk
  dsimp only at hp1
  split at hp1
  case isFalse => exact hp1.elim
  rename_i hno
  obtain ⟨p, rfl, ha1, htv⟩ := listy R1 r1 hno
  refine ⟨htv, ?_⟩
  refine k2 ρ S1 σ α1 G1 H1 _ (hρ.mono e1) R1 (post_bind hp1 fun d S2 α2 G2 H2 v q2 e2 R2 r2 hp2 => ?_)
  have hp' : α2[kk]? = some p := by
    obtain ⟨β, rfl⟩ := e2.pre
    rw [List.getElem?_append_left (List.getElem?_eq_some_iff.mp ha1).1]
    exact ha1
  unfold appTo at hp2
  cases hc : S2[kk]? with
  | none => simp [hc, Post] at hp2
  | some c =>
    cases c with
    | frz xs => simp [hc, Post] at hp2
    | dk l xs => simp [hc, Post] at hp2
    | dt l xs => simp [hc, Post] at hp2
    | ob l xs => simp [hc, Post] at hp2
    | lst xs =>
      simp only [hc] at hp2
      split at hp2
      · rename_i hl
        obtain ⟨vs, q1, q2, q3⟩ := (R2.ok kk _ p hc hp').lst
        obtain ⟨R3, e3⟩ := R2.put hc hp' (q2.append (show RepL ⟨X.K, cl⟩ α2 G2 [d] [v] by unfold RepL; exact ⟨v, [], rfl, r2, by simp [RepL]⟩))
        exact ⟨p, vs, v, rfl, rfl, q1, by rw [← q2.length]; exact Nat.lt_of_lt_of_le hl (by decide), hp2 _ _ _ .non e3 R3 (by simp [Rep])⟩
      · exact hp2.elim
def whileF (t : MT) (b : MS) : Nat → MS
  | 0 => fun _ _ => .no
  | k + 1 => fun ρ S => (t ρ S).bind fun c S1 => match c with
    | false => .ok (.nx ρ) S1
    | true => (b ρ S1).bind fun f S2 => match f with
      | .nx ρ1 => whileF t b k ρ1 S2
      | .ct ρ1 => whileF t b k ρ1 S2
      | .bk ρ1 => .ok (.nx ρ1) S2
      | .rt d => .ok (.rt d) S2
def mWhile (fuel : Env → Store → Nat) (t : MT) (b : MS) : MS := fun ρ S => whileF t b (fuel ρ S) ρ S
theorem snd_while {Γ : Gm} {fuel : Env → Store → Nat} {tc : TT} {tb : TS} (h : SndT Γ E tc mt) (k : SndS Γ E tb n) : SndS Γ E (tWhile tc tb) (mWhile fuel mt n) := fun ρ S σ α G H Dn hρ hR hp => by
  refine ⟨fun j σ H => ∃ ρ S α G, EnvR Γ α G ρ σ ∧ Rl Γ α G S H ∧ PostS Γ E α G H (whileF mt n j ρ S) Dn, ⟨_, ρ, S, α, G, hρ, hR, hp⟩, ?_⟩
  rintro j σ H ⟨ρ, S, α, G, hρ, hR, hp⟩
  cases j with
  | zero => exact hp.elim
  | succ j =>
    refine h ρ S σ α G H _ hρ hR (posts_bind hp fun c S1 α1 G1 H1 c' _ e1 R1 r1 hp1 => ?_)
    have r1 : c = c' := r1
    subst r1
    cases c with
    | false => exact iteF (hp1 α1 G1 H1 σ (Ext.refl _ _ _) R1 (hρ.mono e1))
    | true =>
      refine iteT ⟨fun σ' H' => ∃ m', m' < j + 1 ∧ ∃ ρ S α G, EnvR Γ α G ρ σ' ∧ Rl Γ α G S H' ∧ PostS Γ E α G H' (whileF mt n m' ρ S) Dn, fun σ' H' z => z, ?_⟩
      refine k ρ S1 σ α1 G1 H1 _ (hρ.mono e1) R1 ?_
      simp only at hp1
      cases q : n ρ S1 with
      | no => rw [q] at hp1; exact hp1
      | ex e S' => rw [q] at hp1; exact hp1
      | ok f S2 =>
        rw [q] at hp1
        cases f with
        | nx ρ1 => exact fun α2 G2 H2 σ2 e2 R2 r2 => ⟨j, Nat.lt_succ_self j, ρ1, S2, α2, G2, r2, R2, PostS.mono hp1 e2⟩
        | ct ρ1 => exact fun α2 G2 H2 σ2 e2 R2 r2 => ⟨j, Nat.lt_succ_self j, ρ1, S2, α2, G2, r2, R2, PostS.mono hp1 e2⟩
        | bk ρ1 => exact hp1
        | rt d => exact hp1
theorem qs_while (fuel : Env → Store → Nat) {c : Expr} {body : List Stmt} (hc : QT X cl E c mt) (hb : QSs X cl E body n) (hp : PassesOwn (model X.prog X.w) X.A X.env X.xe := by exact PassesOwn.never) : QS X cl E (.While c body [] pos) (mWhile fuel mt n) := by
  obtain ⟨t, h1, h2⟩ := hc.ex
  obtain ⟨u, k1, k2⟩ := hb.ex
  exact ⟨_, ps_while hp h1 k1, snd_while h2 k2⟩
def Steps (Γ : Gm) (α : List Addr) (G : Hp) (ds : List D) (J : It) : Prop := ∀ (i : Nat) (α2 : List Addr) (G2 H2 : Hp) (S2 : Store), (∃ β, α2 = α ++ β) → Sub G G2 → Rl Γ α2 G2 S2 H2 →
  (ds.length ≤ i → J.stop i H2) ∧ ∀ d, ds[i]? = some d → J.go i H2 ∧ ∀ x H3, J.yld i H2 x H3 → ∃ G3, Rl Γ α2 G3 S2 H3 ∧ Ext α2 G2 H2 α2 G3 H3 ∧ Rep Γ α2 G3 d x
def PostI (Γ : Gm) (E : XK) (α : List Addr) (G H : Hp) (r : Res (List D)) (R : It → Hp → Prop) : Prop := match r with
  | .ok ds S' => ∀ α' G' H' J, Ext α G H α' G' H' → Rl Γ α' G' S' H' → Steps Γ α' G' ds J → R J H'
  | .ex e S' => ∀ α' G' H' c x, Ext α G H α' G' H' → Rl Γ α' G' S' H' → ExR Γ α' G' e c x H' → E c x H'
  | .no => False
theorem PostI.mono {Γ : Gm} {α α1 : List Addr} {G H G1 H1 : Hp} {r : Res (List D)} {R : It → Hp → Prop} (h : PostI Γ E α G H r R) (e : Ext α G H α1 G1 H1) : PostI Γ E α1 G1 H1 r R := by
  cases r with
  | ok d S' => exact fun α' G' H' v x rl rp => h α' G' H' v (e.trans x) rl rp
  | ex d S' => exact fun α' G' H' c x y rl rp => h α' G' H' c x (e.trans y) rl rp
  | no => exact h
theorem posti_bind {Γ : Gm} {β γ : Type} {R : List Addr → Hp → β → γ → Prop} {α : List Addr} {G H : Hp} {r : Res β} {f : β → Store → Res (List D)} {RI : It → Hp → Prop} {Q : γ → Hp → Prop} (h : PostI Γ E α G H (r.bind f) RI)
    (k : ∀ a S1 α1 G1 H1 x, r = .ok a S1 → Ext α G H α1 G1 H1 → Rl Γ α1 G1 S1 H1 → R α1 G1 a x → PostI Γ E α1 G1 H1 (f a S1) RI → Q x H1) : Post Γ R α G H r Q E := by
  cases r with
  | ok d S' =>
    intro α' G' H' v e rl rp
    exact k d S' α' G' H' v rfl e rl rp (PostI.mono h e)
  | ex e S' => exact h
  | no => exact h
def SndI (Γ : Gm) (E : XK) (wi : TI) (mi : MA) : Prop := ∀ (ρ : Env) (S : Store) (σ : L2.St) (α : List Addr) (G H : Hp) (R : It → Hp → Prop), EnvR Γ α G ρ σ → Rl Γ α G S H → PostI Γ E α G H (mi ρ S) R → wi σ H R
structure QI (X : Cx) (cl : Nat → Addr) (E : XK) (tg iter : Expr) (mi : MA) : Prop where
  ex : ∃ wi, PI X tg iter wi ∧ SndI ⟨X.K, cl⟩ E wi mi
theorem PI.or {tg it : Expr} {t u : TI} (h : PI X tg it t) (h' : PI X tg it u) : PI X tg it (fun σ H R => t σ H R ∨ u σ H R) := ⟨fun pins s σ H R I q => q.elim (fun q => h.run pins s σ H R I q) (fun q => h'.run pins s σ H R I q)⟩
def itemsOf : D → Store → Res (List D) := fun d S => match d with
  | .tup xs => .ok xs S
  | .lst xs => .ok xs S
  | .fro xs => .ok xs S
  | _ => .no
def mItems (m : ME) : MA := fun ρ S => (m ρ S).bind itemsOf
theorem steps_list {Γ : Gm} {α : List Addr} {G : Hp} {ds : List D} {a : Addr} {vs : List V} (h : SqL Γ.K G a vs) (r : RepL Γ α G ds vs) : Steps Γ α G ds (Itl Γ.K a) := fun i α2 G2 H2 S2 hp hs R2 => by
  have q : SqL Γ.K H2 a vs := (hs.trans R2.sub).sqL h
  have r2 : RepL Γ α2 G2 ds vs := RepL.mono hp hs _ _ r
  refine ⟨fun hl => ⟨vs, q, by rw [← r2.length]; exact hl⟩, fun d hd => ?_⟩
  obtain ⟨v, hv, rv⟩ := r2.get hd
  refine ⟨⟨vs, v, q, hv⟩, fun x H3 hy => ?_⟩
  obtain ⟨rfl, f⟩ := hy
  have e := f vs q
  rw [hv] at e
  cases e
  exact ⟨G2, R2, Ext.refl _ _ _, rv⟩
theorem steps_tup {Γ : Gm} {α : List Addr} {G : Hp} {ds : List D} {a : Addr} {vs : List V} (h : SqT Γ.K G a vs) (r : RepL Γ α G ds vs) : Steps Γ α G ds (Itt Γ.K a) := fun i α2 G2 H2 S2 hp hs R2 => by
  have q : SqT Γ.K H2 a vs := (hs.trans R2.sub).sqT h
  have r2 : RepL Γ α2 G2 ds vs := RepL.mono hp hs _ _ r
  refine ⟨fun hl => ⟨vs, q, by rw [← r2.length]; exact hl⟩, fun d hd => ?_⟩
  obtain ⟨v, hv, rv⟩ := r2.get hd
  refine ⟨⟨vs, v, q, hv⟩, fun x H3 hy => ?_⟩
  obtain ⟨rfl, f⟩ := hy
  have e := f vs q
  rw [hv] at e
  cases e
  exact ⟨G2, R2, Ext.refl _ _ _, rv⟩
theorem qi_items {tg it : Expr} (h : QE X cl E it m) : QI X cl E tg it (mItems m) := by
  obtain ⟨t, h1, h2⟩ := h.ex
  refine ⟨_, PI.or (pi_list h1) (pi_tup h1), fun ρ S σ α G H R hρ hR hp => ?_⟩
  have lists : ∀ xs S', m ρ S = .ok (.lst xs) S' → iList X.K t σ H R := fun xs S' q => by
    refine h2 ρ S σ α G H _ hρ hR (posti_bind hp fun d S1 α1 G1 H1 v q1 e1 R1 r1 hp1 => ?_)
    rw [q] at q1
    cases q1
    unfold Rep at r1
    obtain ⟨a, vs, rfl, q2, r2⟩ := r1
    exact ⟨a, rfl, ⟨vs, R1.sub.sqL (.inl (.inl q2))⟩, hp1 α1 G1 H1 _ (Ext.refl _ _ _) R1 (steps_list (Γ := ⟨X.K, cl⟩) (.inl (.inl q2)) r2)⟩
  have fros : ∀ xs S', m ρ S = .ok (.fro xs) S' → iList X.K t σ H R := fun xs S' q => by
    refine h2 ρ S σ α G H _ hρ hR (posti_bind hp fun d S1 α1 G1 H1 v q1 e1 R1 r1 hp1 => ?_)
    rw [q] at q1
    cases q1
    unfold Rep at r1
    obtain ⟨a, vs, rfl, q2, r2⟩ := r1
    exact ⟨a, rfl, ⟨vs, R1.sub.sqL q2⟩, hp1 α1 G1 H1 _ (Ext.refl _ _ _) R1 (steps_list (Γ := ⟨X.K, cl⟩) q2 r2)⟩
  have tups : ∀ xs S', m ρ S = .ok (.tup xs) S' → iTup X.K t σ H R := fun xs S' q => by
    refine h2 ρ S σ α G H _ hρ hR (posti_bind hp fun d S1 α1 G1 H1 v q1 e1 R1 r1 hp1 => ?_)
    rw [q] at q1
    cases q1
    unfold Rep at r1
    obtain ⟨a, vs, rfl, q2, r2⟩ := r1
    exact ⟨a, rfl, ⟨vs, .inl (.inl (R1.sub _ _ q2))⟩, hp1 α1 G1 H1 _ (Ext.refl _ _ _) R1 (steps_tup (Γ := ⟨X.K, cl⟩) (.inl (.inl q2)) r2)⟩
  cases q : m ρ S with
  | no => unfold mItems at hp; rw [q] at hp; exact hp.elim
  | ex e S' =>
    -- the exception comes ahead of the walk: either reading carries it
    refine .inl (h2 ρ S σ α G H _ hρ hR ?_)
    unfold mItems at hp
    rw [q] at hp ⊢
    exact hp
  | ok d S' =>
    cases d with
    | lst xs => exact .inl (lists xs S' q)
    | fro xs => exact .inl (fros xs S' q)
    | tup xs => exact .inr (tups xs S' q)
    | _ => (unfold mItems at hp; rw [q] at hp; exact hp.elim)
def rangeD (lo : Int) (k : Nat) : List D := (List.range k).map fun (i : Nat) => .int (lo + (i : Int))
theorem steps_range {Γ : Gm} {α : List Addr} {G : Hp} (lo : Int) (k : Nat) : Steps Γ α G (rangeD lo k) (Itr lo k) := fun i α2 G2 H2 S2 hp hs R2 => by
  refine ⟨fun hl => (by simpa [rangeD] using hl : k ≤ i), fun d hd => ?_⟩
  unfold rangeD at hd
  rw [List.getElem?_map] at hd
  cases q : (List.range k)[i]? with
  | none => simp [q] at hd
  | some j =>
    simp only [q, Option.map_some, Option.some.injEq] at hd
    have hi := List.getElem?_eq_some_iff.mp q
    obtain ⟨h1, h2⟩ := hi
    simp at h1 h2
    subst h2
    refine ⟨h1, fun x H3 hy => ?_⟩
    obtain ⟨rfl, rfl⟩ := hy
    exact ⟨G2, R2, Ext.refl _ _ _, by subst hd; simp [Rep]⟩
def mRange1 (m : ME) : MA := fun ρ S => (m ρ S).bind fun d S1 => match d with
  | .int j => if j.natAbs < 2 ^ 62 then .ok (rangeD 0 j.toNat) S1 else .no
  | _ => .no
theorem qi_range1 {tg a : Expr} {p pos : Pos} (h : QE X cl E a m) (hg : Gl X "range") (hm : X.mg "range" = none) (hs : starEach [a] X.env = [(false, eval a X.env)] := by rfl) : QI X cl E tg (.Call (.Name "range" p) [a] [] pos) (mRange1 m) := by
  obtain ⟨t, h1, h2⟩ := h.ex
  refine ⟨_, pi_range1 hg hm (pa_cons h1 pa_nil (by rw [hs]; rfl)) hs, fun ρ S σ α G H R hρ hR hp => h2 ρ S σ α G H _ hρ hR (posti_bind hp fun d S1 α1 G1 H1 v q1 e1 R1 r1 hp1 => ?_)⟩
  clear q1
  cases d <;> try exact hp1.elim
  rename_i j
  simp only at hp1
  simp only [Rep] at r1
  subst r1
  split at hp1
  · rename_i hb
    exact ⟨j, rfl, by omega, by omega, hp1 α1 G1 H1 _ (Ext.refl _ _ _) R1 (steps_range 0 j.toNat)⟩
  · exact hp1.elim
def forL (g : MG) (b : MS) : List D → MS
  | [] => fun ρ S => .ok (.nx ρ) S
  | d :: ds => fun ρ S => (g d ρ S).bind fun ρ1 S1 => (b ρ1 S1).bind fun f S2 => match f with
    | .nx ρ2 => forL g b ds ρ2 S2
    | .ct ρ2 => forL g b ds ρ2 S2
    | .bk ρ2 => .ok (.nx ρ2) S2
    | .rt d => .ok (.rt d) S2
def mFor (mi : MA) (g : MG) (b : MS) : MS := fun ρ S => (mi ρ S).bind fun ds S1 => forL g b ds ρ S1
theorem posts_i {Γ : Gm} {α : List Addr} {G H : Hp} {r : Res (List D)} {f : List D → Store → Res Fl} {Dn : Ends} {R : It → Hp → Prop} (h : PostS Γ E α G H (r.bind f) Dn)
    (k : ∀ ds S1 α1 G1 H1 J, Ext α G H α1 G1 H1 → Rl Γ α1 G1 S1 H1 → Steps Γ α1 G1 ds J → PostS Γ E α1 G1 H1 (f ds S1) Dn → R J H1) : PostI Γ E α G H r R := by
  cases r with
  | ok d S' =>
    intro α' G' H' v e rl rp
    exact k d S' α' G' H' v e rl rp (PostS.mono h e)
  | ex e S' => exact h
  | no => exact h
theorem snd_for {Γ : Gm} {wi : TI} {mi : MA} {g : TG} {mg : MG} {js : List Nat} {tb : TS} (hi : SndI Γ E wi mi) (hg : SndG Γ E g mg js) (hb : SndS Γ E tb n) : SndS Γ E (tFor wi g tb) (mFor mi mg n) := fun ρ S σ α G H Dn hρ hR hp => by
  refine hi ρ S σ α G H _ hρ hR (posts_i hp fun ds S1 α1 G1 H1 J e1 R1 st hp1 => ?_)
  refine ⟨fun i k σ H => k = ds.length - i ∧ i ≤ ds.length ∧ ∃ ρ S α2 G2, Ext α1 G1 H1 α2 G2 H ∧ EnvR Γ α2 G2 ρ σ ∧ Rl Γ α2 G2 S H ∧ PostS Γ E α2 G2 H (forL mg n (ds.drop i) ρ S) Dn, ⟨ds.length, by simp, Nat.zero_le _, ρ, S1, α1, G1, Ext.refl _ _ _, hρ.mono e1, R1, by simpa using hp1⟩, ?_⟩
  rintro i k σ2 H2 ⟨rfl, hle, ρ2, S2, α2, G2, e2, hρ2, R2, hp2⟩
  obtain ⟨stop, go⟩ := st i α2 G2 H2 S2 e2.pre e2.sub R2
  by_cases hlt : i < ds.length
  · have hd : ds[i]? = some ds[i] := List.getElem?_eq_getElem hlt
    obtain ⟨hgo, hy⟩ := go _ hd
    refine .inr ⟨hgo, fun σ' H' => ∃ ρ S α2 G2, Ext α1 G1 H1 α2 G2 H' ∧ EnvR Γ α2 G2 ρ σ' ∧ Rl Γ α2 G2 S H' ∧ PostS Γ E α2 G2 H' (forL mg n (ds.drop (i + 1)) ρ S) Dn, fun σ' H' z => ⟨ds.length - (i + 1), by omega, rfl, hlt, z⟩, fun x H3 y3 => ?_⟩
    obtain ⟨G3, R3, e3, rx⟩ := hy x H3 y3
    rw [List.drop_eq_getElem_cons hlt] at hp2
    have hp3 := PostS.mono hp2 e3
    refine hg ds[i] ρ2 S2 σ2 α2 G3 H3 x _ (hρ2.mono e3) R3 rx (posts_bind hp3 fun ρ4 S4 α4 G4 H4 σ4 q4 e4 R4 r4 hp4 => fun _ => ?_)
    refine hb ρ4 S4 σ4 α4 G4 H4 _ r4 R4 ?_
    clear q4
    have e14 : Ext α1 G1 H1 α4 G4 H4 := (e2.trans e3).trans e4
    cases q : n ρ4 S4 with
    | no => rw [q] at hp4; exact hp4
    | ex e S' => rw [q] at hp4; exact hp4
    | ok f S5 =>
      rw [q] at hp4
      cases f with
      | nx ρ5 => exact fun α5 G5 H5 σ5 e5 R5 r5 => ⟨ρ5, S5, α5, G5, e14.trans e5, r5, R5, PostS.mono hp4 e5⟩
      | ct ρ5 => exact fun α5 G5 H5 σ5 e5 R5 r5 => ⟨ρ5, S5, α5, G5, e14.trans e5, r5, R5, PostS.mono hp4 e5⟩
      | bk ρ5 => exact hp4
      | rt d => exact hp4
  · refine .inl ⟨stop (by omega), ?_⟩
    rw [List.drop_of_length_le (by omega)] at hp2
    exact hp2 α2 G2 H2 σ2 (Ext.refl _ _ _) R2 hρ2
theorem qs_for {tg it : Expr} {body : List Stmt} {mi : MA} {mg : MG} {js : List Nat} (hi : QI X cl E tg it mi) (hg : QG X cl E tg mg js) (hb : QSs X cl E body n) (hp : PassesOwn (model X.prog X.w) X.A X.env X.xe := by exact PassesOwn.never) (hc : X.calm = true := by rfl)
    (hs : ∀ x, foldedSetIterable it X.env x = pure x := by intro _; rfl) : QS X cl E (.For tg it body [] pos) (mFor mi mg n) := by
  obtain ⟨wi, h1, h2⟩ := hi.ex
  obtain ⟨g, k1, k2⟩ := hg.ex
  obtain ⟨tb, l1, l2⟩ := hb.ex
  exact ⟨_, ps_for hp hc h1 k1 l1 hs, snd_for h2 k2 l2⟩
def wp (ρ : Env) : List Nat → Env
  | [] => ρ
  | v :: vs => (wp ρ vs).set v none
theorem wipe_get {σ : L2.St} {i : Nat} : ∀ {vs : List Nat}, i ∉ vs → (wipe σ vs)[i]? = σ[i]?
  | [], _ => rfl
  | v :: vs, h => by
    unfold wipe
    rw [List.getElem?_set_ne (fun e => h (by simp [e]))]
    exact wipe_get fun z => h (List.mem_cons_of_mem _ z)
theorem wipe_in {σ : L2.St} {i : Nat} : ∀ {vs : List Nat}, i ∈ vs → i < σ.length → (wipe σ vs)[i]? = some none
  | v :: vs, h, hl => by
    unfold wipe
    by_cases e : v = i
    · subst e
      rw [List.getElem?_set_self (by rw [wipe_length]; exact hl)]
    · rw [List.getElem?_set_ne e]
      exact wipe_in ((List.mem_cons.mp h).resolve_left fun z => e z.symm) hl
theorem wipe_same {σ τ : L2.St} {vs js : List Nat} (hl : τ.length = (wipe σ vs).length) (ho : ∀ i, i ∉ js → τ[i]? = (wipe σ vs)[i]?) (hj : ∀ j ∈ js, j ∈ vs) : wipe τ vs = wipe σ vs := by
  rw [wipe_length] at hl
  apply List.ext_getElem?
  intro i
  by_cases hi : i ∈ vs
  · by_cases hb : i < σ.length
    · rw [wipe_in hi hb, wipe_in hi (by rw [hl]; exact hb)]
    · rw [List.getElem?_eq_none (by rw [wipe_length]; omega), List.getElem?_eq_none (by rw [wipe_length]; omega)]
  · rw [wipe_get hi, ho i fun z => hi (hj i z)]
theorem EnvR.wp {Γ : Gm} {α : List Addr} {G : Hp} {ρ : Env} {σ : L2.St} (h : EnvR Γ α G ρ σ) : ∀ vs : List Nat, EnvR Γ α G (wp ρ vs) (wipe σ vs)
  | [] => h
  | v :: vs => by
    have ih := EnvR.wp h vs
    unfold Q.wp wipe
    refine ⟨by simp [ih.1], fun i d hd => ?_⟩
    by_cases e : v = i
    · subst e
      have hl := (List.getElem?_eq_some_iff.mp hd).1
      rw [List.length_set] at hl
      rw [List.getElem?_set_self hl] at hd
      cases hd
    · rw [List.getElem?_set_ne e] at hd ⊢
      exact ih.2 i d hd
def lcL (g : MG) (t : MT) (m : ME) (ρ : Env) : List D → Store → Res (List D)
  | [], S => .ok [] S
  | d :: ds, S => (g d ρ S).bind fun ρ1 S1 => (t ρ1 S1).bind fun b S2 => match b with
    | true => (m ρ1 S2).bind fun v S3 => (lcL g t m ρ ds S3).bind fun vs S4 => .ok (v :: vs) S4
    | false => lcL g t m ρ ds S2
def mLc (mi : MA) (g : MG) (t : MT) (m : ME) (vs : List Nat) : ME := fun ρ S => (mi ρ S).bind fun ds S1 => if ds.length ≤ 100000 then (lcL g t m (wp ρ vs) ds S1).bind fun xs S2 => .ok (.lst xs) S2 else .no
def mLcC (mi : MA) (g : MG) (t : MT) (m : ME) (vs : List Nat) : ME := fun ρ S => (mi ρ S).bind fun ds S1 => if ds.length ≤ 100000 then (lcL g t m (wp ρ vs) ds S1).bind fun xs S2 => .ok (.ref S2.length) (S2 ++ [.lst xs]) else .no
theorem Rl.patch {Γ : Gm} {α : List Addr} {G H : Hp} {S : Store} (R : Rl Γ α G S H) {p : Addr} (hp : p ∉ α) (hg : G p = none) (o : HO) : Rl Γ α G S (upd H p o) := by
  have ne : ∀ a ∈ α, a ≠ p := fun a m e => by subst e; exact hp m
  refine ⟨fun a u e => ?_, R.len, R.nd, fun a m => by rw [upd_ne (ne a m)]; exact R.tr a m, fun k c a hc ha => ?_⟩
  · rw [upd_ne (fun z => by subst z; rw [hg] at e; cases e)]; exact R.sub a u e
  · exact (R.ok k c a hc ha).mono ⟨[], by simp⟩ (Sub.refl G) fun _ => ⟨upd_ne (ne a (List.mem_of_getElem? ha)), fun h => h⟩
theorem Ext.patch {α α' : List Addr} {G G' H H' : Hp} (e : Ext α G H α' G' H') {p : Addr} (hp : H p = none) (o : HO) : Ext α G H α' G' (upd H' p o) :=
  ⟨e.pre, e.sub, fun a u h m => by rw [upd_ne (ne_of_none h hp)]; exact e.fr a u h m, e.na, e.ng⟩
structure Mid (Γ : Gm) (α1 : List Addr) (G1 H1 : Hp) (p : Addr) (α : List Addr) (G : Hp) (S : Store) (H : Hp) (vs : List V) : Prop where
  ext : Ext α1 G1 H1 α G H
  rl : Rl Γ α G S H
  at_ : H p = some (.lst vs)
  na : p ∉ α
  ng : G p = none
theorem Mid.step {Γ : Gm} {α1 α α' : List Addr} {G1 H1 G H G' H' : Hp} {p : Addr} {S S' : Store} {vs : List V} (M : Mid Γ α1 G1 H1 p α G S H vs) (e : Ext α G H α' G' H') (R : Rl Γ α' G' S' H') : Mid Γ α1 G1 H1 p α' G' S' H' vs := by
  refine ⟨M.ext.trans e, R, e.fr p _ M.at_ M.na, fun m => ?_, ?_⟩
  · rcases e.na p m with z | z
    · exact M.na z
    · rw [M.at_] at z; cases z
  · cases q : G' p with
    | none => rfl
    | some o =>
      rcases e.ng p (by rw [q]; simp) with z | z | z | ⟨xs, z⟩
      · exact absurd M.ng z
      · exact absurd z M.na
      · rw [M.at_] at z; cases z
      · rw [M.at_] at z; cases z
theorem Mid.push {Γ : Gm} {α1 α : List Addr} {G1 H1 G H : Hp} {p : Addr} {S : Store} {vs : List V} (M : Mid Γ α1 G1 H1 p α G S H vs) (hp : H1 p = none) (ws : List V) : Mid Γ α1 G1 H1 p α G S (upd H p (.lst ws)) ws :=
  ⟨M.ext.patch hp _, M.rl.patch M.na M.ng _, upd_same, M.na, M.ng⟩
theorem Mid.done {Γ : Gm} {α1 α : List Addr} {G1 H1 G H : Hp} {p : Addr} {S : Store} {vs : List V} (M : Mid Γ α1 G1 H1 p α G S H vs) (hp : H1 p = none) : Rl Γ α (upd G p (.lst vs)) S H ∧ Ext α1 G1 H1 α (upd G p (.lst vs)) H := by
  have sg : Sub G (upd G p (.lst vs)) := Sub.new M.ng
  refine ⟨⟨fun a u e => ?_, M.rl.len, M.rl.nd, M.rl.tr, fun k c a hc ha => ?_⟩, ⟨M.ext.pre, M.ext.sub.trans sg, M.ext.fr, M.ext.na, fun a h => ?_⟩⟩
  · by_cases z : a = p
    · subst z; rw [upd_same] at e; cases e; exact M.at_
    · rw [upd_ne z] at e; exact M.rl.sub a u e
  · have ne : a ≠ p := fun z => by subst z; exact M.na (List.mem_of_getElem? ha)
    exact (M.rl.ok k c a hc ha).mono ⟨[], by simp⟩ sg fun _ => ⟨rfl, fun h3 => by rw [upd_ne ne]; exact h3⟩
  · by_cases z : a = p
    · subst z; exact .inr (.inr (.inl hp))
    · rw [upd_ne z] at h; exact M.ext.ng a h
theorem Mid.cell {Γ : Gm} {α1 α : List Addr} {G1 H1 G H : Hp} {p : Addr} {S : Store} {ds : List D} {vs : List V} (M : Mid Γ α1 G1 H1 p α G S H vs) (hp : H1 p = none) (r : RepL Γ α G ds vs) :
    Rl Γ (α ++ [p]) G (S ++ [.lst ds]) H ∧ Ext α1 G1 H1 (α ++ [p]) G H ∧ Rep Γ (α ++ [p]) G (.ref S.length) (.ref p) := by
  have mono : ∀ {ds vs}, RepL Γ α G ds vs → RepL Γ (α ++ [p]) G ds vs := fun {ds vs} h => RepL.mono ⟨[p], rfl⟩ (Sub.refl G) _ _ h
  refine ⟨⟨M.rl.sub, by simp [M.rl.len], ?_, fun a m => ?_, fun k c a hc ha => ?_⟩, ⟨?_, M.ext.sub, M.ext.fr, fun a m => ?_, M.ext.ng⟩, ?_⟩
  · rw [List.nodup_append]
    exact ⟨M.rl.nd, by simp, fun a m b mb => by simp at mb; subst mb; exact fun z => by subst z; exact M.na m⟩
  · rcases List.mem_append.mp m with m | m
    · exact M.rl.tr a m
    · simp at m; subst m; rw [M.at_]; simp
  · by_cases hk : k < α.length
    · rw [List.getElem?_append_left hk] at ha
      rw [List.getElem?_append_left (by rw [← M.rl.len]; exact hk)] at hc
      exact (M.rl.ok k c a hc ha).mono ⟨[p], rfl⟩ (Sub.refl G) fun _ => ⟨rfl, fun h => h⟩
    · rw [List.getElem?_append_right (by omega)] at ha
      rw [List.getElem?_append_right (by rw [← M.rl.len]; omega)] at hc
      have e1 : k - α.length = 0 := by
        have := (List.getElem?_eq_some_iff.mp ha).1
        simp at this
        omega
      have e2 : k - S.length = 0 := by rw [← M.rl.len]; exact e1
      rw [e1] at ha
      rw [e2] at hc
      simp at ha hc
      subst ha
      subst hc
      exact .mkL M.at_ (mono r) M.ng
  · obtain ⟨β, rfl⟩ := M.ext.pre
    exact ⟨β ++ [p], by simp⟩
  · rcases List.mem_append.mp m with m | m
    · exact M.ext.na a m
    · simp at m; subst m; exact .inr hp
  · unfold Rep
    exact ⟨p, rfl, by rw [← M.rl.len]; simp⟩
def PostL (Γ : Gm) (E : XK) (α1 : List Addr) (G1 H1 : Hp) (p : Addr) (acc : List D) (r : Res (List D)) (Q : VK) : Prop := match r with
  | .ok xs S' => ∀ α G H vs, Mid Γ α1 G1 H1 p α G S' H vs → RepL Γ α G (acc ++ xs) vs → Q (.ref p) H
  | .ex e S' => ∀ α G H c x, Ext α1 G1 H1 α G H → Rl Γ α G S' H → ExR Γ α G e c x H → E c x H
  | .no => False
theorem snd_lc {Γ : Gm} {wi : TI} {mi : MA} {g : TG} {mg : MG} {js vs : List Nat} {tt : TT} {te : TE} (hi : SndI Γ E wi mi) (hg : SndG Γ E g mg js) (ht : SndT Γ E tt mt) (he : SndE Γ E te m) (hj : ∀ j ∈ js, j ∈ vs) (cellQ : Bool) :
    SndE Γ E (tLc wi g tt te vs) (if cellQ then mLcC mi mg mt m vs else mLc mi mg mt m vs) := fun ρ S σ α G H Q hρ hR hp => by
  have main : ∀ ds S1 α1 G1 H1 J, Ext α G H α1 G1 H1 → Rl Γ α1 G1 S1 H1 → Steps Γ α1 G1 ds J → ds.length ≤ 100000 → ∀ p, H1 p = none → PostL Γ E α1 G1 H1 p [] (lcL mg mt m (wp ρ vs) ds S1) Q → ∃ W : Nat → Nat → Hp → Prop, (∃ m, W 0 m (upd H1 p (.lst []))) ∧ ∀ i m H, W i m H →
      (J.stop i H ∧ Q (.ref p) H) ∨ (J.go i H ∧ ∃ Nx : Hp → Prop, (∀ H', Nx H' → ∃ m', m' < m ∧ W (i + 1) m' H') ∧ ∀ x H', J.yld i H x H' → g x (wipe σ vs) H' fun σ2 H2 => wipe σ2 vs = wipe σ vs ∧ tt σ2 H2 fun b H3 =>
        if b = true then te σ2 H3 fun y H4 => ∃ acc, H4 p = some (.lst acc) ∧ acc.length < sizeLine ∧ Nx (upd H4 p (.lst (acc ++ [y]))) else Nx H3) := by
    intro ds S1 α1 G1 H1 J e1 R1 st hl p hp0 hq
    have hpa : p ∉ α1 := fun z => R1.tr p z hp0
    have hpg : G1 p = none := R1.gnone hp0
    refine ⟨fun i k H => k = ds.length - i ∧ i ≤ ds.length ∧ ∃ S2 α2 G2 acc ws, Mid Γ α1 G1 H1 p α2 G2 S2 H ws ∧ RepL Γ α2 G2 acc ws ∧ acc.length ≤ i ∧ PostL Γ E α1 G1 H1 p acc (lcL mg mt m (wp ρ vs) (ds.drop i) S2) Q,
      ⟨ds.length, by simp, Nat.zero_le _, S1, α1, G1, [], [], ⟨(Ext.refl _ _ _).patch hp0 _, R1.patch hpa hpg _, upd_same, hpa, hpg⟩, by simp [RepL], Nat.le_refl _, by simpa using hq⟩, ?_⟩
    rintro i k H2 ⟨rfl, hle, S2, α2, G2, acc, ws, M2, r2, ha2, hq2⟩
    obtain ⟨stop, go⟩ := st i α2 G2 H2 S2 M2.ext.pre M2.ext.sub M2.rl
    by_cases hlt : i < ds.length
    · have hd : ds[i]? = some ds[i] := List.getElem?_eq_getElem hlt
      obtain ⟨hgo, hy⟩ := go _ hd
      refine .inr ⟨hgo, fun H' => ∃ S2 α2 G2 acc ws, Mid Γ α1 G1 H1 p α2 G2 S2 H' ws ∧ RepL Γ α2 G2 acc ws ∧ acc.length ≤ i + 1 ∧ PostL Γ E α1 G1 H1 p acc (lcL mg mt m (wp ρ vs) (ds.drop (i + 1)) S2) Q, fun H' z => ⟨ds.length - (i + 1), by omega, rfl, hlt, z⟩, fun x H3 y3 => ?_⟩
      obtain ⟨G3, R3, e3, rx⟩ := hy x H3 y3
      have M3 := M2.step e3 R3
      rw [List.drop_eq_getElem_cons hlt] at hq2
      simp only [lcL] at hq2
      have hρ3 : EnvR Γ α2 G3 (wp ρ vs) (wipe σ vs) := by
        have := (hρ.mono e1).mono (M3.ext)
        exact this.wp vs
      refine hg ds[i] (wp ρ vs) S2 (wipe σ vs) α2 G3 H3 x _ hρ3 R3 rx ?_
      cases q4 : mg ds[i] (wp ρ vs) S2 with
      | no => rw [q4] at hq2; exact hq2.elim
      | ex e' S' =>
        rw [q4] at hq2
        exact fun α' G' H' c x e R r => hq2 α' G' H' c x (M3.ext.trans e) R r
      | ok ρ4 S4 =>
        rw [q4] at hq2
        dsimp only [Res.bind] at hq2
        intro α4 G4 H4 σ4 e4 R4 r4 ⟨l4, o4⟩
        have M4 := M3.step e4 R4
        refine ⟨wipe_same l4 o4 hj, ?_⟩
        refine ht ρ4 S4 σ4 α4 G4 H4 _ r4 R4 ?_
        cases q5 : mt ρ4 S4 with
        | no => rw [q5] at hq2; exact hq2.elim
        | ex e' S' =>
          rw [q5] at hq2
          exact fun α' G' H' c x e R r => hq2 α' G' H' c x (M4.ext.trans e) R r
        | ok b S5 =>
          rw [q5] at hq2
          dsimp only [Res.bind] at hq2
          intro α5 G5 H5 b' e5 R5 rb
          have rb : b = b' := rb
          subst rb
          have M5 := M4.step e5 R5
          have r5 : RepL Γ α5 G5 acc ws := RepL.mono e5.pre e5.sub _ _ (RepL.mono e4.pre e4.sub _ _ (RepL.mono e3.pre e3.sub _ _ r2))
          cases b with
          | false => exact iteF ⟨S5, α5, G5, acc, ws, M5, r5, by omega, hq2⟩
          | true =>
            refine iteT (he ρ4 S5 σ4 α5 G5 H5 _ (r4.mono e5) R5 ?_)
            cases q6 : m ρ4 S5 with
            | no => rw [q6] at hq2; exact hq2.elim
            | ex e' S' =>
              rw [q6] at hq2
              exact fun α' G' H' c x e R r => hq2 α' G' H' c x (M5.ext.trans e) R r
            | ok v S6 =>
              rw [q6] at hq2
              dsimp only [Res.bind] at hq2
              intro α6 G6 H6 y e6 R6 ry
              have M6 := M5.step e6 R6
              have r6 : RepL Γ α6 G6 acc ws := RepL.mono e6.pre e6.sub _ _ r5
              refine ⟨ws, M6.at_, ?_, S6, α6, G6, acc ++ [v], ws ++ [y], M6.push hp0 _, r6.append (by unfold RepL; exact ⟨y, [], rfl, ry, by simp [RepL]⟩), by simp; omega, ?_⟩
              · rw [← r6.length]
                exact Nat.lt_of_le_of_lt (by omega : acc.length ≤ 100000) (by decide)
              · cases q7 : lcL mg mt m (wp ρ vs) (ds.drop (i + 1)) S6 with
                | no => rw [q7] at hq2; exact hq2.elim
                | ex e' S' => rw [q7] at hq2; exact hq2
                | ok xs S7 =>
                  rw [q7] at hq2
                  intro α7 G7 H7 vs7 M7 r7
                  refine hq2 α7 G7 H7 vs7 M7 ?_
                  rw [List.append_assoc] at r7
                  exact r7
    · refine .inl ⟨stop (by omega), ?_⟩
      rw [List.drop_of_length_le (by omega)] at hq2
      exact hq2 α2 G2 H2 ws M2 (by simpa using r2)
  refine hi ρ S σ α G H _ hρ hR ?_
  cases cellQ with
  | false =>
    simp only [Bool.false_eq_true, if_false, mLc] at hp
    cases q : mi ρ S with
    | no => rw [q] at hp; exact hp
    | ex e S' => rw [q] at hp; exact hp
    | ok ds S1 =>
      rw [q] at hp
      intro α1 G1 H1 J e1 R1 st p hp0
      have hp := (show Post Γ (Rep Γ) α G H (if ds.length ≤ 100000 then _ else _) Q E from hp)
      split at hp
      · rename_i hl
        have hp1 := Post.mono hp e1
        refine main ds S1 α1 G1 H1 J e1 R1 st hl p hp0 ?_
        cases q2 : lcL mg mt m (wp ρ vs) ds S1 with
        | no => rw [q2] at hp1; exact hp1.elim
        | ex e S' => rw [q2] at hp1; exact hp1
        | ok xs S2 =>
          rw [q2] at hp1
          intro α2 G2 H2 ws M r
          obtain ⟨R3, e3⟩ := M.done hp0
          have r' : RepL Γ α2 (upd G2 p (.lst ws)) xs ws := RepL.mono (α := α2) ⟨[], by simp⟩ (Sub.new M.ng) xs ws (by simpa using r)
          exact hp1 α2 _ H2 (.ref p) e3 R3 (rep_lst upd_same r')
      · exact hp.elim
  | true =>
    simp only [if_true, mLcC] at hp
    cases q : mi ρ S with
    | no => rw [q] at hp; exact hp
    | ex e S' => rw [q] at hp; exact hp
    | ok ds S1 =>
      rw [q] at hp
      intro α1 G1 H1 J e1 R1 st p hp0
      have hp := (show Post Γ (Rep Γ) α G H (if ds.length ≤ 100000 then _ else _) Q E from hp)
      split at hp
      · rename_i hl
        have hp1 := Post.mono hp e1
        refine main ds S1 α1 G1 H1 J e1 R1 st hl p hp0 ?_
        cases q2 : lcL mg mt m (wp ρ vs) ds S1 with
        | no => rw [q2] at hp1; exact hp1.elim
        | ex e S' => rw [q2] at hp1; exact hp1
        | ok xs S2 =>
          rw [q2] at hp1
          intro α2 G2 H2 ws M r
          obtain ⟨R3, e3, r3⟩ := M.cell hp0 (by simpa using r)
          exact hp1 _ _ H2 (.ref p) e3 R3 r3
      · exact hp.elim
structure QTs (X : Cx) (cl : Nat → Addr) (E : XK) (ifs : List Expr) (m : MT) : Prop where
  ex : ∃ t, PTs X ifs t ∧ SndT ⟨X.K, cl⟩ E t m
def mYes : MT := fun _ S => .ok true S
theorem snd_yes {Γ : Gm} : SndT Γ E tYes mYes := fun ρ S σ α G H Q hρ hR hp => post_ok (x := true) hp hR rfl
end
section
variable {X : Cx} {cl : Nat → Addr} {E : XK} {m : ME} {mt : MT} {pos : Pos}
def tE (Γ : Gm) (E : XK) (m : ME) : TE := fun σ H Q => ∃ ρ S α G, EnvR Γ α G ρ σ ∧ Rl Γ α G S H ∧ Post Γ (Rep Γ) α G H (m ρ S) Q E
def tT (Γ : Gm) (E : XK) (m : MT) : TT := fun σ H Q => ∃ ρ S α G, EnvR Γ α G ρ σ ∧ Rl Γ α G S H ∧ Post Γ RB α G H (m ρ S) Q E
def tG (Γ : Gm) (E : XK) (mg : MG) (js : List Nat) : TG := fun v σ H Q => ∃ d ρ S α G, EnvR Γ α G ρ σ ∧ Rl Γ α G S H ∧ Rep Γ α G d v ∧ Post Γ (EnvR Γ) α G H (mg d ρ S) (fun σ' H' => σ'.length = σ.length ∧ (∀ i, i ∉ js → σ'[i]? = σ[i]?) → Q σ' H') E
theorem QE.can {e : Expr} (h : QE X cl E e m) : PE X e (tE ⟨X.K, cl⟩ E m) := by
  obtain ⟨t, h1, h2⟩ := h.ex
  exact ⟨fun pins s σ H Q I ⟨ρ, S, α, G, hρ, hR, hp⟩ => h1.run pins s σ H Q I (h2 ρ S σ α G H Q hρ hR hp)⟩
theorem QT.can {e : Expr} (h : QT X cl E e mt) : PT X e (tT ⟨X.K, cl⟩ E mt) := by
  obtain ⟨t, h1, h2⟩ := h.ex
  exact ⟨fun pins s σ H Q I ⟨ρ, S, α, G, hρ, hR, hp⟩ => h1.run pins s σ H Q I (h2 ρ S σ α G H Q hρ hR hp)⟩
theorem QG.can {e : Expr} {mg : MG} {js : List Nat} (h : QG X cl E e mg js) : PG X e (tG ⟨X.K, cl⟩ E mg js) := by
  obtain ⟨t, h1, h2⟩ := h.ex
  exact ⟨fun pins s σ H v u Q I r ⟨d, ρ, S, α, G, hρ, hR, rd, hp⟩ => h1.run pins s σ H v u Q I r (h2 d ρ S σ α G H v Q hρ hR rd hp)⟩
theorem snd_tE {Γ : Gm} : SndE Γ E (tE Γ E m) m := fun ρ S σ α G H Q hρ hR hp => ⟨ρ, S, α, G, hρ, hR, hp⟩
theorem snd_tT {Γ : Gm} : SndT Γ E (tT Γ E mt) mt := fun ρ S σ α G H Q hρ hR hp => ⟨ρ, S, α, G, hρ, hR, hp⟩
theorem snd_tG {Γ : Gm} {mg : MG} {js : List Nat} : SndG Γ E (tG Γ E mg js) mg js := fun d ρ S σ α G H v Q hρ hR rd hp => ⟨d, ρ, S, α, G, hρ, hR, rd, hp⟩
abbrev Blk (X : Cx) (scope : Scope) (s : Shared) (H : Hp) (C : Addr) (c : List (Str × Addr)) (fp : List Addr) : Cx := X.blk s H scope (compEnvC scope c C X.env) fp
variable {elt tg iter c : Expr} {scope : Scope} {mi : MA} {mg : MG} {js : List Nat}
theorem q_lc (own : List (Str × Nat)) (hi : QI X cl E tg iter mi) (hN : X.N.Nodup) (ok : BlkOk X.N X.env.scope scope own)
    (hg : ∀ (s : Shared) (H : Hp) (C : Addr) (c : List (Str × Addr)) (fp : List Addr), QG (Blk X scope s H C c fp) cl E tg mg js)
    (he : ∀ (s : Shared) (H : Hp) (C : Addr) (c : List (Str × Addr)) (fp : List Addr), QE (Blk X scope s H C c fp) cl E elt m)
    (hj : ∀ j ∈ js, j ∈ own.map (·.2) := by decide) (hc : X.calm = true := by rfl) (hs : ∀ x, foldedSetIterable iter X.env x = pure x := by intro _; rfl) :
    QE X cl E (.ListComp elt [⟨tg, iter, [], 0⟩] scope pos) (mLc mi mg mYes m (own.map (·.2))) := by
  obtain ⟨wi, h1, h2⟩ := hi.ex
  exact ⟨_, pe_lc hc hN h1 ok (fun s H C c fp => (hg s H C c fp).can) (fun _ _ _ _ _ => pts_nil) (fun s H C c fp => (he s H C c fp).can) hs, snd_lc (Γ := ⟨X.K, cl⟩) h2 snd_tG snd_yes snd_tE hj false⟩
theorem q_lcIf (own : List (Str × Nat)) (hi : QI X cl E tg iter mi) (hN : X.N.Nodup) (ok : BlkOk X.N X.env.scope scope own)
    (hg : ∀ (s : Shared) (H : Hp) (C : Addr) (c : List (Str × Addr)) (fp : List Addr), QG (Blk X scope s H C c fp) cl E tg mg js)
    (ht : ∀ (s : Shared) (H : Hp) (C : Addr) (c' : List (Str × Addr)) (fp : List Addr), QT (Blk X scope s H C c' fp) cl E c mt)
    (he : ∀ (s : Shared) (H : Hp) (C : Addr) (c : List (Str × Addr)) (fp : List Addr), QE (Blk X scope s H C c fp) cl E elt m)
    (hj : ∀ j ∈ js, j ∈ own.map (·.2) := by decide) (hc : X.calm = true := by rfl) (hs : ∀ x, foldedSetIterable iter X.env x = pure x := by intro _; rfl) :
    QE X cl E (.ListComp elt [⟨tg, iter, [c], 0⟩] scope pos) (mLc mi mg mt m (own.map (·.2))) := by
  obtain ⟨wi, h1, h2⟩ := hi.ex
  exact ⟨_, pe_lc hc hN h1 ok (fun s H C c fp => (hg s H C c fp).can) (fun s H C c fp => pts_one (ht s H C c fp).can) (fun s H C c fp => (he s H C c fp).can) hs, snd_lc (Γ := ⟨X.K, cl⟩) h2 snd_tG snd_tT snd_tE hj false⟩
theorem qs_setLc (i : Nat) {y : Str} {py spos : Pos} {ifs : List Expr} (own : List (Str × Nat)) (cellQ : Bool) (hi : QI X cl E tg iter mi) (hN : X.N.Nodup) (ok : BlkOk X.N X.env.scope scope own)
    (hg : ∀ (s : Shared) (H : Hp) (C : Addr) (c : List (Str × Addr)) (fp : List Addr), QG (Blk X scope s H C c fp) cl E tg mg js)
    (ht : ∀ (s : Shared) (H : Hp) (C : Addr) (c' : List (Str × Addr)) (fp : List Addr), PTs (Blk X scope s H C c' fp) ifs (tT ⟨X.K, cl⟩ E mt))
    (he : ∀ (s : Shared) (H : Hp) (C : Addr) (c : List (Str × Addr)) (fp : List Addr), QE (Blk X scope s H C c fp) cl E elt m)
    (hj : ∀ j ∈ js, j ∈ own.map (·.2) := by decide) (hy : X.N[i]? = some y := by rfl) (hyl : X.env.scope.names.lookup y = some .local := by rfl) (hc : X.calm = true := by rfl)
    (hsw : swapsWith (.ListComp elt [⟨tg, iter, ifs, 0⟩] scope pos) (some (.Name y py)) spos.line X.env = pure true := by exact sw_true rfl rfl rfl (by decide +kernel)) (hs : ∀ x, foldedSetIterable iter X.env x = pure x := by intro _; rfl) :
    QS X cl E (.Assign [.Name y py] (.ListComp elt [⟨tg, iter, ifs, 0⟩] scope pos) spos) (mAsg (if cellQ then mLcC mi mg mt m (own.map (·.2)) else mLc mi mg mt m (own.map (·.2))) (mgN i)) := by
  obtain ⟨wi, h1, h2⟩ := hi.ex
  exact ⟨_, ps_setLc hc hN hy hyl hsw h1 ok (fun s H C c fp => (hg s H C c fp).can) ht (fun s H C c fp => (he s H C c fp).can) hs, snd_asg (snd_lc (Γ := ⟨X.K, cl⟩) h2 snd_tG snd_tT snd_tE hj cellQ) (sndg_name i)⟩
theorem ts_nil : PTs X [] (tT ⟨X.K, cl⟩ E mYes) := ⟨fun pins s σ H Q I ⟨ρ, S, α, G, hρ, hR, hp⟩ => pts_nil.run pins s σ H Q I (snd_yes ρ S σ α G H Q hρ hR hp)⟩
end
mutual
def belowD (n : Nat) : D → Bool
  | .ref k => decide (k < n)
  | .tup xs => belowL n xs
  | .lst xs => belowL n xs
  | .fro xs => belowL n xs
  | .obj _ fs => belowL n fs
  | .exn _ fs => belowL n fs
  | .non => true
  | .bl _ => true
  | .int _ => true
  | .str _ => true
def belowL (n : Nat) : List D → Bool
  | [] => true
  | d :: ds => belowD n d && belowL n ds
end
mutual
theorem below_pure (n : Nat) : ∀ (d : D), pureD d = true → belowD n d = true
  | .non, _ => by simp [belowD]
  | .bl b, _ => by simp [belowD]
  | .int i, _ => by simp [belowD]
  | .str s, _ => by simp [belowD]
  | .tup ds, p => by simp only [belowD]; exact belowL_pure n ds (by simpa [pureD] using p)
  | .lst ds, p => by simp only [belowD]; exact belowL_pure n ds (by simpa [pureD] using p)
  | .fro ds, p => by simp only [belowD]; exact belowL_pure n ds (by simpa [pureD] using p)
  | .obj c ds, p => by simp only [belowD]; exact belowL_pure n ds (by simpa [pureD] using p)
  | .exn c ds, p => by simp only [belowD]; exact belowL_pure n ds (by simpa [pureD] using p)
  | .ref k, p => by simp [pureD] at p
theorem belowL_pure (n : Nat) : ∀ (ds : List D), pureL ds = true → belowL n ds = true
  | [], _ => by simp [belowL]
  | d :: ds, p => by
    simp only [pureL, Bool.and_eq_true] at p
    simp only [belowL, Bool.and_eq_true]
    exact ⟨below_pure n d p.1, belowL_pure n ds p.2⟩
end
mutual
theorem below_rep {Γ : Gm} {α β : List Addr} {G : Hp} : ∀ (d : D) (v : V), belowD α.length d = true → Rep Γ (α ++ β) G d v → Rep Γ α G d v
  | .non, v, _, h => by simpa [Rep] using h
  | .bl b, v, _, h => by simpa [Rep] using h
  | .int i, v, _, h => by simpa [Rep] using h
  | .str s, v, _, h => by simpa [Rep] using h
  | .tup ds, v, p, h => by
    unfold Rep at h ⊢
    obtain ⟨a, vs, e, q, r⟩ := h
    exact ⟨a, vs, e, q, belowL_rep ds vs (by simpa [belowD] using p) r⟩
  | .lst ds, v, p, h => by
    unfold Rep at h ⊢
    obtain ⟨a, vs, e, q, r⟩ := h
    exact ⟨a, vs, e, q, belowL_rep ds vs (by simpa [belowD] using p) r⟩
  | .fro ds, v, p, h => by
    unfold Rep at h ⊢
    obtain ⟨a, vs, e, q, r⟩ := h
    exact ⟨a, vs, e, q, belowL_rep ds vs (by simpa [belowD] using p) r⟩
  | .obj c ds, v, p, h => by
    unfold Rep at h ⊢
    obtain ⟨a, vs, e, q, r⟩ := h
    exact ⟨a, vs, e, q, belowL_rep ds vs (by simpa [belowD] using p) r⟩
  | .exn c ds, v, p, h => by
    unfold Rep at h ⊢
    obtain ⟨a, vs, e, q, r⟩ := h
    exact ⟨a, vs, e, q, belowL_rep ds vs (by simpa [belowD] using p) r⟩
  | .ref k, v, p, h => by
    unfold Rep at h ⊢
    obtain ⟨a, e, q⟩ := h
    have hk : k < α.length := by simpa [belowD] using p
    exact ⟨a, e, by rw [List.getElem?_append_left hk] at q; exact q⟩
theorem belowL_rep {Γ : Gm} {α β : List Addr} {G : Hp} : ∀ (ds : List D) (vs : List V), belowL α.length ds = true → RepL Γ (α ++ β) G ds vs → RepL Γ α G ds vs
  | [], vs, _, h => by simpa [RepL] using h
  | d :: ds, vs, p, h => by
    unfold RepL at h ⊢
    obtain ⟨v, r, e, h1, h2⟩ := h
    simp only [belowL, Bool.and_eq_true] at p
    exact ⟨v, r, e, below_rep d v p.1 h1, belowL_rep ds r p.2 h2⟩
end
def Cell.pure : Cell → Bool
  | .lst ds => pureL ds
  | .frz ds => pureL ds
  | .dk _ kvs => kvs.all fun p => pureD p.2
  | .dt _ kvs => kvs.all fun p => pureD p.2
  | .ob _ fs => fs.all fun o => match o with
    | some d => pureD d
    | none => true
def Cell.below (n : Nat) : Cell → Bool
  | .lst ds => belowL n ds
  | .frz ds => belowL n ds
  | .dk _ kvs => kvs.all fun p => belowD n p.2
  | .dt _ kvs => kvs.all fun p => belowD n p.2
  | .ob _ fs => fs.all fun o => match o with
    | some d => belowD n d
    | none => true
theorem Cell.below_of {c : Cell} (n : Nat) (h : c.pure = true) : c.below n = true := by
  cases c with
  | lst ds => exact belowL_pure n ds h
  | frz ds => exact belowL_pure n ds h
  | dk l kvs => exact List.all_eq_true.mpr fun p hp => below_pure n _ (List.all_eq_true.mp h p hp)
  | dt l kvs => exact List.all_eq_true.mpr fun p hp => below_pure n _ (List.all_eq_true.mp h p hp)
  | ob l fs =>
    refine List.all_eq_true.mpr fun p hp => ?_
    have := List.all_eq_true.mp h p hp
    cases p with
    | none => rfl
    | some d => exact below_pure n d this
theorem below_all {S : Store} (n : Nat) (h : S.all Cell.pure = true) : S.all (Cell.below n) = true := List.all_eq_true.mpr fun c hc => Cell.below_of n (List.all_eq_true.mp h c hc)
def fin (n : Nat) (d : D) (S : Store) : Res D := if S.length = n then .ok d S else if belowD n d && (S.take n).all (Cell.below n) then .ok d (S.take n) else .no
theorem fin_ok {n : Nat} {d : D} {S : Store} (h : n < S.length) (hd : pureD d = true) (hp : (S.take n).all Cell.pure = true) : fin n d S = .ok d (S.take n) := by
  unfold fin
  rw [if_neg (by omega), below_pure n d hd, below_all n hp]
  rfl
def endM (n : Nat) (r : Res Fl) : Res D := match r with
  | .ok (.nx _) S => fin n .non S
  | .ok (.rt d) S => fin n d S
  | _ => .no
def fnM (nN nP : Nat) (n : MS) : List D → Store → Res D := fun ds S => if ds.length = nP then endM S.length (n (ds.map some ++ List.replicate (nN - nP) none) S) else .no
theorem repKV_below {Γ : Gm} {α β : List Addr} {G : Hp} {κ : Type} : ∀ (kvs : List (κ × D)) (ws : List (κ × V)), (kvs.all fun p => belowD α.length p.2) = true → RepKV Γ (α ++ β) G kvs ws → RepKV Γ α G kvs ws
  | [], ws, _, h => by simpa [RepKV] using h
  | (k, d) :: r, ws, p, h => by
    unfold RepKV at h ⊢
    obtain ⟨v, t, e, h1, h2⟩ := h
    rw [List.all_cons, Bool.and_eq_true] at p
    exact ⟨v, t, e, below_rep d v p.1 h1, repKV_below r t p.2 h2⟩
theorem Rl.cut {Γ : Gm} {α α' : List Addr} {G H G' H' : Hp} {S S' : Store} (e : Ext α G H α' G' H') (R : Rl Γ α' G' S' H') (R0 : Rl Γ α G S H) (hp : (S'.take S.length).all (Cell.below S.length) = true) : Rl Γ α G' (S'.take S.length) H' ∧ Ext α G H α G' H' := by
  obtain ⟨β, rfl⟩ := e.pre
  have hl : S.length ≤ S'.length := by rw [← R.len, ← R0.len]; simp
  refine ⟨⟨R.sub, by rw [R0.len, List.length_take]; omega, R0.nd, fun a m => R.tr a (List.mem_append_left _ m), fun k c a hc ha => ?_⟩, ⟨⟨[], by simp⟩, e.sub, e.fr, fun a m => .inl m, e.ng⟩⟩
  have hk : k < α.length := (List.getElem?_eq_some_iff.mp ha).1
  have hc' : S'[k]? = some c := by
    rw [List.getElem?_take_of_lt (by rw [← R0.len]; exact hk)] at hc
    exact hc
  obtain ⟨o, z, w⟩ := R.ok k c a hc' (by rw [List.getElem?_append_left hk]; exact ha)
  have pc : c.below α.length = true := by rw [R0.len]; exact List.all_eq_true.mp hp c (List.mem_of_getElem? hc)
  refine ⟨o, ?_, w⟩
  cases c with
  | lst ds =>
    obtain ⟨vs, h1, h2⟩ := z
    exact ⟨vs, h1, belowL_rep ds vs pc h2⟩
  | frz ds =>
    obtain ⟨vs, h1, h2⟩ := z
    exact ⟨vs, h1, belowL_rep ds vs pc h2⟩
  | dk l kvs =>
    obtain ⟨ws, h1, h2⟩ := z
    exact ⟨ws, repKV_below kvs ws pc h1, h2⟩
  | dt l kvs =>
    obtain ⟨ws, h1, h2⟩ := z
    exact ⟨ws, repKV_below kvs ws pc h1, h2⟩
  | ob l fs =>
    obtain ⟨dx, vs, h1, h2, h3⟩ := z
    refine ⟨dx, vs, h1, h2, fun i d hd => ?_⟩
    obtain ⟨v, e1, r1⟩ := h3 i d hd
    exact ⟨v, e1, below_rep d v (List.all_eq_true.mp pc _ (List.mem_of_getElem? hd)) r1⟩
theorem fin_post {Γ : Gm} {E : XK} {α : List Addr} {G H : Hp} {S : Store} {d : D} {S' : Store} {Q : VK} (R0 : Rl Γ α G S H) (hp : Post Γ (Rep Γ) α G H (fin S.length d S') Q E) : ∀ α' G' H' v, Ext α G H α' G' H' → Rl Γ α' G' S' H' → Rep Γ α' G' d v → Q v H' := by
  intro α' G' H' v e R r
  unfold fin at hp
  split at hp
  · exact hp α' G' H' v e R r
  · split at hp
    · rename_i hc
      rw [Bool.and_eq_true] at hc
      obtain ⟨R1, e1⟩ := Rl.cut e R R0 hc.2
      obtain ⟨β, rfl⟩ := e.pre
      exact hp α G' H' v e1 R1 (below_rep d v (by rw [R0.len]; exact hc.1) r)
    · exact hp.elim
section
variable {P : Program} {w : World} {K : PySem.W.Frag} {mg : Str → Option Value} {base : Heap}
theorem envR_start {Γ : Gm} {α : List Addr} {G : Hp} {ds : List D} {vs : List V} {N : List Str} (r : RepL Γ α G ds vs) : EnvR Γ α G (ds.map some ++ List.replicate (N.length - vs.length) none) (L2.start N vs) := by
  have hl := r.length
  unfold L2.start
  refine ⟨by simp [hl], fun i d hd => ?_⟩
  by_cases hi : i < ds.length
  · rw [List.getElem?_append_left (by simpa using hi), List.getElem?_map] at hd
    cases q : ds[i]? with
    | none => simp [q] at hd
    | some e =>
      simp only [q, Option.map_some, Option.some.injEq] at hd
      subst hd
      obtain ⟨v, hv, rv⟩ := r.get q
      exact ⟨v, by rw [List.getElem?_append_left (by simpa [← hl] using hi), List.getElem?_map, hv]; rfl, rv⟩
  · rw [List.getElem?_append_right (by simpa using hi), List.getElem?_replicate] at hd
    split at hd <;> cases hd
open PySem.Spec PyProof.Rows in
theorem fn_ok {x qual : Str} {st : Stmt} {f : Addr} {fd : FuncData} {N ps : List Str} {k : Nat} {cl : Nat → Addr} (nN nP : Nat) {n : MS} (F : Fun K x qual st f fd) (S : FnScope N ps (defScope st))
    (hbody : ∀ (cdv : Value) (A : Around) (outer : List PySem.Env) (s : Shared) (H : Hp) (E : XK), Room k (A.deeper (envOfC qual (defScope st) s.heap.objs.size f cdv)) → QSs (cxOf CX0 P w K mg base N qual (defScope st) f cdv A outer s H E).nox cl E0 (defBody st) n)
    (hN : N.length = nN := by rfl) (hP : ps.length = nP := by rfl) : FnOk P w K mg base CX0 (k + 1) f fd ps (spM ⟨K, cl⟩ (fnM nN nP n)) := by
  refine F.ok S (fun vs H Q E h => ?_) (fun cdv A outer s H vs Q E hr h => ?_)
  · obtain ⟨ds, α, G, S, r, hR, hp⟩ := h
    unfold fnM at hp
    split at hp
    · rename_i e
      rw [← r.length, e, hP]
    · exact hp.elim
  · obtain ⟨ds, α, G, S', r, hR, hp⟩ := h
    obtain ⟨t, h1, h2⟩ := (hbody cdv A outer s H E hr).ex
    refine ⟨t, h1, ?_⟩
    unfold fnM at hp
    split at hp
    · rename_i e
      rw [← hN, ← hP, show ps.length = vs.length by rw [hP, ← e, r.length]] at hp
      refine h2 _ S' _ α G H _ (envR_start r) hR ?_
      revert hp
      cases n (ds.map some ++ List.replicate (N.length - vs.length) none) S' with
      | no => exact id
      | ex e S2 => exact fun hp => hp.elim
      | ok fl S2 =>
        cases fl with
        | nx ρ => exact fun hp α' G' H' σ' e R _ => fin_post hR hp α' G' H' .non e R (by simp [Rep])
        | rt d => exact fun hp α' G' H' v e R r => fin_post hR hp α' G' H' v e R r
        | bk ρ => exact fun hp => hp.elim
        | ct ρ => exact fun hp => hp.elim
    · exact hp.elim
def endC (r : Res Fl) : Res D := match r with
  | .ok (.nx _) S => .ok .non S
  | .ok (.rt d) S => .ok d S
  | _ => .no
def fnC (nN nP : Nat) (n : MS) : List D → Store → Res D := fun ds S => if ds.length = nP then endC (n (ds.map some ++ List.replicate (nN - nP) none) S) else .no
open PySem.Spec PyProof.Rows in
theorem fn_okC {x qual : Str} {st : Stmt} {f : Addr} {fd : FuncData} {N ps : List Str} {k : Nat} {cl : Nat → Addr} (nN nP : Nat) {n : MS} (F : Fun K x qual st f fd) (S : FnScope N ps (defScope st))
    (hbody : ∀ (cdv : Value) (A : Around) (outer : List PySem.Env) (s : Shared) (H : Hp) (E : XK), Room k (A.deeper (envOfC qual (defScope st) s.heap.objs.size f cdv)) → QSs (cxOf CX0 P w K mg base N qual (defScope st) f cdv A outer s H E).nox cl E0 (defBody st) n)
    (hN : N.length = nN := by rfl) (hP : ps.length = nP := by rfl) : FnOk P w K mg base CX0 (k + 1) f fd ps (spM ⟨K, cl⟩ (fnC nN nP n)) := by
  refine F.ok S (fun vs H Q E h => ?_) (fun cdv A outer s H vs Q E hr h => ?_)
  · obtain ⟨ds, α, G, S, r, hR, hp⟩ := h
    unfold fnC at hp
    split at hp
    · rename_i e
      rw [← r.length, e, hP]
    · exact hp.elim
  · obtain ⟨ds, α, G, S', r, hR, hp⟩ := h
    obtain ⟨t, h1, h2⟩ := (hbody cdv A outer s H E hr).ex
    refine ⟨t, h1, ?_⟩
    unfold fnC at hp
    split at hp
    · rename_i e
      rw [← hN, ← hP, show ps.length = vs.length by rw [hP, ← e, r.length]] at hp
      refine h2 _ S' _ α G H _ (envR_start r) hR ?_
      revert hp
      cases n (ds.map some ++ List.replicate (N.length - vs.length) none) S' with
      | no => exact id
      | ex e S2 => exact fun hp => hp.elim
      | ok fl S2 =>
        cases fl with
        | nx ρ => exact fun hp α' G' H' σ' e R _ => hp α' G' H' .non e R (by simp [Rep])
        | rt d => exact fun hp α' G' H' v e R r => hp α' G' H' v e R r
        | bk ρ => exact fun hp => hp.elim
        | ct ρ => exact fun hp => hp.elim
    · exact hp.elim
theorem fn_none {CX : CXT} {f : Addr} {fd : FuncData} {ps : List Str} {k : Nat} {cl : Nat → Addr} : FnOk P w K mg base CX k f fd ps (spM ⟨K, cl⟩ fun _ _ => .no) :=
  ⟨fun vs H Q E ⟨_, _, _, _, _, _, h⟩ => h.elim, fun A outer s H args us vs Q E _ _ _ _ ⟨_, _, _, _, _, _, h⟩ => h.elim⟩
def spLaw (K : PySem.W.Frag) : Sp := fun vs H Q _ => ∃ (a : Addr) (ns : List Int), vs = [.ref a] ∧ SqL K H a (ns.map V.int) ∧ ns.length ≤ 63 ∧ ∀ H', Q (.bl true) H'
def scriptD (ns : List Int) : D := .fro (ns.map D.int)
theorem repL_ints {Γ : Gm} {α : List Addr} {G : Hp} : ∀ ns : List Int, RepL Γ α G (ns.map D.int) (ns.map V.int)
  | [] => by simp [RepL]
  | n :: ns => by
    show RepL Γ α G (.int n :: ns.map D.int) (.int n :: ns.map V.int)
    unfold RepL
    exact ⟨.int n, _, rfl, by simp [Rep], repL_ints ns⟩
theorem law_ok {CX : CXT} {k : Nat} {f : Addr} {fd : FuncData} {ps : List Str} {cl : Nat → Addr} {g : List D → Store → Res D} (F : FnOk P w K mg base CX k f fd ps (spM ⟨K, cl⟩ g)) (h : ∀ ns : List Int, ns.length ≤ 63 → ∃ S, g [scriptD ns] [] = .ok (.bl true) S) : FnOk P w K mg base CX k f fd ps (spLaw K) :=
  F.imp fun vs H Q E ⟨a, ns, e, hs, hl, q⟩ => by
    subst e
    obtain ⟨S, hg⟩ := h ns hl
    refine ⟨[scriptD ns], [], H, [], ?_, ⟨Sub.refl H, rfl, List.nodup_nil, fun a m => (by simp at m), fun k c a h => (by simp at h)⟩, ?_⟩
    · unfold RepL
      exact ⟨.ref a, [], rfl, by unfold scriptD Rep; exact ⟨a, _, rfl, hs, repL_ints ns⟩, by simp [RepL]⟩
    · rw [hg]
      intro α' G' H' v e R r
      simp only [Rep] at r
      subst r
      exact q H'
end
end Q
namespace Q
open PySem L2
section
variable {X : Cx} {cl : Nat → Addr} {E : XK} {a b c e : Expr} {ma mb mc m : ME} {mt mu : MT} {pos : Pos}
def mChain (f f' : D → D → Store → Res D) (ma mb mc : ME) : ME := fun ρ S => (ma ρ S).bind fun x S1 => (mb ρ S1).bind fun y S2 => (f x y S2).bind fun z S3 => match z with
  | .bl true => (mc ρ S3).bind fun w S4 => f' y w S4
  | .bl false => .ok (.bl false) S3
  | _ => .no
theorem snd_chain {Γ : Gm} {r r' : R2} {f f' : D → D → Store → Res D} {ta tb tc : TE} (hr : SndR Γ E r f) (hr' : SndR Γ E r' f') (ha : SndE Γ E ta ma) (hb : SndE Γ E tb mb) (hc : SndE Γ E tc mc) : SndE Γ E (tChain r r' ta tb tc) (mChain f f' ma mb mc) := fun ρ S σ α G H Q hρ hR h =>
  ha ρ S σ α G H _ hρ hR (post_bind h fun x S1 α1 G1 H1 v _ e1 R1 r1 h1 =>
    hb ρ S1 σ α1 G1 H1 _ (hρ.mono e1) R1 (post_bind h1 fun y S2 α2 G2 H2 w _ e2 R2 r2 h2 =>
      hr x y S2 α2 G2 H2 v w _ R2 (Rep.mono e2.pre e2.sub _ _ r1) r2 (post_bind h2 fun z S3 α3 G3 H3 u _ e3 R3 r3 h3 => by
        cases z <;> try exact h3.elim
        rename_i k _
        simp only [Rep] at r3
        refine ⟨k, r3, ?_⟩
        cases k with
        | false => exact iteF (post_ok h3 R3 (by simp [Rep]))
        | true => exact iteT (hc ρ S3 σ α3 G3 H3 _ (((hρ.mono e1).mono e2).mono e3) R3 (post_bind h3 fun q S4 α4 G4 H4 u4 _ e4 R4 r4 h4 =>
            hr' y q S4 α4 G4 H4 w u4 Q R4 (Rep.mono e4.pre e4.sub _ _ (Rep.mono e3.pre e3.sub _ _ r2)) r4 h4)))))
theorem q_tchain {op op' : CmpOp} {f f' : D → D → Store → Res D} (ho : QR X cl E (compareOp op) f) (ho' : QR X cl E (compareOp op') f') (ha : QE X cl E a ma) (hb : QE X cl E b mb) (hc : QE X cl E c mc) (hm : lastMarks [op, op'] [b, c] = false := by with_unfolding_all rfl) :
    QT X cl E (.Compare a [op, op'] [b, c] pos) (mTB (mChain f f' ma mb mc)) := by
  obtain ⟨r, h1, h2⟩ := ho.ex
  obtain ⟨r', h1', h2'⟩ := ho'.ex
  obtain ⟨ta, a1, a2⟩ := ha.ex
  obtain ⟨tb, b1, b2⟩ := hb.ex
  obtain ⟨tc, c1, c2⟩ := hc.ex
  exact ⟨_, pt_chain h1 h1' a1 b1 c1 hm, snd_tb (snd_chain h2 h2' a2 b2 c2)⟩
def place {β : Type} (idx : List Nat) (xs : List β) : List β := idx.filterMap fun i => xs[i]?
theorem place_cons {β : Type} (i : Nat) (idx : List Nat) (xs : List β) : place (i :: idx) xs = match xs[i]? with
    | some x => x :: place idx xs
    | none => place idx xs := by
  unfold place
  rw [List.filterMap_cons]
  cases xs[i]? <;> rfl
theorem place_rep {Γ : Gm} {α : List Addr} {G : Hp} {ds : List D} {vs : List V} (r : RepL Γ α G ds vs) : ∀ idx : List Nat, RepL Γ α G (place idx ds) (place idx vs)
  | [] => by simp [place, RepL]
  | i :: idx => by
    rw [place_cons, place_cons]
    cases q : ds[i]? with
    | none =>
      have : vs[i]? = none := by
        rw [List.getElem?_eq_none_iff] at q ⊢
        rw [← r.length]; exact q
      rw [this]
      exact place_rep r idx
    | some d =>
      obtain ⟨v, hv, rv⟩ := r.get q
      rw [hv]
      simp only
      unfold RepL
      exact ⟨v, _, rfl, rv, place_rep r idx⟩
theorem place_vals {vs : List V} {us : List Value} (r : Vals vs us) : ∀ idx : List Nat, Vals (place idx vs) (place idx us)
  | [] => .nil
  | i :: idx => by
    rw [place_cons, place_cons]
    cases q : vs[i]? with
    | none =>
      rw [r.none_of q]
      exact place_vals r idx
    | some d =>
      obtain ⟨v, hv, rv⟩ := r.get q
      rw [hv]
      exact .cons rv (place_vals r idx)
theorem kbn {K : PySem.W.Frag} {x qual : Str} {st : Stmt} {f : Addr} {fd : FuncData} {ps ks : List Str} (F : Fun K x qual st f fd) (n : Nat) (idx : List Nat)
    (h : ∀ (kV doc pm : Value) (an : Option Addr) (cdv ct : Value) (us ws : List Value), us.length = n → ws.length = ks.length → bindArgs (PySem.W.fnOf x qual (defArgs st) (defBody st) (defScope st) .none kV doc pm an cdv ct) ⟨us, ks.zip ws⟩ = pure (ps.zip (place idx (us ++ ws)))) :
    KBn K fd ps n ks (fun us ws => place idx (us ++ ws)) (fun us ws => place idx (us ++ ws)) := by
  obtain ⟨oc, od, kV, doc, pm, an, cdv, ct, osl, rfl, lk, hcd⟩ := F.ex
  exact ⟨fun s us ws _ h1 h2 => .of_eq (h kV doc pm an cdv ct us ws h1 h2), fun r1 r2 => place_vals (r1.append r2) idx⟩
structure QK (X : Cx) (cl : Nat → Addr) (E : XK) (kws : List Keyword) (m : MA) : Prop where
  ex : ∃ t, PK X kws t ∧ SndA ⟨X.K, cl⟩ E t m
theorem qk_nil : QK X cl E [] mNil := ⟨_, pk_nil, snd_nil⟩
theorem qk_cons {kws : List Keyword} {n : MA} {nm : Option Str} {kpos : Pos} (h : QE X cl E e m) (k : QK X cl E kws n) : QK X cl E (⟨nm, e, kpos⟩ :: kws) (mCons m n) := by
  obtain ⟨t, h1, h2⟩ := h.ex
  obtain ⟨u, k1, k2⟩ := k.ex
  exact ⟨_, pk_cons h1 k1, snd_cons h2 k2⟩
def mCallK (g : List D → Store → Res D) (i j : Nat) (idx : List Nat) (n nk : MA) : ME := fun ρ S => (n ρ S).bind fun ds S1 => (nk ρ S1).bind fun zs S2 => if ds.length = i ∧ zs.length = j then g (place idx (ds ++ zs)) S2 else .no
theorem snd_callK {Γ : Gm} {sp : Sp} {E' : XK} {g : List D → Store → Res D} {i j : Nat} {idx : List Nat} {n nk : MA} {t tk : TA} (hf : SndC Γ E (fun vs H Q => sp vs H Q E') g) (h : SndA Γ E t n) (k : SndA Γ E tk nk) :
    SndE Γ E (tCallN i j sp (fun us ws => place idx (us ++ ws)) E' t tk) (mCallK g i j idx n nk) := fun ρ S σ α G H Q hρ hR hp =>
  h ρ S σ α G H _ hρ hR (post_bind hp fun ds S1 α1 G1 H1 vs _ e1 R1 r1 hp1 => k ρ S1 σ α1 G1 H1 _ (hρ.mono e1) R1 (post_bind hp1 fun zs S2 α2 G2 H2 ws _ e2 R2 r2 hp2 => by
    split at hp2
    · rename_i hl
      have r1' := RepL.mono e2.pre e2.sub _ _ r1
      exact ⟨by rw [← r1'.length]; exact hl.1, by rw [← r2.length]; exact hl.2, hf _ S2 α2 G2 H2 _ Q R2 (place_rep (r1'.append r2) idx) hp2⟩
    · exact hp2.elim))
theorem pe_callN0 {CX : CXT} {k : Nat} {f : Addr} {fd : FuncData} {ps ks : List Str} {sp : Sp} {x : Str} {p : Pos} {kws : List Keyword} {tk : TA} {g : List Value → List Value → List Value} {gV : List V → List V → List V} {E : XK} (F : FnOk X.prog X.w X.K X.mg X.base CX k f fd ps sp) (hr : Room k X.A) (hg : Gl X x) (hm : X.mg x = some (.ref f)) (hk : PySem.W.keepIn X.K (.ref f) = true) (hb : KBn X.K fd ps 0 ks g gV) (hx : Passes CX X E)
    (hkw : PK X kws tk) (hall : (backToKw pos (keywordEach kws X.env)).all (·.1.isSome) = true) (hks : (backToKw pos (keywordEach kws X.env)).filterMap (·.1) = ks)
    (hdb : (x == ("__debug__" : Str)) = false)
    (hpl : ((backTo pos (starEach [] X.env)).any (·.1) || (backToKw pos (keywordEach kws X.env)).any (·.1.isNone)) = false) :
    PE X (.Call (.Name x p) [] kws pos) (tCallN 0 ks.length sp gV E tNil tk) := by
  refine ⟨fun pins s σ H Q I h => ?_⟩
  refine wpAny_Call_Name_kw (ld_glob I hg hm ?_ hdb)
  refine PySem.W.callWith_KW0 (h₀ := X.base) I.ok.mod.kin hk hall ?_ hpl
  refine thn (hkw.run pos pins s σ H _ I h) fun ws s2 ⟨zs, H2, I2, rz, l1, l2, q2⟩ => ⟨I2.kIn, ?_⟩
  rw [hks]
  exact run_fnN F hr hb hx I2 .nil rz l1 l2 q2
theorem q_callK0 {g f : List D → Store → Res D} {k j : Nat} {idx : List Nat} {fa : Addr} {fd : FuncData} {ps ks : List Str} {x : Str} {p : Pos} {kws : List Keyword} {nk : MA} (F : FnOk X.prog X.w X.K X.mg X.base CX0 k fa fd ps (spM ⟨X.K, cl⟩ f)) (hr : Room k X.A)
    (hg : Gl X x) (hm : X.mg x = some (.ref fa)) (hk : PySem.W.keepIn X.K (.ref fa) = true) (hb : KBn X.K fd ps 0 ks (fun us ws => place idx (us ++ ws)) (fun us ws => place idx (us ++ ws))) (hkw : QK X cl E kws nk) (hf : SndC ⟨X.K, cl⟩ E (fun vs H Q => spM ⟨X.K, cl⟩ f vs H Q E0) g)
    (hall : (backToKw pos (keywordEach kws X.env)).all (·.1.isSome) = true := by rfl) (hks : (backToKw pos (keywordEach kws X.env)).filterMap (·.1) = ks := by rfl)
    (hdb : (x == ("__debug__" : Str)) = false := by decide)
    (hpl : ((backTo pos (starEach [] X.env)).any (·.1) || (backToKw pos (keywordEach kws X.env)).any (·.1.isNone)) = false := by rfl) (hj : ks.length = j := by rfl) :
    QE X cl E (.Call (.Name x p) [] kws pos) (mCallK g 0 j idx mNil nk) := by
  subst hj
  obtain ⟨u, k1, k2⟩ := hkw.ex
  exact ⟨_, pe_callN0 F hr hg hm hk hb pass0 k1 hall hks hdb hpl, snd_callK hf snd_nil k2⟩
def zipD (xs ys : List D) : List D := List.zipWith (fun x y => .tup [x, y]) xs ys
def zipItems (ds : List D) (S : Store) : Res (List D) := match ds with
  | [.tup xs, .tup ys] => .ok (zipD xs ys) S
  | [.lst xs, .lst ys] => .ok (zipD xs ys) S
  | _ => .no
def mZip (n : MA) : MA := fun ρ S => (n ρ S).bind zipItems
theorem zipD_get {xs ys : List D} {i : Nat} {d : D} (h : (zipD xs ys)[i]? = some d) : ∃ x y, xs[i]? = some x ∧ ys[i]? = some y ∧ d = .tup [x, y] := by
  unfold zipD at h
  rw [List.getElem?_zipWith] at h
  cases q1 : xs[i]? with
  | none => simp [q1] at h
  | some x =>
    cases q2 : ys[i]? with
    | none => simp [q1, q2] at h
    | some y =>
      simp only [q1, q2, Option.some.injEq] at h
      exact ⟨x, y, rfl, rfl, h.symm⟩
theorem zipD_len {xs ys : List D} {i : Nat} (h : (zipD xs ys).length ≤ i) : xs.length ≤ i ∨ ys.length ≤ i := by
  unfold zipD at h
  rw [List.length_zipWith] at h
  omega
theorem steps_zip {Γ : Gm} {α : List Addr} {G : Hp} {xs ys : List D} {a b : Addr} {vs ws : List V} (h : SqL Γ.K G a vs) (r : RepL Γ α G xs vs) (h' : SqL Γ.K G b ws) (r' : RepL Γ α G ys ws) : Steps Γ α G (zipD xs ys) (Itz Γ.K a b) := fun i α2 G2 H2 S2 hp hs R2 => by
  have q : SqL Γ.K H2 a vs := (hs.trans R2.sub).sqL h
  have q' : SqL Γ.K H2 b ws := (hs.trans R2.sub).sqL h'
  have r2 : RepL Γ α2 G2 xs vs := RepL.mono hp hs _ _ r
  have r2' : RepL Γ α2 G2 ys ws := RepL.mono hp hs _ _ r'
  refine ⟨fun hl => ⟨vs, ws, q, q', by rw [← r2.length, ← r2'.length]; exact zipD_len hl⟩, fun d hd => ?_⟩
  obtain ⟨x, y, hx, hy, rfl⟩ := zipD_get hd
  obtain ⟨v, hv, rv⟩ := r2.get hx
  obtain ⟨w, hw, rw'⟩ := r2'.get hy
  refine ⟨⟨vs, ws, v, w, q, q', hv, hw⟩, fun z H3 hz => ?_⟩
  obtain ⟨T, x', y', rfl, hT, rfl, f1, f2⟩ := hz
  have e1 := f1 vs q
  have e2 := f2 ws q'
  rw [hv] at e1
  rw [hw] at e2
  cases e1
  cases e2
  obtain ⟨R3, e3⟩ := R2.new hT (.tup [v, w])
  exact ⟨_, R3, e3, rep_tup upd_same (RepL.mono e3.pre e3.sub _ _ (by unfold RepL; exact ⟨v, [w], rfl, rv, by unfold RepL; exact ⟨w, [], rfl, rw', by simp [RepL]⟩⟩))⟩
theorem steps_zipT {Γ : Gm} {α : List Addr} {G : Hp} {xs ys : List D} {a b : Addr} {vs ws : List V} (h : SqT Γ.K G a vs) (r : RepL Γ α G xs vs) (h' : SqT Γ.K G b ws) (r' : RepL Γ α G ys ws) : Steps Γ α G (zipD xs ys) (RZ.ItzT Γ.K a b) := fun i α2 G2 H2 S2 hp hs R2 => by
  have q : SqT Γ.K H2 a vs := (hs.trans R2.sub).sqT h
  have q' : SqT Γ.K H2 b ws := (hs.trans R2.sub).sqT h'
  have r2 : RepL Γ α2 G2 xs vs := RepL.mono hp hs _ _ r
  have r2' : RepL Γ α2 G2 ys ws := RepL.mono hp hs _ _ r'
  refine ⟨fun hl => ⟨vs, ws, q, q', by rw [← r2.length, ← r2'.length]; exact zipD_len hl⟩, fun d hd => ?_⟩
  obtain ⟨x, y, hx, hy, rfl⟩ := zipD_get hd
  obtain ⟨v, hv, rv⟩ := r2.get hx
  obtain ⟨w, hw, rw'⟩ := r2'.get hy
  refine ⟨⟨vs, ws, v, w, q, q', hv, hw⟩, fun z H3 hz => ?_⟩
  obtain ⟨T, x', y', rfl, hT, rfl, f1, f2⟩ := hz
  have e1 := f1 vs q
  have e2 := f2 ws q'
  rw [hv] at e1
  rw [hw] at e2
  cases e1
  cases e2
  obtain ⟨R3, e3⟩ := R2.new hT (.tup [v, w])
  exact ⟨_, R3, e3, rep_tup upd_same (RepL.mono e3.pre e3.sub _ _ (by unfold RepL; exact ⟨v, [w], rfl, rv, by unfold RepL; exact ⟨w, [], rfl, rw', by simp [RepL]⟩⟩))⟩
theorem qi_zip {elts : List Expr} {kk : Nat} {tpos p : Pos} {n : MA} (h : QA X cl E [a, b] n) (hg : Gl X "zip") (hm : X.mg "zip" = none)
    (hs : starEach [a, b] X.env = (false, eval a X.env) :: starEach [b] X.env := by rfl) (hpl : (backTo pos (starEach [b] X.env)).any (·.1) = false := by rfl) : QI X cl E (.Tuple elts kk tpos) (.Call (.Name "zip" p) [a, b] [] pos) (mZip n) := by
  obtain ⟨t, h1, h2⟩ := h.ex
  refine ⟨_, RZ.pi_zipA hg hm h1 hs hpl, fun ρ S σ α G H R hρ hR hp => h2 ρ S σ α G H _ hρ hR (posti_bind hp fun ds S1 α1 G1 H1 vs q1 e1 R1 r1 hp1 => ?_)⟩
  clear q1
  unfold zipItems at hp1
  split at hp1
  · rename_i xs ys
    obtain ⟨v, w, rfl, rv, rw'⟩ := repL2 r1
    unfold Rep at rv rw'
    obtain ⟨p1, vs, rfl, z1, k1⟩ := rv
    obtain ⟨p2, ws, rfl, z2, k2⟩ := rw'
    exact ⟨p1, p2, vs, ws, rfl, .inr ⟨.inl (.inl (R1.sub _ _ z1)), .inl (.inl (R1.sub _ _ z2)), hp1 α1 G1 H1 _ (Ext.refl _ _ _) R1 (steps_zipT (Γ := ⟨X.K, cl⟩) (.inl (.inl z1)) k1 (.inl (.inl z2)) k2)⟩⟩
  · rename_i xs ys
    obtain ⟨v, w, rfl, rv, rw'⟩ := repL2 r1
    unfold Rep at rv rw'
    obtain ⟨p1, vs, rfl, z1, k1⟩ := rv
    obtain ⟨p2, ws, rfl, z2, k2⟩ := rw'
    exact ⟨p1, p2, vs, ws, rfl, .inl ⟨R1.sub.sqL (.inl (.inl z1)), R1.sub.sqL (.inl (.inl z2)), hp1 α1 G1 H1 _ (Ext.refl _ _ _) R1 (steps_zip (Γ := ⟨X.K, cl⟩) (.inl (.inl z1)) k1 (.inl (.inl z2)) k2)⟩⟩
  · exact hp1.elim
def enumD (k : Nat) : List D → List D
  | [] => []
  | d :: ds => .tup [.int (k : Nat), d] :: enumD (k + 1) ds
theorem enumD_len : ∀ (k : Nat) (ds : List D), (enumD k ds).length = ds.length
  | _, [] => rfl
  | k, d :: ds => by simp [enumD, enumD_len (k + 1) ds]
theorem enumD_get : ∀ {k : Nat} {ds : List D} {i : Nat} {d : D}, (enumD k ds)[i]? = some d → ∃ x, ds[i]? = some x ∧ d = .tup [.int ((k + i : Nat) : Int), x]
  | _, [], _, _, h => by simp [enumD] at h
  | k, x :: ds, 0, d, h => by simp [enumD] at h; exact ⟨x, rfl, h.symm⟩
  | k, x :: ds, i + 1, d, h => by
    simp only [enumD, List.getElem?_cons_succ] at h
    obtain ⟨y, h1, h2⟩ := enumD_get h
    exact ⟨y, by simpa using h1, by rw [h2]; congr 3; omega⟩
def mEnum (m : ME) : MA := fun ρ S => (m ρ S).bind fun d S1 => match d with
  | .lst xs => .ok (enumD 0 xs) S1
  | .fro xs => .ok (enumD 0 xs) S1
  | _ => .no
theorem steps_enum {Γ : Gm} {α : List Addr} {G : Hp} {ds : List D} {a : Addr} {vs : List V} (h : SqL Γ.K G a vs) (r : RepL Γ α G ds vs) : Steps Γ α G (enumD 0 ds) (Ite Γ.K a) := fun i α2 G2 H2 S2 hp hs R2 => by
  have q : SqL Γ.K H2 a vs := (hs.trans R2.sub).sqL h
  have r2 : RepL Γ α2 G2 ds vs := RepL.mono hp hs _ _ r
  refine ⟨fun hl => ⟨vs, q, by rw [← r2.length, ← enumD_len 0]; exact hl⟩, fun d hd => ?_⟩
  obtain ⟨x, hx, rfl⟩ := enumD_get hd
  obtain ⟨v, hv, rv⟩ := r2.get hx
  refine ⟨⟨vs, v, q, hv⟩, fun z H3 hz => ?_⟩
  obtain ⟨T, x', rfl, hT, rfl, f1⟩ := hz
  have e1 := f1 vs q
  rw [hv] at e1
  cases e1
  obtain ⟨R3, e3⟩ := R2.new hT (.tup [.int (i : Nat), v])
  exact ⟨_, R3, e3, rep_tup upd_same (RepL.mono e3.pre e3.sub _ _ (by unfold RepL; exact ⟨.int (i : Nat), [v], rfl, by simp [Rep], by unfold RepL; exact ⟨v, [], rfl, rv, by simp [RepL]⟩⟩))⟩
theorem qi_enum {elts : List Expr} {kk : Nat} {tpos p : Pos} (h : QE X cl E a m) (hg : Gl X "enumerate") (hm : X.mg "enumerate" = none) (hs : starEach [a] X.env = [(false, eval a X.env)] := by rfl) : QI X cl E (.Tuple elts kk tpos) (.Call (.Name "enumerate" p) [a] [] pos) (mEnum m) := by
  obtain ⟨t, h1, h2⟩ := h.ex
  refine ⟨_, pi_enum hg hm (pa_cons h1 pa_nil (by rw [hs]; rfl)) hs, fun ρ S σ α G H R hρ hR hp => h2 ρ S σ α G H _ hρ hR (posti_bind hp fun d S1 α1 G1 H1 v q1 e1 R1 r1 hp1 => ?_)⟩
  clear q1
  cases d <;> try exact hp1.elim
  · rename_i xs
    unfold Rep at r1
    obtain ⟨p1, vs, rfl, z1, k1⟩ := r1
    exact ⟨p1, vs, rfl, R1.sub.sqL (.inl (.inl z1)), hp1 α1 G1 H1 _ (Ext.refl _ _ _) R1 (steps_enum (Γ := ⟨X.K, cl⟩) (.inl (.inl z1)) k1)⟩
  · rename_i xs
    unfold Rep at r1
    obtain ⟨p1, vs, rfl, z1, k1⟩ := r1
    exact ⟨p1, vs, rfl, R1.sub.sqL z1, hp1 α1 G1 H1 _ (Ext.refl _ _ _) R1 (steps_enum (Γ := ⟨X.K, cl⟩) z1 k1)⟩
end
end Q
namespace Q
open PySem L2
section
variable {X : Cx} {cl : Nat → Addr} {E : XK} {e : Expr} {m : ME} {f : Str} {pos : Pos}
def fldD (c i : Nat) (d : D) (S : Store) : Res D := match d with
  | .obj c' fs => if c' = c then oRes fs[i]? S else .no
  | _ => .no
def mFld (c i : Nat) (m : ME) : ME := fun ρ S => (m ρ S).bind (fldD c i)
theorem obj_slt {G H : Hp} (s : Sub G H) {a C : Addr} {vs : List V} (h : ObAt G a C vs) : ∃ dx, SlX.Slt H a C dx (vs.map some) := by
  obtain ⟨dx, h1, h2⟩ := h
  exact ⟨dx, .inr ⟨s _ _ h1, s _ _ h2⟩⟩
theorem q_fld (c i : Nat) {p : Addr} (h : QE X cl E e m) (hc : SlX.SCls X.K (cl c)) (hs : SlX.Slot1 X.K (cl c) f p i) (hb : attributeBase e f X.env (eval e X.env) = eval e X.env := by rfl) : QE X cl E (.Attribute e f pos) (mFld c i m) := by
  obtain ⟨t, h1, h2⟩ := h.ex
  refine ⟨_, SlX.pe_sl h1 hb, fun ρ S σ α G H Q hρ hR hp => h2 ρ S σ α G H _ hρ hR (post_bind hp fun d S1 α1 G1 H1 v _ e1 R1 r1 hp1 => ?_)⟩
  cases d <;> try exact hp1.elim
  rename_i c' fs _
  unfold fldD at hp1
  simp only at hp1
  split at hp1
  · rename_i e
    subst e
    unfold Rep at r1
    obtain ⟨a, vs, rfl, ho, rl⟩ := r1
    obtain ⟨dx, hsl⟩ := obj_slt R1.sub ho
    cases q : fs[i]? with
    | none => rw [q] at hp1; exact hp1.elim
    | some d =>
      rw [q] at hp1
      obtain ⟨w, hw, rw'⟩ := RepL.get rl q
      exact ⟨a, _, dx, p, vs.map some, i, w, rfl, hsl, hc, hs, by rw [List.getElem?_map, hw]; rfl, post_ok hp1 R1 rw'⟩
  · exact hp1.elim
end
section
variable {X : Cx} {pos : Pos} {f : Str}
def gSl (K : PySem.W.Frag) (to : TE) (f : Str) : TG := fun y σ H Q => to σ H fun x H2 => ∃ a C dx p vs i, x = .ref a ∧ SlX.Slt H2 a C dx vs ∧ SlX.SCls K C ∧ SlX.Slot1 K C f p i ∧ Q σ (SlX.slH H2 a C dx (SlX.putS i y vs))
theorem pg_sl {o : Expr} {to : TE} (ho : PE X o to)
    (ha : ∀ v, assign (.Attribute o f pos) X.env v = (do
      let ov ← holding [v] (eval o X.env)
      standAt pos.atName
      holding [v, ov] (setAttr ov f v)
      release [v, ov] []) := by intro _; rfl) : PG X (.Attribute o f pos) (gSl X.K to f) := by
  refine ⟨fun pins s σ H v u Q I r h => ?_⟩
  rw [ha]
  refine wpAny_bind (wpAny_holding (thn (ho.run pins s σ H _ I h) fun ov s1 ⟨x, H1, I1, r1, a, C, dx, p, vs, i, ex, hsl, c, t, q1⟩ => ?_))
  subst ex
  obtain rfl : ov = Value.ref a := r1
  refine wpAny_bind (wpAny_standAt (wpAny_bind (wpAny_holding (SlX.setslot_ok I1 hsl c t r fun s3 I3 => ?_))))
  exact wpAny_release ⟨σ, _, I3, q1⟩
end
def put2 (G : Hp) (a dx C : Addr) (us : List V) : Hp := upd (upd G dx (.xd [])) a (SlX.SlO a C dx (us.map some))
theorem new_obj {Γ : Gm} {α α' : List Addr} {G G' H H0 H' : Hp} {S S' : Store} {a dx : Addr} {c : Nat} {fs : List D} {us : List V} (R0 : Rl Γ α G S H0) (na : H0 a = none) (nd : H0 dx = none) (ne : dx ≠ a) (hH : H = upd (upd H0 dx (.own a)) a (.ins (Γ.cl c) dx []))
    (e : Ext α G H α' G' H') (R : Rl Γ α' G' S' H') (r : RepL Γ α' G' fs us) :
    Ext α G H0 α' (put2 G' a dx (Γ.cl c) us) (SlX.slH H' a (Γ.cl c) dx (us.map some)) ∧ Rl Γ α' (put2 G' a dx (Γ.cl c) us) S' (SlX.slH H' a (Γ.cl c) dx (us.map some)) ∧ Rep Γ α' (put2 G' a dx (Γ.cl c) us) (.obj c fs) (.ref a) := by
  have ha : H a = some (.ins (Γ.cl c) dx []) := by rw [hH, upd_same]
  have hd : H dx = some (.own a) := by rw [hH, upd_ne ne, upd_same]
  have up : ∀ b o, H0 b = some o → b ≠ a ∧ b ≠ dx ∧ H b = some o := fun b o h => by
    have h1 : b ≠ a := fun z => by rw [z, na] at h; cases h
    have h2 : b ≠ dx := fun z => by rw [z, nd] at h; cases h
    exact ⟨h1, h2, by rw [hH, upd_ne h1, upd_ne h2]; exact h⟩
  have ma : a ∉ α := fun m => R0.tr a m na
  have md : dx ∉ α := fun m => R0.tr dx m nd
  have ga : G' a = none := by
    cases q : G' a with
    | none => rfl
    | some o =>
      rcases e.ng a (by rw [q]; simp) with z | z | z | ⟨xs, z⟩
      · exact absurd (R0.sub.none na) z
      · exact absurd z ma
      · rw [ha] at z; cases z
      · rw [ha] at z; cases z
  have gd : G' dx = none := by
    cases q : G' dx with
    | none => rfl
    | some o =>
      rcases e.ng dx (by rw [q]; simp) with z | z | z | ⟨xs, z⟩
      · exact absurd (R0.sub.none nd) z
      · exact absurd z md
      · rw [hd] at z; cases z
      · rw [hd] at z; cases z
  have ka : H' a = some (.ins (Γ.cl c) dx []) := e.fr a _ ha ma
  have kd : H' dx = some (.own a) := e.fr dx _ hd md
  have sG : Sub G' (put2 G' a dx (Γ.cl c) us) := fun b o h => by
    have h1 : b ≠ a := fun z => by rw [z, ga] at h; cases h
    have h2 : b ≠ dx := fun z => by rw [z, gd] at h; cases h
    unfold put2
    rw [upd_ne h1, upd_ne h2]
    exact h
  have pG : ∀ b, b ≠ a → b ≠ dx → put2 G' a dx (Γ.cl c) us b = G' b := fun b h1 h2 => by unfold put2; rw [upd_ne h1, upd_ne h2]
  refine ⟨⟨e.pre, e.sub.trans sG, fun b o h m => ?_, fun b m => ?_, fun b h => ?_⟩, ⟨fun b o h => ?_, R.len, R.nd, fun b m => ?_, fun k cc b hc hb => ?_⟩, ?_⟩
  · obtain ⟨h1, h2, h3⟩ := up b o h
    rw [SlX.slH_ne h1 h2]
    exact e.fr b o h3 m
  · rcases e.na b m with z | z
    · exact .inl z
    · right
      cases q : H0 b with
      | none => rfl
      | some o => rw [(up b o q).2.2] at z; cases z
  · by_cases h1 : b = a
    · exact .inr (.inr (.inl (by rw [h1]; exact na)))
    · by_cases h2 : b = dx
      · exact .inr (.inr (.inl (by rw [h2]; exact nd)))
      · rw [pG b h1 h2] at h
        rcases e.ng b h with z | z | z | ⟨xs, z⟩
        · exact .inl z
        · exact .inr (.inl z)
        · right; right; left
          cases q : H0 b with
          | none => rfl
          | some o => rw [(up b o q).2.2] at z; cases z
        · right; right
          cases q : H0 b with
          | none => exact .inl rfl
          | some o => rw [(up b o q).2.2] at z; cases z; exact .inr ⟨xs, rfl⟩
  · by_cases h1 : b = a
    · subst h1
      unfold put2 at h
      rw [upd_same] at h
      unfold SlX.slH
      rw [upd_same]
      exact h
    · by_cases h2 : b = dx
      · subst h2
        unfold put2 at h
        rw [upd_ne h1, upd_same] at h
        unfold SlX.slH
        rw [upd_ne h1, upd_same]
        exact h
      · rw [pG b h1 h2] at h
        rw [SlX.slH_ne h1 h2]
        exact R.sub b o h
  · by_cases h1 : b = a
    · subst h1
      unfold SlX.slH
      rw [upd_same]
      simp
    · by_cases h2 : b = dx
      · subst h2
        unfold SlX.slH
        rw [upd_ne h1, upd_same]
        simp
      · rw [SlX.slH_ne h1 h2]
        exact R.tr b m
  · have hbm : b ∈ α' := List.mem_of_getElem? hb
    have h1 : b ≠ a := fun w => by
      subst w
      rcases e.na _ hbm with z | z
      · exact ma z
      · rw [ha] at z; cases z
    have h2 : b ≠ dx := fun w => by
      subst w
      rcases e.na _ hbm with z | z
      · exact md z
      · rw [hd] at z; cases z
    exact (R.ok k cc b hc hb).mono ⟨[], by simp⟩ sG fun _ => ⟨SlX.slH_ne h1 h2, fun h => by rw [pG b h1 h2]; exact h⟩
  · unfold Rep
    exact ⟨a, us, rfl, ⟨dx, by unfold put2; rw [upd_same], by unfold put2; rw [upd_ne ne, upd_same]⟩, RepL.mono ⟨[], by simp⟩ sG _ _ r⟩
def spI (Γ : Gm) (c : Nat) (f : List D → Store → Res (List D)) : Sp := fun vs H Q _ => ∃ a dx ws ds α G S, vs = V.ref a :: ws ∧ H a = some (.ins (Γ.cl c) dx []) ∧ H dx = some (.own a) ∧ dx ≠ a ∧ a ∉ α ∧ dx ∉ α ∧ G a = none ∧ G dx = none ∧ RepL Γ α G ds ws ∧ Rl Γ α G S H ∧
  match f ds S with
  | .ok fs S' => ∀ α' G' H' us, Ext α G H α' G' H' → Rl Γ α' G' S' H' → RepL Γ α' G' fs us → Q .non (SlX.slH H' a (Γ.cl c) dx (us.map some))
  | _ => False
def mMake (c : Nat) (f : List D → Store → Res (List D)) (n : MA) : ME := fun ρ S => (n ρ S).bind fun ds S1 => match f ds S1 with
  | .ok fs S2 => .ok (.obj c fs) S2
  | _ => .no
theorem make_post {Γ : Gm} {E : XK} {α : List Addr} {G H0 : Hp} {S : Store} {c : Nat} {f : List D → Store → Res (List D)} {ds : List D} {vs : List V} {Q : VK} (R0 : Rl Γ α G S H0) (r : RepL Γ α G ds vs)
    (hp : Post Γ (Rep Γ) α G H0 (match f ds S with | .ok fs S2 => .ok (.obj c fs) S2 | _ => .no) Q E) (a dx : Addr) (na : H0 a = none) (nd : H0 dx = none) (ne : dx ≠ a) :
    spI Γ c f (.ref a :: vs) (upd (upd H0 dx (.own a)) a (.ins (Γ.cl c) dx [])) (fun v H2 => v = .non ∧ Q (.ref a) H2) E0 := by
  obtain ⟨R1, e1⟩ := R0.out nd (.own a)
  have na1 : upd H0 dx (.own a) a = none := by rw [upd_ne (Ne.symm ne)]; exact na
  obtain ⟨R2, e2⟩ := R1.out na1 (.ins (Γ.cl c) dx [])
  refine ⟨a, dx, vs, ds, α, G, S, rfl, upd_same, by rw [upd_ne ne, upd_same], ne, fun m => R0.tr a m na, fun m => R0.tr dx m nd, R0.sub.none na, R0.sub.none nd, r, R2, ?_⟩
  revert hp
  cases f ds S with
  | no => exact fun h => h.elim
  | ex e S' => exact fun h => h.elim
  | ok fs S' =>
    intro hp α' G' H' us e R rf
    obtain ⟨e3, R3, r3⟩ := new_obj R0 na nd ne rfl e R rf
    exact ⟨rfl, hp _ _ _ _ e3 R3 r3⟩
section
variable {X : Cx} {cl : Nat → Addr} {E : XK} {pos : Pos}
theorem q_make {c k : Nat} {f : List D → Store → Res (List D)} {fa : Addr} {fd : FuncData} {ps : List Str} {x : Str} {p : Pos} {e : Expr} {es : List Expr} {n : MA} (M : Mk X.K (cl c) fa) (F : FnOk X.prog X.w X.K X.mg X.base CX0 k fa fd ps (spI ⟨X.K, cl⟩ c f)) (hr : Room (k + 1) X.A)
    (hg : Gl X x) (hm : X.mg x = some (.ref (cl c))) (hb : Binds X.K fd ps []) (ha : QA X cl E (e :: es) n)
    (hdb : (x == ("__debug__" : Str)) = false := by decide) (he : starEach (e :: es) X.env = (false, eval e X.env) :: starEach es X.env := by rfl) (hpl : (backTo pos (starEach es X.env)).any (·.1) = false := by rfl) :
    QE X cl E (.Call (.Name x p) (e :: es) [] pos) (mMake c f n) := by
  obtain ⟨t, h1, h2⟩ := ha.ex
  refine ⟨_, pe_make M F hr hg hm hb .nil pass0 h1 hdb he hpl, fun ρ S σ α G H Q hρ hR hp => h2 ρ S σ α G H _ hρ hR (post_bind hp fun ds S1 α1 G1 H1 vs _ e1 R1 r1 hp1 => ?_)⟩
  intro a dx na nd ne
  rw [List.append_nil]
  exact make_post R1 r1 hp1 a dx na nd ne
end
theorem envR_self {Γ : Gm} {α : List Addr} {G : Hp} {ds : List D} {vs : List V} {N : List Str} {v0 : V} (r : RepL Γ α G ds vs) : EnvR Γ α G (none :: (ds.map some ++ List.replicate (N.length - (vs.length + 1)) none)) (L2.start N (v0 :: vs)) := by
  have hl := r.length
  unfold L2.start
  refine ⟨by simp [hl], fun i d hd => ?_⟩
  cases i with
  | zero => simp at hd
  | succ i =>
    rw [List.getElem?_cons_succ] at hd
    by_cases hi : i < ds.length
    · rw [List.getElem?_append_left (by simpa using hi), List.getElem?_map] at hd
      cases q : ds[i]? with
      | none => simp [q] at hd
      | some e =>
        simp only [q, Option.map_some, Option.some.injEq] at hd
        subst hd
        obtain ⟨v, hv, rv⟩ := r.get q
        refine ⟨v, ?_, rv⟩
        rw [List.map_cons, List.cons_append, List.getElem?_cons_succ, List.getElem?_append_left (by simpa [← hl] using hi), List.getElem?_map, hv]
        rfl
    · rw [List.getElem?_append_right (by simpa using hi), List.getElem?_replicate] at hd
      split at hd <;> cases hd
def init2s (nN : Nat) (m : ME) : List D → Store → Res (List D) := fun ds S => match m (none :: (ds.map some ++ List.replicate (nN - (ds.length + 1)) none)) S with
  | .ok (.tup [x, y]) S' => .ok [y, x] S'
  | _ => .no
section
variable {P : Program} {w : World} {K : PySem.W.Frag} {mg : Str → Option Value} {base : Heap}
open PySem.Spec PyProof.Rows in
theorem init2s_ok {x qual : Str} {st : Stmt} {f : Addr} {fd : FuncData} {N ps : List Str} {k c : Nat} {cl : Nat → Addr} (nN nP : Nat) {m : ME} {f1 f2 self : Str} {p1 p2 : Addr} {e : Expr} {n1 n2 a1 a2 tp pos : Pos} {kk : Nat} (F : Fun K x qual st f fd) (S : FnScope N ps (defScope st))
    (hc : SlX.SCls K (cl c)) (s1 : SlX.Slot1 K (cl c) f1 p1 1) (s2 : SlX.Slot1 K (cl c) f2 p2 0) (hb : defBody st = [.Assign [.Tuple [.Attribute (.Name self n1) f1 a1, .Attribute (.Name self n2) f2 a2] kk tp] e pos])
    (hbody : ∀ (cdv : Value) (A : Around) (outer : List PySem.Env) (s : Shared) (H : Hp) (E : XK), Room k (A.deeper (envOfC qual (defScope st) s.heap.objs.size f cdv)) → let X := (cxOf CX0 P w K mg base N qual (defScope st) f cdv A outer s H E).nox
      QE X cl E0 e m ∧ PG X (.Tuple [.Attribute (.Name self n1) f1 a1, .Attribute (.Name self n2) f2 a2] kk tp) (gTup K 2 (gCons (gSl K (tVar 0) f1) (gCons (gSl K (tVar 0) f2) gNil))) ∧
      swapsWithSole [.Tuple [.Attribute (.Name self n1) f1 a1, .Attribute (.Name self n2) f2 a2] kk tp] e pos.line X.env = pure false ∧ swappedStores [.Tuple [.Attribute (.Name self n1) f1 a1, .Attribute (.Name self n2) f2 a2] kk tp] e X.env = pure none ∧
      (assignEach [.Tuple [.Attribute (.Name self n1) f1 a1, .Attribute (.Name self n2) f2 a2] kk tp] X.env).map (·.2) = [assign (.Tuple [.Attribute (.Name self n1) f1 a1, .Attribute (.Name self n2) f2 a2] kk tp) X.env])
    (hN : N.length = nN := by rfl) (hP : ps.length = nP := by rfl) : FnOk P w K mg base CX0 (k + 1) f fd ps (spI ⟨K, cl⟩ c fun ds S => if ds.length + 1 = nP then init2s nN m ds S else .no) := by
  refine F.ok S (fun vs H Q E h => ?_) (fun cdv A outer s H vs Q E hr h => ?_)
  · obtain ⟨a, dx, ws, ds, α, G, S, rfl, _, _, _, _, _, _, _, r, _, hp⟩ := h
    split at hp
    · rename_i q
      dsimp only at q
      split at q
      · rename_i e
        rw [List.length_cons, ← r.length, e, hP]
      · cases q
    · exact hp.elim
  · obtain ⟨a, dx, ws, ds, α, G, S', rfl, ha, hd, ne, ma, md, ga, gd, r, hR, hp⟩ := h
    obtain ⟨he, hg, w1, w2, w3⟩ := hbody cdv A outer s H E hr
    obtain ⟨te, h1, h2⟩ := he.ex
    refine ⟨_, by rw [hb]; exact pss_one (ps_asg h1 hg w1 w2 w3), ?_⟩
    split at hp
    · rename_i fs S2 q
      dsimp only at q
      split at q
      · unfold init2s at q
        rw [show ds.length = ws.length from r.length, ← hN] at q
        refine h2 _ S' _ α G H _ (envR_self r) hR ?_
        split at q
        · rename_i dx' dy S3 qm
          cases q
          rw [qm]
          intro α' G' H' v e R rv
          unfold Rep at rv
          obtain ⟨b, xs, rfl, hq, rl⟩ := rv
          have hl := rl.length
          simp only [List.length_cons, List.length_nil] at hl
          obtain ⟨u1, u2, rfl⟩ : ∃ u1 u2, xs = [u1, u2] := by
            match xs, hl with
            | [u1, u2], _ => exact ⟨u1, u2, rfl⟩
          have ka : H' a = some (.ins (cl c) dx []) := e.fr a _ ha ma
          refine ⟨b, [u1, u2], rfl, .inl (.inl (R.sub _ _ hq)), rfl, u1, [u2], rfl, ?_⟩
          refine ⟨.ref a, rfl, a, cl c, dx, p1, [], 1, rfl, .inl ⟨ka, rfl⟩, hc, s1, u2, [], rfl, ?_⟩
          refine ⟨.ref a, rfl, a, cl c, dx, p2, _, 0, rfl, SlX.slH_slt ne, hc, s2, rfl, ?_⟩
          rw [SlX.slH_twice ne]
          have rl2 : RepL ⟨K, cl⟩ α' G' [dy, dx'] [u2, u1] := by
            unfold RepL at rl
            obtain ⟨v1, w1, e1, k1, k2⟩ := rl
            cases e1
            obtain ⟨v2, e2, k3⟩ := repL1 k2
            cases e2
            unfold RepL
            exact ⟨u2, [u1], rfl, k3, by unfold RepL; exact ⟨u1, [], rfl, k1, by simp [RepL]⟩⟩
          exact hp α' G' H' [u2, u1] e R rl2
        · cases q
      · cases q
    · exact hp.elim
end
def isObj (c : Nat) : D → Bool
  | .obj c' _ => c' == c
  | _ => false
def mMeth (c : Nat) (g : List D → Store → Res D) (m : ME) (n : MA) : ME := fun ρ S => (m ρ S).bind fun d S1 => if isObj c d then (n ρ S1).bind fun ds S2 => g (d :: ds) S2 else .no
theorem obj_at {Γ : Gm} {α : List Addr} {G H : Hp} {S : Store} {c : Nat} {d : D} {v : V} (R : Rl Γ α G S H) (h : isObj c d = true) (r : Rep Γ α G d v) : ∃ a dx vs, v = .ref a ∧ SlX.Slt H a (Γ.cl c) dx vs := by
  cases d <;> simp [isObj] at h
  subst h
  unfold Rep at r
  obtain ⟨a, vs, rfl, ho, _⟩ := r
  obtain ⟨dx, hs⟩ := obj_slt R.sub ho
  exact ⟨a, dx, _, rfl, hs⟩
section
variable {X : Cx} {cl : Nat → Addr} {E : XK} {pos apos : Pos} {o e : Expr} {es : List Expr} {f : Str} {mo : ME} {n : MA}
theorem q_meth0 {g : List D → Store → Res D} {fm : List D → Store → Res D} {k c : Nat} {fa : Addr} {pl : Sem Bool} (ho : QE X cl E o mo) (hc : SlX.SCls X.K (cl c)) (hm : Meth X.K (cl c) f fa) (F : FnR X.prog X.w X.K X.mg X.base CX0 k fa (spM ⟨X.K, cl⟩ fm)) (hr : Room k X.A)
    (hf : SndC ⟨X.K, cl⟩ E (fun vs H Q => spM ⟨X.K, cl⟩ fm vs H Q E0) g)
    (ht : eval (.Call (.Attribute o f apos) [] [] pos) X.env = (do
      let ov ← eval o X.env
      standAt apos.atName
      let (f, first) ← holding [ov] (getMethod ov f pl)
      callWith pos f first (backTo pos (starEach [] X.env)) (backToKw pos (keywordEach [] X.env))) := by rfl) :
    QE X cl E (.Call (.Attribute o f apos) [] [] pos) (mMeth c g mo mNil) := by
  obtain ⟨t, h1, h2⟩ := ho.ex
  refine ⟨_, SlX.pe_methSl0 h1 hc hm F hr pass0 ht, fun ρ S σ α G H Q hρ hR hp => h2 ρ S σ α G H _ hρ hR (post_bind hp fun d S1 α1 G1 H1 v _ e1 R1 r1 hp1 => ?_)⟩
  split at hp1
  · rename_i hi
    obtain ⟨a, dx, vs, rfl, hs⟩ := obj_at R1 hi r1
    refine ⟨a, dx, vs, rfl, hs, ?_⟩
    exact hf [d] S1 α1 G1 H1 [.ref a] Q R1 (by unfold RepL; exact ⟨.ref a, [], rfl, r1, by simp [RepL]⟩) hp1
  · exact hp1.elim
end
section
open PySem.Spec PyProof.Rows
variable {X : Cx} {CX : CXT} {g : Addr} {C : Addr} {n : Nat} {sp : Sp} {E : XK}
def rOwnX (K : PySem.W.Frag) (C : Addr) (sp : Sp) (E : XK) : R2 := fun x y H Q => ∃ a dx vs t, x = .ref a ∧ SlX.Slt H a C dx vs ∧ TyX K H y t ∧ PySem.W.notFirst K C t = true ∧ sp [x, y] H Q E
theorem op_ownX {op : CmpOp} (hop : ∀ a b, compareOp op a b = richCompare op a b) (hs : PySem.W.findIn X.K (.ref C) (cmpInfo op).2.1 = some (some (.ref g))) (hf : PySem.W.isFn X.K (.ref g) = true) (F : FnR X.prog X.w X.K X.mg X.base CX n g sp)
    (hr : Room n X.A) (hx : Passes CX X E) : OpR X (compareOp op) (rOwnX X.K C sp E) := by
  intro pins s σ H x y v u Q I rx ry h
  obtain ⟨a, dx, vs, t, rfl, ha, ht, hn, q⟩ := h
  cases (show v = Value.ref a from rx)
  obtain ⟨sl, od, _, J, _⟩ := SlX.slt_inst I ha
  obtain ⟨P, hk, hP, _⟩ := kit_of I ry ht
  obtain ⟨m, hF⟩ := I.fr
  rw [hop]
  refine PySem.W.cmp_K (op := op) (tb := t) hr.units0 hF I.ok.mod.kin J (hk.ty _ _ I.kIn hP) hn hs hf ?_
  refine wpAny_mono (wpAny_call (run_fnR (us := [.ref a, u]) (vs := [.ref a, y]) F hr hx I (.cons rfl (.cons ry .nil)) q)) (fun w s' z => ?_) fun _ _ x => x
  obtain ⟨z', H', I', rz, qz⟩ := z
  exact SlX.cmpback rz ⟨z', H', I', rz, qz⟩
end
section
variable {X : Cx} {cl : Nat → Addr} {E : XK}
def opOwn (c : Nat) (g : List D → Store → Res D) (f : D → D → Store → Res D) : D → D → Store → Res D := fun a b S => if isObj c a then (if isObj c b || isOk S b then g [a, b] S else .no) else f a b S
theorem eqO {g fm : List D → Store → Res D} {op : CmpOp} {f : D → D → Store → Res D} {k c : Nat} {fa : Addr} (hop : ∀ a b, compareOp op a b = richCompare op a b) (hs : PySem.W.findIn X.K (.ref (cl c)) (cmpInfo op).2.1 = some (some (.ref fa))) (hff : PySem.W.isFn X.K (.ref fa) = true)
    (F : FnR X.prog X.w X.K X.mg X.base CX0 k fa (spM ⟨X.K, cl⟩ fm)) (hr : Room k X.A) (hf : SndC ⟨X.K, cl⟩ E (fun vs H Q => spM ⟨X.K, cl⟩ fm vs H Q E0) g) (hn : PySem.W.notFirst X.K (cl c) (.ref (cl c)) = true) (hn2 : ∀ (S : Store) d, isOk S d = true → PySem.W.notFirst X.K (cl c) (.type (tyN d)) = true)
    (h0 : QR X cl E (compareOp op) f) : QR X cl E (compareOp op) (opOwn c g f) := by
  obtain ⟨r, h1, h2⟩ := h0.ex
  refine ⟨_, OpR.or (SlX.op_own (C := cl c) hop hs hff F hr pass0) (OpR.or (op_ownX (C := cl c) hop hs hff F hr pass0) h1), fun a b S α G H x y Q hR ra rb h => ?_⟩
  unfold opOwn at h
  split at h
  · rename_i ha
    obtain ⟨p, dx, vs, rfl, hsl⟩ := obj_at hR ha ra
    split at h
    · rename_i hb
      have call : spM ⟨X.K, cl⟩ fm [.ref p, y] H Q E0 := hf [a, b] S α G H [.ref p, y] Q hR (by unfold RepL; exact ⟨_, _, rfl, ra, by unfold RepL; exact ⟨_, _, rfl, rb, by simp [RepL]⟩⟩) h
      cases hc : isObj c b with
      | true =>
        obtain ⟨p2, dy, ws, rfl, hsl2⟩ := obj_at hR hc rb
        exact .inl ⟨p, dx, vs, p2, cl c, dy, ws, rfl, rfl, hsl, hsl2, hn, call⟩
      | false =>
        rw [hc, Bool.false_or] at hb
        exact .inr (.inl ⟨p, dx, vs, .type (tyN b), rfl, hsl, tyx_at hR rb hb, hn2 S b hb, call⟩)
    · exact h.elim
  · exact .inr (.inr (h2 a b S α G H x y Q hR ra rb h))
end
end Q
namespace Q
open PySem L2
section
open PySem.W PySem.Calls PyProof.Rows
variable {prog : Program} {w : World} {A : Around} {E : Value → Shared → Prop} {s : Shared} {K : Frag} {x C L f : Addr} {h₀ : Heap} {m : Str → Option Value} {ox : Obj} {od : Option Obj} {b tb : Value}
structure NeC (K : Frag) (C g : Addr) : Prop where
  ne : findIn K (.ref C) "__ne__" = some (some (.builtin "object.__ne__"))
  top : mroIn K C (.type "object") = some true
  eq : findIn K (.ref C) "__eq__" = some (some (.ref g))
  fn : isFn K (.ref g) = true
end
structure StaC (K : PySem.W.Frag) (C : Addr) (m : Str) (g : Addr) : Prop where
  rd : PySem.W.readsIn K C (.type "type") = true
  ga : PySem.W.specialIn K (.ref C) "__getattribute__" = some (some (.builtin "type.__getattribute__"))
  at_ : ∃ p, PySem.W.findCls K (.ref C) (.type "type") m = some (.get (.builtin "staticmethod.__get__") (.ref p) .none (.ref C)) ∧ ∃ rest, PySem.W.recIn K p "staticmethod" = some (.ref g :: rest)
  kp : PySem.W.keepIn K (.ref g) = true
section
variable {P : Program} {w : World} {K : PySem.W.Frag} {mg : Str → Option Value} {base : Heap} {CX : CXT} {k : Nat} {f : Addr} {sp : Sp} {fd : FuncData} {ps : List Str}
theorem raw0 (F : FnOk P w K mg base CX k f fd ps sp) (hb : Binds K fd ps []) : FnR P w K mg base CX k f sp := (F.raw hb .nil).imp fun vs H Q E h => by rw [List.append_nil]; exact h
end
end Q
namespace Q
open PySem L2
def Res.Sat {β : Type} (r : Res β) (P : β → Store → Prop) : Prop := match r with
  | .ok a S => P a S
  | _ => False
section
variable {β γ δ : Type} {P : β → Store → Prop} {Q : γ → Store → Prop}
@[simp] theorem sat_ok (a : β) (S : Store) : (Res.ok a S).Sat P = P a S := rfl
@[simp] theorem sat_no : (Res.no : Res β).Sat P = False := rfl
@[simp] theorem sat_ex (e : Exn) (S : Store) : (Res.ex e S : Res β).Sat P = False := rfl
theorem sat_step {r : Res γ} {K : γ → Store → Res β} (h : r.Sat Q) (k : ∀ a S, Q a S → (K a S).Sat P) : (r.bind K).Sat P := by
  cases r with
  | ok a S => exact k a S h
  | ex e S => exact h.elim
  | no => exact h.elim
theorem Res.Sat.mono {r : Res β} {P' : β → Store → Prop} (h : r.Sat P) (k : ∀ a S, P a S → P' a S) : r.Sat P' := by
  cases r with
  | ok a S => exact k a S h
  | ex e S => exact h.elim
  | no => exact h.elim
theorem sat_eq {r : Res β} (h : r.Sat P) : ∃ a S, r = .ok a S ∧ P a S := by
  cases r with
  | ok a S => exact ⟨a, S, rfl, h⟩
  | ex e S => exact h.elim
  | no => exact h.elim
theorem sat_of {r : Res β} {a : β} {S : Store} (e : r = .ok a S) (h : P a S) : r.Sat P := by rw [e]; exact h
def compK (k1 : β → Store → Res γ) (k2 : γ → Store → Res δ) : β → Store → Res δ := fun a S => (k1 a S).bind k2
@[simp] theorem compK_ap (k1 : β → Store → Res γ) (k2 : γ → Store → Res δ) (a : β) (S : Store) : compK k1 k2 a S = (k1 a S).bind k2 := rfl
@[simp] theorem bind_flat (r : Res β) (k1 : β → Store → Res γ) (k2 : γ → Store → Res δ) : (r.bind k1).bind k2 = r.bind (compK k1 k2) := by cases r <;> rfl
@[simp] theorem nox_sat (r : Res β) : (nox r).Sat P = r.Sat P := by cases r <;> rfl
@[simp] theorem nox_bind_sat (r : Res γ) (K : γ → Store → Res β) : ((nox r).bind K).Sat P = (r.bind K).Sat P := by cases r <;> rfl
end
section
variable {ρ : Env} {S : Store}
def varK (o : Option (Option D)) (S : Store) : Res D := match o with | some (some d) => .ok d S | _ => .no
@[simp] theorem varK_some (d : D) : varK (some (some d)) S = .ok d S := rfl
@[simp] theorem ap_var (i : Nat) : mVar i ρ S = varK ρ[i]? S := rfl
@[simp] theorem ap_c (d : D) : mC d ρ S = .ok d S := rfl
def opK (f : D → D → Store → Res D) (mb : ME) (ρ : Env) : D → Store → Res D := fun x S1 => (mb ρ S1).bind (f x)
@[simp] theorem opK_ap (f : D → D → Store → Res D) (mb : ME) (x : D) : opK f mb ρ x S = (mb ρ S).bind (f x) := rfl
@[simp] theorem ap_op (f : D → D → Store → Res D) (ma mb : ME) : mOp f ma mb ρ S = (ma ρ S).bind (opK f mb ρ) := rfl
def tstK (d : D) (S : Store) : Res Bool := oRes (truth S d) S
@[simp] theorem tstK_ap (d : D) : tstK d S = oRes (truth S d) S := rfl
@[simp] theorem ap_test (m : ME) : mTest m ρ S = (m ρ S).bind tstK := rfl
def asB (d : D) (S : Store) : Res Bool := match d with | .bl b => .ok b S | _ => .no
@[simp] theorem asB_bl (b : Bool) : asB (.bl b) S = .ok b S := rfl
@[simp] theorem ap_tb (m : ME) : mTB m ρ S = (m ρ S).bind asB := rfl
def notK (b : Bool) (S : Store) : Res Bool := .ok (!b) S
@[simp] theorem notK_ap (b : Bool) : notK b S = .ok (!b) S := rfl
@[simp] theorem ap_notT (m : MT) : mNotT m ρ S = (m ρ S).bind notK := rfl
def br {β : Type} (b : Bool) (x y : β) : β := match b with | true => x | false => y
@[simp] theorem br_t {β : Type} (x y : β) : br true x y = x := rfl
@[simp] theorem br_f {β : Type} (x y : β) : br false x y = y := rfl
def andK (n : MT) (ρ : Env) (b : Bool) (S : Store) : Res Bool := br b (n ρ S) (.ok false S)
def orK (n : MT) (ρ : Env) (b : Bool) (S : Store) : Res Bool := br b (.ok true S) (n ρ S)
@[simp] theorem andK_t (n : MT) : andK n ρ true S = n ρ S := rfl
@[simp] theorem andK_f (n : MT) : andK n ρ false S = .ok false S := rfl
@[simp] theorem orK_t (n : MT) : orK n ρ true S = .ok true S := rfl
@[simp] theorem orK_f (n : MT) : orK n ρ false S = n ρ S := rfl
@[simp] theorem ap_andT (m n : MT) : mAndT m n ρ S = (m ρ S).bind (andK n ρ) := rfl
@[simp] theorem ap_orT (m n : MT) : mOrT m n ρ S = (m ρ S).bind (orK n ρ) := rfl
def andVK2 (n : ME) (ρ : Env) (d : D) (b : Bool) (S : Store) : Res D := br b (n ρ S) (.ok d S)
def orVK2 (n : ME) (ρ : Env) (d : D) (b : Bool) (S : Store) : Res D := br b (.ok d S) (n ρ S)
def andVK (n : ME) (ρ : Env) (d : D) (S : Store) : Res D := (oRes (truth S d) S).bind (andVK2 n ρ d)
def orVK (n : ME) (ρ : Env) (d : D) (S : Store) : Res D := (oRes (truth S d) S).bind (orVK2 n ρ d)
@[simp] theorem andVK2_t (n : ME) (d : D) : andVK2 n ρ d true S = n ρ S := rfl
@[simp] theorem andVK2_f (n : ME) (d : D) : andVK2 n ρ d false S = .ok d S := rfl
@[simp] theorem orVK2_t (n : ME) (d : D) : orVK2 n ρ d true S = .ok d S := rfl
@[simp] theorem orVK2_f (n : ME) (d : D) : orVK2 n ρ d false S = n ρ S := rfl
@[simp] theorem andVK_ap (n : ME) (d : D) : andVK n ρ d S = (oRes (truth S d) S).bind (andVK2 n ρ d) := rfl
@[simp] theorem orVK_ap (n : ME) (d : D) : orVK n ρ d S = (oRes (truth S d) S).bind (orVK2 n ρ d) := rfl
@[simp] theorem ap_andV (m n : ME) : mAndV m n ρ S = (m ρ S).bind (andVK n ρ) := rfl
@[simp] theorem ap_orV (m n : ME) : mOrV m n ρ S = (m ρ S).bind (orVK n ρ) := rfl
def notVK2 (b : Bool) (S : Store) : Res D := .ok (.bl (!b)) S
@[simp] theorem notVK2_ap (b : Bool) : notVK2 b S = .ok (.bl (!b)) S := rfl
def notVK (d : D) (S : Store) : Res D := (oRes (truth S d) S).bind notVK2
@[simp] theorem notVK_ap (d : D) : notVK d S = (oRes (truth S d) S).bind notVK2 := rfl
@[simp] theorem ap_notV (m : ME) : mNotV m ρ S = (m ρ S).bind notVK := rfl
def ifEK (m n : ME) (ρ : Env) (b : Bool) (S : Store) : Res D := br b (m ρ S) (n ρ S)
@[simp] theorem ifEK_t (m n : ME) : ifEK m n ρ true S = m ρ S := rfl
@[simp] theorem ifEK_f (m n : ME) : ifEK m n ρ false S = n ρ S := rfl
@[simp] theorem ap_ifE (t : MT) (m n : ME) : mIfE t m n ρ S = (t ρ S).bind (ifEK m n ρ) := rfl
def isNK (d : D) (S : Store) : Res D := .ok (.bl (isNon d)) S
@[simp] theorem isNK_ap (d : D) : isNK d S = .ok (.bl (isNon d)) S := rfl
@[simp] theorem ap_isN (m : ME) : mIsN m ρ S = (m ρ S).bind isNK := rfl
@[simp] theorem ap_nil : mNil ρ S = .ok [] S := rfl
def consK2 (d : D) (ds : List D) (S : Store) : Res (List D) := .ok (d :: ds) S
@[simp] theorem consK2_ap (d : D) (ds : List D) : consK2 d ds S = .ok (d :: ds) S := rfl
def consK (n : MA) (ρ : Env) (d : D) (S : Store) : Res (List D) := (n ρ S).bind (consK2 d)
@[simp] theorem consK_ap (n : MA) (d : D) : consK n ρ d S = (n ρ S).bind (consK2 d) := rfl
@[simp] theorem ap_cons (m : ME) (n : MA) : mCons m n ρ S = (m ρ S).bind (consK n ρ) := rfl
def tupK (ds : List D) (S : Store) : Res D := if ds.length ≤ 100000 then .ok (.tup ds) S else .no
def lstK (ds : List D) (S : Store) : Res D := if ds.length ≤ 100000 then .ok (.lst ds) S else .no
def cellK (ds : List D) (S : Store) : Res D := if ds.length ≤ 100000 then .ok (.ref S.length) (S ++ [.lst ds]) else .no
@[simp] theorem tupK_ap (ds : List D) : tupK ds S = if ds.length ≤ 100000 then .ok (.tup ds) S else .no := rfl
@[simp] theorem lstK_ap (ds : List D) : lstK ds S = if ds.length ≤ 100000 then .ok (.lst ds) S else .no := rfl
@[simp] theorem cellK_ap (ds : List D) : cellK ds S = if ds.length ≤ 100000 then .ok (.ref S.length) (S ++ [.lst ds]) else .no := rfl
@[simp] theorem ap_tup (n : MA) : mTup n ρ S = (n ρ S).bind tupK := rfl
@[simp] theorem ap_lst (n : MA) : mLst n ρ S = (n ρ S).bind lstK := rfl
@[simp] theorem ap_cell (n : MA) : mCell n ρ S = (n ρ S).bind cellK := rfl
@[simp] theorem ap_frz (m : ME) : mFrz m ρ S = (m ρ S).bind fz := rfl
@[simp] theorem fz_int (i : Int) : fz (.int i) S = .ok (.int i) S := rfl
@[simp] theorem fz_bl (i : Bool) : fz (.bl i) S = .ok (.bl i) S := rfl
@[simp] theorem fz_tup (i : List D) : fz (.tup i) S = .ok (.tup i) S := rfl
@[simp] theorem fz_lst (i : List D) : fz (.lst i) S = .ok (.lst i) S := rfl
@[simp] theorem fz_non : fz .non S = .ok .non S := rfl
theorem fz_ref {k : Nat} {xs : List D} (h : S[k]? = some (.lst xs)) : fz (.ref k) S = .ok (.lst xs) (S.set k (.frz xs)) := by simp [fz, h]
def slK (d : D) (lo hi : Option Int) (S : Store) : Res D := opSl d lo hi S
@[simp] theorem slK_ap (d : D) (lo hi : Option Int) : slK d lo hi S = opSl d lo hi S := rfl
def slK2 (h : MO) (ρ : Env) (d : D) (lo : Option Int) (S : Store) : Res D := (h ρ S).bind (slK d lo)
@[simp] theorem slK2_ap (h : MO) (d : D) (lo : Option Int) : slK2 h ρ d lo S = (h ρ S).bind (slK d lo) := rfl
def slK1 (l h : MO) (ρ : Env) (d : D) (S : Store) : Res D := (l ρ S).bind (slK2 h ρ d)
@[simp] theorem slK1_ap (l h : MO) (d : D) : slK1 l h ρ d S = (l ρ S).bind (slK2 h ρ d) := rfl
@[simp] theorem ap_sl (m : ME) (l h : MO) : mSl m l h ρ S = (m ρ S).bind (slK1 l h ρ) := rfl
@[simp] theorem ap_noO : mNoO ρ S = .ok none S := rfl
def asI (d : D) (S : Store) : Res (Option Int) := match d with | .int i => .ok (some i) S | _ => .no
@[simp] theorem asI_int (i : Int) : asI (.int i) S = .ok (some i) S := rfl
@[simp] theorem ap_soO (m : ME) : mSoO m ρ S = (m ρ S).bind asI := rfl
@[simp] theorem ap_call (f : List D → Store → Res D) (n : MA) : mCall f n ρ S = (n ρ S).bind f := rfl
def ckK2 (g : List D → Store → Res D) (i j : Nat) (idx : List Nat) (ds zs : List D) (S : Store) : Res D := if ds.length = i ∧ zs.length = j then g (place idx (ds ++ zs)) S else .no
@[simp] theorem ckK2_ap (g : List D → Store → Res D) (i j : Nat) (idx : List Nat) (ds zs : List D) : ckK2 g i j idx ds zs S = if ds.length = i ∧ zs.length = j then g (place idx (ds ++ zs)) S else .no := rfl
def ckK (g : List D → Store → Res D) (i j : Nat) (idx : List Nat) (nk : MA) (ρ : Env) (ds : List D) (S : Store) : Res D := (nk ρ S).bind (ckK2 g i j idx ds)
@[simp] theorem ckK_ap (g : List D → Store → Res D) (i j : Nat) (idx : List Nat) (nk : MA) (ds : List D) : ckK g i j idx nk ρ ds S = (nk ρ S).bind (ckK2 g i j idx ds) := rfl
@[simp] theorem ap_callK (g : List D → Store → Res D) (i j : Nat) (idx : List Nat) (n nk : MA) : mCallK g i j idx n nk ρ S = (n ρ S).bind (ckK g i j idx nk ρ) := rfl
def isiK (T : Ty) (d : D) (S : Store) : Res D := if isOk S d then .ok (.bl (isTy T d)) S else .no
def isiK2 (T U : Ty) (d : D) (S : Store) : Res D := if isOk S d then .ok (.bl (isTy T d || isTy U d)) S else .no
@[simp] theorem isiK_ap (T : Ty) (d : D) : isiK T d S = if isOk S d then .ok (.bl (isTy T d)) S else .no := rfl
@[simp] theorem isiK2_ap (T U : Ty) (d : D) : isiK2 T U d S = if isOk S d then .ok (.bl (isTy T d || isTy U d)) S else .no := rfl
@[simp] theorem ap_isi (T : Ty) (m : ME) : mIsi T m ρ S = (m ρ S).bind (isiK T) := rfl
@[simp] theorem ap_isi2 (T U : Ty) (m : ME) : mIsi2 T U m ρ S = (m ρ S).bind (isiK2 T U) := rfl
def chK3 (f' : D → D → Store → Res D) (mc : ME) (ρ : Env) (y z : D) (S : Store) : Res D := match z with
  | .bl true => (mc ρ S).bind (f' y)
  | .bl false => .ok (.bl false) S
  | _ => .no
@[simp] theorem chK3_t (f' : D → D → Store → Res D) (mc : ME) (y : D) : chK3 f' mc ρ y (.bl true) S = (mc ρ S).bind (f' y) := rfl
@[simp] theorem chK3_f (f' : D → D → Store → Res D) (mc : ME) (y : D) : chK3 f' mc ρ y (.bl false) S = .ok (.bl false) S := rfl
def chK2 (f f' : D → D → Store → Res D) (mc : ME) (ρ : Env) (x y : D) (S : Store) : Res D := (f x y S).bind (chK3 f' mc ρ y)
@[simp] theorem chK2_ap (f f' : D → D → Store → Res D) (mc : ME) (x y : D) : chK2 f f' mc ρ x y S = (f x y S).bind (chK3 f' mc ρ y) := rfl
def chK1 (f f' : D → D → Store → Res D) (mb mc : ME) (ρ : Env) (x : D) (S : Store) : Res D := (mb ρ S).bind (chK2 f f' mc ρ x)
@[simp] theorem chK1_ap (f f' : D → D → Store → Res D) (mb mc : ME) (x : D) : chK1 f f' mb mc ρ x S = (mb ρ S).bind (chK2 f f' mc ρ x) := rfl
@[simp] theorem ap_chain (f f' : D → D → Store → Res D) (ma mb mc : ME) : mChain f f' ma mb mc ρ S = (ma ρ S).bind (chK1 f f' mb mc ρ) := rfl
@[simp] theorem ap_skip : mSkip ρ S = .ok (.nx ρ) S := rfl
def seqK (n' : MS) (f : Fl) (S : Store) : Res Fl := match f with | .nx ρ1 => n' ρ1 S | f => .ok f S
@[simp] theorem seqK_nx (n' : MS) : seqK n' (.nx ρ) S = n' ρ S := rfl
@[simp] theorem seqK_rt (n' : MS) (d : D) : seqK n' (.rt d) S = .ok (.rt d) S := rfl
@[simp] theorem seqK_bk (n' : MS) : seqK n' (.bk ρ) S = .ok (.bk ρ) S := rfl
@[simp] theorem seqK_ct (n' : MS) : seqK n' (.ct ρ) S = .ok (.ct ρ) S := rfl
@[simp] theorem ap_seq (n n' : MS) : mSeq n n' ρ S = (n ρ S).bind (seqK n') := rfl
def nxK {β : Type} (ρ : Env) (_ : β) (S : Store) : Res Fl := .ok (.nx ρ) S
@[simp] theorem nxK_ap {β : Type} (d : β) : nxK ρ d S = .ok (.nx ρ) S := rfl
@[simp] theorem ap_drop (m : ME) : mDrop m ρ S = (m ρ S).bind (nxK ρ) := rfl
def rtK (d : D) (S : Store) : Res Fl := .ok (.rt d) S
@[simp] theorem rtK_ap (d : D) : rtK d S = .ok (.rt d) S := rfl
@[simp] theorem ap_ret (m : ME) : mRet m ρ S = (m ρ S).bind rtK := rfl
def ifK (n n' : MS) (ρ : Env) (b : Bool) (S : Store) : Res Fl := br b (n ρ S) (n' ρ S)
@[simp] theorem ifK_t (n n' : MS) : ifK n n' ρ true S = n ρ S := rfl
@[simp] theorem ifK_f (n n' : MS) : ifK n n' ρ false S = n' ρ S := rfl
@[simp] theorem ap_if (t : MT) (n n' : MS) : mIf t n n' ρ S = (t ρ S).bind (ifK n n' ρ) := rfl
def asgK2 (ρ1 : Env) (S : Store) : Res Fl := .ok (.nx ρ1) S
@[simp] theorem asgK2_ap (ρ1 : Env) : asgK2 ρ1 S = .ok (.nx ρ1) S := rfl
def asgK (g : MG) (ρ : Env) (d : D) (S : Store) : Res Fl := (g d ρ S).bind asgK2
@[simp] theorem asgK_ap (g : MG) (d : D) : asgK g ρ d S = (g d ρ S).bind asgK2 := rfl
@[simp] theorem ap_asg (m : ME) (g : MG) : mAsg m g ρ S = (m ρ S).bind (asgK g ρ) := rfl
@[simp] theorem ap_gN (i : Nat) (d : D) : mgN i d ρ S = .ok (ρ.set i (some d)) S := rfl
@[simp] theorem ap_gNil : mgNil [] ρ S = .ok ρ S := rfl
def gconsK (gs : MGs) (ds : List D) (ρ : Env) (S : Store) : Res Env := gs ds ρ S
@[simp] theorem gconsK_ap (gs : MGs) (ds : List D) : gconsK gs ds ρ S = gs ds ρ S := rfl
@[simp] theorem ap_gCons (g : MG) (gs : MGs) (d : D) (ds : List D) : mgCons g gs (d :: ds) ρ S = (g d ρ S).bind (gconsK gs ds) := rfl
@[simp] theorem ap_gTup (k : Nat) (gs : MGs) (ds : List D) : mgTup k gs (.tup ds) ρ S = if ds.length = k then gs ds ρ S else .no := rfl
@[simp] theorem ap_gTupL (k : Nat) (gs : MGs) (ds : List D) : mgTup k gs (.lst ds) ρ S = if ds.length = k then gs ds ρ S else .no := rfl
def okK {β γ : Type} (a : β) (_ : γ) (S : Store) : Res β := .ok a S
@[simp] theorem okK_ap {β γ : Type} (a : β) (z : γ) : okK a z S = .ok a S := rfl
def gsubK2 (ρ : Env) (d o i : D) (S : Store) : Res Env := (setIx o i d S).bind (okK ρ)
@[simp] theorem gsubK2_ap (d o i : D) : gsubK2 ρ d o i S = (setIx o i d S).bind (okK ρ) := rfl
def gsubK (mi : ME) (ρ : Env) (d o : D) (S : Store) : Res Env := (mi ρ S).bind (gsubK2 ρ d o)
@[simp] theorem gsubK_ap (mi : ME) (d o : D) : gsubK mi ρ d o S = (mi ρ S).bind (gsubK2 ρ d o) := rfl
@[simp] theorem ap_gSub (mo mi : ME) (d : D) : mgSub mo mi d ρ S = (mo ρ S).bind (gsubK mi ρ d) := rfl
def parK (i j : Nat) (ρ : Env) (ds : List D) (S : Store) : Res Fl := match ds with | [d, d'] => .ok (.nx ((ρ.set i (some d)).set j (some d'))) S | _ => .no
@[simp] theorem parK_2 (i j : Nat) (d d' : D) : parK i j ρ [d, d'] S = .ok (.nx ((ρ.set i (some d)).set j (some d'))) S := rfl
@[simp] theorem ap_par (i j : Nat) (n : MA) : mPar i j n ρ S = (n ρ S).bind (parK i j ρ) := rfl
def appK (m : ME) (ρ : Env) (o : D) (S : Store) : Res D := match o with | .ref k => if notOb S k = true then (m ρ S).bind (appTo k) else .no | _ => .no
@[simp] theorem appK_ref (m : ME) (k : Nat) (h : notOb S k = true) : appK m ρ (.ref k) S = (m ρ S).bind (appTo k) := by show (if notOb S k = true then _ else _) = _; rw [if_pos h]
theorem notOb_lst {k : Nat} {xs : List D} (h : S[k]? = some (.lst xs)) : notOb S k = true := by unfold notOb; rw [h]
@[simp] theorem notOb_0 (xs : List D) (T : Store) : notOb (.lst xs :: T) 0 = true := (Eq.refl _).trans rfl
@[simp] theorem notOb_S (c : Cell) (T : Store) (k : Nat) : notOb (c :: T) (k + 1) = notOb T k := (Eq.refl _).trans rfl
@[simp] theorem ap_app (mo m : ME) : mApp mo m ρ S = (mo ρ S).bind (appK m ρ) := rfl
theorem appTo_ok {k : Nat} {xs : List D} (d : D) (h : S[k]? = some (.lst xs)) (hl : xs.length < 100000) : appTo k d S = .ok .non (S.set k (.lst (xs ++ [d]))) := by simp [appTo, h, hl]
@[simp] theorem ap_items (m : ME) : mItems m ρ S = (m ρ S).bind itemsOf := rfl
@[simp] theorem items_tup (xs : List D) : itemsOf (.tup xs) S = .ok xs S := rfl
@[simp] theorem items_lst (xs : List D) : itemsOf (.lst xs) S = .ok xs S := rfl
@[simp] theorem items_fro (xs : List D) : itemsOf (.fro xs) S = .ok xs S := rfl
@[simp] theorem ap_zip (n : MA) : mZip n ρ S = (n ρ S).bind zipItems := rfl
@[simp] theorem zip_tup (xs ys : List D) : zipItems [.tup xs, .tup ys] S = .ok (zipD xs ys) S := rfl
@[simp] theorem zip_lst (xs ys : List D) : zipItems [.lst xs, .lst ys] S = .ok (zipD xs ys) S := rfl
def enumK (d : D) (S : Store) : Res (List D) := match d with | .lst xs => .ok (enumD 0 xs) S | .fro xs => .ok (enumD 0 xs) S | _ => .no
@[simp] theorem enumK_lst (xs : List D) : enumK (.lst xs) S = .ok (enumD 0 xs) S := rfl
@[simp] theorem enumK_fro (xs : List D) : enumK (.fro xs) S = .ok (enumD 0 xs) S := rfl
@[simp] theorem ap_enum (m : ME) : mEnum m ρ S = (m ρ S).bind enumK := rfl
def r1K (d : D) (S : Store) : Res (List D) := match d with | .int j => if j.natAbs < 2 ^ 62 then .ok (rangeD 0 j.toNat) S else .no | _ => .no
theorem r1K_int (j : Int) : r1K (.int j) S = if j.natAbs < 2 ^ 62 then .ok (rangeD 0 j.toNat) S else .no := rfl
theorem r1K_nat (j : Nat) (h : j < 2 ^ 60) : r1K (.int (j : Nat)) S = .ok (rangeD 0 j) S := by
  have h2 : (j : Int).natAbs < 2 ^ 62 := by omega
  rw [r1K_int, if_pos h2, Int.toNat_natCast]
@[simp] theorem ap_r1 (m : ME) : mRange1 m ρ S = (m ρ S).bind r1K := rfl
def forIK (g : MG) (b : MS) (ρ : Env) (ds : List D) (S : Store) : Res Fl := forL g b ds ρ S
@[simp] theorem forIK_ap (g : MG) (b : MS) (ds : List D) : forIK g b ρ ds S = forL g b ds ρ S := rfl
@[simp] theorem ap_for (mi : MA) (g : MG) (b : MS) : mFor mi g b ρ S = (mi ρ S).bind (forIK g b ρ) := rfl
def lcK2 (xs : List D) (S : Store) : Res D := .ok (.lst xs) S
@[simp] theorem lcK2_ap (xs : List D) : lcK2 xs S = .ok (.lst xs) S := rfl
def lcCK2 (xs : List D) (S : Store) : Res D := .ok (.ref S.length) (S ++ [.lst xs])
@[simp] theorem lcCK2_ap (xs : List D) : lcCK2 xs S = .ok (.ref S.length) (S ++ [.lst xs]) := rfl
def lcK (g : MG) (t : MT) (m : ME) (vs : List Nat) (ρ : Env) (ds : List D) (S : Store) : Res D := if ds.length ≤ 100000 then (lcL g t m (wp ρ vs) ds S).bind lcK2 else .no
def lcCK (g : MG) (t : MT) (m : ME) (vs : List Nat) (ρ : Env) (ds : List D) (S : Store) : Res D := if ds.length ≤ 100000 then (lcL g t m (wp ρ vs) ds S).bind lcCK2 else .no
@[simp] theorem lcK_ap (g : MG) (t : MT) (m : ME) (vs : List Nat) (ds : List D) : lcK g t m vs ρ ds S = if ds.length ≤ 100000 then (lcL g t m (wp ρ vs) ds S).bind lcK2 else .no := rfl
@[simp] theorem lcCK_ap (g : MG) (t : MT) (m : ME) (vs : List Nat) (ds : List D) : lcCK g t m vs ρ ds S = if ds.length ≤ 100000 then (lcL g t m (wp ρ vs) ds S).bind lcCK2 else .no := rfl
@[simp] theorem ap_lc (mi : MA) (g : MG) (t : MT) (m : ME) (vs : List Nat) : mLc mi g t m vs ρ S = (mi ρ S).bind (lcK g t m vs ρ) := rfl
@[simp] theorem ap_lcC (mi : MA) (g : MG) (t : MT) (m : ME) (vs : List Nat) : mLcC mi g t m vs ρ S = (mi ρ S).bind (lcCK g t m vs ρ) := rfl
@[simp] theorem ap_yes : mYes ρ S = .ok true S := rfl
@[simp] theorem wp_nil : wp ρ [] = ρ := rfl
@[simp] theorem wp_cons (v : Nat) (vs : List Nat) : wp ρ (v :: vs) = (wp ρ vs).set v none := rfl
@[simp] theorem addI_int (i j : Int) : opAddI (.int i) (.int j) S = .ok (.int (i + j)) S := rfl
@[simp] theorem add_int (i j : Int) : opAdd (.int i) (.int j) S = .ok (.int (i + j)) S := rfl
@[simp] theorem add_lst (xs ys : List D) : opAdd (.lst xs) (.lst ys) S = if xs.length + ys.length ≤ 100000 then .ok (.lst (xs ++ ys)) S else .no := rfl
@[simp] theorem add_tup (xs ys : List D) : opAdd (.tup xs) (.tup ys) S = if xs.length + ys.length ≤ 100000 then .ok (.tup (xs ++ ys)) S else .no := rfl
@[simp] theorem sub_int (i j : Int) : opSubI (.int i) (.int j) S = .ok (.int (i - j)) S := rfl
@[simp] theorem mul_intD (i j : Int) : opMul (.int i) (.int j) S = if mulOk i j = true then .ok (.int (i * j)) S else .no := by
  unfold opMul opMulI fI opRep opRepT
  by_cases h : mulOk i j = true <;> simp [h, lstOf]
@[simp] theorem div_int (i j : Int) : opDivI (.int i) (.int j) S = if divOk i j = true then .ok (.int (i / j)) S else .no := rfl
@[simp] theorem mod_int (i j : Int) : opModI (.int i) (.int j) S = if modOk i j = true then .ok (.int (i % j)) S else .no := rfl
@[simp] theorem pow_int (i j : Int) : opPowI (.int i) (.int j) S = if powOk i j = true then .ok (.int (i ^ j.toNat)) S else .no := rfl
@[simp] theorem lt_int (i j : Int) : opLt (.int i) (.int j) S = .ok (.bl (decide (i < j))) S := rfl
@[simp] theorem le_int (i j : Int) : opLe (.int i) (.int j) S = .ok (.bl (decide (i ≤ j))) S := rfl
@[simp] theorem gt_int (i j : Int) : opGt (.int i) (.int j) S = .ok (.bl (decide (j < i))) S := rfl
@[simp] theorem ge_int (i j : Int) : opGe (.int i) (.int j) S = .ok (.bl (decide (j ≤ i))) S := rfl
@[simp] theorem eq_intD (i j : Int) : opEq (.int i) (.int j) S = .ok (.bl (decide (i = j))) S := rfl
@[simp] theorem ne_intD (i j : Int) : opNe (.int i) (.int j) S = .ok (.bl (!decide (i = j))) S := rfl
@[simp] theorem eq_blD (i j : Bool) : opEq (.bl i) (.bl j) S = .ok (.bl (decide (i = j))) S := by cases i <;> cases j <;> rfl
@[simp] theorem ne_blD (i j : Bool) : opNe (.bl i) (.bl j) S = .ok (.bl (!decide (i = j))) S := by cases i <;> cases j <;> rfl
@[simp] theorem eq_strD (i j : Str) : opEq (.str i) (.str j) S = .ok (.bl (decide (i = j))) S := rfl
@[simp] theorem ix_tupD (xs : List D) (i : Int) : opIx (.tup xs) (.int i) S = oRes (atI xs i) S := rfl
@[simp] theorem ix_lstD (xs : List D) (i : Int) : opIx (.lst xs) (.int i) S = oRes (atI xs i) S := rfl
@[simp] theorem ix_froD (xs : List D) (i : Int) : opIx (.fro xs) (.int i) S = oRes (atI xs i) S := rfl
theorem ix_refD {k : Nat} {xs : List D} (i : Int) (h : S[k]? = some (.lst xs)) : opIx (.ref k) (.int i) S = oRes (atI xs i) S := by simp [opIx, rdL, lstOf, h]
theorem atI_get {α : Type} {xs : List α} {i : Nat} {x : α} (h : xs[i]? = some x) : atI xs (i : Int) = some x := by
  have hl := (List.getElem?_eq_some_iff.mp h).1
  unfold atI ixN
  rw [if_pos (by omega), if_pos (by omega)]
  simpa using h
@[simp] theorem atI_0 {α : Type} (x : α) (xs : List α) : atI (x :: xs) 0 = some x := by
  have h : (0 : Int) < (x :: xs).length := by simp
  simp [atI, ixN]
@[simp] theorem atI_1 {α : Type} (x y : α) (xs : List α) : atI (x :: y :: xs) 1 = some y := by
  exact atI_get (i := 1) rfl
@[simp] theorem atI_2 {α : Type} (x y z : α) (xs : List α) : atI (x :: y :: z :: xs) 2 = some z := by
  exact atI_get (i := 2) rfl
@[simp] theorem sl_tupD (xs : List D) (lo hi : Option Int) : opSl (.tup xs) lo hi S = .ok (.tup (cutD xs lo hi)) S := rfl
@[simp] theorem sl_lstD (xs : List D) (lo hi : Option Int) : opSl (.lst xs) lo hi S = .ok (.lst (cutD xs lo hi)) S := rfl
@[simp] theorem sl_froD (xs : List D) (lo hi : Option Int) : opSl (.fro xs) lo hi S = .ok (.lst (cutD xs lo hi)) S := rfl
@[simp] theorem truth_bl (b : Bool) : truth S (.bl b) = some b := (Eq.refl _).trans rfl
@[simp] theorem truth_int (b : Int) : truth S (.int b) = some (b != 0) := (Eq.refl _).trans rfl
@[simp] theorem truth_non : truth S .non = some false := (Eq.refl _).trans rfl
@[simp] theorem truth_tup (xs : List D) : truth S (.tup xs) = some (!xs.isEmpty) := (Eq.refl _).trans rfl
@[simp] theorem truth_lst (xs : List D) : truth S (.lst xs) = some (!xs.isEmpty) := (Eq.refl _).trans rfl
theorem truth_ref {k : Nat} {xs : List D} (h : S[k]? = some (.lst xs)) : truth S (.ref k) = some (!xs.isEmpty) := by simp [truth, rdL, lstOf, h]
@[simp] theorem len_tup (xs : List D) : fLen [.tup xs] S = .ok (.int xs.length) S := rfl
@[simp] theorem len_lst (xs : List D) : fLen [.lst xs] S = .ok (.int xs.length) S := rfl
@[simp] theorem len_fro (xs : List D) : fLen [.fro xs] S = .ok (.int xs.length) S := rfl
@[simp] theorem abs_int (i : Int) : fAbs [.int i] S = .ok (.int (if i < 0 then -i else i)) S := rfl
@[simp] theorem int_int (i : Int) : fInt [.int i] S = .ok (.int i) S := rfl
@[simp] theorem int_bl (i : Bool) : fInt [.bl i] S = .ok (.int (if i then 1 else 0)) S := rfl
@[simp] theorem tuple_lst (xs : List D) : fTuple [.lst xs] S = .ok (.tup xs) S := rfl
@[simp] theorem tuple_tup (xs : List D) : fTuple [.tup xs] S = .ok (.tup xs) S := rfl
@[simp] theorem listC_lst (xs : List D) : fListC [.lst xs] S = .ok (.ref S.length) (S ++ [.lst xs]) := rfl
@[simp] theorem listC_tup (xs : List D) : fListC [.tup xs] S = .ok (.ref S.length) (S ++ [.lst xs]) := rfl
theorem all_lst {xs : List D} {bs : List Bool} (h : boolsD xs = some bs) : fAll [.lst xs] S = .ok (.bl (bs.all id)) S := by simp [fAll, onBools, un1, rdL, lstOf, h]
@[simp] theorem isOk_non : isOk S .non = true := (Eq.refl _).trans rfl
@[simp] theorem isOk_bl (b : Bool) : isOk S (.bl b) = true := (Eq.refl _).trans rfl
@[simp] theorem isOk_int (b : Int) : isOk S (.int b) = true := (Eq.refl _).trans rfl
@[simp] theorem isOk_str (b : Str) : isOk S (.str b) = true := (Eq.refl _).trans rfl
@[simp] theorem isOk_tup (b : List D) : isOk S (.tup b) = true := (Eq.refl _).trans rfl
@[simp] theorem isOk_lst (b : List D) : isOk S (.lst b) = true := (Eq.refl _).trans rfl
@[simp] theorem isNon_non : isNon .non = true := (Eq.refl _).trans rfl
@[simp] theorem isNon_bl (b : Bool) : isNon (.bl b) = false := (Eq.refl _).trans rfl
@[simp] theorem isNon_int (b : Int) : isNon (.int b) = false := (Eq.refl _).trans rfl
@[simp] theorem isNon_str (b : Str) : isNon (.str b) = false := (Eq.refl _).trans rfl
@[simp] theorem isNon_tup (b : List D) : isNon (.tup b) = false := (Eq.refl _).trans rfl
@[simp] theorem isNon_lst (b : List D) : isNon (.lst b) = false := (Eq.refl _).trans rfl
end
@[simp] theorem ap_fld (c i : Nat) (m : ME) : mFld c i m ρ S = (m ρ S).bind (fldD c i) := rfl
@[simp] theorem fld_obj (c i : Nat) (fs : List D) : fldD c i (.obj c fs) S = oRes fs[i]? S := by simp [fldD]
def methK2 (g : List D → Store → Res D) (d : D) (ds : List D) (S : Store) : Res D := g (d :: ds) S
@[simp] theorem methK2_ap (g : List D → Store → Res D) (d : D) (ds : List D) : methK2 g d ds S = g (d :: ds) S := rfl
def methK (c : Nat) (g : List D → Store → Res D) (n : MA) (ρ : Env) (d : D) (S : Store) : Res D := if isObj c d then (n ρ S).bind (methK2 g d) else .no
@[simp] theorem methK_ap (c : Nat) (g : List D → Store → Res D) (n : MA) (d : D) : methK c g n ρ d S = if isObj c d then (n ρ S).bind (methK2 g d) else .no := rfl
@[simp] theorem ap_meth (c : Nat) (g : List D → Store → Res D) (m : ME) (n : MA) : mMeth c g m n ρ S = (m ρ S).bind (methK c g n ρ) := rfl
@[simp] theorem isObj_obj (c : Nat) (fs : List D) : isObj c (.obj c fs) = true := by simp [isObj]
@[simp] theorem isObj_non (c : Nat) : isObj c .non = false := (Eq.refl _).trans rfl
@[simp] theorem isObj_bl (c : Nat) (b : Bool) : isObj c (.bl b) = false := (Eq.refl _).trans rfl
@[simp] theorem isObj_int (c : Nat) (b : Int) : isObj c (.int b) = false := (Eq.refl _).trans rfl
@[simp] theorem isObj_str (c : Nat) (b : Str) : isObj c (.str b) = false := (Eq.refl _).trans rfl
@[simp] theorem isObj_tup (c : Nat) (b : List D) : isObj c (.tup b) = false := (Eq.refl _).trans rfl
@[simp] theorem isObj_lst (c : Nat) (b : List D) : isObj c (.lst b) = false := (Eq.refl _).trans rfl
@[simp] theorem isObj_ref (c : Nat) (b : Nat) : isObj c (.ref b) = false := (Eq.refl _).trans rfl
@[simp] theorem own_obj (c : Nat) (g : List D → Store → Res D) (f : D → D → Store → Res D) (fs : List D) (b : D) : opOwn c g f (.obj c fs) b S = if (isObj c b || isOk S b) = true then g [.obj c fs, b] S else .no := by
  unfold opOwn
  rw [isObj_obj, if_pos rfl]
def mkK (c : Nat) (r : Res (List D)) : Res D := match r with
  | .ok fs S2 => .ok (.obj c fs) S2
  | _ => .no
@[simp] theorem mkK_ok (c : Nat) (fs : List D) : mkK c (.ok fs S) = .ok (.obj c fs) S := rfl
def makeK (c : Nat) (f : List D → Store → Res (List D)) (ds : List D) (S : Store) : Res D := mkK c (f ds S)
@[simp] theorem makeK_ap (c : Nat) (f : List D → Store → Res (List D)) (ds : List D) : makeK c f ds S = mkK c (f ds S) := rfl
@[simp] theorem ap_make (c : Nat) (f : List D → Store → Res (List D)) (n : MA) : mMake c f n ρ S = (n ρ S).bind (makeK c f) := rfl
@[simp] theorem isNon_obj (c : Nat) (b : List D) : isNon (.obj c b) = false := (Eq.refl _).trans rfl
@[simp] theorem pureD_obj (c : Nat) (b : List D) : pureD (.obj c b) = pureL b := (Eq.refl _).trans rfl
@[simp] theorem fz_obj (c : Nat) (b : List D) : fz (.obj c b) S = .ok (.obj c b) S := rfl
@[simp] theorem place_nil {β : Type} (xs : List β) : place [] xs = [] := rfl
@[simp] theorem fCall_ap (f : List D → Store → Res D) (ds : List D) (S : Store) : fCall f ds S = nox (f ds S) := rfl
theorem fPure_ap {f : List D → Store → Res D} {ds : List D} {d : D} (S : Store) (hp : pureL ds = true) (h : f ds [] = .ok d []) : fPure f ds S = .ok d S := by simp [fPure, hp, h]
@[simp] theorem pureL_nil : pureL [] = true := (Eq.refl _).trans rfl
@[simp] theorem pureL_cons (d : D) (ds : List D) : pureL (d :: ds) = (pureD d && pureL ds) := (Eq.refl _).trans rfl
@[simp] theorem pureD_non : pureD .non = true := (Eq.refl _).trans rfl
@[simp] theorem pureD_bl (b : Bool) : pureD (.bl b) = true := (Eq.refl _).trans rfl
@[simp] theorem pureD_int (b : Int) : pureD (.int b) = true := (Eq.refl _).trans rfl
@[simp] theorem pureD_str (b : Str) : pureD (.str b) = true := (Eq.refl _).trans rfl
@[simp] theorem pureD_tup (b : List D) : pureD (.tup b) = pureL b := (Eq.refl _).trans rfl
@[simp] theorem pureD_lst (b : List D) : pureD (.lst b) = pureL b := (Eq.refl _).trans rfl
@[simp] theorem pureD_fro (b : List D) : pureD (.fro b) = pureL b := (Eq.refl _).trans rfl
@[simp] theorem pureD_ref (b : Nat) : pureD (.ref b) = false := (Eq.refl _).trans rfl
theorem pureL_all {ds : List D} : pureL ds = true ↔ ∀ d ∈ ds, pureD d = true := by
  induction ds with
  | nil => simp
  | cons d ds ih => simp [ih]
@[simp] theorem fin_same {S S' : Store} {d : D} (h : S'.length = S.length) : fin S.length d S' = .ok d S' := by simp [fin, h]
theorem fin_nil {d : D} {S : Store} (h : pureD d = true) : fin 0 d S = .ok d [] := by
  unfold fin
  split
  · rename_i e
    rw [List.eq_nil_of_length_eq_zero e]
  · rw [below_pure 0 d h]; rfl
def endK (n : Nat) (f : Fl) (S : Store) : Res D := match f with
  | .nx _ => fin n .non S
  | .rt d => fin n d S
  | _ => .no
@[simp] theorem endK_nx (n : Nat) (ρ : Env) (S : Store) : endK n (.nx ρ) S = fin n .non S := rfl
@[simp] theorem endK_rt (n : Nat) (d : D) (S : Store) : endK n (.rt d) S = fin n d S := rfl
@[simp] theorem endM_nx {n : Nat} {ρ : Env} {S : Store} : endM n (.ok (.nx ρ) S) = fin n .non S := rfl
@[simp] theorem endM_rt {n : Nat} {d : D} {S : Store} : endM n (.ok (.rt d) S) = fin n d S := rfl
@[simp] theorem endC_nx {ρ : Env} {S : Store} : endC (.ok (.nx ρ) S) = .ok .non S := rfl
@[simp] theorem endC_rt {d : D} {S : Store} : endC (.ok (.rt d) S) = .ok d S := rfl
def endCK (f : Fl) (S : Store) : Res D := match f with
  | .nx _ => .ok .non S
  | .rt d => .ok d S
  | _ => .no
@[simp] theorem endCK_nx (ρ : Env) (S : Store) : endCK (.nx ρ) S = .ok .non S := rfl
@[simp] theorem endCK_rt (d : D) (S : Store) : endCK (.rt d) S = .ok d S := rfl
@[simp] theorem endM_sat {P : D → Store → Prop} (n : Nat) (r : Res Fl) : (endM n r).Sat P = (r.bind (endK n)).Sat P := by
  cases r with
  | ok f S => cases f <;> rfl
  | ex e S => rfl
  | no => rfl
@[simp] theorem endC_sat {P : D → Store → Prop} (r : Res Fl) : (endC r).Sat P = (r.bind endCK).Sat P := by
  cases r with
  | ok f S => cases f <;> rfl
  | ex e S => rfl
  | no => rfl
theorem set_get {S : Store} {k : Nat} {c c' : Cell} (h : S[k]? = some c) : (S.set k c')[k]? = some c' := List.getElem?_set_self (List.getElem?_eq_some_iff.mp h).1
def forK (k : MS) (f : Fl) (S : Store) : Res Fl := match f with
  | .nx ρ => k ρ S
  | .ct ρ => k ρ S
  | .bk ρ => .ok (.nx ρ) S
  | .rt d => .ok (.rt d) S
@[simp] theorem forK_nx (k : MS) (ρ : Env) (S : Store) : forK k (.nx ρ) S = k ρ S := rfl
@[simp] theorem forK_ct (k : MS) (ρ : Env) (S : Store) : forK k (.ct ρ) S = k ρ S := rfl
@[simp] theorem forK_bk (k : MS) (ρ : Env) (S : Store) : forK k (.bk ρ) S = .ok (.nx ρ) S := rfl
@[simp] theorem forK_rt (k : MS) (d : D) (S : Store) : forK k (.rt d) S = .ok (.rt d) S := rfl
def forBK (g : MG) (b : MS) (ds : List D) (ρ : Env) (S : Store) : Res Fl := (b ρ S).bind (forK (forL g b ds))
@[simp] theorem forBK_ap (g : MG) (b : MS) (ds : List D) (ρ : Env) (S : Store) : forBK g b ds ρ S = (b ρ S).bind (forK (forL g b ds)) := rfl
theorem forL_cons (g : MG) (b : MS) (d : D) (ds : List D) (ρ : Env) (S : Store) : forL g b (d :: ds) ρ S = (g d ρ S).bind (forBK g b ds) := rfl
def whK (k : MS) (f : Fl) (S : Store) : Res Fl := match f with
  | .nx ρ => k ρ S
  | .ct ρ => k ρ S
  | .bk ρ => .ok (.nx ρ) S
  | .rt d => .ok (.rt d) S
@[simp] theorem whK_nx (k : MS) (ρ : Env) (S : Store) : whK k (.nx ρ) S = k ρ S := rfl
@[simp] theorem whK_ct (k : MS) (ρ : Env) (S : Store) : whK k (.ct ρ) S = k ρ S := rfl
@[simp] theorem whK_bk (k : MS) (ρ : Env) (S : Store) : whK k (.bk ρ) S = .ok (.nx ρ) S := rfl
@[simp] theorem whK_rt (k : MS) (d : D) (S : Store) : whK k (.rt d) S = .ok (.rt d) S := rfl
def whBK (t : MT) (b : MS) (k : Nat) (ρ : Env) (c : Bool) (S : Store) : Res Fl := br c ((b ρ S).bind (whK (whileF t b k))) (.ok (.nx ρ) S)
@[simp] theorem whBK_t (t : MT) (b : MS) (k : Nat) (ρ : Env) (S : Store) : whBK t b k ρ true S = (b ρ S).bind (whK (whileF t b k)) := rfl
@[simp] theorem whBK_f (t : MT) (b : MS) (k : Nat) (ρ : Env) (S : Store) : whBK t b k ρ false S = .ok (.nx ρ) S := rfl
theorem whF_succ (t : MT) (b : MS) (k : Nat) (ρ : Env) (S : Store) : whileF t b (k + 1) ρ S = (t ρ S).bind (whBK t b k ρ) := by
  show (t ρ S).bind _ = _
  congr 1
  funext c S1
  cases c with
  | false => rfl
  | true =>
    show (b ρ S1).bind _ = (b ρ S1).bind _
    congr 1
theorem fnM_1 {nN : Nat} {n : MS} {a : D} {S : Store} : fnM nN 1 n [a] S = endM S.length (n (some a :: List.replicate (nN - 1) none) S) := rfl
theorem fnM_2 {nN : Nat} {n : MS} {a b : D} {S : Store} : fnM nN 2 n [a, b] S = endM S.length (n (some a :: some b :: List.replicate (nN - 2) none) S) := rfl
theorem fnC_2 {nN : Nat} {n : MS} {a b : D} {S : Store} : fnC nN 2 n [a, b] S = endC (n (some a :: some b :: List.replicate (nN - 2) none) S) := rfl
theorem set_self {S : Store} {k : Nat} {c : Cell} (h : S[k]? = some c) : S.set k c = S := by
  apply List.ext_getElem?
  intro i
  by_cases e : k = i
  · subst e; rw [set_get h, h]
  · rw [List.getElem?_set_ne e]
theorem lcL_map {g : MG} {m : ME} {ρ : Env} {f : D → D} : ∀ (ds : List D) (S : Store), (∀ d ∈ ds, ∃ ρ1, g d ρ S = .ok ρ1 S ∧ m ρ1 S = .ok (f d) S) → lcL g mYes m ρ ds S = .ok (ds.map f) S
  | [], S, _ => rfl
  | d :: ds, S, h => by
    obtain ⟨ρ1, h1, h2⟩ := h d (by simp)
    unfold lcL
    rw [h1]
    simp only [bind_ok, ap_yes]
    rw [h2]
    simp only [bind_ok]
    rw [lcL_map ds S fun e he => h e (by simp [he])]
    rfl
theorem lcL_filter {g : MG} {m : ME} {t : MT} {ρ : Env} {f : D → D} {p : D → Bool} : ∀ (ds : List D) (S : Store), (∀ d ∈ ds, ∃ ρ1, g d ρ S = .ok ρ1 S ∧ t ρ1 S = .ok (p d) S ∧ (p d = true → m ρ1 S = .ok (f d) S)) → lcL g t m ρ ds S = .ok ((ds.filter p).map f) S
  | [], S, _ => rfl
  | d :: ds, S, h => by
    obtain ⟨ρ1, h1, h2, h3⟩ := h d (by simp)
    have ih := lcL_filter ds S fun e he => h e (by simp [he])
    unfold lcL
    rw [h1]
    simp only [bind_ok]
    rw [h2]
    simp only [bind_ok]
    cases hp : p d with
    | true =>
      simp only [List.filter_cons, hp, if_true, List.map_cons]
      rw [h3 hp]
      simp only [bind_ok]
      rw [ih]
      rfl
    | false =>
      simp only [List.filter_cons, hp]
      exact ih
theorem lcL_indx {g : MG} {m : ME} {ρ : Env} {Inv : Nat → Store → Prop} {P : Nat → D → Prop} : ∀ (ds : List D) (i : Nat) (S : Store), Inv i S → (∀ j S d, ds[j]? = some d → Inv (i + j) S → ∃ ρ1 v S1, g d ρ S = .ok ρ1 S ∧ m ρ1 S = .ok v S1 ∧ P (i + j) v ∧ Inv (i + j + 1) S1) →
    ∃ vs S1, lcL g mYes m ρ ds S = .ok vs S1 ∧ vs.length = ds.length ∧ (∀ j v, vs[j]? = some v → P (i + j) v) ∧ Inv (i + ds.length) S1
  | [], i, S, h, _ => ⟨[], S, rfl, rfl, by simp, h⟩
  | d :: ds, i, S, h, turn => by
    obtain ⟨ρ1, v, S1, h1, h2, h3, h4⟩ := turn 0 S d rfl h
    obtain ⟨vs, S2, k1, k2, k3, k4⟩ := lcL_indx (P := P) ds (i + 1) S1 h4 fun j S e he hi => by
      have := turn (j + 1) S e (by simpa using he) (by rw [show i + (j + 1) = i + 1 + j by omega]; exact hi)
      rw [show i + (j + 1) = i + 1 + j by omega] at this
      exact this
    refine ⟨v :: vs, S2, ?_, by simp [k2], fun j w hw => ?_, by rw [List.length_cons, show i + (ds.length + 1) = i + 1 + ds.length by omega]; exact k4⟩
    · unfold lcL
      rw [h1]
      simp only [bind_ok, ap_yes]
      rw [h2]
      simp only [bind_ok]
      rw [k1]
      rfl
    · cases j with
      | zero => simp at hw; subst hw; exact h3
      | succ j =>
        have := k3 j w (by simpa using hw)
        rw [show i + (j + 1) = i + 1 + j by omega]
        exact this
theorem lcL_ind {g : MG} {m : ME} {ρ : Env} (Inv : Nat → Store → Prop) (P : Nat → D → Prop) (ds : List D) (S : Store) (h : Inv 0 S) (turn : ∀ j S d, ds[j]? = some d → Inv j S → ∃ ρ1 v S1, g d ρ S = .ok ρ1 S ∧ m ρ1 S = .ok v S1 ∧ P j v ∧ Inv (j + 1) S1) :
    ∃ vs S1, lcL g mYes m ρ ds S = .ok vs S1 ∧ vs.length = ds.length ∧ (∀ j v, vs[j]? = some v → P j v) ∧ Inv ds.length S1 := by
  have := lcL_indx (g := g) (m := m) (ρ := ρ) (Inv := Inv) (P := P) ds 0 S h (by simpa using turn)
  simpa using this
theorem rangeD_len (lo : Int) (n : Nat) : (rangeD lo n).length = n := by simp [rangeD]
theorem rangeD_get {lo : Int} {n i : Nat} {d : D} (h : (rangeD lo n)[i]? = some d) : i < n ∧ d = .int (lo + (i : Int)) := by
  unfold rangeD at h
  rw [List.getElem?_map] at h
  cases q : (List.range n)[i]? with
  | none => simp [q] at h
  | some j =>
    simp only [q, Option.map_some, Option.some.injEq] at h
    obtain ⟨h1, h2⟩ := List.getElem?_eq_some_iff.mp q
    simp at h1 h2
    subst h2
    exact ⟨h1, h.symm⟩
def fuelI (i : Nat) : Env → Store → Nat := fun ρ _ => match ρ[i]? with
  | some (some (.int n)) => n.toNat + 1
  | _ => 0
section
variable {X : Cx} {cl : Nat → Addr} {E : XK}
theorem q_globS {x : Str} {i : Str} {t : Tok} {pos : Pos} (hg : Gl X x) (hm : ∃ t, X.mg x = some (.str i t)) (hd : (x == ("__debug__" : Str)) = false := by decide) : QE X cl E (.Name x pos) (mC (.str i)) :=
  let ⟨_, hm⟩ := hm
  ⟨_, pe_glob (v := .str i) hg hm ⟨_, rfl⟩ hd, snd_c fun _ _ => by simp [Rep]⟩
end
@[simp] theorem fin_00 (d : D) : fin 0 d [] = .ok d [] := rfl
def Turn (I : Env → Store → Prop) (P : Fl → Store → Prop) : Fl → Store → Prop := fun f S => match f with
  | .nx ρ => I ρ S
  | .ct ρ => I ρ S
  | .bk ρ => P (.nx ρ) S
  | .rt d => P (.rt d) S
section
variable {I : Env → Store → Prop} {P : Fl → Store → Prop} {ρ : Env} {S : Store}
@[simp] theorem turn_nx : Turn I P (.nx ρ) S = I ρ S := rfl
@[simp] theorem turn_ct : Turn I P (.ct ρ) S = I ρ S := rfl
@[simp] theorem turn_bk : Turn I P (.bk ρ) S = P (.nx ρ) S := rfl
@[simp] theorem turn_rt (d : D) : Turn I P (.rt d) S = P (.rt d) S := rfl
end
theorem forL_sat {g : MG} {b : MS} {P : Fl → Store → Prop} (Inv : List D → Env → Store → Prop) (turn : ∀ d ds ρ S, Inv (d :: ds) ρ S → ∃ ρ1 S1, g d ρ S = .ok ρ1 S1 ∧ (b ρ1 S1).Sat (Turn (Inv ds) P)) (last : ∀ ρ S, Inv [] ρ S → P (.nx ρ) S) :
    ∀ (ds : List D) (ρ : Env) (S : Store), Inv ds ρ S → (forL g b ds ρ S).Sat P
  | [], ρ, S, h => last ρ S h
  | d :: ds, ρ, S, h => by
    obtain ⟨ρ1, S1, e, h1⟩ := turn d ds ρ S h
    rw [forL_cons, e, bind_ok, forBK_ap]
    refine sat_step h1 fun f S2 h2 => ?_
    cases f with
    | nx ρ2 => exact forL_sat Inv turn last ds ρ2 S2 h2
    | ct ρ2 => exact forL_sat Inv turn last ds ρ2 S2 h2
    | bk ρ2 => exact h2
    | rt d => exact h2
@[simp] theorem ap_while (fuel : Env → Store → Nat) (t : MT) (b : MS) (ρ : Env) (S : Store) : mWhile fuel t b ρ S = whileF t b (fuel ρ S) ρ S := rfl
end Q
namespace Q
open PySem L2
variable {X : Cx} {cl : Nat → Addr} {E : XK}
end Q
namespace Q
open PySem L2
end Q
namespace Q
open PySem L2
def lim : Int := 1000000
def plt (a b : Int × Int) : Prop := a.1 < b.1 ∨ (a.1 = b.1 ∧ a.2 < b.2)
instance (a b : Int × Int) : Decidable (plt a b) := by unfold plt; infer_instance
end Q
namespace L2
open PySem PySem.Spec PyProof.Rows
section
variable {P : Program} {w : World} {A : Around} {E : Value → Shared → Prop} {s : Shared}
abbrev bare (w : World) : Obj := { cls := .type "set", dict := none, data := .set #[] 0 (.fresh 0 0 (!w.params.followText "set-order")) }
end
end L2
namespace Q
open PySem L2
end Q
namespace L2
open PySem PySem.Spec PyProof.Rows
end L2
namespace Q
open PySem L2
def ple (a b : Int × Int) : Prop := a.1 < b.1 ∨ (a.1 = b.1 ∧ a.2 ≤ b.2)
instance (a b : Int × Int) : Decidable (ple a b) := by unfold ple; infer_instance
end Q
namespace Q
open PySem L2
theorem upd2 {H : Hp} {p : Addr} (o o' : HO) : upd (upd H p o) p o' = upd H p o' := by
  funext a
  by_cases h : a = p
  · subst h; rw [upd_same, upd_same]
  · rw [upd_ne h, upd_ne h, upd_ne h]
theorem EnvR.drop {Γ : Gm} {α : List Addr} {G : Hp} {ρ : Env} {σ : L2.St} (h : EnvR Γ α G ρ σ) (i : Nat) (o : Option V) : EnvR Γ α G (ρ.set i none) (σ.set i o) := by
  refine ⟨by simp [h.1], fun j e hj => ?_⟩
  by_cases hij : i = j
  · subst hij
    have hl : i < ρ.length := by
      have := (List.getElem?_eq_some_iff.mp hj).1
      simpa using this
    rw [List.getElem?_set_self hl] at hj
    cases hj
  · rw [List.getElem?_set_ne hij] at hj ⊢
    exact h.2 j e hj
end Q
namespace L2
open PySem PySem.Spec PyProof.Rows
end L2
namespace Q
open PySem L2
def intsQ : List D → Option (List Int)
  | [] => some []
  | .int i :: ds => (intsQ ds).map (i :: ·)
  | _ :: _ => none
theorem intsQ_map : ∀ {xs : List D} {ns : List Int}, intsQ xs = some ns → xs = ns.map .int
  | [], ns, h => by simp [intsQ] at h; subst h; rfl
  | d :: ds, ns, h => by
    unfold intsQ at h
    split at h
    · rename_i e; cases e
    · rename_i i ds' e
      cases e
      cases q : intsQ ds with
      | none => rw [q] at h; cases h
      | some qs =>
        rw [q] at h
        cases h
        rw [intsQ_map q]
        rfl
    · cases h
theorem ints_vals {Γ : Gm} {α : List Addr} {G : Hp} : ∀ {ns : List Int} {vs : List V}, RepL Γ α G (ns.map .int) vs → vs = ns.map .int
  | [], vs, h => by simpa [RepL] using h
  | n :: ns, vs, h => by
    rw [List.map_cons] at h
    unfold RepL at h
    obtain ⟨v, r, rfl, h1, h2⟩ := h
    simp only [Rep] at h1
    subst h1
    rw [ints_vals h2]
    rfl
section
variable {S : Store} {ρ : Env}
theorem intsQ_ints : ∀ ns : List Int, intsQ (ns.map .int) = some ns
  | [] => rfl
  | n :: ns => by rw [List.map_cons, intsQ, intsQ_ints ns]; rfl
end
end Q
namespace L2
open PySem PySem.Spec PyProof.Rows
end L2
namespace Q
open PySem L2
theorem PE.or {X : Cx} {e : Expr} {t u : TE} (h : PE X e t) (h' : PE X e u) : PE X e (fun σ H Q => t σ H Q ∨ u σ H Q) := ⟨fun pins s σ H Q I q => q.elim (fun q => h.run pins s σ H Q I q) (fun q => h'.run pins s σ H Q I q)⟩
section
variable {S : Store} {ρ : Env}
@[simp] theorem ap_none {β : Type} : (fun (_ : Env) (_ : Store) => (Res.no : Res β)) ρ S = .no := rfl
end
end Q
namespace Q
open PySem L2
def putO (i : Nat) (d : D) (fs : List (Option D)) : List (Option D) := (fs ++ List.replicate (i + 1 - fs.length) none).set i (some d)
theorem RepO.put {Γ : Gm} {α : List Addr} {G : Hp} {fs : List (Option D)} {vs : List (Option V)} (h : RepO Γ α G fs vs) (i : Nat) {d : D} {v : V} (r : Rep Γ α G d v) : RepO Γ α G (putO i d fs) (SlX.putS i v vs) := by
  intro j e he
  by_cases hj : j = i
  · subst hj
    refine ⟨v, SlX.putS_get j v vs, ?_⟩
    have : (putO j d fs)[j]? = some (some d) := by
      unfold putO
      exact List.getElem?_set_self (by simp only [List.length_append, List.length_replicate]; omega)
    rw [this] at he
    cases he
    exact r
  · have : fs[j]? = some (some e) := by
      unfold putO at he
      rw [List.getElem?_set_ne (Ne.symm hj)] at he
      by_cases hl : j < fs.length
      · rw [List.getElem?_append_left hl] at he
        exact he
      · rw [List.getElem?_append_right (by omega), List.getElem?_replicate] at he
        split at he <;> cases he
    obtain ⟨w, hw, rw'⟩ := h j e this
    exact ⟨w, (SlX.putS_ne hj).mpr hw, rw'⟩
end Q
namespace Q
open PySem L2
section
variable {κ : Type} [DecidableEq κ]
def valD (kvs : List (κ × D)) (k : κ) : Option D := (kvs.find? fun kv => decide (kv.1 = k)).map (·.2)
def putD (kvs : List (κ × D)) (k : κ) (d : D) : List (κ × D) := if (kvs.any fun kv => decide (kv.1 = k)) = true then kvs.map (fun kv => if kv.1 = k then (kv.1, d) else kv) else kvs ++ [(k, d)]
theorem valD_cons (p : κ × D) (r : List (κ × D)) (k : κ) : valD (p :: r) k = if p.1 = k then some p.2 else valD r k := by
  by_cases e : p.1 = k <;> simp [valD, List.find?_cons, e]
theorem valV_cons (p : κ × V) (r : List (κ × V)) (k : κ) : valV (p :: r) k = if p.1 = k then some p.2 else valV r k := by
  by_cases e : p.1 = k <;> simp [valV, List.find?_cons, e]
variable {Γ : Gm} {α : List Addr} {G : Hp}
theorem RepKV.val : ∀ {kvs : List (κ × D)} {ws : List (κ × V)} (k : κ), RepKV Γ α G kvs ws → (∀ d, valD kvs k = some d → ∃ v, valV ws k = some v ∧ Rep Γ α G d v) ∧ (valD kvs k = none → valV ws k = none)
  | [], ws, k, h => by
    unfold RepKV at h
    subst h
    exact ⟨fun d e => by simp [valD] at e, fun _ => rfl⟩
  | p :: r, ws, k, h => by
    unfold RepKV at h
    obtain ⟨v, t, rfl, h1, h2⟩ := h
    rw [valD_cons, valV_cons]
    by_cases e : p.1 = k
    · rw [if_pos e, if_pos e]
      exact ⟨fun d hd => ⟨v, rfl, by cases hd; exact h1⟩, fun hn => nomatch hn⟩
    · rw [if_neg e, if_neg e]
      exact RepKV.val k h2
theorem RepKV.length : ∀ {kvs : List (κ × D)} {ws : List (κ × V)}, RepKV Γ α G kvs ws → kvs.length = ws.length
  | [], ws, h => by unfold RepKV at h; subst h; rfl
  | p :: r, ws, h => by
    unfold RepKV at h
    obtain ⟨v, t, rfl, _, h2⟩ := h
    simp [RepKV.length h2]
theorem RepKV.any (k : κ) : ∀ {kvs : List (κ × D)} {ws : List (κ × V)}, RepKV Γ α G kvs ws → (kvs.any fun kv => decide (kv.1 = k)) = (ws.any fun kv => decide (kv.1 = k))
  | [], ws, h => by unfold RepKV at h; subst h; rfl
  | p :: r, ws, h => by
    unfold RepKV at h
    obtain ⟨v, t, rfl, _, h2⟩ := h
    simp [RepKV.any k h2]
theorem RepKV.upd {k : κ} {d : D} {v : V} (r0 : Rep Γ α G d v) : ∀ {kvs : List (κ × D)} {ws : List (κ × V)}, RepKV Γ α G kvs ws → RepKV Γ α G (kvs.map fun kv => if kv.1 = k then (kv.1, d) else kv) (ws.map fun kv => if kv.1 = k then (kv.1, v) else kv)
  | [], ws, h => by unfold RepKV at h; subst h; simp [RepKV]
  | p :: r, ws, h => by
    unfold RepKV at h
    obtain ⟨u, t, rfl, h1, h2⟩ := h
    rw [List.map_cons, List.map_cons]
    unfold RepKV
    by_cases e : p.1 = k
    · simp only [e, if_true]
      exact ⟨v, _, rfl, r0, RepKV.upd r0 h2⟩
    · simp only [e, if_false]
      exact ⟨u, _, rfl, h1, RepKV.upd r0 h2⟩
theorem RepKV.snoc {k : κ} {d : D} {v : V} (r0 : Rep Γ α G d v) : ∀ {kvs : List (κ × D)} {ws : List (κ × V)}, RepKV Γ α G kvs ws → RepKV Γ α G (kvs ++ [(k, d)]) (ws ++ [(k, v)])
  | [], ws, h => by
    unfold RepKV at h
    subst h
    show RepKV Γ α G [(k, d)] [(k, v)]
    unfold RepKV
    exact ⟨v, [], rfl, r0, by simp [RepKV]⟩
  | p :: r, ws, h => by
    unfold RepKV at h
    obtain ⟨u, t, rfl, h1, h2⟩ := h
    show RepKV Γ α G (p :: (r ++ [(k, d)])) ((p.1, u) :: (t ++ [(k, v)]))
    unfold RepKV
    exact ⟨u, _, rfl, h1, RepKV.snoc r0 h2⟩
theorem RepKV.put {k : κ} {d : D} {v : V} (r0 : Rep Γ α G d v) {kvs : List (κ × D)} {ws : List (κ × V)} (h : RepKV Γ α G kvs ws) : RepKV Γ α G (putD kvs k d) (putK ws k v) := by
  unfold putD putK
  rw [h.any k]
  split
  · exact h.upd r0
  · exact h.snoc r0
theorem RepKV.get : ∀ {kvs : List (κ × D)} {ws : List (κ × V)} {i : Nat} {k : κ} {v : V}, RepKV Γ α G kvs ws → ws[i]? = some (k, v) → ∃ d, kvs[i]? = some (k, d) ∧ Rep Γ α G d v
  | [], ws, i, k, v, h, hi => by unfold RepKV at h; subst h; simp at hi
  | p :: r, ws, 0, k, v, h, hi => by
    unfold RepKV at h
    obtain ⟨u, t, rfl, h1, h2⟩ := h
    simp at hi
    obtain ⟨rfl, rfl⟩ := hi
    exact ⟨p.2, rfl, h1⟩
  | p :: r, ws, i + 1, k, v, h, hi => by
    unfold RepKV at h
    obtain ⟨u, t, rfl, h1, h2⟩ := h
    simpa using RepKV.get h2 (by simpa using hi)
end
end Q
namespace Q
open PySem L2
theorem Ext.aside {Γ : Gm} {α α' : List Addr} {G G' H H' : Hp} {S : Store} (e : Ext α G H α' G' H') {p : Addr} {o : HO} (hp : H p = some o) (na : p ∉ α) (ng : G p = none) (nt : ∀ xs, o ≠ .tup xs) : H' p = some o ∧ p ∉ α' ∧ G' p = none := by
  refine ⟨e.fr p o hp na, fun m => ?_, ?_⟩
  · rcases e.na p m with z | z
    · exact na z
    · rw [hp] at z; cases z
  · cases q : G' p with
    | none => rfl
    | some u =>
      rcases e.ng p (by rw [q]; simp) with z | z | z | ⟨xs, z⟩
      · exact absurd ng z
      · exact absurd z na
      · rw [hp] at z; cases z
      · rw [hp] at z; exact absurd (Option.some.inj z) (nt xs)
mutual
theorem Rep.keeps {Γ : Gm} {α : List Addr} {G G' : Hp} (k : ∀ b o, G b = some o → (∀ od u, o = .frz od u → ∃ xs, u = .lst xs) → G' b = some o) : ∀ (d : D) (v : V), Rep Γ α G d v → Rep Γ α G' d v
  | .non, v, h => by simpa [Rep] using h
  | .bl b, v, h => by simpa [Rep] using h
  | .int i, v, h => by simpa [Rep] using h
  | .str s, v, h => by simpa [Rep] using h
  | .tup ds, v, h => by
    unfold Rep at h ⊢
    obtain ⟨a, vs, e, q, r⟩ := h
    exact ⟨a, vs, e, k _ _ q fun _ _ z => (nomatch z), RepL.keeps k ds vs r⟩
  | .lst ds, v, h => by
    unfold Rep at h ⊢
    obtain ⟨a, vs, e, q, r⟩ := h
    exact ⟨a, vs, e, k _ _ q fun _ _ z => (nomatch z), RepL.keeps k ds vs r⟩
  | .fro ds, v, h => by
    unfold Rep at h ⊢
    obtain ⟨a, vs, e, q, r⟩ := h
    refine ⟨a, vs, e, ?_, RepL.keeps k ds vs r⟩
    rcases q with (q | ⟨o, q⟩) | q
    · exact .inl (.inl (k _ _ q fun _ _ z => (nomatch z)))
    · exact .inl (.inr ⟨o, k _ _ q fun od u z => by cases z; exact ⟨vs, rfl⟩⟩)
    · exact .inr q
  | .obj c ds, v, h => by
    unfold Rep at h ⊢
    obtain ⟨a, vs, e, ⟨dx, h1, h2⟩, r⟩ := h
    exact ⟨a, vs, e, ⟨dx, k _ _ h1 (fun _ _ z => by unfold SlX.SlO at z; cases z), k _ _ h2 fun _ _ z => (nomatch z)⟩, RepL.keeps k ds vs r⟩
  | .exn c ds, v, h => by
    unfold Rep at h ⊢
    obtain ⟨a, vs, e, ⟨d, h1, h2⟩, r⟩ := h
    exact ⟨a, vs, e, ⟨d, k _ _ h1 (fun _ _ z => by unfold ExK at z; cases z), h2.keep fun _ _ z => k _ _ z fun _ _ y => (nomatch y)⟩, RepL.keeps k ds vs r⟩
  | .ref n, v, h => by
    unfold Rep at h ⊢
    exact h
theorem RepL.keeps {Γ : Gm} {α : List Addr} {G G' : Hp} (k : ∀ b o, G b = some o → (∀ od u, o = .frz od u → ∃ xs, u = .lst xs) → G' b = some o) : ∀ (ds : List D) (vs : List V), RepL Γ α G ds vs → RepL Γ α G' ds vs
  | [], vs, h => by simpa [RepL] using h
  | d :: ds, vs, h => by
    unfold RepL at h ⊢
    obtain ⟨v, r, e, h1, h2⟩ := h
    exact ⟨v, r, e, Rep.keeps k d v h1, RepL.keeps k ds r h2⟩
end
theorem RepKV.keeps {Γ : Gm} {α : List Addr} {G G' : Hp} {κ : Type} (k : ∀ b o, G b = some o → (∀ od u, o = .frz od u → ∃ xs, u = .lst xs) → G' b = some o) : ∀ {kvs : List (κ × D)} {ws : List (κ × V)}, RepKV Γ α G kvs ws → RepKV Γ α G' kvs ws
  | [], ws, h => by simpa [RepKV] using h
  | p :: r, ws, h => by
    unfold RepKV at h ⊢
    obtain ⟨v, t, e, h1, h2⟩ := h
    exact ⟨v, t, e, Rep.keeps k _ _ h1, RepKV.keeps k h2⟩
theorem RepC.keeps {Γ : Gm} {α : List Addr} {G G' : Hp} {a : Addr} {c : Cell} {o : HO} (k : ∀ b o, G b = some o → (∀ od u, o = .frz od u → ∃ xs, u = .lst xs) → G' b = some o) (h : RepC Γ α G a c o) : RepC Γ α G' a c o := by
  cases c with
  | lst ds => obtain ⟨vs, e, r⟩ := h; exact ⟨vs, e, RepL.keeps k _ _ r⟩
  | frz ds => obtain ⟨vs, e, r⟩ := h; exact ⟨vs, e, RepL.keeps k _ _ r⟩
  | dk lk kvs => obtain ⟨ws, r, e⟩ := h; exact ⟨ws, r.keeps k, e⟩
  | dt lk kvs => obtain ⟨ws, r, e⟩ := h; exact ⟨ws, r.keeps k, e⟩
  | ob c fs =>
    obtain ⟨dx, vs, e, hx, r⟩ := h
    refine ⟨dx, vs, e, k _ _ hx fun _ _ z => (nomatch z), fun i d hd => ?_⟩
    obtain ⟨v, e1, r1⟩ := r i d hd
    exact ⟨v, e1, Rep.keeps k _ _ r1⟩
def er (G : Hp) (a : Addr) : Hp := fun b => if b = a then none else G b
theorem EnvR.keeps {Γ : Gm} {α : List Addr} {G G' : Hp} {ρ : Env} {σ : L2.St} (k : ∀ b o, G b = some o → (∀ od u, o = .frz od u → ∃ xs, u = .lst xs) → G' b = some o) (h : EnvR Γ α G ρ σ) : EnvR Γ α G' ρ σ :=
  ⟨h.1, fun i d hi => let ⟨v, a, b⟩ := h.2 i d hi; ⟨v, a, Rep.keeps k _ _ b⟩⟩
end Q
namespace Q
open PySem PySem.Spec PyProof.Rows L2
structure DSort (κ : Type) [DecidableEq κ] where
  kf : D → Option κ
  ho : List (κ × V) → HO
  ce : List (κ × D) → Cell
structure DSort.Ok {κ : Type} [DecidableEq κ] (s : DSort κ) : Prop where
  nil : s.ho [] = .dK [] ∨ s.ho [] = .dT []
  live : ∀ kvs, (s.ce kvs).live = true
  rep : ∀ (Γ : Gm) (α : List Addr) (G : Hp) (p : Addr) kvs ws, RepKV Γ α G kvs ws → RepC Γ α G p (s.ce kvs) (s.ho ws)
  ntup : ∀ ws xs, s.ho ws ≠ .tup xs
  put : ∀ (Γ : Gm) (α : List Addr) (G H : Hp) (S : Store) (d : D) k (y : V) (p : Addr) ws (z : V), Rl Γ α G S H → s.kf d = some k → Rep Γ α G d y → H p = some (s.ho ws) → ws.length < sizeLine → DPut H p y z (upd H p (s.ho (putK ws k z)))
section
variable {κ : Type} [DecidableEq κ]
structure MidX (Γ : Gm) (α1 : List Addr) (G1 H1 : Hp) (p : Addr) (α : List Addr) (G : Hp) (S : Store) (H : Hp) (o : HO) : Prop where
  ext : Ext α1 G1 H1 α G H
  rl : Rl Γ α G S H
  at_ : H p = some o
  na : p ∉ α
  ng : G p = none
variable {Γ : Gm} {α1 α α' : List Addr} {G1 H1 G H G' H' : Hp} {p : Addr} {S S' : Store} {o o' : HO}
theorem MidX.step (M : MidX Γ α1 G1 H1 p α G S H o) (nt : ∀ xs, o ≠ .tup xs) (e : Ext α G H α' G' H') (R : Rl Γ α' G' S' H') : MidX Γ α1 G1 H1 p α' G' S' H' o :=
  let ⟨w1, w2, w3⟩ := e.aside (Γ := Γ) (S := S) M.at_ M.na M.ng nt
  ⟨M.ext.trans e, R, w1, w2, w3⟩
theorem MidX.push (M : MidX Γ α1 G1 H1 p α G S H o) (hp : H1 p = none) (o' : HO) : MidX Γ α1 G1 H1 p α G S (upd H p o') o' :=
  ⟨M.ext.patch hp _, M.rl.patch M.na M.ng _, upd_same, M.na, M.ng⟩
variable {E : XK} {wi : TI} {mi : MA} {g : TG} {mg : MG} {js vs : List Nat} {tt : TT} {mt : MT} {tk tv : TE} {mk mv : ME} {s : DSort κ}
end
end Q
namespace Q
open PySem L2
def RPair : List Addr → Hp → Int × Int → Int × Int → Prop := fun _ _ a b => a = b
abbrev MRg := Env → Store → Res (Int × Int)
structure QRg (X : Cx) (cl : Nat → Addr) (E : XK) (e : Expr) (m : MRg) : Prop where
  ex : ∃ t, PRg X e t ∧ ∀ (ρ : Env) (S : Store) (σ : L2.St) (α : List Addr) (G H : Hp) (R : Int → Int → Hp → Prop), EnvR ⟨X.K, cl⟩ α G ρ σ → Rl ⟨X.K, cl⟩ α G S H → Post ⟨X.K, cl⟩ RPair α G H (m ρ S) (fun p H' => R p.1 p.2 H') E → t σ H R
end Q
namespace Q
open PySem PySem.Spec L2 PyProof.Rows
abbrev TC := L2.St → V → Hp → VK → Prop
abbrev MC := Env → D → Store → Res D
structure PC (X : Cx) (ops : List CmpOp) (es : List Expr) (t : TC) : Prop where
  run : ∀ (pos : Pos) (pins : List (Addr × Obj)) (s : Shared) (σ : L2.St) (H : Hp) (x : V) (v : Value) (Q : VK), Inv X pins σ H s → RelV x v → t σ x H Q →
    wpAny (model X.prog X.w) X.A (compareChain pos v ops (evalEach es X.env)) (EP X pins σ Q) X.xe s
  test : ∀ (pos : Pos) (pins : List (Addr × Obj)) (s : Shared) (σ : L2.St) (H : Hp) (x : V) (v : Value) (Q : Bool → Hp → Prop), Inv X pins σ H s → RelV x v → t σ x H (fun z H' => ∃ k, z = .bl k ∧ Q k H') →
    wpAny (model X.prog X.w) X.A (testChain pos v ops (evalEach es X.env)) (TP X pins σ Q) X.xe s
def SndCh (Γ : Gm) (E : XK) (t : TC) (m : MC) : Prop := ∀ (ρ : Env) (d : D) (S : Store) (σ : L2.St) (α : List Addr) (G H : Hp) (x : V) (Q : VK), EnvR Γ α G ρ σ → Rl Γ α G S H → Rep Γ α G d x → Post Γ (Rep Γ) α G H (m ρ d S) Q E → t σ x H Q
structure QCh (X : Cx) (cl : Nat → Addr) (E : XK) (ops : List CmpOp) (es : List Expr) (m : MC) : Prop where
  ex : ∃ t, PC X ops es t ∧ SndCh ⟨X.K, cl⟩ E t m
end Q
namespace Q
open PySem L2
end Q
namespace Q
open PySem L2
section
variable {X : Cx} {cl : Nat → Addr} {E : XK} {pos : Pos}
def opCatC : D → D → Store → Res D := fun a b S => match lstOf S a, lstOf S b with
  | some xs, some ys => if xs.length + ys.length ≤ 100000 then .ok (.ref S.length) (S ++ [.lst (xs ++ ys)]) else .no
  | _, _ => .no
theorem catC : QR X cl E (binaryOp .Add) opCatC := by
  refine ⟨_, op_cat, fun a b S α G H x y Q hR ra rb h => ?_⟩
  unfold opCatC at h
  cases h1 : lstOf S a with
  | none => simp [h1, Post] at h
  | some xs =>
    cases h2 : lstOf S b with
    | none => simp [h1, h2, Post] at h
    | some ys =>
      simp only [h1, h2] at h
      split at h
      · rename_i hs
        obtain ⟨p, vs, rfl, q1, r1⟩ := lstOf_at hR ra h1
        obtain ⟨p2, ws, rfl, q2, r2⟩ := lstOf_at hR rb h2
        exact ⟨p, p2, vs, ws, rfl, rfl, q1, q2, by rw [← r1.length, ← r2.length]; exact sz hs, fun z hz => post_cell hR (r1.append r2) h hz⟩
      · exact h.elim
variable {o i : Expr} {mo mi : ME}
end
end Q
namespace L2
open PySem PySem.Spec PyProof.Rows
end L2
namespace Q
open PySem L2
end Q
namespace L2
open PySem PySem.Spec PyProof.Rows
end L2
namespace Q
open PySem L2
end Q
namespace L2
open PySem PySem.Spec PyProof.Rows
end L2
namespace Q
open PySem L2
end Q
namespace Q
open PySem L2
section
variable {X : Cx} {cl : Nat → Addr} {E : XK} {m : ME} {mt1 : MT} {pos : Pos}
def tI (Γ : Gm) (E : XK) (mi : MA) : TI := fun σ H R => ∃ ρ S α G, EnvR Γ α G ρ σ ∧ Rl Γ α G S H ∧ PostI Γ E α G H (mi ρ S) R
theorem QI.can {tg iter : Expr} {mi : MA} (h : QI X cl E tg iter mi) : PI X tg iter (tI ⟨X.K, cl⟩ E mi) := by
  obtain ⟨t, h1, h2⟩ := h.ex
  exact ⟨fun pins s σ H R I ⟨ρ, S, α, G, hρ, hR, hp⟩ => h1.run pins s σ H R I (h2 ρ S σ α G H R hρ hR hp)⟩
variable {elt tg iter tg1 iter1 c : Expr} {scope : Scope} {mi mi1 : MA} {mg mg1 : MG} {js js1 : List Nat}
variable {mt : MT}
end
end Q
namespace L2
open PySem PySem.Spec PyProof.Rows
end L2
namespace Q
open PySem L2
end Q
namespace L2
open PySem PySem.Spec PyProof.Rows
end L2
namespace Q
open PySem L2
end Q
set_option exponentiation.threshold 10000
namespace Q
open PySem L2
def strI (i : Int) : Str := toString i
def gStrI : D → Store → Res D := fun d S => match d with
  | .int i => if i.natAbs < 2 ^ 1900 then .ok (.str (strI i)) S else .no
  | _ => .no
def fStrI := un1 gStrI
theorem strIQ {X : Cx} {cl : Nat → Addr} {E : XK} : QC X cl E (.type "str") fStrI := by
  refine ⟨_, call_str_int, snd_un1 fun d S α G H v Q hR rv h => ?_⟩
  cases d <;> try exact h.elim
  rename_i i
  simp only [Rep] at rv
  subst rv
  unfold gStrI at h
  simp only at h
  split at h
  · rename_i hb
    refine ⟨i, rfl, ?_, post_ok (x := V.str (strI i)) h hR (by simp [Rep])⟩
    by_cases h0 : i.natAbs = 0
    · rw [h0]; decide
    · exact Nat.lt_of_lt_of_le ((Nat.log2_lt h0).mpr hb) (by decide)
  · exact h.elim
section
variable {S : Store}
theorem strI_int {i : Int} (h : i.natAbs < 2 ^ 1900) : fStrI [.int i] S = .ok (.str (strI i)) S := by
  show gStrI (.int i) S = _
  unfold gStrI
  simp only [h, if_true]
end
end Q
namespace Q
open PySem L2 PySem.Calls PyProof.Rows
structure SupSrc (st : Stmt) (txt : Str) : Prop where
  body : ∃ (j : Nat) (p0 p1 p2 p3 p4 p5 : Pos), defBody st = [.Expr (.Call (.Attribute (.Call (.Name "super" p0) [] [] p1) "__init__" p2) [.Constant (.str txt) j p3] [] p4) p5] ∧
    ∀ (qual : Str) (L fa cc : Addr) (cd : Value), ∃ pl : Sem Bool, eval (.Call (.Attribute (.Call (.Name "super" p0) [] [] p1) "__init__" p2) [.Constant (.str txt) j p3] [] p4) (PySem.W.ksEnv qual (defScope st) L fa cd cc) = (do
      let ov ← attributeBase (.Call (.Name "super" p0) [] [] p1) "__init__" (PySem.W.ksEnv qual (defScope st) L fa cd cc) (eval (.Call (.Name "super" p0) [] [] p1) (PySem.W.ksEnv qual (defScope st) L fa cd cc))
      standAt p2.atName
      let (fn, first) ← holding [ov] (getMethod ov "__init__" pl)
      callWith p4 fn first (backTo p4 (starEach [.Constant (.str txt) j p3] (PySem.W.ksEnv qual (defScope st) L fa cd cc))) [])
  arg : ∃ ar : Arg, (defArgs st).posonlyargs ++ (defArgs st).args = [ar] ∧ ar.arg = ("self" : Str)
  ns : (defScope st).names.lookup ("super" : Str) = some .globalImplicit
  nc : (defScope st).names.lookup ("__class__" : Str) = some .free
  nl : (defScope st).names.lookup ("self" : Str) = some .local
  ki : (defScope st).kind = .function
  it : ∀ (qual : Str) (L fa cc : Addr) (cd : Value), interactive (PySem.W.ksEnv qual (defScope st) L fa cd cc) = false
  co : (defScope st).isCoroutine = false
  ge : (defScope st).isGenerator = false
  ce : ∀ x ∈ (defScope st).names, x.2 ≠ .cell
  bi : ∀ (cc : Addr) (x qual : Str) (kV doc pm : Value) (an : Option Addr) (cdv ct u : Value), bindArgs (PySem.W.ksFn x qual (defArgs st) (defBody st) (defScope st) .none kV doc pm an cdv ct cc) ⟨[u], []⟩ = pure [(("self" : Str), u)]
structure ExcU (P : Program) (K : PySem.W.Frag) (C f : Addr) (B newId initId : String) (bmB : List Value) (st : Stmt) : Prop where
  fb : ExcBaseFacts B newId initId bmB
  kf : PySem.W.KxsFacts B initId
  ci : PySem.W.excInitIn K C bmB newId = true
  ini : PySem.W.findIn K (.ref C) "__init__" = some (some (.ref f))
  ty : PySem.W.typeIn K (.ref f) = some (.type "function")
  fn : ∃ (oc : Value) (od : Option Addr) (x qual : Str) (kV doc pm : Value) (an : Option Addr) (ct : Value) (osl : Array (Option Value)) (cc cda : Addr), K.lookup f = some ⟨oc, od, .func (PySem.W.ksFn x qual (defArgs st) (defBody st) (defScope st) .none kV doc pm an (.ref cda) ct cc), osl⟩ ∧ PySem.W.codeIn K (.ref cda) qual = true ∧
    (∃ ccl cdd vs ccs file tf, K.lookup cda = some ⟨ccl, cdd, .fields vs, ccs⟩ ∧ vs[2]? = some (.str file tf) ∧ ((P.main.file : Str) == file) = true) ∧ ∃ cl cld csl, K.lookup cc = some ⟨cl, cld, .cell (some (.ref C)), csl⟩
  cl : (PySem.W.clsIn K C).isSome = true
  ms : PySem.W.mroIn K C (.ref C) = some true
  nsu : PySem.W.nsIn K mainGlobals "super" = some none
  top : (P.main.scope.names.lookup ("super" : Str)).isSome = false
  any : PySem.W.nsIn K cStatics "thirdparty.any" = some none
  sup : PySem.W.ks_superIn K C C "__init__" = some (some (.builtin initId))
  sb : PySem.W.subIn K (.ref C) (.type B) = some true
  sbe : PySem.W.subIn K (.ref C) (.type "BaseException") = some true
  tyC : PySem.W.typeIn K (.ref C) = some (.type "type")
  kC : PySem.W.keepIn K (.ref C) = true
section
variable {P : Program} {w : World} {A : Around} {R : Result → Shared → Prop} {E : Value → Shared → Prop} {K : PySem.W.Frag} {C f x t0 : Addr} {h h0 : Heap} {g : Array GenState} {d : Drawn} {tk : Nat} {os : OsState} {B newId initId : String} {bmB : List Value} {st : Stmt} {txt : Str} {mg : Str → Option Value}
theorem sup_init (S : SupSrc st txt) (T : ExcU P K C f B newId initId bmB st) (hroom : A.depth < recursionLimit) (X0 : K.In h0) (hlim : h.NoLimit) (kk : ∀ b o, h0.get? b = some o → h.get? b = some o) (hle : h0.objs.size ≤ h.objs.size) (GG : h.Ns mainGlobals mg)
    (BB : ∃ mb, h.Ns builtinsNs mb ∧ ∀ y : Str, y ≠ "__name__" → mb y = bootBuiltins y) (hx : h.get? x = some (PySem.W.excObj C t0 none .none)) (hx0 : h0.get? x = none)
    (hq : ∀ h' tk' t1, (∀ b o, h0.get? b = some o → h'.get? b = some o) → h'.get? x = some (PySem.W.excObj C t1 none .none) → R (.ok (.ret .none)) ⟨h', g, d, tk', os⟩) :
    codeAny (model P w) A (.call (.ref f) ⟨[.ref x], []⟩) R ⟨h, g, d, tk, os⟩ := by
  have X : K.In h := X0.keeps kk
  obtain ⟨j, p0, p1, p2, p3, p4, p5, hb, hev⟩ := S.body
  obtain ⟨ar, har, hself⟩ := S.arg
  obtain ⟨oc, od, nm, qual, kV, doc, pm, an, ct, osl, cc, cda, lf, lcode, ⟨ccl, cdd, vs, ccs, file, tf, lcd, lvs, lfile⟩, cl, cld, csl, lcc⟩ := T.fn
  refine ks_codeAny_call_defAt (fd := PySem.W.ksFn nm qual (defArgs st) (defBody st) (defScope st) .none kV doc pm an (.ref cda) ct cc) (body := defBody st) (binds := [(("self" : Str), .ref x)]) hroom (X _ _ lf) rfl hlim (PySem.W.codeRec_of X lcode) rfl (.of_eq (S.bi cc nm qual kV doc pm an (.ref cda) ct (.ref x))) S.ce
    (fun y hy => ?_) (fun h₁ hns hk₁ => ?_) S.co S.ge S.ki
  · rcases List.mem_cons.mp hy with e | e
    · rw [e]; exact S.nl
    · cases e
  have env : callEnv (PySem.W.ksFn nm qual (defArgs st) (defBody st) (defScope st) .none kV doc pm an (.ref cda) ct cc) h.objs.size f = PySem.W.ksEnv qual (defScope st) h.objs.size f (.ref cda) cc := rfl
  rw [env]
  have X1 : K.In h₁ := X.keeps hk₁
  have F0 : Fr h0 h.objs.size h₁ (fun y => [(("self" : Str), Value.ref x)].reverse.lookup y) := ⟨hns, fun b o e => hk₁ b o (kk b o e), hle⟩
  have xs : x ≠ h.objs.size := Nat.ne_of_lt (Heap.lt_size hx)
  have N0 : News h0 h.objs.size h₁ [(x, PySem.W.excObj C t0 none .none)] := fun p hp => by
    rcases List.mem_cons.mp hp with e | e
    · subst e; exact ⟨hk₁ _ _ hx, xs, hx0⟩
    · cases e
  rw [hb]
  refine ks_wpAt_execs_cons (ks_wpAt_Expr_any ?_ (S.it _ _ _ _ _))
  obtain ⟨pl, hev⟩ := hev qual h.objs.size f cc (.ref cda)
  refine ks_wpAt_MethodCall ?_ hev
  have hkf : (PySem.W.ksEnv qual (defScope st) h.objs.size f (.ref cda) cc).scope.kind = .function := S.ki
  refine ks_wpAt_super_base S.ns S.nc (by decide) rfl (X1 _ _ lf) rfl (ar := ar) (by show ((defArgs st).posonlyargs ++ (defArgs st).args).head? = some ar; rw [har]; rfl) rfl (X1 _ _ lcd) rfl lvs lfile T.top ?_
  obtain ⟨mb, bn, bb⟩ := BB
  refine PySem.W.ks_loadName_global hkf S.ns (loadGlobal_builtin (show h₁.Ns mainGlobals mg from GG.keeps hk₁) (PySem.W.mg_none_of X GG T.nsu) (show h₁.Ns builtinsNs mb from bn.keeps hk₁) ((bb _ (by decide)).trans (by rfl)) ⟨rfl, ?_⟩)
  refine wpAny_loadName_free hkf S.nc rfl ⟨_, X1 _ _ lcc, rfl⟩ ?_
  rw [hself]
  refine wpAny_loadName_local hkf S.nl hns (by rfl) ?_
  obtain ⟨cdC, hcC⟩ := Option.isSome_iff_exists.mp T.cl
  obtain ⟨oD, hD1, hD2⟩ : ∃ oD, h₁.get? C = some oD ∧ oD.data = .cls cdC := by
    have z := hcC
    unfold PySem.W.clsIn at z
    split at z
    · rename_i q
      cases z
      exact ⟨_, X1 _ _ q, rfl⟩
    · cases z
  refine ks_wpAny_isType_cls hD1 hD2 ⟨rfl, ?_⟩
  have hx1 := hk₁ _ _ hx
  refine ks_wpAny_call_super hD1 hD2 hx1 rfl (fun c e => by cases e) (PySem.W.looks_mroIn X1 T.ms) (fun h2 e2 k2 => ?_)
  have X2 : K.In h2 := X1.keeps k2
  have I2 : PySem.W.InstAt h2 x (PySem.W.excObj C t0 none .none) C none := ⟨k2 _ _ hx1, rfl, rfl, trivial⟩
  have hne : x ≠ C := PySem.W.ks_ne X2 I2 hcC
  have hal := T.sup
  unfold PySem.W.ks_superIn at hal
  rw [hcC] at hal
  have hmro : PySem.W.Looks (model P w) h2 (mroOf (.ref C)) cdC.mro := fun A Q E s k q => wpAny_bind ((PySem.W.looks_clsIn X2 hcC) A _ E s k (wpAny_pure q))
  have hBx : PySem.W.Looks (model P w) h2 (isInstance (.ref x) (.type B)) true := I2.type.andThen (PySem.W.looks_subIn X2 T.sb)
  refine PySem.W.kxs_getMethod T.kf e2 (PySem.W.looks_opaque X2 T.any) hmro rfl X2 hal hBx hne (by decide) ?_
  -- the bound __init__ stands at u
  obtain ⟨u, hu⟩ : ∃ u, u = h2.objs.size := ⟨_, rfl⟩
  have k3 : ∀ b o, h2.get? b = some o → (h2.push (PySem.W.kxs_mw initId x)).get? b = some o := fun b o e => Heap.get?_push_of_some _ e
  have gu : (h2.push (PySem.W.kxs_mw initId x)).get? u = some (PySem.W.kxs_mw initId x) := by rw [hu]; exact Heap.get?_push_at rfl rfl
  rw [← hu]
  generalize h2.push (PySem.W.kxs_mw initId x) = h3 at k3 gu
  have kall : ∀ b o, h₁.get? b = some o → h3.get? b = some o := fun b o e => k3 b o (k2 b o e)
  have F3 : Fr h0 h.objs.size h3 (fun y => [(("self" : Str), Value.ref x)].reverse.lookup y) := ⟨hns.keeps kall, fun b o e => kall b o (F0.keep b o e), hle⟩
  have ux : u ≠ x := fun z => by
    rw [z, kall _ _ hx1] at gu
    cases gu
  have below : ∀ {b : Addr} {o : Obj}, h2.get? b = some o → u ≠ b := fun {b o} e z => by
    have l := Heap.lt_size e
    rw [← z, hu] at l
    exact absurd l (Nat.lt_irrefl _)
  have uL : u ≠ h.objs.size := by
    obtain ⟨o, _, _, eo, _⟩ := hns
    exact below (k2 _ _ eo)
  have u0 : h0.get? u = none := by
    cases z : h0.get? u with
    | none => rfl
    | some o => exact absurd rfl (below (k2 _ _ (hk₁ _ _ (kk _ _ z))))
  have N3 : News h0 h.objs.size h3 [(u, PySem.W.kxs_mw initId x), (x, PySem.W.excObj C t0 none .none)] := fun p hp => by
    rcases List.mem_cons.mp hp with e | e
    · subst e; exact ⟨gu, uL, u0⟩
    · rcases List.mem_cons.mp e with e | e
      · subst e; exact ⟨kall _ _ hx1, xs, hx0⟩
      · cases e
  have he : starEach [.Constant (.str txt) j p3] (PySem.W.ksEnv qual (defScope st) h.objs.size f (.ref cda) cc) = (false, eval (.Constant (.str txt) j p3) (PySem.W.ksEnv qual (defScope st) h.objs.size f (.ref cda) cc)) :: starEach [] (PySem.W.ksEnv qual (defScope st) h.objs.size f (.ref cda) cc) := by rfl
  refine PySem.W.kxs_callWith1 N3 (List.mem_cons_self ..) ?_ he (by rfl)
  rw [he]
  show wpAny _ _ (spliced ((false, eval (.Constant (.str txt) j p3) _) :: backTo p4 (starEach [] _))) _ _ _
  refine Calls.spliced_cons ?_
  refine wpAny_Constant_str ?_
  refine Calls.spliced_nil ⟨gu, ?_⟩
  refine PySem.W.kxs_call (rest := [_]) (s := { heap := h3, gens := g, drawn := d, toks := _, os := os }) ⟨F3.ns, F3.keep, F3.above⟩ X0 N3 T.fb T.ci (List.mem_cons_self ..) (.tail ux (.head fun _ z => nomatch z)) (by show 1 ≤ sizeLine; rw [sizeLine_eq]; omega) (fun t1 h4 F4 N4 _ => ?_)
  exact wpAt_of_wpAny (wpAny_execs_nil (hq _ _ t1 F4.keep (N4 (x, _) (by simp)).1))
end
theorem pmk_u {X : Cx} {C f : Addr} {B newId initId : String} {bmB : List Value} {st : Stmt} {txt x : Str} {p pos : Pos} (S : SupSrc st txt) (T : ExcU X.prog X.K C f B newId initId bmB st) (hr : Room 1 X.A) (hg : Gl X x) (hm : X.mg x = some (.ref C)) (hdb : (x == ("__debug__" : Str)) = false := by decide) :
    PMk X (.Call (.Name x p) [] [] pos) (fun _ H Q => Q (.ref C) none H) := by
  intro pins s σ H Q I h
  obtain ⟨nm, N', qn, bs, bm, hdct, sn, sub, ab, col, dd, k0, k1, k2, k3, k5, hC, hT⟩ := PySem.W.excInit_of I.kIn T.ci
  refine wpAny_Call_Name_kw (ld_glob I hg hm ?_ hdb)
  refine PySem.W.callWith_K0 I.kIn T.kC ?_
  show wpAny _ _ (call (.ref C) []) _ _ _
  have I0 := I
  obtain ⟨hp, g, dr, tk, os⟩ := s
  have kk : ∀ b o, hp.get? b = some o → ((hp.push (PySem.W.kdv_tup [])).push (HandSPX.excO C hp.objs.size)).get? b = some o := fun b o e => Heap.get?_push_of_some _ (Heap.get?_push_of_some _ e)
  have gx : ((hp.push (PySem.W.kdv_tup [])).push (HandSPX.excO C hp.objs.size)).get? (hp.objs.size + 1) = some (HandSPX.excO C hp.objs.size) := by heap_get
  have fresh : hp.get? (hp.objs.size + 1) = none := by
    cases z : hp.get? (hp.objs.size + 1) with
    | none => rfl
    | some o => exact absurd (Nat.lt_of_succ_lt (Heap.lt_size z)) (Nat.lt_irrefl _)
  have lim : hp.NoLimit := I.ok.mod.nolimit.keeps I.bk
  obtain ⟨mb, bn, bb⟩ := I.ok.mod.blt
  refine wpAny_call (HandSPX.call_own T.fb hT hC (PySem.W.looks_findIn I.kIn T.ini) (fun self => PySem.W.bind_fn I.kIn self T.ty) (Nat.zero_le _) ?_)
  refine sup_init (h0 := hp) (mg := X.mg) S T (hr.make C [] []).depth I.kIn (lim.keeps kk) kk (by rw [Heap.size_push, Heap.size_push]; exact Nat.le_succ_of_le (Nat.le_succ _)) ((I.ok.mod.glob.keeps I.bk).keeps kk) ⟨mb, (bn.keeps I.bk).keeps kk, bb⟩ gx fresh (fun h' tk' t1 k' e' => ?_)
  refine ⟨rfl, ?_⟩
  refine ⟨hp.objs.size + 1, _, _, ⟨hp, g, dr, tk, os⟩, H, .ref C, none, rfl, I0, k', fresh, e', ⟨rfl, rfl⟩, rfl, rfl, I0.hok.fresh (Nat.le_succ _), rfl, I0.bare, raises_own T.sbe T.tyC, h⟩
end Q
namespace Q
open PySem L2
abbrev fw (E : XK) : WX := fun c d _ H => E c d H
def mRaise (c : Nat) : MS := fun _ S => .ex ⟨c, []⟩ S
theorem qs_raise {X : Cx} {cl : Nat → Addr} {E : XK} (c : Nat) {f : Addr} {B newId initId : String} {bmB : List Value} {st : Stmt} {txt x : Str} {p p2 pos : Pos} (S0 : SupSrc st txt) (T : ExcU X.prog X.K (cl c) f B newId initId bmB st) (tk : Takes X (fw E)) (hr : Room 1 X.A) (hg : Gl X x) (hm : X.mg x = some (.ref (cl c)))
    (hc : X.calm = true := by rfl) (hdb : (x == ("__debug__" : Str)) = false := by decide) : QS X cl E (.Raise (some (.Call (.Name x p) [] [] p2)) none pos) (mRaise c) :=
  ⟨_, ps_raise hc tk (pmk_u S0 T hr hg hm hdb), fun ρ S σ α G H Dn hρ hR hp => hp α G H _ _ (Ext.refl _ _ _) hR ⟨rfl, [], by simp [RepL], .inl ⟨rfl, rfl⟩⟩⟩
def endX (n : Nat) (r : Res Fl) : Res D := match r with
  | .ok (.nx _) S => fin n .non S
  | .ok (.rt d) S => fin n d S
  | .ex e S => if pureL e.fs && (S.take n).all (Cell.below n) then .ex e (S.take n) else .no
  | _ => .no
def fnX (nN nP : Nat) (n : MS) : List D → Store → Res D := fun ds S => if ds.length = nP then endX S.length (n (ds.map some ++ List.replicate (nN - nP) none) S) else .no
section
variable {P : Program} {w : World} {K : PySem.W.Frag} {mg : Str → Option Value} {base : Heap}
open PySem.Spec PyProof.Rows in
theorem fn_okX {x qual : Str} {st : Stmt} {f : Addr} {fd : FuncData} {N ps : List Str} {k : Nat} {cl : Nat → Addr} (nN nP : Nat) {n : MS} (F : Fun K x qual st f fd) (S : FnScope N ps (defScope st))
    (hbody : ∀ (cdv : Value) (A : Around) (outer : List PySem.Env) (s : Shared) (H : Hp) (E : XK), Room k (A.deeper (envOfC qual (defScope st) s.heap.objs.size f cdv)) → Takes (cxOf (L2.CX P w) P w K mg base N qual (defScope st) f cdv A outer s H E) (fw E) →
      PassesOwn (model P w) (cxOf (L2.CX P w) P w K mg base N qual (defScope st) f cdv A outer s H E).A (cxOf (L2.CX P w) P w K mg base N qual (defScope st) f cdv A outer s H E).env (cxOf (L2.CX P w) P w K mg base N qual (defScope st) f cdv A outer s H E).xe → QSs (cxOf (L2.CX P w) P w K mg base N qual (defScope st) f cdv A outer s H E) cl E (defBody st) n)
    (hN : N.length = nN := by rfl) (hP : ps.length = nP := by rfl) : FnOk P w K mg base (L2.CX P w) (k + 1) f fd ps (spM ⟨K, cl⟩ (fnX nN nP n)) := by
  refine F.okX S (fun vs H Q E h => ?_) (fun cdv A outer s H vs Q E hr h => ?_)
  · obtain ⟨ds, α, G, S, r, hR, hp⟩ := h
    unfold fnX at hp
    split at hp
    · rename_i e
      rw [← r.length, e, hP]
    · exact hp.elim
  · obtain ⟨ds, α, G, S', r, hR, hp⟩ := h
    obtain ⟨t, h1, h2⟩ := (hbody cdv A outer s H E hr (takes_of rfl rfl rfl rfl) (passes_of rfl)).ex
    refine ⟨t, h1, ?_⟩
    unfold fnX at hp
    split at hp
    · rename_i e
      rw [← hN, ← hP, show ps.length = vs.length by rw [hP, ← e, r.length]] at hp
      refine h2 _ S' _ α G H _ (envR_start r) hR ?_
      revert hp
      cases n (ds.map some ++ List.replicate (N.length - vs.length) none) S' with
      | no => exact id
      | ex e S2 =>
        intro hp α' G' H' c x e1 R1 r1
        unfold endX at hp
        simp only at hp
        split at hp
        · rename_i hq
          rw [Bool.and_eq_true] at hq
          obtain ⟨R2, e2⟩ := Rl.cut e1 R1 hR hq.2
          obtain ⟨ec, ws, rw_, rf⟩ := r1
          exact hp α G' H' c x e2 R2 ⟨ec, ws, pureL_rep _ _ hq.1 rw_, rf⟩
        · exact hp.elim
      | ok fl S2 =>
        cases fl with
        | nx ρ => exact fun hp α' G' H' σ' e R _ => fin_post hR hp α' G' H' .non e R (by simp [Rep])
        | rt d => exact fun hp α' G' H' v e R r => fin_post hR hp α' G' H' v e R r
        | bk ρ => exact fun hp => hp.elim
        | ct ρ => exact fun hp => hp.elim
    · exact hp.elim
theorem fn_quiet {k nN nP : Nat} {f : Addr} {fd : FuncData} {ps : List Str} {cl : Nat → Addr} {n : MS} (F : FnOk P w K mg base (L2.CX P w) k f fd ps (spM ⟨K, cl⟩ (fnX nN nP n))) : FnOk P w K mg base CX0 k f fd ps (spM ⟨K, cl⟩ (fnM nN nP n)) := by
  have back : ∀ {vs H Q E}, spM ⟨K, cl⟩ (fnM nN nP n) vs H Q E → spM ⟨K, cl⟩ (fnX nN nP n) vs H Q E0 := fun {vs H Q E} ⟨ds, α, G, S, r, hR, hp⟩ => ⟨ds, α, G, S, r, hR, by
    unfold fnM at hp
    unfold fnX
    split at hp
    · rename_i hl
      rw [if_pos hl]
      revert hp
      cases n (ds.map some ++ List.replicate (nN - nP) none) S with
      | no => exact fun hp => hp.elim
      | ex e S2 => exact fun hp => hp.elim
      | ok fl S2 =>
        intro hp
        have quiet : ∀ {d : D}, Post ⟨K, cl⟩ (Rep ⟨K, cl⟩) α G H (fin S.length d S2) Q E → Post ⟨K, cl⟩ (Rep ⟨K, cl⟩) α G H (fin S.length d S2) Q E0 := fun {d} z => by
          unfold fin at z ⊢
          split at z
          · rename_i q; rw [if_pos q]; exact z
          · rename_i q
            rw [if_neg q]
            split at z
            · rename_i q2; rw [if_pos q2]; exact z
            · exact z.elim
        cases fl with
        | nx ρ => exact quiet hp
        | rt d => exact quiet hp
        | bk ρ => exact hp.elim
        | ct ρ => exact hp.elim
    · exact hp.elim⟩
  refine ⟨fun vs H Q E h => F.len vs H Q E0 (back h), fun A outer s H args us vs Q E hr e0 hb hv h => ?_⟩
  refine codeAny_mono (F.run A outer s H args us vs Q E0 hr e0 hb hv (back h)) fun r s' hq => ?_
  cases r with
  | error e =>
    obtain ⟨_, _, _, _, _, _, _, _, _, _, _, _, z⟩ := hq
    exact z.elim
  | ok fl => cases fl <;> exact hq
end
section
variable {X : Cx} {cl : Nat → Addr} {W : WX} {E : XK} {e a b c : Expr} {pos : Pos}
def SndEX (Γ : Gm) (W : WX) (t : TE) (m : ME) : Prop := ∀ (ρ : Env) (S : Store) (σ : L2.St) (α : List Addr) (G H : Hp) (Q : VK), EnvR Γ α G ρ σ → Rl Γ α G S H → Post Γ (Rep Γ) α G H (m ρ S) Q (fun c d H' => W c d σ H') → t σ H Q
structure QEX (X : Cx) (cl : Nat → Addr) (W : WX) (e : Expr) (m : ME) : Prop where
  ex : ∃ t, PE X e t ∧ SndEX ⟨X.K, cl⟩ W t m
theorem QEX.qe {m : ME} (h : QEX X cl (fw E) e m) : QE X cl E e m := h.ex.elim fun t ⟨h1, h2⟩ => ⟨t, h1, fun ρ S σ α G H Q hρ hR hp => h2 ρ S σ α G H Q hρ hR hp⟩
def mCallX (g : List D → Store → Res D) (n : MA) : ME := fun ρ S => (nox (n ρ S)).bind g
theorem noxA_post {Γ : Gm} {β γ : Type} {R : List Addr → Hp → β → γ → Prop} {α : List Addr} {G H : Hp} {r : Res β} {Q : γ → Hp → Prop} {E' : XK} (h : Post Γ R α G H (nox r) Q E) : Post Γ R α G H r Q E' := by
  cases r with
  | ok d S => exact h
  | ex e S => exact h.elim
  | no => exact h.elim
def SndCX (Γ : Gm) (f g : List D → Store → Res D) : Prop := ∀ (E : XK) (ds : List D) (S : Store) (α : List Addr) (G H : Hp) (vs : List V) (Q : VK), Rl Γ α G S H → RepL Γ α G ds vs → Post Γ (Rep Γ) α G H (g ds S) Q E → spM Γ f vs H Q E
def fPureX (f : List D → Store → Res D) : List D → Store → Res D := fun ds S => if pureL ds then match f ds [] with
  | .ok d [] => .ok d S
  | .ex e [] => if pureL e.fs then .ex e S else .no
  | _ => .no
  else .no
theorem spx_pure {Γ : Gm} {f : List D → Store → Res D} : SndCX Γ f (fPureX f) := fun E ds S α G H vs Q hR r h => by
  unfold fPureX at h
  split at h
  · rename_i hp
    refine ⟨ds, [], G, [], pureL_rep ds vs hp r, hR.bare, ?_⟩
    cases q : f ds [] with
    | no => rw [q] at h; exact h.elim
    | ex e S' =>
      rw [q] at h
      cases S' with
      | cons c T => exact h.elim
      | nil =>
        simp only at h
        split at h
        · rename_i hf
          intro α' G' H' c x e1 R' rv
          have ea : α' = [] := List.eq_nil_of_length_eq_zero (by rw [R'.len]; rfl)
          subst ea
          obtain ⟨R2, e2⟩ := hR.back R' e1
          obtain ⟨ec, ws, rw_, rf⟩ := rv
          exact h α G' H' c x e2 R2 ⟨ec, ws, pureL_rep _ _ hf rw_, rf⟩
        · exact h.elim
    | ok d S' =>
      rw [q] at h
      cases S' with
      | cons c T => exact h.elim
      | nil =>
        intro α' G' H' v e R' rv
        have ea : α' = [] := List.eq_nil_of_length_eq_zero (by rw [R'.len]; rfl)
        subst ea
        obtain ⟨R2, e2⟩ := hR.back R' e
        exact h α G' H' v e2 R2 (Rep.mono (α := []) ⟨α, by simp⟩ (Sub.refl _) _ _ rv)
  · exact h.elim
theorem qx_call {f g : List D → Store → Res D} {k : Nat} {fa : Addr} {fd : FuncData} {ps : List Str} {x : Str} {p : Pos} {es : List Expr} {n : MA} (F : FnOk X.prog X.w X.K X.mg X.base (L2.CX X.prog X.w) k fa fd ps (spM ⟨X.K, cl⟩ f)) (tk : Takes X W) (hr : Room k X.A)
    (hg : Gl X x) (hm : X.mg x = some (.ref fa)) (hk : PySem.W.keepIn X.K (.ref fa) = true) (hb : Binds X.K fd ps []) (ha : QA X cl E0 (e :: es) n) (hf : SndCX ⟨X.K, cl⟩ f g)
    (hdb : (x == ("__debug__" : Str)) = false := by decide) (he : starEach (e :: es) X.env = (false, eval e X.env) :: starEach es X.env := by rfl) (hpl : (backTo pos (starEach es X.env)).any (·.1) = false := by rfl) :
    QEX X cl W (.Call (.Name x p) (e :: es) [] pos) (mCallX g n) := by
  obtain ⟨t, h1, h2⟩ := ha.ex
  refine ⟨_, pe_callS (E := fun σ c d H' => W c d σ H') F hr hg hm hk hb (fun σ => passAt tk σ) h1 hdb he hpl, fun ρ S σ α G H Q hρ hR hp => ?_⟩
  refine h2 ρ S σ α G H _ hρ hR (noxA_post (E := fun c d H' => W c d σ H') (post_bind hp fun ds S1 α1 G1 H1 vs _ e1 R1 r1 hp1 => ?_))
  exact hf _ ds S1 α1 G1 H1 vs Q R1 r1 hp1
def mIfEX (t : MT) (m m' : ME) : ME := fun ρ S => (nox (t ρ S)).bind fun b S1 => match b with
  | true => m ρ S1
  | false => m' ρ S1
theorem qx_ifE {mt : MT} {ma mb : ME} (hc : QT X cl E0 c mt) (ha : QEX X cl W a ma) (hb : QEX X cl W b mb) : QEX X cl W (.IfExp c a b pos) (mIfEX mt ma mb) := by
  obtain ⟨t, h1, h2⟩ := hc.ex
  obtain ⟨u, k1, k2⟩ := ha.ex
  obtain ⟨v, l1, l2⟩ := hb.ex
  refine ⟨_, pe_ifExp h1 k1 l1, fun ρ S σ α G H Q hρ hR hp => h2 ρ S σ α G H _ hρ hR (noxA_post (E := fun c d H' => W c d σ H') (post_bind hp fun b S1 α1 G1 H1 v _ e1 R1 r1 hp1 => ?_))⟩
  have r1 : b = v := r1
  subst r1
  cases b with
  | true => exact iteT (k2 ρ S1 σ α1 G1 H1 Q (hρ.mono e1) R1 hp1)
  | false => exact iteF (l2 ρ S1 σ α1 G1 H1 Q (hρ.mono e1) R1 hp1)
def SndX (Γ : Gm) (W : WX) (t : TS) (n : MS) : Prop := ∀ (ρ : Env) (S : Store) (σ : L2.St) (α : List Addr) (G H : Hp) (Dn : Ends), EnvR Γ α G ρ σ → Rl Γ α G S H → PostS Γ (fun c d H' => W c d σ H') α G H (n ρ S) Dn → t Dn σ H
structure QX (X : Cx) (cl : Nat → Addr) (W : WX) (st : Stmt) (n : MS) : Prop where
  ex : ∃ t, PS X st t ∧ SndX ⟨X.K, cl⟩ W t n
structure QXs (X : Cx) (cl : Nat → Addr) (W : WX) (st : List Stmt) (n : MS) : Prop where
  ex : ∃ t, PSs X st t ∧ SndX ⟨X.K, cl⟩ W t n
def tX (Γ : Gm) (W : WX) (n : MS) : TS := fun Dn σ H => ∃ ρ S α G, EnvR Γ α G ρ σ ∧ Rl Γ α G S H ∧ PostS Γ (fun c d H' => W c d σ H') α G H (n ρ S) Dn
theorem QXs.can {st : List Stmt} {n : MS} (h : QXs X cl W st n) : PSs X st (tX ⟨X.K, cl⟩ W n) := by
  obtain ⟨t, h1, h2⟩ := h.ex
  exact ⟨fun pins s σ H D I ⟨ρ, S, α, G, hρ, hR, hp⟩ => h1.run pins s σ H D I (h2 ρ S σ α G H D hρ hR hp)⟩
theorem qxs_one {st : Stmt} {n : MS} (h : QX X cl W st n) : QXs X cl W [st] n := by
  obtain ⟨t, h1, h2⟩ := h.ex
  exact ⟨_, pss_one h1, h2⟩
theorem qx_set (i : Nat) {x : Str} {px : Pos} {m : ME} (h : QEX X cl W e m) (hN : X.N.Nodup) (hi : X.N[i]? = some x := by rfl) (hx : Loc X.env.scope x := by first | exact .inl rfl | exact .inr rfl) (hs : swapsWith e (some (.Name x px)) pos.line X.env = pure false := by rfl) (hf : X.fn x = true ∨ X.env.scope.names.lookup x = some .local := by first | exact .inl rfl | exact .inr rfl) :
    QX X cl W (.Assign [.Name x px] e pos) (mAsg m (mgN i)) := by
  obtain ⟨t, a1, a2⟩ := h.ex
  refine ⟨_, ps_set hN hi hx a1 hs hf, fun ρ S σ α G H Dn hρ hR hp => a2 ρ S σ α G H _ hρ hR (posts_bind hp fun d S1 α1 G1 H1 v _ e1 R1 r1 hp1 => ?_)⟩
  exact hp1 α1 G1 H1 _ (Ext.refl _ _ _) R1 ((hρ.mono e1).set i r1)
def mIfX (t : MT) (n n' : MS) : MS := fun ρ S => (nox (t ρ S)).bind fun b S1 => match b with
  | true => n ρ S1
  | false => n' ρ S1
theorem qx_if {mt : MT} {n n' : MS} {sa sb : List Stmt} (hc : QT X cl E0 c mt) (ha : QXs X cl W sa n) (hb : QXs X cl W sb n') : QX X cl W (.If c sa sb pos) (mIfX mt n n') := by
  obtain ⟨t, h1, h2⟩ := hc.ex
  obtain ⟨u, k1, k2⟩ := ha.ex
  obtain ⟨w, l1, l2⟩ := hb.ex
  refine ⟨_, ps_if h1 k1 l1, fun ρ S σ α G H Dn hρ hR hp => h2 ρ S σ α G H _ hρ hR (noxA_post (E := fun c d H' => W c d σ H') (posts_bind hp fun b S1 α1 G1 H1 v _ e1 R1 r1 hp1 => ?_))⟩
  have r1 : b = v := r1
  subst r1
  cases b with
  | true => exact iteT (k2 ρ S1 σ α1 G1 H1 Dn (hρ.mono e1) R1 hp1)
  | false => exact iteF (l2 ρ S1 σ α1 G1 H1 Dn (hρ.mono e1) R1 hp1)
end
section
variable {ρ : Env} {S : Store}
@[simp] theorem nox_ex {β : Type} (e : Exn) : nox (Res.ex e S : Res β) = .no := rfl
@[simp] theorem ap_raise (c : Nat) : mRaise c ρ S = .ex ⟨c, []⟩ S := rfl
@[simp] theorem ap_callX (g : List D → Store → Res D) (n : MA) : mCallX g n ρ S = (nox (n ρ S)).bind g := rfl
@[simp] theorem ap_ifEX (t : MT) (m m' : ME) : mIfEX t m m' ρ S = (nox (t ρ S)).bind (ifEK m m' ρ) := rfl
@[simp] theorem ap_ifX (t : MT) (n n' : MS) : mIfX t n n' ρ S = (nox (t ρ S)).bind (ifK n n' ρ) := rfl
@[simp] theorem endX_nx {n : Nat} : endX n (.ok (.nx ρ) S) = fin n .non S := rfl
@[simp] theorem endX_rt {n : Nat} {d : D} : endX n (.ok (.rt d) S) = fin n d S := rfl
theorem fnX_1 {nN : Nat} {n : MS} {a : D} : fnX nN 1 n [a] S = endX S.length (n (some a :: List.replicate (nN - 1) none) S) := rfl
theorem fPureX_ok {f : List D → Store → Res D} {ds : List D} {d : D} (hp : pureL ds = true) (h : f ds [] = .ok d []) : fPureX f ds S = .ok d S := by simp [fPureX, hp, h]
theorem fPureX_ex {f : List D → Store → Res D} {ds : List D} {e : Exn} (hp : pureL ds = true) (h : f ds [] = .ex e []) (he : pureL e.fs = true) : fPureX f ds S = .ex e S := by simp [fPureX, hp, h, he]
end
end Q
namespace Q
open PySem L2
theorem Inv.follow {X : Cx} {pins : List (Addr × Obj)} {σ : St} {H : Hp} {s : Shared} {a : Addr} {cls : Value} {d : Option Addr} {oe : Obj} {ws : Array Value} (I : Inv X pins σ H s) (ha : s.heap.get? a = some oe) (hz : Zc cls d oe) (hd : oe.data = .fields ws) (na : H a = none)
    (n0 : X.s_0.heap.get? a = none) (nl : a ≠ X.env.locals) (np : ∀ p ∈ X.pn ++ pins, p.1 ≠ a) : Inv X pins σ (upd H a (ExK cls d a)) s := by
  have old : ∀ {b : Addr} {o : HO}, H b = some o → upd H a (ExK cls d a) b = some o := fun {b o} e => by rw [upd_ne (ne_of_none e na)]; exact e
  have new : ObjOk X.prog X.w (upd H a (ExK cls d a)) s.heap a (ExK cls d a) := ⟨⟨oe, ws, ha, hz, hd⟩, ⟨oe, ha⟩, fun _ _ ⟨o, v, q, r⟩ k => ⟨o, v, k o q, r⟩⟩
  refine ⟨I.ok, I.os, I.bare, ⟨I.base.keep, I.base.slot, fun b o e n hx => ?_, I.base.there, fun b xs e => old (I.base.tups b xs e), fun b o u e => old (I.base.frzs b o u e), fun b ps e => ?_⟩, I.loc, I.cell, ?_, fun x c e => ?_, fun p hp => ?_, I.hok.laidN (fun _ _ e => e) na new, I.len⟩
  · have hb : b ≠ a := fun z => by
      rw [z, n0] at e
      cases e
    rw [upd_ne hb]
    exact I.base.free b o e n hx
  · obtain ⟨m, e'⟩ := I.base.tbls b ps e
    exact ⟨m, old e'⟩
  · rw [upd_ne (Ne.symm nl)]
    exact I.free
  · have hc : c ≠ a := fun z => by
      obtain ⟨v, o, ho, hv⟩ := I.cell x c e
      rw [z, ha] at ho
      cases ho
      rw [hd] at hv
      cases hv
    rw [upd_ne hc]
    exact I.freeC x c e
  · obtain ⟨e1, e2, e3⟩ := I.pin p hp
    exact ⟨e1, by rw [upd_ne (np p hp)]; exact e2, e3⟩
structure HdT (X : Cx) (cl : Nat → Addr) (ty : Expr) (cs : List (Nat × Bool)) : Prop where
  run : ∀ (a : Addr) (pn : List (Addr × Obj)) (σ : St) (H : Hp) (s : Shared) (oe : Obj) (c : Nat) (b : Bool) (Q : Bool → Shared → Prop) (E : Value → Shared → Prop), Inv (X.suite a pn) [] σ H s → s.heap.get? a = some oe → oe.cls = .ref (cl c) → cs.lookup c = some b →
    (∀ h' tk, (∀ b o, s.heap.get? b = some o → h'.get? b = some o) → Q b { s with heap := h', toks := tk }) → wpAny (model X.prog X.w) (X.A.mark (some (.ref a))) (eval ty X.env) (fun v s1 => wpAny (model X.prog X.w) (X.A.mark (some (.ref a))) (excMatches (.ref a) v) Q E s1) E s
theorem flying_keep {B h h' : Heap} {l : List PySem.Env} {a : Addr} {Z : Obj → Prop} (k : ∀ b o, h.get? b = some o → h'.get? b = some o) (f : HandSPX.FlyingZ B l a Z h) : HandSPX.FlyingZ B l a Z h' := by
  obtain ⟨f1, f2, f3, oe, vs, T, oT, ts, e1, e2, e3, e4, e5, e6, e7, e8⟩ := f
  exact ⟨fun b o e => k b o (f1 b o e), f2, Heap.FunFrames.of_keeps (fun b o e _ => ⟨o, k b o e, rfl⟩) f3, oe, vs, T, oT, ts, k _ _ e1, e2, e3, e4, e5, e6, k _ _ e7, e8⟩
def unN (j : Nat) : Fl → Store → Res Fl
  | .nx ρ, S => .ok (.nx (ρ.set j none)) S
  | .bk ρ, S => .ok (.bk (ρ.set j none)) S
  | .ct ρ, S => .ok (.ct (ρ.set j none)) S
  | .rt d, S => .ok (.rt d) S
structure Hd where
  cs : List (Nat × Bool)
  j : Nat
  ms : MS
def mHands : List Hd → Exn → MS
  | [], _ => fun _ _ => .no
  | h :: r, e => fun ρ S => match h.cs.lookup e.cls with
    | some true => (nox (h.ms (ρ.set h.j (some (.exn e.cls e.fs))) S)).bind (unN h.j)
    | some false => mHands r e ρ S
    | none => .no
def mTry (hs : List Hd) (mb : MS) : MS := fun ρ S => match mb ρ S with
  | .ex e S1 => mHands hs e ρ S1
  | r => r
def tryK (hs : List Hd) (ρ : Env) : Res Fl → Res Fl
  | .ex e S1 => mHands hs e ρ S1
  | r => r
@[simp] theorem ap_try (hs : List Hd) (mb : MS) (ρ : Env) (S : Store) : mTry hs mb ρ S = tryK hs ρ (mb ρ S) := rfl
@[simp] theorem tryK_ok (hs : List Hd) (ρ : Env) (f : Fl) (S : Store) : tryK hs ρ (.ok f S) = .ok f S := rfl
@[simp] theorem tryK_ex (hs : List Hd) (ρ : Env) (e : Exn) (S : Store) : tryK hs ρ (.ex e S) = mHands hs e ρ S := rfl
theorem hands_yes (cs : List (Nat × Bool)) (j : Nat) (ms : MS) (r : List Hd) (e : Exn) (ρ : Env) (S : Store) (h : cs.lookup e.cls = some true) : mHands (⟨cs, j, ms⟩ :: r) e ρ S = (nox (ms (ρ.set j (some (.exn e.cls e.fs))) S)).bind (unN j) := by
  unfold mHands
  simp only [h]
@[simp] theorem unN_nx (j : Nat) (ρ : Env) (S : Store) : unN j (.nx ρ) S = .ok (.nx (ρ.set j none)) S := rfl
@[simp] theorem unN_rt (j : Nat) (d : D) (S : Store) : unN j (.rt d) S = .ok (.rt d) S := rfl
inductive HdsQ (X : Cx) (cl : Nat → Addr) : List ExceptHandler → List Hd → Prop
  | nil : HdsQ X cl [] []
  | cons {ty : Expr} {n : Str} {b₀ : Stmt} {suite : List Stmt} {pos : Pos} {cs : List (Nat × Bool)} {j : Nat} {ms : MS} {hds : List ExceptHandler} {r : List Hd} (hi : X.N[j]? = some n) (hln : X.env.kindOf n = some .local) (ht : HdT X cl ty cs)
      (hsu : ∀ (a : Addr) (pn : List (Addr × Obj)), QSs (X.suite a pn) cl E0 (b₀ :: suite) ms) (k : HdsQ X cl hds r) : HdsQ X cl (.ExceptHandler (some ty) (some n) (b₀ :: suite) pos :: hds) (⟨cs, j, ms⟩ :: r)
theorem EnvR.unset {Γ : Gm} {α : List Addr} {G : Hp} {ρ : Env} {σ : L2.St} (h : EnvR Γ α G ρ σ) (i : Nat) : EnvR Γ α G (ρ.set i none) (σ.set i none) := by
  refine ⟨by simp [h.1], fun j e hj => ?_⟩
  by_cases z : i = j
  · subst z
    have l := (List.getElem?_eq_some_iff.mp hj).1
    rw [List.length_set] at l
    rw [List.getElem?_set_self l] at hj
    cases hj
  · rw [List.getElem?_set_ne z] at hj ⊢
    exact h.2 j e hj
section
variable {X : Cx} {cl : Nat → Addr} {E : XK} {body : List Stmt} {pos : Pos}
def wTry (Γ : Gm) (E : XK) (hs : List Hd) (Dn : Ends) : WX := fun cls d σ H => ∃ e ρ S α G, EnvR Γ α G ρ σ ∧ Rl Γ α G S H ∧ ExR Γ α G e cls d H ∧ PostS Γ E α G H (mHands hs e ρ S) Dn
theorem qs_try {h₀ : ExceptHandler} {hds : List ExceptHandler} {hs : List Hd} {mb : MS} (hst : X.stack = X.env :: X.outer) (hf : X.env.frame = some X.env.locals) (hex : X.ex = []) (hN : X.N.Nodup)
    (hb : ∀ (W : WX) (pn : List (Addr × Obj)) (xe : Value → Shared → Prop), Takes (X.tr pn xe) W → PassesOwn (model X.prog X.w) X.A X.env xe → QXs (X.tr pn xe) cl W body mb)
    (hh : HdsQ X cl (h₀ :: hds) hs) : QS X cl E (.Try body (h₀ :: hds) [] [] pos) (mTry hs mb) := by
  refine ⟨fun Dn σ H => ∃ ρ S α G, EnvR ⟨X.K, cl⟩ α G ρ σ ∧ Rl ⟨X.K, cl⟩ α G S H ∧ PostS ⟨X.K, cl⟩ E α G H (mTry hs mb ρ S) Dn, ⟨fun pins s σ H D I h => ?_⟩, fun ρ S σ α G H Dn hρ hR hp => ⟨ρ, S, α, G, hρ, hR, hp⟩⟩
  obtain ⟨ρ0, S0, α0, G0, hρ0, hR0, hp0⟩ := h
  have ok := I.ok
  have hfr : X.A.frames = some (X.env :: X.outer) := ok.frames.trans (congrArg some hst)
  have toTr : ∀ xe', Inv (X.tr (X.pn ++ pins) xe') [] σ H s := fun xe' => I.toTry xe'
  -- the body's reading
  have start : ∀ W : WX, (∀ cls d σ' H', wTry ⟨X.K, cl⟩ E hs D cls d σ' H' → W cls d σ' H') → tX ⟨X.K, cl⟩ W mb D σ H := fun W hW => by
    refine ⟨ρ0, S0, α0, G0, hρ0, hR0, ?_⟩
    unfold mTry at hp0
    cases q : mb ρ0 S0 with
    | no => rw [q] at hp0; exact hp0.elim
    | ok f S1 => rw [q] at hp0; cases f <;> exact hp0
    | ex e S1 =>
      rw [q] at hp0
      exact fun α' G' H' c x e1 R1 r1 => hW _ _ _ _ ⟨e, ρ0, S1, α', G', hρ0.mono e1, R1, r1, PostS.mono hp0 e1⟩
  refine wpAny_Try_except ?_
  have leave : ∀ (xe' : Value → Shared → Prop) (u : Value) (s' : Shared), XE (X.tr (X.pn ++ pins) xe') (wTry ⟨X.K, cl⟩ E hs D) u s' → wpAny (model X.prog X.w) X.A (noteFrame u X.env) (fun _ s₂ => wpAny (model X.prog X.w) X.A (setFlight u none) (fun _ s₃ =>
      wpAny (model X.prog X.w) X.A (handleBy u X.env (h₀ :: hds)) (SP X pins D) X.xe s₃) X.xe s₂) X.xe s' := by
    rintro xe' u s' ⟨a, B, sI, pins', τ, J, cls, d, rfl, Ja, nb, up, sky, na, eos, bare, e, ρ, S, α, G, hρ, hR, hx, hp⟩
    have Ib : Inv X pins τ J sI := Ja.ofTry ok
    refine Sky.land Zc.steady hfr hf (B := B) (by rw [← hst]; exact sky) fun h3 fl3 up3 => ?_
    -- the exception is no frame, and it is newer than what the def found
    have apart : ∀ {h : Heap}, HandSPX.FlyingZ B (X.env :: X.outer) a (Zc cls d) h → a ∉ frs (X.env :: X.outer) := fun {h} fl hm => by
      obtain ⟨oe, ws, e1, _, e2⟩ := fl.there
      obtain ⟨_, o2, e3, nf⟩ := fl.2.2.1.mem hm
      rw [e1] at e3
      cases e3
      exact nf _ e2
    have nfr := apart fl3
    have nl : a ≠ X.env.locals := fun z => nfr (by rw [z]; exact List.mem_filterMap.mpr ⟨X.env, .head _, hf⟩)
    have inB : ∀ {b : Addr} {o : Obj}, sI.heap.get? b = some o → b ∉ frs X.stack → b ≠ a := fun {b o} q n z => by
      have := nb b o q n
      rw [z, fl3.2.1] at this
      cases this
    have n0 : X.s_0.heap.get? a = none := by
      cases q : X.s_0.heap.get? a with
      | none => rfl
      | some o =>
        obtain ⟨o', q'⟩ := Ib.base.there a o q (by rw [hex]; exact fun z => nomatch z)
        exact absurd rfl (inB q' (by rw [hst]; exact nfr))
    have np : ∀ p ∈ X.pn ++ pins, p.1 ≠ a := fun p hp => by
      obtain ⟨q1, _, q3, q4, _⟩ := Ib.pin p hp
      refine inB q1 fun hm => ?_
      rw [hst] at hm
      obtain ⟨v, hv, hw⟩ := List.mem_filterMap.mp hm
      rcases List.mem_cons.mp hv with z | z
      · rw [z, hf] at hw
        exact q3 (Option.some.inj hw).symm
      · exact q4 (List.mem_filterMap.mpr ⟨v, z, hw⟩)
    obtain ⟨ec, vs, rfs, exf⟩ := hx
    have toSuite : ∀ {τ' : St} {J' : Hp} {u : Shared}, Inv X pins τ' J' u → Inv (X.suite a (X.pn ++ pins)) [] τ' J' u := fun {τ' J' u} I' =>
      ⟨I'.ok.suite _ _, I'.os, I'.bare, I'.base, I'.loc, I'.cell, I'.free, I'.freeC, fun p hp => I'.pin p (by simpa using hp), I'.hok, I'.len⟩
    have offSuite : ∀ {τ' : St} {J' : Hp} {u : Shared}, Inv (X.suite a (X.pn ++ pins)) [] τ' J' u → Inv X pins τ' J' u := fun {τ' J' u} I' =>
      ⟨ok, I'.os, I'.bare, I'.base, I'.loc, I'.cell, I'.free, I'.freeC, fun p hp => I'.pin p (by simpa using hp), I'.hok, I'.len⟩
    have go : ∀ {hds' : List ExceptHandler} {hs' : List Hd}, HdsQ X cl hds' hs' → ∀ (h : Heap) (tk : Nat), HandSPX.FlyingZ B (X.env :: X.outer) a (Zc cls d) h → sI.heap.UpToSlots h → PostS ⟨X.K, cl⟩ E α G J (mHands hs' e ρ S) D →
        wpAny (model X.prog X.w) X.A (handleBy (.ref a) X.env hds') (SP X pins D) X.xe { s' with heap := h, toks := tk } := by
      intro hds' hs' hk
      induction hk with
      | nil => exact fun h tk _ _ hp => hp.elim
      | @cons ty n b₀ suite pos cs j ms hds2 r hi hln ht hsu k ih =>
        intro h tk fl up hp
        have I3 : Inv X pins τ J { s' with heap := h, toks := tk } := Ib.landed nb fl.1 up eos bare
        obtain ⟨oe, ws, he, hz, hd⟩ := fl.there
        unfold mHands at hp
        cases hl : cs.lookup e.cls with
        | none => simp only [hl] at hp; exact hp.elim
        | some b =>
        simp only [hl] at hp
        refine wpAny_handleBy_cons (codeAny_handlers_test ?_) (by intro q; cases q)
        refine ht.run a (X.pn ++ pins) τ J _ oe e.cls b _ _ (toSuite I3) he (hz.1.trans ec) hl (fun h' tk' kh => ?_)
        have fl' := flying_keep kh fl
        have up' : sI.heap.UpToSlots h' := up.trans (Heap.UpToSlots.of_keeps kh)
        cases b with
        | false => exact ih h' tk' fl' up' hp
        | true =>
          refine codeAny_handlers_suite_as ?_
          refine HandSPX.lands_againZ fl' fun h4 fl4 up4 => ?_
          have I4 : Inv X pins τ J { s' with heap := h4, toks := tk' } := Ib.landed nb fl4.1 (up'.trans up4) eos bare
          obtain ⟨oe4, ws4, he4, hz4, hd4⟩ := fl4.there
          have I5 := Inv.follow (toSuite I4) he4 hz4 hd4 na n0 nl (by simpa using np)
          refine store_ok (X := X.suite a (X.pn ++ pins)) (v := .ref a) I5 hN hi (.inl hln) rfl (fun s6 I6 => ?_) (.inr hln)
          obtain ⟨R7, e7⟩ := hR.new na (ExK cls d a)
          have rex : Rep ⟨X.K, cl⟩ α (upd G a (ExK cls d a)) (.exn e.cls e.fs) (.ref a) := by
            unfold Rep
            exact ⟨a, vs, rfl, ⟨d, by rw [upd_same, ec], exf.keep fun b fs q => by rw [upd_ne (fun z => by rw [z, hR.gnone na] at q; cases q)]; exact q⟩, RepL.mono e7.pre e7.sub _ _ rfs⟩
          have hp7 := PostS.mono hp e7
          obtain ⟨t, h1, h2⟩ := (hsu a (X.pn ++ pins)).ex
          refine wpAny_mono (h1.run [] s6 _ _ { nx := fun σ' H' => D.nx (σ'.set j none) H', rt := D.rt, bk := fun σ' H' => D.bk (σ'.set j none) H', ct := fun σ' H' => D.ct (σ'.set j none) H' } I6 (h2 (ρ.set j (some (.exn e.cls e.fs))) S _ α _ _ _ ((hρ.mono e7).set j rex) R7 ?_)) (fun f s7 hsp => ?_) (fun _ _ z => False.elim z)
          · revert hp7
            cases ms (ρ.set j (some (.exn e.cls e.fs))) S with
            | no => exact fun hp7 => hp7.elim
            | ex e' S' => exact fun hp7 => hp7.elim
            | ok f S' =>
              intro hp7
              cases f with
              | nx ρ' => exact fun α' G' H' σ' e8 R8 r8 => hp7 α' G' H' _ e8 R8 (r8.unset j)
              | bk ρ' => exact fun α' G' H' σ' e8 R8 r8 => hp7 α' G' H' _ e8 R8 (r8.unset j)
              | ct ρ' => exact fun α' G' H' σ' e8 R8 r8 => hp7 α' G' H' _ e8 R8 (r8.unset j)
              | rt v => exact hp7
          · have end_ : ∀ {τ' : St} {J' : Hp} {Q : Shared → Prop}, Inv (X.suite a (X.pn ++ pins)) [] τ' J' s7 → (∀ s8, Inv X pins (τ'.set j none) J' s8 → Q s8) → wpAny (model X.prog X.w) X.A (do bindName X.env n .none; unbindBehindTheSuite X.env n pos) (fun _ s8 => Q s8) X.xe s7 :=
              fun {τ' J' Q} I' hq => gone_ok (offSuite I') hN hi hln hq
            cases f with
            | next =>
              obtain ⟨τ8, J8, I8, q8⟩ := hsp
              exact end_ I8 fun s8 I9 => ⟨_, _, I9, q8⟩
            | brk =>
              obtain ⟨τ8, J8, I8, q8⟩ := hsp
              exact end_ I8 fun s8 I9 => ⟨_, _, I9, q8⟩
            | cont =>
              obtain ⟨τ8, J8, I8, q8⟩ := hsp
              exact end_ I8 fun s8 I9 => ⟨_, _, I9, q8⟩
            | ret u =>
              obtain ⟨v8, τ8, J8, I8, r8, q8⟩ := hsp
              exact end_ I8 fun s8 I9 => ⟨_, _, _, I9, r8, q8⟩
    exact go hh h3 s'.toks fl3 (up.trans up3) hp
  refine wpAny_mono ((hb (wTry ⟨X.K, cl⟩ E hs D) (X.pn ++ pins) _ (leave _) PassesOwn.looking).can.run [] s σ H D (toTr _) (start _ fun _ _ _ _ z => z)) (fun f s1 hsp => ?_) (fun _ _ z => z)
  cases f with
  | next =>
    obtain ⟨τ, J, I1, q⟩ := hsp
    exact wpAny_execs_nil ⟨τ, J, I1.ofTry ok, q⟩
  | brk =>
    obtain ⟨τ, J, I1, q⟩ := hsp
    exact ⟨τ, J, I1.ofTry ok, q⟩
  | cont =>
    obtain ⟨τ, J, I1, q⟩ := hsp
    exact ⟨τ, J, I1.ofTry ok, q⟩
  | ret u =>
    obtain ⟨v, τ, J, I1, r, q⟩ := hsp
    exact ⟨v, τ, J, I1.ofTry ok, r, q⟩
end
end Q
namespace Q
open PySem L2
section
variable {M : Model} {A : Around} {E : Value → Shared → Prop} {s : Shared}
theorem loopU {f : Value → PUnit → Sem (ForInStep PUnit)} {Q : PUnit → Shared → Prop} : ∀ {cs : List Value}, (∀ c ∈ cs, ∀ {Q' : ForInStep PUnit → Shared → Prop}, Q' (.yield ⟨⟩) s → wpAny M A (f c ⟨⟩) Q' E s) → Q ⟨⟩ s → wpAny M A (forIn cs ⟨⟩ f) Q E s
  | [], _, q => by rw [List.forIn_nil]; exact wpAny_pure q
  | c :: cs, h, q => by
    rw [List.forIn_cons]
    exact wpAny_bind (h c (List.mem_cons_self ..) (loopU (fun c' hc => h c' (List.mem_cons_of_mem _ hc)) q))
theorem loopF {sub : Value → Bool} {f : Value → (Option Bool × PUnit) → Sem (ForInStep ((Option Bool × PUnit)))} {Q : (Option Bool × PUnit) → Shared → Prop} : ∀ {cs : List Value},
    (∀ c ∈ cs, ∀ {Q' : ForInStep ((Option Bool × PUnit)) → Shared → Prop}, Q' (if sub c = true then .done (some true, ⟨⟩) else .yield (none, ⟨⟩)) s → wpAny M A (f c (none, ⟨⟩)) Q' E s) → Q (if cs.any sub = true then some true else none, ⟨⟩) s → wpAny M A (forIn cs (none, ⟨⟩) f) Q E s
  | [], _, q => by rw [List.forIn_nil]; exact wpAny_pure q
  | c :: cs, h, q => by
    rw [List.forIn_cons]
    refine wpAny_bind (h c (List.mem_cons_self ..) ?_)
    cases z : sub c with
    | true =>
      rw [List.any_cons, z] at q
      exact wpAny_pure q
    | false =>
      rw [List.any_cons, z] at q
      exact loopF (sub := sub) (fun c' hc => h c' (List.mem_cons_of_mem _ hc)) q
end
theorem exmAny_all {K : PySem.W.Frag} {cls : Value} : ∀ {cs : List Value} {b : Bool}, PySem.W.exmAny K cls cs = some b → (∀ c ∈ cs, ∃ v, PySem.W.exmOne K cls c = some v) ∧ b = cs.any fun c => PySem.W.exmOne K cls c == some true
  | [], b, h => by
    unfold PySem.W.exmAny at h
    cases h
    exact ⟨fun c hc => (nomatch hc), rfl⟩
  | c :: cs, b, h => by
    obtain ⟨b1, d1, h1, h2, rfl⟩ := PySem.W.exmAny_cons h
    obtain ⟨i1, i2⟩ := exmAny_all h2
    refine ⟨fun c' hc => ?_, ?_⟩
    · rcases List.mem_cons.mp hc with z | z
      · exact ⟨b1, by rw [z]; exact h1⟩
      · exact i1 c' z
    · rw [List.any_cons, h1, ← i2]
      cases b1 <;> rfl
theorem exm_tupN {M : Model} {K : PySem.W.Frag} {cs : List Value} {cls : Value} {tp e : Addr} {b : Bool} {h : Heap} (X : K.In h) (LT : PySem.W.Looks M h (typeOf (.ref e)) cls) (hp : h.get? tp = some { cls := .type "tuple", data := .seq cs.toArray }) (hx : PySem.W.exmAny K cls cs = some b) :
    PySem.W.Looks M h (excMatches (.ref e) (.ref tp)) b := by
  intro A Q E s k₀ q
  obtain ⟨hh, g, d, tk, os⟩ := s
  have k : ∀ b o, h.get? b = some o → hh.get? b = some o := k₀
  have LT0 : PySem.W.Looks M h (isInstance (.ref tp) (.type "tuple")) true := ((PySem.W.Looks.ld hp).andThen .now).andThen (PySem.W.Looks.of_pure isSubtype_tuple_tuple)
  obtain ⟨i1, i2⟩ := exmAny_all hx
  have hp' := k _ _ hp
  unfold excMatches
  refine wpAny_bind ((LT0.keeps k).at ?_)
  dsimp only
  rw [if_pos rfl]
  first
    | refine wpAny_bind (wpAny_seqItems hp' rfl ?_)
    | refine wpAny_bind (wpAny_bind (wpAny_seqItems hp' rfl (wpAny_pure ?_)))
  dsimp only [Option.getD_some, Option.getD]
  refine wpAny_bind (wpAny_pure ?_)
  refine wpAny_bind (loopU (cs := cs) (fun c hc Q' q' => ?_) ?_)
  · obtain ⟨v, hv⟩ := i1 c hc
    obtain ⟨L1, _⟩ := PySem.W.exm_cls (M := M) X hv
    refine wpAny_bind ((L1.keeps k).at ?_)
    exact wpAny_pure q'
  · refine wpAny_bind ((LT.keeps k).at ?_)
    refine wpAny_bind (loopF (cs := cs) (sub := fun c => PySem.W.exmOne K cls c == some true) (fun c hc Q' q' => ?_) ?_)
    · obtain ⟨v, hv⟩ := i1 c hc
      obtain ⟨_, L2⟩ := PySem.W.exm_cls (M := M) X hv
      refine wpAny_bind ((L2.keeps k).at ?_)
      rw [hv] at q'
      cases v <;> exact wpAny_pure q'
    · rw [← i2]
      cases b <;> exact wpAny_pure q
inductive NamesL (X : Cx) : List Expr → List Value → Prop
  | nil : NamesL X [] []
  | cons {x : Str} {p : Pos} {c : Value} {es : List Expr} {cs : List Value} (h : Names X x c) (k : NamesL X es cs) : NamesL X (.Name x p :: es) (c :: cs)
theorem namesL_run {X : Cx} {es : List Expr} {cs : List Value} (hn : NamesL X es cs) {pos : Pos} {pins : List (Addr × Obj)} {σ : St} {H : Hp} {s : Shared} {E : Value → Shared → Prop} (I : Inv X pins σ H s) : ∀ {Q : List Value → Shared → Prop}, Q cs s → wpAny (model X.prog X.w) X.A (spliced (backTo pos (starEach es X.env))) Q E s := by
  induction hn with
  | nil => exact fun q => Calls.spliced_nil q
  | @cons x p c es cs h k ih =>
    intro Q q
    show wpAny _ _ (spliced ((false, eval (.Name x p) X.env) :: backTo pos (starEach es X.env))) _ _ _
    have rest : wpAny (model X.prog X.w) X.A (spliced (backTo pos (starEach es X.env))) (fun vs s' => Q (c :: vs) s') E s := ih q
    refine Calls.spliced_cons ?_
    obtain ⟨hg, hdb, h1 | ⟨h1, hv, hnn⟩⟩ := h
    · exact ld_glob I hg h1 rest hdb
    · exact ld_blt I hg h1 hv rest hnn hdb
theorem NamesL.suite {X : Cx} {es : List Expr} {cs : List Value} (h : NamesL X es cs) (a : Addr) (pn : List (Addr × Obj)) : NamesL (X.suite a pn) es cs := by
  induction h with
  | nil => exact .nil
  | cons h k ih => exact .cons h ih
theorem hdt_tup {X : Cx} {cl : Nat → Addr} {es : List Expr} {vs : List Value} {k : Nat} {np : Pos} {cs : List (Nat × Bool)} (hn : NamesL X es vs) (hz : vs.length ≤ 1000) (hm : ∀ c b, cs.lookup c = some b → PySem.W.exmAny X.K (.ref (cl c)) vs = some b) : HdT X cl (.Tuple es k np) cs := by
  refine ⟨fun a pn σ H s oe c b Q E I ha hcls hl h => ?_⟩
  refine wpAny_Tuple_spliced (namesL_run (hn.suite a pn) I ⟨Nat.le_of_lt (small1000 hz), ?_⟩)
  have k' : ∀ b o, s.heap.get? b = some o → (s.heap.push { cls := .type "tuple", data := .seq vs.toArray }).get? b = some o := fun b o e => Heap.get?_push_of_some _ e
  have LT : PySem.W.Looks (model X.prog X.w) (s.heap.push { cls := .type "tuple", data := .seq vs.toArray }) (typeOf (.ref a)) (.ref (cl c)) := fun A Q E s' k q => wpAny_typeOf_ref (k _ _ (k' _ _ ha)) (by rw [hcls]; exact q)
  have LM := exm_tupN (M := model X.prog X.w) (I.kIn.keeps k') LT (Heap.get?_push_size _ rfl) (hm c b hl)
  exact LM.here (s := { s with heap := s.heap.push { cls := .type "tuple", data := .seq vs.toArray } }) (h _ s.toks k')
structure ExcQ (K : PySem.W.Frag) (C : Addr) : Prop where
  cl : (PySem.W.clsIn K C).isSome = true
  ga : PySem.W.findIn K (.ref C) "__getattribute__" = some (some (.builtin "BaseException.__getattribute__"))
  gg : PySem.W.findIn K (.ref C) "__getattr__" = some none
  sb : PySem.W.subIn K (.ref C) (.type "BaseException") = some true
  ca : PySem.W.findIn K (.ref C) "__class__" = some (some (.builtin "object.__class__"))
  cn : PySem.W.specialIn K (.builtin "object.__class__") "__get__" = some (some (.builtin "getset_descriptor.__get__"))
  ct : PySem.W.takesIn K (.builtin "object.__class__") = some true
  ob : PySem.W.mroIn K C (.type "object") = some true
def ExH (H : Hp) (a C : Addr) : Prop := ∃ d, H a = some (ExK (.ref C) d a) ∧ (d = none ∨ ∃ dd fs, d = some dd ∧ H dd = some (.xd fs))
theorem exn_inst {X : Cx} {pins : List (Addr × Obj)} {σ : St} {H : Hp} {s : Shared} {a C : Addr} (I : Inv X pins σ H s) (h : ExH H a C) : ∃ oe od, PySem.W.InstAt s.heap a oe C od := by
  obtain ⟨d, ha, hd⟩ := h
  obtain ⟨⟨oe, ws, e1, z, e2⟩, _⟩ := (show ObjOk X.prog X.w H s.heap a (.ext _) from I.hok a _ ha)
  have nc : PySem.W.notCls oe = true := by unfold PySem.W.notCls; rw [e2] <;> rfl
  rcases hd with rfl | ⟨dd, fs, rfl, hdd⟩
  · exact ⟨oe, none, e1, z.1, nc, by rw [z.2]; trivial⟩
  · obtain ⟨_, ⟨od, _, _, e3, _⟩, _⟩ := (show ObjOk X.prog X.w H s.heap dd (.xd fs) from I.hok dd _ hdd)
    exact ⟨oe, some od, e1, z.1, nc, by rw [z.2]; exact e3⟩
def rIsX (K : PySem.W.Frag) : List V → Hp → VK → Prop := fun xs H Q => ∃ (a C : Addr) (c : V) (cv : Value) (b : Bool), xs = [.ref a, c] ∧ ClsV c cv ∧ ExH H a C ∧ ExcQ K C ∧ PySem.W.kitOne K (.ref C) cv = some b ∧ Q (.bl b) H
theorem call_isX {X : Cx} : CallR X (.builtin "isinstance") (rIsX X.K) := by
  intro pins s σ H xs us Q I r h
  obtain ⟨a, C, c, cv, b, rfl, k, hx, T, e, q⟩ := h
  obtain ⟨u1, u2, rfl, r1, r2⟩ := vals2 r
  have e2 := k.eq r2
  subst e2
  cases (show u1 = Value.ref a from r1)
  obtain ⟨oe, od, J⟩ := exn_inst I hx
  exact PySem.W.kia_one (PySem.W.kitx_exc T.cl T.ga T.gg T.sb T.ca T.cn T.ct T.ob) I.kIn J e (fun z => nomatch z) fun tk => ⟨.bl b, H, I.tok tk, rfl, q⟩
def rIsXT (K : PySem.W.Frag) : List V → Hp → VK → Prop := fun xs H Q => ∃ (a C tp : Addr) (cs : List V) (ws : List Value) (b : Bool), xs = [.ref a, .ref tp] ∧ H tp = some (.tup cs) ∧ Paired ClsV cs ws ∧ ExH H a C ∧ ExcQ K C ∧ PySem.W.kitAny K (.ref C) ws = some b ∧ Q (.bl b) H
theorem call_isXT {X : Cx} : CallR X (.builtin "isinstance") (rIsXT X.K) := by
  intro pins s σ H xs us Q I r h
  obtain ⟨a, C, tp, cs, ws, b, rfl, hT, k, hx, T, e, q⟩ := h
  obtain ⟨u1, u2, rfl, r1, r2⟩ := vals2 r
  cases (show u2 = Value.ref tp from r2)
  cases (show u1 = Value.ref a from r1)
  obtain ⟨oe, od, J⟩ := exn_inst I hx
  obtain ⟨_, its, rv, o, h1, h2, n, h3⟩ := (show ObjOk X.prog X.w H s.heap tp (.tup cs) from I.hok tp _ hT)
  have e3 := ClsV.all k rv
  subst e3
  obtain ⟨oc, od', dt, sl⟩ := o
  simp only at h2 h3
  subst h2 h3
  exact PySem.W.kia_tup (PySem.W.kitx_exc T.cl T.ga T.gg T.sb T.ca T.cn T.ct T.ob) I.kIn J h1 e (fun z => nomatch z) fun tk => ⟨.bl b, H, I.tok tk, rfl, q⟩
section
variable {X : Cx} {cl : Nat → Addr} {E : XK} {pos : Pos} {a : Expr} {m : ME}
theorem exn_at {Γ : Gm} {α : List Addr} {G H : Hp} {S : Store} (R : Rl Γ α G S H) {c : Nat} {fs : List D} {v : V} (r : Rep Γ α G (.exn c fs) v) : ∃ p, v = .ref p ∧ ExH H p (Γ.cl c) := by
  unfold Rep at r
  obtain ⟨p, vs, rfl, ⟨d, h1, h2⟩, _⟩ := r
  refine ⟨p, rfl, d, R.sub _ _ h1, ?_⟩
  rcases h2 with ⟨_, z⟩ | ⟨nm, v, dd, _, e2, e3⟩
  · exact .inl z
  · exact .inr ⟨dd, _, e2, R.sub _ _ e3⟩
def isX (tab : List (Nat × Bool)) (d : D) (S : Store) : Res D := match d with
  | .exn c _ => match tab.lookup c with
    | some b => .ok (.bl b) S
    | none => .no
  | _ => .no
def mIsX (tab : List (Nat × Bool)) (m : ME) : ME := fun ρ S => (m ρ S).bind (isX tab)
theorem q_isX (tab : List (Nat × Bool)) {x : Str} {p p2 : Pos} {cv : V} {cw : Value} (h : QE X cl E a m) (hg : Gl X "isinstance") (hm : X.mg "isinstance" = none) (hc : PE X (.Name x p2) (tC cv)) (hcv : ClsV cv cw) (ht : ∀ c b, tab.lookup c = some b → ExcQ X.K (cl c) ∧ PySem.W.kitOne X.K (.ref (cl c)) cw = some b)
    (hs1 : starEach [a, .Name x p2] X.env = (false, eval a X.env) :: starEach [.Name x p2] X.env := by rfl) (hs2 : starEach [.Name x p2] X.env = (false, eval (.Name x p2) X.env) :: starEach [] X.env := by rfl) (hpl : (backTo pos (starEach [.Name x p2] X.env)).any (·.1) = false := by rfl) :
    QE X cl E (.Call (.Name "isinstance" p) [a, .Name x p2] [] pos) (mIsX tab m) := by
  obtain ⟨t, h1, h2⟩ := h.ex
  refine ⟨_, pe_callB call_isX hg hm (by decide +kernel) (pa_cons h1 (pa_cons hc pa_nil hs2) hs1) (by decide) (by decide) hs1 hpl, fun ρ S σ α G H Q hρ hR hp => h2 ρ S σ α G H _ hρ hR (post_bind hp fun d S1 α1 G1 H1 v _ e1 R1 r1 hp1 => ?_)⟩
  cases d <;> try exact hp1.elim
  rename_i c fs _
  simp only [isX] at hp1
  cases hl : tab.lookup c with
  | none => simp only [hl] at hp1; exact hp1.elim
  | some b =>
    simp only [hl] at hp1
    obtain ⟨p, rfl, hx⟩ := exn_at R1 r1
    obtain ⟨T, e⟩ := ht c b hl
    exact ⟨p, cl c, cv, cw, b, rfl, hcv, hx, T, e, post_ok hp1 R1 (by simp [Rep])⟩
theorem q_isX3 (tab : List (Nat × Bool)) {x y z : Str} {p p2 p3 p4 p5 : Pos} {x1} {cv cv2 cv3 : V} {cw cw2 cw3 : Value} (h : QE X cl E a m) (hg : Gl X "isinstance") (hm : X.mg "isinstance" = none) (hc : PE X (.Name x p2) (tC cv)) (hcv : ClsV cv cw) (hc2 : PE X (.Name y p3) (tC cv2)) (hcv2 : ClsV cv2 cw2) (hc3 : PE X (.Name z p4) (tC cv3)) (hcv3 : ClsV cv3 cw3)
    (ht : ∀ c b, tab.lookup c = some b → ExcQ X.K (cl c) ∧ PySem.W.kitAny X.K (.ref (cl c)) [cw, cw2, cw3] = some b)
    (hs1 : starEach [a, .Tuple [.Name x p2, .Name y p3, .Name z p4] x1 p5] X.env = (false, eval a X.env) :: starEach [.Tuple [.Name x p2, .Name y p3, .Name z p4] x1 p5] X.env := by rfl) (hs2 : starEach [.Tuple [.Name x p2, .Name y p3, .Name z p4] x1 p5] X.env = (false, eval (.Tuple [.Name x p2, .Name y p3, .Name z p4] x1 p5) X.env) :: starEach [] X.env := by rfl)
    (hs3 : starEach [.Name x p2, .Name y p3, .Name z p4] X.env = (false, eval (.Name x p2) X.env) :: starEach [.Name y p3, .Name z p4] X.env := by rfl) (hs4 : starEach [.Name y p3, .Name z p4] X.env = (false, eval (.Name y p3) X.env) :: starEach [.Name z p4] X.env := by rfl) (hs5 : starEach [.Name z p4] X.env = (false, eval (.Name z p4) X.env) :: starEach [] X.env := by rfl)
    (hpl : (backTo pos (starEach [.Tuple [.Name x p2, .Name y p3, .Name z p4] x1 p5] X.env)).any (·.1) = false := by rfl) :
    QE X cl E (.Call (.Name "isinstance" p) [a, .Tuple [.Name x p2, .Name y p3, .Name z p4] x1 p5] [] pos) (mIsX tab m) := by
  obtain ⟨t, h1, h2⟩ := h.ex
  refine ⟨_, pe_callB call_isXT hg hm (by decide +kernel) (pa_cons h1 (pa_cons (pe_tup (pa_cons hc (pa_cons hc2 (pa_cons hc3 pa_nil hs5) hs4) hs3)) pa_nil hs2) hs1) (by decide) (by decide) hs1 hpl, fun ρ S σ α G H Q hρ hR hp => h2 ρ S σ α G H _ hρ hR (post_bind hp fun d S1 α1 G1 H1 v _ e1 R1 r1 hp1 => ?_)⟩
  cases d <;> try exact hp1.elim
  rename_i c fs _
  simp only [isX] at hp1
  cases hl : tab.lookup c with
  | none => simp only [hl] at hp1; exact hp1.elim
  | some b =>
    simp only [hl] at hp1
    refine ⟨sz (by simp), fun tp htp => ?_⟩
    obtain ⟨R2, e2⟩ := R1.out htp (.tup [cv, cv2, cv3])
    obtain ⟨p, rfl, hx⟩ := exn_at R2 (Rep.mono e2.pre e2.sub _ _ r1)
    obtain ⟨T, e⟩ := ht c b hl
    exact ⟨p, cl c, tp, [cv, cv2, cv3], [cw, cw2, cw3], b, rfl, upd_same, .cons hcv (.cons hcv2 (.cons hcv3 .nil)), hx, T, e, hp1 _ _ _ _ e2 R2 (by simp [Rep])⟩
end
@[simp] theorem ap_isX (tab : List (Nat × Bool)) (m : ME) (ρ : Env) (S : Store) : mIsX tab m ρ S = (m ρ S).bind (isX tab) := rfl
theorem isX_exn (tab : List (Nat × Bool)) (c : Nat) (fs : List D) (S : Store) {b : Bool} (h : tab.lookup c = some b) : isX tab (.exn c fs) S = .ok (.bl b) S := by
  unfold isX
  simp only [h]
@[simp] theorem isNon_exn (c : Nat) (fs : List D) : isNon (.exn c fs) = false := (Eq.refl _).trans rfl
@[simp] theorem pureD_exn (c : Nat) (fs : List D) : pureD (.exn c fs) = pureL fs := (Eq.refl _).trans rfl
theorem tab_nil {P : Nat → Bool → Prop} : ∀ c b, ([] : List (Nat × Bool)).lookup c = some b → P c b := fun _ _ h => nomatch h
theorem tab_cons {P : Nat → Bool → Prop} {c : Nat} {b : Bool} {r : List (Nat × Bool)} (h : P c b) (k : ∀ c' b', r.lookup c' = some b' → P c' b') : ∀ c' b', ((c, b) :: r).lookup c' = some b' → P c' b' := fun c' b' e => by
  rw [List.lookup_cons] at e
  split at e
  · rename_i q
    have := eq_of_beq q
    subst this
    cases e
    exact h
  · exact k c' b' e
end Q
namespace Q
open PySem L2 PySem.Spec PyProof.Rows
end Q
namespace L2
open PySem PySem.Spec PyProof.Rows
end L2
namespace Q
open PySem L2
end Q
namespace L2
open PySem PySem.Spec PyProof.Rows PySem.W
end L2
namespace Q
open PySem L2
end Q
namespace L2
open PySem PySem.Spec PyProof.Rows PySem.W
end L2
namespace Q
open PySem L2
end Q
namespace Q
open PySem L2
section
open PySem.W PySem.Calls PyProof.Rows
variable {prog : Program} {w : World} {A : Around} {E : Value → Shared → Prop} {s : Shared} {K : Frag} {x C L f g : Addr} {h₀ : Heap} {m : Str → Option Value} {ox : Obj} {od : Option Obj} {i : Int} {t : Tok}
structure MulC (K : Frag) (C f g : Addr) : Prop where
  self : selfFirst K C = true
  mul : findIn K (.ref C) (dunder "mul") = some (some (.ref f))
  rmul : findIn K (.ref C) (dunderR "mul") = some (some (.ref g))
  fnf : isFn K (.ref f) = true
  fng : isFn K (.ref g) = true
  noint : subIn K (.ref C) (.type "int") = some false
end
section
variable {X : Cx} {C f g : Addr} {n : Nat} {sp : Sp} {E : XK} {CX : CXT}
open PyProof.Rows
structure MulI (K : PySem.W.Frag) (C : Addr) : Prop where
  fo : ∃ fo, PySem.W.findIn K (.type "int") (dunder "mul") = some fo
  ro : ∃ ro, PySem.W.findIn K (.type "int") (dunderR "mul") = some ro
  sub : PySem.W.subIn K (.type "int") (.ref C) = some false
structure AddC (K : PySem.W.Frag) (C f : Addr) : Prop where
  self : PySem.W.selfFirst K C = true
  add : PySem.W.findIn K (.ref C) (dunder "add") = some (some (.ref f))
  fnf : PySem.W.isFn K (.ref f) = true
end
section
open PySem.Spec PyProof.Rows
variable {X : Cx} {CX : CXT} {g : Addr} {C : Addr} {n : Nat} {sp : Sp} {E : XK}
structure InC (K : PySem.W.Frag) (C g : Addr) : Prop where
  at_ : PySem.W.findIn K (.ref C) "__contains__" = some (some (.ref g))
  fn : PySem.W.isFn K (.ref g) = true
end
end Q
namespace L2
open PySem PySem.Spec PyProof.Rows
end L2
namespace Q
open PySem L2
end Q
namespace Q
open PySem L2 PySem.Spec PyProof.Rows
structure FnG (P : Program) (w : World) (K : PySem.W.Frag) (mg : Str → Option Value) (base : Heap) (CX : CXT) (k : Nat) (f : Addr) (fd : FuncData) (ps : List Str) (sp : Sp) : Prop where
  size : ∀ vs H W E, sp vs H W E → vs.length = ps.length
  runs : ∀ (A : Around) (fs : List PySem.Env) (s : Shared) (H : Hp) (ar : Args) (us : List Value) (vs : List V) (W : VK) (E : XK), A.guards = some [] → Room k A → Env0 P w K mg base A fs s H → BindsTo s fd ar (ps.zip us) → Vals vs us → sp vs H W E →
    codeAny (model P w) A (.call (.ref f) ar) (CR CX fs P w H s W E) s
section
variable {P : Program} {w : World} {K : PySem.W.Frag} {mg : Str → Option Value} {base : Heap} {CX : CXT}
theorem FnG.of {k : Nat} {f : Addr} {fd : FuncData} {ps : List Str} {sp : Sp} (F : FnOk P w K mg base CX k f fd ps sp) : FnG P w K mg base CX k f fd ps sp :=
  ⟨F.len, fun A fs s H ar us vs W E _ r e b v h => F.run A fs s H ar us vs W E r e b v h⟩
theorem FnG.imp {k : Nat} {f : Addr} {fd : FuncData} {ps : List Str} {sp sp' : Sp} (F : FnG P w K mg base CX k f fd ps sp) (h : ∀ vs H W E, sp' vs H W E → sp vs H W E) : FnG P w K mg base CX k f fd ps sp' :=
  ⟨fun vs H W E q => F.size vs H W E (h _ _ _ _ q), fun A fs s H ar us vs W E g r e b v q => F.runs A fs s H ar us vs W E g r e b v (h _ _ _ _ q)⟩
end
mutual
def rpC : D → Nat
  | .non => 0
  | .bl _ => 0
  | .int i => if i.natAbs < 10 ^ 200 then 0 else 1000000000
  | .str s => s.cps.size
  | .tup xs => rpCL xs
  | .lst xs => rpCL xs
  | _ => 1000000000
def rpCL : List D → Nat
  | [] => 0
  | x :: xs => rpC x + 1 + rpCL xs
end
mutual
theorem rpC_bulk : ∀ (d : D), rpC d ≤ 65536 → (toPy d).bulk ≤ rpC d ∧ (toPy d).intsShort 201 = true ∧ (toPy d).showable = true
  | .non, _ => ⟨Nat.zero_le _, rfl, rfl⟩
  | .bl _, _ => ⟨Nat.zero_le _, rfl, rfl⟩
  | .int i, h => by
    unfold rpC at h
    split at h
    · rename_i c
      refine ⟨Nat.zero_le _, ?_, ?_⟩
      · unfold toPy PyData.intsShort
        refine decide_eq_true ?_
        show (Str.ofString (toString i)).length ≤ 201
        rw [PySem.ofString_length]
        exact int_text_length_le10 (k := 200) (by decide) c
      · unfold toPy PyData.showable
        refine decide_eq_true ?_
        by_cases z : i.natAbs = 0
        · rw [z]; decide
        · exact (Nat.log2_lt z).mpr (Nat.lt_trans c (by decide +kernel))
    · omega
  | .str s, _ => ⟨Nat.le_refl _, rfl, rfl⟩
  | .tup xs, h => by
    unfold rpC at h ⊢
    obtain ⟨a, b, c⟩ := rpCL_bulk xs h
    exact ⟨by unfold toPy PyData.bulk; exact a, by unfold toPy PyData.intsShort; exact b, by unfold toPy PyData.showable; exact c⟩
  | .lst xs, h => by
    unfold rpC at h ⊢
    obtain ⟨a, b, c⟩ := rpCL_bulk xs h
    exact ⟨by unfold toPy PyData.bulk; exact a, by unfold toPy PyData.intsShort; exact b, by unfold toPy PyData.showable; exact c⟩
  | .fro _, h => by unfold rpC at h; omega
  | .obj _ _, h => by unfold rpC at h; omega
  | .exn _ _, h => by unfold rpC at h; omega
  | .ref _, h => by unfold rpC at h; omega
theorem rpCL_bulk : ∀ (xs : List D), rpCL xs ≤ 65536 → PyData.bulkAll (toPyL xs) ≤ rpCL xs ∧ PyData.intsShortAll 201 (toPyL xs) = true ∧ PyData.showableAll (toPyL xs) = true
  | [], _ => ⟨Nat.zero_le _, rfl, rfl⟩
  | x :: xs, h => by
    unfold rpCL at h ⊢
    obtain ⟨a, b, c⟩ := rpC_bulk x (by omega)
    obtain ⟨a', b', c'⟩ := rpCL_bulk xs (by omega)
    refine ⟨?_, ?_, ?_⟩
    · unfold toPyL PyData.bulkAll; omega
    · unfold toPyL PyData.intsShortAll; rw [b, b']; rfl
    · unfold toPyL PyData.showableAll; rw [c, c']; rfl
end
end Q
namespace L2
open PySem PySem.Spec PyProof.Rows PySem.W
end L2
namespace Q
open PySem L2
end Q
namespace Q
open PySem L2
end Q
namespace Q
open PySem L2
end Q
namespace Q
open PySem L2
end Q
namespace Q
open PySem L2 PySem.Spec PyProof.Rows
def Cst.d : Cst → D
  | .bl b => .bl b
  | .int i => .int i
def Cst.v : Cst → V
  | .bl b => .bl b
  | .int i => .int i
theorem Cst.rep {Γ : Gm} {α : List Addr} {G : Hp} (c : Cst) : Rep Γ α G c.d c.v := by cases c <;> simp [Cst.d, Cst.v, Rep]
structure KwD (K : PySem.W.Frag) (f : Addr) (x : Str) (c : Cst) : Prop where
  ex : ∃ (oc : Value) (od : Option Addr) (fd : FuncData) (osl : Array (Option Value)) (E : Addr) (u : Value), K.lookup f = some ⟨oc, od, .func fd, osl⟩ ∧ fd.kwdefaults = .ref E ∧ PySem.W.nsIn K E x = some (some u) ∧ c.is u = true
end Q
namespace L2
open PySem PySem.Spec PyProof.Rows
end L2
namespace Q
open PySem L2
section
variable {Γ : Gm} {α : List Addr} {G H : Hp} {S : Store} {E : XK}
theorem Rl.see {a : Addr} {vs : List V} (R : Rl Γ α G S H) (h : H a = some (.tup vs)) : Sub G (upd G a (.tup vs)) ∧ Rl Γ α (upd G a (.tup vs)) S H := by
  have sb : Sub G (upd G a (.tup vs)) := fun b o hb => by
    by_cases e : b = a
    · subst e
      rw [upd_same]
      have := R.sub b o hb
      rw [h] at this
      exact this
    · rw [upd_ne e]; exact hb
  refine ⟨sb, ⟨fun b o hb => ?_, R.len, R.nd, R.tr, fun k c b hc hb => ?_⟩⟩
  · by_cases e : b = a
    · subst e
      rw [upd_same] at hb
      rw [h]; exact hb
    · rw [upd_ne e] at hb; exact R.sub b o hb
  · refine (R.ok k c b hc hb).mono ⟨[], by simp⟩ sb fun _ => ⟨rfl, fun hn => ?_⟩
    have ne : b ≠ a := fun e => by
      subst e
      exact R.ntup (List.mem_of_getElem? hb) vs h
    rw [upd_ne ne]; exact hn
end
end Q
namespace Q
open PySem L2 PySem.Spec PyProof.Rows
end Q
namespace Q
open PySem L2
end Q
set_option maxHeartbeats 1000000
namespace Q
namespace ZG
open PySem PySem.Sem
section
variable {prog : Program} {w : World} {A : Around}
structure Source (prog : Program) (w : World) (A : Around) (i l : Addr) (xs : Array Value) (P : Nat → Heap → Prop) : Prop where
  keep : ∀ {k h h'}, P k h → (∀ o, h.get? i = some o → h'.get? i = some o) → (∀ o, h.get? l = some o → h'.get? l = some o) → P k h'
  item : ∀ {k} {s : Shared} {x E Q}, P k s.heap → xs[k]? = some x → (∀ h', P (k + 1) h' → Heap.SameBut i s.heap h' → Q x { s with heap := h' }) → wpAny (model prog w) A (Builtin.SmallTypes.nextOf (.ref i)) Q E s
  done : ∀ {k} {s : Shared} {E Q}, P k s.heap → xs[k]? = none → (∀ h' e, Heap.ExtBut i s.heap h' → (∃ o, h'.get? e = some o ∧ o.cls = .type "StopIteration") → E (.ref e) { s with heap := h' }) → wpAny (model prog w) A (Builtin.SmallTypes.nextOf (.ref i)) Q E s
  lt : ∀ {k h}, P k h → i < h.objs.size
variable {z ti own p q u v : Addr} {k m : Nat} {xs ys : Array Value} {P₁ P₂ : Nat → Heap → Prop} {s : Shared} {E : Value → Shared → Prop}
end
end ZG
open PySem PySem.Spec PyProof.Rows L2 ZG
end Q
set_option maxHeartbeats 1000000
namespace Q
namespace ZG
open PySem PySem.Sem
end ZG
open PySem PySem.Spec PyProof.Rows L2 ZG
end Q
set_option maxHeartbeats 1000000
namespace L2
open PySem PySem.Spec PyProof.Rows
end L2
namespace Q
open PySem PySem.Spec PyProof.Rows L2
end Q
namespace Q
open PySem L2
end Q
namespace Q
open PySem L2
end Q
namespace Q
open PySem L2
end Q
namespace L2
open PySem PySem.Spec PyProof.Rows
end L2
namespace Q
open PySem L2
end Q
namespace Q
open PySem L2
end Q
namespace L2
open PySem PySem.Spec PyProof.Rows PySem.W
end L2
namespace Q
open PySem L2
end Q
namespace Q
open PySem L2
end Q
namespace Q
open PySem L2
end Q
namespace L2
open PySem PySem.Spec PyProof.Rows PySem.W
theorem maxOf_spec : ∀ (xs : List Int) (x : Int), maxOf x xs ∈ x :: xs ∧ ∀ y ∈ x :: xs, y ≤ maxOf x xs
  | [], x => ⟨List.mem_cons_self .., fun y hy => by rw [List.mem_singleton.mp hy]; exact Int.le_refl _⟩
  | z :: xs, x => by
    have e : maxOf x (z :: xs) = maxOf (if DatumOrd.lt x z = true then z else x) xs := rfl
    obtain ⟨h1, h2⟩ := maxOf_spec xs (if DatumOrd.lt x z = true then z else x)
    have el : DatumOrd.lt x z = decide (x < z) := rfl
    rw [e]
    rw [el] at h1 h2 ⊢
    by_cases c : x < z
    · rw [decide_eq_true c, if_pos rfl] at h1 h2 ⊢
      exact ⟨List.mem_cons_of_mem _ h1, fun y hy => by
        rcases List.mem_cons.mp hy with rfl | hy
        · have := h2 z (List.mem_cons_self ..)
          omega
        · exact h2 y hy⟩
    · rw [decide_eq_false c, if_neg (by decide)] at h1 h2 ⊢
      refine ⟨?_, fun y hy => ?_⟩
      · rcases List.mem_cons.mp h1 with g | g
        · rw [g]; exact List.mem_cons_self ..
        · exact List.mem_cons_of_mem _ (List.mem_cons_of_mem _ g)
      · have h0 := h2 x (List.mem_cons_self ..)
        rcases List.mem_cons.mp hy with rfl | hy
        · exact h0
        · rcases List.mem_cons.mp hy with rfl | hy
          · omega
          · exact h2 y (List.mem_cons_of_mem _ hy)
section
variable {X : Cx}
def rMaxT (K : PySem.W.Frag) : List V → Hp → VK → Prop := fun vs H Q => ∃ (a : Addr) (x : Int) (xs : List Int), vs = [V.ref a] ∧ SqT K H a ((x :: xs).map V.int) ∧ Q (.int (maxOf x xs)) H
theorem cr_maxT (hc : X.calm = true) (hu : X.A.units + 64 < cLine) : CallR X (.builtin "max") (rMaxT X.K) := by
  intro pins s σ H vs us Q I r h
  obtain ⟨a, x, xs, rfl, hl, q⟩ := h
  obtain rfl := Vals.ref1 r
  obtain ⟨its, rv, pl, hz⟩ := I.tuple hl
  have hi : IntsAre its (x :: xs) := ints_of_vals rv
  refine max_tuple_datum (α := Int) (x := x) (xs := xs) (I.ok.hd hc) (show s.heap.IsTuple a its.toArray from pl) (by simpa using HoldAll.of_ints hi) (by show X.A.units + 1 + 0 < cLine; omega) fun i v h' tk _ hv keep => ?_
  obtain ⟨t, rfl⟩ := int_of_holds hv
  exact ⟨.int (maxOf x xs), H, I.kept (t' := tk) keep, ⟨t, rfl⟩, q⟩
end
end L2
namespace Q
open PySem L2
def maxTK (d : D) (S : Store) : Res D := match d with
  | .tup xs => match intsQ xs with
    | some (x :: ns) => .ok (.int (maxI (x :: ns))) S
    | _ => .no
  | _ => .no
def fMaxT := un1 maxTK
theorem maxOf_maxI (x : Int) (ns : List Int) : PySem.W.maxOf x ns = maxI (x :: ns) := by
  obtain ⟨h1, h2⟩ := L2.maxOf_spec ns x
  have a := maxI_ge h1
  have b := h2 _ (maxI_mem (ns := x :: ns) (by simp))
  omega
section
variable {X : Cx} {cl : Nat → Addr} {E : XK}
theorem maxTQ {k : Nat} (hr : Room k X.A) (hc : X.calm = true := by rfl) : QC X cl E (.builtin "max") fMaxT := ⟨_, cr_maxT hc hr.units, snd_un1 fun d S α G H v Q hR rv h => by
  cases d with
  | tup xs =>
    simp only [maxTK] at h
    cases q : intsQ xs with
    | none => rw [q] at h; exact h.elim
    | some ns =>
      rw [q] at h
      cases ns with
      | nil => exact h.elim
      | cons x ns =>
        simp only at h
        have e := intsQ_map q
        subst e
        unfold Rep at rv
        obtain ⟨a, vs, rfl, s1, t1⟩ := rv
        have ev := ints_vals t1
        subst ev
        refine ⟨a, x, ns, rfl, hR.sub.sqT (.inl (.inl s1)), ?_⟩
        rw [maxOf_maxI]
        exact post_ok h hR (by simp [Rep])
  | _ => exact h.elim⟩
end
section
variable {S : Store}
theorem maxT_ints {x : Int} {ns : List Int} : fMaxT [.tup ((x :: ns).map .int)] S = .ok (.int (maxI (x :: ns))) S := by
  unfold fMaxT un1 maxTK
  simp only [intsQ_ints]
end
end Q
namespace Q
open PySem PySem.HandSPX
end Q
namespace Q
open PySem L2 PySem.Calls PyProof.Rows PySem.HandSPX
structure SupSrc1 (st : Stmt) (txt par fl : Str) (e2 : Expr) : Prop where
  body : ∃ (j : Nat) (p0 p1 p2 p3 p4 p5 q1 q2 q3 : Pos), defBody st = [.Expr (.Call (.Attribute (.Call (.Name "super" p0) [] [] p1) "__init__" p2) [.Constant (.str txt) j p3] [] p4) p5, .Assign [.Attribute (.Name "self" q1) fl q2] e2 q3] ∧
    (∀ (qual : Str) (L fa cc : Addr) (cd : Value), ∃ pl : Sem Bool, eval (.Call (.Attribute (.Call (.Name "super" p0) [] [] p1) "__init__" p2) [.Constant (.str txt) j p3] [] p4) (PySem.W.ksEnv qual (defScope st) L fa cd cc) = (do
      let ov ← attributeBase (.Call (.Name "super" p0) [] [] p1) "__init__" (PySem.W.ksEnv qual (defScope st) L fa cd cc) (eval (.Call (.Name "super" p0) [] [] p1) (PySem.W.ksEnv qual (defScope st) L fa cd cc))
      standAt p2.atName
      let (fn, first) ← holding [ov] (getMethod ov "__init__" pl)
      callWith p4 fn first (backTo p4 (starEach [.Constant (.str txt) j p3] (PySem.W.ksEnv qual (defScope st) L fa cd cc))) [])) ∧
    ∀ (qual : Str) (L fa cc : Addr) (cd : Value), swapsWith e2 (some (.Attribute (.Name "self" q1) fl q2)) q3.line (PySem.W.ksEnv qual (defScope st) L fa cd cc) = pure false
  arg : ∃ ar ar2 : Arg, (defArgs st).posonlyargs ++ (defArgs st).args = [ar, ar2] ∧ ar.arg = ("self" : Str)
  ne : (("self" : Str) == par) = false
  ns : (defScope st).names.lookup ("super" : Str) = some .globalImplicit
  nc : (defScope st).names.lookup ("__class__" : Str) = some .free
  nl : (defScope st).names.lookup ("self" : Str) = some .local
  np : (defScope st).names.lookup par = some .local
  ki : (defScope st).kind = .function
  it : ∀ (qual : Str) (L fa cc : Addr) (cd : Value), interactive (PySem.W.ksEnv qual (defScope st) L fa cd cc) = false
  co : (defScope st).isCoroutine = false
  ge : (defScope st).isGenerator = false
  ce : ∀ x ∈ (defScope st).names, x.2 ≠ .cell
  bi : ∀ (cc : Addr) (x qual : Str) (kV doc pm : Value) (an : Option Addr) (cdv ct u v : Value), bindArgs (PySem.W.ksFn x qual (defArgs st) (defBody st) (defScope st) .none kV doc pm an cdv ct cc) ⟨[u, v], []⟩ = pure [(("self" : Str), u), (par, v)]
structure ExcS (K : PySem.W.Frag) (C : Addr) (B : String) (bmB : List Value) (fl : Str) : Prop where
  sf : PySem.StoreFacts B bmB "object.__setattr__" "object"
  sa : PySem.W.findIn K (.ref C) "__setattr__" = some (some (.builtin "object.__setattr__"))
  ov : PySem.W.excOver K C bmB = true
  hd : PySem.W.hasDictIn K C = true
  tk : PySem.W.takerIn K C fl = some none
end Q
namespace Q
open PySem L2 PySem.Calls PyProof.Rows
end Q
namespace Q
open PySem L2 PySem.Calls PyProof.Rows
section
variable {X : Cx} {cl : Nat → Addr} {E : XK} {pos : Pos}
structure XfQ (K : PySem.W.Frag) (C : Addr) (fl : Str) : Prop where
  c : XfC K C
  no : PySem.W.findIn K (.ref C) fl = some none
end
end Q
namespace Q
namespace ZG
open PySem PySem.Sem
abbrev IsZV (h : Heap) (z ti own : Addr) (f0 : Value) (f : Bool) : Prop := h.get? z = some { cls := .type "zip", dict := none, data := .fields #[f0, .bool f, .bool false, .ref ti, .ref own], slots := #[] }
def IsZF (h : Heap) (z ti own : Addr) : Prop := ∃ (f0 : Value) (f : Bool), IsZV h z ti own f0 f ∧ (f0 = .none ∨ ∃ T : Addr, f0 = rawInt T)
section
variable {prog : Program} {w : World} {A : Around}
variable {z ti own p q u v : Addr} {k m : Nat} {xs ys : Array Value} {P₁ P₂ : Nat → Heap → Prop} {s : Shared} {E : Value → Shared → Prop}
theorem IsZF.at {h g : Heap} (iz : IsZF h z ti own) (k : ∀ o, h.get? z = some o → g.get? z = some o) : IsZF g z ti own := by
  obtain ⟨f0, f, e, hf⟩ := iz
  exact ⟨f0, f, k _ e, hf⟩
end
end ZG
open PySem PySem.Spec PyProof.Rows L2 ZG
end Q
namespace Q
open PySem L2
end Q
namespace Q
open PySem L2
structure IAddC (K : PySem.W.Frag) (C f : Addr) : Prop where
  self : PySem.W.selfFirst K C = true
  iadd : PySem.W.findIn K (.ref C) (dunderI "add") = some (some (.ref f))
  fnf : PySem.W.isFn K (.ref f) = true
end Q
namespace Q
open PySem L2
end Q
namespace Q
open PySem L2
end Q
namespace Q
open PySem L2
structure SetC (K : PySem.W.Frag) (C f : Addr) : Prop where
  seq : PySem.W.noSeq K C = true
  at_ : PySem.W.findIn K (.ref C) "__setitem__" = some (some (.ref f))
  fnf : PySem.W.isFn K (.ref f) = true
end Q
namespace Q
open PySem L2
end Q
namespace Q
open PySem L2 PySem.Calls PyProof.Rows PySem.HandSPX
end Q
namespace Q
open PySem L2
abbrev Src := Store → Option (List D)
def StepsV (Γ : Gm) (α : List Addr) (src : Src) (J : It) : Prop := ∀ (i : Nat) (α2 : List Addr) (G2 H2 : Hp) (S2 : Store) (ds : List D), (∃ β, α2 = α ++ β) → Rl Γ α2 G2 S2 H2 → src S2 = some ds →
  (ds.length ≤ i → J.stop i H2) ∧ ∀ d, ds[i]? = some d → J.go i H2 ∧ ∀ x H3, J.yld i H2 x H3 → ∃ G3, Rl Γ α2 G3 S2 H3 ∧ Ext α2 G2 H2 α2 G3 H3 ∧ Rep Γ α2 G3 d x
abbrev MV := Env → Store → Res Src
def PostV (Γ : Gm) (E : XK) (α : List Addr) (G H : Hp) (r : Res Src) (R : It → Hp → Prop) : Prop := match r with
  | .ok s S' => ∀ α' G' H' J, Ext α G H α' G' H' → Rl Γ α' G' S' H' → StepsV Γ α' s J → R J H'
  | .ex e S' => ∀ α' G' H' c x, Ext α G H α' G' H' → Rl Γ α' G' S' H' → ExR Γ α' G' e c x H' → E c x H'
  | .no => False
theorem PostV.mono {Γ : Gm} {E : XK} {α α1 : List Addr} {G H G1 H1 : Hp} {r : Res Src} {R : It → Hp → Prop} (h : PostV Γ E α G H r R) (e : Ext α G H α1 G1 H1) : PostV Γ E α1 G1 H1 r R := by
  cases r with
  | ok d S' => exact fun α' G' H' v x rl rp => h α' G' H' v (e.trans x) rl rp
  | ex d S' => exact fun α' G' H' c x y rl rp => h α' G' H' c x (e.trans y) rl rp
  | no => exact h
def SndV (Γ : Gm) (E : XK) (wi : TI) (mi : MV) : Prop := ∀ (ρ : Env) (S : Store) (σ : L2.St) (α : List Addr) (G H : Hp) (R : It → Hp → Prop), EnvR Γ α G ρ σ → Rl Γ α G S H → PostV Γ E α G H (mi ρ S) R → wi σ H R
structure QV (X : Cx) (cl : Nat → Addr) (E : XK) (tg iter : Expr) (mi : MV) : Prop where
  ex : ∃ wi, PI X tg iter wi ∧ SndV ⟨X.K, cl⟩ E wi mi
end Q
namespace Q
open PySem L2
structure GetC (K : PySem.W.Frag) (C f : Addr) : Prop where
  at_ : PySem.W.findIn K (.ref C) "__getitem__" = some (some (.ref f))
  fni : PySem.W.fnIn K f = true
  fnf : PySem.W.isFn K (.ref f) = true
structure LenC (K : PySem.W.Frag) (C f : Addr) : Prop where
  at_ : PySem.W.findIn K (.ref C) "__len__" = some (some (.ref f))
  fnf : PySem.W.isFn K (.ref f) = true
mutual
def isTupD : D → Bool
  | .tup xs => isTupL xs
  | .non => true
  | .bl _ => true
  | .int _ => true
  | .str _ => true
  | .lst _ => false
  | .fro _ => false
  | .ref _ => false
  | .obj _ _ => false
  | .exn _ _ => false
def isTupL : List D → Bool
  | [] => true
  | d :: ds => isTupD d && isTupL ds
end
section
variable {Γ : Gm} {α : List Addr} {G H H' : Hp} {S : Store}
def Seen (Γ : Gm) (α : List Addr) (G H H' : Hp) (S : Store) (G1 : Hp) : Prop := Ext α G H α G1 H' ∧ Rl Γ α G1 S H'
theorem Seen.tup {G1 : Hp} {a : Addr} {vs : List V} (h : Seen Γ α G H H' S G1) (ha : H' a = some (.tup vs)) : Seen Γ α G H H' S (upd G1 a (.tup vs)) ∧ Sub G1 (upd G1 a (.tup vs)) := by
  obtain ⟨e, R⟩ := h
  obtain ⟨sb, R3⟩ := R.see ha
  refine ⟨⟨⟨⟨[], by simp⟩, e.sub.trans sb, e.fr, e.na, fun b hb => ?_⟩, R3⟩, sb⟩
  by_cases eb : b = a
  · subst eb
    by_cases m : b ∈ α
    · exact .inr (.inl m)
    · cases hb2 : H b with
      | none => exact .inr (.inr (.inl rfl))
      | some o =>
        have := e.fr b o hb2 m
        rw [ha] at this
        exact .inr (.inr (.inr ⟨vs, this.symm⟩))
  · rw [upd_ne eb] at hb
    exact e.ng b hb
mutual
theorem see_deep {α' : List Addr} {G' : Hp} (hs : Sub G' H') : ∀ (d : D) (v : V) (G1 : Hp), isTupD d = true → Rep Γ α' G' d v → Seen Γ α G H H' S G1 → ∃ G2, Sub G1 G2 ∧ Seen Γ α G H H' S G2 ∧ Rep Γ α G2 d v
  | .tup xs, v, G1, ht, r, h => by
    unfold isTupD at ht
    unfold Rep at r
    obtain ⟨a, vs, rfl, ga, rl⟩ := r
    obtain ⟨G2, s2, h2, r2⟩ := see_deepL hs xs vs G1 ht rl h
    obtain ⟨h3, s3⟩ := h2.tup (hs _ _ ga)
    refine ⟨_, s2.trans s3, h3, ?_⟩
    unfold Rep
    exact ⟨a, vs, rfl, upd_same, RepL.mono (α := α) ⟨[], by simp⟩ s3 _ _ r2⟩
  | .non, v, G1, _, r, h => ⟨G1, Sub.refl _, h, by simp only [Rep] at r ⊢; exact r⟩
  | .bl _, v, G1, _, r, h => ⟨G1, Sub.refl _, h, by simp only [Rep] at r ⊢; exact r⟩
  | .int _, v, G1, _, r, h => ⟨G1, Sub.refl _, h, by simp only [Rep] at r ⊢; exact r⟩
  | .str _, v, G1, _, r, h => ⟨G1, Sub.refl _, h, by simp only [Rep] at r ⊢; exact r⟩
  | .lst _, _, _, ht, _, _ => by simp [isTupD] at ht
  | .fro _, _, _, ht, _, _ => by simp [isTupD] at ht
  | .ref _, _, _, ht, _, _ => by simp [isTupD] at ht
  | .obj _ _, _, _, ht, _, _ => by simp [isTupD] at ht
  | .exn _ _, _, _, ht, _, _ => by simp [isTupD] at ht
theorem see_deepL {α' : List Addr} {G' : Hp} (hs : Sub G' H') : ∀ (ds : List D) (vs : List V) (G1 : Hp), isTupL ds = true → RepL Γ α' G' ds vs → Seen Γ α G H H' S G1 → ∃ G2, Sub G1 G2 ∧ Seen Γ α G H H' S G2 ∧ RepL Γ α G2 ds vs
  | [], vs, G1, _, r, h => ⟨G1, Sub.refl _, h, by unfold RepL at r ⊢; exact r⟩
  | d :: ds, vs, G1, ht, r, h => by
    unfold isTupL at ht
    rw [Bool.and_eq_true] at ht
    unfold RepL at r
    obtain ⟨v, w, rfl, r1, r2⟩ := r
    obtain ⟨G2, s2, h2, q2⟩ := see_deep hs d v G1 ht.1 r1 h
    obtain ⟨G3, s3, h3, q3⟩ := see_deepL hs ds w G2 ht.2 r2 h2
    refine ⟨G3, s2.trans s3, h3, ?_⟩
    unfold RepL
    exact ⟨v, w, rfl, Rep.mono (α := α) ⟨[], by simp⟩ s3 _ _ q2, q3⟩
end
end
end Q
namespace L2
open PySem PySem.Spec PyProof.Rows
def numKey : Nat → NestedKey → Bool
  | _, .num _ => true
  | n + 1, .tup ks => ks.all (numKey n)
  | _, _ => false
def IsN (h : Heap) (k : NestedKey) (b : Addr) : Prop := NestedIs h k (.ref b) ∧ numKey 8 k = true
section
variable {P : Program} {w : World} {A : Around} {E : Value → Shared → Prop} {s : Shared}
def rowsN (w : World) (L : List (Addr × NestedKey)) : List (Int × Value) := L.map fun p => (p.2.hash w, .ref p.1)
def hashN (w : World) (L : List (Addr × NestedKey)) : List Int := L.map fun p => p.2.hash w
structure SetN (w : World) (h : Heap) (a : Addr) (L : List (Addr × NestedKey)) (es : Array (Int × Value)) (ep : Nat) (t : SetTable) : Prop where
  ob : ∃ o, h.get? a = some o ∧ o.ExactSet ∧ o.data = .set es ep t
  rows : es.toList = rowsN w L
  tab : TabOk t (hashN w L)
  nd : (L.map (·.2)).Nodup
  key : ∀ p ∈ L, IsN h p.2 p.1
  plain : t.plain = true
  led : w.params.followText "set-order" = true ∨ t.led = true
  room : L.length * 5 < t.mask * 3
  few : L.length < 64
variable {a : Addr} {L : List (Addr × NestedKey)} {es : Array (Int × Value)} {ep : Nat} {t : SetTable}
end
structure GotN (ks : List (Addr × NestedKey)) (i : Nat) (L : List (Addr × NestedKey)) : Prop where
  sub : ∀ p ∈ L, p ∈ ks.take i
  all : ∀ p ∈ ks.take i, p.2 ∈ L.map (·.2)
  len : L.length ≤ i
section
variable {ks L L' : List (Addr × NestedKey)} {i : Nat} {x : Addr × NestedKey}
theorem GotN.zero (ks : List (Addr × NestedKey)) : GotN ks 0 [] := ⟨fun p h => (by cases h), fun p h => (by simp at h), Nat.le_refl _⟩
end
section
variable {P : Program} {w : World} {A : Around} {E : Value → Shared → Prop} {s : Shared}
theorem SetN.keep {h h' : Heap} {a : Addr} {L : List (Addr × NestedKey)} {es : Array (Int × Value)} {ep : Nat} {t : SetTable} (R : SetN w h a L es ep t) (ha : ∀ o, h.get? a = some o → h'.get? a = some o) (ht : ∀ p ∈ L, IsN h' p.2 p.1) : SetN w h' a L es ep t := by
  obtain ⟨o, ho, r⟩ := R.ob
  exact ⟨⟨o, ha o ho, r⟩, R.rows, R.tab, R.nd, ht, R.plain, R.led, R.room, R.few⟩
end
end L2
namespace L2
open PySem PySem.Spec PyProof.Rows PySem.W
end L2
namespace Q
open PySem L2
mutual
def nkD : D → NestedKey
  | .int i => .num i
  | .tup xs => .tup (nkDs xs)
  | _ => .none
def nkDs : List D → List NestedKey
  | [] => []
  | x :: xs => nkD x :: nkDs xs
end
end Q
namespace L2
open PySem PySem.Spec PyProof.Rows
end L2
namespace L2
open PySem PySem.Spec PyProof.Rows PySem.W
structure SetN0 (w : World) (h : Heap) (a : Addr) (L : List (Addr × NestedKey)) : Prop where
  ex : ∃ (es : Array (Int × Value)) (ep : Nat) (t : SetTable), (∃ o, h.get? a = some o ∧ o.ExactSet ∧ o.data = .set es ep t) ∧ es.toList = rowsN w L ∧ TabOk t (hashN w L) ∧ (L.map (·.2)).Nodup ∧ t.plain = true ∧
    (w.params.followText "set-order" = true ∨ t.led = true) ∧ L.length * 5 < t.mask * 3 ∧ L.length < 64
section
variable {w : World} {h : Heap} {a : Addr} {L : List (Addr × NestedKey)}
theorem SetN.n0 {es : Array (Int × Value)} {ep : Nat} {t : SetTable} (R : SetN w h a L es ep t) : SetN0 w h a L := ⟨es, ep, t, R.ob, R.rows, R.tab, R.nd, R.plain, R.led, R.room, R.few⟩
end
abbrev nk (p : Addr × _root_.Q.D) : Addr × NestedKey := (p.1, _root_.Q.nkD p.2)
end L2
namespace Q
open PySem L2
end Q
namespace L2
open PySem PySem.Spec PyProof.Rows
end L2
namespace Q
open PySem L2
end Q
set_option exponentiation.threshold 10000
namespace Q
open PySem L2
def splitT (x : Str) (d : D) (S : Store) : Res D := match d with
  | .str y => if (!(y.length == 0) && decide (x.length ≤ 100000)) = true then .ok (.lst ((Txt.split x y).map D.str)) S else .no
  | _ => .no
def strsD : List D → Option (List Str)
  | [] => some []
  | .str x :: xs => (strsD xs).map (x :: ·)
  | _ => none
theorem strsD_map : ∀ ys : List Str, strsD (ys.map D.str) = some ys
  | [] => rfl
  | y :: ys => by
    show (strsD (ys.map D.str)).map (y :: ·) = _
    rw [strsD_map ys]
    rfl
theorem strsD_eq : ∀ {xs : List D} {ys : List Str}, strsD xs = some ys → xs = ys.map D.str
  | [], ys, h => by cases h; rfl
  | .str x :: xs, ys, h => by
    unfold strsD at h
    cases e : strsD xs with
    | none => rw [e] at h; cases h
    | some zs =>
      rw [e] at h
      cases h
      rw [strsD_eq e]
      rfl
  | .non :: _, _, h => by cases h
  | .bl _ :: _, _, h => by cases h
  | .int _ :: _, _, h => by cases h
  | .tup _ :: _, _, h => by cases h
  | .lst _ :: _, _, h => by cases h
  | .fro _ :: _, _, h => by cases h
  | .obj _ _ :: _, _, h => by cases h
  | .exn _ _ :: _, _, h => by cases h
  | .ref _ :: _, _, h => by cases h
def joinT (x : Str) (d : D) (S : Store) : Res D := match (seqOf S d).bind strsD with
  | some ys => if (ys.map (·.length)).sum + ys.length * x.length ≤ 100000 then .ok (.str (Txt.join x ys)) S else .no
  | none => .no
def onText (f : Str → D → Store → Res D) (m : ME) (ρ : Env) (o : D) (S : Store) : Res D := match o with
  | .str x => (m ρ S).bind (f x)
  | _ => .no
def mSplit (mo m : ME) : ME := fun ρ S => (mo ρ S).bind (onText splitT m ρ)
def mJoin (mo m : ME) : ME := fun ρ S => (mo ρ S).bind (onText joinT m ρ)
def fmtK (d : D) (S : Store) : Res D := match d with
  | .str y => if y.length ≤ 100000 then .ok (.str y) S else .no
  | .int i => if i.natAbs < 2 ^ 1900 then .ok (.str (strI i)) S else .no
  | _ => .no
def mFmt (m : ME) : ME := fun ρ S => (m ρ S).bind fmtK
def mJs : List ME → Str → Env → Store → Res D
  | [], acc, _, S => .ok (.str acc) S
  | m :: ms, acc, ρ, S => (m ρ S).bind fun d S1 => match d with
    | .str y => if (acc ++ y).length ≤ 100000 then mJs ms (acc ++ y) ρ S1 else .no
    | _ => .no
def mFj (ms : List ME) : ME := fun ρ S => mJs ms Str.empty ρ S
section
variable {X : Cx} {cl : Nat → Addr} {E : XK} {a o e : Expr} {mo m ma : ME} {pos apos cpos : Pos}
theorem rep_strs {Γ : Gm} {α : List Addr} {G : Hp} : ∀ {ys : List Str} {vs : List V}, RepL Γ α G (ys.map D.str) vs → vs = ys.map V.str
  | [], vs, h => by
    rw [List.map_nil] at h
    unfold RepL at h
    rw [h]
    rfl
  | y :: ys, vs, h => by
    rw [List.map_cons] at h
    unfold RepL at h
    obtain ⟨v, r, rfl, h1, h2⟩ := h
    simp only [Rep] at h1
    rw [h1, rep_strs h2]
    rfl
theorem strs_rep {Γ : Gm} {α : List Addr} {G : Hp} : ∀ ys : List Str, RepL Γ α G (ys.map D.str) (ys.map V.str)
  | [] => by rw [List.map_nil, List.map_nil]; unfold RepL; rfl
  | y :: ys => by
    rw [List.map_cons, List.map_cons]
    unfold RepL
    exact ⟨_, _, rfl, by simp [Rep], strs_rep ys⟩
theorem le_size {n : Nat} (h : n ≤ 100000) : n + 2 ≤ sizeLine := Nat.le_trans (Nat.add_le_add_right h 2) (by decide)
section
variable {name : Str} {id : String} {r : V → List V → Hp → VK → Prop}
theorem q_onText {f : Str → D → Store → Res D} (slot : Slot "str" name id) (hty : typeOf (.builtin id) = pure (.type "method_descriptor")) (hm : MtR X id r) (ho : QE X cl E o mo) (he : QE X cl E e m)
    (hf : ∀ (x : Str) (d : D) (S : Store) (α : List Addr) (G H : Hp) (v : V) (Q : VK), Rl ⟨X.K, cl⟩ α G S H → Rep ⟨X.K, cl⟩ α G d v → Post ⟨X.K, cl⟩ (Rep ⟨X.K, cl⟩) α G H (f x d S) Q E → r (.str x) [v] H Q)
    (hbase : attributeBase o name X.env (eval o X.env) = eval o X.env)
    (hfew : ((backTo cpos (starEach [e] X.env)).all (fun x => !x.1) && (backToKw cpos (keywordEach [] X.env)).all (fun x => x.1.isSome)
      && decide ([e].length + ([] : List Keyword).length + (if ([] : List Keyword).isEmpty then 0 else 1) < 30)) = true)
    (hline : (apos.endLine == cpos.line) = true) (hs : starEach [e] X.env = (false, eval e X.env) :: starEach [] X.env) (hplain : (backTo cpos (starEach [] X.env)).any (·.1) = false) :
    QE X cl E (.Call (.Attribute o name apos) [e] [] cpos) (fun ρ S => (mo ρ S).bind (onText f m ρ)) := by
  obtain ⟨t, h1, h2⟩ := ho.ex
  obtain ⟨u, k1, k2⟩ := he.ex
  refine ⟨_, pe_bm PySem.F.plainAttrs_str slot hty hm h1 (pa_cons k1 pa_nil hs) hbase hfew hline hs hplain, fun ρ S σ α G H Q hρ hR hp => ?_⟩
  refine h2 ρ S σ α G H _ hρ hR (post_bind hp fun od S1 α1 G1 H1 ov q1 e1 R1 r1 hp1 => ?_)
  clear q1
  cases od <;> try exact hp1.elim
  rename_i x
  simp only [Rep] at r1
  subst r1
  refine ⟨rfl, ?_⟩
  have hp1 : Post ⟨X.K, cl⟩ (Rep ⟨X.K, cl⟩) α1 G1 H1 ((m ρ S1).bind (f x)) Q E := hp1
  exact k2 ρ S1 σ α1 G1 H1 _ (hρ.mono e1) R1 (post_bind hp1 fun d S2 α2 G2 H2 v q2 e2 R2 r2 hp2 => hf x d S2 α2 G2 H2 v Q R2 r2 hp2)
end
theorem q_split (ho : QE X cl E o mo) (he : QE X cl E e m)
    (hbase : attributeBase o "split" X.env (eval o X.env) = eval o X.env := by rfl)
    (hfew : ((backTo cpos (starEach [e] X.env)).all (fun x => !x.1) && (backToKw cpos (keywordEach [] X.env)).all (fun x => x.1.isSome)
      && decide ([e].length + ([] : List Keyword).length + (if ([] : List Keyword).isEmpty then 0 else 1) < 30)) = true := by rfl)
    (hline : (apos.endLine == cpos.line) = true := by rfl) (hs : starEach [e] X.env = (false, eval e X.env) :: starEach [] X.env := by rfl) (hplain : (backTo cpos (starEach [] X.env)).any (·.1) = false := by rfl) :
    QE X cl E (.Call (.Attribute o "split" apos) [e] [] cpos) (mSplit mo m) :=
  q_onText PySem.F.slot_str_split PySem.F.type_str_split mt_split ho he (fun x d S α G H v Q R r hp => by
    cases d <;> try exact hp.elim
    rename_i y
    simp only [Rep] at r
    subst r
    unfold splitT at hp
    simp only at hp
    split at hp
    case isFalse => exact hp.elim
    rename_i hc
    rw [Bool.and_eq_true, Bool.not_eq_true', decide_eq_true_eq] at hc
    exact ⟨x, y, rfl, rfl, hc.1, le_size hc.2, fun p h => post_lst R (strs_rep _) hp h⟩) hbase hfew hline hs hplain
theorem q_join (ho : QE X cl E o mo) (he : QE X cl E e m)
    (hbase : attributeBase o "join" X.env (eval o X.env) = eval o X.env := by rfl)
    (hfew : ((backTo cpos (starEach [e] X.env)).all (fun x => !x.1) && (backToKw cpos (keywordEach [] X.env)).all (fun x => x.1.isSome)
      && decide ([e].length + ([] : List Keyword).length + (if ([] : List Keyword).isEmpty then 0 else 1) < 30)) = true := by rfl)
    (hline : (apos.endLine == cpos.line) = true := by rfl) (hs : starEach [e] X.env = (false, eval e X.env) :: starEach [] X.env := by rfl) (hplain : (backTo cpos (starEach [] X.env)).any (·.1) = false := by rfl) :
    QE X cl E (.Call (.Attribute o "join" apos) [e] [] cpos) (mJoin mo m) :=
  q_onText PySem.F.slot_str_join PySem.F.type_str_join mt_join ho he (fun x d S α G H v Q R r hp => by
    unfold joinT at hp
    cases q : seqOf S d with
    | none => rw [q] at hp; exact hp.elim
    | some xs =>
      rw [q] at hp
      cases q2 : strsD xs with
      | none =>
        simp only [Option.bind_some, q2] at hp
        exact hp.elim
      | some ys =>
        simp only [Option.bind_some, q2] at hp
        split at hp
        case isFalse => exact hp.elim
        rename_i hc
        obtain ⟨p, vs, rfl, h1, h2⟩ := seqOf_at R r q
        rw [strsD_eq q2] at h2
        rw [rep_strs h2] at h1
        exact ⟨x, p, ys, rfl, rfl, h1, Nat.le_trans hc (by decide), post_ok hp R (by simp [Rep])⟩) hbase hfew hline hs hplain
theorem q_fmt (he : QE X cl E e m) : QE X cl E (.FormattedValue e (-1) none pos) (mFmt m) := by
  obtain ⟨u, k1, k2⟩ := he.ex
  refine ⟨_, pe_fmt k1, fun ρ S σ α G H Q hρ hR hp => ?_⟩
  refine k2 ρ S σ α G H _ hρ hR (post_bind hp fun d S1 α1 G1 H1 v q1 e1 R1 r1 hp1 => ?_)
  cases d <;> try exact hp1.elim
  · rename_i i
    simp only [Rep] at r1
    subst r1
    unfold fmtK at hp1
    simp only at hp1
    split at hp1
    case isFalse => exact hp1.elim
    rename_i hb
    refine .inr ⟨i, rfl, ?_, post_ok (x := V.str (strI i)) hp1 R1 (by simp [Rep])⟩
    by_cases h0 : i.natAbs = 0
    · rw [h0]; decide
    · exact Nat.lt_of_lt_of_le ((Nat.log2_lt h0).mpr hb) (by decide)
  · rename_i y
    simp only [Rep] at r1
    subst r1
    unfold fmtK at hp1
    simp only at hp1
    split at hp1
    case isFalse => exact hp1.elim
    rename_i hb
    exact .inl ⟨y, rfl, Nat.le_trans (Nat.le_add_right _ 2) (le_size hb), post_ok (x := V.str y) hp1 R1 (by simp [Rep])⟩
def SndJ (Γ : Gm) (E : XK) (ts : List TE) (ms : List ME) : Prop := ∀ (acc : Str) (ρ : Env) (S : Store) (σ : St) (α : List Addr) (G H : Hp) (Q : VK), EnvR Γ α G ρ σ → Rl Γ α G S H → Post Γ (Rep Γ) α G H (mJs ms acc ρ S) Q E → tJs ts acc σ H fun out H1 => Q (.str out) H1
structure QJ (X : Cx) (cl : Nat → Addr) (E : XK) (es : List Expr) (ms : List ME) : Prop where
  ex : ∃ ts, PJ X es ts ∧ SndJ ⟨X.K, cl⟩ E ts ms
theorem qj_nil : QJ X cl E [] [] := ⟨[], .nil, fun acc ρ S σ α G H Q hρ hR hp => post_ok (x := V.str acc) hp hR (by simp [Rep])⟩
theorem qj_cons {es : List Expr} {ms : List ME} (he : QE X cl E e m) (hr : QJ X cl E es ms) : QJ X cl E (e :: es) (m :: ms) := by
  obtain ⟨u, k1, k2⟩ := he.ex
  obtain ⟨ts, r1, r2⟩ := hr.ex
  refine ⟨u :: ts, .cons k1 r1, fun acc ρ S σ α G H Q hρ hR hp => ?_⟩
  have hp : Post ⟨X.K, cl⟩ (Rep ⟨X.K, cl⟩) α G H ((m ρ S).bind fun d S1 => match d with
    | .str y => if (acc ++ y).length ≤ 100000 then mJs ms (acc ++ y) ρ S1 else .no
    | _ => .no) Q E := hp
  refine k2 ρ S σ α G H _ hρ hR (post_bind hp fun d S1 α1 G1 H1 v q1 e1 R1 rv hp1 => ?_)
  cases d <;> try exact hp1.elim
  rename_i y
  simp only [Rep] at rv
  subst rv
  simp only at hp1
  split at hp1
  case isFalse => exact hp1.elim
  rename_i hb
  exact ⟨y, rfl, Nat.le_trans (Nat.le_add_right _ 2) (le_size hb), r2 (acc ++ y) ρ S1 σ α1 G1 H1 Q (hρ.mono e1) R1 hp1⟩
theorem q_joined {v1 v2 : Expr} {rest : List Expr} {ms : List ME} (h : QJ X cl E (v1 :: v2 :: rest) ms) : QE X cl E (.JoinedStr (v1 :: v2 :: rest) pos) (mFj ms) := by
  obtain ⟨ts, r1, r2⟩ := h.ex
  exact ⟨_, pe_joined r1, fun ρ S σ α G H Q hρ hR hp => r2 Str.empty ρ S σ α G H Q hρ hR hp⟩
end
section
variable {ρ : Env} {S : Store}
@[simp] theorem ap_split (mo m : ME) : mSplit mo m ρ S = (mo ρ S).bind (onText splitT m ρ) := (Eq.refl _).trans rfl
@[simp] theorem ap_join (mo m : ME) : mJoin mo m ρ S = (mo ρ S).bind (onText joinT m ρ) := (Eq.refl _).trans rfl
@[simp] theorem onText_str (f : Str → D → Store → Res D) (m : ME) (x : Str) : onText f m ρ (.str x) S = (m ρ S).bind (f x) := (Eq.refl _).trans rfl
@[simp] theorem ap_fmt (m : ME) : mFmt m ρ S = (m ρ S).bind fmtK := (Eq.refl _).trans rfl
theorem fmtK_str {y : Str} (h : y.length ≤ 100000) : fmtK (.str y) S = .ok (.str y) S := if_pos h
theorem fmtK_int {i : Int} (h : i.natAbs < 2 ^ 1900) : fmtK (.int i) S = .ok (.str (strI i)) S := if_pos h
theorem splitT_ok {x y : Str} (h : y.length ≠ 0) (hx : x.length ≤ 100000) : splitT x (.str y) S = .ok (.lst ((Txt.split x y).map D.str)) S := by
  unfold splitT
  simp only
  rw [if_pos (by rw [Bool.and_eq_true, Bool.not_eq_true', decide_eq_true_eq]; exact ⟨beq_eq_false_iff_ne.mpr h, hx⟩)]
theorem joinT_ok {x : Str} {d : D} {ys : List Str} (hd : seqOf S d = some (ys.map D.str)) (h : (ys.map (·.length)).sum + ys.length * x.length ≤ 100000) : joinT x d S = .ok (.str (Txt.join x ys)) S := by
  unfold joinT
  rw [hd]
  simp only [Option.bind_some, strsD_map]
  rw [if_pos h]
def jsK (ms : List ME) (acc : Str) (ρ : Env) (d : D) (S : Store) : Res D := match d with
  | .str y => if (acc ++ y).length ≤ 100000 then mJs ms (acc ++ y) ρ S else .no
  | _ => .no
@[simp] theorem ap_fj (ms : List ME) : mFj ms ρ S = mJs ms Str.empty ρ S := (Eq.refl _).trans rfl
@[simp] theorem js_nil (acc : Str) : mJs [] acc ρ S = .ok (.str acc) S := (Eq.refl _).trans rfl
@[simp] theorem js_cons (m : ME) (ms : List ME) (acc : Str) : mJs (m :: ms) acc ρ S = (m ρ S).bind (jsK ms acc ρ) := (Eq.refl _).trans rfl
theorem jsK_str (ms : List ME) (acc : Str) {y : Str} (h : (acc ++ y).length ≤ 100000) : jsK ms acc ρ (.str y) S = mJs ms (acc ++ y) ρ S := if_pos h
end
section
variable {X : Cx} {cl : Nat → Addr} {W : WX} {st : Stmt} {rest : List Stmt} {n n' : MS}
def mThen (n n' : MS) : MS := mSeq n (fun ρ S => nox (n' ρ S))
theorem nox_posts {Γ : Gm} {E' : XK} {α : List Addr} {G H : Hp} {r : Res Fl} {Dn : Ends} (h : PostS Γ E' α G H (nox r) Dn) : PostS Γ E0 α G H r Dn := by
  cases r with
  | ok f S => cases f <;> exact h
  | ex e S => exact h.elim
  | no => exact h.elim
theorem qxs_then (h : QX X cl W st n) (k : QSs X cl E0 rest n') : QXs X cl W (st :: rest) (mThen n n') := by
  obtain ⟨t, h1, h2⟩ := h.ex
  obtain ⟨u, k1, k2⟩ := k.ex
  refine ⟨_, pss_cons h1 k1, fun ρ S σ α G H Dn hρ hR hp => h2 ρ S σ α G H _ hρ hR ?_⟩
  unfold mThen mSeq at hp
  cases q : n ρ S with
  | no => rw [q] at hp; exact hp
  | ex e S' => rw [q] at hp; exact hp
  | ok f S' =>
    rw [q] at hp
    cases f with
    | nx ρ1 => exact fun α' G' H' σ' e1 R1 r1 => k2 ρ1 S' σ' α' G' H' Dn r1 R1 (nox_posts (PostS.mono hp e1))
    | rt d => exact hp
    | bk ρ1 => exact hp
    | ct ρ1 => exact hp
end
section
variable {ρ : Env} {S : Store}
def thenK (n' : MS) : Fl → Store → Res Fl := seqK fun ρ S => nox (n' ρ S)
@[simp] theorem ap_then (n n' : MS) : mThen n n' ρ S = (n ρ S).bind (thenK n') := (Eq.refl _).trans rfl
@[simp] theorem thenK_nx (n' : MS) : thenK n' (.nx ρ) S = nox (n' ρ S) := (Eq.refl _).trans rfl
@[simp] theorem thenK_rt (n' : MS) (d : D) : thenK n' (.rt d) S = .ok (.rt d) S := (Eq.refl _).trans rfl
end
def max3I (i j k : Int) : Int := if (if i < j then j else i) < k then k else (if i < j then j else i)
def fMax3 : List D → Store → Res D := fun ds S => match ds with
  | [.int i, .int j, .int k] => .ok (.int (max3I i j k)) S
  | _ => .no
theorem max3Q {X : Cx} {cl : Nat → Addr} {E : XK} (hc : X.calm = true := by rfl) : QC X cl E (.builtin "max") fMax3 := by
  refine ⟨_, call_max3Nu hc, fun ds S α G H vs Q hR rv h => ?_⟩
  unfold fMax3 at h
  split at h
  case h_2 => exact h.elim
  rename_i i j k
  unfold RepL at rv
  obtain ⟨v1, r1, rfl, q1, rv⟩ := rv
  unfold RepL at rv
  obtain ⟨v2, r2, rfl, q2, rv⟩ := rv
  unfold RepL at rv
  obtain ⟨v3, r3, rfl, q3, rv⟩ := rv
  unfold RepL at rv
  subst rv
  simp only [Rep] at q1 q2 q3
  subst q1 q2 q3
  refine ⟨.int i, .int j, .int k, .int (max3I i j k), rfl, ?_, post_ok (x := V.int (max3I i j k)) h hR (by simp [Rep])⟩
  have e : ∀ x y : Int, nuMax2 (.int x) (.int y) = some (.int (if x < y then y else x)) := fun x y => by
    show (some (decide (x < y))).map (fun c => if c = true then V.int y else V.int x) = _
    by_cases h : x < y <;> simp [h]
  unfold nuMax3 max3I
  rw [e, Option.bind_some, e]
@[simp] theorem max3_ap (i j k : Int) (S : Store) : fMax3 [.int i, .int j, .int k] S = .ok (.int (max3I i j k)) S := (Eq.refl _).trans rfl
end Q
namespace L2
open PySem PySem.Spec PyProof.Rows Builtin Builtin.Str Builtin.Int
def repS (x : Str) (k : Int) : Str := ⟨(List.replicate k.toNat x.cps).foldl (· ++ ·) #[]⟩
theorem fold_size {α : Type} (xs : Array α) : ∀ (n : Nat) (acc : Array α), ((List.replicate n xs).foldl (· ++ ·) acc).size = acc.size + n * xs.size
  | 0, acc => by simp
  | n + 1, acc => by
    rw [List.replicate_succ, List.foldl_cons, fold_size xs n, Array.size_append, Nat.succ_mul]
    omega
theorem op_repS {X : Cx} : OpR X (binaryOp .Mult) (fun x y H Q => ∃ (a : Str) (k : Int), x = .str a ∧ y = .int k ∧ 1 < k ∧ k ≤ 1000 ∧ 0 < a.length ∧ a.length ≤ 1000 ∧ Q (.str (repS a k)) H) := by
  intro pins s σ H x y v u Q I rx ry h
  obtain ⟨a, k, rfl, rfl, h1, h2, h3, h4, q⟩ := h
  obtain ⟨t, rfl⟩ := rx
  obtain ⟨t', rfl⟩ := ry
  have hb : a.length * k.toNat ≤ 1000 * 1000 := Nat.mul_le_mul h4 (by omega)
  have hd : (1000 : Int) ≤ (2 ^ 63 - 1) / k := by
    rw [Int.le_ediv_iff_mul_le (by omega)]
    omega
  have tl : tooLong (a.length * k.toNat) = false := by
    unfold tooLong
    exact decide_eq_false (by have : (1000 * 1000 : Nat) ≤ sizeLine := by decide
                              omega)
  refine P.mul_str (by rw [decide_eq_false (by omega), decide_eq_false (by omega)]; rfl) (fun _ _ => by omega) (fun _ _ => tl) ?_
  rw [if_neg (by omega), if_neg (by
    rw [Bool.or_eq_true, beq_iff_eq, beq_iff_eq]
    omega)]
  refine ⟨?_, ⟨.str (repS a k), H, I.tok _, ⟨_, rfl⟩, q⟩⟩
  show ((List.replicate k.toNat a.cps).foldl (· ++ ·) #[]).size ≤ sizeLine
  rw [fold_size]
  have e : a.cps.size = a.length := rfl
  have : k.toNat * a.cps.size ≤ 1000 * 1000 := Nat.mul_le_mul (by omega) (by omega)
  have z : (#[] : Array Nat).size = 0 := rfl
  have : (1000 * 1000 : Nat) ≤ sizeLine := by decide
  simp only [Array.size_empty]
  omega
end L2
namespace Q
open PySem L2
section
variable {X : Cx} {cl : Nat → Addr} {E : XK}
def opRepS : D → D → Store → Res D := fun a b S => match a, b with
  | .str x, .int k => if (decide (1 < k) && (decide (k ≤ 1000) && (decide (0 < x.length) && decide (x.length ≤ 1000)))) = true then .ok (.str (repS x k)) S else .no
  | _, _ => .no
theorem repSQ : QR X cl E (binaryOp .Mult) opRepS := by
  refine ⟨_, op_repS, fun a b S α G H x y Q hR ra rb h => ?_⟩
  cases a <;> cases b <;> try exact h.elim
  rename_i x k
  simp only [Rep] at ra rb
  subst ra rb
  unfold opRepS at h
  simp only at h
  split at h
  case isFalse => exact h.elim
  rename_i hc
  simp only [Bool.and_eq_true, decide_eq_true_eq] at hc
  exact ⟨x, k, rfl, rfl, hc.1, hc.2.1, hc.2.2.1, hc.2.2.2, post_ok (x := V.str (repS x k)) h hR (by simp [Rep])⟩
def opMulS : D → D → Store → Res D := fun a b S => (opMul a b S).orE (opRepS a b S)
theorem mulS : QR X cl E (binaryOp .Mult) opMulS := mulQ.or repSQ
end
def charD (c : Nat) : D := .str ⟨#[c]⟩
def charsD (x : Str) : List D := x.cps.toList.map charD
def charsK (d : D) (S : Store) : Res (List D) := match d with
  | .str x => if x.length ≤ 100000 then .ok (charsD x) S else .no
  | _ => .no
def mChars (m : ME) : MA := fun ρ S => (m ρ S).bind charsK
section
variable {X : Cx} {cl : Nat → Addr} {E : XK} {m : ME}
theorem steps_str {Γ : Gm} {α : List Addr} {G : Hp} (x : Str) : Steps Γ α G (charsD x) (Its x) := fun i α2 G2 H2 S2 hp hs R2 => by
  have el : (charsD x).length = x.cps.size := by unfold charsD; rw [List.length_map, Array.length_toList]
  refine ⟨fun hl => (by rw [el] at hl; exact hl), fun d hd => ?_⟩
  unfold charsD at hd
  rw [List.getElem?_map] at hd
  cases q : x.cps.toList[i]? with
  | none => rw [q] at hd; cases hd
  | some c =>
    rw [q] at hd
    cases hd
    have hc : x.cps[i]? = some c := by rw [← Array.getElem?_toList]; exact q
    refine ⟨?_, fun v H3 hy => ?_⟩
    · show i < x.cps.size
      rw [← Array.length_toList]
      exact (List.getElem?_eq_some_iff.mp q).1
    · obtain ⟨rfl, c', h1, rfl⟩ := hy
      rw [hc] at h1
      cases h1
      exact ⟨G2, R2, Ext.refl _ _ _, by simp [Rep, charD]⟩
theorem qi_chars {tg it : Expr} (h : QE X cl E it m) : QI X cl E tg it (mChars m) := by
  obtain ⟨t, h1, h2⟩ := h.ex
  refine ⟨_, pi_str h1, fun ρ S σ α G H R hρ hR hp => ?_⟩
  refine h2 ρ S σ α G H _ hρ hR (posti_bind hp fun d S1 α1 G1 H1 v q1 e1 R1 r1 hp1 => ?_)
  cases d <;> try exact hp1.elim
  rename_i x
  simp only [Rep] at r1
  subst r1
  unfold charsK at hp1
  simp only at hp1
  split at hp1
  case isFalse => exact hp1.elim
  exact ⟨x, rfl, hp1 α1 G1 H1 _ (Ext.refl _ _ _) R1 (steps_str x)⟩
def inSgn (a b : D) : Option Bool := match a, b with
  | .str x, .str y => (match x.cps.toList with
    | [c] => some (decide (c ∈ y.cps.toList))
    | _ => none)
  | _, _ => none
def opInS : D → D → Store → Res D := fun a b S => match inSgn a b with
  | some t => .ok (.bl t) S
  | none => .no
def opNinS : D → D → Store → Res D := fun a b S => match inSgn a b with
  | some t => .ok (.bl (!t)) S
  | none => .no
theorem inSgn_at {a b : D} {t : Bool} (h : inSgn a b = some t) : ∃ (c : Nat) (y : Str), a = .str ⟨#[c]⟩ ∧ b = .str y ∧ t = decide (c ∈ y.cps.toList) := by
  unfold inSgn at h
  split at h
  · rename_i x y
    split at h
    · rename_i c hc
      cases h
      obtain ⟨cps⟩ := x
      have e : cps = #[c] := by
        have := congrArg List.toArray hc
        simpa using this
      exact ⟨c, y, by rw [e], rfl, rfl⟩
    · cases h
  · cases h
theorem inS : QR X cl E (compareOp .In) opInS := by
  refine ⟨_, op_in_sign, fun a b S α G H x y Q hR ra rb h => ?_⟩
  unfold opInS at h
  cases q : inSgn a b with
  | none => rw [q] at h; exact h.elim
  | some t =>
    rw [q] at h
    obtain ⟨c, z, rfl, rfl, rfl⟩ := inSgn_at q
    simp only [Rep] at ra rb
    subst ra rb
    exact ⟨c, z, rfl, rfl, post_ok (x := V.bl _) h hR (by simp [Rep])⟩
theorem ninS : QR X cl E (compareOp .NotIn) opNinS := by
  refine ⟨_, op_notIn_sign, fun a b S α G H x y Q hR ra rb h => ?_⟩
  unfold opNinS at h
  cases q : inSgn a b with
  | none => rw [q] at h; exact h.elim
  | some t =>
    rw [q] at h
    obtain ⟨c, z, rfl, rfl, rfl⟩ := inSgn_at q
    simp only [Rep] at ra rb
    subst ra rb
    exact ⟨c, z, rfl, rfl, post_ok (x := V.bl _) h hR (by simp [Rep])⟩
def gIntT : D → Store → Res D := fun d S => match d with
  | .str x => (match PySem.intText? x with
    | some n => if x.length ≤ 600 then .ok (.int n) S else .no
    | none => .no)
  | _ => .no
def fIntT := un1 gIntT
theorem intTQ : QC X cl E (.type "int") fIntT := by
  refine ⟨_, call_int_str, snd_un1 fun d S α G H v Q hR rv h => ?_⟩
  cases d <;> try exact h.elim
  rename_i x
  simp only [Rep] at rv
  subst rv
  unfold gIntT at h
  simp only at h
  cases q : PySem.intText? x with
  | none => rw [q] at h; exact h.elim
  | some n =>
    rw [q] at h
    simp only at h
    split at h
    case isFalse => exact h.elim
    rename_i hl
    exact ⟨x, n, rfl, q, by omega, post_ok (x := V.int n) h hR (by simp [Rep])⟩
end
section
variable {ρ : Env} {S : Store}
@[simp] theorem ap_chars (m : ME) : mChars m ρ S = (m ρ S).bind charsK := (Eq.refl _).trans rfl
theorem charsK_str {x : Str} (h : x.length ≤ 100000) : charsK (.str x) S = .ok (charsD x) S := if_pos h
theorem inS_char (c : Nat) (y : Str) : opInS (charD c) (.str y) S = .ok (.bl (decide (c ∈ y.cps.toList))) S := rfl
theorem ninS_char (c : Nat) (y : Str) : opNinS (charD c) (.str y) S = .ok (.bl (!decide (c ∈ y.cps.toList))) S := rfl
theorem intT_str {x : Str} {n : Int} (h : PySem.intText? x = some n) (hl : x.length ≤ 600) : fIntT [.str x] S = .ok (.int n) S := by
  show gIntT (.str x) S = _
  unfold gIntT
  simp only [h, hl, if_true]
end
end Q
namespace Q
open PySem PySem.Spec PyProof.Rows L2 He
theorem ex_base (c : Nat) : ExcBaseFacts (exB c) (exN c) (exI c) (exM c) := by
  unfold exB exN exI exM
  split
  · exact F.excBase_LookupError
  · exact F.excBase_ValueError
theorem ex_kxs (c : Nat) : PySem.W.KxsFacts (exB c) (exI c) := by
  unfold exB exI
  split
  · exact PySem.W.kxs_LookupError
  · exact PySem.W.kxs_ValueError
section
variable {K : PySem.W.Frag} {h : Heap} {mg : Str → Option Value} {c i : Nat} {f m : Str}
theorem qf_glo (X : K.In h) (G : h.Ns mainGlobals mg) {x : Str} (e : (Qf.glo x).ok K = true) : mg x = some (.ref (ga K x)) := glo_ok X G e
theorem qf_free (X : K.In h) (G : h.Ns mainGlobals mg) {x : Str} (e : (Qf.free x).ok K = true) : mg x = none := free_ok X G e
theorem qf_int (X : K.In h) (G : h.Ns mainGlobals mg) {x : Str} {i : Int} (e : (Qf.int x i).ok K = true) : ∃ t, mg x = some (.int i t) := int_ok X G e
theorem qf_str (X : K.In h) (G : h.Ns mainGlobals mg) {x z : Str} (e : (Qf.str x z).ok K = true) : ∃ t, mg x = some (.str z t) := str_ok X G e
theorem qf_cls (X : K.In h) (G : h.Ns mainGlobals mg) (e : (Qf.cls c).ok K = true) : mg (clN c) = some (.ref (clK K c)) ∧ SlX.SCls K (clK K c) := by
  obtain ⟨e0, e⟩ := ba e
  obtain ⟨e1, e⟩ := ba e
  obtain ⟨e2, e⟩ := ba e
  obtain ⟨e3, e4⟩ := ba e
  exact ⟨PySem.W.mg_of X G (He.eqO_ok e0), e1, e2, e3, He.eqO_ok e4⟩
theorem qf_slot (e : (Qf.slot c f i).ok K = true) : SlX.Slot1 K (clK K c) f (ma K (clK K c) f) i := by
  obtain ⟨e1, e⟩ := ba e
  obtain ⟨e2, e⟩ := ba e
  obtain ⟨e3, e⟩ := ba e
  obtain ⟨e4, e⟩ := ba e
  obtain ⟨e5, e6⟩ := ba e
  exact ⟨He.eqO_ok e1, He.eqO_ok e2, ob_ok e3, ob_ok e4, ob_ok e5, of_decide_eq_true e6⟩
theorem qf_mkr (e : (Qf.mkr c).ok K = true) : Mk K (clK K c) (ma K (clK K c) "__init__") := mkr_ok e
theorem qf_meth (e : (Qf.meth c m).ok K = true) : Meth K (clK K c) m (ma K (clK K c) m) := meth_ok e
structure IsiC (K : PySem.W.Frag) (C : Addr) : Prop where
  i : SlX.SIsi K C
  k : PySem.W.kitOne K (.ref C) (.ref C) = some true
  n : ∀ (S : Store) d, isOk S d = true → PySem.W.kitOne K (.type (tyN d)) (.ref C) = some false
structure EqC (K : PySem.W.Frag) (C g : Addr) : Prop where
  at_ : PySem.W.findIn K (.ref C) "__eq__" = some (some (.ref g))
  fn : PySem.W.isFn K (.ref g) = true
  ne : NeC K C g
  nf : PySem.W.notFirst K C (.ref C) = true
  nk : ∀ (S : Store) d, isOk S d = true → PySem.W.notFirst K C (.type (tyN d)) = true
theorem qf_exq (X : K.In h) (G : h.Ns mainGlobals mg) (e : (Qf.exq c).ok K = true) : mg (clN c) = some (.ref (clK K c)) ∧ ExcQ K (clK K c) := by
  obtain ⟨e1, e⟩ := ba e
  obtain ⟨e2, e⟩ := ba e
  obtain ⟨e3, e⟩ := ba e
  obtain ⟨e4, e⟩ := ba e
  obtain ⟨e5, e⟩ := ba e
  obtain ⟨e6, e⟩ := ba e
  obtain ⟨e7, e⟩ := ba e
  obtain ⟨e8, e9⟩ := ba e
  exact ⟨PySem.W.mg_of X G (He.eqO_ok e9), e1, He.eqO_ok e2, He.eqO_ok e3, ob_ok e4, He.eqO_ok e5, He.eqO_ok e6, ob_ok e7, ob_ok e8⟩
theorem qf_kit {v : EV} {b : Bool} (e : (Qf.kit c v b).ok K = true) : PySem.W.kitOne K (.ref (clK K c)) (v.val K) = some b := ob_ok e
theorem qf_kits {vs : List EV} {b : Bool} (e : (Qf.kits c vs b).ok K = true) : PySem.W.kitAny K (.ref (clK K c)) (vs.map fun v => v.val K) = some b := ob_ok e
theorem qf_exms {vs : List EV} {b : Bool} (e : (Qf.exms c vs b).ok K = true) : PySem.W.exmAny K (.ref (clK K c)) (vs.map fun v => v.val K) = some b := ob_ok e
end
theorem DefQ.fun {K : PySem.W.Frag} {d : DefQ} (hn : d.at_.cn = []) (e : fnQ K d = d.val) (c : d.ok K = true) : ∃ fd, Fun K d.name d.qual d.st (d.at_.ad K) fd := by
  obtain ⟨kp, c2⟩ := ba c
  unfold fnQ at e
  cases q : K.lookup (d.at_.ad K) with
  | none =>
    rw [q] at c2
    cases c2
  | some o =>
    obtain ⟨oc, od, dt, osl⟩ := o
    rw [q] at c2 e
    cases dt with
    | func fd =>
      obtain ⟨n1, n2, n3, n4, n5, n6, n7, n8, n9, n10, n11, n12, n13, n14, n15⟩ := fd
      have e2 : (some (n1, n2, n3, n4, n5, n6, n7.map (·.1), n15) : FnQ) = some (d.name, d.qual, defArgs d.st, .stmts (defBody d.st), defScope d.st, mainGlobals, d.at_.cn, builtinsNs) := e
      rw [hn] at e2
      simp only [Option.some.injEq, Prod.mk.injEq, List.map_eq_nil_iff] at e2
      obtain ⟨h1, h2, h3, h4, h5, h6, h7, h8⟩ := e2
      subst h1 h2 h3 h4 h5 h6 h7 h8
      obtain ⟨k1, k2⟩ := ba c2
      have k3 : n8 = .none := by
        clear q k1 c2 kp
        dsimp only at k2
        cases n8 <;> first | rfl | cases k2
      subst k3
      exact ⟨_, ⟨⟨oc, od, n9, n10, n11, n12, n13, n14, osl, rfl, q, k1⟩, kp⟩⟩
    | _ => cases c2
theorem DefQ.exu {P : Program} {h : Heap} {mg : Str → Option Value} {K : PySem.W.Frag} {d : DefQ} {c : Nat} (X : K.In h) (G : h.Ns mainGlobals mg) (hn : d.at_ = .exc c) (e : fnQ K d = d.val) (o : d.ok K = true) (q : (Qf.exc c).ok K = true) (hf : ((P.main.file : Str) == ("/claim/cut.py" : Str)) = true)
    (ht : (P.main.scope.names.lookup ("super" : Str)).isSome = false) : mg (clN c) = some (.ref (clK K c)) ∧ ExcU P K (clK K c) (ma K (clK K c) "__init__") (exB c) (exN c) (exI c) (exM c) d.st := by
  obtain ⟨q1, q⟩ := ba q
  obtain ⟨q2, q⟩ := ba q
  obtain ⟨q3, q⟩ := ba q
  obtain ⟨q4, q⟩ := ba q
  obtain ⟨q5, q⟩ := ba q
  obtain ⟨q6, q⟩ := ba q
  obtain ⟨q7, q⟩ := ba q
  obtain ⟨q8, q⟩ := ba q
  obtain ⟨q9, q⟩ := ba q
  obtain ⟨q10, q⟩ := ba q
  obtain ⟨q11, q⟩ := ba q
  obtain ⟨q12, q⟩ := ba q
  obtain ⟨q13, q14⟩ := ba q
  refine ⟨PySem.W.mg_of X G (He.eqO_ok q14), ex_base c, ex_kxs c, q1, He.eqO_ok q2, ob_ok q3, ?_, q5, ob_ok q6, He.eqO_ok q7, ht, He.eqO_ok q8, He.eqO_ok q9, ob_ok q10, ob_ok q11, ob_ok q12, q13⟩
  obtain ⟨kp, c2⟩ := ba o
  unfold fnQ at e
  rw [hn] at e c2
  simp only [Dat.ad] at e c2
  unfold supIn at q4
  cases ql : K.lookup (ma K (clK K c) "__init__") with
  | none =>
    rw [ql] at c2
    cases c2
  | some o =>
    obtain ⟨oc, od, dt, osl⟩ := o
    rw [ql] at c2 e q4
    cases dt with
    | func fd =>
      obtain ⟨n1, n2, n3, n4, n5, n6, n7, n8, n9, n10, n11, n12, n13, n14, n15⟩ := fd
      have e2 : (some (n1, n2, n3, n4, n5, n6, n7.map (·.1), n15) : FnQ) = some (d.name, d.qual, defArgs d.st, .stmts (defBody d.st), defScope d.st, mainGlobals, d.at_.cn, builtinsNs) := e
      rw [hn] at e2
      simp only [Option.some.injEq, Prod.mk.injEq, Dat.cn] at e2
      obtain ⟨h1, h2, h3, h4, h5, h6, h7, h8⟩ := e2
      obtain ⟨k1, k2⟩ := ba c2
      have k3 : n8 = .none := by
        clear ql k1 c2 kp q4
        dsimp only at k2
        cases n8 <;> first | rfl | cases k2
      obtain ⟨q41, q42⟩ := ba q4
      dsimp only at q41 q42 k1
      cases n7 with
      | nil => cases h7
      | cons p r =>
        obtain ⟨nm, cc⟩ := p
        cases r with
        | cons p' r' => simp at h7
        | nil =>
          simp only [List.map_cons, List.map_nil, List.cons.injEq, and_true] at h7
          subst h7
          cases n13 with
          | ref cda =>
            dsimp only at q41 q42
            split at q41
            · rename_i o1 o2 vs o3 hcd
              split at q41
              · rename_i z tf hv
                split at q42
                · rename_i y1 y2 D y3 hcc
                  have hD := of_decide_eq_true q42
                  subst hD
                  subst h1 h2 h3 h4 h5 h6 h8 k3
                  exact ⟨oc, od, _, _, _, _, _, _, _, osl, cc, cda, rfl, k1, ⟨_, _, vs, _, z, tf, hcd, hv, by rw [beq_iff_eq.mp q41]; exact hf⟩, _, _, _, hcc⟩
                · cases q42
              · cases q41
            · cases q41
          | _ => cases q41
    | _ => cases c2
section
variable {fa : List Qf} {fn : List DefQ} {K : PySem.W.Frag}
theorem SaysQ.fact (c : SaysQ fa fn K) (i : Nat) {f : Qf} (h : fa[i]? = some f := by rfl) : f.ok K = true := by
  have c1 := (ba (show ((fa.all fun f => f.ok K) && fn.all fun d => d.ok K) = true from congrArg (fun z : AlQ => z.1) c)).1
  exact List.all_eq_true.mp c1 f (List.mem_of_getElem? h)
theorem SaysQ.both (c : SaysQ fa fn K) (i : Nat) {d : DefQ} (h : fn[i]? = some d := by rfl) : fnQ K d = d.val ∧ d.ok K = true := by
  have c2 := (ba (show ((fa.all fun f => f.ok K) && fn.all fun d => d.ok K) = true from congrArg (fun z : AlQ => z.1) c)).2
  have e : fn.map (fun d => fnQ K d) = fn.map DefQ.val := congrArg (fun z : AlQ => z.2) c
  have e2 : (fn.map fun d => fnQ K d)[i]? = (fn.map DefQ.val)[i]? := by rw [e]
  rw [List.getElem?_map, List.getElem?_map, h] at e2
  exact ⟨Option.some.inj e2, List.all_eq_true.mp c2 d (List.mem_of_getElem? h)⟩
theorem SaysQ.def_ (c : SaysQ fa fn K) (i : Nat) {d : DefQ} (h : fn[i]? = some d := by rfl) (hn : d.at_.cn = [] := by rfl) : ∃ fd, Fun K d.name d.qual d.st (d.at_.ad K) fd := DefQ.fun hn (c.both i h).1 (c.both i h).2
end
theorem bindsA0 {K : PySem.W.Frag} {x qual : Str} {st : Stmt} {f : Addr} {fd : FuncData} {us : List Value} {r : List (Str × Value)} (F : Fun K x qual st f fd)
    (h : ∀ (kV doc pm : Value) (an : Option Addr) (cdv ct : Value), bindArgs (PySem.W.fnOf x qual (defArgs st) (defBody st) (defScope st) .none kV doc pm an cdv ct) ⟨us, []⟩ = pure r) (s : Shared) : BindsTo s fd ⟨us, []⟩ r := by
  obtain ⟨oc, od, kV, doc, pm, an, cdv, ct, osl, rfl, lk, hcd⟩ := F.ex
  exact .of_eq (h kV doc pm an cdv ct)
end Q
namespace Lw
open PySem L2 Q
def m_l_cells : MS := (mSeq (mAsg (mOrV (mCall fListC (mCons (mSl (mVar 0) mNoO (mSoO (mVar 1))) mNil)) (mCell (mCons (mC (.int 0)) mNil))) (mgN 2))
  (mSeq (mFor (mEnum (mSl (mVar 0) (mSoO (mVar 1)) (mSoO (mC (.int 63))))) (mgTup 2 (mgCons (mgN 3) (mgCons (mgN 4) mgNil))) (mSeq (mAsg (mOp opModI (mCall fInt (mCons (mVar 3) mNil)) (mVar 1)) (mgN 5))
  (mAsg (mOp opAdd (mOp opIx (mVar 2) (mVar 5)) (mOp opMul (mVar 4) (mOp opAdd (mVar 3) (mC (.int 2))))) (mgSub (mVar 2) (mVar 5)))))
  (mRet (mFrz (mVar 2)))))
def f_l_cells : List D → Store → Res D := fnM 6 2 m_l_cells
def m_l_same (self : List D → Store → Res D) : MS := (mSeq (mIf (mTest (mIsi2 .list .tuple (mVar 1))) (mSeq (mIf (mOrT (mTB (mOp opNe (mIsi .list (mVar 0)) (mIsi .list (mVar 1)))) (mTB (mOp opNe (mIsi .tuple (mVar 0)) (mIsi .tuple (mVar 1))))) (mRet (mC (.bl false))) mSkip)
  (mRet (mAndV (mOp opEq (mCall fLen (mCons (mVar 0) mNil)) (mCall fLen (mCons (mVar 1) mNil))) (mCall fAll (mCons (mLc (mZip (mCons (mVar 0) (mCons (mVar 1) mNil))) (mgTup 2 (mgCons (mgN 2) (mgCons (mgN 3) mgNil))) mYes (mCall (fPure self) (mCons (mVar 2) (mCons (mVar 3) mNil))) [2, 3]) mNil))))) mSkip)
  (mSeq (mIf (mOrT (mTB (mIsN (mVar 1))) (mTest (mIsi2 .bool .str (mVar 1)))) (mRet (mAndV (mOp opEq (mVar 0) (mVar 1)) (mAndV (mOp opEq (mIsi .bool (mVar 0)) (mIsi .bool (mVar 1))) (mOp opEq (mIsN (mVar 0)) (mIsN (mVar 1)))))) mSkip)
  (mRet (mAndV (mIsi .int (mVar 0)) (mAndV (mNotV (mIsi .bool (mVar 0))) (mOp opEq (mVar 0) (mVar 1)))))))
def f_l_same : Nat → List D → Store → Res D
  | 0 => fun _ _ => .no
  | k + 1 => fnM 4 2 (m_l_same (f_l_same k))
def m_p_told : MS := (mSeq (mIf (mTB (mIsN (mVar 0))) (mRaise 13) mSkip)
  (mRet (mVar 0)))
def g_p_told : List D → Store → Res D := fnX 1 1 m_p_told
def m_p_number_of : MS := (mSeq (mIf (mOrT (mNotT (mTB (mChain opLt opLe (mC (.int 0)) (mCall fLen (mCons (mVar 0) mNil)) (mC (.int 60))))) (mNotT (mTest (mCall fAll (mCons (mLc (mChars (mVar 0)) (mgN 1) mYes (mOp opInS (mVar 1) (mC (.str "0123456789"))) [1]) mNil))))) (mRet (mC .non)) mSkip)
  (mRet (mIfE (mOrT (mTB (mOp opEq (mVar 0) (mC (.str "0")))) (mTB (mOp opNe (mOp opIx (mVar 0) (mC (.int 0))) (mC (.str "0"))))) (mCall fIntT (mCons (mVar 0) mNil)) (mC .non))))
def f_p_number_of : List D → Store → Res D := fnM 2 1 m_p_number_of
def m_p_pair_of : MS := (mSeq (mAsg (mCall fTuple (mCons (mLc (mItems (mSplit (mVar 0) (mVar 1))) (mgN 3) mYes (mCall (fPure f_p_number_of) (mCons (mVar 3) mNil)) [3]) mNil)) (mgN 2))
  (mRet (mIfE (mOrT (mTB (mOp opNe (mCall fLen (mCons (mVar 2) mNil)) (mC (.int 2)))) (mTB (mOp opIn (mC .non) (mVar 2)))) (mC .non) (mVar 2))))
def f_p_pair_of : List D → Store → Res D := fnM 4 2 m_p_pair_of
def m_p_is_tuple : MS := (mRet (mAndV (mIsi .tuple (mVar 0)) (mOp opEq (mCall fLen (mCons (mVar 0) mNil)) (mVar 1))))
def f_p_is_tuple : List D → Store → Res D := fnM 2 2 m_p_is_tuple
def m_p_is_number : MS := (mRet (mAndV (mIsi .int (mVar 0)) (mAndV (mNotV (mIsi .bool (mVar 0))) (mOp opGe (mVar 0) (mVar 1)))))
def f_p_is_number : List D → Store → Res D := fnM 2 2 m_p_is_number
def m_p_is_limit : MS := (mRet (mAndV (mCall (fPure f_p_is_tuple) (mCons (mVar 0) (mCons (mC (.int 2)) mNil))) (mAndV (mCall (fPure f_p_is_number) (mCons (mOp opIx (mVar 0) (mC (.int 0))) (mCons (mC (.int 1)) mNil))) (mAndV (mCall (fPure f_p_is_number) (mCons (mOp opIx (mVar 0) (mC (.int 1))) (mCons (mC (.int 1)) mNil))) (mOp opLt (mOp opIx (mVar 0) (mC (.int 0))) (mOp opIx (mVar 0) (mC (.int 1))))))))
def f_p_is_limit : List D → Store → Res D := fnM 1 1 m_p_is_limit
def m_p_limit_of : MS := (mSeq (mAsg (mCall (fPure f_p_pair_of) (mCons (mVar 0) (mCons (mC (.str "/")) mNil))) (mgN 1))
  (mRet (mIfE (mTest (mCall (fPure f_p_is_limit) (mCons (mVar 1) mNil))) (mVar 1) (mC .non))))
def f_p_limit_of : List D → Store → Res D := fnM 2 1 m_p_limit_of
def m_p_limit_in : MS := (mRet (mCallX (fPureX g_p_told) (mCons (mCall (fPure f_p_limit_of) (mCons (mVar 0) mNil)) mNil)))
def f_p_limit_in : List D → Store → Res D := fnM 1 1 m_p_limit_in
def g_p_limit_in : List D → Store → Res D := fnX 1 1 m_p_limit_in
def m_p_common_divisor : MS := (mSeq (mWhile (fuelI 1) (mTB (mOp opGt (mVar 1) (mC (.int 0)))) (mPar 0 1 (mCons (mVar 1) (mCons (mOp opModI (mVar 0) (mVar 1)) mNil))))
  (mRet (mVar 0)))
def f_p_common_divisor : List D → Store → Res D := fnM 2 2 m_p_common_divisor
def m_p_reduced : MS := (mSeq (mAsg (mCall (fPure f_p_common_divisor) (mCons (mVar 0) (mCons (mVar 1) mNil))) (mgN 2))
  (mRet (mTup (mCons (mOp opDivI (mVar 0) (mVar 2)) (mCons (mOp opDivI (mVar 1) (mVar 2)) mNil)))))
def f_p_reduced : List D → Store → Res D := fnM 3 2 m_p_reduced
def f_p_Share_init : List D → Store → Res (List D) := fun ds S => if ds.length + 1 = 3 then init2s 3 (mCall (fPure f_p_reduced) (mCons (mVar 1) (mCons (mVar 2) mNil))) ds S else .no
def m_p_Share_parts : MS := (mRet (mTup (mCons (mFld 0 1 (mVar 0)) (mCons (mFld 0 0 (mVar 0)) mNil))))
def f_p_Share_parts : List D → Store → Res D := fnM 1 1 m_p_Share_parts
def m_p_share_of : MS := (mSeq (mAsg (mCall (fPure f_p_pair_of) (mCons (mVar 0) (mCons (mC (.str "/")) mNil))) (mgN 1))
  (mSeq (mIf (mOrT (mTB (mIsN (mVar 1))) (mOrT (mTB (mOp opEq (mOp opIx (mVar 1) (mC (.int 1))) (mC (.int 0)))) (mTB (mOp opGt (mOp opIx (mVar 1) (mC (.int 0))) (mOp opIx (mVar 1) (mC (.int 1))))))) (mRet (mC .non)) mSkip)
  (mSeq (mAsg (mMake 0 f_p_Share_init (mCons (mOp opIx (mVar 1) (mC (.int 0))) (mCons (mOp opIx (mVar 1) (mC (.int 1))) mNil))) (mgN 2))
  (mRet (mIfE (mTB (mOp opEq (mMeth 0 (fPure f_p_Share_parts) (mVar 2) mNil) (mVar 1))) (mVar 2) (mC .non))))))
def f_p_share_of : List D → Store → Res D := fnM 3 1 m_p_share_of
def m_p_share_in : MS := (mRet (mCallX (fPureX g_p_told) (mCons (mCall (fPure f_p_share_of) (mCons (mVar 0) mNil)) mNil)))
def f_p_share_in : List D → Store → Res D := fnM 1 1 m_p_share_in
def g_p_share_in : List D → Store → Res D := fnX 1 1 m_p_share_in
def m_p_look_of : MS := (mSeq (mAsg (mCall (fPure f_p_pair_of) (mCons (mVar 0) (mCons (mC (.str "-")) mNil))) (mgN 1))
  (mRet (mIfE (mOrT (mTB (mIsN (mVar 1))) (mTB (mOp opGe (mOp opIx (mVar 1) (mC (.int 0))) (mOp opIx (mVar 1) (mC (.int 1)))))) (mC .non) (mVar 1))))
def f_p_look_of : List D → Store → Res D := fnM 2 1 m_p_look_of
def m_p_look_in : MS := (mRet (mCallX (fPureX g_p_told) (mCons (mCall (fPure f_p_look_of) (mCons (mVar 0) mNil)) mNil)))
def f_p_look_in : List D → Store → Res D := fnM 1 1 m_p_look_in
def g_p_look_in : List D → Store → Res D := fnX 1 1 m_p_look_in
def m_p_log_of : MS := (mSeq (mAsg (mCall fTuple (mCons (mLc (mItems (mSplit (mVar 0) (mC (.str " ")))) (mgN 2) mYes (mCall (fPure f_p_pair_of) (mCons (mVar 2) (mCons (mC (.str ":")) mNil))) [2]) mNil)) (mgN 1))
  (mRet (mIfE (mTB (mOp opIn (mC .non) (mVar 1))) (mC .non) (mVar 1))))
def f_p_log_of : List D → Store → Res D := fnM 3 1 m_p_log_of
def m_p_log_in : MS := (mRet (mCallX (fPureX g_p_told) (mCons (mCall (fPure f_p_log_of) (mCons (mVar 0) mNil)) mNil)))
def f_p_log_in : List D → Store → Res D := fnM 1 1 m_p_log_in
def g_p_log_in : List D → Store → Res D := fnX 1 1 m_p_log_in
def m_p_row_of : MS := (mSeq (mIf (mTB (mOp opEq (mVar 0) (mC (.str "-")))) (mRet (mTup mNil)) mSkip)
  (mSeq (mAsg (mCall fTuple (mCons (mLc (mItems (mSplit (mVar 0) (mC (.str " ")))) (mgN 2) mYes (mCall (fPure f_p_number_of) (mCons (mVar 2) mNil)) [2]) mNil)) (mgN 1))
  (mRet (mIfE (mTB (mOp opIn (mC .non) (mVar 1))) (mC .non) (mVar 1)))))
def f_p_row_of : List D → Store → Res D := fnM 3 1 m_p_row_of
def m_p_row_in : MS := (mRet (mCallX (fPureX g_p_told) (mCons (mCall (fPure f_p_row_of) (mCons (mVar 0) mNil)) mNil)))
def f_p_row_in : List D → Store → Res D := fnM 1 1 m_p_row_in
def g_p_row_in : List D → Store → Res D := fnX 1 1 m_p_row_in
def m_p_looks_of : MS := (mSeq (mIf (mTB (mOp opEq (mVar 0) (mC (.str "-")))) (mRet (mTup mNil)) mSkip)
  (mSeq (mAsg (mCall fTuple (mCons (mLc (mItems (mSplit (mVar 0) (mC (.str " ")))) (mgN 2) mYes (mCall (fPure f_p_look_of) (mCons (mVar 2) mNil)) [2]) mNil)) (mgN 1))
  (mRet (mIfE (mTB (mOp opIn (mC .non) (mVar 1))) (mC .non) (mVar 1)))))
def f_p_looks_of : List D → Store → Res D := fnM 3 1 m_p_looks_of
def m_p_looks_in : MS := (mRet (mCallX (fPureX g_p_told) (mCons (mCall (fPure f_p_looks_of) (mCons (mVar 0) mNil)) mNil)))
def f_p_looks_in : List D → Store → Res D := fnM 1 1 m_p_looks_in
def g_p_looks_in : List D → Store → Res D := fnX 1 1 m_p_looks_in
def m_l_read : MS := (mSeq (mAsg (mTup (mCons (mC .non) (mCons (mC .non) mNil))) (mgTup 2 (mgCons (mgN 2) (mgCons (mgN 3) mgNil))))
  (mSeq (mTry [⟨[(13, true)], 4, (mAsg (mVar 4) (mgN 3))⟩] (mIfX (mTB (mOp opEq (mVar 0) (mC (.str "limit")))) (mAsg (mCallX (fPureX g_p_limit_in) (mCons (mVar 1) mNil)) (mgN 2)) (mIfX (mTB (mOp opEq (mVar 0) (mC (.str "share")))) (mThen (mAsg (mCallX (fPureX g_p_share_in) (mCons (mVar 1) mNil)) (mgN 2)) (mAsg (mMeth 0 (fPure f_p_Share_parts) (mVar 2) mNil) (mgN 2))) (mIfX (mTB (mOp opEq (mVar 0) (mC (.str "look")))) (mAsg (mCallX (fPureX g_p_look_in) (mCons (mVar 1) mNil)) (mgN 2)) (mIfX (mTB (mOp opEq (mVar 0) (mC (.str "log")))) (mAsg (mCallX (fPureX g_p_log_in) (mCons (mVar 1) mNil)) (mgN 2)) (mAsg (mIfEX (mTB (mOp opEq (mVar 0) (mC (.str "row")))) (mCallX (fPureX g_p_row_in) (mCons (mVar 1) mNil)) (mCallX (fPureX g_p_looks_in) (mCons (mVar 1) mNil))) (mgN 2)))))))
  (mSeq (mIf (mTB (mIsN (mVar 3))) (mRet (mVar 2)) mSkip)
  (mSeq (mAsg (mAndV (mIsX [(13, true)] (mVar 3)) (mIsX [(13, true)] (mVar 3))) (mgN 5))
  (mRet (mIfE (mAndT (mTest (mVar 5)) (mNotT (mTest (mIsX [(13, false)] (mVar 3))))) (mC (.str "bad")) (mC (.str "other"))))))))
def f_l_read : List D → Store → Res D := fnM 6 2 m_l_read
def m_l_by_hand_right : MS := (mSeq (mAsg (mCell (mCons (mTup (mCons (mC (.str "limit")) (mCons (mC (.str "1/10")) (mCons (mTup (mCons (mC (.int 1)) (mCons (mC (.int 10)) mNil))) mNil)))) (mCons (mTup (mCons (mC (.str "limit")) (mCons (mC (.str "2/20")) (mCons (mTup (mCons (mC (.int 2)) (mCons (mC (.int 20)) mNil))) mNil)))) (mCons (mTup (mCons (mC (.str "limit")) (mCons (mC (.str "10/10")) (mCons (mC (.str "bad")) mNil)))) (mCons (mTup (mCons (mC (.str "limit")) (mCons (mC (.str "0/1")) (mCons (mC (.str "bad")) mNil)))) mNil))))) (mgN 0))
  (mSeq (mAsg (mOp opCatC (mVar 0) (mLst (mCons (mTup (mCons (mC (.str "limit")) (mCons (mC (.str "01/10")) (mCons (mC (.str "bad")) mNil)))) (mCons (mTup (mCons (mC (.str "limit")) (mCons (mC (.str "1/10 ")) (mCons (mC (.str "bad")) mNil)))) (mCons (mTup (mCons (mC (.str "limit")) (mCons (mC (.str "1/2/3")) (mCons (mC (.str "bad")) mNil)))) mNil))))) (mgN 0))
  (mSeq (mDrop (mApp (mVar 0) (mTup (mCons (mC (.str "limit")) (mCons (mC (.str "")) (mCons (mC (.str "bad")) mNil))))))
  (mSeq (mAsg (mOp opCatC (mVar 0) (mLst (mCons (mTup (mCons (mC (.str "share")) (mCons (mC (.str "1/7")) (mCons (mTup (mCons (mC (.int 1)) (mCons (mC (.int 7)) mNil))) mNil)))) (mCons (mTup (mCons (mC (.str "share")) (mCons (mC (.str "0/1")) (mCons (mTup (mCons (mC (.int 0)) (mCons (mC (.int 1)) mNil))) mNil)))) (mCons (mTup (mCons (mC (.str "share")) (mCons (mC (.str "1/1")) (mCons (mTup (mCons (mC (.int 1)) (mCons (mC (.int 1)) mNil))) mNil)))) mNil))))) (mgN 0))
  (mSeq (mDrop (mApp (mVar 0) (mTup (mCons (mC (.str "share")) (mCons (mC (.str "3/21")) (mCons (mC (.str "bad")) mNil))))))
  (mSeq (mAsg (mOp opCatC (mVar 0) (mLst (mCons (mTup (mCons (mC (.str "share")) (mCons (mC (.str "0/5")) (mCons (mC (.str "bad")) mNil)))) (mCons (mTup (mCons (mC (.str "share")) (mCons (mC (.str "2/1")) (mCons (mC (.str "bad")) mNil)))) (mCons (mTup (mCons (mC (.str "share")) (mCons (mC (.str "1/0")) (mCons (mC (.str "bad")) mNil)))) (mCons (mTup (mCons (mC (.str "share")) (mCons (mC (.str "0/0")) (mCons (mC (.str "bad")) mNil)))) mNil)))))) (mgN 0))
  (mSeq (mAsg (mOp opCatC (mVar 0) (mLst (mCons (mTup (mCons (mC (.str "look")) (mCons (mC (.str "0-100")) (mCons (mTup (mCons (mC (.int 0)) (mCons (mC (.int 100)) mNil))) mNil)))) (mCons (mTup (mCons (mC (.str "look")) (mCons (mC (.str "4-4")) (mCons (mC (.str "bad")) mNil)))) (mCons (mTup (mCons (mC (.str "look")) (mCons (mC (.str "5-4")) (mCons (mC (.str "bad")) mNil)))) (mCons (mTup (mCons (mC (.str "look")) (mCons (mC (.str "-1-4")) (mCons (mC (.str "bad")) mNil)))) mNil)))))) (mgN 0))
  (mSeq (mAsg (mOp opCatC (mVar 0) (mLst (mCons (mTup (mCons (mC (.str "log")) (mCons (mC (.str "0:0")) (mCons (mTup (mCons (mTup (mCons (mC (.int 0)) (mCons (mC (.int 0)) mNil))) mNil)) mNil)))) (mCons (mTup (mCons (mC (.str "log")) (mCons (mC (.str "")) (mCons (mC (.str "bad")) mNil)))) (mCons (mTup (mCons (mC (.str "log")) (mCons (mC (.str "-")) (mCons (mC (.str "bad")) mNil)))) (mCons (mTup (mCons (mC (.str "log")) (mCons (mC (.str "0:0  1:1")) (mCons (mC (.str "bad")) mNil)))) mNil)))))) (mgN 0))
  (mSeq (mAsg (mOp opCatC (mVar 0) (mLst (mCons (mTup (mCons (mC (.str "log")) (mCons (mC (.str "0:0 1")) (mCons (mC (.str "bad")) mNil)))) (mCons (mTup (mCons (mC (.str "row")) (mCons (mC (.str "-")) (mCons (mTup mNil) mNil)))) (mCons (mTup (mCons (mC (.str "row")) (mCons (mC (.str "")) (mCons (mC (.str "bad")) mNil)))) (mCons (mTup (mCons (mC (.str "row")) (mCons (mC (.str "9 4 3")) (mCons (mTup (mCons (mC (.int 9)) (mCons (mC (.int 4)) (mCons (mC (.int 3)) mNil)))) mNil)))) mNil)))))) (mgN 0))
  (mSeq (mDrop (mApp (mVar 0) (mTup (mCons (mC (.str "row")) (mCons (mC (.str "- 1")) (mCons (mC (.str "bad")) mNil))))))
  (mSeq (mAsg (mOp opCatC (mVar 0) (mLst (mCons (mTup (mCons (mC (.str "looks")) (mCons (mC (.str "-")) (mCons (mTup mNil) mNil)))) (mCons (mTup (mCons (mC (.str "looks")) (mCons (mC (.str "2-4 0-2 2-4")) (mCons (mTup (mCons (mTup (mCons (mC (.int 2)) (mCons (mC (.int 4)) mNil))) (mCons (mTup (mCons (mC (.int 0)) (mCons (mC (.int 2)) mNil))) (mCons (mTup (mCons (mC (.int 2)) (mCons (mC (.int 4)) mNil))) mNil)))) mNil)))) (mCons (mTup (mCons (mC (.str "looks")) (mCons (mC (.str "0-2 2-2")) (mCons (mC (.str "bad")) mNil)))) mNil))))) (mgN 0))
  (mSeq (mAsg (mOp opCatC (mVar 0) (mLst (mCons (mTup (mCons (mC (.str "looks")) (mCons (mC (.str "0-2 -")) (mCons (mC (.str "bad")) mNil)))) (mCons (mTup (mCons (mC (.str "row")) (mCons (mOp opMulS (mC (.str "9")) (mC (.int 60))) (mCons (mTup (mCons (mOp opSubI (mOp opPowI (mC (.int 10)) (mC (.int 60))) (mC (.int 1))) mNil)) mNil)))) (mCons (mTup (mCons (mC (.str "row")) (mCons (mOp opAdd (mC (.str "1")) (mOp opMulS (mC (.str "0")) (mC (.int 60)))) (mCons (mC (.str "bad")) mNil)))) mNil))))) (mgN 0))
  (mSeq (mAsg (mOp opAdd (mC (.str "1")) (mOp opMulS (mC (.str "0")) (mC (.int 60)))) (mgN 1))
  (mSeq (mAsg (mOp opCatC (mVar 0) (mLst (mCons (mTup (mCons (mC (.str "log")) (mCons (mOp opAdd (mC (.str "0:")) (mVar 1)) (mCons (mC (.str "bad")) mNil)))) (mCons (mTup (mCons (mC (.str "look")) (mCons (mOp opAdd (mC (.str "0-")) (mVar 1)) (mCons (mC (.str "bad")) mNil)))) (mCons (mTup (mCons (mC (.str "limit")) (mCons (mOp opAdd (mC (.str "1/")) (mVar 1)) (mCons (mC (.str "bad")) mNil)))) mNil))))) (mgN 0))
  (mSeq (mAsg (mOp opCatC (mVar 0) (mLst (mCons (mTup (mCons (mC (.str "share")) (mCons (mOp opAdd (mC (.str "1/")) (mVar 1)) (mCons (mC (.str "bad")) mNil)))) (mCons (mTup (mCons (mC (.str "looks")) (mCons (mOp opAdd (mC (.str "0-1 1-")) (mVar 1)) (mCons (mC (.str "bad")) mNil)))) mNil)))) (mgN 0))
  (mRet (mCall (fPure (f_l_same 30)) (mCons (mLc (mItems (mFrz (mVar 0))) (mgN 2) mYes (mCall (fPure f_l_read) (mCons (mOp opIx (mVar 2) (mC (.int 0))) (mCons (mOp opIx (mVar 2) (mC (.int 1))) mNil))) [2]) (mCons (mLc (mItems (mFrz (mVar 0))) (mgN 2) mYes (mOp opIx (mVar 2) (mC (.int 2))) [2]) mNil)))))))))))))))))))
def f_l_by_hand_right : List D → Store → Res D := fnM 3 0 m_l_by_hand_right
def m_p_pair_text : MS := (mRet (mFj [(mFmt (mOp opIx (mVar 0) (mC (.int 0)))), (mFmt (mVar 1)), (mFmt (mOp opIx (mVar 0) (mC (.int 1))))]))
def f_p_pair_text : List D → Store → Res D := fnM 2 2 m_p_pair_text
def m_p_limit_text : MS := (mRet (mCall (fPure f_p_pair_text) (mCons (mVar 0) (mCons (mC (.str "/")) mNil))))
def f_p_limit_text : List D → Store → Res D := fnM 1 1 m_p_limit_text
def m_p_share_text : MS := (mRet (mCall (fPure f_p_pair_text) (mCons (mMeth 0 (fPure f_p_Share_parts) (mVar 0) mNil) (mCons (mC (.str "/")) mNil))))
def f_p_share_text : List D → Store → Res D := fnM 1 1 m_p_share_text
def m_p_look_text : MS := (mRet (mCall (fPure f_p_pair_text) (mCons (mVar 0) (mCons (mC (.str "-")) mNil))))
def f_p_look_text : List D → Store → Res D := fnM 1 1 m_p_look_text
def m_p_log_text : MS := (mRet (mJoin (mC (.str " ")) (mLc (mItems (mVar 0)) (mgN 1) mYes (mCall (fPure f_p_pair_text) (mCons (mVar 1) (mCons (mC (.str ":")) mNil))) [1])))
def f_p_log_text : List D → Store → Res D := fnM 2 1 m_p_log_text
def m_p_words_text : MS := (mRet (mIfE (mTB (mOp opGt (mCall fLen (mCons (mVar 0) mNil)) (mC (.int 0)))) (mJoin (mC (.str " ")) (mVar 0)) (mC (.str "-"))))
def f_p_words_text : List D → Store → Res D := fnM 1 1 m_p_words_text
def m_p_row_text : MS := (mRet (mCall (fPure f_p_words_text) (mCons (mLc (mItems (mVar 0)) (mgN 1) mYes (mCall fStrI (mCons (mVar 1) mNil)) [1]) mNil)))
def f_p_row_text : List D → Store → Res D := fnM 2 1 m_p_row_text
def m_p_looks_text : MS := (mRet (mCall (fPure f_p_words_text) (mCons (mLc (mItems (mVar 0)) (mgN 1) mYes (mCall (fPure f_p_look_text) (mCons (mVar 1) mNil)) [1]) mNil)))
def f_p_looks_text : List D → Store → Res D := fnM 2 1 m_p_looks_text
def m_l_names_right : MS := (mSeq (mAsg (mLst (mCons (mCallK (fPure f_p_limit_in) 0 1 [0] mNil (mCons (mC (.str "1/10")) mNil)) (mCons (mMeth 0 (fPure f_p_Share_parts) (mCallK (fPure f_p_share_in) 0 1 [0] mNil (mCons (mC (.str "1/7")) mNil)) mNil) (mCons (mCallK (fPure f_p_look_in) 0 1 [0] mNil (mCons (mC (.str "0-1")) mNil)) (mCons (mCallK (fPure f_p_log_in) 0 1 [0] mNil (mCons (mC (.str "0:0")) mNil)) mNil))))) (mgN 0))
  (mSeq (mAsg (mOp opAdd (mVar 0) (mLst (mCons (mCallK (fPure f_p_row_in) 0 1 [0] mNil (mCons (mC (.str "-")) mNil)) (mCons (mCallK (fPure f_p_looks_in) 0 1 [0] mNil (mCons (mC (.str "0-2")) mNil)) (mCons (mCallK (fPure f_p_limit_text) 0 1 [0] mNil (mCons (mTup (mCons (mC (.int 1)) (mCons (mC (.int 10)) mNil))) mNil)) (mCons (mCallK (fPure f_p_share_text) 0 1 [0] mNil (mCons (mMake 0 f_p_Share_init (mCons (mC (.int 3)) (mCons (mC (.int 21)) mNil))) mNil)) mNil)))))) (mgN 0))
  (mSeq (mAsg (mOp opAdd (mVar 0) (mLst (mCons (mCallK (fPure f_p_look_text) 0 1 [0] mNil (mCons (mTup (mCons (mC (.int 0)) (mCons (mC (.int 1)) mNil))) mNil)) (mCons (mCallK (fPure f_p_log_text) 0 1 [0] mNil (mCons (mTup (mCons (mTup (mCons (mC (.int 0)) (mCons (mC (.int 0)) mNil))) mNil)) mNil)) (mCons (mCallK (fPure f_p_row_text) 0 1 [0] mNil (mCons (mTup mNil) mNil)) (mCons (mCallK (fPure f_p_looks_text) 0 1 [0] mNil (mCons (mTup (mCons (mTup (mCons (mC (.int 0)) (mCons (mC (.int 2)) mNil))) mNil)) mNil)) mNil)))))) (mgN 0))
  (mSeq (mAsg (mLst (mCons (mTup (mCons (mC (.int 1)) (mCons (mC (.int 10)) mNil))) (mCons (mTup (mCons (mC (.int 1)) (mCons (mC (.int 7)) mNil))) (mCons (mTup (mCons (mC (.int 0)) (mCons (mC (.int 1)) mNil))) (mCons (mTup (mCons (mTup (mCons (mC (.int 0)) (mCons (mC (.int 0)) mNil))) mNil)) (mCons (mTup mNil) (mCons (mTup (mCons (mTup (mCons (mC (.int 0)) (mCons (mC (.int 2)) mNil))) mNil)) (mCons (mC (.str "1/10")) (mCons (mC (.str "1/7")) (mCons (mC (.str "0-1")) (mCons (mC (.str "0:0")) (mCons (mC (.str "-")) (mCons (mC (.str "0-2")) mNil))))))))))))) (mgN 1))
  (mRet (mCall (fPure (f_l_same 30)) (mCons (mVar 0) (mCons (mVar 1) mNil))))))))
def f_l_names_right : List D → Store → Res D := fnM 2 0 m_l_names_right
def m_l_take : MS := (mSeq (mIf (mTB (mOp opGt (mOp opIx (mVar 0) (mC (.int 0))) (mC (.int 0)))) (mSeq (mAsg (mOp opModI (mCall fInt (mCons (mOp opIx (mVar 0) (mC (.int 0))) mNil)) (mVar 1)) (mgN 2))
  (mSeq (mAsg (mOp opDivI (mOp opIx (mVar 0) (mC (.int 0))) (mVar 1)) (mgSub (mVar 0) (mC (.int 0))))
  (mRet (mVar 2)))) mSkip)
  (mSeq (mAsg (mOp opAdd (mOp opIx (mVar 0) (mC (.int 2))) (mC (.int 1))) (mgSub (mVar 0) (mC (.int 2))))
  (mSeq (mAsg (mOp opModI (mCall fInt (mCons (mOp opMul (mOp opAdd (mOp opIx (mVar 0) (mC (.int 1))) (mOp opMul (mC (.int 48271)) (mOp opIx (mVar 0) (mC (.int 2))))) (mOp opAdd (mC (.int 39373)) (mOp opIx (mVar 0) (mC (.int 2))))) mNil)) (mC (.int 2147483647))) (mgN 3))
  (mSeq (mAsg (mOp opAdd (mOp opModI (mCall fInt (mCons (mVar 3) mNil)) (mC (.int 40009))) (mC (.int 7))) (mgN 4))
  (mSeq (mAsg (mOp opModI (mCall fInt (mCons (mOp opMul (mOp opAdd (mOp opAdd (mVar 3) (mOp opIx (mVar 0) (mC (.int 2)))) (mOp opDivI (mOp opIx (mVar 0) (mC (.int 1))) (mC (.int 1000003)))) (mVar 4)) mNil)) (mC (.int 2147483629))) (mgN 5))
  (mRet (mOp opModI (mCall fInt (mCons (mOp opDivI (mOp opModI (mCall fInt (mCons (mOp opAdd (mOp opMul (mVar 5) (mC (.int 48271))) (mVar 3)) mNil)) (mC (.int 2147483587))) (mC (.int 64))) mNil)) (mVar 1))))))))
def f_l_take : List D → Store → Res D := fnM 6 2 m_l_take
def m_l_of : MS := (mRet (mOp opIx (mVar 1) (mCall (fCall f_l_take) (mCons (mVar 0) (mCons (mCall fLen (mCons (mVar 1) mNil)) mNil)))))
def f_l_of : List D → Store → Res D := fnM 2 2 m_l_of
def m_l_number : MS := (mSeq (mAsg (mCall (fCall f_l_take) (mCons (mVar 0) (mCons (mC (.int 6)) mNil))) (mgN 1))
  (mSeq (mIf (mTB (mOp opLt (mVar 1) (mC (.int 3)))) (mRet (mCall (fCall f_l_of) (mCons (mVar 0) (mCons (mLst (mCons (mC (.int 0)) (mCons (mC (.int 1)) (mCons (mC (.int 9)) (mCons (mC (.int 10)) (mCons (mC (.int 11)) (mCons (mC (.int 60)) (mCons (mC (.int 100)) (mCons (mC (.int 101)) mNil))))))))) mNil)))) mSkip)
  (mSeq (mIf (mTB (mOp opEq (mVar 1) (mC (.int 3)))) (mRet (mOp opSubI (mOp opSubI (mOp opPowI (mC (.int 10)) (mC (.int 60))) (mC (.int 1))) (mCall (fCall f_l_take) (mCons (mVar 0) (mCons (mC (.int 1000)) mNil))))) mSkip)
  (mRet (mCall (fCall f_l_take) (mCons (mVar 0) (mCons (mCall (fCall f_l_of) (mCons (mVar 0) (mCons (mLst (mCons (mC (.int 100)) (mCons (mOp opPowI (mC (.int 10)) (mC (.int 9))) (mCons (mOp opPowI (mC (.int 10)) (mC (.int 18))) (mCons (mOp opPowI (mC (.int 10)) (mC (.int 59))) mNil))))) mNil))) mNil)))))))
def f_l_number : List D → Store → Res D := fnM 2 1 m_l_number
def m_l_common : MS := (mSeq (mWhile (fuelI 1) (mTB (mOp opGt (mVar 1) (mC (.int 0)))) (mPar 0 1 (mCons (mVar 1) (mCons (mOp opModI (mCall fInt (mCons (mVar 0) mNil)) (mVar 1)) mNil))))
  (mRet (mVar 0)))
def f_l_common : List D → Store → Res D := fnM 2 2 m_l_common
def m_l_limit : MS := (mSeq (mAsg (mCall (fCall f_l_take) (mCons (mVar 0) (mCons (mC (.int 8)) mNil))) (mgN 1))
  (mSeq (mIf (mTB (mOp opEq (mVar 1) (mC (.int 0)))) (mRet (mTup (mCons (mOp opAdd (mC (.int 1)) (mCall (fCall f_l_take) (mCons (mVar 0) (mCons (mOp opPowI (mC (.int 10)) (mC (.int 18))) mNil)))) (mCons (mOp opAdd (mOp opAdd (mOp opPowI (mC (.int 10)) (mC (.int 18))) (mC (.int 1))) (mCall (fCall f_l_take) (mCons (mVar 0) (mCons (mOp opPowI (mC (.int 10)) (mC (.int 20))) mNil)))) mNil)))) mSkip)
  (mSeq (mIf (mTB (mOp opEq (mVar 1) (mC (.int 1)))) (mRet (mTup (mCons (mOp opAdd (mC (.int 2)) (mOp opMul (mCall (fCall f_l_take) (mCons (mVar 0) (mCons (mC (.int 3)) mNil))) (mC (.int 2)))) (mCons (mC (.int 20)) mNil)))) mSkip)
  (mRet (mCall (fCall f_l_of) (mCons (mVar 0) (mCons (mLst (mCons (mTup (mCons (mC (.int 1)) (mCons (mC (.int 10)) mNil))) (mCons (mTup (mCons (mC (.int 1)) (mCons (mC (.int 2)) mNil))) (mCons (mTup (mCons (mC (.int 1)) (mCons (mC (.int 100)) mNil))) (mCons (mTup (mCons (mC (.int 3)) (mCons (mC (.int 7)) mNil))) (mCons (mTup (mCons (mC (.int 99)) (mCons (mC (.int 100)) mNil))) (mCons (mTup (mCons (mC (.int 2)) (mCons (mC (.int 5)) mNil))) mNil))))))) mNil)))))))
def f_l_limit : List D → Store → Res D := fnM 2 1 m_l_limit
def m_l_drawn : MS := (mSeq (mPar 2 3 (mCons (mCall (fCall f_l_number) (mCons (mVar 0) mNil)) (mCons (mCall (fCall f_l_number) (mCons (mVar 0) mNil)) mNil)))
  (mSeq (mIf (mTB (mOp opEq (mVar 1) (mC (.str "limit")))) (mSeq (mAsg (mCall (fCall f_l_of) (mCons (mVar 0) (mCons (mLst (mCons (mCall (fCall f_l_limit) (mCons (mVar 0) mNil)) (mCons (mTup (mCons (mOp opAdd (mVar 2) (mC (.int 1))) (mCons (mOp opAdd (mOp opAdd (mVar 2) (mC (.int 2))) (mVar 3)) mNil))) mNil))) mNil))) (mgN 4))
  (mSeq (mAsg (mIfE (mTB (mOp opLt (mCall fMaxT (mCons (mVar 4) mNil)) (mOp opPowI (mC (.int 10)) (mC (.int 60))))) (mVar 4) (mTup (mCons (mC (.int 1)) (mCons (mC (.int 2)) mNil)))) (mgN 4))
  (mRet (mTup (mCons (mVar 4) (mCons (mOp opAdd (mOp opAdd (mCall fStrI (mCons (mOp opIx (mVar 4) (mC (.int 0))) mNil)) (mC (.str "/"))) (mCall fStrI (mCons (mOp opIx (mVar 4) (mC (.int 1))) mNil))) mNil)))))) mSkip)
  (mSeq (mIf (mTB (mOp opEq (mVar 1) (mC (.str "share")))) (mSeq (mPar 5 6 (mCons (mCall fMin2 (mCons (mVar 2) (mCons (mVar 3) mNil))) (mCons (mCall fMax3 (mCons (mVar 2) (mCons (mVar 3) (mCons (mC (.int 1)) mNil)))) mNil)))
  (mSeq (mAsg (mCall (fPure f_l_common) (mCons (mVar 6) (mCons (mVar 5) mNil))) (mgN 7))
  (mRet (mTup (mCons (mTup (mCons (mOp opDivI (mVar 5) (mVar 7)) (mCons (mOp opDivI (mVar 6) (mVar 7)) mNil))) (mCons (mOp opAdd (mOp opAdd (mCall fStrI (mCons (mOp opDivI (mVar 5) (mVar 7)) mNil)) (mC (.str "/"))) (mCall fStrI (mCons (mOp opDivI (mVar 6) (mVar 7)) mNil))) mNil)))))) mSkip)
  (mSeq (mIf (mTB (mOp opEq (mVar 1) (mC (.str "look")))) (mSeq (mPar 5 6 (mCons (mCall fMin2 (mCons (mVar 2) (mCons (mVar 3) mNil))) (mCons (mCall fMax2 (mCons (mVar 2) (mCons (mVar 3) mNil))) mNil)))
  (mSeq (mAsg (mOp opAdd (mVar 6) (mCall fInt (mCons (mOp opEq (mVar 5) (mVar 6)) mNil))) (mgN 6))
  (mSeq (mAsg (mIfE (mTB (mOp opLt (mVar 6) (mOp opPowI (mC (.int 10)) (mC (.int 60))))) (mVar 6) (mOp opSubI (mVar 5) (mC (.int 1)))) (mgN 6))
  (mSeq (mPar 5 6 (mCons (mCall fMin2 (mCons (mVar 5) (mCons (mVar 6) mNil))) (mCons (mCall fMax2 (mCons (mVar 5) (mCons (mVar 6) mNil))) mNil)))
  (mRet (mTup (mCons (mTup (mCons (mVar 5) (mCons (mVar 6) mNil))) (mCons (mOp opAdd (mOp opAdd (mCall fStrI (mCons (mVar 5) mNil)) (mC (.str "-"))) (mCall fStrI (mCons (mVar 6) mNil))) mNil)))))))) mSkip)
  (mSeq (mAsg (mCall (fCall f_l_take) (mCons (mVar 0) (mCons (mCall (fCall f_l_of) (mCons (mVar 0) (mCons (mLst (mCons (mC (.int 3)) (mCons (mC (.int 8)) (mCons (mC (.int 30)) mNil)))) mNil))) mNil))) (mgN 8))
  (mSeq (mIf (mTB (mOp opEq (mVar 1) (mC (.str "row")))) (mSeq (mAsg (mCall fTuple (mCons (mLc (mRange1 (mVar 8)) (mgN 10) mYes (mCall (fCall f_l_number) (mCons (mVar 0) mNil)) [10]) mNil)) (mgN 4))
  (mRet (mTup (mCons (mVar 4) (mCons (mIfE (mTB (mOp opNe (mVar 4) (mTup mNil))) (mJoin (mC (.str " ")) (mLc (mItems (mVar 4)) (mgN 11) mYes (mCall fStrI (mCons (mVar 11) mNil)) [11])) (mC (.str "-"))) mNil))))) mSkip)
  (mSeq (mIf (mTB (mOp opEq (mVar 1) (mC (.str "log")))) (mSeq (mAsg (mCall fTuple (mCons (mLc (mRange1 (mOp opAdd (mVar 8) (mC (.int 1)))) (mgN 10) mYes (mTup (mCons (mCall (fCall f_l_number) (mCons (mVar 0) mNil)) (mCons (mCall (fCall f_l_number) (mCons (mVar 0) mNil)) mNil))) [10]) mNil)) (mgN 4))
  (mRet (mTup (mCons (mVar 4) (mCons (mJoin (mC (.str " ")) (mLc (mItems (mVar 4)) (mgN 11) mYes (mOp opAdd (mOp opAdd (mCall fStrI (mCons (mOp opIx (mVar 11) (mC (.int 0))) mNil)) (mC (.str ":"))) (mCall fStrI (mCons (mOp opIx (mVar 11) (mC (.int 1))) mNil))) [11])) mNil))))) mSkip)
  (mSeq (mAsg (mLc (mRange1 (mVar 8)) (mgN 10) mYes (mCall (fCall f_l_take) (mCons (mVar 0) (mCons (mC (.int 60)) mNil))) [10]) (mgN 9))
  (mSeq (mAsg (mCall fTuple (mCons (mLc (mItems (mVar 9)) (mgN 11) mYes (mTup (mCons (mVar 11) (mCons (mOp opAdd (mOp opAdd (mVar 11) (mC (.int 1))) (mCall (fCall f_l_take) (mCons (mVar 0) (mCons (mC (.int 9)) mNil)))) mNil))) [11]) mNil)) (mgN 4))
  (mRet (mTup (mCons (mVar 4) (mCons (mIfE (mTB (mOp opNe (mVar 4) (mTup mNil))) (mJoin (mC (.str " ")) (mLc (mItems (mVar 4)) (mgN 11) mYes (mOp opAdd (mOp opAdd (mCall fStrI (mCons (mOp opIx (mVar 11) (mC (.int 0))) mNil)) (mC (.str "-"))) (mCall fStrI (mCons (mOp opIx (mVar 11) (mC (.int 1))) mNil))) [11])) (mC (.str "-"))) mNil)))))))))))))
def f_l_drawn : List D → Store → Res D := fnM 12 2 m_l_drawn
def m_l_written : MS := (mSeq (mIf (mTB (mOp opEq (mVar 0) (mC (.str "limit")))) (mRet (mCall (fPure f_p_limit_text) (mCons (mVar 1) mNil))) mSkip)
  (mSeq (mIf (mTB (mOp opEq (mVar 0) (mC (.str "share")))) (mRet (mCall (fPure f_p_share_text) (mCons (mMake 0 f_p_Share_init (mCons (mOp opMul (mOp opIx (mVar 1) (mC (.int 0))) (mC (.int 3))) (mCons (mOp opMul (mOp opIx (mVar 1) (mC (.int 1))) (mC (.int 3))) mNil))) mNil))) mSkip)
  (mSeq (mIf (mTB (mOp opEq (mVar 0) (mC (.str "look")))) (mRet (mCall (fPure f_p_look_text) (mCons (mVar 1) mNil))) mSkip)
  (mSeq (mIf (mTB (mOp opEq (mVar 0) (mC (.str "log")))) (mRet (mCall (fPure f_p_log_text) (mCons (mVar 1) mNil))) mSkip)
  (mRet (mIfE (mTB (mOp opEq (mVar 0) (mC (.str "row")))) (mCall (fPure f_p_row_text) (mCons (mVar 1) mNil)) (mCall (fPure f_p_looks_text) (mCons (mVar 1) mNil))))))))
def f_l_written : List D → Store → Res D := fnM 2 2 m_l_written
def m_l_bent : MS := (mSeq (mPar 2 3 (mCons (mCall (fCall f_l_take) (mCons (mVar 0) (mCons (mC (.int 4)) mNil))) (mCons (mCall (fCall f_l_take) (mCons (mVar 0) (mCons (mOp opAdd (mCall fLen (mCons (mVar 1) mNil)) (mC (.int 1))) mNil))) mNil)))
  (mSeq (mAsg (mCall (fCall f_l_of) (mCons (mVar 0) (mCons (mLst (mCons (mC (.str " ")) (mCons (mC (.str "-")) (mCons (mC (.str ":")) (mCons (mC (.str "/")) (mCons (mC (.str "0")) (mCons (mC (.str "1")) (mCons (mC (.str "9")) (mCons (mC (.str "a")) (mCons (mC (.str "+")) (mCons (mC (.str ".")) (mCons (mC (.str "\n")) (mCons (mC (.str "_")) mNil))))))))))))) mNil))) (mgN 4))
  (mSeq (mIf (mTB (mOp opEq (mVar 2) (mC (.int 0)))) (mRet (mOp opAdd (mOp opAdd (mSl (mVar 1) mNoO (mSoO (mVar 3))) (mVar 4)) (mSl (mVar 1) (mSoO (mVar 3)) mNoO))) mSkip)
  (mSeq (mIf (mTB (mOp opEq (mVar 2) (mC (.int 1)))) (mRet (mOp opAdd (mSl (mVar 1) mNoO (mSoO (mVar 3))) (mSl (mVar 1) (mSoO (mOp opAdd (mVar 3) (mC (.int 1)))) mNoO))) mSkip)
  (mSeq (mIf (mTB (mOp opEq (mVar 2) (mC (.int 2)))) (mAsg (mSl (mVar 1) (mSoO (mVar 3)) (mSoO (mOp opAdd (mVar 3) (mC (.int 1))))) (mgN 4)) mSkip)
  (mRet (mOp opAdd (mOp opAdd (mSl (mVar 1) mNoO (mSoO (mVar 3))) (mVar 4)) (mSl (mVar 1) (mSoO (mOp opSubI (mOp opAdd (mVar 3) (mVar 2)) (mC (.int 2)))) mNoO))))))))
def f_l_bent : List D → Store → Res D := fnM 5 2 m_l_bent
def m_l_lists (self : List D → Store → Res D) : MS := (mRet (mIfE (mTest (mIsi2 .list .tuple (mVar 0))) (mLc (mItems (mVar 0)) (mgN 1) mYes (mCall (fPure self) (mCons (mVar 1) mNil)) [1]) (mVar 0)))
def f_l_lists : Nat → List D → Store → Res D
  | 0 => fun _ _ => .no
  | k + 1 => fnM 2 1 (m_l_lists (f_l_lists k))
def m_l_value : MS := (mSeq (mIf (mOrT (mTB (mOp opEq (mVar 0) (mC (.str "")))) (mOrT (mTB (mOp opGt (mCall fLen (mCons (mVar 0) mNil)) (mC (.int 60)))) (mTB (mOp opNe (mLc (mChars (mVar 0)) (mgN 1) (mTB (mOp opNinS (mVar 1) (mC (.str "0123456789")))) (mVar 1) [1]) (mLst mNil))))) (mRet (mC .non)) mSkip)
  (mRet (mIfE (mOrT (mTB (mOp opEq (mVar 0) (mC (.str "0")))) (mTB (mOp opNe (mOp opIx (mVar 0) (mC (.int 0))) (mC (.str "0"))))) (mCall fIntT (mCons (mVar 0) mNil)) (mC .non))))
def f_l_value : List D → Store → Res D := fnM 2 1 m_l_value
def m_l_pair : MS := (mSeq (mAsg (mCall fTuple (mCons (mLc (mItems (mSplit (mVar 0) (mVar 1))) (mgN 3) mYes (mCall (fPure f_l_value) (mCons (mVar 3) mNil)) [3]) mNil)) (mgN 2))
  (mRet (mIfE (mAndT (mTB (mOp opEq (mCall fLen (mCons (mVar 2) mNil)) (mC (.int 2)))) (mTB (mOp opNin (mC .non) (mVar 2)))) (mVar 2) (mC .non))))
def f_l_pair : List D → Store → Res D := fnM 4 2 m_l_pair
def m_l_due : MS := (mSeq (mIf (mAndT (mTB (mOp opIn (mVar 0) (mTup (mCons (mC (.str "row")) (mCons (mC (.str "looks")) mNil))))) (mTB (mOp opEq (mVar 1) (mC (.str "-"))))) (mRet (mTup mNil)) mSkip)
  (mSeq (mIf (mTB (mOp opIn (mVar 0) (mTup (mCons (mC (.str "limit")) (mCons (mC (.str "share")) (mCons (mC (.str "look")) mNil)))))) (mSeq (mAsg (mCall (fPure f_l_pair) (mCons (mVar 1) (mCons (mIfE (mTB (mOp opEq (mVar 0) (mC (.str "look")))) (mC (.str "-")) (mC (.str "/"))) mNil))) (mgN 2))
  (mSeq (mIf (mTB (mIsN (mVar 2))) (mRet (mC (.str "bad"))) mSkip)
  (mSeq (mIf (mTB (mOp opEq (mVar 0) (mC (.str "share")))) (mSeq (mAsg (mAndV (mOp opLe (mOp opIx (mVar 2) (mC (.int 0))) (mOp opIx (mVar 2) (mC (.int 1)))) (mAndV (mOp opGt (mOp opIx (mVar 2) (mC (.int 1))) (mC (.int 0))) (mOp opEq (mCall (fPure f_l_common) (mCons (mOp opIx (mVar 2) (mC (.int 1))) (mCons (mOp opIx (mVar 2) (mC (.int 0))) mNil))) (mC (.int 1))))) (mgN 3))
  (mRet (mIfE (mTest (mVar 3)) (mVar 2) (mC (.str "bad"))))) mSkip)
  (mRet (mIfE (mAndT (mTB (mOp opLt (mOp opIx (mVar 2) (mC (.int 0))) (mOp opIx (mVar 2) (mC (.int 1))))) (mOrT (mTB (mOp opEq (mVar 0) (mC (.str "look")))) (mTB (mOp opGt (mOp opIx (mVar 2) (mC (.int 0))) (mC (.int 0)))))) (mVar 2) (mC (.str "bad"))))))) mSkip)
  (mSeq (mAsg (mSplit (mVar 1) (mC (.str " "))) (mgN 4))
  (mSeq (mIf (mTB (mOp opEq (mVar 0) (mC (.str "row")))) (mSeq (mAsg (mCall fTuple (mCons (mLc (mItems (mVar 4)) (mgN 6) mYes (mCall (fPure f_l_value) (mCons (mVar 6) mNil)) [6]) mNil)) (mgN 5))
  (mRet (mIfE (mTB (mOp opIn (mC .non) (mVar 5))) (mC (.str "bad")) (mVar 5)))) mSkip)
  (mSeq (mAsg (mCall fTuple (mCons (mLc (mItems (mVar 4)) (mgN 6) mYes (mCall (fPure f_l_pair) (mCons (mVar 6) (mCons (mIfE (mTB (mOp opEq (mVar 0) (mC (.str "log")))) (mC (.str ":")) (mC (.str "-"))) mNil))) [6]) mNil)) (mgN 5))
  (mSeq (mIf (mTB (mOp opIn (mC .non) (mVar 5))) (mRet (mC (.str "bad"))) mSkip)
  (mRet (mIfE (mAndT (mTB (mOp opEq (mVar 0) (mC (.str "looks")))) (mTB (mOp opNe (mLc (mItems (mVar 5)) (mgN 2) (mTB (mOp opGe (mOp opIx (mVar 2) (mC (.int 0))) (mOp opIx (mVar 2) (mC (.int 1))))) (mVar 2) [2]) (mLst mNil)))) (mC (.str "bad")) (mVar 5)))))))))
def f_l_due : List D → Store → Res D := fnM 7 2 m_l_due
def m_l_right : MS := (mSeq (mIf (mOrT (mNotT (mTest (mCall (fPure f_l_by_hand_right) mNil))) (mNotT (mTest (mCall (fPure f_l_names_right) mNil)))) (mRet (mC (.bl false))) mSkip)
  (mSeq (mFor (mRange1 (mC (.int 5))) (mgN 1) (mFor (mItems (mTup (mCons (mC (.str "limit")) (mCons (mC (.str "share")) (mCons (mC (.str "look")) (mCons (mC (.str "log")) (mCons (mC (.str "row")) (mCons (mC (.str "looks")) mNil)))))))) (mgN 2) (mSeq (mAsg (mCall (fCall f_l_drawn) (mCons (mVar 0) (mCons (mVar 2) mNil))) (mgTup 2 (mgCons (mgN 3) (mgCons (mgN 4) mgNil))))
  (mIf (mTB (mOp opLt (mCall fLen (mCons (mVar 4) mNil)) (mC (.int 190)))) (mSeq (mAsg (mCell (mCons (mCall (fPure f_l_written) (mCons (mVar 2) (mCons (mVar 3) mNil))) (mCons (mCall (fPure f_l_written) (mCons (mVar 2) (mCons (mCall (fPure (f_l_lists 30)) (mCons (mVar 3) mNil)) mNil))) mNil))) (mgN 5))
  (mSeq (mDrop (mApp (mVar 5) (mCall (fPure f_l_read) (mCons (mVar 2) (mCons (mVar 4) mNil)))))
  (mSeq (mIf (mNotT (mTest (mCall (fPure (f_l_same 30)) (mCons (mFrz (mVar 5)) (mCons (mLst (mCons (mVar 4) (mCons (mVar 4) (mCons (mVar 3) mNil)))) mNil))))) (mRet (mC (.bl false))) mSkip)
  (mSeq (mAsg (mLc (mRange1 (mC (.int 4))) (mgN 7) mYes (mCall (fCall f_l_bent) (mCons (mVar 0) (mCons (mVar 4) mNil))) [7]) (mgN 6))
  (mIf (mNotT (mTest (mCall (fPure (f_l_same 30)) (mCons (mLc (mItems (mVar 6)) (mgN 8) mYes (mCall (fPure f_l_read) (mCons (mVar 2) (mCons (mVar 8) mNil))) [8]) (mCons (mLc (mItems (mVar 6)) (mgN 8) mYes (mCall (fPure f_l_due) (mCons (mVar 2) (mCons (mVar 8) mNil))) [8]) mNil))))) (mRet (mC (.bl false))) mSkip))))) mSkip))))
  (mRet (mC (.bl true)))))
def f_l_right : List D → Store → Res D := fnM 9 1 m_l_right
def m_l_box : MS := (mSeq (mAsg (mIfE (mTB (mOp opLt (mVar 1) (mCall fLen (mCons (mVar 0) mNil)))) (mOp opIx (mVar 0) (mVar 1)) (mC (.int 0))) (mgN 2))
  (mRet (mCell (mCons (mOp opMul (mCall fAbs (mCons (mVar 2) mNil)) (mCall fInt (mCons (mOp opGe (mCall fAbs (mCons (mVar 2) mNil)) (mOp opPowI (mC (.int 10)) (mC (.int 18)))) mNil))) (mCons (mOp opAdd (mOp opAdd (mOp opModI (mCall fInt (mCons (mVar 2) mNil)) (mC (.int 2305843009213693951))) (mOp opMul (mC (.int 39373)) (mVar 1))) (mC (.int 815))) (mCons (mC (.int 0)) mNil))))))
def f_l_box : List D → Store → Res D := fnC 3 2 m_l_box
def m_l_law : MS := (mSeq (mAsg (mCall (fPure f_l_cells) (mCons (mVar 0) (mCons (mC (.int 3)) mNil))) (mgN 1))
  (mRet (mCall fAll (mCons (mLc (mRange1 (mCall fLen (mCons (mVar 1) mNil))) (mgN 2) mYes (mCall (fCall f_l_right) (mCons (mCall (fCall f_l_box) (mCons (mVar 1) (mCons (mVar 2) mNil))) mNil)) [2]) mNil))))
def f_l_law : List D → Store → Res D := fnM 3 1 m_l_law
end Lw
set_option exponentiation.threshold 10000
namespace Lw
open PySem L2 Q
abbrev box (a b c : Int) : Cell := .lst [.int a, .int b, .int c]
theorem mulOk_r {i j : Int} (h : -(2 ^ 64) < j ∧ j < 2 ^ 64) : mulOk i j = true := by
  have h2 : j.natAbs < 2 ^ 64 := by omega
  unfold mulOk
  rw [decide_eq_true h2]
  simp
theorem mulOk_l {i j : Int} (h : -(2 ^ 64) < i ∧ i < 2 ^ 64) : mulOk i j = true := by
  have h2 : i.natAbs < 2 ^ 64 := by omega
  unfold mulOk
  rw [decide_eq_true h2]
  simp
theorem log2_lt9000 {n : Int} (h0 : 0 ≤ n) (h : n < 2 ^ 8999) : n.natAbs.log2 < 9000 := by
  by_cases e : n.natAbs = 0
  · rw [e]; decide
  · have h2 : n.natAbs < 2 ^ 8999 := by
      have : (n.natAbs : Int) = n := by omega
      have h3 : (n.natAbs : Int) < ((2 ^ 8999 : Nat) : Int) := by rw [this]; exact_mod_cast h
      exact_mod_cast h3
    have := (Nat.log2_lt e).mpr h2
    omega
theorem divOk_of {i j : Int} (h0 : 0 < j) (h : j < 2 ^ 8999) : divOk i j = true := by
  unfold divOk
  exact decide_eq_true ⟨h0, log2_lt9000 (by omega) h⟩
theorem modOk_of {i j : Int} (h0 : 0 < j) : modOk i j = true := by
  unfold modOk
  exact decide_eq_true h0
def BoxC (x : Cell) (N : Nat) : Prop := ∃ a b c : Int, x = box a b c ∧ 0 ≤ a ∧ (0 ≤ b ∧ b < 2 ^ 63) ∧ 0 ≤ c ∧ c ≤ N
theorem BoxC.mono {x : Cell} {N M : Nat} (h : BoxC x N) (hl : N ≤ M) : BoxC x M := by
  obtain ⟨a, b, c, e, ha, hb, hc, hd⟩ := h
  exact ⟨a, b, c, e, ha, hb, hc, by omega⟩
def BoxS (S0 : Store) (k N : Nat) (S : Store) : Prop := ∃ y, S = S0.set k y ∧ BoxC y N ∧ k < S0.length
theorem BoxS.len {S0 S : Store} {k N : Nat} (h : BoxS S0 k N S) : S.length = S0.length := by obtain ⟨y, rfl, _, _⟩ := h; simp
theorem BoxS.mono {S0 S : Store} {k N M : Nat} (h : BoxS S0 k N S) (hl : N ≤ M) : BoxS S0 k M S := by obtain ⟨y, e, hy, hk⟩ := h; exact ⟨y, e, hy.mono hl, hk⟩
theorem BoxS.start {S : Store} {k N : Nat} {x : Cell} (h : S[k]? = some x) (hx : BoxC x N) : BoxS S k N S := ⟨x, (set_self h).symm, hx, (List.getElem?_eq_some_iff.mp h).1⟩
theorem BoxS.other {S0 S : Store} {k N j : Nat} (h : BoxS S0 k N S) (hj : j ≠ k) : S[j]? = S0[j]? := by
  obtain ⟨y, rfl, _, _⟩ := h
  rw [List.getElem?_set_ne (fun e => hj e.symm)]
theorem BoxS.get {S0 S : Store} {k N : Nat} (h : BoxS S0 k N S) : ∃ x, S[k]? = some x ∧ BoxC x N := by
  obtain ⟨y, rfl, hy, hk⟩ := h
  exact ⟨y, List.getElem?_set_self hk, hy⟩
theorem BoxS.set {S0 S : Store} {k N M : Nat} {y : Cell} (h : BoxS S0 k N S) (hy : BoxC y M) : BoxS S0 k M (S.set k y) := by
  obtain ⟨x, rfl, _, hk⟩ := h
  exact ⟨y, by rw [List.set_set], hy, hk⟩
theorem fin_len {n : Nat} {S : Store} {d : D} (h : S.length = n) : fin n d S = .ok d S := by unfold fin; rw [if_pos h]
def big : Int := 2 ^ 8000
theorem big_lt {n : Int} (h : n < big) : n < 2 ^ 8999 := Int.lt_trans h (by unfold big; decide)
theorem bigN {x : Int} (hx : x ≤ 10 ^ 70) : x < big := Int.lt_of_le_of_lt hx (by unfold big; decide)
def once (b c : Int) : Int := ((b + 48271 * (c + 1)) * (39373 + (c + 1))) % 2147483647
def far (b c : Int) : Int := once b c % 40009 + 7
def twice (b c : Int) : Int := ((once b c + (c + 1) + b / 1000003) * far b c) % 2147483629
theorem take_eq1 (S : Store) (k : Nat) (a b c n : Int) (hk : S[k]? = some (box a b c)) (ha : 0 < a) (hn : 0 < n) (hn2 : n < 2 ^ 8999) :
    f_l_take [.ref k, .int n] S = .ok (.int (a % n)) (S.set k (box (a / n) b c)) := by
  simp [f_l_take, fnM, m_l_take, ix_refD _ hk, ha, modOk_of hn, divOk_of hn hn2, setIx, hk, ixN]
theorem take_eq2 (S : Store) (k : Nat) (a b c n : Int) (hk : S[k]? = some (box a b c)) (ha : ¬ 0 < a) (hn : 0 < n) (hb : 0 ≤ b ∧ b < 2 ^ 63) (hc : 0 ≤ c ∧ c < 2 ^ 40) :
    f_l_take [.ref k, .int n] S = .ok (.int ((twice b c * 48271 + once b c) % 2147483587 / 64 % n)) (S.set k (box a b (c + 1))) := by
  have hk2 : (S.set k (box a b (c + 1)))[k]? = some (box a b (c + 1)) := set_get hk
  have e1 : mulOk 48271 (c + 1) = true := mulOk_l (by decide)
  have e2 : mulOk (b + 48271 * (c + 1)) (39373 + (c + 1)) = true := mulOk_r (by omega)
  have e3 : ∀ x, mulOk x (far b c) = true := fun x => mulOk_r (by unfold far; omega)
  have e4 : ∀ x, mulOk x 48271 = true := fun x => mulOk_r (by decide)
  have f1 : ((b + 48271 * (c + 1)) * (39373 + (c + 1))) % 2147483647 = once b c := rfl
  have f2 : once b c % 40009 + 7 = far b c := rfl
  have f3 : ((once b c + (c + 1) + b / 1000003) * far b c) % 2147483629 = twice b c := rfl
  have g1 : divOk b 1000003 = true := divOk_of (by decide) (by decide)
  have g2 : ∀ x, divOk x 64 = true := fun x => divOk_of (by decide) (by decide)
  have g3 : ∀ x, modOk x n = true := fun x => modOk_of hn
  have g4 : ∀ x, modOk x 2147483647 = true := fun x => modOk_of (by decide)
  have g5 : ∀ x, modOk x 40009 = true := fun x => modOk_of (by decide)
  have g6 : ∀ x, modOk x 2147483629 = true := fun x => modOk_of (by decide)
  have g7 : ∀ x, modOk x 2147483587 = true := fun x => modOk_of (by decide)
  simp [f_l_take, fnM, m_l_take, ix_refD _ hk, ix_refD _ hk2, ha, setIx, hk, ixN, e1, e2, e3, e4, f1, f2, f3, g1, g2, g3, g4, g5, g6, g7]
theorem take_ok {S : Store} {k N : Nat} {x : Cell} {n : Int} (hk : S[k]? = some x) (hx : BoxC x N) (hN : N < 2 ^ 40) (hn : 0 < n) (hn2 : n < 2 ^ 8999) :
    ∃ r y, (0 ≤ r ∧ r < n) ∧ BoxC y (N + 1) ∧ f_l_take [.ref k, .int n] S = .ok (.int r) (S.set k y) := by
  obtain ⟨a, b, c, rfl, ha, hb, hc, hd⟩ := hx
  by_cases h : 0 < a
  · exact ⟨_, _, ⟨Int.emod_nonneg _ (by omega), Int.emod_lt_of_pos _ hn⟩, ⟨a / n, b, c, rfl, Int.ediv_nonneg ha (by omega), hb, hc, by omega⟩, take_eq1 S k a b c n hk h hn hn2⟩
  · exact ⟨_, _, ⟨Int.emod_nonneg _ (by omega), Int.emod_lt_of_pos _ hn⟩, ⟨a, b, c + 1, rfl, ha, hb, by omega, by omega⟩, take_eq2 S k a b c n hk h hn hb ⟨hc, by omega⟩⟩
theorem take_s {S0 S : Store} {k N : Nat} {n : Int} (h : BoxS S0 k N S) (hN : N < 2 ^ 40) (hn : 0 < n) (hn2 : n < 2 ^ 8999) :
    (f_l_take [.ref k, .int n] S).Sat fun d S' => ∃ r : Int, d = .int r ∧ 0 ≤ r ∧ r < n ∧ BoxS S0 k (N + 1) S' := by
  obtain ⟨x, hk, hx⟩ := h.get
  obtain ⟨r, y, hr, hy, e⟩ := take_ok hk hx hN hn hn2
  exact sat_of e ⟨r, rfl, hr.1, hr.2, h.set hy⟩
theorem of_s {S0 S : Store} {k N : Nat} {xs : List D} (h : BoxS S0 k N S) (hN : N < 2 ^ 40) (h0 : xs ≠ []) (h1 : xs.length < 2 ^ 60) :
    (f_l_of [.ref k, .lst xs] S).Sat fun d S' => d ∈ xs ∧ BoxS S0 k (N + 1) S' := by
  have hp : 0 < xs.length := List.length_pos_iff.mpr h0
  unfold f_l_of m_l_of
  rw [fnM_2]
  simp
  refine sat_step (take_s (n := (xs.length : Int)) h hN (by omega) (Int.lt_of_lt_of_le (show (xs.length : Int) < 2 ^ 60 by omega) (by decide))) ?_
  rintro _ S1 ⟨r, rfl, r0, r1, hS1⟩
  have hl : r.toNat < xs.length := by omega
  have hg : atI xs r = some xs[r.toNat] := by
    have e : ((r.toNat : Nat) : Int) = r := by omega
    have z := atI_get (List.getElem?_eq_getElem hl)
    rw [e] at z
    exact z
  simp [hg, fin_len (hS1.len.trans h.len.symm)]
  exact hS1
def IsLim (d : D) : Prop := ∃ p q : Int, d = .tup [.int p, .int q] ∧ 0 < p ∧ p < q ∧ q < 2 ^ 67
theorem limit_s {S0 S : Store} {k N : Nat} (h : BoxS S0 k N S) (hN : N + 3 < 2 ^ 40) : (f_l_limit [.ref k] S).Sat fun d S' => IsLim d ∧ BoxS S0 k (N + 3) S' := by
  unfold f_l_limit m_l_limit
  rw [fnM_1]
  simp
  refine sat_step (take_s (n := 8) h (by omega) (by decide) (by decide)) ?_
  rintro _ S1 ⟨r1, rfl, a1, b1, h1⟩
  have p1 : powOk 10 18 = true := by decide
  have p2 : powOk 10 20 = true := by decide
  by_cases e0 : r1 = 0
  · simp [e0, p1]
    refine sat_step (take_s (n := 1000000000000000000) h1 (by omega) (by decide) (by decide)) ?_
    rintro _ S2 ⟨r2, rfl, a2, b2, h2⟩
    simp [p1, p2]
    refine sat_step (take_s (n := 100000000000000000000) h2 (by omega) (by decide) (by decide)) ?_
    rintro _ S3 ⟨r3, rfl, a3, b3, h3⟩
    simp [fin_len (h3.len.trans h.len.symm)]
    exact ⟨⟨_, _, rfl, by omega, by omega, by omega⟩, h3⟩
  · by_cases e1 : r1 = 1
    · simp [e1]
      refine sat_step (take_s (n := 3) h1 (by omega) (by decide) (by decide)) ?_
      rintro _ S2 ⟨r2, rfl, a2, b2, h2⟩
      have m1 : mulOk r2 2 = true := mulOk_r (by decide)
      simp [m1, fin_len (h2.len.trans h.len.symm)]
      exact ⟨⟨_, _, rfl, by omega, by omega, by omega⟩, h2.mono (by omega)⟩
    · simp [e0, e1]
      refine sat_step (of_s h1 (by omega) (by simp) (by simp)) ?_
      rintro d S2 ⟨hd, h2⟩
      simp only [List.mem_cons, List.mem_nil_iff, or_false] at hd
      simp [fin_len (h2.len.trans h.len.symm)]
      refine ⟨?_, h2.mono (by omega)⟩
      rcases hd with rfl | rfl | rfl | rfl | rfl | rfl <;> exact ⟨_, _, rfl, by decide⟩
theorem eq_plain {a b : D} {S : Store} (ha : shal 20 a = true) (hb : shal 20 b = true) : opEq a b S = .ok (.bl (deq a b)) S := by
  have da : ∀ d, shal 20 d = true → deref S d = d := fun d h => by cases d <;> first | rfl | simp [shal] at h
  have key : (if shal 20 (deref S a) && shal 20 (deref S b) then Res.ok (D.bl (deq (deref S a) (deref S b))) S else Res.no) = .ok (.bl (deq a b)) S := by
    rw [da a ha, da b hb, ha, hb]
    rfl
  cases a <;> cases b <;> first
    | exact key
    | (simp only [opEq, deq])
theorem ne_plain {a b : D} {S : Store} (ha : shal 20 a = true) (hb : shal 20 b = true) : opNe a b S = .ok (.bl (!deq a b)) S := by
  have da : ∀ d, shal 20 d = true → deref S d = d := fun d h => by cases d <;> first | rfl | simp [shal] at h
  have key : (if shal 20 (deref S a) && shal 20 (deref S b) then Res.ok (D.bl (!deq (deref S a) (deref S b))) S else Res.no) = .ok (.bl (!deq a b)) S := by
    rw [da a ha, da b hb, ha, hb]
    rfl
  cases a <;> cases b <;> first
    | exact key
    | (simp only [opNe, deq])
@[simp] theorem eq_non {S : Store} : opEq .non .non S = .ok (.bl true) S := eq_plain rfl rfl
def okD : Nat → D → Bool
  | _, .non => true
  | _, .bl _ => true
  | _, .int _ => true
  | _, .str _ => true
  | n + 1, .tup xs => decide (xs.length ≤ 100000) && xs.all (okD n)
  | n + 1, .lst xs => decide (xs.length ≤ 100000) && xs.all (okD n)
  | _, _ => false
@[simp] theorem okD_non (n : Nat) : okD n .non = true := by cases n <;> rfl
@[simp] theorem okD_bl (n : Nat) (b : Bool) : okD n (.bl b) = true := by cases n <;> rfl
@[simp] theorem okD_int (n : Nat) (b : Int) : okD n (.int b) = true := by cases n <;> rfl
@[simp] theorem okD_str (n : Nat) (b : Str) : okD n (.str b) = true := by cases n <;> rfl
@[simp] theorem okD_tup (n : Nat) (xs : List D) : okD (n + 1) (.tup xs) = (decide (xs.length ≤ 100000) && xs.all (okD n)) := rfl
@[simp] theorem okD_lst (n : Nat) (xs : List D) : okD (n + 1) (.lst xs) = (decide (xs.length ≤ 100000) && xs.all (okD n)) := rfl
theorem okD_pure : ∀ (n : Nat) (d : D), okD n d = true → pureD d = true
  | _, .non, _ => rfl
  | _, .bl _, _ => rfl
  | _, .int _, _ => rfl
  | _, .str _, _ => rfl
  | n + 1, .tup xs, h => by
    rw [okD_tup, Bool.and_eq_true] at h
    exact pureL_all.mpr fun d hd => okD_pure n d (List.all_eq_true.mp h.2 d hd)
  | n + 1, .lst xs, h => by
    rw [okD_lst, Bool.and_eq_true] at h
    exact pureL_all.mpr fun d hd => okD_pure n d (List.all_eq_true.mp h.2 d hd)
  | 0, .tup xs, h => by simp [okD] at h
  | 0, .lst xs, h => by simp [okD] at h
  | 0, .fro _, h => by simp [okD] at h
  | 0, .obj _ _, h => by simp [okD] at h
  | 0, .exn _ _, h => by simp [okD] at h
  | 0, .ref _, h => by simp [okD] at h
  | _ + 1, .fro _, h => by simp [okD] at h
  | _ + 1, .obj _ _, h => by simp [okD] at h
  | _ + 1, .exn _ _, h => by simp [okD] at h
  | _ + 1, .ref _, h => by simp [okD] at h
theorem zip_self (xs : List D) : zipD xs xs = xs.map fun x => .tup [x, x] := by
  unfold zipD
  induction xs with
  | nil => rfl
  | cons x xs ih => simp [ih]
theorem same_lc {k : Nat} {ρ : Q.Env} {f : List D → Store → Res D} (h2 : 3 < ρ.length) : ∀ (xs : List D) (S : Store), (∀ x ∈ xs, ∀ T, fPure f [x, x] T = .ok (.bl true) T) →
    lcL (mgTup 2 (mgCons (mgN 2) (mgCons (mgN 3) mgNil))) mYes (mCall (fPure f) (mCons (mVar 2) (mCons (mVar 3) mNil))) ρ (zipD xs xs) S = .ok (List.replicate xs.length (.bl true)) S := by
  intro xs S h
  rw [zip_self, lcL_map (f := fun _ => .bl true) (xs.map fun x => .tup [x, x]) S]
  · rw [List.map_map]
    show Res.ok (xs.map fun _ => D.bl true) S = _
    rw [List.map_const']
  · intro d hd
    obtain ⟨x, hx, rfl⟩ := List.mem_map.mp hd
    refine ⟨_, rfl, ?_⟩
    have e2 : ((ρ.set 2 (some x)).set 3 (some x))[2]? = some (some x) := by rw [List.getElem?_set_ne (by decide), List.getElem?_set_self (by omega)]
    have e3 : ((ρ.set 2 (some x)).set 3 (some x))[3]? = some (some x) := List.getElem?_set_self (by simpa using h2)
    simp only [ap_call, ap_cons, ap_var, e2, e3, varK_some, bind_ok, consK_ap, ap_nil, consK2_ap, h x hx S]
theorem same_self : ∀ (k n : Nat) (d : D) (S : Store), okD n d = true → n < k → f_l_same k [d, d] S = .ok (.bl true) S
  | 0, n, d, S, _, hk => absurd hk (by omega)
  | k + 1, n, d, S, h, hk => by
    have seq : ∀ xs : List D, (∀ x ∈ xs, okD (n - 1) x = true ∧ 0 < n) → ∀ x ∈ xs, ∀ T, fPure (f_l_same k) [x, x] T = .ok (.bl true) T := fun xs hx x hm T => by
      have p := okD_pure _ _ (hx x hm).1
      exact fPure_ap T (by simp [p]) (same_self k (n - 1) x [] (hx x hm).1 (by have := (hx x hm).2; omega))
    have all : ∀ (m : Nat) (S : Store), fAll [.lst (List.replicate m (.bl true))] S = .ok (.bl true) S := fun m S => by
      have hb : boolsD (List.replicate m (D.bl true)) = some (List.replicate m true) := by
        induction m with
        | zero => rfl
        | succ m ih => rw [List.replicate_succ, boolsD, ih]; rfl
      rw [all_lst hb]
      simp
    cases d with
    | non => simp [f_l_same, fnM, m_l_same, isTy]
    | bl b => simp [f_l_same, fnM, m_l_same, isTy]
    | int b => simp [f_l_same, fnM, m_l_same, isTy]
    | str b => simp [f_l_same, fnM, m_l_same, isTy]
    | tup xs =>
      cases n with
      | zero => simp [okD] at h
      | succ n =>
        rw [okD_tup, Bool.and_eq_true, decide_eq_true_eq] at h
        have hs := same_lc (k := k) (f := f_l_same k) (ρ := [some (.tup xs), some (.tup xs), none, none]) (by simp) xs S (seq xs fun x hx => ⟨List.all_eq_true.mp h.2 x hx, by omega⟩)
        have hl : (zipD xs xs).length ≤ 100000 := by rw [zip_self, List.length_map]; exact h.1
        simp [f_l_same, fnM, m_l_same, isTy, hl, hs, all]
    | lst xs =>
      cases n with
      | zero => simp [okD] at h
      | succ n =>
        rw [okD_lst, Bool.and_eq_true, decide_eq_true_eq] at h
        have hs := same_lc (k := k) (f := f_l_same k) (ρ := [some (.lst xs), some (.lst xs), none, none]) (by simp) xs S (seq xs fun x hx => ⟨List.all_eq_true.mp h.2 x hx, by omega⟩)
        have hl : (zipD xs xs).length ≤ 100000 := by rw [zip_self, List.length_map]; exact h.1
        simp [f_l_same, fnM, m_l_same, isTy, hl, hs, all]
    | fro xs => cases n <;> simp [okD] at h
    | obj c xs => cases n <;> simp [okD] at h
    | exn c xs => cases n <;> simp [okD] at h
    | ref j => cases n <;> simp [okD] at h
theorem sameP {d : D} (S : Store) (h : okD 20 d = true) : fPure (f_l_same 30) [d, d] S = .ok (.bl true) S := fPure_ap S (by simp [okD_pure 20 d h]) (same_self 30 20 d [] h (by decide))
@[simp] theorem shal_int (n : Nat) (i : Int) : shal n (.int i) = true := by cases n <;> rfl
@[simp] theorem shal_bl (n : Nat) (i : Bool) : shal n (.bl i) = true := by cases n <;> rfl
@[simp] theorem shal_non (n : Nat) : shal n .non = true := by cases n <;> rfl
@[simp] theorem shal_tup (n : Nat) (xs : List D) : shal (n + 1) (.tup xs) = xs.all (shal n) := rfl
@[simp] theorem shal_lst (n : Nat) (xs : List D) : shal (n + 1) (.lst xs) = xs.all (shal n) := rfl
theorem shal_map {β : Type} {f : β → D} {n : Nat} (h : ∀ b, shal n (f b) = true) (xs : List β) : (xs.map f).all (shal n) = true := List.all_eq_true.mpr fun d hd => by
  obtain ⟨b, _, rfl⟩ := List.mem_map.mp hd
  exact h b
theorem in_tup {a : D} {xs : List D} {S : Store} (ha : shal 20 a = true) (hx : shal 20 (.tup xs) = true) : opIn a (.tup xs) S = .ok (.bl (inD xs a)) S := by
  show (if shal 20 a && shal 20 (.tup xs) then Res.ok (D.bl (inD xs a)) S else .no) = _
  rw [ha, hx]
  rfl
theorem nin_tup {a : D} {xs : List D} {S : Store} (ha : shal 20 a = true) (hx : shal 20 (.tup xs) = true) : opNin a (.tup xs) S = .ok (.bl (!inD xs a)) S := by
  show (if shal 20 a && shal 20 (.tup xs) then Res.ok (D.bl (!inD xs a)) S else .no) = _
  rw [ha, hx]
  rfl
theorem cutD_take (xs : List D) (m : Nat) : cutD xs none (some (m : Int)) = xs.take m := by
  unfold cutD
  rw [HT.sIx_none, HT.sIx_nat]
  show List.take (min m xs.length - 0) (List.drop 0 xs) = _
  rw [List.drop_zero, Nat.sub_zero]
  by_cases h : m ≤ xs.length
  · rw [Nat.min_eq_left h]
  · rw [Nat.min_eq_right (by omega), List.take_of_length_le (Nat.le_refl _), List.take_of_length_le (by omega)]
theorem cutD_mid (xs : List D) (m n : Nat) : cutD xs (some (m : Int)) (some (n : Int)) = (xs.drop m).take (n - m) := by
  unfold cutD
  rw [HT.sIx_nat, HT.sIx_nat]
  by_cases h : m ≤ xs.length
  · rw [Nat.min_eq_left h]
    by_cases h2 : n ≤ xs.length
    · rw [Nat.min_eq_left h2]
    · rw [Nat.min_eq_right (by omega), List.take_of_length_le (by rw [List.length_drop]; omega), List.take_of_length_le (by rw [List.length_drop]; omega)]
  · rw [Nat.min_eq_right (show xs.length ≤ m by omega), List.drop_of_length_le (Nat.le_refl _), List.drop_of_length_le (by omega)]
    simp
theorem pure_ints (cs : List Int) : pureL (cs.map D.int) = true := pureL_all.mpr fun d hd => by
  obtain ⟨z, _, rfl⟩ := List.mem_map.mp hd
  rfl
def CellsI (v0 : D) (m c n : Nat) (ds : List D) (ρ : Q.Env) (S : Store) : Prop := ∃ (cs : List Int) (i : Nat) (xs : List Int) (w3 w4 w5 : Option D), ds = enumD i (xs.map D.int) ∧ i + xs.length ≤ 63 ∧ cs.length = n ∧ (xs ≠ [] → n = m) ∧
  ρ = [some v0, some (.int m), some (.ref c), w3, w4, w5] ∧ S[c]? = some (.lst (cs.map D.int))
theorem cells_ok (ns : List Int) (hn : ns.length ≤ 63) (m : Nat) (hm : 0 < m) (hm2 : m ≤ 63) : ∃ cs : List Int, 0 < cs.length ∧ cs.length ≤ m ∧ f_l_cells [scriptD ns, .int (m : Nat)] [] = .ok (.lst (cs.map .int)) [] := by
  have c1 : cutD (ns.map D.int) none (some (m : Int)) = (ns.take m).map D.int := by rw [cutD_take, List.map_take]
  have c2 : cutD (ns.map D.int) (some (m : Int)) (some 63) = ((ns.drop m).take (63 - m)).map D.int := by
    have := cutD_mid (ns.map D.int) m 63
    rw [show ((63 : Nat) : Int) = 63 from rfl] at this
    rw [this, List.map_take, List.map_drop]
  have ht : (ns.take m).length = min m ns.length := List.length_take
  suffices h : (f_l_cells [scriptD ns, .int (m : Nat)] []).Sat fun d S => S = [] ∧ ∃ cs : List Int, 0 < cs.length ∧ cs.length ≤ m ∧ d = .lst (cs.map .int) by
    obtain ⟨d, S, e, rfl, cs, h1, h2, rfl⟩ := sat_eq h
    exact ⟨cs, h1, h2, e⟩
  have loop : ∀ (ys : List Int) (c : Nat) (cs0 : List Int) (S0 : Store), ys.length ≤ 63 → S0[c]? = some (.lst (cs0.map D.int)) → 0 < cs0.length → cs0.length ≤ m → (ys ≠ [] → cs0.length = m) →
      ((forL (mgTup 2 (mgCons (mgN 3) (mgCons (mgN 4) mgNil))) (mSeq (mAsg (mOp opModI (mCall fInt (mCons (mVar 3) mNil)) (mVar 1)) (mgN 5))
      (mAsg (mOp opAdd (mOp opIx (mVar 2) (mVar 5)) (mOp opMul (mVar 4) (mOp opAdd (mVar 3) (mC (.int 2))))) (mgSub (mVar 2) (mVar 5)))) (enumD 0 (ys.map D.int)) [some (.fro (ns.map D.int)), some (.int m), some (.ref c), none, none, none] S0).Sat
      fun f S => ∃ cs : List Int, 0 < cs.length ∧ cs.length ≤ m ∧ ∃ w3 w4 w5, f = .nx [some (.fro (ns.map D.int)), some (.int m), some (.ref c), w3, w4, w5] ∧ S[c]? = some (.lst (cs.map D.int))) := by
    intro ys c cs0 S0 hy h0 p0 p1 p2
    refine forL_sat (CellsI (.fro (ns.map D.int)) m c cs0.length) ?_ ?_ _ _ _ ⟨cs0, 0, ys, none, none, none, rfl, by omega, rfl, p2, rfl, h0⟩
    · rintro d ds ρ S ⟨cs, i, xs, w3, w4, w5, e, hi, hl, hnm, rfl, hS⟩
      cases xs with
      | nil => simp [enumD] at e
      | cons x xs =>
        simp only [List.map_cons, enumD, List.cons.injEq] at e
        obtain ⟨rfl, rfl⟩ := e
        rw [List.length_cons] at hi
        have hlm : cs.length = m := by rw [hl]; exact hnm (by simp)
        obtain ⟨j, hj, hjm⟩ : ∃ j : Nat, (i : Int) % (m : Int) = (j : Int) ∧ j < m := ⟨((i : Int) % (m : Int)).toNat, by
          have := Int.emod_nonneg (i : Int) (show (m : Int) ≠ 0 by omega)
          omega, by
          have := Int.emod_lt_of_pos (i : Int) (show (0 : Int) < m by omega)
          omega⟩
        have hlt : j < cs.length := by rw [hlm]; exact hjm
        have hg : (cs.map D.int)[j]? = some (.int cs[j]) := by rw [List.getElem?_map, List.getElem?_eq_getElem hlt]; rfl
        have ha := atI_get hg
        have hx : ixN cs.length (j : Int) = some j := by
          unfold ixN
          rw [if_pos (by omega), if_pos (by omega)]
          simp
        have hm1 : mulOk x ((i : Int) + 2) = true := mulOk_r (by omega)
        have hmo : modOk (i : Int) (m : Int) = true := modOk_of (by omega)
        refine ⟨[some (.fro (ns.map D.int)), some (.int m), some (.ref c), some (.int i), some (.int x), w5], S, by simp, ?_⟩
        simp [hmo, hj, ix_refD _ hS, ha, hm1, setIx, hS, hx]
        refine ⟨cs.set j (cs[j] + x * ((i : Int) + 2)), i + 1, xs, some (.int i), some (.int x), some (.int (j : Int)), rfl, by omega, by simpa using hl, fun _ => hnm (by simp), rfl, ?_⟩
        rw [List.map_set]
        exact set_get hS
    · rintro ρ S ⟨cs, i, xs, w3, w4, w5, e, hi, hl, hnm, rfl, hS⟩
      exact ⟨cs, by omega, by omega, w3, w4, w5, rfl, hS⟩
  unfold f_l_cells m_l_cells
  rw [fnM_2]
  by_cases h0 : ns = []
  · subst h0
    simp only [List.map_nil, List.take_nil, List.drop_nil] at c1 c2
    have e1 : ([Cell.lst [], Cell.lst [.int 0]] : Store)[1]? = some (.lst [.int 0]) := rfl
    have tr : truth [Cell.lst []] (.ref 0) = some false := rfl
    simp [scriptD, c1, c2, tr]
    refine sat_step (loop [] 1 [0] _ (by simp) rfl (by decide) hm (by simp)) ?_
    rintro _ S ⟨cs, q1, q2, w3, w4, w5, rfl, hS⟩
    simp [fz_ref hS, fin_nil, pure_ints]
    exact ⟨cs, q1, q2, rfl⟩
  · have hp : 0 < ns.length := List.length_pos_iff.mpr h0
    have hne : (ns.take m).isEmpty = false := by
      cases ns with
      | nil => exact absurd rfl h0
      | cons a t =>
        cases m with
        | zero => omega
        | succ m => rfl
    have hd : (ns.drop m).take (63 - m) ≠ [] → (ns.take m).length = m := fun h => by
      have : 0 < ((ns.drop m).take (63 - m)).length := List.length_pos_iff.mpr h
      rw [List.length_take, List.length_drop] at this
      rw [ht]
      omega
    have hy : ((ns.drop m).take (63 - m)).length ≤ 63 := by rw [List.length_take, List.length_drop]; omega
    have hl0 : 0 < (ns.take m).length := by rw [ht]; omega
    have hlm : (ns.take m).length ≤ m := by rw [ht]; omega
    generalize ns.take m = L at *
    generalize (ns.drop m).take (63 - m) = ys at *
    have e0 : ([Cell.lst (L.map D.int)] : Store)[0]? = some (.lst (L.map D.int)) := rfl
    have tr : truth [Cell.lst (L.map D.int)] (.ref 0) = some true := by rw [truth_ref e0, List.isEmpty_map, hne]; rfl
    simp [scriptD, c1, tr, c2]
    refine sat_step (loop ys 0 L _ hy e0 hl0 hlm hd) ?_
    rintro _ S ⟨cs, q1, q2, w3, w4, w5, rfl, hS⟩
    simp [fz_ref hS, fin_nil, pure_ints]
    exact ⟨cs, q1, q2, rfl⟩
theorem box_ok (S : Store) (cs : List Int) (k : Nat) (off : Int) (hk : k < cs.length) (hk3 : k < 100) (ho : 0 ≤ off ∧ off < 100000)
    (hm : m_l_box = (mSeq (mAsg (mIfE (mTB (mOp opLt (mVar 1) (mCall fLen (mCons (mVar 0) mNil)))) (mOp opIx (mVar 0) (mVar 1)) (mC (.int 0))) (mgN 2))
  (mRet (mCell (mCons (mOp opMul (mCall fAbs (mCons (mVar 2) mNil)) (mCall fInt (mCons (mOp opGe (mCall fAbs (mCons (mVar 2) mNil)) (mOp opPowI (mC (.int 10)) (mC (.int 18)))) mNil))) (mCons (mOp opAdd (mOp opAdd (mOp opModI (mCall fInt (mCons (mVar 2) mNil)) (mC (.int 2305843009213693951))) (mOp opMul (mC (.int 39373)) (mVar 1))) (mC (.int off))) (mCons (mC (.int 0)) mNil))))))) :
    ∃ x, BoxC x 0 ∧ f_l_box [.lst (cs.map .int), .int (k : Nat)] S = .ok (.ref S.length) (S ++ [x]) := by
  have hg : atI (cs.map D.int) (k : Int) = some (.int cs[k]) := atI_get (by rw [List.getElem?_map, List.getElem?_eq_getElem hk]; rfl)
  have p1 : powOk 10 18 = true := by decide
  have m2 : mulOk 39373 (k : Int) = true := mulOk_l (by decide)
  have g1 : ∀ u, modOk u 2305843009213693951 = true := fun u => modOk_of (by decide)
  have hlt : ((k : Int) < (cs.length : Int)) := by omega
  generalize cs[k] = z at *
  obtain ⟨u, hu, ha⟩ : ∃ u : Int, 0 ≤ u ∧ ∀ T, fAbs [.int z] T = .ok (.int u) T := ⟨if z < 0 then -z else z, by split <;> omega, fun _ => rfl⟩
  have m1 : mulOk u (if 1000000000000000000 ≤ u then 1 else 0) = true := mulOk_r (by split <;> decide)
  have q0 : (0 : Int) ≤ u * (if 1000000000000000000 ≤ u then 1 else 0) := by split <;> simp [hu]
  refine ⟨box (u * (if 1000000000000000000 ≤ u then 1 else 0)) (z % 2305843009213693951 + 39373 * (k : Int) + off) 0, ⟨_, _, _, rfl, q0, ?_, by decide, by decide⟩, ?_⟩
  · have h1 := Int.emod_nonneg z (show (2305843009213693951 : Int) ≠ 0 by decide)
    have h2 := Int.emod_lt_of_pos z (show (0 : Int) < 2305843009213693951 by decide)
    omega
  · unfold f_l_box
    rw [hm, fnC_2]
    simp [-abs_int, ha, hg, hlt, p1, m1, m2, g1]
def BoxOk : Prop := ∀ (S : Store) (cs : List Int) (k : Nat), k < cs.length → k < 100 → ∃ x, BoxC x 0 ∧ f_l_box [.lst (cs.map .int), .int (k : Nat)] S = .ok (.ref S.length) (S ++ [x])
theorem BoxC.pure {x : Cell} {N : Nat} (h : BoxC x N) : x.pure = true := by
  obtain ⟨a, b, c, rfl, _⟩ := h
  rfl
theorem BoxS.pure {S0 S : Store} {k N : Nat} (h : BoxS S0 k N S) (hp : S0.all Cell.pure = true) : S.all Cell.pure = true := by
  obtain ⟨y, rfl, hy, hk⟩ := h
  refine List.all_eq_true.mpr fun c hc => ?_
  rcases List.mem_or_eq_of_mem_set hc with m | rfl
  · exact List.all_eq_true.mp hp c m
  · exact hy.pure
theorem lcL_mapx {β : Type} {u w : β → D} {g : MG} {m : ME} {ρ : Q.Env} : ∀ (xs : List β) (S : Store), (∀ x ∈ xs, ∃ ρ1, g (u x) ρ S = .ok ρ1 S ∧ m ρ1 S = .ok (w x) S) → lcL g mYes m ρ (xs.map u) S = .ok (xs.map w) S
  | [], S, _ => rfl
  | x :: xs, S, h => by
    obtain ⟨ρ1, h1, h2⟩ := h x (by simp)
    rw [List.map_cons]
    unfold lcL
    rw [h1]
    simp only [bind_ok, ap_yes]
    rw [h2]
    simp only [bind_ok]
    rw [lcL_mapx xs S fun y hy => h y (by simp [hy])]
    rfl
theorem gcd_loop : ∀ (n : Nat) (a b : Int) (k : Nat) (S : Store), 0 ≤ a → 0 ≤ b → b.toNat ≤ n → n < k →
    whileF (mTB (mOp opGt (mVar 1) (mC (.int 0)))) (mPar 0 1 (mCons (mVar 1) (mCons (mOp opModI (mVar 0) (mVar 1)) mNil))) k [some (.int a), some (.int b)] S = .ok (.nx [some (.int (Int.gcd a b)), some (.int 0)]) S := by
  intro n
  induction n with
  | zero =>
    intro a b k S ha hb hn hk
    have e : b = 0 := by omega
    subst e
    cases k with
    | zero => omega
    | succ k =>
      rw [whF_succ]
      simp
      omega
  | succ n ih =>
    intro a b k S ha hb hn hk
    cases k with
    | zero => omega
    | succ k =>
      rw [whF_succ]
      by_cases h : 0 < b
      · have hm : modOk a b = true := modOk_of h
        have h1 := Int.emod_nonneg a (show b ≠ 0 by omega)
        have h2 := Int.emod_lt_of_pos a h
        have := ih b (a % b) k S hb h1 (by omega) (by omega)
        have hg : Int.gcd b (a % b) = Int.gcd a b := by
          rw [Int.gcd_comm a b]
          have e : a = a % b + b * (a / b) := (Int.emod_add_mul_ediv a b).symm
          conv => rhs; rw [e]
          rw [Int.gcd_add_mul_left_right]
        simp [h, hm, this, hg]
      · have e : b = 0 := by omega
        subst e
        simp
        omega
theorem common_ok {a b : Int} {S : Store} (ha : 0 ≤ a) (hb : 0 ≤ b) : f_p_common_divisor [.int a, .int b] S = .ok (.int (Int.gcd a b)) S := by
  have h := gcd_loop b.toNat a b (b.toNat + 1) S ha hb (Nat.le_refl _) (by omega)
  simp [f_p_common_divisor, fnM, m_p_common_divisor, fuelI, h]
theorem gcd_pos {a b : Int} (h : a ≠ 0 ∨ b ≠ 0) : 0 < (Int.gcd a b : Int) := by
  have := Int.gcd_pos_iff.mpr h
  omega
theorem gcd_le_r {a b : Int} (hb : 0 < b) : (Int.gcd a b : Int) ≤ b := Int.le_of_dvd hb (Int.gcd_dvd_right _ _)
theorem reduced_ok {a b : Int} {S : Store} (ha : 0 ≤ a) (hb : 0 < b) (hs : b < big) : f_p_reduced [.int a, .int b] S = .ok (.tup [.int (a / Int.gcd a b), .int (b / Int.gcd a b)]) S := by
  have g0 := gcd_pos (a := a) (.inr (show b ≠ 0 by omega))
  have g1 := gcd_le_r (a := a) hb
  have hd : ∀ x, divOk x (Int.gcd a b) = true := fun x => divOk_of g0 (big_lt (by omega))
  have hc : ∀ S, fPure f_p_common_divisor [.int a, .int b] S = .ok (.int (Int.gcd a b)) S := fun S => fPure_ap S rfl (common_ok ha (by omega))
  have hc2 : ∀ S, f_p_common_divisor [.int a, .int b] S = .ok (.int (Int.gcd a b)) S := fun S => common_ok ha (by omega)
  generalize (Int.gcd a b : Int) = g at *
  simp [f_p_reduced, fnM, m_p_reduced, hc, hc2, hd]
def shD (f c : Int) : D := .obj 0 [.int (c / Int.gcd f c), .int (f / Int.gcd f c)]
theorem share_init {a b : Int} {S : Store} (ha : 0 ≤ a) (hb : 0 < b) (hs : b < big) : f_p_Share_init [.int a, .int b] S = .ok [.int (b / Int.gcd a b), .int (a / Int.gcd a b)] S := by
  have hr : ∀ S, fPure f_p_reduced [.int a, .int b] S = .ok (.tup [.int (a / Int.gcd a b), .int (b / Int.gcd a b)]) S := fun S => fPure_ap S rfl (reduced_ok ha hb hs)
  have hr2 : ∀ S, f_p_reduced [.int a, .int b] S = .ok (.tup [.int (a / Int.gcd a b), .int (b / Int.gcd a b)]) S := fun S => reduced_ok ha hb hs
  simp [f_p_Share_init, init2s, hr, hr2]
structure Low (f c : Int) : Prop where
  f0 : 0 ≤ f
  le : f ≤ c
  c0 : 0 < c
  cs : c < big
  g1 : Int.gcd f c = 1
theorem low_of {f c : Int} (h0 : 0 ≤ f) (h1 : f ≤ c) (hc : 0 < c) (hs : c < big) : Low (f / Int.gcd f c) (c / Int.gcd f c) := by
  have g0 := gcd_pos (a := f) (.inr (show c ≠ 0 by omega))
  have g1 := gcd_le_r (a := f) hc
  refine ⟨Int.ediv_nonneg h0 (by omega), Int.ediv_le_ediv g0 h1, ?_, ?_, ?_⟩
  · exact Int.ediv_pos_of_pos_of_dvd hc (by omega) (Int.gcd_dvd_right _ _)
  · exact Int.lt_of_le_of_lt (Int.ediv_le_self _ (by omega)) hs
  · exact Int.gcd_ediv_gcd_ediv_gcd (by have := Int.gcd_pos_iff.mpr (.inr (show c ≠ 0 by omega) : f ≠ 0 ∨ c ≠ 0); omega)
def shL (f c : Int) : D := .obj 0 [.int c, .int f]
section
variable {S : Store} {f c f' c' : Int}
theorem init_mk {a b : Int} (ha : 0 ≤ a) (hb : 0 < b) (hs : b < big) : mkK 0 (f_p_Share_init [.int a, .int b] S) = .ok (shD a b) S := by rw [share_init ha hb hs]; rfl
end
section
variable {S : Store} {f c f' c' : Int}
@[simp] theorem isObj_shL : Q.isObj 0 (shL f c) = true := (Eq.refl _).trans rfl
@[simp] theorem pureD_shL : pureD (shL f c) = true := (Eq.refl _).trans rfl
@[simp] theorem isOk_shL : isOk S (shL f c) = false := (Eq.refl _).trans rfl
@[simp] theorem isNon_shL : isNon (shL f c) = false := (Eq.refl _).trans rfl
@[simp] theorem fz_shL : fz (shL f c) S = .ok (shL f c) S := rfl
@[simp] theorem own_shL (g : List D → Store → Res D) (h : D → D → Store → Res D) (b : D) : opOwn 0 g h (shL f c) b S = if (isObj 0 b || isOk S b) = true then g [shL f c, b] S else .no := own_obj 0 g h _ b
end
theorem bools_true : ∀ t, boolsD (List.replicate t (D.bl true)) = some (List.replicate t true)
  | 0 => rfl
  | t + 1 => by rw [List.replicate_succ, boolsD, bools_true t]; rfl
theorem all_trues {xs : List D} {S : Store} (h : ∀ d ∈ xs, d = .bl true) : fAll [.lst xs] S = .ok (.bl true) S := by
  rw [List.eq_replicate_iff.mpr ⟨rfl, h⟩, all_lst (bools_true _)]
  simp
theorem box_p {S : Store} {cs : List Int} {k : Nat} (hb : BoxOk) (hk : k < cs.length) (hk2 : k < 100) (hp : S.all Cell.pure = true) : (f_l_box [.lst (cs.map .int), .int (k : Nat)] S).Sat fun d S' => d = .ref S.length ∧ S.length + 1 = S'.length ∧ BoxS S' S.length 0 S' ∧ S'.all Cell.pure = true := by
  obtain ⟨x, hx, e⟩ := hb S cs k hk hk2
  exact sat_of e ⟨rfl, by simp, BoxS.start (x := x) (by simp) hx, by rw [List.all_append, hp]; simp [hx.pure]⟩
def RightG (G : List D → Store → Res D) (W : Nat) : Prop := ∀ (S0 S : Store) (k N : Nat), S0.all Cell.pure = true → BoxS S0 k N S → N + W < 1000000000000 → (G [.ref k] S).Sat fun d S' => d = .bl true ∧ BoxS S0 k (N + W) S'
def mLaw7 (G : List D → Store → Res D) (m : Nat) : MS := (mSeq (mAsg (mCall (fPure f_l_cells) (mCons (mVar 0) (mCons (mC (.int (m : Nat))) mNil))) (mgN 1))
  (mRet (mCall fAll (mCons (mLc (mRange1 (mCall fLen (mCons (mVar 1) mNil))) (mgN 2) mYes (mCall (fCall G) (mCons (mCall (fCall f_l_box) (mCons (mVar 1) (mCons (mVar 2) mNil))) mNil)) [2]) mNil))))
theorem law7_s (G : List D → Store → Res D) (m : Nat) (hm : 0 < m) (hm2 : m ≤ 63) (W : Nat) (hW : W ≤ 100000000) (hr : RightG G W) (hb : BoxOk)
    (ns : List Int) (hn : ns.length ≤ 63) : ∃ S, fnM 3 1 (mLaw7 G m) [scriptD ns] [] = .ok (.bl true) S := by
  obtain ⟨cs, h0, h1, hcs⟩ := cells_ok ns hn m hm hm2
  have hp : pureL [scriptD ns, .int (m : Nat)] = true := by simp only [pureL_cons, scriptD, pureD_fro, pure_ints, pureD_int, pureL_nil, Bool.and_self]
  have hc := fPure_ap (S := []) hp hcs
  have lc : ∀ ρ : Q.Env, 2 < ρ.length → ρ[1]? = some (some (.lst (cs.map .int))) → ∃ vs S1, lcL (mgN 2) mYes (mCall (fCall G) (mCons (mCall (fCall f_l_box) (mCons (mVar 1) (mCons (mVar 2) mNil))) mNil)) ρ (rangeD 0 cs.length) [] = .ok vs S1 ∧ ∀ d ∈ vs, d = .bl true := fun ρ hρ h => by
    obtain ⟨vs, S1, e, _, hP, _⟩ := lcL_ind (g := mgN 2) (m := mCall (fCall G) (mCons (mCall (fCall f_l_box) (mCons (mVar 1) (mCons (mVar 2) mNil))) mNil)) (ρ := ρ) (fun _ S => S.all Cell.pure = true) (fun _ d => d = .bl true) (rangeD 0 cs.length) [] rfl (by
      rintro k S d hd hS
      obtain ⟨hk, rfl⟩ := rangeD_get hd
      have e1 : (ρ.set 2 (some (.int (0 + (k : Int)))))[1]? = some (some (.lst (cs.map .int))) := by rw [List.getElem?_set_ne (by decide)]; exact h
      have e2 : (ρ.set 2 (some (.int (0 + (k : Int)))))[2]? = some (some (.int (0 + (k : Int)))) := List.getElem?_set_self hρ
      obtain ⟨d1, S2, eb, rfl, hl1, hB, hp1⟩ := sat_eq (box_p (S := S) hb hk (by omega) hS)
      obtain ⟨d2, S3, er, rfl, hB2⟩ := sat_eq (hr S2 S2 S.length 0 hp1 hB (by omega))
      refine ⟨_, .bl true, S3, rfl, ?_, rfl, hB2.pure hp1⟩
      have e0 : (0 : Int) + (k : Int) = (k : Nat) := by omega
      rw [e0] at e1 e2 ⊢
      generalize ρ.set 2 (some (.int ((k : Nat) : Int))) = ρ1 at *
      simp only [ap_call, ap_cons, ap_var, e1, e2, varK_some, bind_ok, consK_ap, ap_nil, consK2_ap, fCall_ap, eb, nox_ok, er])
    exact ⟨vs, S1, e, fun d hd => by
      obtain ⟨i, hi, rfl⟩ := List.getElem_of_mem hd
      exact hP i _ (List.getElem?_eq_getElem hi)⟩
  have hlen : (cs.map D.int).length = cs.length := List.length_map _
  have hl3 : cs.length ≤ 100000 := by omega
  obtain ⟨vs, S1, e, hv⟩ := lc [some (scriptD ns), some (.lst (cs.map .int)), none] (by simp) rfl
  have al := all_trues (S := S1) hv
  generalize cs.map D.int = L at *
  generalize scriptD ns = sc at *
  refine ⟨[], ?_⟩
  unfold mLaw7
  rw [fnM_1]
  simp [hc, hlen, r1K_nat cs.length (show cs.length < 2 ^ 60 by omega), rangeD_len, hl3, e, al, fin_nil (show pureD (.bl true) = true from rfl)]
def isDg (c : Nat) : Bool := decide (c ∈ (("0123456789" : Str)).cps.toList)
theorem isDg_iff (c : Nat) : isDg c = true ↔ 48 ≤ c ∧ c ≤ 57 := by
  have e : (("0123456789" : Str)).cps.toList = [48, 49, 50, 51, 52, 53, 54, 55, 56, 57] := by decide
  unfold isDg
  rw [e, decide_eq_true_eq]
  simp only [List.mem_cons, List.not_mem_nil, or_false]
  omega
def numO (x : Str) : Option Int := if (x.cps.toList ≠ [] ∧ x.cps.toList.length ≤ 60 ∧ x.cps.toList.all isDg = true) ∧ (x.cps.toList = [48] ∨ x.cps.toList.head? ≠ some 48) then some ((NumText.digitsVal x.cps.toList : Nat) : Int) else none
def oD : Option Int → D
  | some n => .int n
  | none => .non
theorem numO_pos {x : Str} {n : Int} (h : numO x = some n) : 0 ≤ n := by
  unfold numO at h
  split at h
  · cases h
    exact Int.natCast_nonneg _
  · cases h
theorem str_eq (x y : Str) : decide (x = y) = decide (x.cps.toList = y.cps.toList) := by
  by_cases h : x = y
  · subst h; simp
  · have h2 : x.cps.toList ≠ y.cps.toList := fun e => h (TL.ext_tl e)
    rw [decide_eq_false h, decide_eq_false h2]
theorem zero_tl : (("0" : Str)).cps.toList = [48] := by decide
theorem len_cps (x : Str) : x.length = x.cps.toList.length := Array.length_toList.symm
theorem bools15 {β : Type} (p : β → Bool) : ∀ xs : List β, boolsD (xs.map fun x => D.bl (p x)) = some (xs.map p)
  | [] => rfl
  | x :: xs => by rw [List.map_cons, boolsD, bools15 p xs]; rfl
theorem all_digits {k : Nat} {x : Str} {ρ : Q.Env} (hk : k < ρ.length) (S : Store) :
    lcL (mgN k) mYes (mOp opInS (mVar k) (mC (.str "0123456789"))) ρ (charsD x) S = .ok (x.cps.toList.map fun c => .bl (isDg c)) S := by
  unfold charsD
  refine lcL_mapx _ S fun c hc => ⟨_, rfl, ?_⟩
  have e : (ρ.set k (some (charD c)))[k]? = some (some (charD c)) := List.getElem?_set_self hk
  simp [e, inS_char, isDg]
theorem no_digits {k : Nat} {x : Str} {ρ : Q.Env} (hk : k < ρ.length) (S : Store) :
    lcL (mgN k) (mTB (mOp opNinS (mVar k) (mC (.str "0123456789")))) (mVar k) ρ (charsD x) S = .ok ((x.cps.toList.filter fun c => !isDg c).map charD) S := by
  unfold charsD
  have h := lcL_filter (g := mgN k) (m := mVar k) (t := mTB (mOp opNinS (mVar k) (mC (.str "0123456789")))) (ρ := ρ) (f := id) (p := fun d => match d with | D.str y => !isDg (y.cps.toList.headD 0) | _ => false) (x.cps.toList.map charD) S (by
    intro d hd
    obtain ⟨c, hc, rfl⟩ := List.mem_map.mp hd
    have e : (ρ.set k (some (charD c)))[k]? = some (some (charD c)) := List.getElem?_set_self hk
    refine ⟨_, rfl, ?_, fun _ => ?_⟩
    · simp [e, ninS_char]
      simp [charD, isDg]
    · simp [e])
  rw [h, List.map_id, List.filter_map]
  rfl
theorem ix_str0 {x : Str} {c : Nat} {cs : List Nat} (h : x.cps.toList = c :: cs) (hl : x.length ≤ 100000) (S : Store) : opIx (D.str x) (.int 0) S = .ok (charD c) S := by
  show (if x.length ≤ 100000 then match atI x.cps.toList 0 with | some c => Res.ok (D.str ⟨#[c]⟩) S | none => .no else .no) = _
  have e : atI (c :: cs) (0 : Int) = some c := @Q.atI_get _ (c :: cs) 0 c rfl
  rw [if_pos hl, h, e]
  rfl
theorem char_eq (c : Nat) : decide ((⟨#[c]⟩ : Str) = "0") = decide (c = 48) := by
  rw [str_eq, zero_tl]
  show decide ([c] = [48]) = _
  by_cases h : c = 48
  · subst h; rfl
  · rw [decide_eq_false h, decide_eq_false (by simpa using h)]
theorem ne_char (c : Nat) (S : Store) : opNe (D.str ⟨#[c]⟩) (D.str "0") S = .ok (.bl (!decide (c = 48))) S := by
  show Res.ok (D.bl (!((⟨#[c]⟩ : Str) == "0"))) S = _
  have e : ((⟨#[c]⟩ : Str) == "0") = decide ((⟨#[c]⟩ : Str) = "0") := by
    by_cases h : (⟨#[c]⟩ : Str) = "0"
    · rw [h]; simp
    · rw [decide_eq_false h]; simpa using h
  rw [e, char_eq]
theorem int_read {x : Str} (h0 : x.cps.toList ≠ []) (h1 : x.cps.toList.length ≤ 60) (h2 : x.cps.toList.all isDg = true) (S : Store) : fIntT [.str x] S = .ok (.int ((NumText.digitsVal x.cps.toList : Nat) : Int)) S := by
  have hl := len_cps x
  refine intT_str (intText_digits (fun c hc => (isDg_iff c).mp (List.all_eq_true.mp h2 c hc)) h0 (by omega)) (by omega)
theorem len_strD {x : Str} (h : x.length ≤ 100000) (S : Store) : fLen [D.str x] S = .ok (.int x.length) S := by
  show (if x.length ≤ 100000 then Res.ok (D.int x.length) S else .no) = _
  rw [if_pos h]
theorem numO_at {x : Str} {c : Nat} {cs : List Nat} (h1 : x.cps.toList.length ≤ 60) (h2 : x.cps.toList.all isDg = true) (h : x.cps.toList = c :: cs) :
    numO x = if x = "0" ∨ c ≠ 48 then some ((NumText.digitsVal x.cps.toList : Nat) : Int) else none := by
  have h0 : x.cps.toList ≠ [] := by rw [h]; simp
  have e1 : x = "0" ↔ x.cps.toList = [48] := by
    have := str_eq x "0"
    rw [zero_tl] at this
    exact decide_eq_decide.mp this
  have e2 : c ≠ 48 ↔ x.cps.toList.head? ≠ some 48 := by rw [h]; simp
  unfold numO
  by_cases q : x = "0" ∨ c ≠ 48
  · rw [if_pos q, if_pos ⟨⟨h0, h1, h2⟩, by rw [← e1, ← e2]; exact q⟩]
  · rw [if_neg q, if_neg fun z => q (by rw [e1, e2]; exact z.2)]
theorem numO_no {x : Str} (h : ¬ (x.cps.toList ≠ [] ∧ x.cps.toList.length ≤ 60 ∧ x.cps.toList.all isDg = true)) : numO x = none := if_neg fun z => h z.1
theorem len_0 {x : Str} (h : x.cps.toList = []) : x.length = 0 := by rw [len_cps, h]; rfl
theorem cons_of {x : Str} (h : x.cps.toList ≠ []) : ∃ c cs, x.cps.toList = c :: cs := by
  cases q : x.cps.toList with
  | nil => exact absurd q h
  | cons c cs => exact ⟨c, cs, rfl⟩
theorem number_of_ok (x : Str) (hx : x.length ≤ 100000) (S : Store) : f_p_number_of [.str x] S = .ok (oD (numO x)) S := by
  have hl := len_cps x
  unfold f_p_number_of m_p_number_of
  rw [fnM_1]
  have hc : (charsD x).length ≤ 100000 := by unfold charsD; rw [List.length_map]; omega
  have ad := fun (ρ : Q.Env) (h : 1 < ρ.length) S => all_digits (k := 1) (x := x) (ρ := ρ) h S
  have hb : boolsD (x.cps.toList.map fun c => D.bl (isDg c)) = some (x.cps.toList.map isDg) := bools15 isDg _
  have ln := fun S => len_strD hx S
  have ch := fun S => charsK_str (S := S) hx
  by_cases h0 : x.cps.toList = []
  · have z := len_0 h0
    rw [numO_no fun h => h.1 h0]
    simp [ln, ch, z, oD]
  · have z0 : 0 < x.length := by
      have : x.cps.toList.length ≠ 0 := fun e => h0 (List.length_eq_zero_iff.mp e)
      omega
    by_cases h1 : x.cps.toList.length ≤ 60
    · have z2 : x.length ≤ 60 := by omega
      have z2i : (x.length : Int) ≤ 60 := by omega
      by_cases h2 : x.cps.toList.all isDg = true
      · obtain ⟨c, cs, hcs⟩ := cons_of h0
        have hi := fun S => int_read h0 h1 h2 S
        have ha : (x.cps.toList.map isDg).all id = true := by rw [List.all_map]; exact h2
        have ix := fun S => ix_str0 hcs hx S
        rw [numO_at h1 h2 hcs]
        generalize ((NumText.digitsVal x.cps.toList : Nat) : Int) = v at *
        by_cases q : x = "0"
        · have eq0 : ∀ S, opEq (.str x) (.str "0") S = .ok (.bl true) S := fun S => by simp [q]
          rw [if_pos (.inl q)]
          clear q
          simp [-eq_strD, ln, ch, hc, ad, all_lst hb, ha, z0, z2, z2i, eq0, hi, oD]
        · by_cases q2 : c = 48
          · simp [ln, ch, hc, ad, all_lst hb, ha, z0, z2, z2i, q, ix, charD, ne_char, q2, oD]
          · simp [ln, ch, hc, ad, all_lst hb, ha, z0, z2, z2i, q, ix, charD, ne_char, q2, hi, oD]
      · rw [numO_no fun h => h2 h.2.2]
        have ha : (x.cps.toList.map isDg).all id = false := by rw [List.all_map]; exact Bool.eq_false_iff.mpr h2
        simp [ln, ch, hc, ad, all_lst hb, ha, z0, z2, z2i, oD]
    · have z2 : ¬ x.length ≤ 60 := by omega
      have z2i : ¬ (x.length : Int) ≤ 60 := by omega
      rw [numO_no fun h => h1 h.2.1]
      simp [ln, ch, z0, z2, z2i, oD]
structure OkS (x : Str) : Prop where
  len : x.length ≤ 100000
  cp : ∀ c ∈ x.cps.toList, c < 1114112
theorem value_ok (x : Str) (hO : OkS x) (S : Store) : f_l_value [.str x] S = .ok (oD (numO x)) S := by
  have hx := hO.len
  have hl := len_cps x
  unfold f_l_value m_l_value
  rw [fnM_1]
  have hc : (charsD x).length ≤ 100000 := by unfold charsD; rw [List.length_map]; omega
  have ad := fun (ρ : Q.Env) (h : 1 < ρ.length) S => no_digits (k := 1) (x := x) (ρ := ρ) h S
  have ln := fun S => len_strD hx S
  have ch := fun S => charsK_str (S := S) hx
  have hf : ((x.cps.toList.filter fun c => !isDg c).map charD).length ≤ 100000 := by
    rw [List.length_map]
    exact Nat.le_trans (List.length_filter_le _ _) (by omega)
  have sh : shal 20 (.lst ((x.cps.toList.filter fun c => !isDg c).map charD)) = true := by
    rw [shal_lst]
    refine List.all_eq_true.mpr fun d hd => ?_
    obtain ⟨c, hc, rfl⟩ := List.mem_map.mp hd
    have := hO.cp c (List.mem_filter.mp hc).1
    show shal 19 (D.str _) = true
    simp [shal, PyData.strOk, this]
  have ne := fun S => ne_plain (S := S) sh (b := .lst []) rfl
  have e0 : x = "" ↔ x.cps.toList = [] := by
    have := str_eq x ""
    exact decide_eq_decide.mp this
  by_cases h0 : x.cps.toList = []
  · rw [numO_no fun h => h.1 h0]
    simp [e0.mpr h0, oD]
  · have n0 : ¬ x = "" := fun h => h0 (e0.mp h)
    by_cases h1 : x.cps.toList.length ≤ 60
    · have z2 : x.length ≤ 60 := by omega
      have z2i : ¬ (60 : Int) < x.length := by omega
      by_cases h2 : x.cps.toList.all isDg = true
      · obtain ⟨c, cs, hcs⟩ := cons_of h0
        have hi := fun S => int_read h0 h1 h2 S
        have hz : (x.cps.toList.filter fun c => !isDg c) = [] := List.filter_eq_nil_iff.mpr fun c hc => by
          have := List.all_eq_true.mp h2 c hc
          simp [this]
        rw [hz] at ad ne
        have ix := fun S => ix_str0 hcs hx S
        rw [numO_at h1 h2 hcs]
        generalize ((NumText.digitsVal x.cps.toList : Nat) : Int) = v at *
        have ne2 : ∀ S, opNe (.lst []) (.lst []) S = .ok (.bl false) S := fun S => ne S
        by_cases q : x = "0"
        · have eq0 : ∀ S, opEq (.str x) (.str "0") S = .ok (.bl true) S := fun S => by simp [q]
          rw [if_pos (.inl q)]
          have eqn : ∀ S, opEq (.str x) (.str "") S = .ok (.bl false) S := fun S => by simp [n0]
          clear q
          simp [-eq_strD, ln, ch, hc, ad, ne2, z2, z2i, eq0, eqn, hi, oD]
        · by_cases q2 : c = 48
          · simp [ln, ch, hc, ad, ne2, n0, z2, z2i, q, ix, charD, ne_char, q2, oD]
          · simp [ln, ch, hc, ad, ne2, n0, z2, z2i, q, ix, charD, ne_char, q2, hi, oD]
      · rw [numO_no fun h => h2 h.2.2]
        have hz : (x.cps.toList.filter fun c => !isDg c) ≠ [] := fun e => h2 (List.all_eq_true.mpr fun c hc => by
          have := List.filter_eq_nil_iff.mp e c hc
          simpa using this)
        obtain ⟨c, cs, hcs⟩ : ∃ c cs, (x.cps.toList.filter fun c => !isDg c) = c :: cs := by
          cases q : (x.cps.toList.filter fun c => !isDg c) with
          | nil => exact absurd q hz
          | cons c cs => exact ⟨c, cs, rfl⟩
        have ne2 : ∀ S, opNe (.lst ((x.cps.toList.filter fun c => !isDg c).map charD)) (.lst []) S = .ok (.bl true) S := fun S => by
          rw [ne, hcs]
          rfl
        simp [ln, ch, hc, ad, ne2, n0, z2, z2i, oD]
    · have z2 : ¬ x.length ≤ 60 := by omega
      have z2i : (60 : Int) < x.length := by omega
      rw [numO_no fun h => h1 h.2.1]
      simp [ln, ch, n0, z2, z2i, oD]
theorem strI_tl {n : Int} (h : 0 ≤ n) : (strI n).cps.toList = TL.numL n.toNat := by
  have e : n = ((n.toNat : Nat) : Int) := by omega
  have z := TL.tl_num n.toNat
  rw [← e] at z
  exact z
theorem numL_head {n : Nat} (h : 0 < n) : (TL.numL n).head? ≠ some 48 := by
  induction n using Nat.strongRecOn with
  | _ n ih =>
    by_cases q : n < 10
    · rw [TL.numL_lt q]
      simp
      omega
    · rw [TL.numL_step (by omega)]
      have z := ih (n / 10) (by omega) (by omega)
      have ne := TL.numL_ne (n / 10)
      cases e : TL.numL (n / 10) with
      | nil => exact absurd e ne
      | cons c cs => rw [e] at z; exact z
theorem numO_str {n : Int} (h0 : 0 ≤ n) (h1 : n < 10 ^ 60) : numO (strI n) = some n := by
  unfold numO
  have hk : n.toNat < 10 ^ 60 := by omega
  rw [strI_tl h0, if_pos]
  · rw [TL.numL_val, Int.toNat_of_nonneg h0]
  · refine ⟨⟨TL.numL_ne _, TL.numL_len (by decide) hk, List.all_eq_true.mpr fun c hc => (isDg_iff c).mpr (TL.numL_digits _ c hc)⟩, ?_⟩
    by_cases q : n.toNat = 0
    · left
      rw [q]
      exact TL.numL_lt (by decide)
    · exact .inr (numL_head (by omega))
theorem strI_len {n : Int} (h0 : 0 ≤ n) (h1 : n < 10 ^ 61) : (strI n).length ≤ 61 := by
  rw [len_cps, strI_tl h0]
  exact TL.numL_len (by decide) (by omega)
theorem strI_free {n : Int} (h0 : 0 ≤ n) {s : Nat} (h : s < 48 ∨ 57 < s) : s ∉ (strI n).cps.toList := by
  rw [strI_tl h0]
  exact TL.numL_free h
theorem str_okI {n : Int} (h0 : 0 ≤ n) (h1 : n < 10 ^ 61) : n.natAbs < 2 ^ 1900 := by
  have : n.natAbs < 10 ^ 61 := by omega
  exact Nat.lt_trans this (by decide)
theorem spl_mem (Sp : List Nat) : ∀ (l : List Nat) (k : Nat) (acc p : List Nat), p ∈ TL.spl Sp k acc l → (∀ c ∈ p, c ∈ acc ∨ c ∈ l) ∧ p.length ≤ acc.length + l.length
  | [], k, acc, p, h => by
    rw [TL.spl_nil] at h
    rw [List.mem_singleton.mp h]
    exact ⟨fun c hc => .inl hc, by simp⟩
  | c :: r, 0, acc, p, h => by
    by_cases q : TL.pre Sp (c :: r) = true
    · rw [TL.spl_hit q] at h
      rcases List.mem_cons.mp h with rfl | h
      · exact ⟨fun c hc => .inl hc, by omega⟩
      · obtain ⟨a, b⟩ := spl_mem Sp r _ [] p h
        exact ⟨fun x hx => .inr (List.mem_cons_of_mem _ ((a x hx).resolve_left (by simp))), by simp only [List.length_nil, List.length_cons] at b ⊢; omega⟩
    · rw [TL.spl_miss (Bool.eq_false_iff.mpr q)] at h
      obtain ⟨a, b⟩ := spl_mem Sp r _ _ p h
      refine ⟨fun x hx => ?_, by simp only [List.length_append, List.length_cons, List.length_nil] at b ⊢; omega⟩
      rcases a x hx with h1 | h1
      · rcases List.mem_append.mp h1 with h2 | h2
        · exact .inl h2
        · rw [List.mem_singleton.mp h2]
          exact .inr (by simp)
      · exact .inr (List.mem_cons_of_mem _ h1)
  | c :: r, k + 1, acc, p, h => by
    rw [TL.spl_pass] at h
    have e : (c :: r).drop (k + 1) = r.drop k := rfl
    rw [e, ← TL.spl_pass] at h
    obtain ⟨a, b⟩ := spl_mem Sp r k acc p h
    exact ⟨fun x hx => (a x hx).imp id (List.mem_cons_of_mem _), by simp only [List.length_cons]; omega⟩
theorem spl_len (Sp : List Nat) : ∀ (l : List Nat) (k : Nat) (acc : List Nat), (TL.spl Sp k acc l).length ≤ l.length + 1
  | [], k, acc => by rw [TL.spl_nil]; simp
  | c :: r, 0, acc => by
    by_cases q : TL.pre Sp (c :: r) = true
    · rw [TL.spl_hit q]
      have := spl_len Sp r (Sp.length - 1) []
      simp only [List.length_cons]
      omega
    · rw [TL.spl_miss (Bool.eq_false_iff.mpr q)]
      have := spl_len Sp r 0 (acc ++ [c])
      simp only [List.length_cons]
      omega
  | c :: r, k + 1, acc => by
    rw [TL.spl_pass]
    have e : (c :: r).drop (k + 1) = r.drop k := rfl
    rw [e, ← TL.spl_pass]
    have := spl_len Sp r k acc
    simp only [List.length_cons]
    omega
structure Sgn (y : Str) : Prop where
  ne : y.cps.toList ≠ []
  small : y.cps.all (· < 256) = true
theorem split_ok {x y : Str} (h : OkS x) (hy : Sgn y) : (∀ p ∈ Txt.split x y, OkS p) ∧ (Txt.split x y).length ≤ x.length + 1 := by
  have e := TL.split_spl x y hy.ne (TL.kind_ok hy.small)
  have hl := len_cps x
  constructor
  · intro p hp
    have m : TL.tl p ∈ (Txt.split x y).map TL.tl := List.mem_map_of_mem hp
    rw [e] at m
    obtain ⟨a, b⟩ := spl_mem _ _ _ _ _ m
    refine ⟨?_, fun c hc => h.cp c ((a c hc).resolve_left (by simp))⟩
    have := h.len
    rw [len_cps p]
    have b' : p.cps.toList.length ≤ 0 + x.cps.toList.length := b
    omega
  · have := spl_len (TL.tl y) (TL.tl x) 0 []
    rw [← e, List.length_map] at this
    have t : (Txt.split x y).length ≤ x.cps.toList.length + 1 := this
    omega
def numsO (x y : Str) : List (Option Int) := (Txt.split x y).map numO
def pairO (x y : Str) : Option (Int × Int) := match numsO x y with
  | [some a, some b] => some (a, b)
  | _ => none
def pD : Option (Int × Int) → D
  | some p => .tup [.int p.1, .int p.2]
  | none => .non
theorem split_op {x y : Str} (h : OkS x) (hy : Sgn y) (S : Store) : splitT x (.str y) S = .ok (.lst ((Txt.split x y).map D.str)) S :=
  splitT_ok (fun e => hy.ne (by have := len_cps y; rw [e] at this; exact List.length_eq_zero_iff.mp this.symm)) h.len
structure Opt {β : Type} (t : Option β → D) : Prop where
  non : t none = .non
  neq : ∀ b, deq (t (some b)) .non = false
  sh : ∀ o, shal 19 (t o) = true
theorem opt_oD : Opt oD := ⟨rfl, fun _ => rfl, fun o => by cases o <;> simp [oD, shal]⟩
theorem opt_pD : Opt pD := ⟨rfl, fun _ => rfl, fun o => by cases o <;> simp [pD, shal]⟩
theorem non_in {β : Type} {t : Option β → D} (ht : Opt t) : ∀ os : List (Option β), inD (os.map t) .non = os.any Option.isNone
  | [] => rfl
  | o :: os => by
    have e : inD ((o :: os).map t) .non = (deq (t o) .non || inD (os.map t) .non) := rfl
    rw [e, non_in ht os, List.any_cons]
    cases o with
    | none => rw [ht.non]; rfl
    | some b => rw [ht.neq]; rfl
theorem sh_opt {β : Type} {t : Option β → D} (ht : Opt t) (os : List (Option β)) : shal 20 (.tup (os.map t)) = true := by
  rw [shal_tup]
  exact shal_map ht.sh os
theorem in_opt {β : Type} {t : Option β → D} (ht : Opt t) (os : List (Option β)) (S : Store) : opIn .non (.tup (os.map t)) S = .ok (.bl (os.any Option.isNone)) S := by
  rw [in_tup rfl (sh_opt ht os), non_in ht]
theorem nin_opt {β : Type} {t : Option β → D} (ht : Opt t) (os : List (Option β)) (S : Store) : opNin .non (.tup (os.map t)) S = .ok (.bl (!os.any Option.isNone)) S := by
  rw [nin_tup rfl (sh_opt ht os), non_in ht]
theorem pair_cases (os : List (Option Int)) : pD (match os with | [some a, some b] => some (a, b) | _ => none) = if os.length ≠ 2 ∨ os.any Option.isNone = true then .non else .tup (os.map oD) := by
  match os with
  | [] => rfl
  | [some o] => rfl
  | [none] => rfl
  | [none, b] => rfl
  | [some a, none] => rfl
  | [some a, some b] => rfl
  | a :: b :: c :: r => 
    have h : (a :: b :: c :: r).length ≠ 2 := by simp
    rw [if_pos (.inl h)]
    cases a <;> cases b <;> rfl
theorem lc_num {f : List D → Store → Res D} (hf : ∀ p, OkS p → f [.str p] [] = .ok (oD (numO p)) []) {x y : Str} {k : Nat} {ρ : Q.Env} (hk : k < ρ.length) (hx : OkS x) (hy : Sgn y) (S : Store) :
    lcL (mgN k) mYes (mCall (fPure f) (mCons (mVar k) mNil)) ρ ((Txt.split x y).map D.str) S = .ok ((numsO x y).map oD) S := by
  unfold numsO
  rw [List.map_map]
  refine lcL_mapx _ S fun p hp => ⟨_, rfl, ?_⟩
  have e : (ρ.set k (some (.str p)))[k]? = some (some (.str p)) := List.getElem?_set_self hk
  have h := fPure_ap S (by simp) (hf p ((split_ok hx hy).1 p hp))
  simp [e, h]
theorem pair_of_ok {x y : Str} (hx : OkS x) (hy : Sgn y) (hl : x.length ≤ 9000) (S : Store) : f_p_pair_of [.str x, .str y] S = .ok (pD (pairO x y)) S := by
  unfold f_p_pair_of m_p_pair_of
  rw [fnM_2]
  have sp := split_op hx hy
  have lc := fun (ρ : Q.Env) (h : 3 < ρ.length) S => lc_num (f := f_p_number_of) (fun p hp => number_of_ok p hp.len []) (k := 3) h hx hy S
  have hn : (Txt.split x y).length ≤ 100000 := by have := (split_ok hx hy).2; omega
  have io := fun S => in_opt opt_oD (numsO x y) S
  have e : pD (pairO x y) = _ := pair_cases (numsO x y)
  rw [e]
  have hnl : (numsO x y).length ≤ 100000 := by unfold numsO; rw [List.length_map]; exact hn
  generalize numsO x y = os at *
  have hos : ((os.map oD).length : Int) = os.length := by rw [List.length_map]
  by_cases q : os.length = 2
  · have q2 : (os.length : Int) = 2 := by omega
    by_cases q3 : os.any Option.isNone = true
    · simp [sp, lc, hn, onText, io, q, q2, q3]
    · have q4 : os.any Option.isNone = false := Bool.eq_false_iff.mpr q3
      simp [sp, lc, hn, onText, io, q, q2, q4]
  · have q2 : ¬ (os.length : Int) = 2 := by omega
    simp [sp, lc, hn, onText, io, q, q2]
theorem pair_ok {x y : Str} (hx : OkS x) (hy : Sgn y) (hl : x.length ≤ 9000) (S : Store) : f_l_pair [.str x, .str y] S = .ok (pD (pairO x y)) S := by
  unfold f_l_pair m_l_pair
  rw [fnM_2]
  have sp := split_op hx hy
  have lc := fun (ρ : Q.Env) (h : 3 < ρ.length) S => lc_num (f := f_l_value) (fun p hp => value_ok p hp []) (k := 3) h hx hy S
  have hn : (Txt.split x y).length ≤ 100000 := by have := (split_ok hx hy).2; omega
  have io := fun S => nin_opt opt_oD (numsO x y) S
  have e : pD (pairO x y) = _ := pair_cases (numsO x y)
  rw [e]
  have hnl : (numsO x y).length ≤ 100000 := by unfold numsO; rw [List.length_map]; exact hn
  generalize numsO x y = os at *
  by_cases q : os.length = 2
  · have q2 : (os.length : Int) = 2 := by omega
    by_cases q3 : os.any Option.isNone = true
    · simp [sp, lc, hn, onText, io, q, q2, q3]
    · have q4 : os.any Option.isNone = false := Bool.eq_false_iff.mpr q3
      simp [sp, lc, hn, onText, io, q, q2, q4]
  · have q2 : ¬ (os.length : Int) = 2 := by omega
    simp [sp, lc, hn, onText, io, q, q2]
theorem sg_slash : Sgn "/" := ⟨by decide, by decide +kernel⟩
theorem sg_minus : Sgn "-" := ⟨by decide, by decide +kernel⟩
theorem sg_colon : Sgn ":" := ⟨by decide, by decide +kernel⟩
theorem sg_blank : Sgn " " := ⟨by decide, by decide +kernel⟩
def keepO {β : Type} (p : β → Bool) : Option β → Option β
  | some b => if p b = true then some b else none
  | none => none
def limitO (x : Str) : Option (Int × Int) := keepO (fun p => decide (0 < p.1 ∧ p.1 < p.2)) (pairO x "/")
def lookO (x : Str) : Option (Int × Int) := keepO (fun p => decide (p.1 < p.2)) (pairO x "-")
def shareO (x : Str) : Option (Int × Int) := keepO (fun p => decide (p.1 ≤ p.2 ∧ 0 < p.2 ∧ Int.gcd p.1 p.2 = 1)) (pairO x "/")
theorem digitsVal_lt (l : List Nat) (h : ∀ c ∈ l, c ≤ 57) : NumText.digitsVal l < 10 ^ l.length := by
  have go : ∀ (l : List Nat) (a k : Nat), (∀ c ∈ l, c ≤ 57) → a < 10 ^ k → l.foldl (fun acc c => acc * 10 + (c - 48)) a < 10 ^ (k + l.length) := by
    intro l
    induction l with
    | nil => intro a k _ h; exact h
    | cons c l ih =>
      intro a k hc h
      rw [List.foldl_cons]
      have h1 := hc c (by simp)
      have := ih (a * 10 + (c - 48)) (k + 1) (fun d hd => hc d (by simp [hd])) (by rw [Nat.pow_succ]; omega)
      rw [show k + (c :: l).length = k + 1 + l.length by simp only [List.length_cons]; omega]
      exact this
  have := go l 0 0 h (by decide)
  rw [Nat.zero_add] at this
  exact this
theorem numO_lt {x : Str} {n : Int} (h : numO x = some n) : 0 ≤ n ∧ n < 10 ^ 60 := by
  refine ⟨numO_pos h, ?_⟩
  unfold numO at h
  split at h
  · rename_i q
    cases h
    have z := digitsVal_lt x.cps.toList fun c hc => ((isDg_iff c).mp (List.all_eq_true.mp q.1.2.2 c hc)).2
    have z2 : (10 : Nat) ^ x.cps.toList.length ≤ 10 ^ 60 := Nat.pow_le_pow_right (by decide) q.1.2.1
    have : NumText.digitsVal x.cps.toList < 10 ^ 60 := Nat.lt_of_lt_of_le z z2
    omega
  · cases h
theorem pairO_lt {x y : Str} {p : Int × Int} (h : pairO x y = some p) : (0 ≤ p.1 ∧ p.1 < 10 ^ 60) ∧ 0 ≤ p.2 ∧ p.2 < 10 ^ 60 := by
  unfold pairO at h
  have all : ∀ o ∈ numsO x y, ∀ n, o = some n → 0 ≤ n ∧ n < 10 ^ 60 := by
    intro o ho n e
    obtain ⟨z, hz, rfl⟩ := List.mem_map.mp ho
    exact numO_lt e
  split at h
  · rename_i a b e
    cases h
    rw [e] at all
    exact ⟨all _ (by simp) _ rfl, all _ (by simp) _ rfl⟩
  · cases h
theorem pure_pD (o : Option (Int × Int)) : pureD (pD o) = true := by cases o <;> rfl
section
variable {x : Str} (hx : OkS x) (hl : x.length ≤ 9000)
include hx hl
theorem pairP {y : Str} (hy : Sgn y) (S : Store) : fPure f_p_pair_of [.str x, .str y] S = .ok (pD (pairO x y)) S := fPure_ap S (by simp) (pair_of_ok hx hy hl [])
theorem lpairP {y : Str} (hy : Sgn y) (S : Store) : fPure f_l_pair [.str x, .str y] S = .ok (pD (pairO x y)) S := fPure_ap S (by simp) (pair_ok hx hy hl [])
omit hx hl in
theorem is_limit_non (S : Store) : fPure f_p_is_limit [.non] S = .ok (.bl false) S := by
  have it : ∀ S, fPure f_p_is_tuple [.non, .int 2] S = .ok (.bl false) S := fun S => fPure_ap S rfl (by simp [f_p_is_tuple, fnM, m_p_is_tuple, isTy])
  exact fPure_ap S rfl (by simp [f_p_is_limit, fnM, m_p_is_limit, it])
omit hx hl in
theorem is_numberP (n m : Int) (S : Store) : fPure f_p_is_number [.int n, .int m] S = .ok (.bl (decide (m ≤ n))) S := by
  refine fPure_ap S rfl ?_
  simp [f_p_is_number, fnM, m_p_is_number, isTy]
omit hx hl in
theorem is_limit_two (a b : Int) (S : Store) : fPure f_p_is_limit [.tup [.int a, .int b]] S = .ok (.bl (decide (0 < a ∧ a < b))) S := by
  have it : ∀ S, fPure f_p_is_tuple [.tup [.int a, .int b], .int 2] S = .ok (.bl true) S := fun S => fPure_ap S rfl (by simp [f_p_is_tuple, fnM, m_p_is_tuple, isTy])
  have nu := is_numberP
  refine fPure_ap S rfl ?_
  by_cases h1 : 1 ≤ a
  · by_cases h2 : 1 ≤ b
    · by_cases h3 : a < b
      · have h4 : 0 < a ∧ a < b := by omega
        simp [f_p_is_limit, fnM, m_p_is_limit, it, nu, h1, h2, h3, h4]
      · simp [f_p_is_limit, fnM, m_p_is_limit, it, nu, h1, h2, h3]
    · have h4 : ¬ (0 < a ∧ a < b) := by omega
      simp [f_p_is_limit, fnM, m_p_is_limit, it, nu, h1, h2]
      omega
  · have h4 : ¬ 0 < a := by omega
    simp [f_p_is_limit, fnM, m_p_is_limit, it, nu, h1, h4]
theorem limit_of_ok (S : Store) : f_p_limit_of [.str x] S = .ok (pD (limitO x)) S := by
  have hp := pairP hx hl sg_slash
  unfold limitO
  cases q : pairO x "/" with
  | none =>
    rw [q] at hp
    simp only [pD] at hp
    simp [f_p_limit_of, fnM, m_p_limit_of, hp, is_limit_non, pD, keepO]
  | some p =>
    rw [q] at hp
    simp only [pD] at hp
    by_cases h : 0 < p.1 ∧ p.1 < p.2
    · simp [f_p_limit_of, fnM, m_p_limit_of, hp, is_limit_two, pD, keepO, h]
    · rw [keepO]
      simp only [decide_eq_false h]
      have hb := is_limit_two p.1 p.2
      rw [decide_eq_false h] at hb
      simp [f_p_limit_of, fnM, m_p_limit_of, hp, hb, pD]
theorem look_of_ok (S : Store) : f_p_look_of [.str x] S = .ok (pD (lookO x)) S := by
  have hp := pairP hx hl sg_minus
  unfold lookO
  cases q : pairO x "-" with
  | none =>
    rw [q] at hp
    simp only [pD] at hp
    simp [f_p_look_of, fnM, m_p_look_of, hp, pD, keepO]
  | some p =>
    rw [q] at hp
    simp only [pD] at hp
    by_cases h : p.1 < p.2
    · have h2 : ¬ p.2 ≤ p.1 := by omega
      simp [f_p_look_of, fnM, m_p_look_of, hp, pD, keepO, h, h2]
    · have h2 : p.2 ≤ p.1 := by omega
      simp [f_p_look_of, fnM, m_p_look_of, hp, pD, keepO, h, h2]
def shO2 : Option (Int × Int) → D
  | some p => shL p.1 p.2
  | none => .non
theorem share_of_ok (S : Store) : f_p_share_of [.str x] S = .ok (shO2 (shareO x)) S := by
  have hp := pairP hx hl sg_slash
  unfold shareO
  cases q : pairO x "/" with
  | none =>
    rw [q] at hp
    simp only [pD] at hp
    simp [f_p_share_of, fnM, m_p_share_of, hp, pD, keepO, shO2]
  | some p =>
    obtain ⟨⟨a0, a1⟩, b0, b1⟩ := pairO_lt q
    rw [q] at hp
    simp only [pD] at hp
    by_cases h1 : p.2 = 0
    · simp [f_p_share_of, fnM, m_p_share_of, hp, pD, keepO, shO2, h1]
    · by_cases h2 : p.2 < p.1
      · have h3 : ¬ p.1 ≤ p.2 := by omega
        simp [f_p_share_of, fnM, m_p_share_of, hp, pD, keepO, shO2, h1, h2, h3]
      · have h3 : p.1 ≤ p.2 := by omega
        have h4 : 0 < p.2 := by omega
        have mk := fun S => init_mk (S := S) a0 h4 (bigN (Int.le_trans (Int.le_of_lt b1) (by decide)))
        have gp := gcd_pos (a := p.1) (.inr (show p.2 ≠ 0 by omega))
        by_cases h5 : Int.gcd p.1 p.2 = 1
        · have e : shD p.1 p.2 = shL p.1 p.2 := by unfold shD shL; rw [h5]; simp
          rw [e] at mk
          have pa : ∀ S, fPure f_p_Share_parts [shL p.1 p.2] S = .ok (.tup [.int p.1, .int p.2]) S := fun S => fPure_ap S rfl (by simp [f_p_Share_parts, fnM, m_p_Share_parts, shL])
          have eq : ∀ S, opEq (.tup [.int p.1, .int p.2]) (.tup [.int p.1, .int p.2]) S = .ok (.bl true) S := fun S => by rw [eq_plain rfl rfl]; simp [deq, deqL]
          simp [f_p_share_of, fnM, m_p_share_of, hp, pD, keepO, shO2, h1, h2, h3, h4, h5, mk, pa, eq]
        · have pa : ∀ S, fPure f_p_Share_parts [shD p.1 p.2] S = .ok (.tup [.int (p.1 / Int.gcd p.1 p.2), .int (p.2 / Int.gcd p.1 p.2)]) S := fun S => fPure_ap S rfl (by simp [f_p_Share_parts, fnM, m_p_Share_parts, shD])
          have ne : ¬ p.2 / (Int.gcd p.1 p.2 : Int) = p.2 := fun e => by
            have : 2 ≤ (Int.gcd p.1 p.2 : Int) := by omega
            have z := Int.ediv_lt_self_of_pos_of_ne_one h4 (show (Int.gcd p.1 p.2 : Int) ≠ 1 by omega)
            omega
          have eq : ∀ S, opEq (.tup [.int (p.1 / Int.gcd p.1 p.2), .int (p.2 / Int.gcd p.1 p.2)]) (.tup [.int p.1, .int p.2]) S = .ok (.bl false) S := fun S => by rw [eq_plain rfl rfl]; simp [deq, deqL]; exact fun _ => ne
          have io : Q.isObj 0 (shD p.1 p.2) = true := rfl
          generalize shD p.1 p.2 = Dd at *
          simp [f_p_share_of, fnM, m_p_share_of, hp, pD, keepO, shO2, h1, h2, h3, h4, h5, mk, pa, eq, io]
end
def badD : D → D
  | .non => .str "bad"
  | d => d
def rowD {β : Type} (t : Option β → D) (os : List (Option β)) : D := if os.any Option.isNone = true then .non else .tup (os.map t)
theorem pure_rowD {β : Type} {t : Option β → D} (h : ∀ o, pureD (t o) = true) (os : List (Option β)) : pureD (rowD t os) = true := by
  unfold rowD
  split
  · rfl
  · exact pureL_all.mpr fun d hd => by
      obtain ⟨o, _, rfl⟩ := List.mem_map.mp hd
      exact h o
theorem pure_oD (o : Option Int) : pureD (oD o) = true := by cases o <;> rfl
def logR (x : Str) : D := rowD pD ((Txt.split x " ").map fun w => pairO w ":")
def rowR (x : Str) : D := if x = "-" then .tup [] else rowD oD (numsO x " ")
def looksR (x : Str) : D := if x = "-" then .tup [] else rowD pD ((Txt.split x " ").map lookO)
theorem told_tup {xs : List D} (h : pureD (.tup xs) = true) (S : Store) : fPureX g_p_told [.tup xs] S = .ok (.tup xs) S := by
  refine fPureX_ok (by simp [h]) ?_
  unfold g_p_told m_p_told
  rw [fnX_1]
  simp
theorem told_sh (a b : Int) (S : Store) : fPureX g_p_told [shL a b] S = .ok (shL a b) S := by
  refine fPureX_ok (by simp) ?_
  unfold g_p_told m_p_told
  rw [fnX_1]
  simp
theorem told_non (S : Store) : fPureX g_p_told [.non] S = .ex ⟨13, []⟩ S := by
  refine fPureX_ex rfl ?_ rfl
  unfold g_p_told m_p_told
  rw [fnX_1]
  simp
  rfl
inductive NT : D → Prop
  | non : NT .non
  | tup (xs : List D) : pureD (.tup xs) = true → NT (.tup xs)
theorem nt_pD (o : Option (Int × Int)) : NT (pD o) := by cases o; exact .non; exact .tup _ rfl
theorem nt_rowD {β : Type} {t : Option β → D} (h : ∀ o, pureD (t o) = true) (os : List (Option β)) : NT (rowD t os) := by
  have := pure_rowD h os
  unfold rowD at this ⊢
  split
  · exact .non
  · rename_i q
    rw [if_neg q] at this
    exact .tup _ this
theorem nt_rowR (x : Str) : NT (rowR x) := by
  unfold rowR
  split
  · exact .tup _ rfl
  · exact nt_rowD pure_oD _
theorem nt_looksR (x : Str) : NT (looksR x) := by
  unfold looksR
  split
  · exact .tup _ rfl
  · exact nt_rowD pure_pD _
def inR15 (d : D) (S : Store) : Res D := match d with
  | .non => .ex ⟨13, []⟩ S
  | d => .ok d S
section
variable {x : Str} (hx : OkS x) (hl : x.length ≤ 9000)
include hx hl
theorem parts_ok {y : Str} (hy : Sgn y) : ∀ w ∈ Txt.split x y, OkS w ∧ w.length ≤ 9000 := fun w hw => by
  have e := TL.split_spl x y hy.ne (TL.kind_ok hy.small)
  have m : TL.tl w ∈ (Txt.split x y).map TL.tl := List.mem_map_of_mem hw
  rw [e] at m
  obtain ⟨a, b⟩ := spl_mem _ _ _ _ _ m
  refine ⟨(split_ok hx hy).1 w hw, ?_⟩
  rw [len_cps w]
  have h2 := len_cps x
  have b' : w.cps.toList.length ≤ 0 + x.cps.toList.length := b
  omega
theorem log_of_ok (S : Store) : f_p_log_of [.str x] S = .ok (logR x) S := by
  unfold f_p_log_of m_p_log_of
  rw [fnM_1]
  have sp := split_op hx sg_blank
  have hn : (Txt.split x " ").length ≤ 100000 := by have := (split_ok hx sg_blank).2; omega
  have lc : ∀ (ρ : Q.Env) (h : 2 < ρ.length) S, lcL (mgN 2) mYes (mCall (fPure f_p_pair_of) (mCons (mVar 2) (mCons (mC (.str ":")) mNil))) ρ ((Txt.split x " ").map D.str) S = .ok (((Txt.split x " ").map fun w => pairO w ":").map pD) S := fun ρ h S => by
    rw [List.map_map]
    refine lcL_mapx _ S fun p hp => ⟨_, rfl, ?_⟩
    obtain ⟨o1, o2⟩ := parts_ok hx hl sg_blank p hp
    have e : (ρ.set 2 (some (.str p)))[2]? = some (some (.str p)) := List.getElem?_set_self h
    have h := pairP o1 o2 sg_colon S
    simp [e, h]
  unfold logR rowD
  have io := fun S => in_opt opt_pD ((Txt.split x " ").map fun w => pairO w ":") S
  have hnl : ((Txt.split x " ").map fun w => pairO w ":").length ≤ 100000 := by rw [List.length_map]; exact hn
  generalize ((Txt.split x " ").map fun w => pairO w ":") = os at *
  by_cases q3 : os.any Option.isNone = true
  · simp [sp, lc, hn, onText, io, q3]
  · have q4 : os.any Option.isNone = false := Bool.eq_false_iff.mpr q3
    simp [sp, lc, hn, onText, io, q4]
theorem row_of_ok (S : Store) : f_p_row_of [.str x] S = .ok (rowR x) S := by
  unfold f_p_row_of m_p_row_of
  rw [fnM_1]
  unfold rowR
  by_cases q : x = "-"
  · simp [q]
  · have sp := split_op hx sg_blank
    have lc := fun (ρ : Q.Env) (h : 2 < ρ.length) S => lc_num (f := f_p_number_of) (fun p hp => number_of_ok p hp.len []) (k := 2) h hx sg_blank S
    have hn : (Txt.split x " ").length ≤ 100000 := by have := (split_ok hx sg_blank).2; omega
    rw [if_neg q]
    have io := fun S => in_opt opt_oD (numsO x " ") S
    unfold rowD
    generalize numsO x " " = os at *
    by_cases q3 : os.any Option.isNone = true
    · simp [sp, lc, hn, onText, io, q3, q]
    · have q4 : os.any Option.isNone = false := Bool.eq_false_iff.mpr q3
      simp [sp, lc, hn, onText, io, q4, q]
theorem looks_of_ok (S : Store) : f_p_looks_of [.str x] S = .ok (looksR x) S := by
  unfold f_p_looks_of m_p_looks_of
  rw [fnM_1]
  unfold looksR
  by_cases q : x = "-"
  · simp [q]
  · have sp := split_op hx sg_blank
    have hn : (Txt.split x " ").length ≤ 100000 := by have := (split_ok hx sg_blank).2; omega
    have lc : ∀ (ρ : Q.Env) (h : 2 < ρ.length) S, lcL (mgN 2) mYes (mCall (fPure f_p_look_of) (mCons (mVar 2) mNil)) ρ ((Txt.split x " ").map D.str) S = .ok (((Txt.split x " ").map lookO).map pD) S := fun ρ h S => by
      rw [List.map_map]
      refine lcL_mapx _ S fun p hp => ⟨_, rfl, ?_⟩
      obtain ⟨o1, o2⟩ := parts_ok hx hl sg_blank p hp
      have e : (ρ.set 2 (some (.str p)))[2]? = some (some (.str p)) := List.getElem?_set_self h
      have h := fPure_ap S (by simp) (look_of_ok o1 o2 [])
      simp [e, h]
    rw [if_neg q]
    unfold rowD
    have io := fun S => in_opt opt_pD ((Txt.split x " ").map lookO) S
    generalize ((Txt.split x " ").map lookO) = os at *
    by_cases q3 : os.any Option.isNone = true
    · simp [sp, lc, hn, onText, io, q3, q]
    · have q4 : os.any Option.isNone = false := Bool.eq_false_iff.mpr q3
      simp [sp, lc, hn, onText, io, q4, q]
end
theorem in_of {f : List D → Store → Res D} {x : Str} {d : D} (hd : NT d) (h : f [.str x] [] = .ok d []) (S : Store) :
    fPureX (fnX 1 1 (mRet (mCallX (fPureX g_p_told) (mCons (mCall (fPure f) (mCons (mVar 0) mNil)) mNil)))) [.str x] S = inR15 d S := by
  have hf := fun S => fPure_ap S (by simp) h
  cases hd with
  | non =>
    refine fPureX_ex (by simp) ?_ rfl
    rw [fnX_1]
    simp [hf, told_non]
    rfl
  | tup xs hp =>
    refine fPureX_ok (by simp) ?_
    rw [fnX_1]
    simp [hf, told_tup hp]
theorem in_sh {x : Str} {o : Option (Int × Int)} (h : f_p_share_of [.str x] [] = .ok (shO2 o) []) (S : Store) :
    fPureX g_p_share_in [.str x] S = inR15 (shO2 o) S := by
  have hf := fun S => fPure_ap S (by simp) h
  unfold g_p_share_in m_p_share_in
  cases o with
  | none =>
    refine fPureX_ex (by simp) ?_ rfl
    rw [fnX_1]
    simp only [shO2] at hf
    simp [hf, told_non]
    rfl
  | some p =>
    refine fPureX_ok (by simp) ?_
    rw [fnX_1]
    simp only [shO2] at hf
    simp [hf, told_sh]
    rfl
@[simp] theorem sn_limit_share : ((Str.ofString "limit") = (Str.ofString "share")) = False := eq_false (by decide +kernel)
@[simp] theorem sn_limit_look : ((Str.ofString "limit") = (Str.ofString "look")) = False := eq_false (by decide +kernel)
@[simp] theorem sn_limit_log : ((Str.ofString "limit") = (Str.ofString "log")) = False := eq_false (by decide +kernel)
@[simp] theorem sn_limit_row : ((Str.ofString "limit") = (Str.ofString "row")) = False := eq_false (by decide +kernel)
@[simp] theorem sn_limit_looks : ((Str.ofString "limit") = (Str.ofString "looks")) = False := eq_false (by decide +kernel)
@[simp] theorem sn_share_limit : ((Str.ofString "share") = (Str.ofString "limit")) = False := eq_false (by decide +kernel)
@[simp] theorem sn_share_look : ((Str.ofString "share") = (Str.ofString "look")) = False := eq_false (by decide +kernel)
@[simp] theorem sn_share_log : ((Str.ofString "share") = (Str.ofString "log")) = False := eq_false (by decide +kernel)
@[simp] theorem sn_share_row : ((Str.ofString "share") = (Str.ofString "row")) = False := eq_false (by decide +kernel)
@[simp] theorem sn_share_looks : ((Str.ofString "share") = (Str.ofString "looks")) = False := eq_false (by decide +kernel)
@[simp] theorem sn_look_limit : ((Str.ofString "look") = (Str.ofString "limit")) = False := eq_false (by decide +kernel)
@[simp] theorem sn_look_share : ((Str.ofString "look") = (Str.ofString "share")) = False := eq_false (by decide +kernel)
@[simp] theorem sn_look_log : ((Str.ofString "look") = (Str.ofString "log")) = False := eq_false (by decide +kernel)
@[simp] theorem sn_look_row : ((Str.ofString "look") = (Str.ofString "row")) = False := eq_false (by decide +kernel)
@[simp] theorem sn_look_looks : ((Str.ofString "look") = (Str.ofString "looks")) = False := eq_false (by decide +kernel)
@[simp] theorem sn_log_limit : ((Str.ofString "log") = (Str.ofString "limit")) = False := eq_false (by decide +kernel)
@[simp] theorem sn_log_share : ((Str.ofString "log") = (Str.ofString "share")) = False := eq_false (by decide +kernel)
@[simp] theorem sn_log_look : ((Str.ofString "log") = (Str.ofString "look")) = False := eq_false (by decide +kernel)
@[simp] theorem sn_log_row : ((Str.ofString "log") = (Str.ofString "row")) = False := eq_false (by decide +kernel)
@[simp] theorem sn_log_looks : ((Str.ofString "log") = (Str.ofString "looks")) = False := eq_false (by decide +kernel)
@[simp] theorem sn_row_limit : ((Str.ofString "row") = (Str.ofString "limit")) = False := eq_false (by decide +kernel)
@[simp] theorem sn_row_share : ((Str.ofString "row") = (Str.ofString "share")) = False := eq_false (by decide +kernel)
@[simp] theorem sn_row_look : ((Str.ofString "row") = (Str.ofString "look")) = False := eq_false (by decide +kernel)
@[simp] theorem sn_row_log : ((Str.ofString "row") = (Str.ofString "log")) = False := eq_false (by decide +kernel)
@[simp] theorem sn_row_looks : ((Str.ofString "row") = (Str.ofString "looks")) = False := eq_false (by decide +kernel)
@[simp] theorem sn_looks_limit : ((Str.ofString "looks") = (Str.ofString "limit")) = False := eq_false (by decide +kernel)
@[simp] theorem sn_looks_share : ((Str.ofString "looks") = (Str.ofString "share")) = False := eq_false (by decide +kernel)
@[simp] theorem sn_looks_look : ((Str.ofString "looks") = (Str.ofString "look")) = False := eq_false (by decide +kernel)
@[simp] theorem sn_looks_log : ((Str.ofString "looks") = (Str.ofString "log")) = False := eq_false (by decide +kernel)
@[simp] theorem sn_looks_row : ((Str.ofString "looks") = (Str.ofString "row")) = False := eq_false (by decide +kernel)
def sortsS : List Str := ["limit", "share", "look", "log", "row", "looks"]
def ansD (s x : Str) : D := if s = "limit" then pD (limitO x) else if s = "share" then pD (shareO x) else if s = "look" then pD (lookO x) else if s = "log" then logR x else if s = "row" then rowR x else looksR x
section
variable {x : Str} (hx : OkS x) (hl : x.length ≤ 9000)
include hx hl
theorem read_limit (S : Store) : f_l_read [.str "limit", .str x] S = .ok (badD (pD (limitO x))) S := by
  have h := fun S => in_of (nt_pD (limitO x)) (limit_of_ok hx hl []) S
  have h : ∀ S, fPureX g_p_limit_in [.str x] S = inR15 (pD (limitO x)) S := h
  unfold f_l_read m_l_read
  rw [fnM_2]
  cases q : limitO x with
  | none =>
    rw [q] at h
    simp only [pD, inR15] at h
    simp [h, hands_yes, isX_exn, pD, badD]
  | some p =>
    rw [q] at h
    simp only [pD, inR15] at h
    simp [h, hands_yes, isX_exn, pD, badD]
theorem read_look (S : Store) : f_l_read [.str "look", .str x] S = .ok (badD (pD (lookO x))) S := by
  have h := fun S => in_of (nt_pD (lookO x)) (look_of_ok hx hl []) S
  have h : ∀ S, fPureX g_p_look_in [.str x] S = inR15 (pD (lookO x)) S := h
  unfold f_l_read m_l_read
  rw [fnM_2]
  cases q : lookO x with
  | none =>
    rw [q] at h
    simp only [pD, inR15] at h
    simp [h, hands_yes, isX_exn, pD, badD]
  | some p =>
    rw [q] at h
    simp only [pD, inR15] at h
    simp [h, hands_yes, isX_exn, pD, badD]
theorem read_share (S : Store) : f_l_read [.str "share", .str x] S = .ok (badD (pD (shareO x))) S := by
  have h := fun S => in_sh (share_of_ok hx hl []) S
  unfold f_l_read m_l_read
  rw [fnM_2]
  cases q : shareO x with
  | none =>
    rw [q] at h
    simp only [shO2, inR15] at h
    simp [h, hands_yes, isX_exn, pD, badD]
  | some p =>
    rw [q] at h
    have h : ∀ S, fPureX g_p_share_in [.str x] S = .ok (shL p.1 p.2) S := h
    have pa : ∀ S, fPure f_p_Share_parts [shL p.1 p.2] S = .ok (.tup [.int p.1, .int p.2]) S := fun S => fPure_ap S rfl (by simp [f_p_Share_parts, fnM, m_p_Share_parts, shL])
    simp [h, hands_yes, isX_exn, pD, badD, pa]
theorem read_log (S : Store) : f_l_read [.str "log", .str x] S = .ok (badD (logR x)) S := by
  have nt : NT (logR x) := nt_rowD pure_pD _
  have h := fun S => in_of nt (log_of_ok hx hl []) S
  have h : ∀ S, fPureX g_p_log_in [.str x] S = inR15 (logR x) S := h
  unfold f_l_read m_l_read
  rw [fnM_2]
  generalize logR x = d at *
  cases nt with
  | non =>
    simp only [inR15] at h
    simp [h, hands_yes, isX_exn, badD]
  | tup xs hp =>
    simp only [inR15] at h
    simp [h, hands_yes, isX_exn, badD]
theorem read_row (S : Store) : f_l_read [.str "row", .str x] S = .ok (badD (rowR x)) S := by
  have nt : NT (rowR x) := nt_rowR x
  have h := fun S => in_of nt (row_of_ok hx hl []) S
  have h : ∀ S, fPureX g_p_row_in [.str x] S = inR15 (rowR x) S := h
  unfold f_l_read m_l_read
  rw [fnM_2]
  generalize rowR x = d at *
  cases nt with
  | non =>
    simp only [inR15] at h
    simp [h, hands_yes, isX_exn, badD]
  | tup xs hp =>
    simp only [inR15] at h
    simp [h, hands_yes, isX_exn, badD]
theorem read_looks (S : Store) : f_l_read [.str "looks", .str x] S = .ok (badD (looksR x)) S := by
  have nt : NT (looksR x) := nt_looksR x
  have h := fun S => in_of nt (looks_of_ok hx hl []) S
  have h : ∀ S, fPureX g_p_looks_in [.str x] S = inR15 (looksR x) S := h
  unfold f_l_read m_l_read
  rw [fnM_2]
  generalize looksR x = d at *
  cases nt with
  | non =>
    simp only [inR15] at h
    simp [h, hands_yes, isX_exn, badD]
  | tup xs hp =>
    simp only [inR15] at h
    simp [h, hands_yes, isX_exn, badD]
end
theorem lcL_filterb {β : Type} {u : β → D} {q : β → Bool} {g : MG} {t : MT} {m : ME} {ρ : Q.Env} : ∀ (xs : List β) (S : Store), (∀ x ∈ xs, ∃ ρ1, g (u x) ρ S = .ok ρ1 S ∧ t ρ1 S = .ok (q x) S ∧ m ρ1 S = .ok (u x) S) → lcL g t m ρ (xs.map u) S = .ok ((xs.filter q).map u) S
  | [], S, _ => rfl
  | x :: xs, S, h => by
    obtain ⟨ρ1, h1, h2, h3⟩ := h x (by simp)
    have ih := lcL_filterb xs S fun y hy => h y (by simp [hy])
    rw [List.map_cons]
    unfold lcL
    rw [h1]
    simp only [bind_ok]
    rw [h2]
    simp only [bind_ok]
    cases e : q x with
    | true =>
      simp only [e, if_true, h3, bind_ok, ih, List.filter_cons]
      rfl
    | false =>
      simp only [e, ih, List.filter_cons]
      rfl
theorem in_rl (s : Str) (b : Bool) (h : decide (s = "row" ∨ s = "looks") = b) (hs : PyData.strOk s = true) (S : Store) : opIn (.str s) (.tup [.str "row", .str "looks"]) S = .ok (.bl b) S := by
  have h1 : PyData.strOk "row" = true := by decide +kernel
  have h2 : PyData.strOk "looks" = true := by decide +kernel
  rw [in_tup (by simp [shal, hs]) (by rw [shal_tup]; simp [shal, h1, h2])]
  have e : inD [D.str "row", D.str "looks"] (.str s) = (("row" == s) || (("looks" == s) || false)) := rfl
  rw [e, ← h]
  congr 2
  by_cases q1 : s = "row"
  · subst q1; simp
  · by_cases q2 : s = "looks"
    · subst q2; simp
    · have q3 : ¬ (("row" : Str) = s) := fun e => q1 e.symm
      have q4 : ¬ (("looks" : Str) = s) := fun e => q2 e.symm
      simp [q1, q2, q3, q4]
theorem in_lsl (s : Str) (b : Bool) (h : decide (s = "limit" ∨ s = "share" ∨ s = "look") = b) (hs : PyData.strOk s = true) (S : Store) : opIn (.str s) (.tup [.str "limit", .str "share", .str "look"]) S = .ok (.bl b) S := by
  have h1 : PyData.strOk "limit" = true := by decide +kernel
  have h2 : PyData.strOk "share" = true := by decide +kernel
  have h3 : PyData.strOk "look" = true := by decide +kernel
  rw [in_tup (by simp [shal, hs]) (by rw [shal_tup]; simp [shal, h1, h2, h3])]
  have e : inD [D.str "limit", D.str "share", D.str "look"] (.str s) = (("limit" == s) || (("share" == s) || (("look" == s) || false))) := rfl
  rw [e, ← h]
  congr 2
  by_cases q1 : s = "limit"
  · subst q1; simp
  · by_cases q2 : s = "share"
    · subst q2; simp
    · by_cases q5 : s = "look"
      · subst q5; simp
      · have q3 : ¬ (("limit" : Str) = s) := fun e => q1 e.symm
        have q4 : ¬ (("share" : Str) = s) := fun e => q2 e.symm
        have q6 : ¬ (("look" : Str) = s) := fun e => q5 e.symm
        simp [q1, q2, q3, q4, q5, q6]
theorem rl_limit (S : Store) : opIn (.str "limit") (.tup [.str "row", .str "looks"]) S = .ok (.bl false) S := in_rl _ _ (by decide +kernel) (by decide +kernel) S
theorem rl_share (S : Store) : opIn (.str "share") (.tup [.str "row", .str "looks"]) S = .ok (.bl false) S := in_rl _ _ (by decide +kernel) (by decide +kernel) S
theorem rl_look (S : Store) : opIn (.str "look") (.tup [.str "row", .str "looks"]) S = .ok (.bl false) S := in_rl _ _ (by decide +kernel) (by decide +kernel) S
theorem rl_log (S : Store) : opIn (.str "log") (.tup [.str "row", .str "looks"]) S = .ok (.bl false) S := in_rl _ _ (by decide +kernel) (by decide +kernel) S
theorem rl_row (S : Store) : opIn (.str "row") (.tup [.str "row", .str "looks"]) S = .ok (.bl true) S := in_rl _ _ (by decide +kernel) (by decide +kernel) S
theorem rl_looks (S : Store) : opIn (.str "looks") (.tup [.str "row", .str "looks"]) S = .ok (.bl true) S := in_rl _ _ (by decide +kernel) (by decide +kernel) S
theorem lsl_limit (S : Store) : opIn (.str "limit") (.tup [.str "limit", .str "share", .str "look"]) S = .ok (.bl true) S := in_lsl _ _ (by decide +kernel) (by decide +kernel) S
theorem lsl_share (S : Store) : opIn (.str "share") (.tup [.str "limit", .str "share", .str "look"]) S = .ok (.bl true) S := in_lsl _ _ (by decide +kernel) (by decide +kernel) S
theorem lsl_look (S : Store) : opIn (.str "look") (.tup [.str "limit", .str "share", .str "look"]) S = .ok (.bl true) S := in_lsl _ _ (by decide +kernel) (by decide +kernel) S
theorem lsl_log (S : Store) : opIn (.str "log") (.tup [.str "limit", .str "share", .str "look"]) S = .ok (.bl false) S := in_lsl _ _ (by decide +kernel) (by decide +kernel) S
theorem lsl_row (S : Store) : opIn (.str "row") (.tup [.str "limit", .str "share", .str "look"]) S = .ok (.bl false) S := in_lsl _ _ (by decide +kernel) (by decide +kernel) S
theorem lsl_looks (S : Store) : opIn (.str "looks") (.tup [.str "limit", .str "share", .str "look"]) S = .ok (.bl false) S := in_lsl _ _ (by decide +kernel) (by decide +kernel) S
theorem gcd_loopL : ∀ (n : Nat) (a b : Int) (k : Nat) (S : Store), 0 ≤ a → 0 ≤ b → b.toNat ≤ n → n < k →
    whileF (mTB (mOp opGt (mVar 1) (mC (.int 0)))) (mPar 0 1 (mCons (mVar 1) (mCons (mOp opModI (mCall fInt (mCons (mVar 0) mNil)) (mVar 1)) mNil))) k [some (.int a), some (.int b)] S = .ok (.nx [some (.int (Int.gcd a b)), some (.int 0)]) S := by
  intro n
  induction n with
  | zero =>
    intro a b k S ha hb hn hk
    have e : b = 0 := by omega
    subst e
    cases k with
    | zero => omega
    | succ k =>
      rw [whF_succ]
      simp
      omega
  | succ n ih =>
    intro a b k S ha hb hn hk
    cases k with
    | zero => omega
    | succ k =>
      rw [whF_succ]
      by_cases h : 0 < b
      · have hm : modOk a b = true := modOk_of h
        have h1 := Int.emod_nonneg a (show b ≠ 0 by omega)
        have h2 := Int.emod_lt_of_pos a h
        have := ih b (a % b) k S hb h1 (by omega) (by omega)
        have hg : Int.gcd b (a % b) = Int.gcd a b := by
          rw [Int.gcd_comm a b]
          have e : a = a % b + b * (a / b) := (Int.emod_add_mul_ediv a b).symm
          conv => rhs; rw [e]
          rw [Int.gcd_add_mul_left_right]
        simp [h, hm, this, hg]
      · have e : b = 0 := by omega
        subst e
        simp
        omega
theorem lcommonP {a b : Int} (ha : 0 ≤ a) (hb : 0 ≤ b) (S : Store) : fPure f_l_common [.int a, .int b] S = .ok (.int (Int.gcd a b)) S := by
  refine fPure_ap S rfl ?_
  have h := gcd_loopL b.toNat a b (b.toNat + 1) [] ha hb (Nat.le_refl _) (by omega)
  simp [f_l_common, fnM, m_l_common, fuelI, h]
section
variable {x : Str} (hx : OkS x) (hl : x.length ≤ 9000)
include hx hl
theorem due_limit (S : Store) : f_l_due [.str "limit", .str x] S = .ok (badD (pD (limitO x))) S := by
  have hp := lpairP hx hl sg_slash
  unfold limitO
  unfold f_l_due m_l_due
  rw [fnM_2]
  cases q : pairO x "/" with
  | none =>
    rw [q] at hp
    simp only [pD] at hp
    simp [rl_limit, lsl_limit, hp, pD, keepO, badD]
  | some p =>
    rw [q] at hp
    simp only [pD] at hp
    by_cases h1 : p.1 < p.2
    · by_cases h2 : 0 < p.1
      · simp [rl_limit, lsl_limit, hp, pD, keepO, badD, h1, h2]
      · simp [rl_limit, lsl_limit, hp, pD, keepO, badD, h1, h2]
    · simp [rl_limit, lsl_limit, hp, pD, keepO, badD, h1]
theorem due_look (S : Store) : f_l_due [.str "look", .str x] S = .ok (badD (pD (lookO x))) S := by
  have hp := lpairP hx hl sg_minus
  unfold lookO
  unfold f_l_due m_l_due
  rw [fnM_2]
  cases q : pairO x "-" with
  | none =>
    rw [q] at hp
    simp only [pD] at hp
    simp [rl_look, lsl_look, hp, pD, keepO, badD]
  | some p =>
    rw [q] at hp
    simp only [pD] at hp
    by_cases h1 : p.1 < p.2
    · simp [rl_look, lsl_look, hp, pD, keepO, badD, h1]
    · simp [rl_look, lsl_look, hp, pD, keepO, badD, h1]
theorem due_share (S : Store) : f_l_due [.str "share", .str x] S = .ok (badD (pD (shareO x))) S := by
  have hp := lpairP hx hl sg_slash
  unfold shareO
  unfold f_l_due m_l_due
  rw [fnM_2]
  cases q : pairO x "/" with
  | none =>
    rw [q] at hp
    simp only [pD] at hp
    simp [rl_share, lsl_share, hp, pD, keepO, badD]
  | some p =>
    obtain ⟨⟨a0, a1⟩, b0, b1⟩ := pairO_lt q
    have cm := lcommonP b0 a0
    rw [Int.gcd_comm] at cm
    rw [q] at hp
    simp only [pD] at hp
    by_cases h1 : p.1 ≤ p.2
    · by_cases h2 : 0 < p.2
      · by_cases h3 : Int.gcd p.1 p.2 = 1
        · simp [rl_share, lsl_share, hp, pD, keepO, badD, h1, h2, h3, cm]
        · have h4 : ¬ ((Int.gcd p.1 p.2 : Nat) : Int) = 1 := by omega
          simp [rl_share, lsl_share, hp, pD, keepO, badD, h1, h2, h3, h4, cm]
      · simp [rl_share, lsl_share, hp, pD, keepO, badD, h1, h2]
    · simp [rl_share, lsl_share, hp, pD, keepO, badD, h1]
theorem due_row (S : Store) : f_l_due [.str "row", .str x] S = .ok (badD (rowR x)) S := by
  unfold rowR
  unfold f_l_due m_l_due
  rw [fnM_2]
  by_cases q : x = "-"
  · simp [rl_row, q, badD]
  · have sp := split_op hx sg_blank
    have lc := fun (ρ : Q.Env) (h : 6 < ρ.length) S => lc_num (f := f_l_value) (fun p hp => value_ok p hp []) (k := 6) h hx sg_blank S
    have hn : (Txt.split x " ").length ≤ 100000 := by have := (split_ok hx sg_blank).2; omega
    rw [if_neg q]
    have io := fun S => in_opt opt_oD (numsO x " ") S
    unfold rowD
    generalize numsO x " " = os at *
    by_cases q3 : os.any Option.isNone = true
    · simp [rl_row, lsl_row, sp, lc, hn, onText, io, q3, q, badD]
    · have q4 : os.any Option.isNone = false := Bool.eq_false_iff.mpr q3
      simp [rl_row, lsl_row, sp, lc, hn, onText, io, q4, q, badD]
theorem lc_pairs {y : Str} (hy : Sgn y) {m : ME} (ρ : Q.Env) (h : 6 < ρ.length) (hm : ∀ d S, m (ρ.set 6 d) S = .ok (.str y) S) (S : Store) :
    lcL (mgN 6) mYes (mCall (fPure f_l_pair) (mCons (mVar 6) (mCons m mNil))) ρ ((Txt.split x " ").map D.str) S = .ok (((Txt.split x " ").map fun w => pairO w y).map pD) S := by
  rw [List.map_map]
  refine lcL_mapx _ S fun p hp => ⟨_, rfl, ?_⟩
  obtain ⟨o1, o2⟩ := parts_ok hx hl sg_blank p hp
  have e : (ρ.set 6 (some (.str p)))[6]? = some (some (.str p)) := List.getElem?_set_self h
  have h := lpairP o1 o2 hy S
  simp [e, h, hm]
theorem due_log (S : Store) : f_l_due [.str "log", .str x] S = .ok (badD (logR x)) S := by
  unfold logR
  unfold f_l_due m_l_due
  rw [fnM_2]
  have sp := split_op hx sg_blank
  have hn : (Txt.split x " ").length ≤ 100000 := by have := (split_ok hx sg_blank).2; omega
  have lc := fun (ρ : Q.Env) (h : 6 < ρ.length) hm S => lc_pairs hx hl sg_colon (m := mIfE (mTB (mOp opEq (mVar 0) (mC (.str "log")))) (mC (.str ":")) (mC (.str "-"))) ρ h hm S
  have io := fun S => in_opt opt_pD ((Txt.split x " ").map fun w => pairO w ":") S
  unfold rowD
  generalize ((Txt.split x " ").map fun w => pairO w ":") = os at *
  by_cases q3 : os.any Option.isNone = true
  · simp [rl_log, lsl_log, sp, lc, hn, onText, io, q3, badD]
  · have q4 : os.any Option.isNone = false := Bool.eq_false_iff.mpr q3
    simp [rl_log, lsl_log, sp, lc, hn, onText, io, q4, badD]
end
def pT (p : Int × Int) : D := .tup [.int p.1, .int p.2]
theorem somes {β : Type} : ∀ {os : List (Option β)}, os.any Option.isNone = false → ∃ ps : List β, os = ps.map some
  | [], _ => ⟨[], rfl⟩
  | none :: os, h => by simp at h
  | some b :: os, h => by
    obtain ⟨ps, rfl⟩ := somes (os := os) (by simpa using h)
    exact ⟨b :: ps, rfl⟩
theorem keep_none {β : Type} (p : β → Bool) : ∀ os : List (Option β), os.any Option.isNone = true → (os.map (keepO p)).any Option.isNone = true
  | [], h => by simp at h
  | none :: os, h => by simp [keepO]
  | some b :: os, h => by
    have := keep_none p os (by simpa using h)
    rw [List.map_cons, List.any_cons, this, Bool.or_true]
theorem keep_some {β : Type} (p : β → Bool) : ∀ ps : List β, ((ps.map some).map (keepO p)).any Option.isNone = ps.any fun b => !p b
  | [] => rfl
  | b :: ps => by
    rw [List.map_cons, List.map_cons, List.any_cons, List.any_cons, keep_some p ps]
    congr 1
    unfold keepO
    by_cases h : p b = true
    · simp [h]
    · simp [Bool.eq_false_iff.mpr h]
theorem keep_all {β : Type} (p : β → Bool) : ∀ ps : List β, (ps.any fun b => !p b) = false → (ps.map some).map (keepO p) = ps.map some
  | [], _ => rfl
  | b :: ps, h => by
    rw [List.any_cons, Bool.or_eq_false_iff] at h
    rw [List.map_cons, List.map_cons, keep_all p ps h.2]
    have : p b = true := by simpa using h.1
    simp [keepO, this]
theorem lc_bad {ρ : Q.Env} (h : 2 < ρ.length) (ps : List (Int × Int)) (S : Store) :
    lcL (mgN 2) (mTB (mOp opGe (mOp opIx (mVar 2) (mC (.int 0))) (mOp opIx (mVar 2) (mC (.int 1))))) (mVar 2) ρ (ps.map pT) S = .ok ((ps.filter fun p => !decide (p.1 < p.2)).map pT) S := by
  refine lcL_filterb ps S fun p hp => ⟨_, rfl, ?_, ?_⟩
  · have e : (ρ.set 2 (some (D.tup [.int p.1, .int p.2])))[2]? = some (some (D.tup [.int p.1, .int p.2])) := List.getElem?_set_self h
    by_cases q : p.1 < p.2
    · have q2 : ¬ p.2 ≤ p.1 := by omega
      simp [e, pT, q, q2]
    · have q2 : p.2 ≤ p.1 := by omega
      simp [e, pT, q, q2]
  · have e : (ρ.set 2 (some (pT p)))[2]? = some (some (pT p)) := List.getElem?_set_self h
    simp [e]
theorem ne_nilP (ps : List (Int × Int)) (S : Store) : opNe (.lst (ps.map pT)) (.lst []) S = .ok (.bl (!ps.isEmpty)) S := by
  have sh : shal 20 (.lst (ps.map pT)) = true := by
    rw [shal_lst]
    exact shal_map (fun _ => by simp [pT, shal]) _
  rw [ne_plain sh rfl]
  cases ps <;> rfl
section
variable {x : Str} (hx : OkS x) (hl : x.length ≤ 9000)
include hx hl
theorem due_looks (S : Store) : f_l_due [.str "looks", .str x] S = .ok (badD (looksR x)) S := by
  unfold looksR
  unfold f_l_due m_l_due
  rw [fnM_2]
  by_cases q : x = "-"
  · simp [rl_looks, q, badD]
  · rw [if_neg q]
    have sp := split_op hx sg_blank
    have hn : (Txt.split x " ").length ≤ 100000 := by have := (split_ok hx sg_blank).2; omega
    have hnm : ((Txt.split x " ").map fun w => pairO w "-").length ≤ 100000 := by rw [List.length_map]; exact hn
    have lc := fun (ρ : Q.Env) (h : 6 < ρ.length) hm S => lc_pairs hx hl sg_minus (m := mIfE (mTB (mOp opEq (mVar 0) (mC (.str "log")))) (mC (.str ":")) (mC (.str "-"))) ρ h hm S
    have io := fun S => in_opt opt_pD ((Txt.split x " ").map fun w => pairO w "-") S
    have e : (Txt.split x " ").map lookO = ((Txt.split x " ").map fun w => pairO w "-").map (keepO fun p => decide (p.1 < p.2)) := by
      rw [List.map_map]
      rfl
    rw [e]
    clear e
    unfold rowD
    generalize ((Txt.split x " ").map fun w => pairO w "-") = os at *
    by_cases q3 : os.any Option.isNone = true
    · rw [if_pos (keep_none _ _ q3)]
      simp [rl_looks, lsl_looks, sp, lc, hn, onText, io, q3, q, badD]
    · have q4 : os.any Option.isNone = false := Bool.eq_false_iff.mpr q3
      obtain ⟨ps, rfl⟩ := somes q4
      rw [keep_some]
      have e2 : (ps.map some).map pD = ps.map pT := by rw [List.map_map]; rfl
      rw [q4, e2] at io
      rw [e2] at lc
      have lb := fun (ρ : Q.Env) (h : 2 < ρ.length) S => lc_bad h ps S
      have nn := fun S => ne_nilP (ps.filter fun p => !decide (p.1 < p.2)) S
      have hnp : ps.length ≤ 100000 := by rw [List.length_map] at hnm; exact hnm
      by_cases q5 : (ps.any fun b => !decide (b.1 < b.2)) = true
      · rw [if_pos q5]
        have q6 : (ps.filter fun p => !decide (p.1 < p.2)).isEmpty = false := by
          obtain ⟨b, hb, hb2⟩ := List.any_eq_true.mp q5
          cases e : (ps.filter fun p => !decide (p.1 < p.2)) with
          | nil => exact absurd (List.mem_filter.mpr ⟨hb, hb2⟩) (by rw [e]; simp)
          | cons => rfl
        rw [q6] at nn
        generalize (ps.filter fun p => !decide (p.1 < p.2)) = fs at *
        simp [rl_looks, lsl_looks, sp, lc, hn, onText, io, q, badD, hnp, lb, nn]
      · have q7 := Bool.eq_false_iff.mpr q5
        rw [if_neg q5, keep_all _ _ q7, e2]
        have q6 : (ps.filter fun p => !decide (p.1 < p.2)) = [] := List.filter_eq_nil_iff.mpr fun b hb hb2 => q5 (List.any_eq_true.mpr ⟨b, hb, hb2⟩)
        rw [q6] at nn lb
        have nn : ∀ S, opNe (.lst []) (.lst []) S = .ok (.bl false) S := nn
        simp [rl_looks, lsl_looks, sp, lc, hn, onText, io, q, badD, hnp, lb, nn]
end
theorem sorts_all {P : Str → Prop} (h1 : P "limit") (h2 : P "share") (h3 : P "look") (h4 : P "log") (h5 : P "row") (h6 : P "looks") {s : Str} (h : s ∈ sortsS) : P s := by
  unfold sortsS at h
  simp only [List.mem_cons, List.not_mem_nil, or_false] at h
  rcases h with rfl | rfl | rfl | rfl | rfl | rfl <;> assumption
theorem read_due {s x : Str} (hs : s ∈ sortsS) (hx : OkS x) (hl : x.length ≤ 9000) (S : Store) :
    fPure f_l_read [.str s, .str x] S = .ok (badD (ansD s x)) S ∧ fPure f_l_due [.str s, .str x] S = .ok (badD (ansD s x)) S := by
  have a : ∀ s : Str, pureL [D.str s, D.str x] = true := fun s => by simp
  refine sorts_all (P := fun s => fPure f_l_read [.str s, .str x] S = .ok (badD (ansD s x)) S ∧ fPure f_l_due [.str s, .str x] S = .ok (badD (ansD s x)) S) ?_ ?_ ?_ ?_ ?_ ?_ hs
  · exact ⟨fPure_ap S (a _) (by simpa [ansD] using read_limit hx hl []), fPure_ap S (a _) (by simpa [ansD] using due_limit hx hl [])⟩
  · exact ⟨fPure_ap S (a _) (by simpa [ansD] using read_share hx hl []), fPure_ap S (a _) (by simpa [ansD] using due_share hx hl [])⟩
  · exact ⟨fPure_ap S (a _) (by simpa [ansD] using read_look hx hl []), fPure_ap S (a _) (by simpa [ansD] using due_look hx hl [])⟩
  · exact ⟨fPure_ap S (a _) (by simpa [ansD] using read_log hx hl []), fPure_ap S (a _) (by simpa [ansD] using due_log hx hl [])⟩
  · exact ⟨fPure_ap S (a _) (by simpa [ansD] using read_row hx hl []), fPure_ap S (a _) (by simpa [ansD] using due_row hx hl [])⟩
  · exact ⟨fPure_ap S (a _) (by simpa [ansD] using read_looks hx hl []), fPure_ap S (a _) (by simpa [ansD] using due_looks hx hl [])⟩
theorem len_app (x y : Str) : (x ++ y).length = x.length + y.length := by
  rw [len_cps, len_cps x, len_cps y]
  have := TL.tl_append x y
  have e : (x ++ y).cps.toList = x.cps.toList ++ y.cps.toList := this
  rw [e, List.length_append]
theorem empty_app (x : Str) : Str.empty ++ x = x := TL.ext_tl (by rw [TL.tl_append]; rfl)
def pairTxt (a b : Int) (y : Str) : Str := strI a ++ y ++ strI b
def In60 (n : Int) : Prop := 0 ≤ n ∧ n < 10 ^ 60
theorem In60.ok {n : Int} (h : In60 n) : n.natAbs < 2 ^ 1900 := str_okI h.1 (Int.lt_trans h.2 (by decide))
theorem In60.len {n : Int} (h : In60 n) : (strI n).length ≤ 61 := strI_len h.1 (Int.lt_trans h.2 (by decide))
theorem pairTxt_len {a b : Int} {y : Str} (ha : In60 a) (hb : In60 b) (hy : y.length = 1) : (pairTxt a b y).length ≤ 123 := by
  unfold pairTxt
  rw [len_app, len_app, hy]
  have := ha.len
  have := hb.len
  omega
inductive Two (a b : Int) : D → Prop
  | t : Two a b (.tup [.int a, .int b])
  | l : Two a b (.lst [.int a, .int b])
theorem Two.pure {a b : Int} {d : D} (h : Two a b d) : pureD d = true := by cases h <;> rfl
theorem Two.ix {a b : Int} {d : D} (h : Two a b d) (S : Store) : opIx d (.int 0) S = .ok (.int a) S ∧ opIx d (.int 1) S = .ok (.int b) S := by cases h <;> exact ⟨rfl, rfl⟩
theorem one_slash : ("/" : Str).length = 1 := by decide +kernel
theorem one_minus : ("-" : Str).length = 1 := by decide +kernel
theorem one_colon : (":" : Str).length = 1 := by decide +kernel
theorem one_blank : (" " : Str).length = 1 := by decide +kernel
theorem pair_textP {a b : Int} {d : D} {y : Str} (ha : In60 a) (hb : In60 b) (hy : y.length = 1) (h : Two a b d) (S : Store) : fPure f_p_pair_text [d, .str y] S = .ok (.str (pairTxt a b y)) S := by
  refine fPure_ap S (by simp [h.pure]) ?_
  have i0 := fun S => (h.ix S).1
  have i1 := fun S => (h.ix S).2
  have la := ha.len
  have lb := hb.len
  have f0 : ∀ S, fmtK (.int a) S = .ok (.str (strI a)) S := fun S => fmtK_int ha.ok
  have f1 : ∀ S, fmtK (.int b) S = .ok (.str (strI b)) S := fun S => fmtK_int hb.ok
  have f2 : ∀ S, fmtK (.str y) S = .ok (.str y) S := fun S => fmtK_str (by omega)
  have j0 := fun ms (ρ : Q.Env) S => jsK_str (ρ := ρ) (S := S) ms Str.empty (y := strI a) (by rw [empty_app]; omega)
  have j1 := fun ms (ρ : Q.Env) S => jsK_str (ρ := ρ) (S := S) ms (strI a) (y := y) (by rw [len_app]; omega)
  have j2 := fun ms (ρ : Q.Env) S => jsK_str (ρ := ρ) (S := S) ms (strI a ++ y) (y := strI b) (by rw [len_app, len_app]; omega)
  simp only [empty_app] at j0
  unfold f_p_pair_text m_p_pair_text pairTxt
  rw [fnM_2]
  simp [i0, i1, f0, f1, f2, j0, j1, j2]
theorem limit_textP {a b : Int} {d : D} (ha : In60 a) (hb : In60 b) (h : Two a b d) (S : Store) : fPure f_p_limit_text [d] S = .ok (.str (pairTxt a b "/")) S := by
  refine fPure_ap S (by simp [h.pure]) ?_
  have p := pair_textP ha hb one_slash h
  unfold f_p_limit_text m_p_limit_text
  rw [fnM_1]
  simp [p]
theorem look_textP {a b : Int} {d : D} (ha : In60 a) (hb : In60 b) (h : Two a b d) (S : Store) : fPure f_p_look_text [d] S = .ok (.str (pairTxt a b "-")) S := by
  refine fPure_ap S (by simp [h.pure]) ?_
  have p := pair_textP ha hb one_minus h
  unfold f_p_look_text m_p_look_text
  rw [fnM_1]
  simp [p]
theorem share_textP {a b : Int} (ha : In60 a) (hb : In60 b) (S : Store) : fPure f_p_share_text [shL a b] S = .ok (.str (pairTxt a b "/")) S := by
  refine fPure_ap S rfl ?_
  have p := pair_textP ha hb one_slash (Two.t (a := a) (b := b))
  have pa : ∀ S, fPure f_p_Share_parts [shL a b] S = .ok (.tup [.int a, .int b]) S := fun S => fPure_ap S rfl (by simp [f_p_Share_parts, fnM, m_p_Share_parts, shL])
  unfold f_p_share_text m_p_share_text
  rw [fnM_1]
  simp [p, pa]
inductive Seq (xs : List D) : D → Prop
  | t : Seq xs (.tup xs)
  | l : Seq xs (.lst xs)
def wordsTxt (ws : List Str) : Str := if ws = [] then "-" else Txt.join " " ws
theorem sum_le : ∀ (ws : List Str) (n : Nat), (∀ w ∈ ws, w.length ≤ n) → (ws.map (·.length)).sum ≤ n * ws.length
  | [], n, _ => by simp
  | w :: ws, n, h => by
    have h1 := h w (by simp)
    have h2 := sum_le ws n fun v hv => h v (by simp [hv])
    simp only [List.map_cons, List.sum_cons, List.length_cons, Nat.mul_succ]
    omega
theorem join_op {ws : List Str} (hn : ws.length ≤ 60) (h : ∀ w ∈ ws, w.length ≤ 1000) (S : Store) : joinT " " (.lst (ws.map D.str)) S = .ok (.str (Txt.join " " ws)) S := by
  refine joinT_ok rfl ?_
  have := sum_le ws 1000 h
  rw [one_blank]
  have : 1000 * ws.length ≤ 1000 * 60 := Nat.mul_le_mul_left _ hn
  omega
theorem words_textP {ws : List Str} (hn : ws.length ≤ 60) (h : ∀ w ∈ ws, w.length ≤ 1000) (S : Store) : fPure f_p_words_text [.lst (ws.map D.str)] S = .ok (.str (wordsTxt ws)) S := by
  refine fPure_ap S ?_ ?_
  · rw [pureL_cons]
    have : pureD (.lst (ws.map D.str)) = true := pureL_all.mpr fun d hd => by
      obtain ⟨w, _, rfl⟩ := List.mem_map.mp hd
      rfl
    rw [this]
    rfl
  have j := join_op hn h
  unfold f_p_words_text m_p_words_text wordsTxt
  rw [fnM_1]
  by_cases q : ws = []
  · simp [q]
  · have q2 : 0 < ws.length := List.length_pos_iff.mpr q
    simp [q, q2, j]
theorem row_textP {ns : List Int} {d : D} (hn : ns.length ≤ 60) (h : ∀ n ∈ ns, In60 n) (hd : Seq (ns.map D.int) d) (S : Store) : fPure f_p_row_text [d] S = .ok (.str (wordsTxt (ns.map strI))) S := by
  have pu : pureL (ns.map D.int) = true := pure_ints ns
  refine fPure_ap S (by cases hd <;> simp [pu]) ?_
  have lc : ∀ (ρ : Q.Env) (h : 1 < ρ.length) S, lcL (mgN 1) mYes (mCall fStrI (mCons (mVar 1) mNil)) ρ (ns.map D.int) S = .ok ((ns.map strI).map D.str) S := fun ρ h2 S => by
    rw [List.map_map]
    refine lcL_mapx _ S fun n hn => ⟨_, rfl, ?_⟩
    have e : (ρ.set 1 (some (.int n)))[1]? = some (some (.int n)) := List.getElem?_set_self h2
    have s := strI_int (S := S) (h n hn).ok
    simp [e, s]
  have hl : ns.length ≤ 100000 := by omega
  have w := fun S => words_textP (ws := ns.map strI) (by rw [List.length_map]; exact hn) (fun w hw => by
    obtain ⟨n, hn, rfl⟩ := List.mem_map.mp hw
    exact Nat.le_trans (h n hn).len (by decide)) S
  unfold f_p_row_text m_p_row_text
  rw [fnM_1]
  generalize (ns.map strI) = ws at *
  cases hd
  · simp [lc, hl, w]
  · simp [lc, hl, w]
def txtsOf (y : Str) (ps : List (Int × Int)) : List Str := ps.map fun p => pairTxt p.1 p.2 y
theorem txts_len {y : Str} (hy : y.length = 1) {ps : List (Int × Int)} (h : ∀ p ∈ ps, In60 p.1 ∧ In60 p.2) : ∀ w ∈ txtsOf y ps, w.length ≤ 1000 := fun w hw => by
  obtain ⟨p, hp, rfl⟩ := List.mem_map.mp hw
  exact Nat.le_trans (pairTxt_len (h p hp).1 (h p hp).2 hy) (by decide)
structure Pairs (g : Int × Int → D) (ps : List (Int × Int)) (d : D) : Prop where
  two : ∀ p, Two p.1 p.2 (g p)
  seq : Seq (ps.map g) d
theorem Pairs.pure {g : Int × Int → D} {ps : List (Int × Int)} {d : D} (h : Pairs g ps d) : pureD d = true := by
  have pu : pureL (ps.map g) = true := pureL_all.mpr fun d hd => by
    obtain ⟨p, _, rfl⟩ := List.mem_map.mp hd
    exact (h.two p).pure
  cases h.seq <;> simpa using pu
theorem looks_textP {g : Int × Int → D} {ps : List (Int × Int)} {d : D} (hn : ps.length ≤ 60) (h : ∀ p ∈ ps, In60 p.1 ∧ In60 p.2) (hd : Pairs g ps d) (S : Store) : fPure f_p_looks_text [d] S = .ok (.str (wordsTxt (txtsOf "-" ps))) S := by
  refine fPure_ap S (by simp [hd.pure]) ?_
  have lc : ∀ (ρ : Q.Env) (h : 1 < ρ.length) S, lcL (mgN 1) mYes (mCall (fPure f_p_look_text) (mCons (mVar 1) mNil)) ρ (ps.map g) S = .ok ((txtsOf "-" ps).map D.str) S := fun ρ h2 S => by
    unfold txtsOf
    rw [List.map_map]
    refine lcL_mapx _ S fun p hp => ⟨_, rfl, ?_⟩
    have e : (ρ.set 1 (some (g p)))[1]? = some (some (g p)) := List.getElem?_set_self h2
    have s := look_textP (h p hp).1 (h p hp).2 (hd.two p) S
    simp [e, s]
  have hl : ps.length ≤ 100000 := by omega
  have w := fun S => words_textP (ws := txtsOf "-" ps) (by unfold txtsOf; rw [List.length_map]; exact hn) (txts_len one_minus h) S
  have hs := hd.seq
  unfold f_p_looks_text m_p_looks_text
  rw [fnM_1]
  generalize (txtsOf "-" ps) = ws at *
  cases hs
  · simp [lc, hl, w]
  · simp [lc, hl, w]
theorem log_textP {g : Int × Int → D} {ps : List (Int × Int)} {d : D} (hn : ps.length ≤ 60) (h : ∀ p ∈ ps, In60 p.1 ∧ In60 p.2) (hd : Pairs g ps d) (S : Store) : fPure f_p_log_text [d] S = .ok (.str (Txt.join " " (txtsOf ":" ps))) S := by
  refine fPure_ap S (by simp [hd.pure]) ?_
  have lc : ∀ (ρ : Q.Env) (h : 1 < ρ.length) S, lcL (mgN 1) mYes (mCall (fPure f_p_pair_text) (mCons (mVar 1) (mCons (mC (.str ":")) mNil))) ρ (ps.map g) S = .ok ((txtsOf ":" ps).map D.str) S := fun ρ h2 S => by
    unfold txtsOf
    rw [List.map_map]
    refine lcL_mapx _ S fun p hp => ⟨_, rfl, ?_⟩
    have e : (ρ.set 1 (some (g p)))[1]? = some (some (g p)) := List.getElem?_set_self h2
    have s := pair_textP (h p hp).1 (h p hp).2 one_colon (hd.two p) S
    simp [e, s]
  have hl : ps.length ≤ 100000 := by omega
  have w := fun S => join_op (ws := txtsOf ":" ps) (by unfold txtsOf; rw [List.length_map]; exact hn) (txts_len one_colon h) S
  have hs := hd.seq
  unfold f_p_log_text m_p_log_text
  rw [fnM_1]
  generalize (txtsOf ":" ps) = ws at *
  cases hs
  · simp [lc, hl, w]
  · simp [lc, hl, w]
theorem numL_cp {n : Nat} : ∀ c ∈ TL.numL n, c < 58 := fun c hc => by
  have := TL.numL_digits n c hc
  omega
theorem strI_cp {n : Int} (h : 0 ≤ n) : ∀ c ∈ (strI n).cps.toList, c < 58 := by
  rw [strI_tl h]
  exact numL_cp
theorem strI_ne {n : Int} (h : 0 ≤ n) : (strI n).cps.toList ≠ [] := by
  rw [strI_tl h]
  exact TL.numL_ne _
structure One (y : Str) (c : Nat) : Prop where
  tl : y.cps.toList = [c]
  low : c < 48 ∨ 57 < c
  small : c < 256
  sgn : Sgn y
  len : y.length = 1
theorem o_slash : One "/" 47 := ⟨by decide +kernel, by decide, by decide, sg_slash, one_slash⟩
theorem o_minus : One "-" 45 := ⟨by decide +kernel, by decide, by decide, sg_minus, one_minus⟩
theorem o_colon : One ":" 58 := ⟨by decide +kernel, by decide, by decide, sg_colon, one_colon⟩
theorem o_blank : One " " 32 := ⟨by decide +kernel, by decide, by decide, sg_blank, one_blank⟩
theorem pairTxt_join (a b : Int) (y : Str) : pairTxt a b y = Txt.join y [strI a, strI b] := by
  rw [TL.join_eq]
  rfl
theorem split_pairTxt {a b : Int} {y : Str} {c : Nat} (ha : 0 ≤ a) (hb : 0 ≤ b) (h : One y c) : Txt.split (pairTxt a b y) y = [strI a, strI b] := by
  rw [pairTxt_join]
  refine TL.split_join (s := c) (S := []) h.tl h.sgn.small (by simp) fun p hp => ?_
  simp only [List.mem_cons, List.not_mem_nil, or_false] at hp
  rcases hp with rfl | rfl
  · exact strI_free ha h.low
  · exact strI_free hb h.low
theorem pairO_txt {a b : Int} {y : Str} {c : Nat} (ha : In60 a) (hb : In60 b) (h : One y c) : pairO (pairTxt a b y) y = some (a, b) := by
  unfold pairO numsO
  rw [split_pairTxt ha.1 hb.1 h, List.map_cons, List.map_cons, List.map_nil, numO_str ha.1 ha.2, numO_str hb.1 hb.2]
theorem pairTxt_tl (a b : Int) {y : Str} {c : Nat} (h : One y c) : (pairTxt a b y).cps.toList = (strI a).cps.toList ++ (c :: (strI b).cps.toList) := by
  have e := (TL.tl_append (strI a ++ y) (strI b)).trans (congrArg (· ++ TL.tl (strI b)) (TL.tl_append (strI a) y))
  have e2 : (pairTxt a b y).cps.toList = ((strI a).cps.toList ++ y.cps.toList) ++ (strI b).cps.toList := e
  rw [e2, h.tl, List.append_assoc]
  rfl
theorem pairTxt_mem {a b : Int} {y : Str} {c : Nat} (ha : 0 ≤ a) (hb : 0 ≤ b) (h : One y c) {x : Nat} (hx : x ∈ (pairTxt a b y).cps.toList) : (48 ≤ x ∧ x ≤ 57) ∨ x = c := by
  rw [pairTxt_tl a b h] at hx
  rcases List.mem_append.mp hx with q | q
  · rw [strI_tl ha] at q
    exact .inl (TL.numL_digits _ x q)
  · rcases List.mem_cons.mp q with q | q
    · exact .inr q
    · rw [strI_tl hb] at q
      exact .inl (TL.numL_digits _ x q)
theorem pairTxt_ok {a b : Int} {y : Str} {c : Nat} (ha : In60 a) (hb : In60 b) (h : One y c) : OkS (pairTxt a b y) := by
  refine ⟨Nat.le_trans (pairTxt_len ha hb h.len) (by decide), fun x hx => ?_⟩
  have := h.small
  rcases pairTxt_mem ha.1 hb.1 h hx with q | q <;> omega
theorem joinL_mem (Sp : List Nat) : ∀ (ws : List (List Nat)) (c : Nat), c ∈ TL.joinL Sp ws → c ∈ Sp ∨ ∃ w ∈ ws, c ∈ w
  | [], c, h => by simp [TL.joinL] at h
  | [p], c, h => .inr ⟨p, by simp, h⟩
  | p :: q :: r, c, h => by
    rcases List.mem_append.mp h with h | h
    · exact .inr ⟨p, by simp, h⟩
    · rcases List.mem_append.mp h with h | h
      · exact .inl h
      · rcases joinL_mem Sp (q :: r) c h with h | ⟨w, hw, hc⟩
        · exact .inl h
        · exact .inr ⟨w, by simp [hw], hc⟩
theorem joinL_len (Sp : List Nat) (n : Nat) : ∀ (ws : List (List Nat)), (∀ w ∈ ws, w.length ≤ n) → (TL.joinL Sp ws).length ≤ (n + Sp.length) * ws.length
  | [], _ => by simp [TL.joinL]
  | [p], h => by
    have := h p (by simp)
    show p.length ≤ (n + Sp.length) * 1
    omega
  | p :: q :: r, h => by
    have h1 := h p (by simp)
    have h2 := joinL_len Sp n (q :: r) fun w hw => h w (by simp [hw])
    show (p ++ (Sp ++ TL.joinL Sp (q :: r))).length ≤ _
    rw [List.length_append, List.length_append]
    have : (n + Sp.length) * (p :: q :: r).length = (n + Sp.length) * (q :: r).length + (n + Sp.length) := by
      rw [List.length_cons, Nat.mul_succ]
    omega
theorem join_tl (ws : List Str) : (Txt.join " " ws).cps.toList = TL.joinL [32] (ws.map TL.tl) := by
  have e := TL.tl_join " " ws
  rw [← TL.join_eq] at e
  have e2 : TL.tl (" " : Str) = [32] := o_blank.tl
  rw [e2] at e
  exact e
theorem join_ok {ws : List Str} (hn : ws.length ≤ 60) (h : ∀ w ∈ ws, w.length ≤ 1000 ∧ ∀ c ∈ w.cps.toList, c < 1114112) : OkS (Txt.join " " ws) := by
  constructor
  · rw [len_cps, join_tl]
    have := joinL_len [32] 1000 (ws.map TL.tl) fun w hw => by
      obtain ⟨v, hv, rfl⟩ := List.mem_map.mp hw
      have := (h v hv).1
      rw [len_cps] at this
      exact this
    rw [List.length_map] at this
    have z : (1000 + [32].length) * ws.length ≤ (1000 + [32].length) * 60 := Nat.mul_le_mul_left _ hn
    simp only [List.length_cons, List.length_nil] at z this
    omega
  · intro c hc
    rw [join_tl] at hc
    rcases joinL_mem _ _ _ hc with q | ⟨w, hw, q⟩
    · rw [List.mem_singleton.mp q]
      decide
    · obtain ⟨v, hv, rfl⟩ := List.mem_map.mp hw
      exact (h v hv).2 c q
theorem split_join {ws : List Str} (hne : ws ≠ []) (h : ∀ w ∈ ws, 32 ∉ w.cps.toList) : Txt.split (Txt.join " " ws) " " = ws :=
  TL.split_join (s := 32) (S := []) o_blank.tl sg_blank.small hne h
theorem join_ne {ws : List Str} (hne : ws ≠ []) (h : ∀ w ∈ ws, 32 ∉ w.cps.toList) (h2 : ∀ w ∈ ws, w ≠ "-") : Txt.join " " ws ≠ "-" := fun e => by
  have a := split_join hne h
  have b : Txt.split (Txt.join " " [("-" : Str)]) " " = [("-" : Str)] := split_join (by simp) fun w hw => by
    rw [List.mem_singleton.mp hw, o_minus.tl]
    decide
  have c : Txt.join " " [("-" : Str)] = "-" := by rw [TL.join_eq]; rfl
  rw [c] at b
  rw [e, b] at a
  exact h2 "-" (by rw [← a]; simp) rfl
theorem strI_nem {n : Int} (h : 0 ≤ n) : strI n ≠ "-" := fun e => by
  have a : (strI n).cps.toList = [45] := by rw [e]; exact o_minus.tl
  have := strI_cp h 45 (by rw [a]; simp)
  exact strI_free h (s := 45) (by decide) (by rw [a]; simp)
theorem pairTxt_nem {a b : Int} {y : Str} {c : Nat} (ha : 0 ≤ a) (hb : 0 ≤ b) (h : One y c) : pairTxt a b y ≠ "-" := fun e => by
  have q : (pairTxt a b y).cps.toList = [45] := by rw [e]; exact o_minus.tl
  rw [pairTxt_tl a b h] at q
  have q2 := congrArg List.length q
  simp only [List.length_append, List.length_cons, List.length_nil] at q2
  have n1 := List.length_pos_iff.mpr (strI_ne ha)
  omega
theorem row_back {ns : List Int} (h : ∀ n ∈ ns, In60 n) : rowR (wordsTxt (ns.map strI)) = .tup (ns.map D.int) := by
  unfold rowR wordsTxt
  by_cases q : ns.map strI = []
  · have : ns = [] := List.map_eq_nil_iff.mp q
    subst this
    simp
  · have fr : ∀ w ∈ ns.map strI, 32 ∉ w.cps.toList := fun w hw => by
      obtain ⟨n, hn, rfl⟩ := List.mem_map.mp hw
      exact strI_free (h n hn).1 (by decide)
    rw [if_neg q, if_neg (join_ne q fr fun w hw => by
      obtain ⟨n, hn, rfl⟩ := List.mem_map.mp hw
      exact strI_nem (h n hn).1)]
    unfold numsO
    rw [split_join q fr]
    have e : (ns.map strI).map numO = ns.map some := by
      rw [List.map_map]
      exact List.map_congr_left fun n hn => numO_str (h n hn).1 (h n hn).2
    rw [e]
    unfold rowD
    have z : (ns.map some).any Option.isNone = false := by simp
    rw [if_neg (by rw [z]; simp), List.map_map]
    rfl
theorem txts_free {y : Str} {c : Nat} (hy : One y c) (hc : c ≠ 32) {ps : List (Int × Int)} (h : ∀ p ∈ ps, In60 p.1 ∧ In60 p.2) : ∀ w ∈ txtsOf y ps, 32 ∉ w.cps.toList := fun w hw hm => by
  obtain ⟨p, hp, rfl⟩ := List.mem_map.mp hw
  rcases pairTxt_mem (h p hp).1.1 (h p hp).2.1 hy hm with q | q
  · omega
  · exact hc q.symm
theorem log_back {ps : List (Int × Int)} (hne : ps ≠ []) (h : ∀ p ∈ ps, In60 p.1 ∧ In60 p.2) : logR (Txt.join " " (txtsOf ":" ps)) = .tup (ps.map pT) := by
  unfold logR
  rw [split_join (ws := txtsOf ":" ps) (fun e => hne (List.map_eq_nil_iff.mp e)) (txts_free o_colon (by decide) h)]
  have e : ((txtsOf ":" ps).map fun w => pairO w ":") = ps.map some := by
    unfold txtsOf
    rw [List.map_map]
    exact List.map_congr_left fun p hp => pairO_txt (h p hp).1 (h p hp).2 o_colon
  rw [e]
  unfold rowD
  have z : (ps.map some).any Option.isNone = false := by simp
  rw [if_neg (by rw [z]; simp), List.map_map]
  rfl
theorem looks_back {ps : List (Int × Int)} (h : ∀ p ∈ ps, In60 p.1 ∧ In60 p.2) (hl : ∀ p ∈ ps, p.1 < p.2) : looksR (wordsTxt (txtsOf "-" ps)) = .tup (ps.map pT) := by
  unfold looksR wordsTxt
  by_cases q : txtsOf "-" ps = []
  · have : ps = [] := List.map_eq_nil_iff.mp q
    subst this
    simp [txtsOf]
  · have fr := txts_free o_minus (by decide) h
    rw [if_neg q, if_neg (join_ne q fr fun w hw => by
      obtain ⟨p, hp, rfl⟩ := List.mem_map.mp hw
      exact pairTxt_nem (h p hp).1.1 (h p hp).2.1 o_minus), split_join q fr]
    have e : (txtsOf "-" ps).map lookO = ps.map some := by
      unfold txtsOf
      rw [List.map_map]
      refine List.map_congr_left fun p hp => ?_
      show lookO (pairTxt p.1 p.2 "-") = some p
      unfold lookO
      rw [pairO_txt (h p hp).1 (h p hp).2 o_minus]
      simp [keepO, hl p hp]
    rw [e]
    unfold rowD
    have z : (ps.map some).any Option.isNone = false := by simp
    rw [if_neg (by rw [z]; simp), List.map_map]
    rfl
theorem limit_back {a b : Int} (ha : In60 a) (hb : In60 b) (h0 : 0 < a) (h1 : a < b) : limitO (pairTxt a b "/") = some (a, b) := by
  unfold limitO
  rw [pairO_txt ha hb o_slash]
  simp [keepO, h0, h1]
theorem look_back {a b : Int} (ha : In60 a) (hb : In60 b) (h1 : a < b) : lookO (pairTxt a b "-") = some (a, b) := by
  unfold lookO
  rw [pairO_txt ha hb o_minus]
  simp [keepO, h1]
theorem share_back {a b : Int} (ha : In60 a) (hb : In60 b) (h0 : a ≤ b) (h1 : 0 < b) (hg : Int.gcd a b = 1) : shareO (pairTxt a b "/") = some (a, b) := by
  unfold shareO
  rw [pairO_txt ha hb o_slash]
  simp [keepO, h0, h1, hg]
def lsD : Nat → D → D
  | n + 1, .tup xs => .lst (xs.map (lsD n))
  | n + 1, .lst xs => .lst (xs.map (lsD n))
  | _, d => d
theorem lists_ok : ∀ (k n : Nat) (d : D) (S : Store), okD n d = true → n < k → f_l_lists k [d] S = .ok (lsD n d) S
  | 0, n, d, S, _, hk => absurd hk (by omega)
  | k + 1, n, d, S, h, hk => by
    have seq : ∀ (m : Nat) (xs : List D), (∀ x ∈ xs, okD m x = true) → m < k → ∀ ρ : Q.Env, 1 < ρ.length → ∀ S, lcL (mgN 1) mYes (mCall (fPure (f_l_lists k)) (mCons (mVar 1) mNil)) ρ xs S = .ok (xs.map (lsD m)) S := fun m xs hx hm ρ hρ S => by
      refine lcL_map (f := lsD m) xs S fun x hxm => ⟨_, rfl, ?_⟩
      have p := okD_pure _ _ (hx x hxm)
      have e : (ρ.set 1 (some x))[1]? = some (some x) := List.getElem?_set_self hρ
      simp only [ap_call, ap_cons, ap_var, e, varK_some, bind_ok, consK_ap, ap_nil, consK2_ap]
      exact fPure_ap S (by simp [p]) (lists_ok k m x [] (hx x hxm) hm)
    cases d with
    | non => simp [f_l_lists, fnM, m_l_lists, isTy]; cases n <;> rfl
    | bl b => simp [f_l_lists, fnM, m_l_lists, isTy]; cases n <;> rfl
    | int b => simp [f_l_lists, fnM, m_l_lists, isTy]; cases n <;> rfl
    | str b => simp [f_l_lists, fnM, m_l_lists, isTy]; cases n <;> rfl
    | tup xs =>
      cases n with
      | zero => simp [okD] at h
      | succ n =>
        rw [okD_tup, Bool.and_eq_true, decide_eq_true_eq] at h
        have hs := fun ρ hρ S => seq n xs (fun x hx => List.all_eq_true.mp h.2 x hx) (by omega) ρ hρ S
        simp [f_l_lists, fnM, m_l_lists, isTy, h.1, hs, lsD]
    | lst xs =>
      cases n with
      | zero => simp [okD] at h
      | succ n =>
        rw [okD_lst, Bool.and_eq_true, decide_eq_true_eq] at h
        have hs := fun ρ hρ S => seq n xs (fun x hx => List.all_eq_true.mp h.2 x hx) (by omega) ρ hρ S
        simp [f_l_lists, fnM, m_l_lists, isTy, h.1, hs, lsD]
    | fro xs => cases n <;> simp [okD] at h
    | obj c xs => cases n <;> simp [okD] at h
    | exn c xs => cases n <;> simp [okD] at h
    | ref j => cases n <;> simp [okD] at h
theorem listsP {d : D} {n : Nat} (S : Store) (h : okD n d = true) (hn : n < 30) : fPure (f_l_lists 30) [d] S = .ok (lsD n d) S := fPure_ap S (by simp [okD_pure n d h]) (lists_ok 30 n d [] h hn)
structure Drawn (s : Str) (mat : D) (str : Str) : Prop where
  ok : OkS str
  pm : okD 19 mat = true
  wr : ∀ S, fPure f_l_written [.str s, mat] S = .ok (.str str) S
  wl : ∃ ml, pureD ml = true ∧ (∀ S, fPure (f_l_lists 30) [mat] S = .ok ml S) ∧ ∀ S, fPure f_l_written [.str s, ml] S = .ok (.str str) S
  rd : badD (ansD s str) = mat
theorem pT_lists (p : Int × Int) (S : Store) : fPure (f_l_lists 30) [pT p] S = .ok (.lst [.int p.1, .int p.2]) S := listsP (n := 2) S rfl (by decide)
section
variable {a b : Int} (ha : In60 a) (hb : In60 b)
include ha hb
theorem wr_limit {d : D} (h : Two a b d) (S : Store) : fPure f_l_written [.str "limit", d] S = .ok (.str (pairTxt a b "/")) S := by
  refine fPure_ap S (by simp [h.pure]) ?_
  have w := limit_textP ha hb h
  unfold f_l_written m_l_written
  rw [fnM_2]
  simp [w]
theorem wr_look {d : D} (h : Two a b d) (S : Store) : fPure f_l_written [.str "look", d] S = .ok (.str (pairTxt a b "-")) S := by
  refine fPure_ap S (by simp [h.pure]) ?_
  have w := look_textP ha hb h
  unfold f_l_written m_l_written
  rw [fnM_2]
  simp [w]
theorem wr_share {d : D} (h : Two a b d) (h1 : 0 < b) (hg : Int.gcd a b = 1) (S : Store) : fPure f_l_written [.str "share", d] S = .ok (.str (pairTxt a b "/")) S := by
  refine fPure_ap S (by simp [h.pure]) ?_
  have w := share_textP ha hb
  have i0 := fun S => (h.ix S).1
  have i1 := fun S => (h.ix S).2
  have h3 : b * 3 ≤ 10 ^ 70 := by have := hb.2; omega
  have mk := fun S => init_mk (S := S) (a := a * 3) (b := b * 3) (by have := ha.1; omega) (by omega) (bigN h3)
  have e : shD (a * 3) (b * 3) = shL a b := by
    have g : Int.gcd (a * 3) (b * 3) = 3 := by rw [Int.gcd_mul_right, hg]; rfl
    unfold shD shL
    rw [g]
    congr 3
    · congr 1
      omega
    · congr 2
      omega
  rw [e] at mk
  have m1 : mulOk a 3 = true := mulOk_r (by decide)
  have m2 : mulOk b 3 = true := mulOk_r (by decide)
  unfold f_l_written m_l_written
  rw [fnM_2]
  simp [w, i0, i1, mk, m1, m2]
theorem drawn_limit (h0 : 0 < a) (h1 : a < b) : Drawn "limit" (pT (a, b)) (pairTxt a b "/") :=
  ⟨pairTxt_ok ha hb o_slash, rfl, wr_limit ha hb .t, ⟨_, rfl, pT_lists (a, b), wr_limit ha hb .l⟩, by
    have : ansD "limit" (pairTxt a b "/") = pD (limitO (pairTxt a b "/")) := by simp [ansD]
    rw [this, limit_back ha hb h0 h1]
    rfl⟩
theorem drawn_look (h1 : a < b) : Drawn "look" (pT (a, b)) (pairTxt a b "-") :=
  ⟨pairTxt_ok ha hb o_minus, rfl, wr_look ha hb .t, ⟨_, rfl, pT_lists (a, b), wr_look ha hb .l⟩, by
    have : ansD "look" (pairTxt a b "-") = pD (lookO (pairTxt a b "-")) := by simp [ansD]
    rw [this, look_back ha hb h1]
    rfl⟩
theorem drawn_share (h0 : a ≤ b) (h1 : 0 < b) (hg : Int.gcd a b = 1) : Drawn "share" (pT (a, b)) (pairTxt a b "/") :=
  ⟨pairTxt_ok ha hb o_slash, rfl, wr_share ha hb .t h1 hg, ⟨_, rfl, pT_lists (a, b), wr_share ha hb .l h1 hg⟩, by
    have : ansD "share" (pairTxt a b "/") = pD (shareO (pairTxt a b "/")) := by simp [ansD]
    rw [this, share_back ha hb h0 h1 hg]
    rfl⟩
end
theorem words_ok {ws : List Str} (hn : ws.length ≤ 60) (h : ∀ w ∈ ws, w.length ≤ 1000 ∧ ∀ c ∈ w.cps.toList, c < 1114112) : OkS (wordsTxt ws) := by
  unfold wordsTxt
  split
  · refine ⟨by rw [one_minus]; decide, fun c hc => ?_⟩
    rw [o_minus.tl] at hc
    rw [List.mem_singleton.mp hc]
    decide
  · exact join_ok hn h
theorem drawn_row {ns : List Int} (hn : ns.length ≤ 60) (h : ∀ n ∈ ns, In60 n) : Drawn "row" (.tup (ns.map D.int)) (wordsTxt (ns.map strI)) := by
  have w : ∀ d, Seq (ns.map D.int) d → ∀ S, fPure f_l_written [.str "row", d] S = .ok (.str (wordsTxt (ns.map strI))) S := fun d hd S => by
    have pu : pureL (ns.map D.int) = true := pure_ints ns
    refine fPure_ap S (by cases hd <;> simp [pu]) ?_
    have w := row_textP hn h hd
    unfold f_l_written m_l_written
    rw [fnM_2]
    simp [w]
  have o2 : okD 2 (.tup (ns.map D.int)) = true := by
    rw [okD_tup, List.length_map, decide_eq_true (by omega), Bool.true_and]
    exact List.all_eq_true.mpr fun d hd => by
      obtain ⟨n, _, rfl⟩ := List.mem_map.mp hd
      rfl
  have o20 : okD 19 (.tup (ns.map D.int)) = true := by
    rw [okD_tup, List.length_map, decide_eq_true (by omega), Bool.true_and]
    exact List.all_eq_true.mpr fun d hd => by
      obtain ⟨n, _, rfl⟩ := List.mem_map.mp hd
      rfl
  have e : lsD 2 (.tup (ns.map D.int)) = .lst (ns.map D.int) := by
    unfold lsD
    rw [List.map_map]
    rfl
  refine ⟨words_ok (by rw [List.length_map]; exact hn) fun w hw => ?_, o20, w _ .t, ⟨_, ?_, fun S => ?_, w _ .l⟩, ?_⟩
  · obtain ⟨n, hn, rfl⟩ := List.mem_map.mp hw
    exact ⟨Nat.le_trans (h n hn).len (by decide), fun c hc => by have := strI_cp (h n hn).1 c hc; omega⟩
  · exact pure_ints ns
  · rw [← e]
    exact listsP S o2 (by decide)
  · have : ansD "row" (wordsTxt (ns.map strI)) = rowR (wordsTxt (ns.map strI)) := by simp [ansD]
    rw [this, row_back h]
    rfl
def pL (p : Int × Int) : D := .lst [.int p.1, .int p.2]
theorem pairs_t (ps : List (Int × Int)) : Pairs pT ps (.tup (ps.map pT)) := ⟨fun p => .t, .t⟩
theorem pairs_l (ps : List (Int × Int)) : Pairs pL ps (.lst (ps.map pL)) := ⟨fun p => .l, .l⟩
theorem okD_ps {ps : List (Int × Int)} (hn : ps.length ≤ 60) (n : Nat) : okD (n + 2) (.tup (ps.map pT)) = true := by
  rw [okD_tup, List.length_map, decide_eq_true (by omega), Bool.true_and]
  exact List.all_eq_true.mpr fun d hd => by
    obtain ⟨p, _, rfl⟩ := List.mem_map.mp hd
    simp [pT]
theorem ls_ps (ps : List (Int × Int)) : lsD 2 (.tup (ps.map pT)) = .lst (ps.map pL) := by
  unfold lsD
  rw [List.map_map]
  rfl
theorem txts_ok {y : Str} {c : Nat} (hy : One y c) {ps : List (Int × Int)} (h : ∀ p ∈ ps, In60 p.1 ∧ In60 p.2) : ∀ w ∈ txtsOf y ps, w.length ≤ 1000 ∧ ∀ c ∈ w.cps.toList, c < 1114112 := fun w hw => by
  refine ⟨txts_len hy.len h w hw, ?_⟩
  obtain ⟨p, hp, rfl⟩ := List.mem_map.mp hw
  exact (pairTxt_ok (h p hp).1 (h p hp).2 hy).cp
theorem drawn_log {ps : List (Int × Int)} (hn : ps.length ≤ 60) (hne : ps ≠ []) (h : ∀ p ∈ ps, In60 p.1 ∧ In60 p.2) : Drawn "log" (.tup (ps.map pT)) (Txt.join " " (txtsOf ":" ps)) := by
  have w : ∀ {g d}, Pairs g ps d → ∀ S, fPure f_l_written [.str "log", d] S = .ok (.str (Txt.join " " (txtsOf ":" ps))) S := fun hd S => by
    refine fPure_ap S (by simp [hd.pure]) ?_
    have w := log_textP hn h hd
    unfold f_l_written m_l_written
    rw [fnM_2]
    simp [w]
  refine ⟨join_ok (by unfold txtsOf; rw [List.length_map]; exact hn) (txts_ok o_colon h), okD_ps hn 17, w (pairs_t ps), ⟨_, (pairs_l ps).pure, fun S => ?_, w (pairs_l ps)⟩, ?_⟩
  · rw [← ls_ps]
    exact listsP S (okD_ps hn 0) (by decide)
  · have : ansD "log" (Txt.join " " (txtsOf ":" ps)) = logR (Txt.join " " (txtsOf ":" ps)) := by simp [ansD]
    rw [this, log_back hne h]
    rfl
theorem drawn_looks {ps : List (Int × Int)} (hn : ps.length ≤ 60) (h : ∀ p ∈ ps, In60 p.1 ∧ In60 p.2) (hl : ∀ p ∈ ps, p.1 < p.2) : Drawn "looks" (.tup (ps.map pT)) (wordsTxt (txtsOf "-" ps)) := by
  have w : ∀ {g d}, Pairs g ps d → ∀ S, fPure f_l_written [.str "looks", d] S = .ok (.str (wordsTxt (txtsOf "-" ps))) S := fun hd S => by
    refine fPure_ap S (by simp [hd.pure]) ?_
    have w := looks_textP hn h hd
    unfold f_l_written m_l_written
    rw [fnM_2]
    simp [w]
  refine ⟨words_ok (by unfold txtsOf; rw [List.length_map]; exact hn) (txts_ok o_minus h), okD_ps hn 17, w (pairs_t ps), ⟨_, (pairs_l ps).pure, fun S => ?_, w (pairs_l ps)⟩, ?_⟩
  · rw [← ls_ps]
    exact listsP S (okD_ps hn 0) (by decide)
  · have : ansD "looks" (wordsTxt (txtsOf "-" ps)) = looksR (wordsTxt (txtsOf "-" ps)) := by simp [ansD]
    rw [this, looks_back h hl]
    rfl
theorem number_s {S0 S : Store} {k N : Nat} (h : BoxS S0 k N S) (hN : N + 3 < 2 ^ 40) : (f_l_number [.ref k] S).Sat fun d S' => (∃ n, d = .int n ∧ In60 n) ∧ BoxS S0 k (N + 3) S' := by
  unfold f_l_number m_l_number
  rw [fnM_1]
  simp
  refine sat_step (take_s (n := 6) h (by omega) (by decide) (by decide)) ?_
  rintro _ S1 ⟨r1, rfl, a1, b1, h1⟩
  have p1 : powOk 10 60 = true := by decide
  have p2 : powOk 10 9 = true := by decide
  have p3 : powOk 10 18 = true := by decide
  have p4 : powOk 10 59 = true := by decide
  by_cases e0 : r1 < 3
  · simp [e0]
    refine sat_step (of_s h1 (by omega) (by simp) (by simp)) ?_
    rintro d S2 ⟨hd, h2⟩
    simp [fin_len (h2.len.trans h.len.symm)]
    simp only [List.mem_cons, List.not_mem_nil, or_false] at hd
    refine ⟨?_, h2.mono (by omega)⟩
    rcases hd with rfl | rfl | rfl | rfl | rfl | rfl | rfl | rfl <;> exact ⟨_, rfl, by decide, by decide⟩
  · by_cases e1 : r1 = 3
    · simp [e1, p1]
      refine sat_step (take_s (n := 1000) h1 (by omega) (by decide) (by decide)) ?_
      rintro _ S2 ⟨r2, rfl, a2, b2, h2⟩
      simp [fin_len (h2.len.trans h.len.symm)]
      exact ⟨⟨by omega, by omega⟩, h2.mono (by omega)⟩
    · simp [e0, e1, p2, p3, p4]
      refine sat_step (of_s h1 (by omega) (by simp) (by simp)) ?_
      rintro d S2 ⟨hd, h2⟩
      simp only [List.mem_cons, List.not_mem_nil, or_false] at hd
      obtain ⟨m, rfl, m0, m1⟩ : ∃ m : Int, d = .int m ∧ 0 < m ∧ m < 10 ^ 60 := by
        rcases hd with rfl | rfl | rfl | rfl <;> exact ⟨_, rfl, by decide, by decide⟩
      simp
      refine sat_step (take_s (n := m) h2 (by omega) m0 (Int.lt_trans m1 (by decide))) ?_
      rintro _ S3 ⟨r3, rfl, a3, b3, h3⟩
      simp [fin_len (h3.len.trans h.len.symm)]
      exact ⟨⟨a3, by omega⟩, h3⟩
@[simp] theorem min2_ap (i j : Int) (S : Store) : fMin2 [.int i, .int j] S = .ok (.int (if j < i then j else i)) S := rfl
@[simp] theorem max2_ap (i j : Int) (S : Store) : fMax2 [.int i, .int j] S = .ok (.int (if j > i then j else i)) S := rfl
theorem add_strD {x y : Str} (h : x.length + y.length ≤ 100000) (S : Store) : opAdd (.str x) (.str y) S = .ok (.str (x ++ y)) S := if_pos h
def IsDr (s : Str) (d : D) : Prop := ∃ mat str, d = .tup [mat, .str str] ∧ Drawn s mat str
theorem str_pair {a b : Int} {y : Str} (ha : In60 a) (hb : In60 b) (hy : y.length = 1) :
    (∀ S, fStrI [.int a] S = .ok (.str (strI a)) S) ∧ (∀ S, fStrI [.int b] S = .ok (.str (strI b)) S) ∧ (∀ S, opAdd (.str (strI a)) (.str y) S = .ok (.str (strI a ++ y)) S) ∧
      ∀ S, opAdd (.str (strI a ++ y)) (.str (strI b)) S = .ok (.str (pairTxt a b y)) S := by
  have la := ha.len
  have lb := hb.len
  refine ⟨fun S => strI_int ha.ok, fun S => strI_int hb.ok, fun S => add_strD (by omega) S, fun S => ?_⟩
  have := add_strD (x := strI a ++ y) (y := strI b) (by rw [len_app]; omega) S
  exact this
theorem in60_of {n : Int} (h0 : 0 ≤ n) (h1 : n < 10 ^ 60) : In60 n := ⟨h0, h1⟩
theorem max_two {a b : Int} (h : a < b) (S : Store) : fMaxT [.tup [.int a, .int b]] S = .ok (.int b) S := by
  have := maxT_ints (S := S) (x := a) (ns := [b])
  have e : maxI [a, b] = b := by
    show (if maxI [b] > a then maxI [b] else a) = b
    exact if_pos h
  rw [e] at this
  exact this
theorem drawn_limit_s {S0 S : Store} {k N : Nat} (h : BoxS S0 k N S) (hN : N + 200 < 2 ^ 40) : (f_l_drawn [.ref k, .str "limit"] S).Sat fun d S' => IsDr "limit" d ∧ BoxS S0 k (N + 200) S' := by
  unfold f_l_drawn m_l_drawn
  rw [fnM_2]
  simp
  refine sat_step (number_s h (by omega)) ?_
  rintro _ S1 ⟨⟨n1, rfl, x0, x1⟩, h1⟩
  simp
  refine sat_step (number_s h1 (by omega)) ?_
  rintro _ S2 ⟨⟨n2, rfl, y0, y1⟩, h2⟩
  simp
  refine sat_step (limit_s h2 (by omega)) ?_
  rintro _ S3 ⟨⟨p, q, rfl, p0, p1, p2⟩, h3⟩
  simp
  refine sat_step (of_s h3 (by omega) (by simp) (by simp)) ?_
  rintro d S4 ⟨hd, h4⟩
  have pw : powOk 10 60 = true := by decide
  obtain ⟨a, b, rfl, a0, ab⟩ : ∃ a b : Int, d = .tup [.int a, .int b] ∧ 0 < a ∧ a < b := by
    simp only [List.mem_cons, List.not_mem_nil, or_false] at hd
    rcases hd with rfl | rfl
    · exact ⟨_, _, rfl, p0, p1⟩
    · exact ⟨_, _, rfl, by omega, by omega⟩
  have mx := max_two ab
  by_cases hb : b < 1000000000000000000000000000000000000000000000000000000000000
  · obtain ⟨s1, s2, s3, s4⟩ := str_pair (a := a) (b := b) (in60_of (by omega) (by omega)) (in60_of (by omega) hb) one_slash
    simp [mx, pw, hb, s1, s2, s3, s4, fin_len (h4.len.trans h.len.symm)]
    exact ⟨⟨_, _, rfl, drawn_limit (in60_of (by omega) (by omega)) (in60_of (by omega) hb) a0 ab⟩, h4.mono (by omega)⟩
  · obtain ⟨s1, s2, s3, s4⟩ := str_pair (a := 1) (b := 2) (in60_of (by decide) (by decide)) (in60_of (by decide) (by decide)) one_slash
    simp [mx, pw, hb, s1, s2, s3, s4, fin_len (h4.len.trans h.len.symm)]
    exact ⟨⟨_, _, rfl, drawn_limit (in60_of (by decide) (by decide)) (in60_of (by decide) (by decide)) (by decide) (by decide)⟩, h4.mono (by omega)⟩
theorem drawn_share_s {S0 S : Store} {k N : Nat} (h : BoxS S0 k N S) (hN : N + 200 < 2 ^ 40) : (f_l_drawn [.ref k, .str "share"] S).Sat fun d S' => IsDr "share" d ∧ BoxS S0 k (N + 200) S' := by
  unfold f_l_drawn m_l_drawn
  rw [fnM_2]
  simp
  refine sat_step (number_s h (by omega)) ?_
  rintro _ S1 ⟨⟨n1, rfl, x0, x1⟩, h1⟩
  simp
  refine sat_step (number_s h1 (by omega)) ?_
  rintro _ S2 ⟨⟨n2, rfl, y0, y1⟩, h2⟩
  simp
  obtain ⟨lo, elo, lo0, lo1⟩ : ∃ lo : Int, (if n2 < n1 then n2 else n1) = lo ∧ 0 ≤ lo ∧ lo ≤ max3I n1 n2 1 := by
    refine ⟨_, rfl, ?_, ?_⟩
    · split <;> omega
    · unfold max3I
      (repeat' split) <;> omega
  obtain ⟨hi, ehi, hi0, hi1⟩ : ∃ hi : Int, max3I n1 n2 1 = hi ∧ 0 < hi ∧ hi < 10 ^ 60 := by
    refine ⟨_, rfl, ?_, ?_⟩
    · unfold max3I
      (repeat' split) <;> omega
    · unfold max3I
      (repeat' split) <;> omega
  rw [ehi] at lo1
  rw [elo, ehi]
  have cm := lcommonP (a := hi) (b := lo) (by omega) lo0
  rw [Int.gcd_comm] at cm
  have g0 := gcd_pos (a := lo) (.inr (show hi ≠ 0 by omega))
  have g1 := gcd_le_r (a := lo) hi0
  have L := low_of lo0 lo1 hi0 (bigN (Int.le_trans (Int.le_of_lt hi1) (by decide)))
  have hd : ∀ x, divOk x (Int.gcd lo hi) = true := fun x => divOk_of g0 (big_lt (bigN (by omega)))
  have c1 : hi / (Int.gcd lo hi : Int) ≤ hi := Int.ediv_le_self _ (by omega)
  generalize ((Int.gcd lo hi : Nat) : Int) = g at *
  have ia : In60 (lo / g) := in60_of L.f0 (by have := L.le; omega)
  have ib : In60 (hi / g) := in60_of (by have := L.c0; omega) (by omega)
  obtain ⟨s1, s2, s3, s4⟩ := str_pair ia ib one_slash
  simp [cm, hd, s1, s2, s3, s4, fin_len (h2.len.trans h.len.symm)]
  exact ⟨⟨_, _, rfl, drawn_share ia ib L.le L.c0 L.g1⟩, h2.mono (by omega)⟩
theorem drawn_look_s {S0 S : Store} {k N : Nat} (h : BoxS S0 k N S) (hN : N + 200 < 2 ^ 40) : (f_l_drawn [.ref k, .str "look"] S).Sat fun d S' => IsDr "look" d ∧ BoxS S0 k (N + 200) S' := by
  unfold f_l_drawn m_l_drawn
  rw [fnM_2]
  simp
  refine sat_step (number_s h (by omega)) ?_
  rintro _ S1 ⟨⟨n1, rfl, x0, x1⟩, h1⟩
  simp
  refine sat_step (number_s h1 (by omega)) ?_
  rintro _ S2 ⟨⟨n2, rfl, y0, y1⟩, h2⟩
  simp
  have pw : powOk 10 60 = true := by decide
  have fin : ∀ {a b : Int}, In60 a → In60 b → a < b → IsDr "look" (.tup [.tup [.int a, .int b], .str (pairTxt a b "-")]) := fun ha hb h => ⟨_, _, rfl, drawn_look ha hb h⟩
  have sp : ∀ {a b : Int}, In60 a → In60 b → _ := fun ha hb => str_pair ha hb one_minus
  by_cases e : n1 = n2
  · subst e
    by_cases e2 : n1 + 1 < 1000000000000000000000000000000000000000000000000000000000000
    · have e3 : ¬ n1 + 1 < n1 := by omega
      have e5 : n1 < n1 + 1 := by omega
      obtain ⟨s1, s2, s3, s4⟩ := sp (a := n1) (b := n1 + 1) (in60_of x0 x1) (in60_of (by omega) (by omega))
      simp [pw, e2, e3, e5, s1, s2, s3, s4, fin_len (h2.len.trans h.len.symm)]
      exact ⟨fin (in60_of x0 x1) (in60_of (by omega) (by omega)) (by omega), h2.mono (by omega)⟩
    · have e3 : n1 - 1 < n1 := by omega
      have e4 : ¬ n1 < n1 - 1 := by omega
      obtain ⟨s1, s2, s3, s4⟩ := sp (a := n1 - 1) (b := n1) (in60_of (by omega) (by omega)) (in60_of x0 x1)
      simp [pw, e2, e3, e4, s1, s2, s3, s4, fin_len (h2.len.trans h.len.symm)]
      exact ⟨fin (in60_of (by omega) (by omega)) (in60_of x0 x1) (by omega), h2.mono (by omega)⟩
  · by_cases e1 : n1 < n2
    · have e2 : ¬ n2 < n1 := by omega
      have e3 : ¬ n1 = n2 := e
      have e4 : n2 < 1000000000000000000000000000000000000000000000000000000000000 := by omega
      obtain ⟨s1, s2, s3, s4⟩ := sp (a := n1) (b := n2) (in60_of x0 x1) (in60_of y0 y1)
      simp [pw, e1, e2, e3, e4, s1, s2, s3, s4, fin_len (h2.len.trans h.len.symm)]
      exact ⟨fin (in60_of x0 x1) (in60_of y0 y1) e1, h2.mono (by omega)⟩
    · have e2 : n2 < n1 := by omega
      have e3 : ¬ n2 = n1 := fun q => e q.symm
      have e4 : n1 < 1000000000000000000000000000000000000000000000000000000000000 := by omega
      obtain ⟨s1, s2, s3, s4⟩ := sp (a := n2) (b := n1) (in60_of y0 y1) (in60_of x0 x1)
      simp [pw, e1, e2, e3, e4, s1, s2, s3, s4, fin_len (h2.len.trans h.len.symm)]
      exact ⟨fin (in60_of y0 y1) (in60_of x0 x1) e2, h2.mono (by omega)⟩
theorem lcL_draw {g : MG} {m : ME} {ρ : Q.Env} {S0 : Store} {k c T : Nat} {P : D → Prop} : ∀ (ds : List D) (N : Nat) (S : Store), BoxS S0 k N S → N + c * ds.length ≤ T →
    (∀ d ∈ ds, ∀ M S, BoxS S0 k M S → M + c ≤ T → ∃ ρ1, g d ρ S = .ok ρ1 S ∧ (m ρ1 S).Sat fun v S' => P v ∧ BoxS S0 k (M + c) S') →
    (lcL g mYes m ρ ds S).Sat fun vs S' => vs.length = ds.length ∧ (∀ v ∈ vs, P v) ∧ BoxS S0 k (N + c * ds.length) S'
  | [], N, S, h, _, _ => ⟨rfl, fun v hv => absurd hv (by simp), by simpa using h⟩
  | d :: ds, N, S, h, hT, turn => by
    rw [List.length_cons, Nat.mul_succ] at hT ⊢
    obtain ⟨ρ1, h1, h2⟩ := turn d (by simp) N S h (by omega)
    unfold lcL
    rw [h1]
    simp only [bind_ok, ap_yes]
    refine sat_step h2 fun v S1 ⟨hv, hS1⟩ => ?_
    refine sat_step (lcL_draw ds (N + c) S1 hS1 (by omega) fun e he => turn e (by simp [he])) fun vs S2 ⟨l, hvs, hS2⟩ => ?_
    refine ⟨by simp [l], fun w hw => ?_, hS2.mono (by omega)⟩
    rcases List.mem_cons.mp hw with rfl | hw
    · exact hv
    · exact hvs w hw
theorem many_s {S0 S : Store} {k N : Nat} (h : BoxS S0 k N S) (hN : N + 2 < 2 ^ 40) {d : D} (hd : d ∈ [D.int 3, D.int 8, D.int 30]) :
    (f_l_take [.ref k, d] S).Sat fun d S' => ∃ r : Nat, d = .int r ∧ r < 30 ∧ BoxS S0 k (N + 1) S' := by
  simp only [List.mem_cons, List.not_mem_nil, or_false] at hd
  obtain ⟨m, rfl, m0, m1⟩ : ∃ m : Int, d = .int m ∧ 0 < m ∧ m ≤ 30 := by
    rcases hd with rfl | rfl | rfl <;> exact ⟨_, rfl, by decide, by decide⟩
  refine (take_s (n := m) h (by omega) m0 (Int.lt_of_le_of_lt m1 (by decide))).mono ?_
  rintro _ S3 ⟨r3, rfl, a3, b3, h3⟩
  exact ⟨r3.toNat, by congr 1; omega, by omega, h3⟩
theorem ints_of : ∀ {vs : List D}, (∀ v ∈ vs, ∃ n, v = .int n ∧ In60 n) → ∃ ns : List Int, vs = ns.map D.int ∧ ∀ n ∈ ns, In60 n
  | [], _ => ⟨[], rfl, by simp⟩
  | v :: vs, h => by
    obtain ⟨n, rfl, hn⟩ := h v (by simp)
    obtain ⟨ns, rfl, hs⟩ := ints_of (vs := vs) fun w hw => h w (by simp [hw])
    exact ⟨n :: ns, rfl, fun m hm => by rcases List.mem_cons.mp hm with rfl | hm; exact hn; exact hs m hm⟩
theorem pairs_of {Pp : Int × Int → Prop} : ∀ {vs : List D}, (∀ v ∈ vs, ∃ p, v = pT p ∧ Pp p) → ∃ ps : List (Int × Int), vs = ps.map pT ∧ ∀ p ∈ ps, Pp p
  | [], _ => ⟨[], rfl, by simp⟩
  | v :: vs, h => by
    obtain ⟨n, rfl, hn⟩ := h v (by simp)
    obtain ⟨ns, rfl, hs⟩ := pairs_of (Pp := Pp) (vs := vs) fun w hw => h w (by simp [hw])
    exact ⟨n :: ns, rfl, fun m hm => by rcases List.mem_cons.mp hm with rfl | hm; exact hn; exact hs m hm⟩
theorem lc_str {ρ : Q.Env} (h2 : 11 < ρ.length) {ns : List Int} (h : ∀ n ∈ ns, In60 n) (S : Store) :
    lcL (mgN 11) mYes (mCall fStrI (mCons (mVar 11) mNil)) ρ (ns.map D.int) S = .ok ((ns.map strI).map D.str) S := by
  rw [List.map_map]
  refine lcL_mapx _ S fun n hn => ⟨_, rfl, ?_⟩
  have e : (ρ.set 11 (some (.int n)))[11]? = some (some (.int n)) := List.getElem?_set_self h2
  have s := strI_int (S := S) (h n hn).ok
  simp [e, s]
theorem lc_pairstr {ρ : Q.Env} (h2 : 11 < ρ.length) {y : Str} (hy : y.length = 1) {ps : List (Int × Int)} (h : ∀ p ∈ ps, In60 p.1 ∧ In60 p.2) (S : Store) :
    lcL (mgN 11) mYes (mOp opAdd (mOp opAdd (mCall fStrI (mCons (mOp opIx (mVar 11) (mC (.int 0))) mNil)) (mC (.str y))) (mCall fStrI (mCons (mOp opIx (mVar 11) (mC (.int 1))) mNil))) ρ (ps.map pT) S = .ok ((txtsOf y ps).map D.str) S := by
  unfold txtsOf
  rw [List.map_map]
  refine lcL_mapx _ S fun p hp => ⟨_, rfl, ?_⟩
  have e : (ρ.set 11 (some (pT p)))[11]? = some (some (pT p)) := List.getElem?_set_self h2
  obtain ⟨s1, s2, s3, s4⟩ := str_pair (h p hp).1 (h p hp).2 hy
  unfold pT at e ⊢
  simp [e, s1, s2, s3, s4]
theorem ne_empty (xs : List D) (hs : shal 20 (.tup xs) = true) (S : Store) : opNe (.tup xs) (.tup []) S = .ok (.bl (!xs.isEmpty)) S := by
  rw [ne_plain hs rfl]
  cases xs <;> rfl
theorem sh_ints (ns : List Int) : shal 20 (.tup (ns.map D.int)) = true := by
  rw [shal_tup]
  exact shal_map (fun _ => shal_int _ _) ns
theorem sh_pairs (ps : List (Int × Int)) : shal 20 (.tup (ps.map pT)) = true := by
  rw [shal_tup]
  exact shal_map (fun _ => by simp [pT, shal]) ps
theorem words_ne {ws : List Str} (h : ws ≠ []) : wordsTxt ws = Txt.join " " ws := if_neg h
theorem drawn_row_s {S0 S : Store} {k N : Nat} (h : BoxS S0 k N S) (hN : N + 300 < 2 ^ 40) : (f_l_drawn [.ref k, .str "row"] S).Sat fun d S' => IsDr "row" d ∧ BoxS S0 k (N + 300) S' := by
  unfold f_l_drawn m_l_drawn
  rw [fnM_2]
  simp
  refine sat_step (number_s h (by omega)) ?_
  rintro _ S1 ⟨⟨n1, rfl, x0, x1⟩, h1⟩
  simp
  refine sat_step (number_s h1 (by omega)) ?_
  rintro _ S2 ⟨⟨n2, rfl, y0, y1⟩, h2⟩
  simp
  refine sat_step (of_s h2 (by omega) (by simp) (by simp)) ?_
  rintro d S3 ⟨hd, h3⟩
  simp
  refine sat_step (many_s h3 (by omega) hd) ?_
  rintro _ S4 ⟨r, rfl, hr, h4⟩
  simp [r1K_nat r (show r < 2 ^ 60 by omega), rangeD_len, show r ≤ 100000 by omega]
  refine sat_step (lcL_draw (c := 3) (T := N + 300) (P := fun v => ∃ n, v = .int n ∧ In60 n) (rangeD 0 r) _ S4 h4 (by rw [rangeD_len]; omega) fun d hd M S hM hT => ⟨_, rfl, ?_⟩) ?_
  · simp
    exact number_s hM (by omega)
  · rintro vs S5 ⟨hl, hv, h5⟩
    obtain ⟨ns, rfl, hns⟩ := ints_of hv
    rw [rangeD_len, List.length_map] at hl
    have dr := drawn_row (ns := ns) (by omega) hns
    have ne := fun S => ne_empty _ (sh_ints ns) S
    have hl2 : ns.length ≤ 100000 := by omega
    have lc := fun (ρ : Q.Env) (h2 : 11 < ρ.length) S => lc_str h2 hns S
    have jo := fun S => join_op (ws := ns.map strI) (by rw [List.length_map]; omega) (fun w hw => by
      obtain ⟨n, hn, rfl⟩ := List.mem_map.mp hw
      exact Nat.le_trans (hns n hn).len (by decide)) S
    have fl := fun d => fin_len (d := d) (h5.len.trans h.len.symm)
    have h6 : BoxS S0 k (N + 300) S5 := h5.mono (by rw [rangeD_len]; omega)
    cases q : ns with
    | nil =>
      subst q
      simp only [List.map_nil, List.isEmpty_nil] at ne
      simp [ne, fl]
      exact ⟨⟨_, _, rfl, dr⟩, h6⟩
    | cons n ns' =>
      have e : (ns.map D.int).isEmpty = false := by rw [q]; rfl
      rw [e] at ne
      rw [words_ne (by rw [q]; simp)] at dr
      rw [← q]
      generalize ns.map strI = ws at *
      generalize hx : ns.map D.int = xs at *
      have hxl : xs.length = ns.length := by rw [← hx, List.length_map]
      simp [ne, hxl, hl2, lc, jo, onText, fl]
      exact ⟨⟨_, _, rfl, dr⟩, h6⟩
theorem drawn_log_s {S0 S : Store} {k N : Nat} (h : BoxS S0 k N S) (hN : N + 300 < 2 ^ 40) : (f_l_drawn [.ref k, .str "log"] S).Sat fun d S' => IsDr "log" d ∧ BoxS S0 k (N + 300) S' := by
  unfold f_l_drawn m_l_drawn
  rw [fnM_2]
  simp
  refine sat_step (number_s h (by omega)) ?_
  rintro _ S1 ⟨⟨n1, rfl, x0, x1⟩, h1⟩
  simp
  refine sat_step (number_s h1 (by omega)) ?_
  rintro _ S2 ⟨⟨n2, rfl, y0, y1⟩, h2⟩
  simp
  refine sat_step (of_s h2 (by omega) (by simp) (by simp)) ?_
  rintro d S3 ⟨hd, h3⟩
  simp
  refine sat_step (many_s h3 (by omega) hd) ?_
  rintro _ S4 ⟨r, rfl, hr, h4⟩
  have er : (r : Int) + 1 = ((r + 1 : Nat) : Int) := by omega
  simp [er, r1K_nat (r + 1) (show r + 1 < 2 ^ 60 by omega), rangeD_len, show r + 1 ≤ 100000 by omega, -Int.natCast_add]
  refine sat_step (lcL_draw (c := 6) (T := N + 300) (P := fun v => ∃ p, v = pT p ∧ (In60 p.1 ∧ In60 p.2)) (rangeD 0 (r + 1)) _ S4 h4 (by rw [rangeD_len]; omega) fun d hd M S hM hT => ⟨_, rfl, ?_⟩) ?_
  · simp
    refine sat_step (number_s hM (by omega)) ?_
    rintro _ S5 ⟨⟨m1, rfl, hm1⟩, g1⟩
    simp
    refine sat_step (number_s g1 (by omega)) ?_
    rintro _ S6 ⟨⟨m2, rfl, hm2⟩, g2⟩
    simp
    exact ⟨⟨m1, m2, rfl, hm1, hm2⟩, g2⟩
  · rintro vs S5 ⟨hl, hv, h5⟩
    obtain ⟨ps, rfl, hps⟩ := pairs_of hv
    rw [rangeD_len, List.length_map] at hl
    have hne : ps ≠ [] := fun e => by rw [e] at hl; simp at hl
    have dr := drawn_log (ps := ps) (by omega) hne hps
    have hl2 : ps.length ≤ 100000 := by omega
    have lc := fun (ρ : Q.Env) (h2 : 11 < ρ.length) S => lc_pairstr h2 one_colon hps S
    have jo := fun S => join_op (ws := txtsOf ":" ps) (by unfold txtsOf; rw [List.length_map]; omega) (txts_len one_colon hps) S
    have fl := fun d => fin_len (d := d) (h5.len.trans h.len.symm)
    have h6 : BoxS S0 k (N + 300) S5 := h5.mono (by rw [rangeD_len]; omega)
    generalize txtsOf ":" ps = ws at *
    generalize hx : ps.map pT = xs at *
    have hxl : xs.length = ps.length := by rw [← hx, List.length_map]
    simp [hxl, hl2, lc, jo, onText, fl]
    exact ⟨⟨_, _, rfl, dr⟩, h6⟩
theorem drawn_looks_s {S0 S : Store} {k N : Nat} (h : BoxS S0 k N S) (hN : N + 300 < 2 ^ 40) : (f_l_drawn [.ref k, .str "looks"] S).Sat fun d S' => IsDr "looks" d ∧ BoxS S0 k (N + 300) S' := by
  unfold f_l_drawn m_l_drawn
  rw [fnM_2]
  simp
  refine sat_step (number_s h (by omega)) ?_
  rintro _ S1 ⟨⟨n1, rfl, x0, x1⟩, h1⟩
  simp
  refine sat_step (number_s h1 (by omega)) ?_
  rintro _ S2 ⟨⟨n2, rfl, y0, y1⟩, h2⟩
  simp
  refine sat_step (of_s h2 (by omega) (by simp) (by simp)) ?_
  rintro d S3 ⟨hd, h3⟩
  simp
  refine sat_step (many_s h3 (by omega) hd) ?_
  rintro _ S4 ⟨r, rfl, hr, h4⟩
  simp [r1K_nat r (show r < 2 ^ 60 by omega), rangeD_len, show r ≤ 100000 by omega]
  refine sat_step (lcL_draw (c := 1) (T := N + 300) (P := fun v => ∃ n : Int, v = .int n ∧ (0 ≤ n ∧ n < 60)) (rangeD 0 r) _ S4 h4 (by rw [rangeD_len]; omega) fun d hd M S hM hT => ⟨_, rfl, ?_⟩) ?_
  · simp
    refine (take_s (n := 60) hM (by omega) (by decide) (by decide)).mono ?_
    rintro _ S5 ⟨q, rfl, q0, q1, g1⟩
    exact ⟨⟨q, rfl, q0, q1⟩, g1⟩
  · rintro vs S5 ⟨hl, hv, h5⟩
    rw [rangeD_len] at hl
    simp [show vs.length ≤ 100000 by omega]
    refine sat_step (lcL_draw (c := 1) (T := N + 300) (P := fun v => ∃ p, v = pT p ∧ ((In60 p.1 ∧ In60 p.2) ∧ p.1 < p.2)) vs _ S5 h5 (by rw [rangeD_len]; omega) fun d hd M S hM hT => ⟨_, rfl, ?_⟩) ?_
    · obtain ⟨n, rfl, a0, a1⟩ := hv d hd
      simp
      refine sat_step (take_s (n := 9) hM (by omega) (by decide) (by decide)) ?_
      rintro _ S6 ⟨q, rfl, q0, q1, g1⟩
      simp
      exact ⟨⟨n, n + 1 + q, rfl, ⟨in60_of a0 (by omega), in60_of (by omega) (by omega)⟩, by omega⟩, g1⟩
    · rintro ws S6 ⟨hl3, hw, h6⟩
      obtain ⟨ps, rfl, hps⟩ := pairs_of hw
      rw [List.length_map] at hl3
      have hq : ∀ p ∈ ps, In60 p.1 ∧ In60 p.2 := fun p hp => (hps p hp).1
      have dr := drawn_looks (ps := ps) (by omega) hq fun p hp => (hps p hp).2
      have ne := fun S => ne_empty _ (sh_pairs ps) S
      have hl2 : ps.length ≤ 100000 := by omega
      have lc := fun (ρ : Q.Env) (h2 : 11 < ρ.length) S => lc_pairstr h2 one_minus hq S
      have jo := fun S => join_op (ws := txtsOf "-" ps) (by unfold txtsOf; rw [List.length_map]; omega) (txts_len one_minus hq) S
      have fl := fun d => fin_len (d := d) (h6.len.trans h.len.symm)
      have h7 : BoxS S0 k (N + 300) S6 := h6.mono (by rw [rangeD_len]; omega)
      cases q : ps with
      | nil =>
        subst q
        simp only [List.map_nil, List.isEmpty_nil] at ne
        simp [ne, fl]
        exact ⟨⟨_, _, rfl, dr⟩, h7⟩
      | cons n ns' =>
        have e : (ps.map pT).isEmpty = false := by rw [q]; rfl
        rw [e] at ne
        rw [words_ne (by rw [q]; simp [txtsOf])] at dr
        rw [← q]
        generalize txtsOf "-" ps = ws at *
        generalize hx : ps.map pT = xs at *
        have hxl : xs.length = ps.length := by rw [← hx, List.length_map]
        simp [ne, hxl, hl2, lc, jo, onText, fl]
        exact ⟨⟨_, _, rfl, dr⟩, h7⟩
theorem BoxS.lt {S0 S : Store} {k N : Nat} (h : BoxS S0 k N S) : k < S0.length := by obtain ⟨y, _, _, hk⟩ := h; exact hk
theorem BoxS.push {S0 S : Store} {k N : Nat} (c : Cell) (h : BoxS S0 k N S) : BoxS (S0 ++ [c]) k N (S ++ [c]) := by
  obtain ⟨y, rfl, hy, hk⟩ := h
  exact ⟨y, by rw [List.set_append_left _ _ hk], hy, by simp; omega⟩
theorem BoxS.last {S0 S : Store} {k N : Nat} {c : Cell} (h : BoxS (S0 ++ [c]) k N S) (hk : k < S0.length) : S[S0.length]? = some c := by
  obtain ⟨y, rfl, _, _⟩ := h
  rw [List.getElem?_set_ne (by omega)]
  simp
theorem BoxS.cut {S0 S : Store} {k N : Nat} {c : Cell} (h : BoxS (S0 ++ [c]) k N S) (hk : k < S0.length) : S.length = S0.length + 1 ∧ BoxS S0 k N (S.take S0.length) := by
  obtain ⟨y, rfl, hy, _⟩ := h
  refine ⟨by simp, y, ?_, hy, hk⟩
  rw [List.set_append_left _ _ hk]
  exact List.take_left' (by simp)
theorem BoxS.cuts {S0 S : Store} {cs : List Cell} {k N : Nat} (h : BoxS (S0 ++ cs) k N S) (hk : k < S0.length) : S.length = S0.length + cs.length ∧ BoxS S0 k N (S.take S0.length) := by
  obtain ⟨y, rfl, hy, _⟩ := h
  refine ⟨by simp, y, ?_, hy, hk⟩
  rw [List.set_append_left _ _ hk]
  exact List.take_left' (by simp)
theorem fin_cuts {S0 S : Store} {cs : List Cell} {k N n : Nat} {d : D} (h : BoxS (S0 ++ cs) k N S) (hk : k < S0.length) (hn : n = S0.length) (hp : S0.all Cell.pure = true) (hd : pureD d = true) : ∃ S', fin n d S = .ok d S' ∧ BoxS S0 k N S' := by
  obtain ⟨hl, hb⟩ := h.cuts hk
  subst hn
  by_cases h0 : cs.length = 0
  · refine ⟨S, by unfold fin; rw [if_pos (by omega)], ?_⟩
    rwa [List.take_of_length_le (by omega)] at hb
  · refine ⟨S.take S0.length, ?_, hb⟩
    exact fin_ok (by omega) hd (hb.pure hp)
theorem cut_ok {x : Str} (h : OkS x) (lo hi : Option Int) : OkS (cutS x lo hi) ∧ (cutS x lo hi).length ≤ x.length := by
  have l := cutS_length x lo hi
  refine ⟨⟨Nat.le_trans l h.len, fun c hc => h.cp c ?_⟩, l⟩
  exact List.mem_of_mem_drop (List.mem_of_mem_take hc)
theorem app_ok {x y : Str} (hx : OkS x) (hy : OkS y) (h : x.length + y.length ≤ 100000) : OkS (x ++ y) := by
  refine ⟨by rw [len_app]; exact h, fun c hc => ?_⟩
  have e : (x ++ y).cps.toList = x.cps.toList ++ y.cps.toList := TL.tl_append x y
  rw [e] at hc
  rcases List.mem_append.mp hc with q | q
  · exact hx.cp c q
  · exact hy.cp c q
theorem sl_strD {x : Str} (h : x.length ≤ 100000) (lo hi : Option Int) (S : Store) : opSl (.str x) lo hi S = .ok (.str (cutS x lo hi)) S := if_pos h
def IsBent (d : D) : Prop := ∃ y, d = .str y ∧ OkS y ∧ y.length ≤ 9000
theorem sign_ok {d : D} (h : d ∈ [D.str " ", D.str "-", D.str ":", D.str "/", D.str "0", D.str "1", D.str "9", D.str "a", D.str "+", D.str ".", D.str "\n", D.str "_"]) : ∃ y, d = .str y ∧ OkS y ∧ y.length ≤ 1000 := by
  simp only [List.mem_cons, List.not_mem_nil, or_false] at h
  rcases h with rfl | rfl | rfl | rfl | rfl | rfl | rfl | rfl | rfl | rfl | rfl | rfl <;> exact ⟨_, rfl, ⟨by decide +kernel, by decide +kernel⟩, by decide +kernel⟩
theorem three {x a b c : Str} (hx : x.length ≤ 1000) (ha : OkS a ∧ a.length ≤ x.length) (hb : OkS b ∧ b.length ≤ 1000) (hc : OkS c ∧ c.length ≤ x.length) :
    (∀ S, opAdd (.str a) (.str b) S = .ok (.str (a ++ b)) S) ∧ (∀ S, opAdd (.str (a ++ b)) (.str c) S = .ok (.str (a ++ b ++ c)) S) ∧ IsBent (.str (a ++ b ++ c)) := by
  have l1 : (a ++ b).length = a.length + b.length := len_app a b
  have l2 : (a ++ b ++ c).length = (a ++ b).length + c.length := len_app _ c
  refine ⟨fun S => add_strD (by omega) S, fun S => add_strD (by omega) S, _, rfl, app_ok (app_ok ha.1 hb.1 (by omega)) hc.1 (by omega), by omega⟩
theorem bent_s {S0 S : Store} {k N : Nat} (h : BoxS S0 k N S) (hN : N + 3 < 2 ^ 40) {x : Str} (hx : OkS x) (hl : x.length ≤ 1000) :
    (f_l_bent [.ref k, .str x] S).Sat fun d S' => IsBent d ∧ BoxS S0 k (N + 3) S' := by
  unfold f_l_bent m_l_bent
  rw [fnM_2]
  have ln := fun S => len_strD hx.len S
  have sl := fun lo hi S => sl_strD hx.len lo hi S
  simp
  refine sat_step (take_s (n := 4) h (by omega) (by decide) (by decide)) ?_
  rintro _ S1 ⟨w, rfl, w0, w1, h1⟩
  simp [ln]
  refine sat_step (take_s (n := (x.length : Int) + 1) h1 (by omega) (by omega) (Int.lt_of_le_of_lt (show (x.length : Int) + 1 ≤ 1001 by omega) (by decide))) ?_
  rintro _ S2 ⟨q, rfl, q0, q1, h2⟩
  simp
  refine sat_step (of_s h2 (by omega) (by simp) (by simp)) ?_
  rintro d S3 ⟨hd, h3⟩
  obtain ⟨y, rfl, oy, ly⟩ := sign_ok hd
  have fl := fun d => fin_len (d := d) (h3.len.trans h.len.symm)
  have h4 : BoxS S0 k (N + 3) S3 := h3.mono (by omega)
  by_cases e0 : w = 0
  · obtain ⟨t1, t2, t3⟩ := three hl (cut_ok hx none (some q)) ⟨oy, ly⟩ (cut_ok hx (some q) none)
    simp [e0, sl, t1, t2, fl]
    exact ⟨t3, h4⟩
  · by_cases e1 : w = 1
    · have ca := cut_ok hx none (some q)
      have cb := cut_ok hx (some (q + 1)) none
      have ad := fun S => add_strD (x := cutS x none (some q)) (y := cutS x (some (q + 1)) none) (by omega) S
      simp [e1, sl, ad, fl]
      exact ⟨⟨_, rfl, app_ok ca.1 cb.1 (by omega), by rw [len_app]; omega⟩, h4⟩
    · by_cases e2 : w = 2
      · have cb := cut_ok hx (some q) (some (q + 1))
        obtain ⟨t1, t2, t3⟩ := three hl (cut_ok hx none (some q)) ⟨cb.1, by omega⟩ (cut_ok hx (some (q + 2 - 2)) none)
        have e3 : q + 2 - 2 = q := by omega
        rw [e3] at t2 t3
        simp [e2, sl, t1, t2, fl]
        exact ⟨t3, h4⟩
      · obtain ⟨t1, t2, t3⟩ := three hl (cut_ok hx none (some q)) ⟨oy, ly⟩ (cut_ok hx (some (q + w - 2)) none)
        simp [e0, e1, e2, sl, t1, t2, fl]
        exact ⟨t3, h4⟩
theorem handP (h : (match f_l_by_hand_right [] [] with | .ok (.bl true) [] => true | _ => false) = true) (S : Store) : fPure f_l_by_hand_right [] S = .ok (.bl true) S := by
  refine fPure_ap S rfl ?_
  generalize f_l_by_hand_right [] [] = r at *
  match r, h with
  | .ok (.bl true) [], _ => rfl
theorem namesP (h : (match f_l_names_right [] [] with | .ok (.bl true) [] => true | _ => false) = true) (S : Store) : fPure f_l_names_right [] S = .ok (.bl true) S := by
  refine fPure_ap S rfl ?_
  generalize f_l_names_right [] [] = r at *
  match r, h with
  | .ok (.bl true) [], _ => rfl
theorem drawn_s {S0 S : Store} {k N : Nat} {s : Str} (hs : s ∈ sortsS) (h : BoxS S0 k N S) (hN : N + 300 < 2 ^ 40) : (f_l_drawn [.ref k, .str s] S).Sat fun d S' => IsDr s d ∧ BoxS S0 k (N + 300) S' :=
  sorts_all (P := fun s => (f_l_drawn [.ref k, .str s] S).Sat fun d S' => IsDr s d ∧ BoxS S0 k (N + 300) S')
    ((drawn_limit_s h (by omega)).mono fun d S1 ⟨a, b⟩ => ⟨a, b.mono (by omega)⟩)
    ((drawn_share_s h (by omega)).mono fun d S1 ⟨a, b⟩ => ⟨a, b.mono (by omega)⟩)
    ((drawn_look_s h (by omega)).mono fun d S1 ⟨a, b⟩ => ⟨a, b.mono (by omega)⟩)
    (drawn_log_s h hN) (drawn_row_s h hN) (drawn_looks_s h hN) hs
def mR_0 : MS := (mAsg (mCall (fCall f_l_drawn) (mCons (mVar 0) (mCons (mVar 2) mNil))) (mgTup 2 (mgCons (mgN 3) (mgCons (mgN 4) mgNil))))
def mR_1 : MS := (mIf (mTB (mOp opLt (mCall fLen (mCons (mVar 4) mNil)) (mC (.int 190)))) (mSeq (mAsg (mCell (mCons (mCall (fPure f_l_written) (mCons (mVar 2) (mCons (mVar 3) mNil))) (mCons (mCall (fPure f_l_written) (mCons (mVar 2) (mCons (mCall (fPure (f_l_lists 30)) (mCons (mVar 3) mNil)) mNil))) mNil))) (mgN 5)) (mSeq (mDrop (mApp (mVar 5) (mCall (fPure f_l_read) (mCons (mVar 2) (mCons (mVar 4) mNil))))) (mSeq (mIf (mNotT (mTest (mCall (fPure (f_l_same 30)) (mCons (mFrz (mVar 5)) (mCons (mLst (mCons (mVar 4) (mCons (mVar 4) (mCons (mVar 3) mNil)))) mNil))))) (mRet (mC (.bl false))) mSkip) (mSeq (mAsg (mLc (mRange1 (mC (.int 4))) (mgN 7) mYes (mCall (fCall f_l_bent) (mCons (mVar 0) (mCons (mVar 4) mNil))) [7]) (mgN 6)) (mIf (mNotT (mTest (mCall (fPure (f_l_same 30)) (mCons (mLc (mItems (mVar 6)) (mgN 8) mYes (mCall (fPure f_l_read) (mCons (mVar 2) (mCons (mVar 8) mNil))) [8]) (mCons (mLc (mItems (mVar 6)) (mgN 8) mYes (mCall (fPure f_l_due) (mCons (mVar 2) (mCons (mVar 8) mNil))) [8]) mNil))))) (mRet (mC (.bl false))) mSkip))))) mSkip)
def mBodyR : MS := mSeq mR_0 (mR_1)
theorem bodyR : m_l_right = (mSeq (mIf (mOrT (mNotT (mTest (mCall (fPure f_l_by_hand_right) mNil))) (mNotT (mTest (mCall (fPure f_l_names_right) mNil)))) (mRet (mC (.bl false))) mSkip) (mSeq (mFor (mRange1 (mC (.int 5))) (mgN 1) (mFor (mItems (mTup (mCons (mC (.str "limit")) (mCons (mC (.str "share")) (mCons (mC (.str "look")) (mCons (mC (.str "log")) (mCons (mC (.str "row")) (mCons (mC (.str "looks")) mNil)))))))) (mgN 2) mBodyR)) (mRet (mC (.bl true))))) := rfl
theorem okD_oD (n : Nat) (o : Option Int) : okD n (oD o) = true := by cases o <;> simp [oD]
theorem okD_pD (n : Nat) (o : Option (Int × Int)) : okD (n + 1) (pD o) = true := by cases o <;> simp [pD]
theorem okD_row {β : Type} {t : Option β → D} {n : Nat} (h : ∀ o, okD n (t o) = true) {os : List (Option β)} (hl : os.length ≤ 100000) : okD (n + 1) (rowD t os) = true := by
  unfold rowD
  split
  · rfl
  · rw [okD_tup, List.length_map, decide_eq_true hl, Bool.true_and]
    exact List.all_eq_true.mpr fun d hd => by
      obtain ⟨o, _, rfl⟩ := List.mem_map.mp hd
      exact h o
theorem okD_bad {n : Nat} {d : D} (h : okD n d = true) : okD n (badD d) = true := by
  cases d <;> first | exact h | exact okD_str n _
theorem okD_ans {s x : Str} (hx : OkS x) (hl : x.length ≤ 9000) : okD 19 (badD (ansD s x)) = true := by
  have hn := (split_ok hx sg_blank).2
  refine okD_bad ?_
  unfold ansD
  split
  · exact okD_pD 18 _
  · split
    · exact okD_pD 18 _
    · split
      · exact okD_pD 18 _
      · split
        · exact okD_row (okD_pD 17) (by rw [List.length_map]; omega)
        · split
          · unfold rowR
            split
            · rfl
            · exact okD_row (okD_oD 18) (by unfold numsO; rw [List.length_map]; omega)
          · unfold looksR
            split
            · rfl
            · exact okD_row (okD_pD 17) (by rw [List.length_map]; omega)
theorem bents_of : ∀ {vs : List D}, (∀ v ∈ vs, IsBent v) → ∃ ys : List Str, vs = ys.map D.str ∧ ∀ y ∈ ys, OkS y ∧ y.length ≤ 9000
  | [], _ => ⟨[], rfl, by simp⟩
  | v :: vs, h => by
    obtain ⟨n, rfl, hn⟩ := h v (by simp)
    obtain ⟨ns, rfl, hs⟩ := bents_of (vs := vs) fun w hw => h w (by simp [hw])
    exact ⟨n :: ns, rfl, fun m hm => by rcases List.mem_cons.mp hm with rfl | hm; exact hn; exact hs m hm⟩
theorem lc_two {f : List D → Store → Res D} {s : Str} {ρ : Q.Env} (h8 : 8 < ρ.length) (h2 : ρ[2]? = some (some (.str s))) {ys : List Str} (hf : ∀ y ∈ ys, ∀ S, fPure f [.str s, .str y] S = .ok (badD (ansD s y)) S) (S : Store) :
    lcL (mgN 8) mYes (mCall (fPure f) (mCons (mVar 2) (mCons (mVar 8) mNil))) ρ (ys.map D.str) S = .ok (ys.map fun y => badD (ansD s y)) S := by
  refine lcL_mapx _ S fun y hy => ⟨_, rfl, ?_⟩
  have e2 : (ρ.set 8 (some (.str y)))[2]? = some (some (.str s)) := by rw [List.getElem?_set_ne (by decide)]; exact h2
  have e8 : (ρ.set 8 (some (.str y)))[8]? = some (some (.str y)) := List.getElem?_set_self h8
  have h := hf y hy S
  simp [e2, e8, h]
def PcT (B : Store) (k M : Nat) (v1 : Option D) (f : Fl) (S' : Store) : Prop := ∃ cs v2 v3 v4 v5 v6 v7 v8, f = .nx [some (.ref k), v1, v2, v3, v4, v5, v6, v7, v8] ∧ BoxS (B ++ cs) k M S'
theorem turn15 {B S : Store} {k N : Nat} {s : Str} (hs : s ∈ sortsS) (h : BoxS B k N S) (hN : N + 400 < 2 ^ 40) (v1 v3 v4 v5 v6 v7 v8 : Option D) :
    (mBodyR [some (.ref k), v1, some (.str s), v3, v4, v5, v6, v7, v8] S).Sat (PcT B k (N + 400) v1) := by
  unfold mBodyR mR_0 mR_1
  simp
  refine sat_step (drawn_s hs h (by omega)) ?_
  rintro _ S1 ⟨⟨mat, str, rfl, Dr⟩, h1⟩
  have ln := fun S => len_strD Dr.ok.len S
  simp [ln]
  by_cases q : str.length < 190
  · have q' : (str.length : Int) < 190 := by omega
    obtain ⟨ml, pml, hli, hwl⟩ := Dr.wl
    have wr := Dr.wr
    have hk := h.lt
    have hlen : S1.length = B.length := h1.len
    have rd := fun S => (read_due hs Dr.ok (by omega) S).1
    rw [Dr.rd] at rd
    have h2 := h1.push (.lst [.str str, .str str])
    have at2 := h2.last hk
    have no := notOb_lst at2
    have ap := appTo_ok mat at2 (by simp)
    have at3 := (h1.push (.lst [.str str, .str str, mat])).last hk
    have fr := fz_ref at3
    have h4 := h1.push (.frz [.str str, .str str, mat])
    have sm := fun S => sameP S (d := .lst [.str str, .str str, mat]) (by rw [okD_lst]; simp [Dr.pm])
    have r4 : ∀ S, r1K (.int 4) S = .ok (rangeD 0 4) S := fun S => r1K_nat 4 (S := S) (by decide)
    simp [q, q', wr, hli, hwl, hlen, no, rd, ap, fr, sm, r4, rangeD_len]
    refine sat_step (lcL_draw (c := 3) (T := N + 400) (P := IsBent) (rangeD 0 4) _ _ h4 (by rw [rangeD_len]; omega) fun d hd M S hM hT => ⟨_, rfl, ?_⟩) ?_
    · simp
      exact bent_s hM (by omega) Dr.ok (by omega)
    · rintro vs S5 ⟨hl, hv, h5⟩
      obtain ⟨ys, rfl, hys⟩ := bents_of hv
      rw [rangeD_len, List.length_map] at hl
      have lr := fun (ρ : Q.Env) a b S => lc_two (ρ := ρ) (f := f_l_read) a b (fun y hy S => (read_due hs (hys y hy).1 (hys y hy).2 S).1) S
      have ld := fun (ρ : Q.Env) a b S => lc_two (ρ := ρ) (f := f_l_due) a b (fun y hy S => (read_due hs (hys y hy).1 (hys y hy).2 S).2) S
      have sm2 := fun S => sameP S (d := .lst (ys.map fun y => badD (ansD s y))) (by
        rw [okD_lst, List.length_map, decide_eq_true (by omega), Bool.true_and]
        exact List.all_eq_true.mpr fun d hd => by
          obtain ⟨y, hy, rfl⟩ := List.mem_map.mp hd
          exact okD_ans (hys y hy).1 (hys y hy).2)
      have hl2 : ys.length ≤ 100000 := by omega
      have h6 : BoxS (B ++ [.frz [.str str, .str str, mat]]) k (N + 400) S5 := h5.mono (by rw [rangeD_len]; omega)
      generalize ys.map (fun y => badD (ansD s y)) = rs at *
      simp [hl2, lr, ld, sm2]
      exact ⟨_, _, _, _, _, _, _, _, rfl, h6⟩
  · have q' : ¬ (str.length : Int) < 190 := by omega
    simp [q, q']
    exact ⟨[], _, _, _, _, _, _, _, rfl, by rw [List.append_nil]; exact h1.mono (by omega)⟩
def mIn15 (b : MS) : MS := mFor (mItems (mTup (mCons (mC (.str "limit")) (mCons (mC (.str "share")) (mCons (mC (.str "look")) (mCons (mC (.str "log")) (mCons (mC (.str "row")) (mCons (mC (.str "looks")) mNil)))))))) (mgN 2) b
def mR15 (bh nm : List D → Store → Res D) : MS := mSeq (mIf (mOrT (mNotT (mTest (mCall bh mNil))) (mNotT (mTest (mCall nm mNil)))) (mRet (mC (.bl false))) mSkip) (mSeq (mFor (mRange1 (mC (.int 5))) (mgN 1) (mIn15 mBodyR)) (mRet (mC (.bl true))))
section
variable {k : Nat}
theorem sorts_loop : ∀ (ss : List Str) (B S : Store) (M : Nat) (v1 v2 v3 v4 v5 v6 v7 v8 : Option D), (∀ s ∈ ss, s ∈ sortsS) → BoxS B k M S → M + 400 * ss.length < 2 ^ 40 →
    (forL (mgN 2) mBodyR (ss.map D.str) [some (.ref k), v1, v2, v3, v4, v5, v6, v7, v8] S).Sat (PcT B k (M + 400 * ss.length) v1)
  | [], B, S, M, v1, v2, v3, v4, v5, v6, v7, v8, _, h, _ => ⟨[], v2, v3, v4, v5, v6, v7, v8, rfl, by rw [List.append_nil]; exact h⟩
  | s :: ss, B, S, M, v1, v2, v3, v4, v5, v6, v7, v8, hs, h, hM => by
    rw [List.length_cons] at hM
    have g0 : mgN 2 (.str s) [some (.ref k), v1, v2, v3, v4, v5, v6, v7, v8] S = .ok [some (.ref k), v1, some (.str s), v3, v4, v5, v6, v7, v8] S := rfl
    rw [List.map_cons, forL_cons, g0, bind_ok]
    show ((mBodyR _ S).bind (forK _)).Sat _
    refine sat_step (turn15 (hs s (by simp)) h (by omega) v1 v3 v4 v5 v6 v7 v8) ?_
    rintro _ S2 ⟨cs, w2, w3, w4, w5, w6, w7, w8, rfl, h2⟩
    rw [forK_nx]
    refine (sorts_loop ss (B ++ cs) S2 (M + 400) v1 w2 w3 w4 w5 w6 w7 w8 (fun t ht => hs t (by simp [ht])) h2 (by omega)).mono ?_
    rintro f S3 ⟨ds, u2, u3, u4, u5, u6, u7, u8, rfl, h3⟩
    rw [List.append_assoc] at h3
    exact ⟨cs ++ ds, u2, u3, u4, u5, u6, u7, u8, rfl, h3.mono (by rw [List.length_cons]; omega)⟩
theorem inner15 {B S : Store} {M : Nat} {v1 : Option D} (v2 v3 v4 v5 v6 v7 v8 : Option D) (h : BoxS B k M S) (hM : M + 2400 < 2 ^ 40) :
    (mIn15 mBodyR [some (.ref k), v1, v2, v3, v4, v5, v6, v7, v8] S).Sat (PcT B k (M + 2400) v1) := by
  have l := sorts_loop sortsS B S M v1 v2 v3 v4 v5 v6 v7 v8 (fun s hs => hs) h hM
  have l : (forL (mgN 2) mBodyR [.str "limit", .str "share", .str "look", .str "log", .str "row", .str "looks"] [some (.ref k), v1, v2, v3, v4, v5, v6, v7, v8] S).Sat (PcT B k (M + 2400) v1) := l
  have z : ([D.str "limit", .str "share", .str "look", .str "log", .str "row", .str "looks"] : List D).length ≤ 100000 := by decide
  unfold mIn15
  generalize mBodyR = b at *
  generalize PcT B k (M + 2400) v1 = PP at *
  simp
  exact l
def PcU (B : Store) (k M : Nat) (f : Fl) (S' : Store) : Prop := ∃ cs v1 v2 v3 v4 v5 v6 v7 v8, f = .nx [some (.ref k), v1, v2, v3, v4, v5, v6, v7, v8] ∧ BoxS (B ++ cs) k M S'
theorem turns_loop : ∀ (js : List Int) (B S : Store) (M : Nat) (v1 v2 v3 v4 v5 v6 v7 v8 : Option D), BoxS B k M S → M + 2400 * js.length < 2 ^ 40 →
    (forL (mgN 1) (mIn15 mBodyR) (js.map D.int) [some (.ref k), v1, v2, v3, v4, v5, v6, v7, v8] S).Sat (PcU B k (M + 2400 * js.length))
  | [], B, S, M, v1, v2, v3, v4, v5, v6, v7, v8, h, _ => ⟨[], v1, v2, v3, v4, v5, v6, v7, v8, rfl, by rw [List.append_nil]; exact h⟩
  | j :: js, B, S, M, v1, v2, v3, v4, v5, v6, v7, v8, h, hM => by
    rw [List.length_cons] at hM
    have g0 : mgN 1 (.int j) [some (.ref k), v1, v2, v3, v4, v5, v6, v7, v8] S = .ok [some (.ref k), some (.int j), v2, v3, v4, v5, v6, v7, v8] S := rfl
    rw [List.map_cons, forL_cons, g0, bind_ok]
    show ((mIn15 mBodyR _ S).bind (forK _)).Sat _
    refine sat_step (inner15 v2 v3 v4 v5 v6 v7 v8 h (by omega)) ?_
    rintro _ S2 ⟨cs, w2, w3, w4, w5, w6, w7, w8, rfl, h2⟩
    rw [forK_nx]
    refine (turns_loop js (B ++ cs) S2 (M + 2400) (some (.int j)) w2 w3 w4 w5 w6 w7 w8 h2 (by omega)).mono ?_
    rintro f S3 ⟨ds, u1, u2, u3, u4, u5, u6, u7, u8, rfl, h3⟩
    rw [List.append_assoc] at h3
    exact ⟨cs ++ ds, u1, u2, u3, u4, u5, u6, u7, u8, rfl, h3.mono (by rw [List.length_cons]; omega)⟩
theorem right15 (bh nm : List D → Store → Res D) (hb : ∀ S, bh [] S = .ok (.bl true) S) (hn : ∀ S, nm [] S = .ok (.bl true) S) : RightG (fnM 9 1 (mR15 bh nm)) 12000 := by
  intro S0 S k N hp h hN
  have l := turns_loop (k := k) [0, 1, 2, 3, 4] S0 S N none none none none none none none none h (by show N + 2400 * 5 < _; omega)
  have l : (forL (mgN 1) (mIn15 mBodyR) [.int 0, .int 1, .int 2, .int 3, .int 4] [some (.ref k), none, none, none, none, none, none, none, none] S).Sat (PcU S0 k (N + 12000)) := l
  have r5 : ∀ S, r1K (.int 5) S = .ok [.int 0, .int 1, .int 2, .int 3, .int 4] S := fun S => r1K_nat 5 (S := S) (by decide)
  have z : ([D.int 0, .int 1, .int 2, .int 3, .int 4] : List D).length ≤ 100000 := by decide
  have fn : ∀ f S', PcU S0 k (N + 12000) f S' → ∃ ρ1, f = .nx ρ1 ∧ ∃ S2, Q.fin S.length (.bl true) S' = .ok (.bl true) S2 ∧ BoxS S0 k (N + 12000) S2 := by
    rintro f S' ⟨cs, v1, v2, v3, v4, v5, v6, v7, v8, rfl, h'⟩
    exact ⟨_, rfl, fin_cuts h' h.lt h.len hp rfl⟩
  unfold mR15
  generalize mIn15 mBodyR = b at *
  generalize PcU S0 k (N + 12000) = PP at *
  generalize [D.int 0, .int 1, .int 2, .int 3, .int 4] = RD at *
  rw [fnM_1]
  simp -implicitDefEqProofs [hb, hn, r5, z]
  refine sat_step l ?_
  intro f S1 hP
  obtain ⟨ρ1, rfl, S2, e, h2⟩ := fn f S1 hP
  simp -implicitDefEqProofs [e]
  exact h2
end
theorem names15 : (match f_l_names_right [] [] with | .ok (.bl true) [] => true | _ => false) = true := by decide +kernel
theorem hand15 : (match f_l_by_hand_right [] [] with | .ok (.bl true) [] => true | _ => false) = true := by decide +kernel
theorem right_eq15 : m_l_right = mR15 (fPure f_l_by_hand_right) (fPure f_l_names_right) := bodyR
theorem hl15 : m_l_law = mLaw7 (fnM 9 1 (mR15 (fPure f_l_by_hand_right) (fPure f_l_names_right))) 3 := by
  rw [← right_eq15]
  unfold m_l_law mLaw7
  rfl
theorem holds15 (G : List D → Store → Res D) (hr : RightG G 12000) : ∀ ns : List Int, ns.length ≤ 63 → ∃ S, fnM 3 1 (mLaw7 G 3) [scriptD ns] [] = .ok (.bl true) S :=
  fun ns hn => law7_s G 3 (by decide) (by decide) 12000 (by decide) hr (fun S cs k h h2 => box_ok S cs k 815 h h2 (by decide) rfl) ns hn
theorem holds15c (m : MS) (bh nm : List D → Store → Res D) (hb : ∀ S, bh [] S = .ok (.bl true) S) (hn : ∀ S, nm [] S = .ok (.bl true) S) (e : m = mLaw7 (fnM 9 1 (mR15 bh nm)) 3) : ∀ ns : List Int, ns.length ≤ 63 → ∃ S, fnM 3 1 m [scriptD ns] [] = .ok (.bl true) S := by
  subst e
  exact holds15 (fnM 9 1 (mR15 bh nm)) (right15 bh nm hb hn)
theorem holds : ∀ ns : List Int, ns.length ≤ 63 → ∃ S, f_l_law [scriptD ns] [] = .ok (.bl true) S := holds15c m_l_law (fPure f_l_by_hand_right) (fPure f_l_names_right) (handP hand15) (namesP names15) hl15
end Lw
namespace Lw
open PySem L2 Q
abbrev N_l_cells : List Str := ["_law_script", "_law_most_so", "_law_cells_here", "_law_k", "_law_cell", "_law_at_so"]
theorem sc_l_cells : FnScope N_l_cells ["_law_script", "_law_most_so"] (defScope s_l_cells) := ⟨rfl, rfl, rfl, by decide +kernel, rfl, by decide +kernel, by decide +kernel⟩
abbrev N_l_same : List Str := ["_law_got", "_law_due_here", "_law_mine", "_law_its"]
theorem sc_l_same : FnScope N_l_same ["_law_got", "_law_due_here"] (defScope s_l_same) := ⟨rfl, rfl, rfl, by decide +kernel, rfl, by decide +kernel, by decide +kernel⟩
abbrev N_p_told : List Str := ["found"]
theorem sc_p_told : FnScope N_p_told ["found"] (defScope s_p_told) := ⟨rfl, rfl, rfl, by decide +kernel, rfl, by decide +kernel, by decide +kernel⟩
abbrev N_p_number_of : List Str := ["word", "sign"]
theorem sc_p_number_of : FnScope N_p_number_of ["word"] (defScope s_p_number_of) := ⟨rfl, rfl, rfl, by decide +kernel, rfl, by decide +kernel, by decide +kernel⟩
abbrev N_p_pair_of : List Str := ["word", "sign", "found", "part"]
theorem sc_p_pair_of : FnScope N_p_pair_of ["word", "sign"] (defScope s_p_pair_of) := ⟨rfl, rfl, rfl, by decide +kernel, rfl, by decide +kernel, by decide +kernel⟩
abbrev N_p_is_tuple : List Str := ["thing", "many"]
theorem sc_p_is_tuple : FnScope N_p_is_tuple ["thing", "many"] (defScope s_p_is_tuple) := ⟨rfl, rfl, rfl, by decide +kernel, rfl, by decide +kernel, by decide +kernel⟩
abbrev N_p_is_number : List Str := ["thing", "least"]
theorem sc_p_is_number : FnScope N_p_is_number ["thing", "least"] (defScope s_p_is_number) := ⟨rfl, rfl, rfl, by decide +kernel, rfl, by decide +kernel, by decide +kernel⟩
abbrev N_p_is_limit : List Str := ["thing"]
theorem sc_p_is_limit : FnScope N_p_is_limit ["thing"] (defScope s_p_is_limit) := ⟨rfl, rfl, rfl, by decide +kernel, rfl, by decide +kernel, by decide +kernel⟩
abbrev N_p_limit_of : List Str := ["word", "found"]
theorem sc_p_limit_of : FnScope N_p_limit_of ["word"] (defScope s_p_limit_of) := ⟨rfl, rfl, rfl, by decide +kernel, rfl, by decide +kernel, by decide +kernel⟩
abbrev N_p_limit_in : List Str := ["string"]
theorem sc_p_limit_in : FnScope N_p_limit_in ["string"] (defScope s_p_limit_in) := ⟨rfl, rfl, rfl, by decide +kernel, rfl, by decide +kernel, by decide +kernel⟩
abbrev N_p_common_divisor : List Str := ["one", "other"]
theorem sc_p_common_divisor : FnScope N_p_common_divisor ["one", "other"] (defScope s_p_common_divisor) := ⟨rfl, rfl, rfl, by decide +kernel, rfl, by decide +kernel, by decide +kernel⟩
abbrev N_p_reduced : List Str := ["one", "other", "common"]
theorem sc_p_reduced : FnScope N_p_reduced ["one", "other"] (defScope s_p_reduced) := ⟨rfl, rfl, rfl, by decide +kernel, rfl, by decide +kernel, by decide +kernel⟩
abbrev N_p_Share_init : List Str := ["self", "failed", "calls"]
theorem sc_p_Share_init : FnScope N_p_Share_init ["self", "failed", "calls"] (defScope s_p_Share_init) := ⟨rfl, rfl, rfl, by decide +kernel, rfl, by decide +kernel, by decide +kernel⟩
abbrev N_p_Share_parts : List Str := ["self"]
theorem sc_p_Share_parts : FnScope N_p_Share_parts ["self"] (defScope s_p_Share_parts) := ⟨rfl, rfl, rfl, by decide +kernel, rfl, by decide +kernel, by decide +kernel⟩
abbrev N_p_share_of : List Str := ["word", "found", "share"]
theorem sc_p_share_of : FnScope N_p_share_of ["word"] (defScope s_p_share_of) := ⟨rfl, rfl, rfl, by decide +kernel, rfl, by decide +kernel, by decide +kernel⟩
abbrev N_p_share_in : List Str := ["string"]
theorem sc_p_share_in : FnScope N_p_share_in ["string"] (defScope s_p_share_in) := ⟨rfl, rfl, rfl, by decide +kernel, rfl, by decide +kernel, by decide +kernel⟩
abbrev N_p_look_of : List Str := ["word", "found"]
theorem sc_p_look_of : FnScope N_p_look_of ["word"] (defScope s_p_look_of) := ⟨rfl, rfl, rfl, by decide +kernel, rfl, by decide +kernel, by decide +kernel⟩
abbrev N_p_look_in : List Str := ["string"]
theorem sc_p_look_in : FnScope N_p_look_in ["string"] (defScope s_p_look_in) := ⟨rfl, rfl, rfl, by decide +kernel, rfl, by decide +kernel, by decide +kernel⟩
abbrev N_p_log_of : List Str := ["words", "found", "word"]
theorem sc_p_log_of : FnScope N_p_log_of ["words"] (defScope s_p_log_of) := ⟨rfl, rfl, rfl, by decide +kernel, rfl, by decide +kernel, by decide +kernel⟩
abbrev N_p_log_in : List Str := ["string"]
theorem sc_p_log_in : FnScope N_p_log_in ["string"] (defScope s_p_log_in) := ⟨rfl, rfl, rfl, by decide +kernel, rfl, by decide +kernel, by decide +kernel⟩
abbrev N_p_row_of : List Str := ["words", "found", "word"]
theorem sc_p_row_of : FnScope N_p_row_of ["words"] (defScope s_p_row_of) := ⟨rfl, rfl, rfl, by decide +kernel, rfl, by decide +kernel, by decide +kernel⟩
abbrev N_p_row_in : List Str := ["string"]
theorem sc_p_row_in : FnScope N_p_row_in ["string"] (defScope s_p_row_in) := ⟨rfl, rfl, rfl, by decide +kernel, rfl, by decide +kernel, by decide +kernel⟩
abbrev N_p_looks_of : List Str := ["words", "found", "word"]
theorem sc_p_looks_of : FnScope N_p_looks_of ["words"] (defScope s_p_looks_of) := ⟨rfl, rfl, rfl, by decide +kernel, rfl, by decide +kernel, by decide +kernel⟩
abbrev N_p_looks_in : List Str := ["string"]
theorem sc_p_looks_in : FnScope N_p_looks_in ["string"] (defScope s_p_looks_in) := ⟨rfl, rfl, rfl, by decide +kernel, rfl, by decide +kernel, by decide +kernel⟩
abbrev N_l_read : List Str := ["_law_sort_so", "_law_string_so", "_law_told_so", "_law_caught", "error", "_law_is_meant"]
theorem sc_l_read : FnScope N_l_read ["_law_sort_so", "_law_string_so"] (defScope s_l_read) := ⟨rfl, rfl, rfl, by decide +kernel, rfl, by decide +kernel, by decide +kernel⟩
abbrev N_l_by_hand_right : List Str := ["_law_rows", "_law_long_so", "_law_own"]
theorem sc_l_by_hand_right : FnScope N_l_by_hand_right [] (defScope s_l_by_hand_right) := ⟨rfl, rfl, rfl, by decide +kernel, rfl, by decide +kernel, by decide +kernel⟩
abbrev N_p_pair_text : List Str := ["pair", "sign"]
theorem sc_p_pair_text : FnScope N_p_pair_text ["pair", "sign"] (defScope s_p_pair_text) := ⟨rfl, rfl, rfl, by decide +kernel, rfl, by decide +kernel, by decide +kernel⟩
abbrev N_p_limit_text : List Str := ["limit"]
theorem sc_p_limit_text : FnScope N_p_limit_text ["limit"] (defScope s_p_limit_text) := ⟨rfl, rfl, rfl, by decide +kernel, rfl, by decide +kernel, by decide +kernel⟩
abbrev N_p_share_text : List Str := ["share"]
theorem sc_p_share_text : FnScope N_p_share_text ["share"] (defScope s_p_share_text) := ⟨rfl, rfl, rfl, by decide +kernel, rfl, by decide +kernel, by decide +kernel⟩
abbrev N_p_look_text : List Str := ["stretch"]
theorem sc_p_look_text : FnScope N_p_look_text ["stretch"] (defScope s_p_look_text) := ⟨rfl, rfl, rfl, by decide +kernel, rfl, by decide +kernel, by decide +kernel⟩
abbrev N_p_log_text : List Str := ["log", "minute"]
theorem sc_p_log_text : FnScope N_p_log_text ["log"] (defScope s_p_log_text) := ⟨rfl, rfl, rfl, by decide +kernel, rfl, by decide +kernel, by decide +kernel⟩
abbrev N_p_words_text : List Str := ["words"]
theorem sc_p_words_text : FnScope N_p_words_text ["words"] (defScope s_p_words_text) := ⟨rfl, rfl, rfl, by decide +kernel, rfl, by decide +kernel, by decide +kernel⟩
abbrev N_p_row_text : List Str := ["row", "place"]
theorem sc_p_row_text : FnScope N_p_row_text ["row"] (defScope s_p_row_text) := ⟨rfl, rfl, rfl, by decide +kernel, rfl, by decide +kernel, by decide +kernel⟩
abbrev N_p_looks_text : List Str := ["looks", "look"]
theorem sc_p_looks_text : FnScope N_p_looks_text ["looks"] (defScope s_p_looks_text) := ⟨rfl, rfl, rfl, by decide +kernel, rfl, by decide +kernel, by decide +kernel⟩
abbrev N_l_names_right : List Str := ["_law_got", "_law_due_here"]
theorem sc_l_names_right : FnScope N_l_names_right [] (defScope s_l_names_right) := ⟨rfl, rfl, rfl, by decide +kernel, rfl, by decide +kernel, by decide +kernel⟩
abbrev N_l_take : List Str := ["_law_box_here", "_law_below", "_law_drawn_here", "_law_once", "_law_far", "_law_twice"]
theorem sc_l_take : FnScope N_l_take ["_law_box_here", "_law_below"] (defScope s_l_take) := ⟨rfl, rfl, rfl, by decide +kernel, rfl, by decide +kernel, by decide +kernel⟩
abbrev N_l_of : List Str := ["_law_box_here", "_law_some"]
theorem sc_l_of : FnScope N_l_of ["_law_box_here", "_law_some"] (defScope s_l_of) := ⟨rfl, rfl, rfl, by decide +kernel, rfl, by decide +kernel, by decide +kernel⟩
abbrev N_l_number : List Str := ["_law_box_here", "_law_way_so"]
theorem sc_l_number : FnScope N_l_number ["_law_box_here"] (defScope s_l_number) := ⟨rfl, rfl, rfl, by decide +kernel, rfl, by decide +kernel, by decide +kernel⟩
abbrev N_l_common : List Str := ["_law_one_so", "_law_its"]
theorem sc_l_common : FnScope N_l_common ["_law_one_so", "_law_its"] (defScope s_l_common) := ⟨rfl, rfl, rfl, by decide +kernel, rfl, by decide +kernel, by decide +kernel⟩
abbrev N_l_limit : List Str := ["_law_box_here", "_law_way_so"]
theorem sc_l_limit : FnScope N_l_limit ["_law_box_here"] (defScope s_l_limit) := ⟨rfl, rfl, rfl, by decide +kernel, rfl, by decide +kernel, by decide +kernel⟩
abbrev N_l_drawn : List Str := ["_law_box_here", "_law_sort_so", "_law_one_so", "_law_its", "_law_own", "_law_low", "_law_high", "_law_fold", "_law_many_so", "_law_starts", "_law_turn", "_law_bit"]
theorem sc_l_drawn : FnScope N_l_drawn ["_law_box_here", "_law_sort_so"] (defScope s_l_drawn) := ⟨rfl, rfl, rfl, by decide +kernel, rfl, by decide +kernel, by decide +kernel⟩
abbrev N_l_written : List Str := ["_law_sort_so", "_law_mat"]
theorem sc_l_written : FnScope N_l_written ["_law_sort_so", "_law_mat"] (defScope s_l_written) := ⟨rfl, rfl, rfl, by decide +kernel, rfl, by decide +kernel, by decide +kernel⟩
abbrev N_l_bent : List Str := ["_law_box_here", "_law_string_so", "_law_way_so", "_law_k", "_law_sign_so"]
theorem sc_l_bent : FnScope N_l_bent ["_law_box_here", "_law_string_so"] (defScope s_l_bent) := ⟨rfl, rfl, rfl, by decide +kernel, rfl, by decide +kernel, by decide +kernel⟩
abbrev N_l_lists : List Str := ["_law_matter", "_law_bit"]
theorem sc_l_lists : FnScope N_l_lists ["_law_matter"] (defScope s_l_lists) := ⟨rfl, rfl, rfl, by decide +kernel, rfl, by decide +kernel, by decide +kernel⟩
abbrev N_l_value : List Str := ["_law_word_so", "_law_sign"]
theorem sc_l_value : FnScope N_l_value ["_law_word_so"] (defScope s_l_value) := ⟨rfl, rfl, rfl, by decide +kernel, rfl, by decide +kernel, by decide +kernel⟩
abbrev N_l_pair : List Str := ["_law_word_so", "_law_sign_so", "_law_bits", "_law_bit"]
theorem sc_l_pair : FnScope N_l_pair ["_law_word_so", "_law_sign_so"] (defScope s_l_pair) := ⟨rfl, rfl, rfl, by decide +kernel, rfl, by decide +kernel, by decide +kernel⟩
abbrev N_l_due : List Str := ["_law_sort_so", "_law_string_so", "_law_own", "_law_is_fine", "_law_words_so", "_law_found", "_law_bit"]
theorem sc_l_due : FnScope N_l_due ["_law_sort_so", "_law_string_so"] (defScope s_l_due) := ⟨rfl, rfl, rfl, by decide +kernel, rfl, by decide +kernel, by decide +kernel⟩
abbrev N_l_right : List Str := ["_law_box_here", "_law_turn", "_law_sort_so", "_law_mat", "_law_string_so", "_law_got", "_law_some", "_law_lap", "_law_own"]
theorem sc_l_right : FnScope N_l_right ["_law_box_here"] (defScope s_l_right) := ⟨rfl, rfl, rfl, by decide +kernel, rfl, by decide +kernel, by decide +kernel⟩
abbrev N_l_box : List Str := ["_law_script", "_law_k", "_law_cell"]
theorem sc_l_box : FnScope N_l_box ["_law_script", "_law_k"] (defScope s_l_box) := ⟨rfl, rfl, rfl, by decide +kernel, rfl, by decide +kernel, by decide +kernel⟩
abbrev N_l_law : List Str := ["_law_script", "_law_cells_here", "_law_k"]
theorem sc_l_law : FnScope N_l_law ["_law_script"] (defScope s_l_law) := ⟨rfl, rfl, rfl, by decide +kernel, rfl, by decide +kernel, by decide +kernel⟩
theorem su_13 : SupSrc s_exc_13 "a text that is not so written" := ⟨⟨_, _, _, _, _, _, _, rfl, fun _ _ _ _ _ => ⟨_, rfl⟩⟩, ⟨_, rfl, rfl⟩, rfl, rfl, rfl, rfl, fun _ _ _ _ _ => rfl, rfl, rfl, by decide +kernel, fun _ _ _ _ _ _ _ _ _ _ => rfl⟩
structure Txt (P : Program) (K : PySem.W.Frag) (mg : Str → Option Value) (cl : Nat → Addr) (sp_ : Nat → Str → Addr) (a : Nat → Addr) (d : Nat → FuncData) : Prop where
  F_l_cells : Fun K "_law_cells" "_law_cells" s_l_cells (a 0) (d 0)
  F_l_same : Fun K "_law_same" "_law_same" s_l_same (a 1) (d 1)
  F_p_told : Fun K "told" "told" s_p_told (a 2) (d 2)
  F_p_number_of : Fun K "number_of" "number_of" s_p_number_of (a 3) (d 3)
  F_p_pair_of : Fun K "pair_of" "pair_of" s_p_pair_of (a 4) (d 4)
  F_p_is_tuple : Fun K "is_tuple" "is_tuple" s_p_is_tuple (a 5) (d 5)
  F_p_is_number : Fun K "is_number" "is_number" s_p_is_number (a 6) (d 6)
  F_p_is_limit : Fun K "is_limit" "is_limit" s_p_is_limit (a 7) (d 7)
  F_p_limit_of : Fun K "limit_of" "limit_of" s_p_limit_of (a 8) (d 8)
  F_p_limit_in : Fun K "limit_in" "limit_in" s_p_limit_in (a 9) (d 9)
  F_p_common_divisor : Fun K "common_divisor" "common_divisor" s_p_common_divisor (a 10) (d 10)
  F_p_reduced : Fun K "reduced" "reduced" s_p_reduced (a 11) (d 11)
  F_p_Share_init : Fun K "__init__" "Share.__init__" s_p_Share_init (a 12) (d 12)
  F_p_Share_parts : Fun K "parts" "Share.parts" s_p_Share_parts (a 13) (d 13)
  F_p_share_of : Fun K "share_of" "share_of" s_p_share_of (a 14) (d 14)
  F_p_share_in : Fun K "share_in" "share_in" s_p_share_in (a 15) (d 15)
  F_p_look_of : Fun K "look_of" "look_of" s_p_look_of (a 16) (d 16)
  F_p_look_in : Fun K "look_in" "look_in" s_p_look_in (a 17) (d 17)
  F_p_log_of : Fun K "log_of" "log_of" s_p_log_of (a 18) (d 18)
  F_p_log_in : Fun K "log_in" "log_in" s_p_log_in (a 19) (d 19)
  F_p_row_of : Fun K "row_of" "row_of" s_p_row_of (a 20) (d 20)
  F_p_row_in : Fun K "row_in" "row_in" s_p_row_in (a 21) (d 21)
  F_p_looks_of : Fun K "looks_of" "looks_of" s_p_looks_of (a 22) (d 22)
  F_p_looks_in : Fun K "looks_in" "looks_in" s_p_looks_in (a 23) (d 23)
  F_l_read : Fun K "_law_read" "_law_read" s_l_read (a 24) (d 24)
  F_l_by_hand_right : Fun K "_law_by_hand_right" "_law_by_hand_right" s_l_by_hand_right (a 25) (d 25)
  F_p_pair_text : Fun K "pair_text" "pair_text" s_p_pair_text (a 26) (d 26)
  F_p_limit_text : Fun K "limit_text" "limit_text" s_p_limit_text (a 27) (d 27)
  F_p_share_text : Fun K "share_text" "share_text" s_p_share_text (a 28) (d 28)
  F_p_look_text : Fun K "look_text" "look_text" s_p_look_text (a 29) (d 29)
  F_p_log_text : Fun K "log_text" "log_text" s_p_log_text (a 30) (d 30)
  F_p_words_text : Fun K "words_text" "words_text" s_p_words_text (a 31) (d 31)
  F_p_row_text : Fun K "row_text" "row_text" s_p_row_text (a 32) (d 32)
  F_p_looks_text : Fun K "looks_text" "looks_text" s_p_looks_text (a 33) (d 33)
  F_l_names_right : Fun K "_law_names_right" "_law_names_right" s_l_names_right (a 34) (d 34)
  F_l_take : Fun K "_law_take" "_law_take" s_l_take (a 35) (d 35)
  F_l_of : Fun K "_law_of" "_law_of" s_l_of (a 36) (d 36)
  F_l_number : Fun K "_law_number" "_law_number" s_l_number (a 37) (d 37)
  F_l_common : Fun K "_law_common" "_law_common" s_l_common (a 38) (d 38)
  F_l_limit : Fun K "_law_limit" "_law_limit" s_l_limit (a 39) (d 39)
  F_l_drawn : Fun K "_law_drawn" "_law_drawn" s_l_drawn (a 40) (d 40)
  F_l_written : Fun K "_law_written" "_law_written" s_l_written (a 41) (d 41)
  F_l_bent : Fun K "_law_bent" "_law_bent" s_l_bent (a 42) (d 42)
  F_l_lists : Fun K "_law_lists" "_law_lists" s_l_lists (a 43) (d 43)
  F_l_value : Fun K "_law_value" "_law_value" s_l_value (a 44) (d 44)
  F_l_pair : Fun K "_law_pair" "_law_pair" s_l_pair (a 45) (d 45)
  F_l_due : Fun K "_law_due" "_law_due" s_l_due (a 46) (d 46)
  F_l_right : Fun K "_law_right" "_law_right" s_l_right (a 47) (d 47)
  F_l_box : Fun K "_law_box" "_law_box" s_l_box (a 48) (d 48)
  F_l_law : Fun K "law" "law" s_l_law (a 49) (d 49)
  g_l_cells : mg "_law_cells" = some (.ref (a 0))
  g_l_same : mg "_law_same" = some (.ref (a 1))
  g_p_told : mg "told" = some (.ref (a 2))
  g_p_number_of : mg "number_of" = some (.ref (a 3))
  g_p_pair_of : mg "pair_of" = some (.ref (a 4))
  g_p_is_tuple : mg "is_tuple" = some (.ref (a 5))
  g_p_is_number : mg "is_number" = some (.ref (a 6))
  g_p_is_limit : mg "is_limit" = some (.ref (a 7))
  g_p_limit_of : mg "limit_of" = some (.ref (a 8))
  g_p_limit_in : mg "limit_in" = some (.ref (a 9))
  g_p_common_divisor : mg "common_divisor" = some (.ref (a 10))
  g_p_reduced : mg "reduced" = some (.ref (a 11))
  g_p_share_of : mg "share_of" = some (.ref (a 14))
  g_p_share_in : mg "share_in" = some (.ref (a 15))
  g_p_look_of : mg "look_of" = some (.ref (a 16))
  g_p_look_in : mg "look_in" = some (.ref (a 17))
  g_p_log_of : mg "log_of" = some (.ref (a 18))
  g_p_log_in : mg "log_in" = some (.ref (a 19))
  g_p_row_of : mg "row_of" = some (.ref (a 20))
  g_p_row_in : mg "row_in" = some (.ref (a 21))
  g_p_looks_of : mg "looks_of" = some (.ref (a 22))
  g_p_looks_in : mg "looks_in" = some (.ref (a 23))
  g_l_read : mg "_law_read" = some (.ref (a 24))
  g_l_by_hand_right : mg "_law_by_hand_right" = some (.ref (a 25))
  g_p_pair_text : mg "pair_text" = some (.ref (a 26))
  g_p_limit_text : mg "limit_text" = some (.ref (a 27))
  g_p_share_text : mg "share_text" = some (.ref (a 28))
  g_p_look_text : mg "look_text" = some (.ref (a 29))
  g_p_log_text : mg "log_text" = some (.ref (a 30))
  g_p_words_text : mg "words_text" = some (.ref (a 31))
  g_p_row_text : mg "row_text" = some (.ref (a 32))
  g_p_looks_text : mg "looks_text" = some (.ref (a 33))
  g_l_names_right : mg "_law_names_right" = some (.ref (a 34))
  g_l_take : mg "_law_take" = some (.ref (a 35))
  g_l_of : mg "_law_of" = some (.ref (a 36))
  g_l_number : mg "_law_number" = some (.ref (a 37))
  g_l_common : mg "_law_common" = some (.ref (a 38))
  g_l_limit : mg "_law_limit" = some (.ref (a 39))
  g_l_drawn : mg "_law_drawn" = some (.ref (a 40))
  g_l_written : mg "_law_written" = some (.ref (a 41))
  g_l_bent : mg "_law_bent" = some (.ref (a 42))
  g_l_lists : mg "_law_lists" = some (.ref (a 43))
  g_l_value : mg "_law_value" = some (.ref (a 44))
  g_l_pair : mg "_law_pair" = some (.ref (a 45))
  g_l_due : mg "_law_due" = some (.ref (a 46))
  g_l_right : mg "_law_right" = some (.ref (a 47))
  g_l_box : mg "_law_box" = some (.ref (a 48))
  g_l_law : mg "law" = some (.ref (a 49))
  cls_0 : mg (clN 0) = some (.ref (cl 0)) ∧ SlX.SCls K (cl 0)
  c_BLANK : ∃ t, mg "BLANK" = some (.str " " t)
  c_DIGITS : ∃ t, mg "DIGITS" = some (.str "0123456789" t)
  c_MOST_DIGITS : ∃ t, mg "MOST_DIGITS" = some (.int 60 t)
  c_NONE : ∃ t, mg "NONE" = some (.str "-" t)
  c_PAIR : ∃ t, mg "PAIR" = some (.int 2 t)
  meth_0_parts : Meth K (cl 0) "parts" (a 13)
  mkr_0 : Mk K (cl 0) (a 12)
  slot_0_own_calls : SlX.Slot1 K (cl 0) "own_calls" (sp_ 0 "own_calls") 0
  slot_0_own_failed : SlX.Slot1 K (cl 0) "own_failed" (sp_ 0 "own_failed") 1
  exq_10 : mg (clN 10) = some (.ref (cl 10)) ∧ ExcQ K (cl 10)
  exq_11 : mg (clN 11) = some (.ref (cl 11)) ∧ ExcQ K (cl 11)
  exq_12 : mg (clN 12) = some (.ref (cl 12)) ∧ ExcQ K (cl 12)
  exq_13 : mg (clN 13) = some (.ref (cl 13)) ∧ ExcQ K (cl 13)
  exq_14 : mg (clN 14) = some (.ref (cl 14)) ∧ ExcQ K (cl 14)
  exq_7 : mg (clN 7) = some (.ref (cl 7)) ∧ ExcQ K (cl 7)
  exq_8 : mg (clN 8) = some (.ref (cl 8)) ∧ ExcQ K (cl 8)
  exq_9 : mg (clN 9) = some (.ref (cl 9)) ∧ ExcQ K (cl 9)
  exu_13 : ExcU P K (cl 13) (a 50) (exB 13) (exN 13) (exI 13) (exM 13) s_exc_13
  exms_13_BadLine_BadText_Contradiction_NoMinute_NoWay_NothingDone_TooMany_Unlike : PySem.W.exmAny K (.ref (cl 13)) [.ref (cl 14), .ref (cl 13), .ref (cl 12), .ref (cl 7), .ref (cl 8), .ref (cl 9), .ref (cl 11), .ref (cl 10)] = some true
  kit_13_BadText : PySem.W.kitOne K (.ref (cl 13)) (.ref (cl 13)) = some true
  kit_13_ValueError : PySem.W.kitOne K (.ref (cl 13)) (.type "ValueError") = some true
  kits_13_BadLine_Unlike_LookupError : PySem.W.kitAny K (.ref (cl 13)) [.ref (cl 14), .ref (cl 10), .type "LookupError"] = some false
  n_LookupError : mg "LookupError" = none
  n_ValueError : mg "ValueError" = none
  n_abs : mg "abs" = none
  n_all : mg "all" = none
  n_bool : mg "bool" = none
  n_enumerate : mg "enumerate" = none
  n_int : mg "int" = none
  n_isinstance : mg "isinstance" = none
  n_len : mg "len" = none
  n_list : mg "list" = none
  n_max : mg "max" = none
  n_min : mg "min" = none
  n_range : mg "range" = none
  n_str : mg "str" = none
  n_tuple : mg "tuple" = none
  n_zip : mg "zip" = none
section
variable {P : Program} {w : World} {K : PySem.W.Frag} {mg : Str → Option Value} {base : Heap} {cl : Nat → Addr} {sp_ : Nat → Str → Addr} {a : Nat → Addr} {d : Nat → FuncData}
theorem b_l_cells (T : Txt P K mg cl sp_ a d) : Binds K (d 0) ["_law_script", "_law_most_so"] [] := T.F_l_cells.binds (ps := ["_law_script", "_law_most_so"]) fun _ _ _ _ _ _ us hl => match us, hl with | [_, _], _ => rfl
theorem ok_l_cells (T : Txt P K mg cl sp_ a d) : FnOk P w K mg base CX0 1 (a 0) (d 0) ["_law_script", "_law_most_so"] (spM ⟨K, cl⟩ f_l_cells) :=
  fn_ok 6 2 (k := 0) T.F_l_cells sc_l_cells fun cdv A outer s H E hr =>
      (qss_cons (qs_set 2 (q_orV (q_callTy listCQ (by rfl) T.n_list (by decide +kernel) (q_cons (q_sl (q_var 0) q_noO (q_soO (q_var 1))) q_nil)) (q_oneV (q_cell (q_cons q_int q_nil)))) sc_l_cells.nd)
      (qss_cons (qs_for (qi_enum (q_sl (q_var 0) (q_soO (q_var 1)) (q_soO q_int)) (by rfl) T.n_enumerate) (qg_tup 2 (qgs_cons (qg_name 3 sc_l_cells.nd) (qgs_cons (qg_name 4 sc_l_cells.nd) qgs_nil))) (qss_cons (qs_set 5 (q_op modI (q_callTy intQ (by rfl) T.n_int (by decide +kernel) (q_cons (q_var 3) q_nil)) (q_var 1)) sc_l_cells.nd)
      (qss_one (qs_asg (q_op addQ (q_ix (q_var 2) (q_var 5)) (q_op mulQ (q_var 4) (q_op addQ (q_var 3) q_int))) (qg_sub (q_var 2) (q_var 5))))))
      (qss_one (qs_ret (q_frz (q_var 2))))))
theorem b_l_same (T : Txt P K mg cl sp_ a d) : Binds K (d 1) ["_law_got", "_law_due_here"] [] := T.F_l_same.binds (ps := ["_law_got", "_law_due_here"]) fun _ _ _ _ _ _ us hl => match us, hl with | [_, _], _ => rfl
theorem ok_l_same (T : Txt P K mg cl sp_ a d) (k : Nat) : FnOk P w K mg base CX0 (0 + k) (a 1) (d 1) ["_law_got", "_law_due_here"] (spM ⟨K, cl⟩ (f_l_same k)) := by
  induction k with
  | zero => exact fn_none
  | succ k ih =>
    exact fn_ok 4 2 (k := 0 + k) T.F_l_same sc_l_same fun cdv A outer s H E hr =>
      (qss_cons (qs_if (q_test (q_isi2 .list .tuple (q_var 1) (by rfl) T.n_isinstance (by rfl) T.n_list (by decide +kernel) (by rfl) T.n_tuple (by decide +kernel))) (qss_cons (qs_if (q_w (q_or (q_tcmp (neQ hr) (q_isi .list (q_var 0) (by rfl) T.n_isinstance (by rfl) T.n_list (by decide +kernel)) (q_isi .list (q_var 1) (by rfl) T.n_isinstance (by rfl) T.n_list (by decide +kernel))) (q_or1 (q_tcmp (neQ hr) (q_isi .tuple (q_var 0) (by rfl) T.n_isinstance (by rfl) T.n_tuple (by decide +kernel)) (q_isi .tuple (q_var 1) (by rfl) T.n_isinstance (by rfl) T.n_tuple (by decide +kernel)))))) (qss_one (qs_ret q_bl)) qss_nil)
      (qss_one (qs_ret (q_andV (q_cmp (eqQ hr) (q_callB lenQ (by rfl) T.n_len (by decide +kernel) (q_cons (q_var 0) q_nil)) (q_callB lenQ (by rfl) T.n_len (by decide +kernel) (q_cons (q_var 1) q_nil))) (q_oneV (q_callB allQ (by rfl) T.n_all (by decide +kernel) (q_cons (q_lc [("_law_mine", 2), ("_law_its", 3)] (qi_zip (q_cons (q_var 0) (q_cons (q_var 1) q_nil)) (by rfl) T.n_zip) sc_l_same.nd (blkOk_by (N := N_l_same) (sc := defScope s_l_same) (by decide +kernel)) (fun _ _ _ _ _ => (qg_tup 2 (qgs_cons (qg_name 2 sc_l_same.nd) (qgs_cons (qg_name 3 sc_l_same.nd) qgs_nil)))) (fun _ _ _ _ _ => (q_call ih (hr.mono (by omega)) (by rfl) T.g_l_same T.F_l_same.kp (b_l_same T) (q_cons (q_var 2) (q_cons (q_var 3) q_nil)) sp_pure))) q_nil))))))) qss_nil)
      (qss_cons (qs_if (q_w (q_or (q_tisN (q_var 1)) (q_or1 (q_test (q_isi2 .bool .str (q_var 1) (by rfl) T.n_isinstance (by rfl) T.n_bool (by decide +kernel) (by rfl) T.n_str (by decide +kernel)))))) (qss_one (qs_ret (q_andV (q_cmp (eqQ hr) (q_var 0) (q_var 1)) (q_andV (q_cmp (eqQ hr) (q_isi .bool (q_var 0) (by rfl) T.n_isinstance (by rfl) T.n_bool (by decide +kernel)) (q_isi .bool (q_var 1) (by rfl) T.n_isinstance (by rfl) T.n_bool (by decide +kernel))) (q_oneV (q_cmp (eqQ hr) (q_isN (q_var 0)) (q_isN (q_var 1)))))))) qss_nil)
      (qss_one (qs_ret (q_andV (q_isi .int (q_var 0) (by rfl) T.n_isinstance (by rfl) T.n_int (by decide +kernel)) (q_andV (q_notV (q_isi .bool (q_var 0) (by rfl) T.n_isinstance (by rfl) T.n_bool (by decide +kernel))) (q_oneV (q_cmp (eqQ hr) (q_var 0) (q_var 1)))))))))
theorem b_p_told (T : Txt P K mg cl sp_ a d) : Binds K (d 2) ["found"] [] := T.F_p_told.binds (ps := ["found"]) fun _ _ _ _ _ _ us hl => match us, hl with | [_], _ => rfl
theorem okx_p_told (T : Txt P K mg cl sp_ a d) : FnOk P w K mg base (L2.CX P w) 2 (a 2) (d 2) ["found"] (spM ⟨K, cl⟩ g_p_told) :=
  fn_okX 1 1 (k := 1) T.F_p_told sc_p_told fun cdv A outer s H E hr tk po =>
      (qss_cons (qs_if (q_tisN (q_var 0)) (qss_one (qs_raise (cl := cl) 13 su_13 T.exu_13 tk (hr.mono (by omega)) (by rfl) T.exq_13.1)) qss_nil)
      (qss_one (qs_ret (q_var 0))))
theorem b_p_number_of (T : Txt P K mg cl sp_ a d) : Binds K (d 3) ["word"] [] := T.F_p_number_of.binds (ps := ["word"]) fun _ _ _ _ _ _ us hl => match us, hl with | [_], _ => rfl
theorem ok_p_number_of (T : Txt P K mg cl sp_ a d) : FnOk P w K mg base CX0 1 (a 3) (d 3) ["word"] (spM ⟨K, cl⟩ f_p_number_of) :=
  fn_ok 2 1 (k := 0) T.F_p_number_of sc_p_number_of fun cdv A outer s H E hr =>
      (qss_cons (qs_if (q_w (q_or (q_not (q_tchain ltI leI q_int (q_callB lenQ (by rfl) T.n_len (by decide +kernel) (q_cons (q_var 0) q_nil)) (q_globI (by rfl) T.c_MOST_DIGITS.choose_spec))) (q_or1 (q_not (q_test (q_callB allQ (by rfl) T.n_all (by decide +kernel) (q_cons (q_lc [("sign", 1)] (qi_chars (q_var 0)) sc_p_number_of.nd (blkOk_by (N := N_p_number_of) (sc := defScope s_p_number_of) (by decide +kernel)) (fun _ _ _ _ _ => (qg_name 1 sc_p_number_of.nd)) (fun _ _ _ _ _ => (q_cmp inS (q_var 1) (q_globS (t := 0) (by rfl) T.c_DIGITS)))) q_nil))))))) (qss_one (qs_ret q_non)) qss_nil)
      (qss_one (qs_ret (q_ifE (q_w (q_or (q_tcmp (eqQ hr) (q_var 0) q_str) (q_or1 (q_tcmp (neQ hr) (q_ix (q_var 0) q_int) q_str)))) (q_callTy intTQ (by rfl) T.n_int (by decide +kernel) (q_cons (q_var 0) q_nil)) q_non))))
theorem b_p_pair_of (T : Txt P K mg cl sp_ a d) : Binds K (d 4) ["word", "sign"] [] := T.F_p_pair_of.binds (ps := ["word", "sign"]) fun _ _ _ _ _ _ us hl => match us, hl with | [_, _], _ => rfl
theorem ok_p_pair_of (T : Txt P K mg cl sp_ a d) : FnOk P w K mg base CX0 2 (a 4) (d 4) ["word", "sign"] (spM ⟨K, cl⟩ f_p_pair_of) :=
  fn_ok 4 2 (k := 1) T.F_p_pair_of sc_p_pair_of fun cdv A outer s H E hr =>
      (qss_cons (qs_set 2 (q_callTy tupleQ (by rfl) T.n_tuple (by decide +kernel) (q_cons (q_lc [("part", 3)] (qi_items (q_split (q_var 0) (q_var 1))) sc_p_pair_of.nd (blkOk_by (N := N_p_pair_of) (sc := defScope s_p_pair_of) (by decide +kernel)) (fun _ _ _ _ _ => (qg_name 3 sc_p_pair_of.nd)) (fun _ _ _ _ _ => (q_call (ok_p_number_of T) (hr.mono (by omega)) (by rfl) T.g_p_number_of T.F_p_number_of.kp (b_p_number_of T) (q_cons (q_var 3) q_nil) sp_pure))) q_nil)) sc_p_pair_of.nd)
      (qss_one (qs_ret (q_ifE (q_w (q_or (q_tcmp (neQ hr) (q_callB lenQ (by rfl) T.n_len (by decide +kernel) (q_cons (q_var 2) q_nil)) (q_globI (by rfl) T.c_PAIR.choose_spec)) (q_or1 (q_tcmp (inQ hr) q_non (q_var 2))))) q_non (q_var 2)))))
theorem b_p_is_tuple (T : Txt P K mg cl sp_ a d) : Binds K (d 5) ["thing", "many"] [] := T.F_p_is_tuple.binds (ps := ["thing", "many"]) fun _ _ _ _ _ _ us hl => match us, hl with | [_, _], _ => rfl
theorem ok_p_is_tuple (T : Txt P K mg cl sp_ a d) : FnOk P w K mg base CX0 1 (a 5) (d 5) ["thing", "many"] (spM ⟨K, cl⟩ f_p_is_tuple) :=
  fn_ok 2 2 (k := 0) T.F_p_is_tuple sc_p_is_tuple fun cdv A outer s H E hr =>
      (qss_one (qs_ret (q_andV (q_isi .tuple (q_var 0) (by rfl) T.n_isinstance (by rfl) T.n_tuple (by decide +kernel)) (q_oneV (q_cmp (eqQ hr) (q_callB lenQ (by rfl) T.n_len (by decide +kernel) (q_cons (q_var 0) q_nil)) (q_var 1))))))
theorem b_p_is_number (T : Txt P K mg cl sp_ a d) : Binds K (d 6) ["thing", "least"] [] := T.F_p_is_number.binds (ps := ["thing", "least"]) fun _ _ _ _ _ _ us hl => match us, hl with | [_, _], _ => rfl
theorem ok_p_is_number (T : Txt P K mg cl sp_ a d) : FnOk P w K mg base CX0 1 (a 6) (d 6) ["thing", "least"] (spM ⟨K, cl⟩ f_p_is_number) :=
  fn_ok 2 2 (k := 0) T.F_p_is_number sc_p_is_number fun cdv A outer s H E hr =>
      (qss_one (qs_ret (q_andV (q_isi .int (q_var 0) (by rfl) T.n_isinstance (by rfl) T.n_int (by decide +kernel)) (q_andV (q_notV (q_isi .bool (q_var 0) (by rfl) T.n_isinstance (by rfl) T.n_bool (by decide +kernel))) (q_oneV (q_cmp geI (q_var 0) (q_var 1)))))))
theorem b_p_is_limit (T : Txt P K mg cl sp_ a d) : Binds K (d 7) ["thing"] [] := T.F_p_is_limit.binds (ps := ["thing"]) fun _ _ _ _ _ _ us hl => match us, hl with | [_], _ => rfl
theorem ok_p_is_limit (T : Txt P K mg cl sp_ a d) : FnOk P w K mg base CX0 2 (a 7) (d 7) ["thing"] (spM ⟨K, cl⟩ f_p_is_limit) :=
  fn_ok 1 1 (k := 1) T.F_p_is_limit sc_p_is_limit fun cdv A outer s H E hr =>
      (qss_one (qs_ret (q_andV (q_call (ok_p_is_tuple T) (hr.mono (by omega)) (by rfl) T.g_p_is_tuple T.F_p_is_tuple.kp (b_p_is_tuple T) (q_cons (q_var 0) (q_cons q_int q_nil)) sp_pure) (q_andV (q_call (ok_p_is_number T) (hr.mono (by omega)) (by rfl) T.g_p_is_number T.F_p_is_number.kp (b_p_is_number T) (q_cons (q_ix (q_var 0) q_int) (q_cons q_int q_nil)) sp_pure) (q_andV (q_call (ok_p_is_number T) (hr.mono (by omega)) (by rfl) T.g_p_is_number T.F_p_is_number.kp (b_p_is_number T) (q_cons (q_ix (q_var 0) q_int) (q_cons q_int q_nil)) sp_pure) (q_oneV (q_cmp ltI (q_ix (q_var 0) q_int) (q_ix (q_var 0) q_int))))))))
theorem b_p_limit_of (T : Txt P K mg cl sp_ a d) : Binds K (d 8) ["word"] [] := T.F_p_limit_of.binds (ps := ["word"]) fun _ _ _ _ _ _ us hl => match us, hl with | [_], _ => rfl
theorem ok_p_limit_of (T : Txt P K mg cl sp_ a d) : FnOk P w K mg base CX0 3 (a 8) (d 8) ["word"] (spM ⟨K, cl⟩ f_p_limit_of) :=
  fn_ok 2 1 (k := 2) T.F_p_limit_of sc_p_limit_of fun cdv A outer s H E hr =>
      (qss_cons (qs_set 1 (q_call (ok_p_pair_of T) (hr.mono (by omega)) (by rfl) T.g_p_pair_of T.F_p_pair_of.kp (b_p_pair_of T) (q_cons (q_var 0) (q_cons q_str q_nil)) sp_pure) sc_p_limit_of.nd)
      (qss_one (qs_ret (q_ifE (q_test (q_call (ok_p_is_limit T) (hr.mono (by omega)) (by rfl) T.g_p_is_limit T.F_p_is_limit.kp (b_p_is_limit T) (q_cons (q_var 1) q_nil) sp_pure)) (q_var 1) q_non))))
theorem b_p_limit_in (T : Txt P K mg cl sp_ a d) : Binds K (d 9) ["string"] [] := T.F_p_limit_in.binds (ps := ["string"]) fun _ _ _ _ _ _ us hl => match us, hl with | [_], _ => rfl
theorem okx_p_limit_in (T : Txt P K mg cl sp_ a d) : FnOk P w K mg base (L2.CX P w) 4 (a 9) (d 9) ["string"] (spM ⟨K, cl⟩ g_p_limit_in) :=
  fn_okX 1 1 (k := 3) T.F_p_limit_in sc_p_limit_in fun cdv A outer s H E hr tk po =>
      (qss_one (qs_ret (qx_call (okx_p_told T) tk (hr.mono (by omega)) (by rfl) T.g_p_told T.F_p_told.kp (b_p_told T) (q_cons (q_call (ok_p_limit_of T) (hr.mono (by omega)) (by rfl) T.g_p_limit_of T.F_p_limit_of.kp (b_p_limit_of T) (q_cons (q_var 0) q_nil) sp_pure) q_nil) spx_pure).qe))
theorem ok_p_limit_in (T : Txt P K mg cl sp_ a d) : FnOk P w K mg base CX0 4 (a 9) (d 9) ["string"] (spM ⟨K, cl⟩ f_p_limit_in) := fn_quiet (okx_p_limit_in T)
theorem b_p_common_divisor (T : Txt P K mg cl sp_ a d) : Binds K (d 10) ["one", "other"] [] := T.F_p_common_divisor.binds (ps := ["one", "other"]) fun _ _ _ _ _ _ us hl => match us, hl with | [_, _], _ => rfl
theorem ok_p_common_divisor (T : Txt P K mg cl sp_ a d) : FnOk P w K mg base CX0 1 (a 10) (d 10) ["one", "other"] (spM ⟨K, cl⟩ f_p_common_divisor) :=
  fn_ok 2 2 (k := 0) T.F_p_common_divisor sc_p_common_divisor fun cdv A outer s H E hr =>
      (qss_cons (qs_while (fuelI 1) (q_tcmp gtI (q_var 1) q_int) (qss_one (qs_par 0 1 sc_p_common_divisor.nd (q_cons (q_var 1) (q_cons (q_op modI (q_var 0) (q_var 1)) q_nil)))))
      (qss_one (qs_ret (q_var 0))))
theorem b_p_reduced (T : Txt P K mg cl sp_ a d) : Binds K (d 11) ["one", "other"] [] := T.F_p_reduced.binds (ps := ["one", "other"]) fun _ _ _ _ _ _ us hl => match us, hl with | [_, _], _ => rfl
theorem ok_p_reduced (T : Txt P K mg cl sp_ a d) : FnOk P w K mg base CX0 2 (a 11) (d 11) ["one", "other"] (spM ⟨K, cl⟩ f_p_reduced) :=
  fn_ok 3 2 (k := 1) T.F_p_reduced sc_p_reduced fun cdv A outer s H E hr =>
      (qss_cons (qs_set 2 (q_call (ok_p_common_divisor T) (hr.mono (by omega)) (by rfl) T.g_p_common_divisor T.F_p_common_divisor.kp (b_p_common_divisor T) (q_cons (q_var 0) (q_cons (q_var 1) q_nil)) sp_pure) sc_p_reduced.nd)
      (qss_one (qs_ret (q_tup (q_cons (q_op divI (q_var 0) (q_var 2)) (q_cons (q_op divI (q_var 1) (q_var 2)) q_nil))))))
theorem b_p_Share_init (T : Txt P K mg cl sp_ a d) : Binds K (d 12) ["self", "failed", "calls"] [] := T.F_p_Share_init.binds (ps := ["self", "failed", "calls"]) fun _ _ _ _ _ _ us hl => match us, hl with | [_, _, _], _ => rfl
theorem ok_p_Share_init (T : Txt P K mg cl sp_ a d) : FnOk P w K mg base CX0 3 (a 12) (d 12) ["self", "failed", "calls"] (spI ⟨K, cl⟩ 0 f_p_Share_init) :=
  init2s_ok (cl := cl) 3 3 (k := 2) T.F_p_Share_init sc_p_Share_init T.cls_0.2 T.slot_0_own_failed T.slot_0_own_calls rfl fun cdv A outer s H E hr =>
      ⟨(q_call (ok_p_reduced T) (hr.mono (by omega)) (by rfl) T.g_p_reduced T.F_p_reduced.kp (b_p_reduced T) (q_cons (q_var 1) (q_cons (q_var 2) q_nil)) sp_pure), (pg_tup rfl (pgs_cons (pg_sl (pe_var (i := 0) rfl (by first | exact Or.inl rfl | exact Or.inr (Or.inl rfl)) (by decide) (by decide))) (pgs_cons (pg_sl (pe_var (i := 0) rfl (by first | exact Or.inl rfl | exact Or.inr (Or.inl rfl)) (by decide) (by decide))) pgs_nil))), rfl, rfl, rfl⟩
theorem b_p_Share_parts (T : Txt P K mg cl sp_ a d) : Binds K (d 13) ["self"] [] := T.F_p_Share_parts.binds (ps := ["self"]) fun _ _ _ _ _ _ us hl => match us, hl with | [_], _ => rfl
theorem ok_p_Share_parts (T : Txt P K mg cl sp_ a d) : FnOk P w K mg base CX0 1 (a 13) (d 13) ["self"] (spM ⟨K, cl⟩ f_p_Share_parts) :=
  fn_ok 1 1 (k := 0) T.F_p_Share_parts sc_p_Share_parts fun cdv A outer s H E hr =>
      (qss_one (qs_ret (q_tup (q_cons (q_fld 0 1 (q_var 0) T.cls_0.2 T.slot_0_own_failed) (q_cons (q_fld 0 0 (q_var 0) T.cls_0.2 T.slot_0_own_calls) q_nil)))))
theorem b_p_share_of (T : Txt P K mg cl sp_ a d) : Binds K (d 14) ["word"] [] := T.F_p_share_of.binds (ps := ["word"]) fun _ _ _ _ _ _ us hl => match us, hl with | [_], _ => rfl
theorem ok_p_share_of (T : Txt P K mg cl sp_ a d) : FnOk P w K mg base CX0 5 (a 14) (d 14) ["word"] (spM ⟨K, cl⟩ f_p_share_of) :=
  fn_ok 3 1 (k := 4) T.F_p_share_of sc_p_share_of fun cdv A outer s H E hr =>
      (qss_cons (qs_set 1 (q_call (ok_p_pair_of T) (hr.mono (by omega)) (by rfl) T.g_p_pair_of T.F_p_pair_of.kp (b_p_pair_of T) (q_cons (q_var 0) (q_cons q_str q_nil)) sp_pure) sc_p_share_of.nd)
      (qss_cons (qs_if (q_w (q_or (q_tisN (q_var 1)) (q_or (q_tcmp (eqQ hr) (q_ix (q_var 1) q_int) q_int) (q_or1 (q_tcmp gtI (q_ix (q_var 1) q_int) (q_ix (q_var 1) q_int)))))) (qss_one (qs_ret q_non)) qss_nil)
      (qss_cons (qs_set 2 (q_make (c := 0) T.mkr_0 (ok_p_Share_init T) (hr.mono (by omega)) (by rfl) T.cls_0.1 (b_p_Share_init T) (q_cons (q_ix (q_var 1) q_int) (q_cons (q_ix (q_var 1) q_int) q_nil))) sc_p_share_of.nd)
      (qss_one (qs_ret (q_ifE (q_tcmp (eqQ hr) (q_meth0 (c := 0) (q_var 2) T.cls_0.2 T.meth_0_parts (raw0 (ok_p_Share_parts T) (b_p_Share_parts T)) (hr.mono (by omega)) sp_pure) (q_var 1)) (q_var 2) q_non))))))
theorem b_p_share_in (T : Txt P K mg cl sp_ a d) : Binds K (d 15) ["string"] [] := T.F_p_share_in.binds (ps := ["string"]) fun _ _ _ _ _ _ us hl => match us, hl with | [_], _ => rfl
theorem okx_p_share_in (T : Txt P K mg cl sp_ a d) : FnOk P w K mg base (L2.CX P w) 6 (a 15) (d 15) ["string"] (spM ⟨K, cl⟩ g_p_share_in) :=
  fn_okX 1 1 (k := 5) T.F_p_share_in sc_p_share_in fun cdv A outer s H E hr tk po =>
      (qss_one (qs_ret (qx_call (okx_p_told T) tk (hr.mono (by omega)) (by rfl) T.g_p_told T.F_p_told.kp (b_p_told T) (q_cons (q_call (ok_p_share_of T) (hr.mono (by omega)) (by rfl) T.g_p_share_of T.F_p_share_of.kp (b_p_share_of T) (q_cons (q_var 0) q_nil) sp_pure) q_nil) spx_pure).qe))
theorem ok_p_share_in (T : Txt P K mg cl sp_ a d) : FnOk P w K mg base CX0 6 (a 15) (d 15) ["string"] (spM ⟨K, cl⟩ f_p_share_in) := fn_quiet (okx_p_share_in T)
theorem b_p_look_of (T : Txt P K mg cl sp_ a d) : Binds K (d 16) ["word"] [] := T.F_p_look_of.binds (ps := ["word"]) fun _ _ _ _ _ _ us hl => match us, hl with | [_], _ => rfl
theorem ok_p_look_of (T : Txt P K mg cl sp_ a d) : FnOk P w K mg base CX0 3 (a 16) (d 16) ["word"] (spM ⟨K, cl⟩ f_p_look_of) :=
  fn_ok 2 1 (k := 2) T.F_p_look_of sc_p_look_of fun cdv A outer s H E hr =>
      (qss_cons (qs_set 1 (q_call (ok_p_pair_of T) (hr.mono (by omega)) (by rfl) T.g_p_pair_of T.F_p_pair_of.kp (b_p_pair_of T) (q_cons (q_var 0) (q_cons q_str q_nil)) sp_pure) sc_p_look_of.nd)
      (qss_one (qs_ret (q_ifE (q_w (q_or (q_tisN (q_var 1)) (q_or1 (q_tcmp geI (q_ix (q_var 1) q_int) (q_ix (q_var 1) q_int))))) q_non (q_var 1)))))
theorem b_p_look_in (T : Txt P K mg cl sp_ a d) : Binds K (d 17) ["string"] [] := T.F_p_look_in.binds (ps := ["string"]) fun _ _ _ _ _ _ us hl => match us, hl with | [_], _ => rfl
theorem okx_p_look_in (T : Txt P K mg cl sp_ a d) : FnOk P w K mg base (L2.CX P w) 4 (a 17) (d 17) ["string"] (spM ⟨K, cl⟩ g_p_look_in) :=
  fn_okX 1 1 (k := 3) T.F_p_look_in sc_p_look_in fun cdv A outer s H E hr tk po =>
      (qss_one (qs_ret (qx_call (okx_p_told T) tk (hr.mono (by omega)) (by rfl) T.g_p_told T.F_p_told.kp (b_p_told T) (q_cons (q_call (ok_p_look_of T) (hr.mono (by omega)) (by rfl) T.g_p_look_of T.F_p_look_of.kp (b_p_look_of T) (q_cons (q_var 0) q_nil) sp_pure) q_nil) spx_pure).qe))
theorem ok_p_look_in (T : Txt P K mg cl sp_ a d) : FnOk P w K mg base CX0 4 (a 17) (d 17) ["string"] (spM ⟨K, cl⟩ f_p_look_in) := fn_quiet (okx_p_look_in T)
theorem b_p_log_of (T : Txt P K mg cl sp_ a d) : Binds K (d 18) ["words"] [] := T.F_p_log_of.binds (ps := ["words"]) fun _ _ _ _ _ _ us hl => match us, hl with | [_], _ => rfl
theorem ok_p_log_of (T : Txt P K mg cl sp_ a d) : FnOk P w K mg base CX0 3 (a 18) (d 18) ["words"] (spM ⟨K, cl⟩ f_p_log_of) :=
  fn_ok 3 1 (k := 2) T.F_p_log_of sc_p_log_of fun cdv A outer s H E hr =>
      (qss_cons (qs_set 1 (q_callTy tupleQ (by rfl) T.n_tuple (by decide +kernel) (q_cons (q_lc [("word", 2)] (qi_items (q_split (q_var 0) (q_globS (t := 0) (by rfl) T.c_BLANK))) sc_p_log_of.nd (blkOk_by (N := N_p_log_of) (sc := defScope s_p_log_of) (by decide +kernel)) (fun _ _ _ _ _ => (qg_name 2 sc_p_log_of.nd)) (fun _ _ _ _ _ => (q_call (ok_p_pair_of T) (hr.mono (by omega)) (by rfl) T.g_p_pair_of T.F_p_pair_of.kp (b_p_pair_of T) (q_cons (q_var 2) (q_cons q_str q_nil)) sp_pure))) q_nil)) sc_p_log_of.nd)
      (qss_one (qs_ret (q_ifE (q_tcmp (inQ hr) q_non (q_var 1)) q_non (q_var 1)))))
theorem b_p_log_in (T : Txt P K mg cl sp_ a d) : Binds K (d 19) ["string"] [] := T.F_p_log_in.binds (ps := ["string"]) fun _ _ _ _ _ _ us hl => match us, hl with | [_], _ => rfl
theorem okx_p_log_in (T : Txt P K mg cl sp_ a d) : FnOk P w K mg base (L2.CX P w) 4 (a 19) (d 19) ["string"] (spM ⟨K, cl⟩ g_p_log_in) :=
  fn_okX 1 1 (k := 3) T.F_p_log_in sc_p_log_in fun cdv A outer s H E hr tk po =>
      (qss_one (qs_ret (qx_call (okx_p_told T) tk (hr.mono (by omega)) (by rfl) T.g_p_told T.F_p_told.kp (b_p_told T) (q_cons (q_call (ok_p_log_of T) (hr.mono (by omega)) (by rfl) T.g_p_log_of T.F_p_log_of.kp (b_p_log_of T) (q_cons (q_var 0) q_nil) sp_pure) q_nil) spx_pure).qe))
theorem ok_p_log_in (T : Txt P K mg cl sp_ a d) : FnOk P w K mg base CX0 4 (a 19) (d 19) ["string"] (spM ⟨K, cl⟩ f_p_log_in) := fn_quiet (okx_p_log_in T)
theorem b_p_row_of (T : Txt P K mg cl sp_ a d) : Binds K (d 20) ["words"] [] := T.F_p_row_of.binds (ps := ["words"]) fun _ _ _ _ _ _ us hl => match us, hl with | [_], _ => rfl
theorem ok_p_row_of (T : Txt P K mg cl sp_ a d) : FnOk P w K mg base CX0 2 (a 20) (d 20) ["words"] (spM ⟨K, cl⟩ f_p_row_of) :=
  fn_ok 3 1 (k := 1) T.F_p_row_of sc_p_row_of fun cdv A outer s H E hr =>
      (qss_cons (qs_if (q_tcmp (eqQ hr) (q_var 0) (q_globS (t := 0) (by rfl) T.c_NONE)) (qss_one (qs_ret (q_tup q_nil))) qss_nil)
      (qss_cons (qs_set 1 (q_callTy tupleQ (by rfl) T.n_tuple (by decide +kernel) (q_cons (q_lc [("word", 2)] (qi_items (q_split (q_var 0) (q_globS (t := 0) (by rfl) T.c_BLANK))) sc_p_row_of.nd (blkOk_by (N := N_p_row_of) (sc := defScope s_p_row_of) (by decide +kernel)) (fun _ _ _ _ _ => (qg_name 2 sc_p_row_of.nd)) (fun _ _ _ _ _ => (q_call (ok_p_number_of T) (hr.mono (by omega)) (by rfl) T.g_p_number_of T.F_p_number_of.kp (b_p_number_of T) (q_cons (q_var 2) q_nil) sp_pure))) q_nil)) sc_p_row_of.nd)
      (qss_one (qs_ret (q_ifE (q_tcmp (inQ hr) q_non (q_var 1)) q_non (q_var 1))))))
theorem b_p_row_in (T : Txt P K mg cl sp_ a d) : Binds K (d 21) ["string"] [] := T.F_p_row_in.binds (ps := ["string"]) fun _ _ _ _ _ _ us hl => match us, hl with | [_], _ => rfl
theorem okx_p_row_in (T : Txt P K mg cl sp_ a d) : FnOk P w K mg base (L2.CX P w) 3 (a 21) (d 21) ["string"] (spM ⟨K, cl⟩ g_p_row_in) :=
  fn_okX 1 1 (k := 2) T.F_p_row_in sc_p_row_in fun cdv A outer s H E hr tk po =>
      (qss_one (qs_ret (qx_call (okx_p_told T) tk (hr.mono (by omega)) (by rfl) T.g_p_told T.F_p_told.kp (b_p_told T) (q_cons (q_call (ok_p_row_of T) (hr.mono (by omega)) (by rfl) T.g_p_row_of T.F_p_row_of.kp (b_p_row_of T) (q_cons (q_var 0) q_nil) sp_pure) q_nil) spx_pure).qe))
theorem ok_p_row_in (T : Txt P K mg cl sp_ a d) : FnOk P w K mg base CX0 3 (a 21) (d 21) ["string"] (spM ⟨K, cl⟩ f_p_row_in) := fn_quiet (okx_p_row_in T)
theorem b_p_looks_of (T : Txt P K mg cl sp_ a d) : Binds K (d 22) ["words"] [] := T.F_p_looks_of.binds (ps := ["words"]) fun _ _ _ _ _ _ us hl => match us, hl with | [_], _ => rfl
theorem ok_p_looks_of (T : Txt P K mg cl sp_ a d) : FnOk P w K mg base CX0 4 (a 22) (d 22) ["words"] (spM ⟨K, cl⟩ f_p_looks_of) :=
  fn_ok 3 1 (k := 3) T.F_p_looks_of sc_p_looks_of fun cdv A outer s H E hr =>
      (qss_cons (qs_if (q_tcmp (eqQ hr) (q_var 0) (q_globS (t := 0) (by rfl) T.c_NONE)) (qss_one (qs_ret (q_tup q_nil))) qss_nil)
      (qss_cons (qs_set 1 (q_callTy tupleQ (by rfl) T.n_tuple (by decide +kernel) (q_cons (q_lc [("word", 2)] (qi_items (q_split (q_var 0) (q_globS (t := 0) (by rfl) T.c_BLANK))) sc_p_looks_of.nd (blkOk_by (N := N_p_looks_of) (sc := defScope s_p_looks_of) (by decide +kernel)) (fun _ _ _ _ _ => (qg_name 2 sc_p_looks_of.nd)) (fun _ _ _ _ _ => (q_call (ok_p_look_of T) (hr.mono (by omega)) (by rfl) T.g_p_look_of T.F_p_look_of.kp (b_p_look_of T) (q_cons (q_var 2) q_nil) sp_pure))) q_nil)) sc_p_looks_of.nd)
      (qss_one (qs_ret (q_ifE (q_tcmp (inQ hr) q_non (q_var 1)) q_non (q_var 1))))))
theorem b_p_looks_in (T : Txt P K mg cl sp_ a d) : Binds K (d 23) ["string"] [] := T.F_p_looks_in.binds (ps := ["string"]) fun _ _ _ _ _ _ us hl => match us, hl with | [_], _ => rfl
theorem okx_p_looks_in (T : Txt P K mg cl sp_ a d) : FnOk P w K mg base (L2.CX P w) 5 (a 23) (d 23) ["string"] (spM ⟨K, cl⟩ g_p_looks_in) :=
  fn_okX 1 1 (k := 4) T.F_p_looks_in sc_p_looks_in fun cdv A outer s H E hr tk po =>
      (qss_one (qs_ret (qx_call (okx_p_told T) tk (hr.mono (by omega)) (by rfl) T.g_p_told T.F_p_told.kp (b_p_told T) (q_cons (q_call (ok_p_looks_of T) (hr.mono (by omega)) (by rfl) T.g_p_looks_of T.F_p_looks_of.kp (b_p_looks_of T) (q_cons (q_var 0) q_nil) sp_pure) q_nil) spx_pure).qe))
theorem ok_p_looks_in (T : Txt P K mg cl sp_ a d) : FnOk P w K mg base CX0 5 (a 23) (d 23) ["string"] (spM ⟨K, cl⟩ f_p_looks_in) := fn_quiet (okx_p_looks_in T)
theorem b_l_read (T : Txt P K mg cl sp_ a d) : Binds K (d 24) ["_law_sort_so", "_law_string_so"] [] := T.F_l_read.binds (ps := ["_law_sort_so", "_law_string_so"]) fun _ _ _ _ _ _ us hl => match us, hl with | [_, _], _ => rfl
theorem ok_l_read (T : Txt P K mg cl sp_ a d) : FnOk P w K mg base CX0 7 (a 24) (d 24) ["_law_sort_so", "_law_string_so"] (spM ⟨K, cl⟩ f_l_read) :=
  fn_ok 6 2 (k := 6) T.F_l_read sc_l_read fun cdv A outer s H E hr =>
      (qss_cons (qs_asg (q_tup (q_cons q_non (q_cons q_non q_nil))) (qg_tup 2 (qgs_cons (qg_name 2 sc_l_read.nd) (qgs_cons (qg_name 3 sc_l_read.nd) qgs_nil))))
      (qss_cons (qs_try rfl rfl rfl sc_l_read.nd (fun W pn xe tk po => (qxs_one (qx_if (q_tcmp (eqQ hr) (q_var 0) q_str) (qxs_one (qx_set 2 (qx_call (okx_p_limit_in T) tk (hr.mono (by omega)) (by rfl) T.g_p_limit_in T.F_p_limit_in.kp (b_p_limit_in T) (q_cons (q_var 1) q_nil) spx_pure) sc_l_read.nd)) (qxs_one (qx_if (q_tcmp (eqQ hr) (q_var 0) q_str) (qxs_then (qx_set 2 (qx_call (okx_p_share_in T) tk (hr.mono (by omega)) (by rfl) T.g_p_share_in T.F_p_share_in.kp (b_p_share_in T) (q_cons (q_var 1) q_nil) spx_pure) sc_l_read.nd) (qss_one (qs_set 2 (q_meth0 (c := 0) (q_var 2) T.cls_0.2 T.meth_0_parts (raw0 (ok_p_Share_parts T) (b_p_Share_parts T)) (hr.mono (by omega)) sp_pure) sc_l_read.nd))) (qxs_one (qx_if (q_tcmp (eqQ hr) (q_var 0) q_str) (qxs_one (qx_set 2 (qx_call (okx_p_look_in T) tk (hr.mono (by omega)) (by rfl) T.g_p_look_in T.F_p_look_in.kp (b_p_look_in T) (q_cons (q_var 1) q_nil) spx_pure) sc_l_read.nd)) (qxs_one (qx_if (q_tcmp (eqQ hr) (q_var 0) q_str) (qxs_one (qx_set 2 (qx_call (okx_p_log_in T) tk (hr.mono (by omega)) (by rfl) T.g_p_log_in T.F_p_log_in.kp (b_p_log_in T) (q_cons (q_var 1) q_nil) spx_pure) sc_l_read.nd)) (qxs_one (qx_set 2 (qx_ifE (q_tcmp (eqQ hr) (q_var 0) q_str) (qx_call (okx_p_row_in T) tk (hr.mono (by omega)) (by rfl) T.g_p_row_in T.F_p_row_in.kp (b_p_row_in T) (q_cons (q_var 1) q_nil) spx_pure) (qx_call (okx_p_looks_in T) tk (hr.mono (by omega)) (by rfl) T.g_p_looks_in T.F_p_looks_in.kp (b_p_looks_in T) (q_cons (q_var 1) q_nil) spx_pure)) sc_l_read.nd))))))))))) (.cons rfl rfl (hdt_tup (.cons ⟨by rfl, by decide, .inl T.exq_14.1⟩ (.cons ⟨by rfl, by decide, .inl T.exq_13.1⟩ (.cons ⟨by rfl, by decide, .inl T.exq_12.1⟩ (.cons ⟨by rfl, by decide, .inl T.exq_7.1⟩ (.cons ⟨by rfl, by decide, .inl T.exq_8.1⟩ (.cons ⟨by rfl, by decide, .inl T.exq_9.1⟩ (.cons ⟨by rfl, by decide, .inl T.exq_11.1⟩ (.cons ⟨by rfl, by decide, .inl T.exq_10.1⟩ .nil)))))))) (Nat.le_of_ble_eq_true rfl) (tab_cons T.exms_13_BadLine_BadText_Contradiction_NoMinute_NoWay_NothingDone_TooMany_Unlike tab_nil)) (fun _ _ => (qss_one (qs_set 3 (q_var 4) sc_l_read.nd))) .nil))
      (qss_cons (qs_if (q_tisN (q_var 3)) (qss_one (qs_ret (q_var 2))) qss_nil)
      (qss_cons (qs_set 5 (q_andV (q_isX [(13, true)] (q_var 3) (by rfl) T.n_isinstance (pe_glob (v := .ref (cl 13)) (by rfl) T.exq_13.1 rfl) (.own _) (tab_cons ⟨T.exq_13.2, T.kit_13_BadText⟩ tab_nil)) (q_oneV (q_isX [(13, true)] (q_var 3) (by rfl) T.n_isinstance (pe_bltn (v := .ty "ValueError") (by rfl) T.n_ValueError (by decide +kernel) rfl) (.ty _) (tab_cons ⟨T.exq_13.2, T.kit_13_ValueError⟩ tab_nil)))) sc_l_read.nd)
      (qss_one (qs_ret (q_ifE (q_w (q_and (q_test (q_var 5)) (q_and1 (q_not (q_test (q_isX3 [(13, false)] (q_var 3) (by rfl) T.n_isinstance (pe_glob (v := .ref (cl 14)) (by rfl) T.exq_14.1 rfl) (.own _) (pe_glob (v := .ref (cl 10)) (by rfl) T.exq_10.1 rfl) (.own _) (pe_bltn (v := .ty "LookupError") (by rfl) T.n_LookupError (by decide +kernel) rfl) (.ty _) (tab_cons ⟨T.exq_13.2, T.kits_13_BadLine_Unlike_LookupError⟩ tab_nil))))))) q_str q_str)))))))
theorem b_l_by_hand_right (T : Txt P K mg cl sp_ a d) : Binds K (d 25) [] [] := T.F_l_by_hand_right.binds (ps := []) fun _ _ _ _ _ _ us hl => match us, hl with | [], _ => rfl
theorem ok_l_by_hand_right (T : Txt P K mg cl sp_ a d) : FnOk P w K mg base CX0 32 (a 25) (d 25) [] (spM ⟨K, cl⟩ f_l_by_hand_right) :=
  fn_ok 3 0 (k := 31) T.F_l_by_hand_right sc_l_by_hand_right fun cdv A outer s H E hr =>
      (qss_cons (qs_set 0 (q_cell (q_cons (q_tup (q_cons q_str (q_cons q_str (q_cons (q_tup (q_cons q_int (q_cons q_int q_nil))) q_nil)))) (q_cons (q_tup (q_cons q_str (q_cons q_str (q_cons (q_tup (q_cons q_int (q_cons q_int q_nil))) q_nil)))) (q_cons (q_tup (q_cons q_str (q_cons q_str (q_cons q_str q_nil)))) (q_cons (q_tup (q_cons q_str (q_cons q_str (q_cons q_str q_nil)))) q_nil))))) sc_l_by_hand_right.nd)
      (qss_cons (qs_set 0 (q_op catC (q_var 0) (q_lst (q_cons (q_tup (q_cons q_str (q_cons q_str (q_cons q_str q_nil)))) (q_cons (q_tup (q_cons q_str (q_cons q_str (q_cons q_str q_nil)))) (q_cons (q_tup (q_cons q_str (q_cons q_str (q_cons q_str q_nil)))) q_nil))))) sc_l_by_hand_right.nd)
      (qss_cons (qs_expr (q_app (q_var 0) (q_tup (q_cons q_str (q_cons q_str (q_cons q_str q_nil))))))
      (qss_cons (qs_set 0 (q_op catC (q_var 0) (q_lst (q_cons (q_tup (q_cons q_str (q_cons q_str (q_cons (q_tup (q_cons q_int (q_cons q_int q_nil))) q_nil)))) (q_cons (q_tup (q_cons q_str (q_cons q_str (q_cons (q_tup (q_cons q_int (q_cons q_int q_nil))) q_nil)))) (q_cons (q_tup (q_cons q_str (q_cons q_str (q_cons (q_tup (q_cons q_int (q_cons q_int q_nil))) q_nil)))) q_nil))))) sc_l_by_hand_right.nd)
      (qss_cons (qs_expr (q_app (q_var 0) (q_tup (q_cons q_str (q_cons q_str (q_cons q_str q_nil))))))
      (qss_cons (qs_set 0 (q_op catC (q_var 0) (q_lst (q_cons (q_tup (q_cons q_str (q_cons q_str (q_cons q_str q_nil)))) (q_cons (q_tup (q_cons q_str (q_cons q_str (q_cons q_str q_nil)))) (q_cons (q_tup (q_cons q_str (q_cons q_str (q_cons q_str q_nil)))) (q_cons (q_tup (q_cons q_str (q_cons q_str (q_cons q_str q_nil)))) q_nil)))))) sc_l_by_hand_right.nd)
      (qss_cons (qs_set 0 (q_op catC (q_var 0) (q_lst (q_cons (q_tup (q_cons q_str (q_cons q_str (q_cons (q_tup (q_cons q_int (q_cons q_int q_nil))) q_nil)))) (q_cons (q_tup (q_cons q_str (q_cons q_str (q_cons q_str q_nil)))) (q_cons (q_tup (q_cons q_str (q_cons q_str (q_cons q_str q_nil)))) (q_cons (q_tup (q_cons q_str (q_cons q_str (q_cons q_str q_nil)))) q_nil)))))) sc_l_by_hand_right.nd)
      (qss_cons (qs_set 0 (q_op catC (q_var 0) (q_lst (q_cons (q_tup (q_cons q_str (q_cons q_str (q_cons (q_tup (q_cons (q_tup (q_cons q_int (q_cons q_int q_nil))) q_nil)) q_nil)))) (q_cons (q_tup (q_cons q_str (q_cons q_str (q_cons q_str q_nil)))) (q_cons (q_tup (q_cons q_str (q_cons q_str (q_cons q_str q_nil)))) (q_cons (q_tup (q_cons q_str (q_cons q_str (q_cons q_str q_nil)))) q_nil)))))) sc_l_by_hand_right.nd)
      (qss_cons (qs_set 0 (q_op catC (q_var 0) (q_lst (q_cons (q_tup (q_cons q_str (q_cons q_str (q_cons q_str q_nil)))) (q_cons (q_tup (q_cons q_str (q_cons q_str (q_cons (q_tup q_nil) q_nil)))) (q_cons (q_tup (q_cons q_str (q_cons q_str (q_cons q_str q_nil)))) (q_cons (q_tup (q_cons q_str (q_cons q_str (q_cons (q_tup (q_cons q_int (q_cons q_int (q_cons q_int q_nil)))) q_nil)))) q_nil)))))) sc_l_by_hand_right.nd)
      (qss_cons (qs_expr (q_app (q_var 0) (q_tup (q_cons q_str (q_cons q_str (q_cons q_str q_nil))))))
      (qss_cons (qs_set 0 (q_op catC (q_var 0) (q_lst (q_cons (q_tup (q_cons q_str (q_cons q_str (q_cons (q_tup q_nil) q_nil)))) (q_cons (q_tup (q_cons q_str (q_cons q_str (q_cons (q_tup (q_cons (q_tup (q_cons q_int (q_cons q_int q_nil))) (q_cons (q_tup (q_cons q_int (q_cons q_int q_nil))) (q_cons (q_tup (q_cons q_int (q_cons q_int q_nil))) q_nil)))) q_nil)))) (q_cons (q_tup (q_cons q_str (q_cons q_str (q_cons q_str q_nil)))) q_nil))))) sc_l_by_hand_right.nd)
      (qss_cons (qs_set 0 (q_op catC (q_var 0) (q_lst (q_cons (q_tup (q_cons q_str (q_cons q_str (q_cons q_str q_nil)))) (q_cons (q_tup (q_cons q_str (q_cons (q_op mulS q_str q_int) (q_cons (q_tup (q_cons (q_op subI (q_op powI q_int q_int) q_int) q_nil)) q_nil)))) (q_cons (q_tup (q_cons q_str (q_cons (q_op addQ q_str (q_op mulS q_str q_int)) (q_cons q_str q_nil)))) q_nil))))) sc_l_by_hand_right.nd)
      (qss_cons (qs_set 1 (q_op addQ q_str (q_op mulS q_str q_int)) sc_l_by_hand_right.nd)
      (qss_cons (qs_set 0 (q_op catC (q_var 0) (q_lst (q_cons (q_tup (q_cons q_str (q_cons (q_op addQ q_str (q_var 1)) (q_cons q_str q_nil)))) (q_cons (q_tup (q_cons q_str (q_cons (q_op addQ q_str (q_var 1)) (q_cons q_str q_nil)))) (q_cons (q_tup (q_cons q_str (q_cons (q_op addQ q_str (q_var 1)) (q_cons q_str q_nil)))) q_nil))))) sc_l_by_hand_right.nd)
      (qss_cons (qs_set 0 (q_op catC (q_var 0) (q_lst (q_cons (q_tup (q_cons q_str (q_cons (q_op addQ q_str (q_var 1)) (q_cons q_str q_nil)))) (q_cons (q_tup (q_cons q_str (q_cons (q_op addQ q_str (q_var 1)) (q_cons q_str q_nil)))) q_nil)))) sc_l_by_hand_right.nd)
      (qss_one (qs_ret (q_call (ok_l_same T 30) (hr.mono (by omega)) (by rfl) T.g_l_same T.F_l_same.kp (b_l_same T) (q_cons (q_lc [("_law_own", 2)] (qi_items (q_frz (q_var 0))) sc_l_by_hand_right.nd (blkOk_by (N := N_l_by_hand_right) (sc := defScope s_l_by_hand_right) (by decide +kernel)) (fun _ _ _ _ _ => (qg_name 2 sc_l_by_hand_right.nd)) (fun _ _ _ _ _ => (q_call (ok_l_read T) (hr.mono (by omega)) (by rfl) T.g_l_read T.F_l_read.kp (b_l_read T) (q_cons (q_ix (q_var 2) q_int) (q_cons (q_ix (q_var 2) q_int) q_nil)) sp_pure))) (q_cons (q_lc [("_law_own", 2)] (qi_items (q_frz (q_var 0))) sc_l_by_hand_right.nd (blkOk_by (N := N_l_by_hand_right) (sc := defScope s_l_by_hand_right) (by decide +kernel)) (fun _ _ _ _ _ => (qg_name 2 sc_l_by_hand_right.nd)) (fun _ _ _ _ _ => (q_ix (q_var 2) q_int))) q_nil)) sp_pure))))))))))))))))))
theorem b_p_pair_text (T : Txt P K mg cl sp_ a d) : Binds K (d 26) ["pair", "sign"] [] := T.F_p_pair_text.binds (ps := ["pair", "sign"]) fun _ _ _ _ _ _ us hl => match us, hl with | [_, _], _ => rfl
theorem ok_p_pair_text (T : Txt P K mg cl sp_ a d) : FnOk P w K mg base CX0 1 (a 26) (d 26) ["pair", "sign"] (spM ⟨K, cl⟩ f_p_pair_text) :=
  fn_ok 2 2 (k := 0) T.F_p_pair_text sc_p_pair_text fun cdv A outer s H E hr =>
      (qss_one (qs_ret (q_joined (qj_cons (q_fmt (q_ix (q_var 0) q_int)) (qj_cons (q_fmt (q_var 1)) (qj_cons (q_fmt (q_ix (q_var 0) q_int)) qj_nil))))))
theorem b_p_limit_text (T : Txt P K mg cl sp_ a d) : Binds K (d 27) ["limit"] [] := T.F_p_limit_text.binds (ps := ["limit"]) fun _ _ _ _ _ _ us hl => match us, hl with | [_], _ => rfl
theorem ok_p_limit_text (T : Txt P K mg cl sp_ a d) : FnOk P w K mg base CX0 2 (a 27) (d 27) ["limit"] (spM ⟨K, cl⟩ f_p_limit_text) :=
  fn_ok 1 1 (k := 1) T.F_p_limit_text sc_p_limit_text fun cdv A outer s H E hr =>
      (qss_one (qs_ret (q_call (ok_p_pair_text T) (hr.mono (by omega)) (by rfl) T.g_p_pair_text T.F_p_pair_text.kp (b_p_pair_text T) (q_cons (q_var 0) (q_cons q_str q_nil)) sp_pure)))
theorem b_p_share_text (T : Txt P K mg cl sp_ a d) : Binds K (d 28) ["share"] [] := T.F_p_share_text.binds (ps := ["share"]) fun _ _ _ _ _ _ us hl => match us, hl with | [_], _ => rfl
theorem ok_p_share_text (T : Txt P K mg cl sp_ a d) : FnOk P w K mg base CX0 2 (a 28) (d 28) ["share"] (spM ⟨K, cl⟩ f_p_share_text) :=
  fn_ok 1 1 (k := 1) T.F_p_share_text sc_p_share_text fun cdv A outer s H E hr =>
      (qss_one (qs_ret (q_call (ok_p_pair_text T) (hr.mono (by omega)) (by rfl) T.g_p_pair_text T.F_p_pair_text.kp (b_p_pair_text T) (q_cons (q_meth0 (c := 0) (q_var 0) T.cls_0.2 T.meth_0_parts (raw0 (ok_p_Share_parts T) (b_p_Share_parts T)) (hr.mono (by omega)) sp_pure) (q_cons q_str q_nil)) sp_pure)))
theorem b_p_look_text (T : Txt P K mg cl sp_ a d) : Binds K (d 29) ["stretch"] [] := T.F_p_look_text.binds (ps := ["stretch"]) fun _ _ _ _ _ _ us hl => match us, hl with | [_], _ => rfl
theorem ok_p_look_text (T : Txt P K mg cl sp_ a d) : FnOk P w K mg base CX0 2 (a 29) (d 29) ["stretch"] (spM ⟨K, cl⟩ f_p_look_text) :=
  fn_ok 1 1 (k := 1) T.F_p_look_text sc_p_look_text fun cdv A outer s H E hr =>
      (qss_one (qs_ret (q_call (ok_p_pair_text T) (hr.mono (by omega)) (by rfl) T.g_p_pair_text T.F_p_pair_text.kp (b_p_pair_text T) (q_cons (q_var 0) (q_cons q_str q_nil)) sp_pure)))
theorem b_p_log_text (T : Txt P K mg cl sp_ a d) : Binds K (d 30) ["log"] [] := T.F_p_log_text.binds (ps := ["log"]) fun _ _ _ _ _ _ us hl => match us, hl with | [_], _ => rfl
theorem ok_p_log_text (T : Txt P K mg cl sp_ a d) : FnOk P w K mg base CX0 2 (a 30) (d 30) ["log"] (spM ⟨K, cl⟩ f_p_log_text) :=
  fn_ok 2 1 (k := 1) T.F_p_log_text sc_p_log_text fun cdv A outer s H E hr =>
      (qss_one (qs_ret (q_join (q_globS (t := 0) (by rfl) T.c_BLANK) (q_lc [("minute", 1)] (qi_items (q_var 0)) sc_p_log_text.nd (blkOk_by (N := N_p_log_text) (sc := defScope s_p_log_text) (by decide +kernel)) (fun _ _ _ _ _ => (qg_name 1 sc_p_log_text.nd)) (fun _ _ _ _ _ => (q_call (ok_p_pair_text T) (hr.mono (by omega)) (by rfl) T.g_p_pair_text T.F_p_pair_text.kp (b_p_pair_text T) (q_cons (q_var 1) (q_cons q_str q_nil)) sp_pure))))))
theorem b_p_words_text (T : Txt P K mg cl sp_ a d) : Binds K (d 31) ["words"] [] := T.F_p_words_text.binds (ps := ["words"]) fun _ _ _ _ _ _ us hl => match us, hl with | [_], _ => rfl
theorem ok_p_words_text (T : Txt P K mg cl sp_ a d) : FnOk P w K mg base CX0 1 (a 31) (d 31) ["words"] (spM ⟨K, cl⟩ f_p_words_text) :=
  fn_ok 1 1 (k := 0) T.F_p_words_text sc_p_words_text fun cdv A outer s H E hr =>
      (qss_one (qs_ret (q_ifE (q_tcmp gtI (q_callB lenQ (by rfl) T.n_len (by decide +kernel) (q_cons (q_var 0) q_nil)) q_int) (q_join (q_globS (t := 0) (by rfl) T.c_BLANK) (q_var 0)) (q_globS (t := 0) (by rfl) T.c_NONE))))
theorem b_p_row_text (T : Txt P K mg cl sp_ a d) : Binds K (d 32) ["row"] [] := T.F_p_row_text.binds (ps := ["row"]) fun _ _ _ _ _ _ us hl => match us, hl with | [_], _ => rfl
theorem ok_p_row_text (T : Txt P K mg cl sp_ a d) : FnOk P w K mg base CX0 2 (a 32) (d 32) ["row"] (spM ⟨K, cl⟩ f_p_row_text) :=
  fn_ok 2 1 (k := 1) T.F_p_row_text sc_p_row_text fun cdv A outer s H E hr =>
      (qss_one (qs_ret (q_call (ok_p_words_text T) (hr.mono (by omega)) (by rfl) T.g_p_words_text T.F_p_words_text.kp (b_p_words_text T) (q_cons (q_lc [("place", 1)] (qi_items (q_var 0)) sc_p_row_text.nd (blkOk_by (N := N_p_row_text) (sc := defScope s_p_row_text) (by decide +kernel)) (fun _ _ _ _ _ => (qg_name 1 sc_p_row_text.nd)) (fun _ _ _ _ _ => (q_callTy strIQ (by rfl) T.n_str (by decide +kernel) (q_cons (q_var 1) q_nil)))) q_nil) sp_pure)))
theorem b_p_looks_text (T : Txt P K mg cl sp_ a d) : Binds K (d 33) ["looks"] [] := T.F_p_looks_text.binds (ps := ["looks"]) fun _ _ _ _ _ _ us hl => match us, hl with | [_], _ => rfl
theorem ok_p_looks_text (T : Txt P K mg cl sp_ a d) : FnOk P w K mg base CX0 3 (a 33) (d 33) ["looks"] (spM ⟨K, cl⟩ f_p_looks_text) :=
  fn_ok 2 1 (k := 2) T.F_p_looks_text sc_p_looks_text fun cdv A outer s H E hr =>
      (qss_one (qs_ret (q_call (ok_p_words_text T) (hr.mono (by omega)) (by rfl) T.g_p_words_text T.F_p_words_text.kp (b_p_words_text T) (q_cons (q_lc [("look", 1)] (qi_items (q_var 0)) sc_p_looks_text.nd (blkOk_by (N := N_p_looks_text) (sc := defScope s_p_looks_text) (by decide +kernel)) (fun _ _ _ _ _ => (qg_name 1 sc_p_looks_text.nd)) (fun _ _ _ _ _ => (q_call (ok_p_look_text T) (hr.mono (by omega)) (by rfl) T.g_p_look_text T.F_p_look_text.kp (b_p_look_text T) (q_cons (q_var 1) q_nil) sp_pure))) q_nil) sp_pure)))
theorem b_l_names_right (T : Txt P K mg cl sp_ a d) : Binds K (d 34) [] [] := T.F_l_names_right.binds (ps := []) fun _ _ _ _ _ _ us hl => match us, hl with | [], _ => rfl
theorem ok_l_names_right (T : Txt P K mg cl sp_ a d) : FnOk P w K mg base CX0 32 (a 34) (d 34) [] (spM ⟨K, cl⟩ f_l_names_right) :=
  fn_ok 2 0 (k := 31) T.F_l_names_right sc_l_names_right fun cdv A outer s H E hr =>
      (qss_cons (qs_set 0 (q_lst (q_cons (q_callK0 (ok_p_limit_in T) (hr.mono (by omega)) (by rfl) T.g_p_limit_in T.F_p_limit_in.kp (kbn T.F_p_limit_in 0 [0] (ks := ["string"]) (ps := ["string"]) fun _ _ _ _ _ _ us ws h1 h2 => match us, ws, h1, h2 with | [], [_], _, _ => rfl) (qk_cons q_str qk_nil) sp_pure) (q_cons (q_meth0 (c := 0) (q_callK0 (ok_p_share_in T) (hr.mono (by omega)) (by rfl) T.g_p_share_in T.F_p_share_in.kp (kbn T.F_p_share_in 0 [0] (ks := ["string"]) (ps := ["string"]) fun _ _ _ _ _ _ us ws h1 h2 => match us, ws, h1, h2 with | [], [_], _, _ => rfl) (qk_cons q_str qk_nil) sp_pure) T.cls_0.2 T.meth_0_parts (raw0 (ok_p_Share_parts T) (b_p_Share_parts T)) (hr.mono (by omega)) sp_pure) (q_cons (q_callK0 (ok_p_look_in T) (hr.mono (by omega)) (by rfl) T.g_p_look_in T.F_p_look_in.kp (kbn T.F_p_look_in 0 [0] (ks := ["string"]) (ps := ["string"]) fun _ _ _ _ _ _ us ws h1 h2 => match us, ws, h1, h2 with | [], [_], _, _ => rfl) (qk_cons q_str qk_nil) sp_pure) (q_cons (q_callK0 (ok_p_log_in T) (hr.mono (by omega)) (by rfl) T.g_p_log_in T.F_p_log_in.kp (kbn T.F_p_log_in 0 [0] (ks := ["string"]) (ps := ["string"]) fun _ _ _ _ _ _ us ws h1 h2 => match us, ws, h1, h2 with | [], [_], _, _ => rfl) (qk_cons q_str qk_nil) sp_pure) q_nil))))) sc_l_names_right.nd)
      (qss_cons (qs_set 0 (q_op addQ (q_var 0) (q_lst (q_cons (q_callK0 (ok_p_row_in T) (hr.mono (by omega)) (by rfl) T.g_p_row_in T.F_p_row_in.kp (kbn T.F_p_row_in 0 [0] (ks := ["string"]) (ps := ["string"]) fun _ _ _ _ _ _ us ws h1 h2 => match us, ws, h1, h2 with | [], [_], _, _ => rfl) (qk_cons q_str qk_nil) sp_pure) (q_cons (q_callK0 (ok_p_looks_in T) (hr.mono (by omega)) (by rfl) T.g_p_looks_in T.F_p_looks_in.kp (kbn T.F_p_looks_in 0 [0] (ks := ["string"]) (ps := ["string"]) fun _ _ _ _ _ _ us ws h1 h2 => match us, ws, h1, h2 with | [], [_], _, _ => rfl) (qk_cons q_str qk_nil) sp_pure) (q_cons (q_callK0 (ok_p_limit_text T) (hr.mono (by omega)) (by rfl) T.g_p_limit_text T.F_p_limit_text.kp (kbn T.F_p_limit_text 0 [0] (ks := ["limit"]) (ps := ["limit"]) fun _ _ _ _ _ _ us ws h1 h2 => match us, ws, h1, h2 with | [], [_], _, _ => rfl) (qk_cons (q_tup (q_cons q_int (q_cons q_int q_nil))) qk_nil) sp_pure) (q_cons (q_callK0 (ok_p_share_text T) (hr.mono (by omega)) (by rfl) T.g_p_share_text T.F_p_share_text.kp (kbn T.F_p_share_text 0 [0] (ks := ["share"]) (ps := ["share"]) fun _ _ _ _ _ _ us ws h1 h2 => match us, ws, h1, h2 with | [], [_], _, _ => rfl) (qk_cons (q_make (c := 0) T.mkr_0 (ok_p_Share_init T) (hr.mono (by omega)) (by rfl) T.cls_0.1 (b_p_Share_init T) (q_cons q_int (q_cons q_int q_nil))) qk_nil) sp_pure) q_nil)))))) sc_l_names_right.nd)
      (qss_cons (qs_set 0 (q_op addQ (q_var 0) (q_lst (q_cons (q_callK0 (ok_p_look_text T) (hr.mono (by omega)) (by rfl) T.g_p_look_text T.F_p_look_text.kp (kbn T.F_p_look_text 0 [0] (ks := ["stretch"]) (ps := ["stretch"]) fun _ _ _ _ _ _ us ws h1 h2 => match us, ws, h1, h2 with | [], [_], _, _ => rfl) (qk_cons (q_tup (q_cons q_int (q_cons q_int q_nil))) qk_nil) sp_pure) (q_cons (q_callK0 (ok_p_log_text T) (hr.mono (by omega)) (by rfl) T.g_p_log_text T.F_p_log_text.kp (kbn T.F_p_log_text 0 [0] (ks := ["log"]) (ps := ["log"]) fun _ _ _ _ _ _ us ws h1 h2 => match us, ws, h1, h2 with | [], [_], _, _ => rfl) (qk_cons (q_tup (q_cons (q_tup (q_cons q_int (q_cons q_int q_nil))) q_nil)) qk_nil) sp_pure) (q_cons (q_callK0 (ok_p_row_text T) (hr.mono (by omega)) (by rfl) T.g_p_row_text T.F_p_row_text.kp (kbn T.F_p_row_text 0 [0] (ks := ["row"]) (ps := ["row"]) fun _ _ _ _ _ _ us ws h1 h2 => match us, ws, h1, h2 with | [], [_], _, _ => rfl) (qk_cons (q_tup q_nil) qk_nil) sp_pure) (q_cons (q_callK0 (ok_p_looks_text T) (hr.mono (by omega)) (by rfl) T.g_p_looks_text T.F_p_looks_text.kp (kbn T.F_p_looks_text 0 [0] (ks := ["looks"]) (ps := ["looks"]) fun _ _ _ _ _ _ us ws h1 h2 => match us, ws, h1, h2 with | [], [_], _, _ => rfl) (qk_cons (q_tup (q_cons (q_tup (q_cons q_int (q_cons q_int q_nil))) q_nil)) qk_nil) sp_pure) q_nil)))))) sc_l_names_right.nd)
      (qss_cons (qs_set 1 (q_lst (q_cons (q_tup (q_cons q_int (q_cons q_int q_nil))) (q_cons (q_tup (q_cons q_int (q_cons q_int q_nil))) (q_cons (q_tup (q_cons q_int (q_cons q_int q_nil))) (q_cons (q_tup (q_cons (q_tup (q_cons q_int (q_cons q_int q_nil))) q_nil)) (q_cons (q_tup q_nil) (q_cons (q_tup (q_cons (q_tup (q_cons q_int (q_cons q_int q_nil))) q_nil)) (q_cons q_str (q_cons q_str (q_cons q_str (q_cons q_str (q_cons q_str (q_cons q_str q_nil))))))))))))) sc_l_names_right.nd)
      (qss_one (qs_ret (q_call (ok_l_same T 30) (hr.mono (by omega)) (by rfl) T.g_l_same T.F_l_same.kp (b_l_same T) (q_cons (q_var 0) (q_cons (q_var 1) q_nil)) sp_pure)))))))
theorem b_l_take (T : Txt P K mg cl sp_ a d) : Binds K (d 35) ["_law_box_here", "_law_below"] [] := T.F_l_take.binds (ps := ["_law_box_here", "_law_below"]) fun _ _ _ _ _ _ us hl => match us, hl with | [_, _], _ => rfl
theorem ok_l_take (T : Txt P K mg cl sp_ a d) : FnOk P w K mg base CX0 1 (a 35) (d 35) ["_law_box_here", "_law_below"] (spM ⟨K, cl⟩ f_l_take) :=
  fn_ok 6 2 (k := 0) T.F_l_take sc_l_take fun cdv A outer s H E hr =>
      (qss_cons (qs_if (q_tcmp gtI (q_ix (q_var 0) q_int) q_int) (qss_cons (qs_set 2 (q_op modI (q_callTy intQ (by rfl) T.n_int (by decide +kernel) (q_cons (q_ix (q_var 0) q_int) q_nil)) (q_var 1)) sc_l_take.nd)
      (qss_cons (qs_asg (q_op divI (q_ix (q_var 0) q_int) (q_var 1)) (qg_sub (q_var 0) q_int))
      (qss_one (qs_ret (q_var 2))))) qss_nil)
      (qss_cons (qs_asg (q_op addQ (q_ix (q_var 0) q_int) q_int) (qg_sub (q_var 0) q_int))
      (qss_cons (qs_set 3 (q_op modI (q_callTy intQ (by rfl) T.n_int (by decide +kernel) (q_cons (q_op mulQ (q_op addQ (q_ix (q_var 0) q_int) (q_op mulQ q_int (q_ix (q_var 0) q_int))) (q_op addQ q_int (q_ix (q_var 0) q_int))) q_nil)) q_int) sc_l_take.nd)
      (qss_cons (qs_set 4 (q_op addQ (q_op modI (q_callTy intQ (by rfl) T.n_int (by decide +kernel) (q_cons (q_var 3) q_nil)) q_int) q_int) sc_l_take.nd)
      (qss_cons (qs_set 5 (q_op modI (q_callTy intQ (by rfl) T.n_int (by decide +kernel) (q_cons (q_op mulQ (q_op addQ (q_op addQ (q_var 3) (q_ix (q_var 0) q_int)) (q_op divI (q_ix (q_var 0) q_int) q_int)) (q_var 4)) q_nil)) q_int) sc_l_take.nd)
      (qss_one (qs_ret (q_op modI (q_callTy intQ (by rfl) T.n_int (by decide +kernel) (q_cons (q_op divI (q_op modI (q_callTy intQ (by rfl) T.n_int (by decide +kernel) (q_cons (q_op addQ (q_op mulQ (q_var 5) q_int) (q_var 3)) q_nil)) q_int) q_int) q_nil)) (q_var 1)))))))))
theorem b_l_of (T : Txt P K mg cl sp_ a d) : Binds K (d 36) ["_law_box_here", "_law_some"] [] := T.F_l_of.binds (ps := ["_law_box_here", "_law_some"]) fun _ _ _ _ _ _ us hl => match us, hl with | [_, _], _ => rfl
theorem ok_l_of (T : Txt P K mg cl sp_ a d) : FnOk P w K mg base CX0 2 (a 36) (d 36) ["_law_box_here", "_law_some"] (spM ⟨K, cl⟩ f_l_of) :=
  fn_ok 2 2 (k := 1) T.F_l_of sc_l_of fun cdv A outer s H E hr =>
      (qss_one (qs_ret (q_ix (q_var 1) (q_call (ok_l_take T) (hr.mono (by omega)) (by rfl) T.g_l_take T.F_l_take.kp (b_l_take T) (q_cons (q_var 0) (q_cons (q_callB lenQ (by rfl) T.n_len (by decide +kernel) (q_cons (q_var 1) q_nil)) q_nil)) sp_call))))
theorem b_l_number (T : Txt P K mg cl sp_ a d) : Binds K (d 37) ["_law_box_here"] [] := T.F_l_number.binds (ps := ["_law_box_here"]) fun _ _ _ _ _ _ us hl => match us, hl with | [_], _ => rfl
theorem ok_l_number (T : Txt P K mg cl sp_ a d) : FnOk P w K mg base CX0 3 (a 37) (d 37) ["_law_box_here"] (spM ⟨K, cl⟩ f_l_number) :=
  fn_ok 2 1 (k := 2) T.F_l_number sc_l_number fun cdv A outer s H E hr =>
      (qss_cons (qs_set 1 (q_call (ok_l_take T) (hr.mono (by omega)) (by rfl) T.g_l_take T.F_l_take.kp (b_l_take T) (q_cons (q_var 0) (q_cons q_int q_nil)) sp_call) sc_l_number.nd)
      (qss_cons (qs_if (q_tcmp ltI (q_var 1) q_int) (qss_one (qs_ret (q_call (ok_l_of T) (hr.mono (by omega)) (by rfl) T.g_l_of T.F_l_of.kp (b_l_of T) (q_cons (q_var 0) (q_cons (q_lst (q_cons q_int (q_cons q_int (q_cons q_int (q_cons q_int (q_cons q_int (q_cons q_int (q_cons q_int (q_cons q_int q_nil))))))))) q_nil)) sp_call))) qss_nil)
      (qss_cons (qs_if (q_tcmp (eqQ hr) (q_var 1) q_int) (qss_one (qs_ret (q_op subI (q_op subI (q_op powI q_int q_int) q_int) (q_call (ok_l_take T) (hr.mono (by omega)) (by rfl) T.g_l_take T.F_l_take.kp (b_l_take T) (q_cons (q_var 0) (q_cons q_int q_nil)) sp_call)))) qss_nil)
      (qss_one (qs_ret (q_call (ok_l_take T) (hr.mono (by omega)) (by rfl) T.g_l_take T.F_l_take.kp (b_l_take T) (q_cons (q_var 0) (q_cons (q_call (ok_l_of T) (hr.mono (by omega)) (by rfl) T.g_l_of T.F_l_of.kp (b_l_of T) (q_cons (q_var 0) (q_cons (q_lst (q_cons q_int (q_cons (q_op powI q_int q_int) (q_cons (q_op powI q_int q_int) (q_cons (q_op powI q_int q_int) q_nil))))) q_nil)) sp_call) q_nil)) sp_call))))))
theorem b_l_common (T : Txt P K mg cl sp_ a d) : Binds K (d 38) ["_law_one_so", "_law_its"] [] := T.F_l_common.binds (ps := ["_law_one_so", "_law_its"]) fun _ _ _ _ _ _ us hl => match us, hl with | [_, _], _ => rfl
theorem ok_l_common (T : Txt P K mg cl sp_ a d) : FnOk P w K mg base CX0 1 (a 38) (d 38) ["_law_one_so", "_law_its"] (spM ⟨K, cl⟩ f_l_common) :=
  fn_ok 2 2 (k := 0) T.F_l_common sc_l_common fun cdv A outer s H E hr =>
      (qss_cons (qs_while (fuelI 1) (q_tcmp gtI (q_var 1) q_int) (qss_one (qs_par 0 1 sc_l_common.nd (q_cons (q_var 1) (q_cons (q_op modI (q_callTy intQ (by rfl) T.n_int (by decide +kernel) (q_cons (q_var 0) q_nil)) (q_var 1)) q_nil)))))
      (qss_one (qs_ret (q_var 0))))
theorem b_l_limit (T : Txt P K mg cl sp_ a d) : Binds K (d 39) ["_law_box_here"] [] := T.F_l_limit.binds (ps := ["_law_box_here"]) fun _ _ _ _ _ _ us hl => match us, hl with | [_], _ => rfl
theorem ok_l_limit (T : Txt P K mg cl sp_ a d) : FnOk P w K mg base CX0 3 (a 39) (d 39) ["_law_box_here"] (spM ⟨K, cl⟩ f_l_limit) :=
  fn_ok 2 1 (k := 2) T.F_l_limit sc_l_limit fun cdv A outer s H E hr =>
      (qss_cons (qs_set 1 (q_call (ok_l_take T) (hr.mono (by omega)) (by rfl) T.g_l_take T.F_l_take.kp (b_l_take T) (q_cons (q_var 0) (q_cons q_int q_nil)) sp_call) sc_l_limit.nd)
      (qss_cons (qs_if (q_tcmp (eqQ hr) (q_var 1) q_int) (qss_one (qs_ret (q_tup (q_cons (q_op addQ q_int (q_call (ok_l_take T) (hr.mono (by omega)) (by rfl) T.g_l_take T.F_l_take.kp (b_l_take T) (q_cons (q_var 0) (q_cons (q_op powI q_int q_int) q_nil)) sp_call)) (q_cons (q_op addQ (q_op addQ (q_op powI q_int q_int) q_int) (q_call (ok_l_take T) (hr.mono (by omega)) (by rfl) T.g_l_take T.F_l_take.kp (b_l_take T) (q_cons (q_var 0) (q_cons (q_op powI q_int q_int) q_nil)) sp_call)) q_nil))))) qss_nil)
      (qss_cons (qs_if (q_tcmp (eqQ hr) (q_var 1) q_int) (qss_one (qs_ret (q_tup (q_cons (q_op addQ q_int (q_op mulQ (q_call (ok_l_take T) (hr.mono (by omega)) (by rfl) T.g_l_take T.F_l_take.kp (b_l_take T) (q_cons (q_var 0) (q_cons q_int q_nil)) sp_call) q_int)) (q_cons q_int q_nil))))) qss_nil)
      (qss_one (qs_ret (q_call (ok_l_of T) (hr.mono (by omega)) (by rfl) T.g_l_of T.F_l_of.kp (b_l_of T) (q_cons (q_var 0) (q_cons (q_lst (q_cons (q_tup (q_cons q_int (q_cons q_int q_nil))) (q_cons (q_tup (q_cons q_int (q_cons q_int q_nil))) (q_cons (q_tup (q_cons q_int (q_cons q_int q_nil))) (q_cons (q_tup (q_cons q_int (q_cons q_int q_nil))) (q_cons (q_tup (q_cons q_int (q_cons q_int q_nil))) (q_cons (q_tup (q_cons q_int (q_cons q_int q_nil))) q_nil))))))) q_nil)) sp_call))))))
theorem b_l_drawn (T : Txt P K mg cl sp_ a d) : Binds K (d 40) ["_law_box_here", "_law_sort_so"] [] := T.F_l_drawn.binds (ps := ["_law_box_here", "_law_sort_so"]) fun _ _ _ _ _ _ us hl => match us, hl with | [_, _], _ => rfl
theorem ok_l_drawn (T : Txt P K mg cl sp_ a d) : FnOk P w K mg base CX0 4 (a 40) (d 40) ["_law_box_here", "_law_sort_so"] (spM ⟨K, cl⟩ f_l_drawn) :=
  fn_ok 12 2 (k := 3) T.F_l_drawn sc_l_drawn fun cdv A outer s H E hr =>
      (qss_cons (qs_par 2 3 sc_l_drawn.nd (q_cons (q_call (ok_l_number T) (hr.mono (by omega)) (by rfl) T.g_l_number T.F_l_number.kp (b_l_number T) (q_cons (q_var 0) q_nil) sp_call) (q_cons (q_call (ok_l_number T) (hr.mono (by omega)) (by rfl) T.g_l_number T.F_l_number.kp (b_l_number T) (q_cons (q_var 0) q_nil) sp_call) q_nil)))
      (qss_cons (qs_if (q_tcmp (eqQ hr) (q_var 1) q_str) (qss_cons (qs_set 4 (q_call (ok_l_of T) (hr.mono (by omega)) (by rfl) T.g_l_of T.F_l_of.kp (b_l_of T) (q_cons (q_var 0) (q_cons (q_lst (q_cons (q_call (ok_l_limit T) (hr.mono (by omega)) (by rfl) T.g_l_limit T.F_l_limit.kp (b_l_limit T) (q_cons (q_var 0) q_nil) sp_call) (q_cons (q_tup (q_cons (q_op addQ (q_var 2) q_int) (q_cons (q_op addQ (q_op addQ (q_var 2) q_int) (q_var 3)) q_nil))) q_nil))) q_nil)) sp_call) sc_l_drawn.nd)
      (qss_cons (qs_set 4 (q_ifE (q_tcmp ltI (q_callB (maxTQ hr) (by rfl) T.n_max (by decide +kernel) (q_cons (q_var 4) q_nil)) (q_op powI q_int q_int)) (q_var 4) (q_tup (q_cons q_int (q_cons q_int q_nil)))) sc_l_drawn.nd)
      (qss_one (qs_ret (q_tup (q_cons (q_var 4) (q_cons (q_op addQ (q_op addQ (q_callTy strIQ (by rfl) T.n_str (by decide +kernel) (q_cons (q_ix (q_var 4) q_int) q_nil)) q_str) (q_callTy strIQ (by rfl) T.n_str (by decide +kernel) (q_cons (q_ix (q_var 4) q_int) q_nil))) q_nil))))))) qss_nil)
      (qss_cons (qs_if (q_tcmp (eqQ hr) (q_var 1) q_str) (qss_cons (qs_par 5 6 sc_l_drawn.nd (q_cons (q_callB min2Q (by rfl) T.n_min (by decide +kernel) (q_cons (q_var 2) (q_cons (q_var 3) q_nil))) (q_cons (q_callB max3Q (by rfl) T.n_max (by decide +kernel) (q_cons (q_var 2) (q_cons (q_var 3) (q_cons q_int q_nil)))) q_nil)))
      (qss_cons (qs_set 7 (q_call (ok_l_common T) (hr.mono (by omega)) (by rfl) T.g_l_common T.F_l_common.kp (b_l_common T) (q_cons (q_var 6) (q_cons (q_var 5) q_nil)) sp_pure) sc_l_drawn.nd)
      (qss_one (qs_ret (q_tup (q_cons (q_tup (q_cons (q_op divI (q_var 5) (q_var 7)) (q_cons (q_op divI (q_var 6) (q_var 7)) q_nil))) (q_cons (q_op addQ (q_op addQ (q_callTy strIQ (by rfl) T.n_str (by decide +kernel) (q_cons (q_op divI (q_var 5) (q_var 7)) q_nil)) q_str) (q_callTy strIQ (by rfl) T.n_str (by decide +kernel) (q_cons (q_op divI (q_var 6) (q_var 7)) q_nil))) q_nil))))))) qss_nil)
      (qss_cons (qs_if (q_tcmp (eqQ hr) (q_var 1) q_str) (qss_cons (qs_par 5 6 sc_l_drawn.nd (q_cons (q_callB min2Q (by rfl) T.n_min (by decide +kernel) (q_cons (q_var 2) (q_cons (q_var 3) q_nil))) (q_cons (q_callB max2Q (by rfl) T.n_max (by decide +kernel) (q_cons (q_var 2) (q_cons (q_var 3) q_nil))) q_nil)))
      (qss_cons (qs_set 6 (q_op addQ (q_var 6) (q_callTy intQ (by rfl) T.n_int (by decide +kernel) (q_cons (q_cmp (eqQ hr) (q_var 5) (q_var 6)) q_nil))) sc_l_drawn.nd)
      (qss_cons (qs_set 6 (q_ifE (q_tcmp ltI (q_var 6) (q_op powI q_int q_int)) (q_var 6) (q_op subI (q_var 5) q_int)) sc_l_drawn.nd)
      (qss_cons (qs_par 5 6 sc_l_drawn.nd (q_cons (q_callB min2Q (by rfl) T.n_min (by decide +kernel) (q_cons (q_var 5) (q_cons (q_var 6) q_nil))) (q_cons (q_callB max2Q (by rfl) T.n_max (by decide +kernel) (q_cons (q_var 5) (q_cons (q_var 6) q_nil))) q_nil)))
      (qss_one (qs_ret (q_tup (q_cons (q_tup (q_cons (q_var 5) (q_cons (q_var 6) q_nil))) (q_cons (q_op addQ (q_op addQ (q_callTy strIQ (by rfl) T.n_str (by decide +kernel) (q_cons (q_var 5) q_nil)) q_str) (q_callTy strIQ (by rfl) T.n_str (by decide +kernel) (q_cons (q_var 6) q_nil))) q_nil))))))))) qss_nil)
      (qss_cons (qs_set 8 (q_call (ok_l_take T) (hr.mono (by omega)) (by rfl) T.g_l_take T.F_l_take.kp (b_l_take T) (q_cons (q_var 0) (q_cons (q_call (ok_l_of T) (hr.mono (by omega)) (by rfl) T.g_l_of T.F_l_of.kp (b_l_of T) (q_cons (q_var 0) (q_cons (q_lst (q_cons q_int (q_cons q_int (q_cons q_int q_nil)))) q_nil)) sp_call) q_nil)) sp_call) sc_l_drawn.nd)
      (qss_cons (qs_if (q_tcmp (eqQ hr) (q_var 1) q_str) (qss_cons (qs_set 4 (q_callTy tupleQ (by rfl) T.n_tuple (by decide +kernel) (q_cons (q_lc [("_law_turn", 10)] (qi_range1 (q_var 8) (by rfl) T.n_range) sc_l_drawn.nd (blkOk_by (N := N_l_drawn) (sc := defScope s_l_drawn) (by decide +kernel)) (fun _ _ _ _ _ => (qg_name 10 sc_l_drawn.nd)) (fun _ _ _ _ _ => (q_call (ok_l_number T) (hr.mono (by omega)) (by rfl) T.g_l_number T.F_l_number.kp (b_l_number T) (q_cons (q_var 0) q_nil) sp_call))) q_nil)) sc_l_drawn.nd)
      (qss_one (qs_ret (q_tup (q_cons (q_var 4) (q_cons (q_ifE (q_tcmp (neQ hr) (q_var 4) (q_tup q_nil)) (q_join q_str (q_lc [("_law_bit", 11)] (qi_items (q_var 4)) sc_l_drawn.nd (blkOk_by (N := N_l_drawn) (sc := defScope s_l_drawn) (by decide +kernel)) (fun _ _ _ _ _ => (qg_name 11 sc_l_drawn.nd)) (fun _ _ _ _ _ => (q_callTy strIQ (by rfl) T.n_str (by decide +kernel) (q_cons (q_var 11) q_nil))))) q_str) q_nil)))))) qss_nil)
      (qss_cons (qs_if (q_tcmp (eqQ hr) (q_var 1) q_str) (qss_cons (qs_set 4 (q_callTy tupleQ (by rfl) T.n_tuple (by decide +kernel) (q_cons (q_lc [("_law_turn", 10)] (qi_range1 (q_op addQ (q_var 8) q_int) (by rfl) T.n_range) sc_l_drawn.nd (blkOk_by (N := N_l_drawn) (sc := defScope s_l_drawn) (by decide +kernel)) (fun _ _ _ _ _ => (qg_name 10 sc_l_drawn.nd)) (fun _ _ _ _ _ => (q_tup (q_cons (q_call (ok_l_number T) (hr.mono (by omega)) (by rfl) T.g_l_number T.F_l_number.kp (b_l_number T) (q_cons (q_var 0) q_nil) sp_call) (q_cons (q_call (ok_l_number T) (hr.mono (by omega)) (by rfl) T.g_l_number T.F_l_number.kp (b_l_number T) (q_cons (q_var 0) q_nil) sp_call) q_nil))))) q_nil)) sc_l_drawn.nd)
      (qss_one (qs_ret (q_tup (q_cons (q_var 4) (q_cons (q_join q_str (q_lc [("_law_bit", 11)] (qi_items (q_var 4)) sc_l_drawn.nd (blkOk_by (N := N_l_drawn) (sc := defScope s_l_drawn) (by decide +kernel)) (fun _ _ _ _ _ => (qg_name 11 sc_l_drawn.nd)) (fun _ _ _ _ _ => (q_op addQ (q_op addQ (q_callTy strIQ (by rfl) T.n_str (by decide +kernel) (q_cons (q_ix (q_var 11) q_int) q_nil)) q_str) (q_callTy strIQ (by rfl) T.n_str (by decide +kernel) (q_cons (q_ix (q_var 11) q_int) q_nil)))))) q_nil)))))) qss_nil)
      (qss_cons (qs_setLc 9 [("_law_turn", 10)] false (qi_range1 (q_var 8) (by rfl) T.n_range) sc_l_drawn.nd (blkOk_by (N := N_l_drawn) (sc := defScope s_l_drawn) (by decide +kernel)) (fun _ _ _ _ _ => (qg_name 10 sc_l_drawn.nd)) (fun _ _ _ _ _ => ts_nil) (fun _ _ _ _ _ => (q_call (ok_l_take T) (hr.mono (by omega)) (by rfl) T.g_l_take T.F_l_take.kp (b_l_take T) (q_cons (q_var 0) (q_cons q_int q_nil)) sp_call)))
      (qss_cons (qs_set 4 (q_callTy tupleQ (by rfl) T.n_tuple (by decide +kernel) (q_cons (q_lc [("_law_bit", 11)] (qi_items (q_var 9)) sc_l_drawn.nd (blkOk_by (N := N_l_drawn) (sc := defScope s_l_drawn) (by decide +kernel)) (fun _ _ _ _ _ => (qg_name 11 sc_l_drawn.nd)) (fun _ _ _ _ _ => (q_tup (q_cons (q_var 11) (q_cons (q_op addQ (q_op addQ (q_var 11) q_int) (q_call (ok_l_take T) (hr.mono (by omega)) (by rfl) T.g_l_take T.F_l_take.kp (b_l_take T) (q_cons (q_var 0) (q_cons q_int q_nil)) sp_call)) q_nil))))) q_nil)) sc_l_drawn.nd)
      (qss_one (qs_ret (q_tup (q_cons (q_var 4) (q_cons (q_ifE (q_tcmp (neQ hr) (q_var 4) (q_tup q_nil)) (q_join q_str (q_lc [("_law_bit", 11)] (qi_items (q_var 4)) sc_l_drawn.nd (blkOk_by (N := N_l_drawn) (sc := defScope s_l_drawn) (by decide +kernel)) (fun _ _ _ _ _ => (qg_name 11 sc_l_drawn.nd)) (fun _ _ _ _ _ => (q_op addQ (q_op addQ (q_callTy strIQ (by rfl) T.n_str (by decide +kernel) (q_cons (q_ix (q_var 11) q_int) q_nil)) q_str) (q_callTy strIQ (by rfl) T.n_str (by decide +kernel) (q_cons (q_ix (q_var 11) q_int) q_nil)))))) q_str) q_nil))))))))))))))
theorem b_l_written (T : Txt P K mg cl sp_ a d) : Binds K (d 41) ["_law_sort_so", "_law_mat"] [] := T.F_l_written.binds (ps := ["_law_sort_so", "_law_mat"]) fun _ _ _ _ _ _ us hl => match us, hl with | [_, _], _ => rfl
theorem ok_l_written (T : Txt P K mg cl sp_ a d) : FnOk P w K mg base CX0 5 (a 41) (d 41) ["_law_sort_so", "_law_mat"] (spM ⟨K, cl⟩ f_l_written) :=
  fn_ok 2 2 (k := 4) T.F_l_written sc_l_written fun cdv A outer s H E hr =>
      (qss_cons (qs_if (q_tcmp (eqQ hr) (q_var 0) q_str) (qss_one (qs_ret (q_call (ok_p_limit_text T) (hr.mono (by omega)) (by rfl) T.g_p_limit_text T.F_p_limit_text.kp (b_p_limit_text T) (q_cons (q_var 1) q_nil) sp_pure))) qss_nil)
      (qss_cons (qs_if (q_tcmp (eqQ hr) (q_var 0) q_str) (qss_one (qs_ret (q_call (ok_p_share_text T) (hr.mono (by omega)) (by rfl) T.g_p_share_text T.F_p_share_text.kp (b_p_share_text T) (q_cons (q_make (c := 0) T.mkr_0 (ok_p_Share_init T) (hr.mono (by omega)) (by rfl) T.cls_0.1 (b_p_Share_init T) (q_cons (q_op mulQ (q_ix (q_var 1) q_int) q_int) (q_cons (q_op mulQ (q_ix (q_var 1) q_int) q_int) q_nil))) q_nil) sp_pure))) qss_nil)
      (qss_cons (qs_if (q_tcmp (eqQ hr) (q_var 0) q_str) (qss_one (qs_ret (q_call (ok_p_look_text T) (hr.mono (by omega)) (by rfl) T.g_p_look_text T.F_p_look_text.kp (b_p_look_text T) (q_cons (q_var 1) q_nil) sp_pure))) qss_nil)
      (qss_cons (qs_if (q_tcmp (eqQ hr) (q_var 0) q_str) (qss_one (qs_ret (q_call (ok_p_log_text T) (hr.mono (by omega)) (by rfl) T.g_p_log_text T.F_p_log_text.kp (b_p_log_text T) (q_cons (q_var 1) q_nil) sp_pure))) qss_nil)
      (qss_one (qs_ret (q_ifE (q_tcmp (eqQ hr) (q_var 0) q_str) (q_call (ok_p_row_text T) (hr.mono (by omega)) (by rfl) T.g_p_row_text T.F_p_row_text.kp (b_p_row_text T) (q_cons (q_var 1) q_nil) sp_pure) (q_call (ok_p_looks_text T) (hr.mono (by omega)) (by rfl) T.g_p_looks_text T.F_p_looks_text.kp (b_p_looks_text T) (q_cons (q_var 1) q_nil) sp_pure))))))))
theorem b_l_bent (T : Txt P K mg cl sp_ a d) : Binds K (d 42) ["_law_box_here", "_law_string_so"] [] := T.F_l_bent.binds (ps := ["_law_box_here", "_law_string_so"]) fun _ _ _ _ _ _ us hl => match us, hl with | [_, _], _ => rfl
theorem ok_l_bent (T : Txt P K mg cl sp_ a d) : FnOk P w K mg base CX0 3 (a 42) (d 42) ["_law_box_here", "_law_string_so"] (spM ⟨K, cl⟩ f_l_bent) :=
  fn_ok 5 2 (k := 2) T.F_l_bent sc_l_bent fun cdv A outer s H E hr =>
      (qss_cons (qs_par 2 3 sc_l_bent.nd (q_cons (q_call (ok_l_take T) (hr.mono (by omega)) (by rfl) T.g_l_take T.F_l_take.kp (b_l_take T) (q_cons (q_var 0) (q_cons q_int q_nil)) sp_call) (q_cons (q_call (ok_l_take T) (hr.mono (by omega)) (by rfl) T.g_l_take T.F_l_take.kp (b_l_take T) (q_cons (q_var 0) (q_cons (q_op addQ (q_callB lenQ (by rfl) T.n_len (by decide +kernel) (q_cons (q_var 1) q_nil)) q_int) q_nil)) sp_call) q_nil)))
      (qss_cons (qs_set 4 (q_call (ok_l_of T) (hr.mono (by omega)) (by rfl) T.g_l_of T.F_l_of.kp (b_l_of T) (q_cons (q_var 0) (q_cons (q_lst (q_cons q_str (q_cons q_str (q_cons q_str (q_cons q_str (q_cons q_str (q_cons q_str (q_cons q_str (q_cons q_str (q_cons q_str (q_cons q_str (q_cons q_str (q_cons q_str q_nil))))))))))))) q_nil)) sp_call) sc_l_bent.nd)
      (qss_cons (qs_if (q_tcmp (eqQ hr) (q_var 2) q_int) (qss_one (qs_ret (q_op addQ (q_op addQ (q_sl (q_var 1) q_noO (q_soO (q_var 3))) (q_var 4)) (q_sl (q_var 1) (q_soO (q_var 3)) q_noO)))) qss_nil)
      (qss_cons (qs_if (q_tcmp (eqQ hr) (q_var 2) q_int) (qss_one (qs_ret (q_op addQ (q_sl (q_var 1) q_noO (q_soO (q_var 3))) (q_sl (q_var 1) (q_soO (q_op addQ (q_var 3) q_int)) q_noO)))) qss_nil)
      (qss_cons (qs_if (q_tcmp (eqQ hr) (q_var 2) q_int) (qss_one (qs_set 4 (q_sl (q_var 1) (q_soO (q_var 3)) (q_soO (q_op addQ (q_var 3) q_int))) sc_l_bent.nd)) qss_nil)
      (qss_one (qs_ret (q_op addQ (q_op addQ (q_sl (q_var 1) q_noO (q_soO (q_var 3))) (q_var 4)) (q_sl (q_var 1) (q_soO (q_op subI (q_op addQ (q_var 3) (q_var 2)) q_int)) q_noO)))))))))
theorem b_l_lists (T : Txt P K mg cl sp_ a d) : Binds K (d 43) ["_law_matter"] [] := T.F_l_lists.binds (ps := ["_law_matter"]) fun _ _ _ _ _ _ us hl => match us, hl with | [_], _ => rfl
theorem ok_l_lists (T : Txt P K mg cl sp_ a d) (k : Nat) : FnOk P w K mg base CX0 (0 + k) (a 43) (d 43) ["_law_matter"] (spM ⟨K, cl⟩ (f_l_lists k)) := by
  induction k with
  | zero => exact fn_none
  | succ k ih =>
    exact fn_ok 2 1 (k := 0 + k) T.F_l_lists sc_l_lists fun cdv A outer s H E hr =>
      (qss_one (qs_ret (q_ifE (q_test (q_isi2 .list .tuple (q_var 0) (by rfl) T.n_isinstance (by rfl) T.n_list (by decide +kernel) (by rfl) T.n_tuple (by decide +kernel))) (q_lc [("_law_bit", 1)] (qi_items (q_var 0)) sc_l_lists.nd (blkOk_by (N := N_l_lists) (sc := defScope s_l_lists) (by decide +kernel)) (fun _ _ _ _ _ => (qg_name 1 sc_l_lists.nd)) (fun _ _ _ _ _ => (q_call ih (hr.mono (by omega)) (by rfl) T.g_l_lists T.F_l_lists.kp (b_l_lists T) (q_cons (q_var 1) q_nil) sp_pure))) (q_var 0))))
theorem b_l_value (T : Txt P K mg cl sp_ a d) : Binds K (d 44) ["_law_word_so"] [] := T.F_l_value.binds (ps := ["_law_word_so"]) fun _ _ _ _ _ _ us hl => match us, hl with | [_], _ => rfl
theorem ok_l_value (T : Txt P K mg cl sp_ a d) : FnOk P w K mg base CX0 1 (a 44) (d 44) ["_law_word_so"] (spM ⟨K, cl⟩ f_l_value) :=
  fn_ok 2 1 (k := 0) T.F_l_value sc_l_value fun cdv A outer s H E hr =>
      (qss_cons (qs_if (q_w (q_or (q_tcmp (eqQ hr) (q_var 0) q_str) (q_or (q_tcmp gtI (q_callB lenQ (by rfl) T.n_len (by decide +kernel) (q_cons (q_var 0) q_nil)) q_int) (q_or1 (q_tcmp (neQ hr) (q_lcIf [("_law_sign", 1)] (qi_chars (q_var 0)) sc_l_value.nd (blkOk_by (N := N_l_value) (sc := defScope s_l_value) (by decide +kernel)) (fun _ _ _ _ _ => (qg_name 1 sc_l_value.nd)) (fun _ _ _ _ _ => (q_tcmp ninS (q_var 1) q_str)) (fun _ _ _ _ _ => (q_var 1))) (q_lst q_nil)))))) (qss_one (qs_ret q_non)) qss_nil)
      (qss_one (qs_ret (q_ifE (q_w (q_or (q_tcmp (eqQ hr) (q_var 0) q_str) (q_or1 (q_tcmp (neQ hr) (q_ix (q_var 0) q_int) q_str)))) (q_callTy intTQ (by rfl) T.n_int (by decide +kernel) (q_cons (q_var 0) q_nil)) q_non))))
theorem b_l_pair (T : Txt P K mg cl sp_ a d) : Binds K (d 45) ["_law_word_so", "_law_sign_so"] [] := T.F_l_pair.binds (ps := ["_law_word_so", "_law_sign_so"]) fun _ _ _ _ _ _ us hl => match us, hl with | [_, _], _ => rfl
theorem ok_l_pair (T : Txt P K mg cl sp_ a d) : FnOk P w K mg base CX0 2 (a 45) (d 45) ["_law_word_so", "_law_sign_so"] (spM ⟨K, cl⟩ f_l_pair) :=
  fn_ok 4 2 (k := 1) T.F_l_pair sc_l_pair fun cdv A outer s H E hr =>
      (qss_cons (qs_set 2 (q_callTy tupleQ (by rfl) T.n_tuple (by decide +kernel) (q_cons (q_lc [("_law_bit", 3)] (qi_items (q_split (q_var 0) (q_var 1))) sc_l_pair.nd (blkOk_by (N := N_l_pair) (sc := defScope s_l_pair) (by decide +kernel)) (fun _ _ _ _ _ => (qg_name 3 sc_l_pair.nd)) (fun _ _ _ _ _ => (q_call (ok_l_value T) (hr.mono (by omega)) (by rfl) T.g_l_value T.F_l_value.kp (b_l_value T) (q_cons (q_var 3) q_nil) sp_pure))) q_nil)) sc_l_pair.nd)
      (qss_one (qs_ret (q_ifE (q_w (q_and (q_tcmp (eqQ hr) (q_callB lenQ (by rfl) T.n_len (by decide +kernel) (q_cons (q_var 2) q_nil)) q_int) (q_and1 (q_tcmp (ninQ hr) q_non (q_var 2))))) (q_var 2) q_non))))
theorem b_l_due (T : Txt P K mg cl sp_ a d) : Binds K (d 46) ["_law_sort_so", "_law_string_so"] [] := T.F_l_due.binds (ps := ["_law_sort_so", "_law_string_so"]) fun _ _ _ _ _ _ us hl => match us, hl with | [_, _], _ => rfl
theorem ok_l_due (T : Txt P K mg cl sp_ a d) : FnOk P w K mg base CX0 3 (a 46) (d 46) ["_law_sort_so", "_law_string_so"] (spM ⟨K, cl⟩ f_l_due) :=
  fn_ok 7 2 (k := 2) T.F_l_due sc_l_due fun cdv A outer s H E hr =>
      (qss_cons (qs_if (q_w (q_and (q_tcmp (inQ hr) (q_var 0) (q_tup (q_cons q_str (q_cons q_str q_nil)))) (q_and1 (q_tcmp (eqQ hr) (q_var 1) q_str)))) (qss_one (qs_ret (q_tup q_nil))) qss_nil)
      (qss_cons (qs_if (q_tcmp (inQ hr) (q_var 0) (q_tup (q_cons q_str (q_cons q_str (q_cons q_str q_nil))))) (qss_cons (qs_set 2 (q_call (ok_l_pair T) (hr.mono (by omega)) (by rfl) T.g_l_pair T.F_l_pair.kp (b_l_pair T) (q_cons (q_var 1) (q_cons (q_ifE (q_tcmp (eqQ hr) (q_var 0) q_str) q_str q_str) q_nil)) sp_pure) sc_l_due.nd)
      (qss_cons (qs_if (q_tisN (q_var 2)) (qss_one (qs_ret q_str)) qss_nil)
      (qss_cons (qs_if (q_tcmp (eqQ hr) (q_var 0) q_str) (qss_cons (qs_set 3 (q_andV (q_cmp leI (q_ix (q_var 2) q_int) (q_ix (q_var 2) q_int)) (q_andV (q_cmp gtI (q_ix (q_var 2) q_int) q_int) (q_oneV (q_cmp (eqQ hr) (q_call (ok_l_common T) (hr.mono (by omega)) (by rfl) T.g_l_common T.F_l_common.kp (b_l_common T) (q_cons (q_ix (q_var 2) q_int) (q_cons (q_ix (q_var 2) q_int) q_nil)) sp_pure) q_int)))) sc_l_due.nd)
      (qss_one (qs_ret (q_ifE (q_test (q_var 3)) (q_var 2) q_str)))) qss_nil)
      (qss_one (qs_ret (q_ifE (q_w (q_and (q_tcmp ltI (q_ix (q_var 2) q_int) (q_ix (q_var 2) q_int)) (q_and1 (q_w (q_or (q_tcmp (eqQ hr) (q_var 0) q_str) (q_or1 (q_tcmp gtI (q_ix (q_var 2) q_int) q_int))))))) (q_var 2) q_str)))))) qss_nil)
      (qss_cons (qs_set 4 (q_split (q_var 1) q_str) sc_l_due.nd)
      (qss_cons (qs_if (q_tcmp (eqQ hr) (q_var 0) q_str) (qss_cons (qs_set 5 (q_callTy tupleQ (by rfl) T.n_tuple (by decide +kernel) (q_cons (q_lc [("_law_bit", 6)] (qi_items (q_var 4)) sc_l_due.nd (blkOk_by (N := N_l_due) (sc := defScope s_l_due) (by decide +kernel)) (fun _ _ _ _ _ => (qg_name 6 sc_l_due.nd)) (fun _ _ _ _ _ => (q_call (ok_l_value T) (hr.mono (by omega)) (by rfl) T.g_l_value T.F_l_value.kp (b_l_value T) (q_cons (q_var 6) q_nil) sp_pure))) q_nil)) sc_l_due.nd)
      (qss_one (qs_ret (q_ifE (q_tcmp (inQ hr) q_non (q_var 5)) q_str (q_var 5))))) qss_nil)
      (qss_cons (qs_set 5 (q_callTy tupleQ (by rfl) T.n_tuple (by decide +kernel) (q_cons (q_lc [("_law_bit", 6)] (qi_items (q_var 4)) sc_l_due.nd (blkOk_by (N := N_l_due) (sc := defScope s_l_due) (by decide +kernel)) (fun _ _ _ _ _ => (qg_name 6 sc_l_due.nd)) (fun _ _ _ _ _ => (q_call (ok_l_pair T) (hr.mono (by omega)) (by rfl) T.g_l_pair T.F_l_pair.kp (b_l_pair T) (q_cons (q_var 6) (q_cons (q_ifE (q_tcmp (eqQ hr) (q_var 0) q_str) q_str q_str) q_nil)) sp_pure))) q_nil)) sc_l_due.nd)
      (qss_cons (qs_if (q_tcmp (inQ hr) q_non (q_var 5)) (qss_one (qs_ret q_str)) qss_nil)
      (qss_one (qs_ret (q_ifE (q_w (q_and (q_tcmp (eqQ hr) (q_var 0) q_str) (q_and1 (q_tcmp (neQ hr) (q_lcIf [("_law_own", 2)] (qi_items (q_var 5)) sc_l_due.nd (blkOk_by (N := N_l_due) (sc := defScope s_l_due) (by decide +kernel)) (fun _ _ _ _ _ => (qg_name 2 sc_l_due.nd)) (fun _ _ _ _ _ => (q_tcmp geI (q_ix (q_var 2) q_int) (q_ix (q_var 2) q_int))) (fun _ _ _ _ _ => (q_var 2))) (q_lst q_nil))))) q_str (q_var 5))))))))))
theorem b_l_right (T : Txt P K mg cl sp_ a d) : Binds K (d 47) ["_law_box_here"] [] := T.F_l_right.binds (ps := ["_law_box_here"]) fun _ _ _ _ _ _ us hl => match us, hl with | [_], _ => rfl
theorem ok_l_right (T : Txt P K mg cl sp_ a d) : FnOk P w K mg base CX0 33 (a 47) (d 47) ["_law_box_here"] (spM ⟨K, cl⟩ f_l_right) :=
  fn_ok 9 1 (k := 32) T.F_l_right sc_l_right fun cdv A outer s H E hr =>
      (qss_cons (qs_if (q_w (q_or (q_not (q_test (q_call0 (ok_l_by_hand_right T) (hr.mono (by omega)) (by rfl) T.g_l_by_hand_right T.F_l_by_hand_right.kp (b_l_by_hand_right T) sp_pure))) (q_or1 (q_not (q_test (q_call0 (ok_l_names_right T) (hr.mono (by omega)) (by rfl) T.g_l_names_right T.F_l_names_right.kp (b_l_names_right T) sp_pure)))))) (qss_one (qs_ret q_bl)) qss_nil)
      (qss_cons (qs_for (qi_range1 q_int (by rfl) T.n_range) (qg_name 1 sc_l_right.nd) (qss_one (qs_for (qi_items (q_tup (q_cons q_str (q_cons q_str (q_cons q_str (q_cons q_str (q_cons q_str (q_cons q_str q_nil)))))))) (qg_name 2 sc_l_right.nd) (qss_cons (qs_asg (q_call (ok_l_drawn T) (hr.mono (by omega)) (by rfl) T.g_l_drawn T.F_l_drawn.kp (b_l_drawn T) (q_cons (q_var 0) (q_cons (q_var 2) q_nil)) sp_call) (qg_tup 2 (qgs_cons (qg_name 3 sc_l_right.nd) (qgs_cons (qg_name 4 sc_l_right.nd) qgs_nil))))
      (qss_one (qs_if (q_tcmp ltI (q_callB lenQ (by rfl) T.n_len (by decide +kernel) (q_cons (q_var 4) q_nil)) q_int) (qss_cons (qs_set 5 (q_cell (q_cons (q_call (ok_l_written T) (hr.mono (by omega)) (by rfl) T.g_l_written T.F_l_written.kp (b_l_written T) (q_cons (q_var 2) (q_cons (q_var 3) q_nil)) sp_pure) (q_cons (q_call (ok_l_written T) (hr.mono (by omega)) (by rfl) T.g_l_written T.F_l_written.kp (b_l_written T) (q_cons (q_var 2) (q_cons (q_call (ok_l_lists T 30) (hr.mono (by omega)) (by rfl) T.g_l_lists T.F_l_lists.kp (b_l_lists T) (q_cons (q_var 3) q_nil) sp_pure) q_nil)) sp_pure) q_nil))) sc_l_right.nd)
      (qss_cons (qs_expr (q_app (q_var 5) (q_call (ok_l_read T) (hr.mono (by omega)) (by rfl) T.g_l_read T.F_l_read.kp (b_l_read T) (q_cons (q_var 2) (q_cons (q_var 4) q_nil)) sp_pure)))
      (qss_cons (qs_if (q_not (q_test (q_call (ok_l_same T 30) (hr.mono (by omega)) (by rfl) T.g_l_same T.F_l_same.kp (b_l_same T) (q_cons (q_frz (q_var 5)) (q_cons (q_lst (q_cons (q_var 4) (q_cons (q_var 4) (q_cons (q_var 3) q_nil)))) q_nil)) sp_pure))) (qss_one (qs_ret q_bl)) qss_nil)
      (qss_cons (qs_setLc 6 [("_law_lap", 7)] false (qi_range1 q_int (by rfl) T.n_range) sc_l_right.nd (blkOk_by (N := N_l_right) (sc := defScope s_l_right) (by decide +kernel)) (fun _ _ _ _ _ => (qg_name 7 sc_l_right.nd)) (fun _ _ _ _ _ => ts_nil) (fun _ _ _ _ _ => (q_call (ok_l_bent T) (hr.mono (by omega)) (by rfl) T.g_l_bent T.F_l_bent.kp (b_l_bent T) (q_cons (q_var 0) (q_cons (q_var 4) q_nil)) sp_call)))
      (qss_one (qs_if (q_not (q_test (q_call (ok_l_same T 30) (hr.mono (by omega)) (by rfl) T.g_l_same T.F_l_same.kp (b_l_same T) (q_cons (q_lc [("_law_own", 8)] (qi_items (q_var 6)) sc_l_right.nd (blkOk_by (N := N_l_right) (sc := defScope s_l_right) (by decide +kernel)) (fun _ _ _ _ _ => (qg_name 8 sc_l_right.nd)) (fun _ _ _ _ _ => (q_call (ok_l_read T) (hr.mono (by omega)) (by rfl) T.g_l_read T.F_l_read.kp (b_l_read T) (q_cons (q_var 2) (q_cons (q_var 8) q_nil)) sp_pure))) (q_cons (q_lc [("_law_own", 8)] (qi_items (q_var 6)) sc_l_right.nd (blkOk_by (N := N_l_right) (sc := defScope s_l_right) (by decide +kernel)) (fun _ _ _ _ _ => (qg_name 8 sc_l_right.nd)) (fun _ _ _ _ _ => (q_call (ok_l_due T) (hr.mono (by omega)) (by rfl) T.g_l_due T.F_l_due.kp (b_l_due T) (q_cons (q_var 2) (q_cons (q_var 8) q_nil)) sp_pure))) q_nil)) sp_pure))) (qss_one (qs_ret q_bl)) qss_nil)))))) qss_nil))))))
      (qss_one (qs_ret q_bl))))
theorem b_l_box (T : Txt P K mg cl sp_ a d) : Binds K (d 48) ["_law_script", "_law_k"] [] := T.F_l_box.binds (ps := ["_law_script", "_law_k"]) fun _ _ _ _ _ _ us hl => match us, hl with | [_, _], _ => rfl
theorem ok_l_box (T : Txt P K mg cl sp_ a d) : FnOk P w K mg base CX0 1 (a 48) (d 48) ["_law_script", "_law_k"] (spM ⟨K, cl⟩ f_l_box) :=
  fn_okC 3 2 (k := 0) T.F_l_box sc_l_box fun cdv A outer s H E hr =>
      (qss_cons (qs_set 2 (q_ifE (q_tcmp ltI (q_var 1) (q_callB lenQ (by rfl) T.n_len (by decide +kernel) (q_cons (q_var 0) q_nil))) (q_ix (q_var 0) (q_var 1)) q_int) sc_l_box.nd)
      (qss_one (qs_ret (q_cell (q_cons (q_op mulQ (q_callB absQ (by rfl) T.n_abs (by decide +kernel) (q_cons (q_var 2) q_nil)) (q_callTy intQ (by rfl) T.n_int (by decide +kernel) (q_cons (q_cmp geI (q_callB absQ (by rfl) T.n_abs (by decide +kernel) (q_cons (q_var 2) q_nil)) (q_op powI q_int q_int)) q_nil))) (q_cons (q_op addQ (q_op addQ (q_op modI (q_callTy intQ (by rfl) T.n_int (by decide +kernel) (q_cons (q_var 2) q_nil)) q_int) (q_op mulQ q_int (q_var 1))) q_int) (q_cons q_int q_nil)))))))
theorem ok_l_law (T : Txt P K mg cl sp_ a d) : FnOk P w K mg base CX0 34 (a 49) (d 49) ["_law_script"] (spM ⟨K, cl⟩ f_l_law) :=
  fn_ok 3 1 (k := 33) T.F_l_law sc_l_law fun cdv A outer s H E hr =>
      (qss_cons (qs_set 1 (q_call (ok_l_cells T) (hr.mono (by omega)) (by rfl) T.g_l_cells T.F_l_cells.kp (b_l_cells T) (q_cons (q_var 0) (q_cons q_int q_nil)) sp_pure) sc_l_law.nd)
      (qss_one (qs_ret (q_callB allQ (by rfl) T.n_all (by decide +kernel) (q_cons (q_lc [("_law_k", 2)] (qi_range1 (q_callB lenQ (by rfl) T.n_len (by decide +kernel) (q_cons (q_var 1) q_nil)) (by rfl) T.n_range) sc_l_law.nd (blkOk_by (N := N_l_law) (sc := defScope s_l_law) (by decide +kernel)) (fun _ _ _ _ _ => (qg_name 2 sc_l_law.nd)) (fun _ _ _ _ _ => (q_call (ok_l_right T) (hr.mono (by omega)) (by rfl) T.g_l_right T.F_l_right.kp (b_l_right T) (q_cons (q_call (ok_l_box T) (hr.mono (by omega)) (by rfl) T.g_l_box T.F_l_box.kp (b_l_box T) (q_cons (q_var 1) (q_cons (q_var 2) q_nil)) sp_call) q_nil) sp_call))) q_nil)))))
end
theorem factsR {P : Program} {w : World} {K : PySem.W.Frag} {h : Heap} {mg : Str → Option Value} {f : Addr} (X : K.In h) (G : h.Ns PySem.mainGlobals mg) (hfa : mg ("law" : Str) = some (.ref f)) (c : SaysQ fas fns K) (hPf : ((P.main.file : Str) == ("/claim/cut.py" : Str)) = true) (hPt : (P.main.scope.names.lookup ("super" : Str)).isSome = false) :
    ∃ fd : FuncData, (∀ (s : Shared) (v : Value), BindsTo s fd ⟨[v], []⟩ [("_law_script", v)]) ∧ ∀ base : Heap, K.In base → base.Ns PySem.mainGlobals mg → FnOk P w K mg base CX0 34 f fd ["_law_script"] (spLaw K) := by
  obtain ⟨fd0, F0⟩ := c.def_ 0 (d := ⟨.glo "_law_cells", "_law_cells", "_law_cells", s_l_cells⟩) rfl
  obtain ⟨fd1, F1⟩ := c.def_ 1 (d := ⟨.glo "_law_same", "_law_same", "_law_same", s_l_same⟩) rfl
  obtain ⟨fd2, F2⟩ := c.def_ 2 (d := ⟨.glo "told", "told", "told", s_p_told⟩) rfl
  obtain ⟨fd3, F3⟩ := c.def_ 3 (d := ⟨.glo "number_of", "number_of", "number_of", s_p_number_of⟩) rfl
  obtain ⟨fd4, F4⟩ := c.def_ 4 (d := ⟨.glo "pair_of", "pair_of", "pair_of", s_p_pair_of⟩) rfl
  obtain ⟨fd5, F5⟩ := c.def_ 5 (d := ⟨.glo "is_tuple", "is_tuple", "is_tuple", s_p_is_tuple⟩) rfl
  obtain ⟨fd6, F6⟩ := c.def_ 6 (d := ⟨.glo "is_number", "is_number", "is_number", s_p_is_number⟩) rfl
  obtain ⟨fd7, F7⟩ := c.def_ 7 (d := ⟨.glo "is_limit", "is_limit", "is_limit", s_p_is_limit⟩) rfl
  obtain ⟨fd8, F8⟩ := c.def_ 8 (d := ⟨.glo "limit_of", "limit_of", "limit_of", s_p_limit_of⟩) rfl
  obtain ⟨fd9, F9⟩ := c.def_ 9 (d := ⟨.glo "limit_in", "limit_in", "limit_in", s_p_limit_in⟩) rfl
  obtain ⟨fd10, F10⟩ := c.def_ 10 (d := ⟨.glo "common_divisor", "common_divisor", "common_divisor", s_p_common_divisor⟩) rfl
  obtain ⟨fd11, F11⟩ := c.def_ 11 (d := ⟨.glo "reduced", "reduced", "reduced", s_p_reduced⟩) rfl
  obtain ⟨fd12, F12⟩ := c.def_ 12 (d := ⟨.meth 0 "__init__", "__init__", "Share.__init__", s_p_Share_init⟩) rfl
  obtain ⟨fd13, F13⟩ := c.def_ 13 (d := ⟨.meth 0 "parts", "parts", "Share.parts", s_p_Share_parts⟩) rfl
  obtain ⟨fd14, F14⟩ := c.def_ 14 (d := ⟨.glo "share_of", "share_of", "share_of", s_p_share_of⟩) rfl
  obtain ⟨fd15, F15⟩ := c.def_ 15 (d := ⟨.glo "share_in", "share_in", "share_in", s_p_share_in⟩) rfl
  obtain ⟨fd16, F16⟩ := c.def_ 16 (d := ⟨.glo "look_of", "look_of", "look_of", s_p_look_of⟩) rfl
  obtain ⟨fd17, F17⟩ := c.def_ 17 (d := ⟨.glo "look_in", "look_in", "look_in", s_p_look_in⟩) rfl
  obtain ⟨fd18, F18⟩ := c.def_ 18 (d := ⟨.glo "log_of", "log_of", "log_of", s_p_log_of⟩) rfl
  obtain ⟨fd19, F19⟩ := c.def_ 19 (d := ⟨.glo "log_in", "log_in", "log_in", s_p_log_in⟩) rfl
  obtain ⟨fd20, F20⟩ := c.def_ 20 (d := ⟨.glo "row_of", "row_of", "row_of", s_p_row_of⟩) rfl
  obtain ⟨fd21, F21⟩ := c.def_ 21 (d := ⟨.glo "row_in", "row_in", "row_in", s_p_row_in⟩) rfl
  obtain ⟨fd22, F22⟩ := c.def_ 22 (d := ⟨.glo "looks_of", "looks_of", "looks_of", s_p_looks_of⟩) rfl
  obtain ⟨fd23, F23⟩ := c.def_ 23 (d := ⟨.glo "looks_in", "looks_in", "looks_in", s_p_looks_in⟩) rfl
  obtain ⟨fd24, F24⟩ := c.def_ 24 (d := ⟨.glo "_law_read", "_law_read", "_law_read", s_l_read⟩) rfl
  obtain ⟨fd25, F25⟩ := c.def_ 25 (d := ⟨.glo "_law_by_hand_right", "_law_by_hand_right", "_law_by_hand_right", s_l_by_hand_right⟩) rfl
  obtain ⟨fd26, F26⟩ := c.def_ 26 (d := ⟨.glo "pair_text", "pair_text", "pair_text", s_p_pair_text⟩) rfl
  obtain ⟨fd27, F27⟩ := c.def_ 27 (d := ⟨.glo "limit_text", "limit_text", "limit_text", s_p_limit_text⟩) rfl
  obtain ⟨fd28, F28⟩ := c.def_ 28 (d := ⟨.glo "share_text", "share_text", "share_text", s_p_share_text⟩) rfl
  obtain ⟨fd29, F29⟩ := c.def_ 29 (d := ⟨.glo "look_text", "look_text", "look_text", s_p_look_text⟩) rfl
  obtain ⟨fd30, F30⟩ := c.def_ 30 (d := ⟨.glo "log_text", "log_text", "log_text", s_p_log_text⟩) rfl
  obtain ⟨fd31, F31⟩ := c.def_ 31 (d := ⟨.glo "words_text", "words_text", "words_text", s_p_words_text⟩) rfl
  obtain ⟨fd32, F32⟩ := c.def_ 32 (d := ⟨.glo "row_text", "row_text", "row_text", s_p_row_text⟩) rfl
  obtain ⟨fd33, F33⟩ := c.def_ 33 (d := ⟨.glo "looks_text", "looks_text", "looks_text", s_p_looks_text⟩) rfl
  obtain ⟨fd34, F34⟩ := c.def_ 34 (d := ⟨.glo "_law_names_right", "_law_names_right", "_law_names_right", s_l_names_right⟩) rfl
  obtain ⟨fd35, F35⟩ := c.def_ 35 (d := ⟨.glo "_law_take", "_law_take", "_law_take", s_l_take⟩) rfl
  obtain ⟨fd36, F36⟩ := c.def_ 36 (d := ⟨.glo "_law_of", "_law_of", "_law_of", s_l_of⟩) rfl
  obtain ⟨fd37, F37⟩ := c.def_ 37 (d := ⟨.glo "_law_number", "_law_number", "_law_number", s_l_number⟩) rfl
  obtain ⟨fd38, F38⟩ := c.def_ 38 (d := ⟨.glo "_law_common", "_law_common", "_law_common", s_l_common⟩) rfl
  obtain ⟨fd39, F39⟩ := c.def_ 39 (d := ⟨.glo "_law_limit", "_law_limit", "_law_limit", s_l_limit⟩) rfl
  obtain ⟨fd40, F40⟩ := c.def_ 40 (d := ⟨.glo "_law_drawn", "_law_drawn", "_law_drawn", s_l_drawn⟩) rfl
  obtain ⟨fd41, F41⟩ := c.def_ 41 (d := ⟨.glo "_law_written", "_law_written", "_law_written", s_l_written⟩) rfl
  obtain ⟨fd42, F42⟩ := c.def_ 42 (d := ⟨.glo "_law_bent", "_law_bent", "_law_bent", s_l_bent⟩) rfl
  obtain ⟨fd43, F43⟩ := c.def_ 43 (d := ⟨.glo "_law_lists", "_law_lists", "_law_lists", s_l_lists⟩) rfl
  obtain ⟨fd44, F44⟩ := c.def_ 44 (d := ⟨.glo "_law_value", "_law_value", "_law_value", s_l_value⟩) rfl
  obtain ⟨fd45, F45⟩ := c.def_ 45 (d := ⟨.glo "_law_pair", "_law_pair", "_law_pair", s_l_pair⟩) rfl
  obtain ⟨fd46, F46⟩ := c.def_ 46 (d := ⟨.glo "_law_due", "_law_due", "_law_due", s_l_due⟩) rfl
  obtain ⟨fd47, F47⟩ := c.def_ 47 (d := ⟨.glo "_law_right", "_law_right", "_law_right", s_l_right⟩) rfl
  obtain ⟨fd48, F48⟩ := c.def_ 48 (d := ⟨.glo "_law_box", "_law_box", "_law_box", s_l_box⟩) rfl
  obtain ⟨fd49, F49⟩ := c.def_ 49 (d := ⟨.glo "law", "law", "law", s_l_law⟩) rfl
  have e := hfa.symm.trans (qf_glo X G (c.fact 47 (f := .glo "law") rfl))
  cases e
  let aa : Nat → Addr := fun i => match i with | 0 => Dat.ad K (.glo "_law_cells") | 1 => Dat.ad K (.glo "_law_same") | 2 => Dat.ad K (.glo "told") | 3 => Dat.ad K (.glo "number_of") | 4 => Dat.ad K (.glo "pair_of") | 5 => Dat.ad K (.glo "is_tuple") | 6 => Dat.ad K (.glo "is_number") | 7 => Dat.ad K (.glo "is_limit") | 8 => Dat.ad K (.glo "limit_of") | 9 => Dat.ad K (.glo "limit_in") | 10 => Dat.ad K (.glo "common_divisor") | 11 => Dat.ad K (.glo "reduced") | 12 => Dat.ad K (.meth 0 "__init__") | 13 => Dat.ad K (.meth 0 "parts") | 14 => Dat.ad K (.glo "share_of") | 15 => Dat.ad K (.glo "share_in") | 16 => Dat.ad K (.glo "look_of") | 17 => Dat.ad K (.glo "look_in") | 18 => Dat.ad K (.glo "log_of") | 19 => Dat.ad K (.glo "log_in") | 20 => Dat.ad K (.glo "row_of") | 21 => Dat.ad K (.glo "row_in") | 22 => Dat.ad K (.glo "looks_of") | 23 => Dat.ad K (.glo "looks_in") | 24 => Dat.ad K (.glo "_law_read") | 25 => Dat.ad K (.glo "_law_by_hand_right") | 26 => Dat.ad K (.glo "pair_text") | 27 => Dat.ad K (.glo "limit_text") | 28 => Dat.ad K (.glo "share_text") | 29 => Dat.ad K (.glo "look_text") | 30 => Dat.ad K (.glo "log_text") | 31 => Dat.ad K (.glo "words_text") | 32 => Dat.ad K (.glo "row_text") | 33 => Dat.ad K (.glo "looks_text") | 34 => Dat.ad K (.glo "_law_names_right") | 35 => Dat.ad K (.glo "_law_take") | 36 => Dat.ad K (.glo "_law_of") | 37 => Dat.ad K (.glo "_law_number") | 38 => Dat.ad K (.glo "_law_common") | 39 => Dat.ad K (.glo "_law_limit") | 40 => Dat.ad K (.glo "_law_drawn") | 41 => Dat.ad K (.glo "_law_written") | 42 => Dat.ad K (.glo "_law_bent") | 43 => Dat.ad K (.glo "_law_lists") | 44 => Dat.ad K (.glo "_law_value") | 45 => Dat.ad K (.glo "_law_pair") | 46 => Dat.ad K (.glo "_law_due") | 47 => Dat.ad K (.glo "_law_right") | 48 => Dat.ad K (.glo "_law_box") | 49 => Dat.ad K (.glo "law") | 50 => Dat.ad K (.exc 13) | _ => 0
  let dd : Nat → FuncData := fun i => match i with | 0 => fd0 | 1 => fd1 | 2 => fd2 | 3 => fd3 | 4 => fd4 | 5 => fd5 | 6 => fd6 | 7 => fd7 | 8 => fd8 | 9 => fd9 | 10 => fd10 | 11 => fd11 | 12 => fd12 | 13 => fd13 | 14 => fd14 | 15 => fd15 | 16 => fd16 | 17 => fd17 | 18 => fd18 | 19 => fd19 | 20 => fd20 | 21 => fd21 | 22 => fd22 | 23 => fd23 | 24 => fd24 | 25 => fd25 | 26 => fd26 | 27 => fd27 | 28 => fd28 | 29 => fd29 | 30 => fd30 | 31 => fd31 | 32 => fd32 | 33 => fd33 | 34 => fd34 | 35 => fd35 | 36 => fd36 | 37 => fd37 | 38 => fd38 | 39 => fd39 | 40 => fd40 | 41 => fd41 | 42 => fd42 | 43 => fd43 | 44 => fd44 | 45 => fd45 | 46 => fd46 | 47 => fd47 | 48 => fd48 | 49 => fd49 | _ => fd0
  have T : Txt P K mg (clK K) (fun c f => He.ma K (clK K c) f) aa dd := {
    F_l_cells := F0
    F_l_same := F1
    F_p_told := F2
    F_p_number_of := F3
    F_p_pair_of := F4
    F_p_is_tuple := F5
    F_p_is_number := F6
    F_p_is_limit := F7
    F_p_limit_of := F8
    F_p_limit_in := F9
    F_p_common_divisor := F10
    F_p_reduced := F11
    F_p_Share_init := F12
    F_p_Share_parts := F13
    F_p_share_of := F14
    F_p_share_in := F15
    F_p_look_of := F16
    F_p_look_in := F17
    F_p_log_of := F18
    F_p_log_in := F19
    F_p_row_of := F20
    F_p_row_in := F21
    F_p_looks_of := F22
    F_p_looks_in := F23
    F_l_read := F24
    F_l_by_hand_right := F25
    F_p_pair_text := F26
    F_p_limit_text := F27
    F_p_share_text := F28
    F_p_look_text := F29
    F_p_log_text := F30
    F_p_words_text := F31
    F_p_row_text := F32
    F_p_looks_text := F33
    F_l_names_right := F34
    F_l_take := F35
    F_l_of := F36
    F_l_number := F37
    F_l_common := F38
    F_l_limit := F39
    F_l_drawn := F40
    F_l_written := F41
    F_l_bent := F42
    F_l_lists := F43
    F_l_value := F44
    F_l_pair := F45
    F_l_due := F46
    F_l_right := F47
    F_l_box := F48
    F_l_law := F49
    g_l_cells := qf_glo X G (c.fact 0 (f := .glo "_law_cells") rfl)
    g_l_same := qf_glo X G (c.fact 1 (f := .glo "_law_same") rfl)
    g_p_told := qf_glo X G (c.fact 2 (f := .glo "told") rfl)
    g_p_number_of := qf_glo X G (c.fact 3 (f := .glo "number_of") rfl)
    g_p_pair_of := qf_glo X G (c.fact 4 (f := .glo "pair_of") rfl)
    g_p_is_tuple := qf_glo X G (c.fact 5 (f := .glo "is_tuple") rfl)
    g_p_is_number := qf_glo X G (c.fact 6 (f := .glo "is_number") rfl)
    g_p_is_limit := qf_glo X G (c.fact 7 (f := .glo "is_limit") rfl)
    g_p_limit_of := qf_glo X G (c.fact 8 (f := .glo "limit_of") rfl)
    g_p_limit_in := qf_glo X G (c.fact 9 (f := .glo "limit_in") rfl)
    g_p_common_divisor := qf_glo X G (c.fact 10 (f := .glo "common_divisor") rfl)
    g_p_reduced := qf_glo X G (c.fact 11 (f := .glo "reduced") rfl)
    g_p_share_of := qf_glo X G (c.fact 12 (f := .glo "share_of") rfl)
    g_p_share_in := qf_glo X G (c.fact 13 (f := .glo "share_in") rfl)
    g_p_look_of := qf_glo X G (c.fact 14 (f := .glo "look_of") rfl)
    g_p_look_in := qf_glo X G (c.fact 15 (f := .glo "look_in") rfl)
    g_p_log_of := qf_glo X G (c.fact 16 (f := .glo "log_of") rfl)
    g_p_log_in := qf_glo X G (c.fact 17 (f := .glo "log_in") rfl)
    g_p_row_of := qf_glo X G (c.fact 18 (f := .glo "row_of") rfl)
    g_p_row_in := qf_glo X G (c.fact 19 (f := .glo "row_in") rfl)
    g_p_looks_of := qf_glo X G (c.fact 20 (f := .glo "looks_of") rfl)
    g_p_looks_in := qf_glo X G (c.fact 21 (f := .glo "looks_in") rfl)
    g_l_read := qf_glo X G (c.fact 22 (f := .glo "_law_read") rfl)
    g_l_by_hand_right := qf_glo X G (c.fact 23 (f := .glo "_law_by_hand_right") rfl)
    g_p_pair_text := qf_glo X G (c.fact 24 (f := .glo "pair_text") rfl)
    g_p_limit_text := qf_glo X G (c.fact 25 (f := .glo "limit_text") rfl)
    g_p_share_text := qf_glo X G (c.fact 26 (f := .glo "share_text") rfl)
    g_p_look_text := qf_glo X G (c.fact 27 (f := .glo "look_text") rfl)
    g_p_log_text := qf_glo X G (c.fact 28 (f := .glo "log_text") rfl)
    g_p_words_text := qf_glo X G (c.fact 29 (f := .glo "words_text") rfl)
    g_p_row_text := qf_glo X G (c.fact 30 (f := .glo "row_text") rfl)
    g_p_looks_text := qf_glo X G (c.fact 31 (f := .glo "looks_text") rfl)
    g_l_names_right := qf_glo X G (c.fact 32 (f := .glo "_law_names_right") rfl)
    g_l_take := qf_glo X G (c.fact 33 (f := .glo "_law_take") rfl)
    g_l_of := qf_glo X G (c.fact 34 (f := .glo "_law_of") rfl)
    g_l_number := qf_glo X G (c.fact 35 (f := .glo "_law_number") rfl)
    g_l_common := qf_glo X G (c.fact 36 (f := .glo "_law_common") rfl)
    g_l_limit := qf_glo X G (c.fact 37 (f := .glo "_law_limit") rfl)
    g_l_drawn := qf_glo X G (c.fact 38 (f := .glo "_law_drawn") rfl)
    g_l_written := qf_glo X G (c.fact 39 (f := .glo "_law_written") rfl)
    g_l_bent := qf_glo X G (c.fact 40 (f := .glo "_law_bent") rfl)
    g_l_lists := qf_glo X G (c.fact 41 (f := .glo "_law_lists") rfl)
    g_l_value := qf_glo X G (c.fact 42 (f := .glo "_law_value") rfl)
    g_l_pair := qf_glo X G (c.fact 43 (f := .glo "_law_pair") rfl)
    g_l_due := qf_glo X G (c.fact 44 (f := .glo "_law_due") rfl)
    g_l_right := qf_glo X G (c.fact 45 (f := .glo "_law_right") rfl)
    g_l_box := qf_glo X G (c.fact 46 (f := .glo "_law_box") rfl)
    g_l_law := qf_glo X G (c.fact 47 (f := .glo "law") rfl)
    cls_0 := qf_cls X G (c.fact 48 (f := .cls 0) rfl)
    c_BLANK := qf_str X G (c.fact 49 (f := .str "BLANK" " ") rfl)
    c_DIGITS := qf_str X G (c.fact 50 (f := .str "DIGITS" "0123456789") rfl)
    c_MOST_DIGITS := qf_int X G (c.fact 51 (f := .int "MOST_DIGITS" 60) rfl)
    c_NONE := qf_str X G (c.fact 52 (f := .str "NONE" "-") rfl)
    c_PAIR := qf_int X G (c.fact 53 (f := .int "PAIR" 2) rfl)
    meth_0_parts := qf_meth (c.fact 54 (f := .meth 0 "parts") rfl)
    mkr_0 := qf_mkr (c.fact 55 (f := .mkr 0) rfl)
    slot_0_own_calls := qf_slot (c.fact 56 (f := .slot 0 "own_calls" 0) rfl)
    slot_0_own_failed := qf_slot (c.fact 57 (f := .slot 0 "own_failed" 1) rfl)
    exq_10 := qf_exq X G (c.fact 58 (f := .exq 10) rfl)
    exq_11 := qf_exq X G (c.fact 59 (f := .exq 11) rfl)
    exq_12 := qf_exq X G (c.fact 60 (f := .exq 12) rfl)
    exq_13 := qf_exq X G (c.fact 61 (f := .exq 13) rfl)
    exq_14 := qf_exq X G (c.fact 62 (f := .exq 14) rfl)
    exq_7 := qf_exq X G (c.fact 63 (f := .exq 7) rfl)
    exq_8 := qf_exq X G (c.fact 64 (f := .exq 8) rfl)
    exq_9 := qf_exq X G (c.fact 65 (f := .exq 9) rfl)
    exu_13 := (DefQ.exu (d := ⟨.exc 13, "__init__", "BadText.__init__", s_exc_13⟩) X G rfl (c.both 50 rfl).1 (c.both 50 rfl).2 (c.fact 66 (f := .exc 13) rfl) hPf hPt).2
    exms_13_BadLine_BadText_Contradiction_NoMinute_NoWay_NothingDone_TooMany_Unlike := qf_exms (c.fact 67 (f := .exms 13 [.own 14, .own 13, .own 12, .own 7, .own 8, .own 9, .own 11, .own 10] true) rfl)
    kit_13_BadText := qf_kit (c.fact 68 (f := .kit 13 (.own 13) true) rfl)
    kit_13_ValueError := qf_kit (c.fact 69 (f := .kit 13 (.bi "ValueError") true) rfl)
    kits_13_BadLine_Unlike_LookupError := qf_kits (c.fact 70 (f := .kits 13 [.own 14, .own 10, .bi "LookupError"] false) rfl)
    n_LookupError := qf_free X G (c.fact 71 (f := .free "LookupError") rfl)
    n_ValueError := qf_free X G (c.fact 72 (f := .free "ValueError") rfl)
    n_abs := qf_free X G (c.fact 73 (f := .free "abs") rfl)
    n_all := qf_free X G (c.fact 74 (f := .free "all") rfl)
    n_bool := qf_free X G (c.fact 75 (f := .free "bool") rfl)
    n_enumerate := qf_free X G (c.fact 76 (f := .free "enumerate") rfl)
    n_int := qf_free X G (c.fact 77 (f := .free "int") rfl)
    n_isinstance := qf_free X G (c.fact 78 (f := .free "isinstance") rfl)
    n_len := qf_free X G (c.fact 79 (f := .free "len") rfl)
    n_list := qf_free X G (c.fact 80 (f := .free "list") rfl)
    n_max := qf_free X G (c.fact 81 (f := .free "max") rfl)
    n_min := qf_free X G (c.fact 82 (f := .free "min") rfl)
    n_range := qf_free X G (c.fact 83 (f := .free "range") rfl)
    n_str := qf_free X G (c.fact 84 (f := .free "str") rfl)
    n_tuple := qf_free X G (c.fact 85 (f := .free "tuple") rfl)
    n_zip := qf_free X G (c.fact 86 (f := .free "zip") rfl)
    }
  exact ⟨fd49, fun s v => bindsA0 F49 (fun _ _ _ _ _ _ => rfl) s, fun base _ _ => law_ok (ok_l_law T) holds⟩
end Lw
open PySem PySem.W PySem.Calls PyProof.Rows
set_option maxRecDepth 100000 in
set_option maxHeartbeats 0 in
theorem PySem.Challenge.cw_quietshare_k15_small_things_as_texts_holds : PySem.Challenge.rw_quietshare_k15_small_things_as_texts.Holds := by
  w_on; o_law
  refine HandSHeadRun.head_any (r := OpenLaw.row PySem.Challenge.rw_quietshare_k15_small_things_as_texts) (q := view (OpenLaw.row PySem.Challenge.rw_quietshare_k15_small_things_as_texts).prog [68]) (H := Lw.hkR) (ob := Lw.obR) (M := 8000) (loose := Lw.loose) (d := HandSHeadRun.topDef (OpenLaw.row PySem.Challenge.rw_quietshare_k15_small_things_as_texts).prog 68) (kwd := []) Lw.obR_eq
    (by kernel_rfl) (fun s => by kernel_rfl) Lw.runR (by kernel_rfl) (by kernel_rfl) (by kernel_rfl) (by rfl) (by first | assumption | decide +kernel) (by decide +kernel) ⟨rfl, rfl, rfl, rfl, rfl, by decide +kernel⟩ ?hw ?hc
  case hw => w_witness2
  case hc =>
    refine L2.walk_ofE (l := PySem.Challenge.rw_quietshare_k15_small_things_as_texts) (n := 63) (k := 34) (x := "_law_script") (CX := L2.CX0) rfl (by decide) (by kernel_rfl) ⟨rfl, by decide, by decide⟩ ?F (fun _ _ _ _ z => z)
    intro w mg fa h Y G hmg0
    obtain ⟨K, KX, c⟩ := Y
    have hmg : mg ("law" : PySem.Str) = some (.ref fa) := by
      have e : (HandSHeadRun.topDef (OpenLaw.row PySem.Challenge.rw_quietshare_k15_small_things_as_texts).prog 68).name = ("law" : PySem.Str) := by kernel_rfl
      rw [← e]
      exact hmg0
    obtain ⟨fd, hb, hF⟩ := Lw.factsR (P := (PySem.Challenge.rw_quietshare_k15_small_things_as_texts).prog) (w := w) KX G hmg c (by kernel_rfl) (by kernel_rfl)
    exact ⟨K, fd, Q.spLaw K, KX, hb, fun H a ns hl _ hS => ⟨a, ns, rfl, hS, hl, fun _ => rfl⟩, hF⟩
