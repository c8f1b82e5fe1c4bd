import PyProof.Rows.All
import Wide.All
import OpenK.AllK
import Wide.FinOn
import HandS.ForMost
import HandS.Base
import HandS.Call
import HandS.List
import HandS.Slots
import HandS.Exc
import HandS.TupAny
import HandS.TupMul
import HandS.Wide
import HandS.Flow
import HandS.IsInst
import HandS.Deep
import HandS.Text
import HandS.Words
import HandS.Comp
import HandS.Iter
import HandS.Zip
import HandS.TryOnly
import HandS.Defaults
import HandS.SlotsOwn
import HandS.MakeKwOnly
import HandS.Style
import HandS.Star
import HandS.ClsMeth
import PyProof.InstNe
import HandS.TupSets
import HandS.SortInts
import HandS.SetFor
import HandS.Strs
import HandS.SortKw
import HandS.Dict
import HandS.Walk
import HandS.SortRule
import HandS.Small
import HandS.DictComp
import HandS.TupLen
import HandS.Conv
import PyProof.SetRoads
import HandS.ExcOwn
import HandS.ExcInit
import HandS.WordsExc
import KE.KExcSuper
import KE.KExcIs
import KE.KSuper
import HandS.ExcValue
import KE.SortData
import KE.DatumOrd
import KE.KOpsOwn
import OpenK.KMeth
import PyProof.ReprRoads
import PyProof.ReprBulk
import HandS.HeadEnd
import KE.DataCmp
import PyProof.Rows.IntBool
import HandS.More
import PyProof.LongRange
import HandS.ExcField
import KE.KDictZip
import OpenK.KOps
import KE.KeyNested
import HandS.FStr
import HandS.Flt
import PyProof.StrOps2
import KE.KDictCopyH
import KE.KDictDisplayH
import PyProof.DictMoreH
import KE.KStateDown
import HandS.Head0
import HandS.Head1
import HandS.Head2
import HandS.HeadHook1
import HandS.HeadHook2
import PySem.Challenge.RW_quietshare_k32_the_least_book
set_option Elab.async false
set_option linter.all false
set_option maxRecDepth 100000
set_option maxHeartbeats 4000000
namespace Q
open PySem PySem.Spec PyProof.Rows L2 He
inductive Cst where
  | bl (b : Bool) | int (i : Int)
def Cst.is : Cst → Value → Bool
  | .bl b, .bool c => b == c
  | .int i, .int j _ => i == j
  | _, _ => false
def kwIn (K : PySem.W.Frag) (f : Addr) (x : Str) (c : Cst) : Bool := match K.lookup f with
  | some ⟨_, _, .func fd, _⟩ => (match fd.kwdefaults with
    | .ref E => (match PySem.W.nsIn K E x with
      | some (some u) => c.is u
      | _ => false)
    | _ => false)
  | _ => false
def clN : Nat → Str
  | 0 => "Share" | 1 => "Log" | 2 => "Flow" | 3 => "Net" | 4 => "Sums" | 5 => "Watch" | 6 => "Desk" | 7 => "NoMinute" | 8 => "NoWay" | 9 => "NothingDone" | 10 => "Unlike" | 11 => "TooMany" | 12 => "Contradiction" | 13 => "BadText" | 14 => "BadLine"
  | 15 => "Flow_walks" | 16 => "Flow_tracks"
  | _ => ""
def clK (K : PySem.W.Frag) (c : Nat) : Addr := ga K (clN c)
def kinds : List String := ["NoneType", "bool", "int", "str", "tuple", "list"]
inductive EV where
  | own (c : Nat) | bi (T : String)
def EV.val (K : PySem.W.Frag) : EV → Value
  | .own c => .ref (clK K c)
  | .bi T => .type T
inductive Qf where
  | glo (x : Str) | free (x : Str) | int (x : Str) (i : Int) | str (x z : Str)
  | cls (c : Nat)
  | slot (c : Nat) (f : Str) (i : Nat)
  | mkr (c : Nat)
  | meth (c : Nat) (m : Str)
  | isi (c : Nat)
  | eq (c : Nat)
  | call (c : Nat)
  | sta (c : Nat) (m : Str)
  | exc (c : Nat)
  | exq (c : Nat)
  | kits (c : Nat) (vs : List EV) (b : Bool)
  | kit (c : Nat) (v : EV) (b : Bool)
  | exm (c : Nat) (v : EV) (b : Bool)
  | exms (c : Nat) (vs : List EV) (b : Bool)
  | mul (c : Nat)
  | addc (c : Nat)
  | iaddc (c : Nat)
  | inc (c : Nat)
  | kwd (x k : Str) (c : Cst)
  | exs (c : Nat) (f : Str)
  | als (x y : Str)
  | seti (c : Nat)
  | geti (c : Nat)
  | lenc (c : Nat)
def exB (c : Nat) : String := if c ≤ 9 then "LookupError" else "ValueError"
def exN (c : Nat) : String := if c ≤ 9 then "LookupError.__new__" else "ValueError.__new__"
def exI (c : Nat) : String := if c ≤ 9 then "LookupError.__init__" else "ValueError.__init__"
def exM (c : Nat) : List Value := if c ≤ 9 then [.type "LookupError", .type "Exception", .type "BaseException", .type "object"] else [.type "ValueError", .type "Exception", .type "BaseException", .type "object"]
def supIn (K : PySem.W.Frag) (C f : Addr) : Bool := match K.lookup f with
  | some ⟨_, _, .func fd, _⟩ => (match fd.code with
    | .ref cda => (match K.lookup cda with
      | some ⟨_, _, .fields vs, _⟩ => (match (vs[2]? : Option Value) with
        | some (.str z _) => z == ("/claim/cut.py" : Str)
        | _ => false)
      | _ => false)
    | _ => false) && (match fd.closure with
    | [(_, cc)] => (match K.lookup cc with
      | some ⟨_, _, .cell (some (.ref D)), _⟩ => decide (D = C)
      | _ => false)
    | _ => false)
  | _ => false
def staP (K : PySem.W.Frag) (C : Addr) (m : Str) : Addr := match PySem.W.findCls K (.ref C) (.type "type") m with
  | some (.get _ (.ref p) .none _) => p
  | _ => 0
def staA (K : PySem.W.Frag) (C : Addr) (m : Str) : Addr := match PySem.W.recIn K (staP K C m) "staticmethod" with
  | some (.ref g :: _) => g
  | _ => 0
def ob {α : Type} [DecidableEq α] (a b : α) : Bool := decide (a = b)
def Qf.ok (K : PySem.W.Frag) : Qf → Bool
  | .glo x => (Fa.glo x).ok K
  | .free x => (Fa.free x).ok K
  | .seti c => let C := clK K c; PySem.W.noSeq K C && (He.eqO (PySem.W.findIn K (.ref C) "__setitem__") (some (some (.ref (ma K C "__setitem__")))) && PySem.W.isFn K (.ref (ma K C "__setitem__")))
  | .geti c => let C := clK K c; let g := ma K C "__getitem__"; He.eqO (PySem.W.findIn K (.ref C) "__getitem__") (some (some (.ref g))) && (PySem.W.fnIn K g && PySem.W.isFn K (.ref g))
  | .lenc c => let C := clK K c; let g := ma K C "__len__"; He.eqO (PySem.W.findIn K (.ref C) "__len__") (some (some (.ref g))) && PySem.W.isFn K (.ref g)
  | .als x y => He.eqO (PySem.W.nsIn K mainGlobals x) (some (some (.ref (ga K y))))
  | .int x i => (Fa.int x i).ok K
  | .str x z => (Fa.str x z).ok K
  | .cls c => He.eqO (PySem.W.nsIn K mainGlobals (clN c)) (some (some (.ref (clK K c)))) && (PySem.W.plainGet K (clK K c) Str.empty && (PySem.W.isClsIn K (clK K c) && (PySem.W.plainOver K (clK K c) && He.eqO (PySem.W.findIn K (.ref (clK K c)) "__setattr__") (some (some (.builtin "object.__setattr__"))))))
  | .slot c f i => let C := clK K c; let p := ma K C f; He.eqO (PySem.W.findIn K (.ref C) f) (some (some (.ref p))) && (He.eqO (PySem.W.specialIn K (.ref p) "__get__") (some (some (.builtin "member_descriptor.__get__"))) && (ob (PySem.W.takesIn K (.ref p)) (some true) && (ob (PySem.W.typeIn K (.ref p)) (some (.type "member_descriptor")) && (ob (PySem.W.slotIn K p C) (some i) && decide (i < 1000)))))
  | .mkr c => (Fa.mkr (clN c)).ok K
  | .meth c m => (Fa.meth (clN c) m).ok K
  | .isi c => let C := clK K c; He.eqO (PySem.W.findIn K (.ref C) "__class__") (some (some (.builtin "object.__class__"))) && (He.eqO (PySem.W.specialIn K (.builtin "object.__class__") "__get__") (some (some (.builtin "getset_descriptor.__get__"))) && (ob (PySem.W.takesIn K (.builtin "object.__class__")) (some true) && (ob (PySem.W.mroIn K C (.type "object")) (some true) &&
      (ob (PySem.W.kitOne K (.ref C) (.ref C)) (some true) && kinds.all fun t => ob (PySem.W.kitOne K (.type t) (.ref C)) (some false)))))
  | .eq c => let C := clK K c; let g := ma K C "__eq__"; He.eqO (PySem.W.findIn K (.ref C) "__eq__") (some (some (.ref g))) && (PySem.W.isFn K (.ref g) && (He.eqO (PySem.W.findIn K (.ref C) "__ne__") (some (some (.builtin "object.__ne__"))) && (ob (PySem.W.mroIn K C (.type "object")) (some true) && (PySem.W.notFirst K C (.ref C) && kinds.all fun t => PySem.W.notFirst K C (.type t)))))
  | .call c => let C := clK K c; let g := ma K C "__call__"; He.eqO (PySem.W.findIn K (.ref C) "__call__") (some (some (.ref g))) && (PySem.W.isFn K (.ref g) && PySem.W.fnIn K g)
  | .sta c m => let C := clK K c; PySem.W.readsIn K C (.type "type") && (He.eqO (PySem.W.specialIn K (.ref C) "__getattribute__") (some (some (.builtin "type.__getattribute__"))) && ((match PySem.W.findCls K (.ref C) (.type "type") m with
      | some (.get (.builtin g) (.ref p) .none (.ref D)) => ob g "staticmethod.__get__" && (ob p (staP K C m) && ob D C)
      | _ => false) && ((match PySem.W.recIn K (staP K C m) "staticmethod" with
      | some (.ref g :: _) => ob g (staA K C m)
      | _ => false) && PySem.W.keepIn K (.ref (staA K C m)))))
  | .exc c => let C := clK K c; let f := ma K C "__init__"; PySem.W.excInitIn K C (exM c) (exN c) && (He.eqO (PySem.W.findIn K (.ref C) "__init__") (some (some (.ref f))) && (ob (PySem.W.typeIn K (.ref f)) (some (.type "function")) && (supIn K C f && ((PySem.W.clsIn K C).isSome && (ob (PySem.W.mroIn K C (.ref C)) (some true) && (He.eqO (PySem.W.nsIn K mainGlobals "super") (some none) && (He.eqO (PySem.W.nsIn K cStatics "thirdparty.any") (some none) && (He.eqO (PySem.W.ks_superIn K C C "__init__") (some (some (.builtin (exI c)))) && (ob (PySem.W.subIn K (.ref C) (.type (exB c))) (some true) && (ob (PySem.W.subIn K (.ref C) (.type "BaseException")) (some true) && (ob (PySem.W.typeIn K (.ref C)) (some (.type "type")) && (PySem.W.keepIn K (.ref C) && (He.eqO (PySem.W.nsIn K mainGlobals (clN c)) (some (some (.ref C))))))))))))))))
  | .exq c => let C := clK K c; (PySem.W.clsIn K C).isSome && (He.eqO (PySem.W.findIn K (.ref C) "__getattribute__") (some (some (.builtin "BaseException.__getattribute__"))) && (He.eqO (PySem.W.findIn K (.ref C) "__getattr__") (some none) && (ob (PySem.W.subIn K (.ref C) (.type "BaseException")) (some true) && (He.eqO (PySem.W.findIn K (.ref C) "__class__") (some (some (.builtin "object.__class__"))) && (He.eqO (PySem.W.specialIn K (.builtin "object.__class__") "__get__") (some (some (.builtin "getset_descriptor.__get__"))) && (ob (PySem.W.takesIn K (.builtin "object.__class__")) (some true) && (ob (PySem.W.mroIn K C (.type "object")) (some true) && (He.eqO (PySem.W.nsIn K mainGlobals (clN c)) (some (some (.ref C)))))))))))
  | .kit c v b => ob (PySem.W.kitOne K (.ref (clK K c)) (v.val K)) (some b)
  | .kits c vs b => ob (PySem.W.kitAny K (.ref (clK K c)) (vs.map fun v => v.val K)) (some b)
  | .exm c v b => ob (PySem.W.exmOne K (.ref (clK K c)) (v.val K)) (some b)
  | .exms c vs b => ob (PySem.W.exmAny K (.ref (clK K c)) (vs.map fun v => v.val K)) (some b)
  | .mul c => let C := clK K c; PySem.W.selfFirst K C && (He.eqO (PySem.W.findIn K (.ref C) (dunder "mul")) (some (some (.ref (ma K C "__mul__")))) && (He.eqO (PySem.W.findIn K (.ref C) (dunderR "mul")) (some (some (.ref (ma K C "__rmul__")))) && (PySem.W.isFn K (.ref (ma K C "__mul__")) && (PySem.W.isFn K (.ref (ma K C "__rmul__")) && (ob (PySem.W.subIn K (.ref C) (.type "int")) (some false) && ((PySem.W.findIn K (.type "int") (dunder "mul")).isSome && ((PySem.W.findIn K (.type "int") (dunderR "mul")).isSome && ob (PySem.W.subIn K (.type "int") (.ref C)) (some false))))))))
  | .addc c => let C := clK K c; PySem.W.selfFirst K C && (He.eqO (PySem.W.findIn K (.ref C) (dunder "add")) (some (some (.ref (ma K C "__add__")))) && PySem.W.isFn K (.ref (ma K C "__add__")))
  | .iaddc c => let C := clK K c; PySem.W.selfFirst K C && (He.eqO (PySem.W.findIn K (.ref C) (dunderI "add")) (some (some (.ref (ma K C "__iadd__")))) && PySem.W.isFn K (.ref (ma K C "__iadd__")))
  | .inc c => let C := clK K c; He.eqO (PySem.W.findIn K (.ref C) "__contains__") (some (some (.ref (ma K C "__contains__")))) && PySem.W.isFn K (.ref (ma K C "__contains__"))
  | .kwd x k c => kwIn K (ga K x) k c
  | .exs c f => let C := clK K c; He.eqO (PySem.W.findIn K (.ref C) "__setattr__") (some (some (.builtin "object.__setattr__"))) && (PySem.W.excOver K C (exM c) && (PySem.W.hasDictIn K C && (He.eqO (PySem.W.findIn K (.ref C) f) (some none) && (He.eqO (PySem.W.findIn K (.ref C) "__getattribute__") (some (some (.builtin "BaseException.__getattribute__"))) && (He.eqO (PySem.W.findIn K (.ref C) "__getattr__") (some none) && ob (PySem.W.subIn K (.ref C) (.type "BaseException")) (some true))))))
inductive Dat where
  | glo (x : Str) | meth (c : Nat) (m : Str) | sta (c : Nat) (m : Str) | exc (c : Nat)
def Dat.cn : Dat → List Str
  | .exc _ => ["__class__"]
  | _ => []
def Dat.ad (K : PySem.W.Frag) : Dat → Addr
  | .exc c => ma K (clK K c) "__init__"
  | .glo x => ga K x
  | .meth c m => ma K (clK K c) m
  | .sta c m => staA K (clK K c) m
structure DefQ where
  at_ : Dat
  name : Str
  qual : Str
  st : Stmt
abbrev FnQ : Type := Option (Str × Str × Arguments × FuncBody × Scope × Addr × List Str × Addr)
def fnQ (K : PySem.W.Frag) (d : DefQ) : FnQ := match K.lookup (d.at_.ad K) with
  | some ⟨_, _, .func fd, _⟩ => some (fd.name, fd.qualname, fd.params, fd.body, fd.scope, fd.globals, fd.closure.map (·.1), fd.builtins)
  | _ => none
def DefQ.val (d : DefQ) : FnQ := some (d.name, d.qual, defArgs d.st, .stmts (defBody d.st), defScope d.st, mainGlobals, d.at_.cn, builtinsNs)
def DefQ.ok (K : PySem.W.Frag) (d : DefQ) : Bool := PySem.W.keepIn K (.ref (d.at_.ad K)) && (match K.lookup (d.at_.ad K) with
  | some ⟨_, _, .func fd, _⟩ => PySem.W.codeIn K fd.code d.qual && (match fd.defaults with
    | .none => true
    | _ => false)
  | _ => false)
def adrN {α : Type} : List Addr → Nat → List Addr → (Nat → List Addr → α) → α
  | [], m, acc, k => k m acc
  | a :: r, m, acc, k => HandSHeadRun.frNat a fun a => match Nat.land (Nat.shiftRight m a) 1 with
    | 0 => HandSHeadRun.frNat (Nat.lor m (Nat.shiftLeft 1 a)) fun m => adrN r m (a :: acc) k
    | _ => adrN r m acc k
def adrR {α : Type} (g : Addr → Option Obj) : List Addr → Nat → List Addr → (Nat → List Addr → α) → α
  | [], m, acc, k => k m acc
  | a :: r, m, acc, k => match g a with
    | some o => adrN (refsD o) m acc fun m acc => adrR g r m acc k
    | none => adrR g r m acc k
def adrL (g : Addr → Option Obj) : Nat → List Addr → Nat → List Addr
  | 0, fr, _ => fr
  | n + 1, fr, m => fr ++ adrR g fr m [] fun m fr => adrL g n fr m
def asQ (g : Addr → Option Obj) (n : Nat) : List Addr := adrN [mainGlobals, PySem.cStatics] 0 [] fun m fr => adrL g n fr m
abbrev AlQ : Type := Bool × List FnQ
def obsQ (fa : List Qf) (fn : List DefQ) (K : PySem.W.Frag) : AlQ := ((fa.all fun f => f.ok K) && fn.all fun d => d.ok K, fn.map fun d => fnQ K d)
def valQ (fn : List DefQ) : AlQ := (true, fn.map DefQ.val)
def SaysQ (fa : List Qf) (fn : List DefQ) (K : PySem.W.Frag) : Prop := obsQ fa fn K = valQ fn
def obsQG (n : Nat) (fa : List Qf) (fn : List DefQ) (g : Addr → Option Obj) : AlQ := obsQ fa fn (frG g (asQ g n))
def hookQ (n : Nat) (fa : List Qf) (fn : List DefQ) : PySem.W.Hook where
  α := AlQ
  obs := fun s => obsQG n fa fn s.heap.get?
  val := fun _ => valQ fn
  says := fun _ h => ∃ K : PySem.W.Frag, K.In h ∧ SaysQ fa fn K
  of := fun _ _ e => ⟨_, frG_in, e⟩
  keeps := fun _ _ _ ⟨K, hK, c⟩ k => ⟨K, PySem.W.Frag.In.keeps hK k, c⟩
theorem obsQG_eq {n : Nat} {fa : List Qf} {fn : List DefQ} {g : Addr → Option Obj} {s : Shared} (h : ∀ a, g a = s.heap.get? a) : obsQG n fa fn g = (hookQ n fa fn).obs s := by
  have e : g = s.heap.get? := funext h
  rw [e] <;> rfl
end Q
namespace Lw
open PySem L2 Q
def top (i : Nat) : Stmt := PySem.Challenge.pw_quietshare_k32_the_least_book.main.body.getD i (.Pass ⟨0, 0, 0, 0⟩)
abbrev s_l_cells : Stmt := top 28
abbrev s_l_box : Stmt := top 26
abbrev s_l_same : Stmt := top 32
abbrev s_p_tupled : Stmt := top 1
abbrev s_p_places_below : Stmt := top 16
abbrev s_p_least : Stmt := top 20
abbrev s_l_by_hand_right : Stmt := top 53
abbrev s_l_take : Stmt := top 27
abbrev s_p_sure : Stmt := top 19
abbrev s_p_reached : Stmt := top 17
abbrev s_p_tiling : Stmt := top 18
abbrev s_p_agree : Stmt := top 7
abbrev s_p_rises : Stmt := top 12
abbrev s_p_falls : Stmt := top 13
abbrev s_p_log_of : Stmt := top 14
abbrev s_p_parted_by_look : Stmt := top 21
abbrev s_p_parted_by_limit : Stmt := top 22
abbrev s_p_parting : Stmt := top 23
abbrev s_p_alike : Stmt := top 24
abbrev s_l_told : Stmt := top 54
abbrev s_l_lists : Stmt := top 31
abbrev s_l_filled : Stmt := top 52
abbrev s_l_of : Stmt := top 29
abbrev s_l_limit : Stmt := top 33
abbrev s_l_looks : Stmt := top 34
abbrev s_l_again_right : Stmt := top 55
abbrev s_l_with : Stmt := top 49
abbrev s_l_without : Stmt := top 50
abbrev s_l_book : Stmt := top 35
abbrev s_l_pick : Stmt := top 30
abbrev s_l_net : Stmt := top 48
abbrev s_l_closed : Stmt := top 40
abbrev s_l_tiled : Stmt := top 47
abbrev s_l_least : Stmt := top 51
abbrev s_l_added : Stmt := top 44
abbrev s_l_rises : Stmt := top 41
abbrev s_l_falls : Stmt := top 42
abbrev s_l_hills_log : Stmt := top 43
abbrev s_l_times : Stmt := top 45
abbrev s_l_number : Stmt := top 36
abbrev s_l_quiet_log : Stmt := top 46
abbrev s_l_above : Stmt := top 38
abbrev s_l_calls : Stmt := top 37
abbrev s_l_is_quiet : Stmt := top 39
abbrev s_p_is_above : Stmt := top 8
abbrev s_p_calls : Stmt := top 5
abbrev s_p_loud : Stmt := top 9
abbrev s_p_is_quiet : Stmt := top 10
abbrev s_l_right : Stmt := top 56
abbrev s_l_law : Stmt := top 57
def fns : List DefQ := [⟨.glo "_law_cells", "_law_cells", "_law_cells", s_l_cells⟩, ⟨.glo "_law_box", "_law_box", "_law_box", s_l_box⟩, ⟨.glo "_law_same", "_law_same", "_law_same", s_l_same⟩, ⟨.glo "tupled", "tupled", "tupled", s_p_tupled⟩, ⟨.glo "places_below", "places_below", "places_below", s_p_places_below⟩, ⟨.glo "least", "least", "least", s_p_least⟩, ⟨.glo "_law_by_hand_right", "_law_by_hand_right", "_law_by_hand_right", s_l_by_hand_right⟩, ⟨.glo "_law_take", "_law_take", "_law_take", s_l_take⟩, ⟨.glo "sure", "sure", "sure", s_p_sure⟩, ⟨.glo "reached", "reached", "reached", s_p_reached⟩, ⟨.glo "tiling", "tiling", "tiling", s_p_tiling⟩, ⟨.glo "agree", "agree", "agree", s_p_agree⟩, ⟨.glo "rises", "rises", "rises", s_p_rises⟩, ⟨.glo "falls", "falls", "falls", s_p_falls⟩, ⟨.glo "log_of", "log_of", "log_of", s_p_log_of⟩, ⟨.glo "parted_by_look", "parted_by_look", "parted_by_look", s_p_parted_by_look⟩, ⟨.glo "parted_by_limit", "parted_by_limit", "parted_by_limit", s_p_parted_by_limit⟩, ⟨.glo "parting", "parting", "parting", s_p_parting⟩, ⟨.glo "alike", "alike", "alike", s_p_alike⟩, ⟨.glo "_law_told", "_law_told", "_law_told", s_l_told⟩, ⟨.glo "_law_lists", "_law_lists", "_law_lists", s_l_lists⟩, ⟨.glo "_law_filled", "_law_filled", "_law_filled", s_l_filled⟩, ⟨.glo "_law_of", "_law_of", "_law_of", s_l_of⟩, ⟨.glo "_law_limit", "_law_limit", "_law_limit", s_l_limit⟩, ⟨.glo "_law_looks", "_law_looks", "_law_looks", s_l_looks⟩, ⟨.glo "_law_again_right", "_law_again_right", "_law_again_right", s_l_again_right⟩, ⟨.glo "_law_with", "_law_with", "_law_with", s_l_with⟩, ⟨.glo "_law_without", "_law_without", "_law_without", s_l_without⟩, ⟨.glo "_law_book", "_law_book", "_law_book", s_l_book⟩, ⟨.glo "_law_pick", "_law_pick", "_law_pick", s_l_pick⟩, ⟨.glo "_law_net", "_law_net", "_law_net", s_l_net⟩, ⟨.glo "_law_closed", "_law_closed", "_law_closed", s_l_closed⟩, ⟨.glo "_law_tiled", "_law_tiled", "_law_tiled", s_l_tiled⟩, ⟨.glo "_law_least", "_law_least", "_law_least", s_l_least⟩, ⟨.glo "_law_added", "_law_added", "_law_added", s_l_added⟩, ⟨.glo "_law_rises", "_law_rises", "_law_rises", s_l_rises⟩, ⟨.glo "_law_falls", "_law_falls", "_law_falls", s_l_falls⟩, ⟨.glo "_law_hills_log", "_law_hills_log", "_law_hills_log", s_l_hills_log⟩, ⟨.glo "_law_times", "_law_times", "_law_times", s_l_times⟩, ⟨.glo "_law_number", "_law_number", "_law_number", s_l_number⟩, ⟨.glo "_law_quiet_log", "_law_quiet_log", "_law_quiet_log", s_l_quiet_log⟩, ⟨.glo "_law_above", "_law_above", "_law_above", s_l_above⟩, ⟨.glo "_law_calls", "_law_calls", "_law_calls", s_l_calls⟩, ⟨.glo "_law_is_quiet", "_law_is_quiet", "_law_is_quiet", s_l_is_quiet⟩, ⟨.glo "is_above", "is_above", "is_above", s_p_is_above⟩, ⟨.glo "calls", "calls", "calls", s_p_calls⟩, ⟨.glo "loud", "loud", "loud", s_p_loud⟩, ⟨.glo "is_quiet", "is_quiet", "is_quiet", s_p_is_quiet⟩, ⟨.glo "_law_right", "_law_right", "_law_right", s_l_right⟩, ⟨.glo "law", "law", "law", s_l_law⟩]
def fas : List Qf := [.glo "_law_cells", .glo "_law_box", .glo "_law_same", .glo "tupled", .glo "places_below", .glo "least", .glo "_law_by_hand_right", .glo "_law_take", .glo "sure", .glo "reached", .glo "tiling", .glo "agree", .glo "rises", .glo "falls", .glo "log_of", .glo "parted_by_look", .glo "parted_by_limit", .glo "parting", .glo "alike", .glo "_law_told", .glo "_law_lists", .glo "_law_filled", .glo "_law_of", .glo "_law_limit", .glo "_law_looks", .glo "_law_again_right", .glo "_law_with", .glo "_law_without", .glo "_law_book", .glo "_law_pick", .glo "_law_net", .glo "_law_closed", .glo "_law_tiled", .glo "_law_least", .glo "_law_added", .glo "_law_rises", .glo "_law_falls", .glo "_law_hills_log", .glo "_law_times", .glo "_law_number", .glo "_law_quiet_log", .glo "_law_above", .glo "_law_calls", .glo "_law_is_quiet", .glo "is_above", .glo "calls", .glo "loud", .glo "is_quiet", .glo "_law_right", .glo "law", .free "abs", .free "all", .free "any", .free "bool", .free "enumerate", .free "int", .free "isinstance", .free "len", .free "list", .free "min", .free "range", .free "set", .free "sorted", .free "str", .free "sum", .free "tuple", .free "zip"]
def loose : List PySem.Str := (["tupled", "Unlike", "calls", "agree", "is_above", "loud", "is_quiet", "rises", "falls", "log_of", "places_below", "reached", "tiling", "sure", "least", "parted_by_look", "parted_by_limit", "parting", "alike", "_law_box"] : List PySem.Str) ++ (["_law_take", "_law_cells", "_law_of", "_law_pick", "_law_lists", "_law_same", "_law_limit", "_law_looks", "_law_book", "_law_number", "_law_calls", "_law_above", "_law_is_quiet", "_law_closed", "_law_rises", "_law_falls", "_law_hills_log", "_law_added", "_law_times", "_law_quiet_log"] : List PySem.Str) ++ (["_law_tiled", "_law_net", "_law_with", "_law_without", "_law_least", "_law_filled", "_law_by_hand_right", "_law_told", "_law_again_right", "_law_right"] : List PySem.Str)
abbrev RR : PySem.W.OpenRow := PySem.W.OpenLaw.row PySem.Challenge.rw_quietshare_k32_the_least_book
abbrev hkR : PySem.W.Hook := hookQ 5 fas fns
def obR (s : PySem.W.SharedT) : AlQ := obsQG 5 fas fns (HandSHeadRun.getT s)
theorem obR_eq (s : PySem.W.SharedT) : obR s = hkR.obs s.abs := obsQG_eq (HandSHeadRun.getT_eq s)
section
open PySem PySem.W PySem.Calls
theorem comb3 {δ α β γ : Type} {x : Option δ} {f : δ → α} {g : δ → β} {h : δ → γ} {a : α} {b : β} {c : γ} (A : x.map f = some a) (B : x.map g = some b) (C : x.map h = some c) : x.map (fun s => (f s, g s, h s)) = some (a, b, c) := by
  cases x with
  | none => cases A
  | some s =>
    have A1 := Option.some.inj A
    have B1 := Option.some.inj B
    have C1 := Option.some.inj C
    subst A1 B1 C1
    rfl
theorem runA (w : World) (os : OsState) : (HandSHeadRun.endF (HandSHeadRun.stepQ (HandSHeadRun.denQ HandSHeadRun.tabQ) RR.prog w) 8000 RR.prog w os).map (fun s => HandSHeadRun.looksF RR.prog (boot_heap w.params) s.abs) = some true := by
  kernel_rfl
theorem runB (w : World) (os : OsState) : (HandSHeadRun.endF (HandSHeadRun.stepQ (HandSHeadRun.denQ HandSHeadRun.tabQ) RR.prog w) 8000 RR.prog w os).map (fun s => HandSHeadRun.seenQ (PySem.W.view RR.prog [57]) loose (importedModules RR.prog.main.body) (fun s => xlAt (PySem.W.view RR.prog [57]) [] s && recOk RR.toRowW.records s) s.abs) = some (openGood (PySem.W.view RR.prog [57]) loose) := by
  kernel_rfl
def fas0 : List Qf := [.glo "_law_cells", .glo "_law_box", .glo "_law_same", .glo "tupled", .glo "places_below", .glo "least", .glo "_law_by_hand_right", .glo "_law_take", .glo "sure", .glo "reached", .glo "tiling", .glo "agree", .glo "rises", .glo "falls", .glo "log_of", .glo "parted_by_look", .glo "parted_by_limit", .glo "parting", .glo "alike", .glo "_law_told", .glo "_law_lists", .glo "_law_filled", .glo "_law_of", .glo "_law_limit", .glo "_law_looks", .glo "_law_again_right", .glo "_law_with", .glo "_law_without", .glo "_law_book", .glo "_law_pick", .glo "_law_net", .glo "_law_closed", .glo "_law_tiled", .glo "_law_least", .glo "_law_added", .glo "_law_rises", .glo "_law_falls", .glo "_law_hills_log", .glo "_law_times", .glo "_law_number", .glo "_law_quiet_log", .glo "_law_above", .glo "_law_calls", .glo "_law_is_quiet", .glo "is_above", .glo "calls", .glo "loud", .glo "is_quiet", .glo "_law_right", .glo "law", .free "abs", .free "all", .free "any", .free "bool", .free "enumerate", .free "int", .free "isinstance", .free "len", .free "list", .free "min", .free "range", .free "set", .free "sorted", .free "str", .free "sum", .free "tuple", .free "zip"]
def fns0 : List DefQ := [⟨.glo "_law_cells", "_law_cells", "_law_cells", s_l_cells⟩, ⟨.glo "_law_box", "_law_box", "_law_box", s_l_box⟩, ⟨.glo "_law_same", "_law_same", "_law_same", s_l_same⟩, ⟨.glo "tupled", "tupled", "tupled", s_p_tupled⟩, ⟨.glo "places_below", "places_below", "places_below", s_p_places_below⟩, ⟨.glo "least", "least", "least", s_p_least⟩, ⟨.glo "_law_by_hand_right", "_law_by_hand_right", "_law_by_hand_right", s_l_by_hand_right⟩, ⟨.glo "_law_take", "_law_take", "_law_take", s_l_take⟩, ⟨.glo "sure", "sure", "sure", s_p_sure⟩, ⟨.glo "reached", "reached", "reached", s_p_reached⟩, ⟨.glo "tiling", "tiling", "tiling", s_p_tiling⟩, ⟨.glo "agree", "agree", "agree", s_p_agree⟩, ⟨.glo "rises", "rises", "rises", s_p_rises⟩, ⟨.glo "falls", "falls", "falls", s_p_falls⟩, ⟨.glo "log_of", "log_of", "log_of", s_p_log_of⟩, ⟨.glo "parted_by_look", "parted_by_look", "parted_by_look", s_p_parted_by_look⟩, ⟨.glo "parted_by_limit", "parted_by_limit", "parted_by_limit", s_p_parted_by_limit⟩, ⟨.glo "parting", "parting", "parting", s_p_parting⟩, ⟨.glo "alike", "alike", "alike", s_p_alike⟩, ⟨.glo "_law_told", "_law_told", "_law_told", s_l_told⟩, ⟨.glo "_law_lists", "_law_lists", "_law_lists", s_l_lists⟩, ⟨.glo "_law_filled", "_law_filled", "_law_filled", s_l_filled⟩, ⟨.glo "_law_of", "_law_of", "_law_of", s_l_of⟩, ⟨.glo "_law_limit", "_law_limit", "_law_limit", s_l_limit⟩, ⟨.glo "_law_looks", "_law_looks", "_law_looks", s_l_looks⟩, ⟨.glo "_law_again_right", "_law_again_right", "_law_again_right", s_l_again_right⟩, ⟨.glo "_law_with", "_law_with", "_law_with", s_l_with⟩, ⟨.glo "_law_without", "_law_without", "_law_without", s_l_without⟩, ⟨.glo "_law_book", "_law_book", "_law_book", s_l_book⟩, ⟨.glo "_law_pick", "_law_pick", "_law_pick", s_l_pick⟩, ⟨.glo "_law_net", "_law_net", "_law_net", s_l_net⟩, ⟨.glo "_law_closed", "_law_closed", "_law_closed", s_l_closed⟩, ⟨.glo "_law_tiled", "_law_tiled", "_law_tiled", s_l_tiled⟩, ⟨.glo "_law_least", "_law_least", "_law_least", s_l_least⟩, ⟨.glo "_law_added", "_law_added", "_law_added", s_l_added⟩, ⟨.glo "_law_rises", "_law_rises", "_law_rises", s_l_rises⟩, ⟨.glo "_law_falls", "_law_falls", "_law_falls", s_l_falls⟩, ⟨.glo "_law_hills_log", "_law_hills_log", "_law_hills_log", s_l_hills_log⟩, ⟨.glo "_law_times", "_law_times", "_law_times", s_l_times⟩, ⟨.glo "_law_number", "_law_number", "_law_number", s_l_number⟩, ⟨.glo "_law_quiet_log", "_law_quiet_log", "_law_quiet_log", s_l_quiet_log⟩, ⟨.glo "_law_above", "_law_above", "_law_above", s_l_above⟩, ⟨.glo "_law_calls", "_law_calls", "_law_calls", s_l_calls⟩, ⟨.glo "_law_is_quiet", "_law_is_quiet", "_law_is_quiet", s_l_is_quiet⟩, ⟨.glo "is_above", "is_above", "is_above", s_p_is_above⟩, ⟨.glo "calls", "calls", "calls", s_p_calls⟩, ⟨.glo "loud", "loud", "loud", s_p_loud⟩, ⟨.glo "is_quiet", "is_quiet", "is_quiet", s_p_is_quiet⟩, ⟨.glo "_law_right", "_law_right", "_law_right", s_l_right⟩, ⟨.glo "law", "law", "law", s_l_law⟩]
theorem runC0 (w : World) (os : OsState) : (HandSHeadRun.endF (HandSHeadRun.stepQ (HandSHeadRun.denQ HandSHeadRun.tabQ) RR.prog w) 8000 RR.prog w os).map (fun s => obsQG 5 fas0 fns0 (HandSHeadRun.getT s)) = some (valQ fns0) := by
  kernel_rfl
theorem fas_eq : fas0 = fas := rfl
theorem fns_eq : fns0 = fns := rfl
theorem runC (w : World) (os : OsState) : (HandSHeadRun.endF (HandSHeadRun.stepQ (HandSHeadRun.denQ HandSHeadRun.tabQ) RR.prog w) 8000 RR.prog w os).map obR = some (hkR.val w) := by
  have h := (runC0 w os)
  rw [fas_eq, fns_eq] at h
  exact h
theorem runR (w : World) : HandSHeadRun.RunEq RR (PySem.W.view RR.prog [57]) hkR obR 8000 loose w := fun os => comb3 (runA w os) (runB w os) (runC w os)
end
end Lw
namespace Q
open PySem L2
inductive D where
  | non | bl (b : Bool) | int (i : Int) | str (x : Str) | tup (xs : List D) | lst (xs : List D) | fro (xs : List D) | obj (c : Nat) (fs : List D) | exn (c : Nat) (fs : List D) | ref (k : Nat)
inductive Cell where
  | lst (xs : List D) | frz (xs : List D) | dk (lk : Bool) (kvs : List (Key × D)) | dt (lk : Bool) (kvs : List (List Key × D)) | ob (c : Nat) (fs : List (Option D))
def Cell.live : Cell → Bool
  | .lst _ => true
  | .frz _ => false
  | .dk lk _ => !lk
  | .dt lk _ => !lk
  | .ob _ _ => true
abbrev Store := List Cell
abbrev Env := List (Option D)
structure Exn where
  cls : Nat
  fs : List D
inductive Res (β : Type) where
  | ok (a : β) (S : Store) | ex (e : Exn) (S : Store) | no
def Res.bind {β γ : Type} (r : Res β) (f : β → Store → Res γ) : Res γ := match r with
  | .ok a S => f a S
  | .ex e S => .ex e S
  | .no => .no
@[simp] theorem bind_ok {β γ : Type} (a : β) (S : Store) (f : β → Store → Res γ) : (Res.ok a S).bind f = f a S := rfl
@[simp] theorem bind_no {β γ : Type} (f : β → Store → Res γ) : (Res.no : Res β).bind f = .no := rfl
@[simp] theorem bind_ex {β γ : Type} (e : Exn) (S : Store) (f : β → Store → Res γ) : (Res.ex e S : Res β).bind f = .ex e S := rfl
structure Gm where
  K : PySem.W.Frag
  cl : Nat → Addr
def ObAt (G : Hp) (a C : Addr) (vs : List V) : Prop := ∃ dx, G a = some (SlX.SlO a C dx (vs.map some)) ∧ G dx = some (.xd [])
def ExK (cls : Value) (d : Option Addr) (a : Addr) : HO := .ext fun h => ∃ (oe : Obj) (ws : Array Value), h.get? a = some oe ∧ Zc cls d oe ∧ oe.data = .fields ws
def ExF (G : Hp) (d : Option Addr) (vs : List V) : Prop := (vs = [] ∧ d = none) ∨ ∃ (nm : Str) (v : V) (dd : Addr), vs = [.str nm, v] ∧ d = some dd ∧ G dd = some (.xd [(nm, v)])
def ExAt (G : Hp) (a C : Addr) (vs : List V) : Prop := ∃ d, G a = some (ExK (.ref C) d a) ∧ ExF G d vs
theorem ExF.keep {G G' : Hp} (k : ∀ a fs, G a = some (.xd fs) → G' a = some (.xd fs)) {d : Option Addr} {vs : List V} (h : ExF G d vs) : ExF G' d vs := by
  rcases h with h | ⟨nm, v, dd, e1, e2, e3⟩
  · exact .inl h
  · exact .inr ⟨nm, v, dd, e1, e2, k _ _ e3⟩
section
variable (Γ : Gm) (α : List Addr) (G : Hp)
mutual
def Rep : D → V → Prop
  | .non, v => v = .non
  | .bl b, v => v = .bl b
  | .int i, v => v = .int i
  | .str s, v => v = .str s
  | .tup ds, v => ∃ a vs, v = .ref a ∧ G a = some (.tup vs) ∧ RepL ds vs
  | .lst ds, v => ∃ a vs, v = .ref a ∧ G a = some (.lst vs) ∧ RepL ds vs
  | .fro ds, v => ∃ a vs, v = .ref a ∧ SqL Γ.K G a vs ∧ RepL ds vs
  | .obj c fs, v => ∃ a vs, v = .ref a ∧ ObAt G a (Γ.cl c) vs ∧ RepL fs vs
  | .exn c fs, v => ∃ a vs, v = .ref a ∧ ExAt G a (Γ.cl c) vs ∧ RepL fs vs
  | .ref k, v => ∃ a, v = .ref a ∧ α[k]? = some a
def RepL : List D → List V → Prop
  | [], vs => vs = []
  | d :: ds, vs => ∃ v r, vs = v :: r ∧ Rep d v ∧ RepL ds r
end
end
def Sub (G H : Hp) : Prop := ∀ a o, G a = some o → H a = some o
theorem Sub.refl (G : Hp) : Sub G G := fun _ _ h => h
theorem Sub.trans {G H J : Hp} (a : Sub G H) (b : Sub H J) : Sub G J := fun x o h => b x o (a x o h)
theorem Sub.new {H : Hp} {p : Addr} {o : HO} (h : H p = none) : Sub H (upd H p o) := fun a u e => by
  rw [upd_ne (ne_of_none e h)]; exact e
theorem Sub.rd {G H : Hp} (s : Sub G H) {a : Addr} {u : HO} (h : Rd G a u) : Rd H a u := by
  rcases h with h | ⟨o, h⟩
  · exact .inl (s a _ h)
  · exact .inr ⟨o, s a _ h⟩
theorem Sub.sqL {K : PySem.W.Frag} {G H : Hp} (s : Sub G H) {a : Addr} {xs : List V} (h : SqL K G a xs) : SqL K H a xs := by
  rcases h with h | h
  · exact .inl (s.rd h)
  · exact .inr h
theorem Sub.sqT {K : PySem.W.Frag} {G H : Hp} (s : Sub G H) {a : Addr} {xs : List V} (h : SqT K G a xs) : SqT K H a xs := by
  rcases h with h | h
  · exact .inl (s.rd h)
  · exact .inr h
theorem Sub.none {G H : Hp} (s : Sub G H) {a : Addr} (h : H a = none) : G a = none := by
  cases q : G a with
  | none => rfl
  | some o => rw [s a o q] at h; cases h
section
variable {Γ : Gm} {α α' : List Addr} {G G' : Hp}
mutual
theorem Rep.mono (hp : ∃ β, α' = α ++ β) (hs : Sub G G') : ∀ (d : D) (v : V), Rep Γ α G d v → Rep Γ α' G' d v
  | .non, v, h => by simpa [Rep] using h
  | .bl b, v, h => by simpa [Rep] using h
  | .int i, v, h => by simpa [Rep] using h
  | .str s, v, h => by simpa [Rep] using h
  | .tup ds, v, h => by
    unfold Rep at h ⊢
    obtain ⟨a, vs, e, q, r⟩ := h
    exact ⟨a, vs, e, hs _ _ q, RepL.mono hp hs ds vs r⟩
  | .lst ds, v, h => by
    unfold Rep at h ⊢
    obtain ⟨a, vs, e, q, r⟩ := h
    exact ⟨a, vs, e, hs _ _ q, RepL.mono hp hs ds vs r⟩
  | .fro ds, v, h => by
    unfold Rep at h ⊢
    obtain ⟨a, vs, e, q, r⟩ := h
    exact ⟨a, vs, e, hs.sqL q, RepL.mono hp hs ds vs r⟩
  | .obj c fs, v, h => by
    unfold Rep at h ⊢
    obtain ⟨a, vs, e, ⟨dx, h1, h2⟩, r⟩ := h
    exact ⟨a, vs, e, ⟨dx, hs _ _ h1, hs _ _ h2⟩, RepL.mono hp hs fs vs r⟩
  | .exn c fs, v, h => by
    unfold Rep at h ⊢
    obtain ⟨a, vs, e, ⟨d, h1, h2⟩, r⟩ := h
    exact ⟨a, vs, e, ⟨d, hs _ _ h1, h2.keep fun _ _ z => hs _ _ z⟩, RepL.mono hp hs fs vs r⟩
  | .ref k, v, h => by
    unfold Rep at h ⊢
    obtain ⟨a, e, q⟩ := h
    obtain ⟨β, rfl⟩ := hp
    exact ⟨a, e, by rw [List.getElem?_append_left (List.getElem?_eq_some_iff.mp q).1]; exact q⟩
theorem RepL.mono (hp : ∃ β, α' = α ++ β) (hs : Sub G G') : ∀ (ds : List D) (vs : List V), RepL Γ α G ds vs → RepL Γ α' G' ds vs
  | [], vs, h => by simpa [RepL] using h
  | d :: ds, vs, h => by
    unfold RepL at h ⊢
    obtain ⟨v, r, e, h1, h2⟩ := h
    exact ⟨v, r, e, Rep.mono hp hs d v h1, RepL.mono hp hs ds r h2⟩
end
theorem RepL.length : ∀ {ds : List D} {vs : List V}, RepL Γ α G ds vs → ds.length = vs.length
  | [], vs, h => by unfold RepL at h; subst h; rfl
  | d :: ds, vs, h => by
    unfold RepL at h
    obtain ⟨v, r, rfl, _, h2⟩ := h
    simp [RepL.length h2]
theorem RepL.get : ∀ {ds : List D} {vs : List V} {i : Nat} {d : D}, RepL Γ α G ds vs → ds[i]? = some d → ∃ v, vs[i]? = some v ∧ Rep Γ α G d v
  | [], _, _, _, _, h => by simp at h
  | d :: ds, vs, 0, e, r, h => by
    unfold RepL at r
    obtain ⟨v, w, rfl, h1, _⟩ := r
    simp at h
    subst h
    exact ⟨v, rfl, h1⟩
  | d :: ds, vs, i + 1, e, r, h => by
    unfold RepL at r
    obtain ⟨v, w, rfl, _, h2⟩ := r
    simpa using RepL.get h2 (by simpa using h)
theorem RepL.append : ∀ {ds es : List D} {vs ws : List V}, RepL Γ α G ds vs → RepL Γ α G es ws → RepL Γ α G (ds ++ es) (vs ++ ws)
  | [], es, vs, ws, h, h' => by
    unfold RepL at h; subst h; exact h'
  | d :: ds, es, vs, ws, h, h' => by
    unfold RepL at h
    obtain ⟨v, r, rfl, h1, h2⟩ := h
    show RepL Γ α G (d :: (ds ++ es)) (v :: (r ++ ws))
    unfold RepL
    exact ⟨v, _, rfl, h1, RepL.append h2 h'⟩
theorem RepL.set : ∀ {ds : List D} {vs : List V} (i : Nat) {d : D} {v : V}, RepL Γ α G ds vs → Rep Γ α G d v → RepL Γ α G (ds.set i d) (vs.set i v)
  | [], vs, i, d, v, h, _ => by unfold RepL at h; subst h; simp [RepL]
  | e :: ds, vs, 0, d, v, h, hv => by
    unfold RepL at h
    obtain ⟨w, r, rfl, h1, h2⟩ := h
    show RepL Γ α G (d :: ds) (v :: r)
    unfold RepL
    exact ⟨v, r, rfl, hv, h2⟩
  | e :: ds, vs, i + 1, d, v, h, hv => by
    unfold RepL at h
    obtain ⟨w, r, rfl, h1, h2⟩ := h
    show RepL Γ α G (e :: ds.set i d) (w :: r.set i v)
    unfold RepL
    exact ⟨w, _, rfl, h1, RepL.set i h2 hv⟩
theorem RepL.take : ∀ {ds : List D} {vs : List V} (n : Nat), RepL Γ α G ds vs → RepL Γ α G (ds.take n) (vs.take n)
  | ds, vs, 0, h => by simp [RepL]
  | [], vs, n + 1, h => by unfold RepL at h; subst h; simp [RepL]
  | d :: ds, vs, n + 1, h => by
    unfold RepL at h
    obtain ⟨w, r, rfl, h1, h2⟩ := h
    show RepL Γ α G (d :: ds.take n) (w :: r.take n)
    unfold RepL
    exact ⟨w, _, rfl, h1, RepL.take n h2⟩
theorem RepL.drop : ∀ {ds : List D} {vs : List V} (n : Nat), RepL Γ α G ds vs → RepL Γ α G (ds.drop n) (vs.drop n)
  | ds, vs, 0, h => h
  | [], vs, n + 1, h => by unfold RepL at h; subst h; simp [RepL]
  | d :: ds, vs, n + 1, h => by
    unfold RepL at h
    obtain ⟨w, r, rfl, h1, h2⟩ := h
    exact RepL.drop n h2
end
def RepKV (Γ : Gm) (α : List Addr) (G : Hp) {κ : Type} : List (κ × D) → List (κ × V) → Prop
  | [], ws => ws = []
  | kd :: r, ws => ∃ v t, ws = (kd.1, v) :: t ∧ Rep Γ α G kd.2 v ∧ RepKV Γ α G r t
def RepO (Γ : Gm) (α : List Addr) (G : Hp) (fs : List (Option D)) (vs : List (Option V)) : Prop := ∀ (i : Nat) (d : D), fs[i]? = some (some d) → ∃ v, vs[i]? = some (some v) ∧ Rep Γ α G d v
def RepC (Γ : Gm) (α : List Addr) (G : Hp) (a : Addr) : Cell → HO → Prop
  | .lst ds, o => ∃ vs, o = .lst vs ∧ RepL Γ α G ds vs
  | .frz ds, o => ∃ vs, o = .lst vs ∧ RepL Γ α G ds vs
  | .dk lk kvs, o => ∃ ws, RepKV Γ α G kvs ws ∧ ((lk = false ∧ o = .dK ws) ∨ (lk = true ∧ ∃ od, o = .frz od (.dK ws)))
  | .dt lk kvs, o => ∃ ws, RepKV Γ α G kvs ws ∧ ((lk = false ∧ o = .dT ws) ∨ (lk = true ∧ ∃ od, o = .frz od (.dT ws)))
  | .ob c fs, o => ∃ dx vs, o = SlX.SlO a (Γ.cl c) dx vs ∧ G dx = some (.xd []) ∧ RepO Γ α G fs vs
def CellOk (Γ : Gm) (α : List Addr) (G H : Hp) (a : Addr) (c : Cell) : Prop := ∃ o, RepC Γ α G a c o ∧ ((c.live = true ∧ H a = some o ∧ G a = none) ∨ (c.live = false ∧ G a = some o))
section
variable {Γ : Gm} {α α' : List Addr} {G G' H H' : Hp} {a : Addr}
theorem RepKV.mono {κ : Type} (hp : ∃ β, α' = α ++ β) (hs : Sub G G') : ∀ {kvs : List (κ × D)} {ws : List (κ × V)}, RepKV Γ α G kvs ws → RepKV Γ α' G' kvs ws
  | [], ws, h => by simpa [RepKV] using h
  | (k, d) :: r, ws, h => by
    unfold RepKV at h ⊢
    obtain ⟨v, t, e, h1, h2⟩ := h
    exact ⟨v, t, e, Rep.mono hp hs _ _ h1, RepKV.mono hp hs h2⟩
theorem RepO.mono (hp : ∃ β, α' = α ++ β) (hs : Sub G G') {fs : List (Option D)} {vs : List (Option V)} (h : RepO Γ α G fs vs) : RepO Γ α' G' fs vs := fun i d hd => by
  obtain ⟨v, e, r⟩ := h i d hd
  exact ⟨v, e, Rep.mono hp hs _ _ r⟩
theorem RepC.mono (hp : ∃ β, α' = α ++ β) (hs : Sub G G') {c : Cell} {o : HO} (h : RepC Γ α G a c o) : RepC Γ α' G' a c o := by
  cases c with
  | lst ds => obtain ⟨vs, e, r⟩ := h; exact ⟨vs, e, RepL.mono hp hs _ _ r⟩
  | frz ds => obtain ⟨vs, e, r⟩ := h; exact ⟨vs, e, RepL.mono hp hs _ _ r⟩
  | dk lk kvs => obtain ⟨ws, r, e⟩ := h; exact ⟨ws, r.mono hp hs, e⟩
  | dt lk kvs => obtain ⟨ws, r, e⟩ := h; exact ⟨ws, r.mono hp hs, e⟩
  | ob c fs => obtain ⟨dx, vs, e, hx, r⟩ := h; exact ⟨dx, vs, e, hs _ _ hx, r.mono hp hs⟩
theorem RepC.ntup {c : Cell} {o : HO} (h : RepC Γ α G a c o) : ∀ xs, o ≠ .tup xs := by
  intro xs z
  cases c with
  | lst ds => obtain ⟨vs, e, r⟩ := h; rw [e] at z; cases z
  | frz ds => obtain ⟨vs, e, r⟩ := h; rw [e] at z; cases z
  | dk lk kvs =>
    obtain ⟨ws, r, e⟩ := h
    rcases e with ⟨_, e⟩ | ⟨_, od, e⟩ <;> (rw [e] at z; cases z)
  | dt lk kvs =>
    obtain ⟨ws, r, e⟩ := h
    rcases e with ⟨_, e⟩ | ⟨_, od, e⟩ <;> (rw [e] at z; cases z)
  | ob c fs => obtain ⟨dx, vs, e, hx, r⟩ := h; rw [e] at z; unfold SlX.SlO at z; cases z
theorem CellOk.mono {c : Cell} (h : CellOk Γ α G H a c) (hp : ∃ β, α' = α ++ β) (hs : Sub G G') (hl : c.live = true → H' a = H a ∧ (G a = none → G' a = none)) : CellOk Γ α' G' H' a c := by
  obtain ⟨o, r, h⟩ := h
  refine ⟨o, r.mono hp hs, ?_⟩
  rcases h with ⟨l, h1, h2⟩ | ⟨l, h1⟩
  · exact .inl ⟨l, by rw [(hl l).1]; exact h1, (hl l).2 h2⟩
  · exact .inr ⟨l, hs _ _ h1⟩
theorem CellOk.ntup {c : Cell} (h : CellOk Γ α G H a c) (hs : Sub G H) : ∀ xs, H a ≠ some (.tup xs) := by
  intro xs z
  obtain ⟨o, r, h⟩ := h
  rcases h with ⟨_, h1, _⟩ | ⟨_, h1⟩
  · rw [h1] at z; exact r.ntup xs (Option.some.inj z)
  · rw [hs _ _ h1] at z; exact r.ntup xs (Option.some.inj z)
theorem CellOk.lst {ds : List D} (h : CellOk Γ α G H a (.lst ds)) : ∃ vs, H a = some (.lst vs) ∧ RepL Γ α G ds vs ∧ G a = none := by
  obtain ⟨o, ⟨vs, e, r⟩, h⟩ := h
  subst e
  rcases h with ⟨_, h1, h2⟩ | ⟨l, _⟩
  · exact ⟨vs, h1, r, h2⟩
  · cases l
theorem CellOk.frz {ds : List D} (h : CellOk Γ α G H a (.frz ds)) : ∃ vs, G a = some (.lst vs) ∧ RepL Γ α G ds vs := by
  obtain ⟨o, ⟨vs, e, r⟩, h⟩ := h
  subst e
  rcases h with ⟨l, _⟩ | ⟨_, h1⟩
  · cases l
  · exact ⟨vs, h1, r⟩
theorem CellOk.mkL {ds : List D} {vs : List V} (h1 : H a = some (.lst vs)) (r : RepL Γ α G ds vs) (h2 : G a = none) : CellOk Γ α G H a (.lst ds) := ⟨_, ⟨vs, rfl, r⟩, .inl ⟨rfl, h1, h2⟩⟩
theorem CellOk.mkF {ds : List D} {vs : List V} (h1 : G a = some (.lst vs)) (r : RepL Γ α G ds vs) : CellOk Γ α G H a (.frz ds) := ⟨_, ⟨vs, rfl, r⟩, .inr ⟨rfl, h1⟩⟩
end
structure Rl (Γ : Gm) (α : List Addr) (G : Hp) (S : Store) (H : Hp) : Prop where
  sub : Sub G H
  len : α.length = S.length
  nd : α.Nodup
  tr : ∀ a ∈ α, H a ≠ none
  ok : ∀ (k : Nat) (c : Cell) (a : Addr), S[k]? = some c → α[k]? = some a → CellOk Γ α G H a c
structure Ext (α : List Addr) (G H : Hp) (α' : List Addr) (G' H' : Hp) : Prop where
  pre : ∃ β, α' = α ++ β
  sub : Sub G G'
  fr : ∀ a o, H a = some o → a ∉ α → H' a = some o
  na : ∀ a ∈ α', a ∈ α ∨ H a = none
  ng : ∀ a, G' a ≠ none → G a ≠ none ∨ a ∈ α ∨ H a = none ∨ ∃ xs, H a = some (.tup xs)
theorem Ext.refl (α : List Addr) (G H : Hp) : Ext α G H α G H := ⟨⟨[], by simp⟩, Sub.refl G, fun _ _ h _ => h, fun _ h => .inl h, fun _ h => .inl h⟩
theorem Ext.back {α α' : List Addr} {G H G' H' : Hp} (e : Ext α G H α' G' H') {a : Addr} (h : H' a = none) : a ∈ α ∨ H a = none := by
  by_cases m : a ∈ α
  · exact .inl m
  · cases q : H a with
    | none => exact .inr rfl
    | some o => rw [e.fr a o q m] at h; cases h
theorem Ext.mem {α α' : List Addr} {G H G' H' : Hp} (e : Ext α G H α' G' H') {a : Addr} (h : a ∈ α) : a ∈ α' := by
  obtain ⟨β, rfl⟩ := e.pre
  exact List.mem_append_left _ h
theorem Ext.trans {α α1 α2 : List Addr} {G H G1 H1 G2 H2 : Hp} (a : Ext α G H α1 G1 H1) (b : Ext α1 G1 H1 α2 G2 H2) : Ext α G H α2 G2 H2 := by
  refine ⟨?_, a.sub.trans b.sub, fun x o h m => ?_, fun x m => ?_, fun x h => ?_⟩
  · obtain ⟨β, rfl⟩ := a.pre
    obtain ⟨γ, rfl⟩ := b.pre
    exact ⟨β ++ γ, by simp⟩
  · refine b.fr x o (a.fr x o h m) fun m1 => ?_
    rcases a.na x m1 with z | z
    · exact m z
    · rw [z] at h; cases h
  · rcases b.na x m with z | z
    · exact a.na x z
    · exact a.back z
  · rcases b.ng x h with z | z | z | ⟨xs, z⟩
    · exact a.ng x z
    · rcases a.na x z with z | z
      · exact .inr (.inl z)
      · exact .inr (.inr (.inl z))
    · rcases a.back z with z | z
      · exact .inr (.inl z)
      · exact .inr (.inr (.inl z))
    · by_cases m : x ∈ α
      · exact .inr (.inl m)
      · cases q : H x with
        | none => exact .inr (.inr (.inl rfl))
        | some o =>
          have q2 := a.fr x o q m
          rw [z] at q2
          cases q2
          exact .inr (.inr (.inr ⟨xs, rfl⟩))
def ExR (Γ : Gm) (α : List Addr) (G : Hp) (e : Exn) (c : Value) (x : Option Addr) (H : Hp) : Prop := c = .ref (Γ.cl e.cls) ∧ ∃ vs, RepL Γ α G e.fs vs ∧ ExF G x vs
section
variable (Γ : Gm)
def Post {β γ : Type} (R : List Addr → Hp → β → γ → Prop) (α : List Addr) (G H : Hp) (r : Res β) (Q : γ → Hp → Prop) (E : XK) : Prop := match r with
  | .ok d S' => ∀ α' G' H' v, Ext α G H α' G' H' → Rl Γ α' G' S' H' → R α' G' d v → Q v H'
  | .ex e S' => ∀ α' G' H' c x, Ext α G H α' G' H' → Rl Γ α' G' S' H' → ExR Γ α' G' e c x H' → E c x H'
  | .no => False
end
section
variable {Γ : Gm} {β γ δ ε : Type} {R : List Addr → Hp → β → γ → Prop} {R' : List Addr → Hp → δ → ε → Prop} {α α1 : List Addr} {G H G1 H1 : Hp} {Q : γ → Hp → Prop} {Q' : ε → Hp → Prop} {E : XK}
theorem Post.mono {r : Res β} (h : Post Γ R α G H r Q E) (e : Ext α G H α1 G1 H1) : Post Γ R α1 G1 H1 r Q E := by
  cases r with
  | ok d S' => exact fun α' G' H' v x rl rp => h α' G' H' v (e.trans x) rl rp
  | ex d S' => exact fun α' G' H' c x y rl rp => h α' G' H' c x (e.trans y) rl rp
  | no => exact h
theorem post_bind {r : Res β} {f : β → Store → Res δ} (h : Post Γ R' α G H (r.bind f) Q' E)
    (k : ∀ a S1 α1 G1 H1 x, r = .ok a S1 → Ext α G H α1 G1 H1 → Rl Γ α1 G1 S1 H1 → R α1 G1 a x → Post Γ R' α1 G1 H1 (f a S1) Q' E → Q x H1) : Post Γ R α G H r Q E := by
  cases r with
  | ok d S' =>
    intro α' G' H' v e rl rp
    exact k d S' α' G' H' v rfl e rl rp (Post.mono h e)
  | ex e S' => exact h
  | no => exact h
theorem post_ok {a : β} {S : Store} {x : γ} (h : Post Γ R α G H (.ok a S) Q E) (rl : Rl Γ α G S H) (rp : R α G a x) : Q x H := h α G H x (Ext.refl α G H) rl rp
end
def EnvR (Γ : Gm) (α : List Addr) (G : Hp) (ρ : Env) (σ : L2.St) : Prop := ρ.length = σ.length ∧ ∀ (i : Nat) d, ρ[i]? = some (some d) → ∃ v, σ[i]? = some (some v) ∧ Rep Γ α G d v
theorem EnvR.mono {Γ : Gm} {α α' : List Addr} {G H G' H' : Hp} {ρ : Env} {σ : L2.St} (h : EnvR Γ α G ρ σ) (e : Ext α G H α' G' H') : EnvR Γ α' G' ρ σ :=
  ⟨h.1, fun i d hi => let ⟨v, a, b⟩ := h.2 i d hi; ⟨v, a, Rep.mono e.pre e.sub _ _ b⟩⟩
theorem EnvR.set {Γ : Gm} {α : List Addr} {G : Hp} {ρ : Env} {σ : L2.St} (h : EnvR Γ α G ρ σ) (i : Nat) {d : D} {v : V} (r : Rep Γ α G d v) : EnvR Γ α G (ρ.set i (some d)) (σ.set i (some v)) := by
  refine ⟨by simp [h.1], fun j e hj => ?_⟩
  by_cases hij : i = j
  · subst hij
    have hl : i < ρ.length := by
      have := (List.getElem?_eq_some_iff.mp hj).1
      simpa using this
    rw [List.getElem?_set_self hl] at hj
    cases hj
    exact ⟨v, List.getElem?_set_self (by rw [← h.1]; exact hl), r⟩
  · rw [List.getElem?_set_ne hij] at hj
    obtain ⟨w, h1, h2⟩ := h.2 j e hj
    exact ⟨w, by rw [List.getElem?_set_ne hij]; exact h1, h2⟩
abbrev ME := Env → Store → Res D
abbrev MT := Env → Store → Res Bool
abbrev MA := Env → Store → Res (List D)
inductive Fl where
  | nx (ρ : Env) | rt (d : D) | bk (ρ : Env) | ct (ρ : Env)
abbrev MS := Env → Store → Res Fl
def RB : List Addr → Hp → Bool → Bool → Prop := fun _ _ a b => a = b
section
variable (Γ : Gm) (E : XK)
def SndE (t : TE) (m : ME) : Prop := ∀ (ρ : Env) (S : Store) (σ : L2.St) (α : List Addr) (G H : Hp) (Q : VK), EnvR Γ α G ρ σ → Rl Γ α G S H → Post Γ (Rep Γ) α G H (m ρ S) Q E → t σ H Q
def SndT (t : TT) (m : MT) : Prop := ∀ (ρ : Env) (S : Store) (σ : L2.St) (α : List Addr) (G H : Hp) (Q : Bool → Hp → Prop), EnvR Γ α G ρ σ → Rl Γ α G S H → Post Γ RB α G H (m ρ S) Q E → t σ H Q
def SndA (t : TA) (m : MA) : Prop := ∀ (ρ : Env) (S : Store) (σ : L2.St) (α : List Addr) (G H : Hp) (Q : List V → Hp → Prop), EnvR Γ α G ρ σ → Rl Γ α G S H → Post Γ (RepL Γ) α G H (m ρ S) Q E → t σ H Q
def PostS (α : List Addr) (G H : Hp) (r : Res Fl) (Dn : Ends) : Prop := match r with
  | .ok (.nx ρ) S' => ∀ α' G' H' σ', Ext α G H α' G' H' → Rl Γ α' G' S' H' → EnvR Γ α' G' ρ σ' → Dn.nx σ' H'
  | .ok (.rt d) S' => ∀ α' G' H' v, Ext α G H α' G' H' → Rl Γ α' G' S' H' → Rep Γ α' G' d v → Dn.rt v H'
  | .ok (.bk ρ) S' => ∀ α' G' H' σ', Ext α G H α' G' H' → Rl Γ α' G' S' H' → EnvR Γ α' G' ρ σ' → Dn.bk σ' H'
  | .ok (.ct ρ) S' => ∀ α' G' H' σ', Ext α G H α' G' H' → Rl Γ α' G' S' H' → EnvR Γ α' G' ρ σ' → Dn.ct σ' H'
  | .ex e S' => ∀ α' G' H' c x, Ext α G H α' G' H' → Rl Γ α' G' S' H' → ExR Γ α' G' e c x H' → E c x H'
  | .no => False
def SndS (t : TS) (m : MS) : Prop := ∀ (ρ : Env) (S : Store) (σ : L2.St) (α : List Addr) (G H : Hp) (Dn : Ends), EnvR Γ α G ρ σ → Rl Γ α G S H → PostS Γ E α G H (m ρ S) Dn → t Dn σ H
end
theorem PostS.mono {Γ : Gm} {E : XK} {α α1 : List Addr} {G H G1 H1 : Hp} {r : Res Fl} {Dn : Ends} (h : PostS Γ E α G H r Dn) (e : Ext α G H α1 G1 H1) : PostS Γ E α1 G1 H1 r Dn := by
  cases r with
  | ok f S' => cases f <;> exact fun α' G' H' v x rl rp => h α' G' H' v (e.trans x) rl rp
  | ex d S' => exact fun α' G' H' c x y rl rp => h α' G' H' c x (e.trans y) rl rp
  | no => exact h
theorem posts_bind {Γ : Gm} {E : XK} {β γ : Type} {R : List Addr → Hp → β → γ → Prop} {α : List Addr} {G H : Hp} {r : Res β} {f : β → Store → Res Fl} {Dn : Ends} {Q : γ → Hp → Prop} (h : PostS Γ E α G H (r.bind f) Dn)
    (k : ∀ a S1 α1 G1 H1 x, r = .ok a S1 → Ext α G H α1 G1 H1 → Rl Γ α1 G1 S1 H1 → R α1 G1 a x → PostS Γ E α1 G1 H1 (f a S1) Dn → Q x H1) : Post Γ R α G H r Q E := by
  cases r with
  | ok d S' =>
    intro α' G' H' v e rl rp
    exact k d S' α' G' H' v rfl e rl rp (PostS.mono h e)
  | ex e S' => exact h
  | no => exact h
structure QE (X : Cx) (cl : Nat → Addr) (E : XK) (e : Expr) (m : ME) : Prop where
  ex : ∃ t, PE X e t ∧ SndE ⟨X.K, cl⟩ E t m
structure QT (X : Cx) (cl : Nat → Addr) (E : XK) (e : Expr) (m : MT) : Prop where
  ex : ∃ t, PT X e t ∧ SndT ⟨X.K, cl⟩ E t m
structure QW (X : Cx) (cl : Nat → Addr) (E : XK) (e : Expr) (m : MT) : Prop where
  ex : ∃ t, PW X e t ∧ SndT ⟨X.K, cl⟩ E t m
structure QA (X : Cx) (cl : Nat → Addr) (E : XK) (es : List Expr) (m : MA) : Prop where
  ex : ∃ t, PA X es t ∧ SndA ⟨X.K, cl⟩ E t m
structure QS (X : Cx) (cl : Nat → Addr) (E : XK) (st : Stmt) (m : MS) : Prop where
  ex : ∃ t, PS X st t ∧ SndS ⟨X.K, cl⟩ E t m
structure QSs (X : Cx) (cl : Nat → Addr) (E : XK) (st : List Stmt) (m : MS) : Prop where
  ex : ∃ t, PSs X st t ∧ SndS ⟨X.K, cl⟩ E t m
end Q
namespace Q
open PySem L2
theorem Sub.upd2 {G H : Hp} (s : Sub G H) (p : Addr) (o : HO) : Sub (upd G p o) (upd H p o) := fun a u e => by
  by_cases h : a = p
  · subst h; rw [upd_same] at e ⊢; exact e
  · rw [upd_ne h] at e ⊢; exact s a u e
section
variable {Γ : Gm} {α : List Addr} {G H : Hp} {S : Store}
theorem Rl.ntup (R : Rl Γ α G S H) {a : Addr} (h : a ∈ α) : ∀ xs, H a ≠ some (.tup xs) := by
  obtain ⟨k, hk⟩ := List.mem_iff_getElem?.mp h
  have hl : k < S.length := by rw [← R.len]; exact (List.getElem?_eq_some_iff.mp hk).1
  exact (R.ok k S[k] a (List.getElem?_eq_getElem hl) hk).ntup R.sub
theorem Rl.gnone (R : Rl Γ α G S H) {p : Addr} (h : H p = none) : G p = none := R.sub.none h
theorem Rl.get (R : Rl Γ α G S H) {k : Nat} {c : Cell} (h : S[k]? = some c) : ∃ a, α[k]? = some a ∧ a ∈ α ∧ CellOk Γ α G H a c := by
  have hl : k < α.length := by rw [R.len]; exact (List.getElem?_eq_some_iff.mp h).1
  exact ⟨α[k], List.getElem?_eq_getElem hl, List.getElem_mem hl, R.ok k c _ h (List.getElem?_eq_getElem hl)⟩
theorem Rl.new (R : Rl Γ α G S H) {p : Addr} (hp : H p = none) (o : HO) : Rl Γ α (upd G p o) S (upd H p o) ∧ Ext α G H α (upd G p o) (upd H p o) := by
  have ne : ∀ a ∈ α, a ≠ p := fun a m e => by subst e; exact R.tr a m hp
  have sg : Sub G (upd G p o) := Sub.new (R.gnone hp)
  refine ⟨⟨R.sub.upd2 p o, R.len, R.nd, fun a m => by rw [upd_ne (ne a m)]; exact R.tr a m, fun k c a hc ha => ?_⟩, ⟨⟨[], by simp⟩, sg, fun a u e _ => ?_, fun a m => .inl m, fun a h => ?_⟩⟩
  · have hm : a ∈ α := List.mem_of_getElem? ha
    exact (R.ok k c a hc ha).mono ⟨[], by simp⟩ sg fun _ => ⟨upd_ne (ne a hm), fun h3 => by rw [upd_ne (ne a hm)]; exact h3⟩
  · rw [upd_ne (ne_of_none e hp)]; exact e
  · by_cases e : a = p
    · subst e; exact .inr (.inr (.inl hp))
    · rw [upd_ne e] at h; exact .inl h
theorem Rl.out (R : Rl Γ α G S H) {p : Addr} (hp : H p = none) (o : HO) : Rl Γ α G S (upd H p o) ∧ Ext α G H α G (upd H p o) := by
  have ne : ∀ a ∈ α, a ≠ p := fun a m e => by subst e; exact R.tr a m hp
  refine ⟨⟨R.sub.trans (Sub.new hp), R.len, R.nd, fun a m => by rw [upd_ne (ne a m)]; exact R.tr a m, fun k c a hc ha => ?_⟩, ⟨⟨[], by simp⟩, Sub.refl G, fun a u e _ => ?_, fun a m => .inl m, fun a h => .inl h⟩⟩
  · have hm : a ∈ α := List.mem_of_getElem? ha
    exact (R.ok k c a hc ha).mono ⟨[], by simp⟩ (Sub.refl G) fun _ => ⟨upd_ne (ne a hm), fun h3 => h3⟩
  · rw [upd_ne (ne_of_none e hp)]; exact e
theorem Rl.cellC (R : Rl Γ α G S H) {p : Addr} (hp : H p = none) {c0 : Cell} {o0 : HO} (hl : c0.live = true) (r : RepC Γ α G p c0 o0) :
    Rl Γ (α ++ [p]) G (S ++ [c0]) (upd H p o0) ∧ Ext α G H (α ++ [p]) G (upd H p o0) ∧ Rep Γ (α ++ [p]) G (.ref S.length) (.ref p) := by
  have ne : ∀ a ∈ α, a ≠ p := fun a m e => by subst e; exact R.tr a m hp
  refine ⟨⟨R.sub.trans (Sub.new hp), by simp [R.len], ?_, fun a m => ?_, fun k c a hc ha => ?_⟩, ⟨⟨[p], rfl⟩, Sub.refl G, fun a u e _ => by rw [upd_ne (ne_of_none e hp)]; exact e, fun a m => ?_, fun a h => .inl h⟩, ?_⟩
  · rw [List.nodup_append]
    exact ⟨R.nd, by simp, fun a m b mb => by simp at mb; subst mb; exact ne a m⟩
  · by_cases e : a = p
    · subst e; rw [upd_same]; simp
    · rw [upd_ne e]
      rcases List.mem_append.mp m with m | m
      · exact R.tr a m
      · simp at m; exact absurd m e
  · by_cases hk : k < α.length
    · rw [List.getElem?_append_left hk] at ha
      rw [List.getElem?_append_left (by rw [← R.len]; exact hk)] at hc
      have hm : a ∈ α := List.mem_of_getElem? ha
      exact (R.ok k c a hc ha).mono ⟨[p], rfl⟩ (Sub.refl G) fun _ => ⟨upd_ne (ne a hm), fun h3 => h3⟩
    · rw [List.getElem?_append_right (by omega)] at ha
      rw [List.getElem?_append_right (by rw [← R.len]; omega)] at hc
      have e1 : k - α.length = 0 := by
        have := (List.getElem?_eq_some_iff.mp ha).1
        simp at this
        omega
      have e2 : k - S.length = 0 := by rw [← R.len]; exact e1
      rw [e1] at ha
      rw [e2] at hc
      simp at ha hc
      subst ha
      subst hc
      exact ⟨o0, r.mono ⟨[_], rfl⟩ (Sub.refl G), .inl ⟨hl, upd_same, R.gnone hp⟩⟩
  · rcases List.mem_append.mp m with m | m
    · exact .inl m
    · simp at m; subst m; exact .inr hp
  · unfold Rep
    exact ⟨p, rfl, by rw [← R.len]; simp⟩
theorem Rl.cell (R : Rl Γ α G S H) {p : Addr} (hp : H p = none) {ds : List D} {vs : List V} (r : RepL Γ α G ds vs) :
    Rl Γ (α ++ [p]) G (S ++ [.lst ds]) (upd H p (.lst vs)) ∧ Ext α G H (α ++ [p]) G (upd H p (.lst vs)) ∧ Rep Γ (α ++ [p]) G (.ref S.length) (.ref p) := R.cellC hp rfl ⟨vs, rfl, r⟩
theorem Rl.putC (R : Rl Γ α G S H) {k : Nat} {a : Addr} {c0 c1 : Cell} {o1 : HO} (hk : S[k]? = some c0) (ha : α[k]? = some a) (hl : c0.live = true) (hl1 : c1.live = true) (r : RepC Γ α G a c1 o1) :
    Rl Γ α G (S.set k c1) (upd H a o1) ∧ Ext α G H α G (upd H a o1) := by
  have hm : a ∈ α := List.mem_of_getElem? ha
  have a3 : G a = none := by
    obtain ⟨o, _, h⟩ := R.ok k _ a hk ha
    rcases h with ⟨_, _, h⟩ | ⟨l, _⟩
    · exact h
    · rw [hl] at l; cases l
  refine ⟨⟨fun b o e => ?_, by simp [R.len], R.nd, fun b m => ?_, fun j c b hc hb => ?_⟩, ⟨⟨[], by simp⟩, Sub.refl G, fun b u e nb => ?_, fun b m => .inl m, fun b h => .inl h⟩⟩
  · have hb : b ≠ a := fun z => by subst z; rw [a3] at e; cases e
    rw [upd_ne hb]
    exact R.sub b o e
  · by_cases e : b = a
    · subst e; rw [upd_same]; simp
    · rw [upd_ne e]; exact R.tr b m
  · by_cases hjk : k = j
    · subst hjk
      rw [List.getElem?_set_self (List.getElem?_eq_some_iff.mp hk).1] at hc
      rw [ha] at hb
      cases hb
      cases hc
      exact ⟨o1, r, .inl ⟨hl1, upd_same, a3⟩⟩
    · rw [List.getElem?_set_ne hjk] at hc
      have hb' : b ≠ a := fun z => by
        subst z
        obtain ⟨h1, e1⟩ := List.getElem?_eq_some_iff.mp ha
        obtain ⟨h2, e2⟩ := List.getElem?_eq_some_iff.mp hb
        exact hjk ((List.getElem_inj R.nd).mp (e1.trans e2.symm))
      exact (R.ok j c b hc hb).mono ⟨[], by simp⟩ (Sub.refl G) fun _ => ⟨upd_ne hb', fun h3 => h3⟩
  · have hb : b ≠ a := fun z => by subst z; exact nb hm
    rw [upd_ne hb]
    exact e
theorem Rl.put (R : Rl Γ α G S H) {k : Nat} {a : Addr} {ds es : List D} {ws : List V} (hk : S[k]? = some (.lst ds)) (ha : α[k]? = some a) (r : RepL Γ α G es ws) :
    Rl Γ α G (S.set k (.lst es)) (upd H a (.lst ws)) ∧ Ext α G H α G (upd H a (.lst ws)) := R.putC hk ha rfl rfl ⟨ws, rfl, r⟩
theorem Rl.freeze (R : Rl Γ α G S H) {k : Nat} {a : Addr} {ds : List D} (hk : S[k]? = some (.lst ds)) (ha : α[k]? = some a) :
    ∃ vs, RepL Γ α G ds vs ∧ Rl Γ α (upd G a (.lst vs)) (S.set k (.frz ds)) H ∧ Ext α G H α (upd G a (.lst vs)) H := by
  have hm : a ∈ α := List.mem_of_getElem? ha
  obtain ⟨vs, a1, a2, a3⟩ := (R.ok k _ a hk ha).lst
  have sg : Sub G (upd G a (.lst vs)) := Sub.new a3
  refine ⟨vs, a2, ⟨fun b o e => ?_, by simp [R.len], R.nd, R.tr, fun j c b hc hb => ?_⟩, ⟨⟨[], by simp⟩, sg, fun b u e _ => e, fun b m => .inl m, fun b h => ?_⟩⟩
  · by_cases e' : b = a
    · subst e'; rw [upd_same] at e; cases e; exact a1
    · rw [upd_ne e'] at e; exact R.sub b o e
  · by_cases hjk : k = j
    · subst hjk
      rw [List.getElem?_set_self (List.getElem?_eq_some_iff.mp hk).1] at hc
      rw [ha] at hb
      cases hb
      cases hc
      exact .mkF upd_same (RepL.mono ⟨[], by simp⟩ sg _ _ a2)
    · rw [List.getElem?_set_ne hjk] at hc
      have hb' : b ≠ a := fun z => by
        subst z
        obtain ⟨h1, e1⟩ := List.getElem?_eq_some_iff.mp ha
        obtain ⟨h2, e2⟩ := List.getElem?_eq_some_iff.mp hb
        exact hjk ((List.getElem_inj R.nd).mp (e1.trans e2.symm))
      exact (R.ok j c b hc hb).mono ⟨[], by simp⟩ sg fun _ => ⟨rfl, fun h3 => by rw [upd_ne hb']; exact h3⟩
  · by_cases e : b = a
    · subst e; exact .inr (.inl hm)
    · rw [upd_ne e] at h; exact .inl h
end
def lstOf (S : Store) : D → Option (List D)
  | .lst xs => some xs
  | .ref k => match S[k]? with
    | some (.lst xs) => some xs
    | some (.frz xs) => some xs
    | _ => none
  | _ => none
def rdL (S : Store) : D → Option (List D)
  | .fro xs => some xs
  | d => lstOf S d
section
variable {Γ : Gm} {α : List Addr} {G H : Hp} {S : Store}
theorem lstOf_at (R : Rl Γ α G S H) {d : D} {v : V} {xs : List D} (r : Rep Γ α G d v) (h : lstOf S d = some xs) : ∃ a vs, v = .ref a ∧ H a = some (.lst vs) ∧ RepL Γ α G xs vs := by
  cases d with
  | lst ys =>
    have e : ys = xs := Option.some.inj h
    subst e
    unfold Rep at r
    obtain ⟨a, vs, e, q, r⟩ := r
    exact ⟨a, vs, e, R.sub _ _ q, r⟩
  | ref k =>
    unfold Rep at r
    obtain ⟨a, e, ha⟩ := r
    unfold lstOf at h
    cases hc : S[k]? with
    | none => simp [hc] at h
    | some c =>
      have z := R.ok k c a hc ha
      cases c with
      | lst ys =>
        simp [hc] at h
        subst h
        obtain ⟨vs, h1, h2, h3⟩ := z.lst
        exact ⟨a, vs, e, h1, h2⟩
      | frz ys =>
        simp [hc] at h
        subst h
        obtain ⟨vs, h1, h2⟩ := z.frz
        exact ⟨a, vs, e, R.sub _ _ h1, h2⟩
      | _ => simp [hc] at h
  | _ => simp [lstOf] at h
theorem rdL_at (R : Rl Γ α G S H) {d : D} {v : V} {xs : List D} (r : Rep Γ α G d v) (h : rdL S d = some xs) : ∃ a vs, v = .ref a ∧ SqL Γ.K H a vs ∧ RepL Γ α G xs vs := by
  have go : lstOf S d = some xs → ∃ a vs, v = .ref a ∧ SqL Γ.K H a vs ∧ RepL Γ α G xs vs := fun h => by
    obtain ⟨a, vs, e, q, r⟩ := lstOf_at R r h
    exact ⟨a, vs, e, .inl (.inl q), r⟩
  cases d with
  | fro ys =>
    have e : ys = xs := Option.some.inj h
    subst e
    unfold Rep at r
    obtain ⟨a, vs, e, q, r⟩ := r
    exact ⟨a, vs, e, R.sub.sqL q, r⟩
  | _ => exact go h
theorem tup_at (R : Rl Γ α G S H) {v : V} {xs : List D} (r : Rep Γ α G (.tup xs) v) : ∃ a vs, v = .ref a ∧ SqT Γ.K H a vs ∧ RepL Γ α G xs vs := by
  unfold Rep at r
  obtain ⟨a, vs, e, q, r⟩ := r
  exact ⟨a, vs, e, .inl (.inl (R.sub _ _ q)), r⟩
theorem tup_at2 (R : Rl Γ α G S H) {v : V} {xs : List D} (r : Rep Γ α G (.tup xs) v) : ∃ a vs, v = .ref a ∧ G a = some (.tup vs) ∧ H a = some (.tup vs) ∧ RepL Γ α G xs vs := by
  unfold Rep at r
  obtain ⟨a, vs, e, q, r⟩ := r
  exact ⟨a, vs, e, q, R.sub _ _ q, r⟩
theorem sz {n : Nat} (h : n ≤ 100000) : n ≤ sizeLine := Nat.le_trans h (by decide)
theorem rep_lst {p : Addr} {xs : List D} {vs : List V} (h : G p = some (.lst vs)) (r : RepL Γ α G xs vs) : Rep Γ α G (.lst xs) (.ref p) := by unfold Rep; exact ⟨p, vs, rfl, h, r⟩
theorem rep_tup {p : Addr} {xs : List D} {vs : List V} (h : G p = some (.tup vs)) (r : RepL Γ α G xs vs) : Rep Γ α G (.tup xs) (.ref p) := by unfold Rep; exact ⟨p, vs, rfl, h, r⟩
theorem post_lst {Q : VK} {E : XK} {xs : List D} {vs : List V} (R : Rl Γ α G S H) (r : RepL Γ α G xs vs) (h : Post Γ (Rep Γ) α G H (.ok (.lst xs) S) Q E) {p : Addr} (hp : H p = none) : Q (.ref p) (upd H p (.lst vs)) := by
  obtain ⟨R', e⟩ := R.new hp (.lst vs)
  exact h _ _ _ _ e R' (rep_lst upd_same (RepL.mono e.pre e.sub _ _ r))
theorem post_tup {Q : VK} {E : XK} {xs : List D} {vs : List V} (R : Rl Γ α G S H) (r : RepL Γ α G xs vs) (h : Post Γ (Rep Γ) α G H (.ok (.tup xs) S) Q E) {p : Addr} (hp : H p = none) : Q (.ref p) (upd H p (.tup vs)) := by
  obtain ⟨R', e⟩ := R.new hp (.tup vs)
  exact h _ _ _ _ e R' (rep_tup upd_same (RepL.mono e.pre e.sub _ _ r))
theorem post_cell {Q : VK} {E : XK} {xs : List D} {vs : List V} (R : Rl Γ α G S H) (r : RepL Γ α G xs vs) (h : Post Γ (Rep Γ) α G H (.ok (.ref S.length) (S ++ [.lst xs])) Q E) {p : Addr} (hp : H p = none) : Q (.ref p) (upd H p (.lst vs)) := by
  obtain ⟨R', e, r'⟩ := R.cell hp r
  exact h _ _ _ _ e R' r'
end
end Q
namespace Q
open PySem L2
def mVar (i : Nat) : ME := fun ρ S => match ρ[i]? with
  | some (some d) => .ok d S
  | _ => .no
def mC (d : D) : ME := fun _ S => .ok d S
section
variable {X : Cx} {cl : Nat → Addr} {E : XK} {a b c e : Expr} {ma mb mc m : ME} {pos : Pos}
theorem snd_var {Γ : Gm} (i : Nat) : SndE Γ E (tVar i) (mVar i) := fun ρ S σ α G H Q hρ hR h => by
  unfold mVar at h
  cases q : ρ[i]? with
  | none => simp [q, Post] at h
  | some o =>
    cases o with
    | none => simp [q, Post] at h
    | some d =>
      simp only [q] at h
      obtain ⟨v, hv, r⟩ := hρ.2 i d q
      exact ⟨v, hv, post_ok h hR r⟩
theorem snd_c {Γ : Gm} {v : V} {d : D} (hr : ∀ α G, Rep Γ α G d v) : SndE Γ E (tC v) (mC d) := fun ρ S σ α G H Q hρ hR h => post_ok h hR (hr _ _)
theorem q_var (i : Nat) {x : Str} {pos : Pos} (hN : X.N[i]? = some x := by rfl) (hv : Vis X.env.scope x := by first | exact Or.inl rfl | exact Or.inr (Or.inl rfl) | exact Or.inr (Or.inr rfl)) (hd : (x == ("__debug__" : Str)) = false := by decide)
    (hcd : (x == ("__classdict__" : Str)) = false := by decide) : QE X cl E (.Name x pos) (mVar i) := ⟨_, pe_var hN hv hd hcd, snd_var i⟩
theorem q_int {i j pos} : QE X cl E (.Constant (.int i) j pos) (mC (.int i)) := ⟨_, pe_int, snd_c fun _ _ => by simp [Rep]⟩
theorem q_bl {i j pos} : QE X cl E (.Constant (.bool i) j pos) (mC (.bl i)) := ⟨_, pe_bl, snd_c fun _ _ => by simp [Rep]⟩
theorem q_non {j pos} : QE X cl E (.Constant .none j pos) (mC .non) := ⟨_, pe_non, snd_c fun _ _ => by simp [Rep]⟩
def SndR (Γ : Gm) (E : XK) (r : R2) (f : D → D → Store → Res D) : Prop := ∀ (a b : D) (S : Store) (α : List Addr) (G H : Hp) (x y : V) (Q : VK), Rl Γ α G S H → Rep Γ α G a x → Rep Γ α G b y → Post Γ (Rep Γ) α G H (f a b S) Q E → r x y H Q
structure QR (X : Cx) (cl : Nat → Addr) (E : XK) (op : Value → Value → Sem Value) (f : D → D → Store → Res D) : Prop where
  ex : ∃ r, OpR X op r ∧ SndR ⟨X.K, cl⟩ E r f
def mOp (f : D → D → Store → Res D) (ma mb : ME) : ME := fun ρ S => (ma ρ S).bind fun x S1 => (mb ρ S1).bind fun y S2 => f x y S2
theorem snd_op {Γ : Gm} {r : R2} {f : D → D → Store → Res D} {ta tb : TE} (hr : SndR Γ E r f) (ha : SndE Γ E ta ma) (hb : SndE Γ E tb mb) : SndE Γ E (tOp r ta tb) (mOp f ma mb) := fun ρ S σ α G H Q hρ hR h =>
  ha ρ S σ α G H _ hρ hR (post_bind h fun x S1 α1 G1 H1 v _ e1 R1 r1 h1 =>
    hb ρ S1 σ α1 G1 H1 _ (hρ.mono e1) R1 (post_bind h1 fun y S2 α2 G2 H2 w _ e2 R2 r2 h2 =>
      hr x y S2 α2 G2 H2 v w Q R2 (Rep.mono e2.pre e2.sub _ _ r1) r2 h2))
theorem q_op {op : Operator} {f : D → D → Store → Res D} (ho : QR X cl E (binaryOp op) f) (ha : QE X cl E a ma) (hb : QE X cl E b mb) : QE X cl E (.BinOp a op b pos) (mOp f ma mb) := by
  obtain ⟨r, h1, h2⟩ := ho.ex
  obtain ⟨ta, a1, a2⟩ := ha.ex
  obtain ⟨tb, b1, b2⟩ := hb.ex
  exact ⟨_, pe_op h1 a1 b1, snd_op h2 a2 b2⟩
theorem q_cmp {op : CmpOp} {f : D → D → Store → Res D} (ho : QR X cl E (compareOp op) f) (ha : QE X cl E a ma) (hb : QE X cl E b mb) (hm : behindInMarks op b = false := by first | rfl | exact nomark _) : QE X cl E (.Compare a [op] [b] pos) (mOp f ma mb) := by
  obtain ⟨r, h1, h2⟩ := ho.ex
  obtain ⟨ta, a1, a2⟩ := ha.ex
  obtain ⟨tb, b1, b2⟩ := hb.ex
  exact ⟨_, pe_cmpR h1 a1 b1 hm, snd_op h2 a2 b2⟩
theorem OpR.or {f : Value → Value → Sem Value} {r r' : R2} (h : OpR X f r) (h' : OpR X f r') : OpR X f (fun x y H Q => r x y H Q ∨ r' x y H Q) := fun pins s σ H x y v u Q I rx ry q => by
  rcases q with q | q
  · exact h pins s σ H x y v u Q I rx ry q
  · exact h' pins s σ H x y v u Q I rx ry q
def Res.orE {β : Type} (r s : Res β) : Res β := match r with
  | .no => s
  | r => r
@[simp] theorem orE_ok {β : Type} (a : β) (S : Store) (s : Res β) : (Res.ok a S).orE s = .ok a S := rfl
@[simp] theorem orE_no {β : Type} (s : Res β) : (Res.no : Res β).orE s = s := rfl
theorem QR.or {op : Value → Value → Sem Value} {f g : D → D → Store → Res D} (h : QR X cl E op f) (h' : QR X cl E op g) : QR X cl E op (fun a b S => (f a b S).orE (g a b S)) := by
  obtain ⟨r, h1, h2⟩ := h.ex
  obtain ⟨r', h1', h2'⟩ := h'.ex
  refine ⟨_, h1.or h1', fun a b S α G H x y Q hR ra rb hp => ?_⟩
  simp only at hp
  cases q : f a b S with
  | no =>
    rw [q] at hp
    exact .inr (h2' a b S α G H x y Q hR ra rb hp)
  | ok d S' =>
    rw [q] at hp
    exact .inl (h2 a b S α G H x y Q hR ra rb (by rw [q]; exact hp))
  | ex d S' =>
    rw [q] at hp
    exact .inl (h2 a b S α G H x y Q hR ra rb (by rw [q]; exact hp))
def fI (C : Int → Int → Bool) (g : Int → Int → D) : D → D → Store → Res D := fun a b S => match a, b with
  | .int i, .int j => if C i j = true then .ok (g i j) S else .no
  | _, _ => .no
def fI0 (g : Int → Int → D) : D → D → Store → Res D := fun a b S => match a, b with
  | .int i, .int j => .ok (g i j) S
  | _, _ => .no
theorem snd_I {Γ : Gm} {C : Int → Int → Prop} {C' : Int → Int → Bool} {g : Int → Int → V} {g' : Int → Int → D} (hc : ∀ i j, C' i j = true → C i j) (hg : ∀ α G i j, Rep Γ α G (g' i j) (g i j)) : SndR Γ E (rI C g) (fI C' g') := by
  intro a b S α G H x y Q hR ra rb h
  cases a <;> cases b <;> try exact h.elim
  rename_i i j
  simp only [Rep] at ra rb
  unfold fI at h
  simp only at h
  split at h
  · rename_i hh
    exact ⟨i, j, ra, rb, hc i j hh, post_ok h hR (hg _ _ _ _)⟩
  · exact h.elim
theorem snd_I0 {Γ : Gm} {g : Int → Int → V} {g' : Int → Int → D} (hg : ∀ α G i j, Rep Γ α G (g' i j) (g i j)) : SndR Γ E (rI0 g) (fI0 g') := by
  intro a b S α G H x y Q hR ra rb h
  cases a <;> cases b <;> try exact h.elim
  rename_i i j
  simp only [Rep] at ra rb
  exact ⟨i, j, ra, rb, post_ok (a := g' i j) h hR (hg _ _ _ _)⟩
def mulOk (i j : Int) : Bool := decide (i.natAbs < 2 ^ 64) || decide (j.natAbs < 2 ^ 64) || decide (i.natAbs.log2 + j.natAbs.log2 < 1000000)
def divOk (_ j : Int) : Bool := decide (0 < j ∧ j.natAbs.log2 < 9000)
def modOk (_ j : Int) : Bool := decide (0 < j)
def powOk (i j : Int) : Bool := decide (0 ≤ j ∧ j.natAbs ≤ 1000000 ∧ i.natAbs < 2 ^ 64)
def opAddI := fI0 fun i j => .int (i + j)
def opSubI := fI0 fun i j => .int (i - j)
def opMulI := fI mulOk fun i j => .int (i * j)
def opDivI := fI divOk fun i j => .int (i / j)
def opModI := fI modOk fun i j => .int (i % j)
def opPowI := fI powOk fun i j => .int (i ^ j.toNat)
theorem addI : QR X cl E (binaryOp .Add) opAddI := ⟨_, op_add, snd_I0 fun _ _ _ _ => by simp [Rep]⟩
theorem subI : QR X cl E (binaryOp .Sub) opSubI := ⟨_, op_sub, snd_I0 fun _ _ _ _ => by simp [Rep]⟩
theorem mulI : QR X cl E (binaryOp .Mult) opMulI := by
  refine ⟨_, OpR.or op_mul op_mulW, fun a b S α G H x y Q hR ra rb h => ?_⟩
  cases a <;> cases b <;> try exact h.elim
  rename_i i j
  simp only [Rep] at ra rb
  unfold opMulI fI at h
  simp only at h
  split at h
  · rename_i hh
    have q := post_ok (x := V.int (i * j)) h hR (by simp [Rep])
    unfold mulOk at hh
    simp only [Bool.or_eq_true, decide_eq_true_eq] at hh
    rcases hh with (hh | hh) | hh
    · exact .inl ⟨i, j, ra, rb, .inl (by omega), q⟩
    · exact .inl ⟨i, j, ra, rb, .inr (by omega), q⟩
    · exact .inr ⟨i, j, ra, rb, hh, q⟩
  · exact h.elim
theorem divI : QR X cl E (binaryOp .FloorDiv) opDivI := ⟨_, op_fdivW, snd_I (fun i j h => by simpa [divOk, CDivW] using h) fun _ _ _ _ => by simp [Rep]⟩
theorem modI : QR X cl E (binaryOp .Mod) opModI := ⟨_, op_mod, snd_I (fun i j h => by simpa [modOk] using h) fun _ _ _ _ => by simp [Rep]⟩
theorem powI : QR X cl E (binaryOp .Pow) opPowI := ⟨_, op_pow, snd_I (fun i j h => by
  have h2 : 0 ≤ j ∧ j.natAbs ≤ 1000000 ∧ i.natAbs < 2 ^ 64 := of_decide_eq_true h
  have h3 : 0 ≤ j ∧ j ≤ 1000000 ∧ i.natAbs < 2 ^ 64 := ⟨h2.1, by omega, h2.2.2⟩
  simpa [CPow] using h3) fun _ _ _ _ => by simp [Rep]⟩
def opLt := fI0 fun i j => .bl (decide (i < j))
def opGt := fI0 fun i j => .bl (decide (j < i))
def opGe := fI0 fun i j => .bl (decide (j ≤ i))
theorem ltI : QR X cl E (compareOp .Lt) opLt := ⟨_, op_lt, snd_I0 fun _ _ _ _ => by simp [Rep]⟩
theorem gtI : QR X cl E (compareOp .Gt) opGt := ⟨_, op_gt, snd_I0 fun _ _ _ _ => by simp [Rep]⟩
theorem geI : QR X cl E (compareOp .GtE) opGe := ⟨_, op_ge, snd_I0 fun _ _ _ _ => by simp [Rep]⟩
def opCat : D → D → Store → Res D := fun a b S => match a, b with
  | .str s, .str t => if s.length + t.length ≤ 100000 then .ok (.str (s ++ t)) S else .no
  | .tup xs, .tup ys => if xs.length + ys.length ≤ 100000 then .ok (.tup (xs ++ ys)) S else .no
  | a, b => match lstOf S a, lstOf S b with
    | some xs, some ys => if xs.length + ys.length ≤ 100000 then .ok (.lst (xs ++ ys)) S else .no
    | _, _ => .no
theorem repL_nil {Γ : Gm} {α : List Addr} {G : Hp} {xs : List D} {vs : List V} (r : RepL Γ α G xs vs) : xs = [] ↔ vs = [] := by
  have := r.length
  constructor
  · intro h; subst h; simpa using this.symm
  · intro h; subst h; simpa using this
theorem catQ (hc : True) : QR X cl E (binaryOp .Add) opCat := by
  refine ⟨_, OpR.or op_add_str (OpR.or op_catA op_cat), fun a b S α G H x y Q hR ra rb h => ?_⟩
  have lists : (match lstOf S a, lstOf S b with
      | some xs, some ys => if xs.length + ys.length ≤ 100000 then Res.ok (.lst (xs ++ ys)) S else .no
      | _, _ => .no) = opCat a b S → rCat x y H Q := fun e => by
    rw [← e] at h
    cases h1 : lstOf S a with
    | none => simp [h1, Post] at h
    | some xs =>
      cases h2 : lstOf S b with
      | none => simp [h1, h2, Post] at h
      | some ys =>
        simp only [h1, h2] at h
        split at h
        · rename_i hs
          obtain ⟨p, vs, rfl, q1, r1⟩ := lstOf_at hR ra h1
          obtain ⟨p2, ws, rfl, q2, r2⟩ := lstOf_at hR rb h2
          exact ⟨p, p2, vs, ws, rfl, rfl, q1, q2, by rw [← r1.length, ← r2.length]; exact sz hs, fun z hz => post_lst hR (r1.append r2) h hz⟩
        · exact h.elim
  cases a <;> cases b <;> first
    | exact .inr (.inr (lists rfl))
    | skip
  · rename_i s t
    simp only [Rep] at ra rb
    simp only [opCat] at h
    split at h
    · rename_i hs
      exact .inl ⟨s, t, ra, rb, sz hs, post_ok h hR (by simp [Rep])⟩
    · exact h.elim
  · rename_i xs ys
    simp only [opCat] at h
    split at h
    · rename_i hs
      obtain ⟨p, vs, rfl, q1, r1⟩ := tup_at hR ra
      obtain ⟨p2, ws, rfl, q2, r2⟩ := tup_at hR rb
      refine .inr (.inl ⟨p, p2, vs, ws, rfl, rfl, q1, q2, by rw [← r1.length, ← r2.length]; exact sz hs, fun e => ?_, fun e e2 => ?_, fun e e2 z hz => post_tup hR (r1.append r2) h hz⟩)
      · have e' := (repL_nil r1).mpr e
        subst e'
        exact post_ok h hR rb
      · have e' := (repL_nil r2).mpr e2
        subst e'
        rw [List.append_nil] at h
        exact post_ok h hR ra
    · exact h.elim
def opAdd : D → D → Store → Res D := fun a b S => (opAddI a b S).orE (opCat a b S)
theorem addQ : QR X cl E (binaryOp .Add) opAdd := addI.or (catQ trivial)
def opRep : D → D → Store → Res D := fun a b S => match lstOf S a, b with
  | some xs, .int k => if (-100000 ≤ k ∧ k ≤ 100000) ∧ xs.length * k.toNat ≤ 100000 then .ok (.lst (List.replicate k.toNat xs).flatten) S else .no
  | _, _ => .no
theorem RepL.flat {Γ : Gm} {α : List Addr} {G : Hp} {xs : List D} {vs : List V} (r : RepL Γ α G xs vs) : ∀ n : Nat, RepL Γ α G (List.replicate n xs).flatten (List.replicate n vs).flatten
  | 0 => by simp [RepL]
  | n + 1 => by
    simp only [List.replicate_succ, List.flatten_cons]
    exact r.append (RepL.flat r n)
theorem repQ : QR X cl E (binaryOp .Mult) opRep := by
  refine ⟨_, op_rep, fun a b S α G H x y Q hR ra rb h => ?_⟩
  unfold opRep at h
  cases h1 : lstOf S a with
  | none => simp [h1, Post] at h
  | some xs =>
    cases b <;> simp only [h1] at h <;> try exact h.elim
    rename_i k
    split at h
    · rename_i hs
      obtain ⟨p, vs, rfl, q1, r1⟩ := lstOf_at hR ra h1
      simp only [Rep] at rb
      refine ⟨p, k, vs, rfl, rb, q1, ?_, ?_, by rw [← r1.length]; exact sz hs.2, fun z hz => post_lst hR (r1.flat _) h hz⟩
      · have : (100000 : Int) < 2 ^ 63 := by decide
        omega
      · have : (100000 : Int) < 2 ^ 63 := by decide
        omega
    · exact h.elim
end
end Q
namespace L2
open PySem PySem.Spec PyProof.Rows
theorem tuple_mul_one (l : Addr) (items : Array Value) (n : Nat) (dd : Option Addr) (sl : Array (Option Value)) (x : Int) (u : Tok) (hx : x = 1) :
    Meets (Builtin.«tuple.__mul__» { pos := [.ref l, .int x u] }) fun _ R s => s.heap.get? l = some { cls := .type "tuple", dict := dd, data := .seq items n, slots := sl } ∧ R (.ok (.ret (.ref l))) s := by
  refine Meets.of_wp fun prog w A R s h => ?_
  obtain ⟨hl, h⟩ := h
  have ht : IsTup s.heap l items := ⟨_, hl, rfl, n, rfl⟩
  have hT : s.TypeIs (.ref l) "tuple" := ⟨_, hl, rfl⟩
  apply wpAny_bind (m := asIndex (.int x u))
  refine wpAny_bind (wpAny_pure (wpAny_pure ?_))
  refine wpAny_ite_false (by subst hx; decide) (wpAny_bind (tupleItemsOf_ ht ?_))
  refine wpAny_ite_true (by subst hx; simp) (wpAny_bind (wpAny_bind (wpAny_typeOf hT (wpAny_pure ?_))))
  refine wpAny_ite_true rfl (wpAny_bind (wpAny_rule ?_))
  exact wpAny_pure ⟨_, rfl, h⟩
theorem tuple_mul_none (l : Addr) (items : Array Value) (n : Nat) (dd : Option Addr) (sl : Array (Option Value)) (x : Int) (u : Tok) (hx : x ≤ 0) (hx2 : -(2 ^ 60) ≤ x) (hi : items.isEmpty = false) :
    Meets (Builtin.«tuple.__mul__» { pos := [.ref l, .int x u] }) fun _ R s => s.heap.get? l = some { cls := .type "tuple", dict := dd, data := .seq items n, slots := sl } ∧ R (.ok (.ret (.ref s.heap.objs.size))) { heap := s.heap.push { cls := .type "tuple", data := .seq #[] }, gens := s.gens, drawn := s.drawn, toks := s.toks, os := s.os } := by
  refine Meets.of_wp fun prog w A R s h => ?_
  obtain ⟨hl, h⟩ := h
  have ht : IsTup s.heap l items := ⟨_, hl, rfl, n, rfl⟩
  apply wpAny_bind (m := asIndex (.int x u))
  refine wpAny_bind (wpAny_pure (wpAny_pure ?_))
  refine wpAny_ite_false (by simp; omega) (wpAny_bind (tupleItemsOf_ ht ?_))
  have h1 : (x == 1) = false := by simp; omega
  refine wpAny_ite_false (by rw [hi, h1]; rfl) ?_
  refine wpAny_ite_true (by simp [hx]) (wpAny_bind ?_)
  refine wpAny_newObj_type ?_ (by show (0 : Nat) ≤ sizeLine; omega)
  exact wpAny_pure ⟨_, rfl, h⟩
def rRepT1 (K : PySem.W.Frag) : R2 := fun x y H Q => ∃ (l : Addr) (k : Int) (xs : List V), x = .ref l ∧ y = .int k ∧ SqT K H l xs ∧ xs ≠ [] ∧ -1000 ≤ k ∧ k ≤ 1 ∧ (k = 1 → Q (.ref l) H) ∧ (k ≤ 0 → ∀ p, H p = none → Q (.ref p) (upd H p (.tup [])))
theorem op_repT1 {X : Cx} : OpR X (binaryOp .Mult) (rRepT1 X.K) := by
  intro pins s σ H x y v u Q I rx ry h
  obtain ⟨l, k, xs, rfl, rfl, hx, hne, hk0, hk1, q1, q0⟩ := h
  cases rx
  obtain ⟨t, rfl⟩ := ry
  obtain ⟨its, r, ⟨o, ho, hc, n, hd⟩, hz⟩ := I.tuple hx
  obtain ⟨cls, dd, data, sl⟩ := o
  simp only at hc hd
  subst hc hd
  have hie : its.toArray.isEmpty = false := by
    cases its with
    | nil => cases r; exact absurd rfl hne
    | cons a b => rfl
  have go : wpAny (model X.prog X.w) X.A (call (.builtin "tuple.__mul__") [.ref l, .int k t]) (EP X pins σ Q) X.xe s := by
    by_cases h1 : k = 1
    · exact call_meets F.slot_tuple_mul ⟨_, ho, rfl⟩ F.entry_tuple_mul (F.args_tuple_mul_2 _ _) (tuple_mul_one l its.toArray n dd sl k t h1) ⟨ho, .ref l, H, I, rfl, q1 h1⟩
    · refine call_meets F.slot_tuple_mul ⟨_, ho, rfl⟩ F.entry_tuple_mul (F.args_tuple_mul_2 _ _) (tuple_mul_none l its.toArray n dd sl k t (by omega) (by omega) hie) ⟨ho, ?_⟩
      refine ⟨.ref _, upd H _ (.tup []), I.laid (fun b ob q => Heap.get?_push_of_some _ q) (Nat.le_refl _) ⟨by simp, [], .nil, ?_⟩, rfl, q0 (by omega) _ (I.hok.fresh (Nat.le_refl _))⟩
      exact IsTup.new _ _
  exact wpAny_binaryOp_repeat_ref (T := "tuple") (U := "int") (by decide) ⟨_, ho, rfl⟩ (fun s' => typeIs_int s' k t) noFill_tuple_mul F.fills_int_mul F.slot_int_rmul repeat_tuple F.slot_int_index.lookup
    (call_meets F.slot_int_rmul (typeIs_int s k t) F.entry_int_rmul (F.args_int_rmul_2 _ _) (int_rmul_tuple k t l its.toArray n dd sl) ⟨ho, rfl, ⟨_, ho, rfl⟩, go⟩)
end L2
namespace Q
open PySem L2
section
variable {X : Cx} {cl : Nat → Addr} {E : XK} {a b c e : Expr} {ma mb mc m : ME} {pos : Pos}
def opRepT : D → D → Store → Res D := fun a b S => match a, b with
  | .tup xs, .int k => if 0 < xs.length ∧ -1000 ≤ k ∧ k ≤ 1000 ∧ xs.length ≤ 1000 then .ok (.tup (List.replicate k.toNat xs).flatten) S else .no
  | _, _ => .no
theorem repTQ : QR X cl E (binaryOp .Mult) opRepT := by
  refine ⟨_, OpR.or op_repT op_repT1, fun a b S α G H x y Q hR ra rb h => ?_⟩
  cases a <;> cases b <;> try exact h.elim
  rename_i xs k
  simp only [opRepT] at h
  split at h
  · rename_i hs
    obtain ⟨p, vs, rfl, q1, r1⟩ := tup_at hR ra
    simp only [Rep] at rb
    have hne : vs ≠ [] := fun e => by
      have := (repL_nil r1).mpr e
      subst this
      simp at hs
    by_cases hk : 2 ≤ k
    · exact .inl ⟨p, k, vs, rfl, rb, q1, hne, hk, hs.2.2.1, by rw [← r1.length]; exact hs.2.2.2, fun z hz => post_tup hR (r1.flat _) h hz⟩
    · refine .inr ⟨p, k, vs, rfl, rb, q1, hne, hs.2.1, by omega, fun e => ?_, fun e z hz => ?_⟩
      · subst e
        have e2 : (List.replicate (1 : Int).toNat xs).flatten = xs := by
          show (List.replicate 1 xs).flatten = xs
          simp
        rw [e2] at h
        exact post_ok h hR ra
      · have e2 : (List.replicate k.toNat xs).flatten = [] := by
          rw [show k.toNat = 0 by omega]
          rfl
        rw [e2] at h
        exact post_tup hR (by simp [RepL]) h hz
  · exact h.elim
def opMul : D → D → Store → Res D := fun a b S => (opMulI a b S).orE ((opRep a b S).orE (opRepT a b S))
theorem mulQ : QR X cl E (binaryOp .Mult) opMul := mulI.or (repQ.or repTQ)
mutual
def deq : D → D → Bool
  | .non, .non => true
  | .bl a, .bl b => a == b
  | .bl a, .int j => (if a then 1 else 0) == j
  | .int i, .bl b => i == (if b then 1 else 0)
  | .int i, .int j => i == j
  | .str x, .str y => x == y
  | .tup xs, .tup ys => deqL xs ys
  | .lst xs, .lst ys => deqL xs ys
  | _, _ => false
def deqL : List D → List D → Bool
  | [], [] => true
  | x :: xs, y :: ys => deq x y && deqL xs ys
  | _, _ => false
end
mutual
def toPy : D → PyData
  | .non => .none
  | .bl b => .bool b
  | .int i => .int i
  | .str s => .str s
  | .tup xs => .tuple (toPyL xs)
  | .lst xs => .list (toPyL xs)
  | .fro _ | .obj _ _ | .exn _ _ | .ref _ => .none
def toPyL : List D → List PyData
  | [] => []
  | x :: xs => toPy x :: toPyL xs
end
def shal : Nat → D → Bool
  | _, .non => true
  | _, .bl _ => true
  | _, .int _ => true
  | _, .str s => PyData.strOk s
  | n + 1, .tup xs => xs.all (shal n)
  | n + 1, .lst xs => xs.all (shal n)
  | _, _ => false
theorem toPyL_map : ∀ xs : List D, toPyL xs = xs.map toPy
  | [] => rfl
  | x :: xs => by simp [toPyL, toPyL_map xs]
theorem depthAll_le {n : Nat} : ∀ {xs : List PyData}, (∀ x ∈ xs, x.depth ≤ n) → PyData.depthAll xs ≤ n
  | [], _ => by simp [PyData.depthAll]
  | x :: xs, h => by
    simp only [PyData.depthAll]
    have h1 := h x (by simp)
    have h2 := depthAll_le (xs := xs) fun y hy => h y (by simp [hy])
    omega
theorem canLayAll {xs : List PyData} : (∀ x ∈ xs, x.canLay0 = true) → PyData.canLayAll0 xs = true := by
  induction xs with
  | nil => intro _; rfl
  | cons x xs ih =>
    intro h
    simp only [PyData.canLayAll0, Bool.and_eq_true]
    exact ⟨h x (by simp), ih fun y hy => h y (by simp [hy])⟩
theorem shal_lay : ∀ (n : Nat) (d : D), shal n d = true → (toPy d).canLay0 = true ∧ (toPy d).depth ≤ n
  | n, .non, _ => by simp [toPy, PyData.canLay0, PyData.depth]
  | n, .bl _, _ => by simp [toPy, PyData.canLay0, PyData.depth]
  | n, .int _, _ => by simp [toPy, PyData.canLay0, PyData.depth]
  | n, .str s, h => by
    have : PyData.strOk s = true := by cases n <;> simpa [shal] using h
    simp [toPy, PyData.canLay0, PyData.depth, this]
  | n + 1, .tup xs, h => by
    have h' : ∀ x ∈ xs, shal n x = true := by simpa [shal] using h
    have k : ∀ y ∈ toPyL xs, y.canLay0 = true ∧ y.depth ≤ n := fun y hy => by
      rw [toPyL_map] at hy
      obtain ⟨x, hx, rfl⟩ := List.mem_map.mp hy
      exact shal_lay n x (h' x hx)
    exact ⟨canLayAll fun y hy => (k y hy).1, by
      simp only [toPy, PyData.depth]
      have := depthAll_le fun y hy => (k y hy).2
      omega⟩
  | n + 1, .lst xs, h => by
    have h' : ∀ x ∈ xs, shal n x = true := by simpa [shal] using h
    have k : ∀ y ∈ toPyL xs, y.canLay0 = true ∧ y.depth ≤ n := fun y hy => by
      rw [toPyL_map] at hy
      obtain ⟨x, hx, rfl⟩ := List.mem_map.mp hy
      exact shal_lay n x (h' x hx)
    exact ⟨canLayAll fun y hy => (k y hy).1, by
      simp only [toPy, PyData.depth]
      have := depthAll_le fun y hy => (k y hy).2
      omega⟩
  | 0, .tup xs, h => by simp [shal] at h
  | 0, .lst xs, h => by simp [shal] at h
  | 0, .fro _, h => by simp [shal] at h
  | 0, .obj _ _, h => by simp [shal] at h
  | 0, .exn _ _, h => by simp [shal] at h
  | 0, .ref _, h => by simp [shal] at h
  | n + 1, .fro _, h => by simp [shal] at h
  | n + 1, .obj _ _, h => by simp [shal] at h
  | n + 1, .exn _ _, h => by simp [shal] at h
  | n + 1, .ref _, h => by simp [shal] at h
theorem shal_shaped {d : D} (h : shal 20 d = true) : SeqAt.shaped (toPy d) = true := by
  obtain ⟨h1, h2⟩ := shal_lay 20 d h
  unfold SeqAt.shaped
  rw [h1, decide_eq_true (by omega)]
  rfl
mutual
theorem deq_py : ∀ (n m : Nat) (a b : D), shal n a = true → shal m b = true → PyData.eqv (toPy a) (toPy b) = deq a b
  | n, m, a, b, ha, hb => by
    cases a <;> cases b <;> first
      | (simp only [toPy, deq, PyData.eqv]; done)
      | (cases n <;> simp [shal] at ha; done)
      | (cases m <;> simp [shal] at hb; done)
      | skip
    all_goals
      rename_i xs ys
      cases n with
      | zero => simp [shal] at ha
      | succ n =>
        cases m with
        | zero => simp [shal] at hb
        | succ m =>
          simp only [toPy, deq, PyData.eqv]
          exact deqL_py n m xs ys (by simpa [shal] using ha) (by simpa [shal] using hb)
theorem deqL_py : ∀ (n m : Nat) (a b : List D), (∀ x ∈ a, shal n x = true) → (∀ x ∈ b, shal m x = true) → PyData.eqvAll (toPyL a) (toPyL b) = deqL a b
  | n, m, [], [], _, _ => rfl
  | n, m, [], _ :: _, _, _ => rfl
  | n, m, _ :: _, [], _, _ => rfl
  | n, m, x :: xs, y :: ys, ha, hb => by
    simp only [toPyL, PyData.eqvAll, deqL]
    rw [deq_py n m x y (ha x (by simp)) (hb y (by simp)), deqL_py n m xs ys (fun z hz => ha z (by simp [hz])) (fun z hz => hb z (by simp [hz]))]
end
mutual
theorem rep_dp {Γ : Gm} {α : List Addr} {G H : Hp} (s : Sub G H) : ∀ (n : Nat) (d : D) (v : V), shal n d = true → Rep Γ α G d v → Dp Γ.K H v (toPy d)
  | n, .non, v, _, r => by simp only [Rep] at r; subst r; exact .non
  | n, .bl b, v, _, r => by simp only [Rep] at r; subst r; exact .bl b
  | n, .int b, v, _, r => by simp only [Rep] at r; subst r; exact .int b
  | n, .str b, v, _, r => by simp only [Rep] at r; subst r; exact .str b
  | n + 1, .tup xs, v, h, r => by
    unfold Rep at r
    obtain ⟨a, vs, rfl, q, r⟩ := r
    exact .tup (.inl (.inl (s _ _ q))) (repL_dp s n xs vs (by simpa [shal] using h) r)
  | n + 1, .lst xs, v, h, r => by
    unfold Rep at r
    obtain ⟨a, vs, rfl, q, r⟩ := r
    exact .lst (.inl (.inl (s _ _ q))) (repL_dp s n xs vs (by simpa [shal] using h) r)
  | 0, .tup xs, v, h, _ => by simp [shal] at h
  | 0, .lst xs, v, h, _ => by simp [shal] at h
  | n, .fro _, v, h, _ => by cases n <;> simp [shal] at h
  | n, .obj _ _, v, h, _ => by cases n <;> simp [shal] at h
  | n, .exn _ _, v, h, _ => by cases n <;> simp [shal] at h
  | n, .ref _, v, h, _ => by cases n <;> simp [shal] at h
theorem repL_dp {Γ : Gm} {α : List Addr} {G H : Hp} (s : Sub G H) : ∀ (n : Nat) (ds : List D) (vs : List V), (∀ x ∈ ds, shal n x = true) → RepL Γ α G ds vs → DpAll Γ.K H vs (toPyL ds)
  | n, [], vs, _, r => by unfold RepL at r; subst r; exact .nil
  | n, d :: ds, vs, h, r => by
    unfold RepL at r
    obtain ⟨v, w, rfl, h1, h2⟩ := r
    exact .cons (rep_dp s n d v (h d (by simp)) h1) (repL_dp s n ds w (fun z hz => h z (by simp [hz])) h2)
end
def deref (S : Store) (d : D) : D := match d with
  | .ref k => match S[k]? with
    | some (.lst xs) => .lst xs
    | some (.frz xs) => .lst xs
    | _ => d
  | d => d
theorem deref_dp {Γ : Gm} {α : List Addr} {G H : Hp} {S : Store} (R : Rl Γ α G S H) {d : D} {v : V} (h : shal 20 (deref S d) = true) (r : Rep Γ α G d v) : Dp Γ.K H v (toPy (deref S d)) := by
  cases d with
  | ref k =>
    cases q : lstOf S (.ref k) with
    | none =>
      have : deref S (.ref k) = .ref k := by
        unfold lstOf at q
        unfold deref
        cases hc : S[k]? with
        | none => simp [hc]
        | some c => cases c <;> simp [hc] at q ⊢
      rw [this] at h
      simp [shal] at h
    | some xs =>
      have e : deref S (.ref k) = .lst xs := by
        unfold lstOf at q
        unfold deref
        cases hc : S[k]? with
        | none => simp [hc] at q
        | some c => cases c <;> simp [hc] at q <;> subst q <;> simp [hc]
      obtain ⟨a, vs, rfl, q1, r1⟩ := lstOf_at R r q
      rw [e] at h ⊢
      have h' : ∀ x ∈ xs, shal 19 x = true := by simpa [shal] using h
      exact .lst (.inl (.inl q1)) (repL_dp R.sub 19 xs vs h' r1)
  | _ => exact rep_dp R.sub 20 _ v h r
def opEq : D → D → Store → Res D := fun a b S => match a, b with
  | .int i, .int j => .ok (.bl (i == j)) S
  | .str i, .str j => .ok (.bl (i == j)) S
  | .bl i, .bl j => .ok (.bl (i == j)) S
  | a, b => if shal 20 (deref S a) && shal 20 (deref S b) then .ok (.bl (deq (deref S a) (deref S b))) S else .no
def opNe : D → D → Store → Res D := fun a b S => match a, b with
  | .int i, .int j => .ok (.bl (!(i == j))) S
  | .str i, .str j => .ok (.bl (!(i == j))) S
  | .bl i, .bl j => .ok (.bl (!(i == j))) S
  | a, b => if shal 20 (deref S a) && shal 20 (deref S b) then .ok (.bl (!deq (deref S a) (deref S b))) S else .no
theorem eqQ {k : Nat} (hr : Room k X.A) : QR X cl E (compareOp .Eq) opEq := by
  refine ⟨_, OpR.or op_eq (op_eqD hr.units), fun a b S α G H x y Q hR ra rb h => ?_⟩
  have deep : (if shal 20 (deref S a) && shal 20 (deref S b) then Res.ok (.bl (deq (deref S a) (deref S b))) S else .no) = opEq a b S → rEqD X.K x y H Q := fun e => by
    rw [← e] at h
    split at h
    · rename_i hs
      rw [Bool.and_eq_true] at hs
      refine ⟨_, _, deref_dp (Γ := ⟨X.K, cl⟩) hR hs.1 ra, deref_dp (Γ := ⟨X.K, cl⟩) hR hs.2 rb, shal_shaped hs.1, shal_shaped hs.2, ?_⟩
      rw [deq_py 20 20 _ _ hs.1 hs.2]
      exact post_ok h hR (by simp [Rep])
    · exact h.elim
  cases a <;> cases b <;> first
    | exact .inr (deep rfl)
    | skip
  all_goals
    simp only [Rep] at ra rb
    subst ra rb
    refine .inl ⟨rfl, ?_⟩
    simp only [opEq] at h
    first | rw [dec_int] | rw [dec_bl] | rw [dec_str]
    exact post_ok h hR (by simp [Rep])
theorem neQ {k : Nat} (hr : Room k X.A) : QR X cl E (compareOp .NotEq) opNe := by
  refine ⟨_, OpR.or op_ne (op_neD hr.units), fun a b S α G H x y Q hR ra rb h => ?_⟩
  have deep : (if shal 20 (deref S a) && shal 20 (deref S b) then Res.ok (.bl (!deq (deref S a) (deref S b))) S else .no) = opNe a b S → rNeD X.K x y H Q := fun e => by
    rw [← e] at h
    split at h
    · rename_i hs
      rw [Bool.and_eq_true] at hs
      refine ⟨_, _, deref_dp (Γ := ⟨X.K, cl⟩) hR hs.1 ra, deref_dp (Γ := ⟨X.K, cl⟩) hR hs.2 rb, shal_shaped hs.1, shal_shaped hs.2, ?_⟩
      rw [deq_py 20 20 _ _ hs.1 hs.2]
      exact post_ok h hR (by simp [Rep])
    · exact h.elim
  cases a <;> cases b <;> first
    | exact .inr (deep rfl)
    | skip
  all_goals
    simp only [Rep] at ra rb
    subst ra rb
    refine .inl ⟨rfl, ?_⟩
    simp only [opNe] at h
    first | rw [dec_int] | rw [dec_bl] | rw [dec_str]
    exact post_ok h hR (by simp [Rep])
end
end Q
namespace Q
open PySem L2
section
variable {X : Cx} {cl : Nat → Addr} {E : XK} {a b c e : Expr} {ma mb mc m : ME} {mt mu : MT} {pos : Pos}
def truth (S : Store) : D → Option Bool
  | .non => some false
  | .bl b => some b
  | .int i => some (i != 0)
  | .tup xs => some (!xs.isEmpty)
  | .str s => if s.length ≤ 100000 then some ((s.length : Int) != 0) else none
  | .obj _ _ => none
  | .exn _ _ => none
  | d => (rdL S d).map fun xs => !xs.isEmpty
def oRes {β : Type} (o : Option β) (S : Store) : Res β := match o with
  | some b => .ok b S
  | none => .no
@[simp] theorem oRes_some {β : Type} (b : β) (S : Store) : oRes (some b) S = .ok b S := rfl
@[simp] theorem oRes_none {β : Type} (S : Store) : oRes (none : Option β) S = .no := rfl
def mTest (m : ME) : MT := fun ρ S => (m ρ S).bind fun d S1 => oRes (truth S1 d) S1
theorem isEmpty_rep {Γ : Gm} {α : List Addr} {G : Hp} {xs : List D} {vs : List V} (r : RepL Γ α G xs vs) : xs.isEmpty = vs.isEmpty := by
  have := r.length
  cases xs <;> cases vs <;> simp_all
theorem truth_at {Γ : Gm} {α : List Addr} {G H : Hp} {S : Store} (R : Rl Γ α G S H) {d : D} {v : V} {k : Bool} (r : Rep Γ α G d v) (h : truth S d = some k) : TruV Γ.K v H k := by
  have lists : (rdL S d).map (fun xs => !xs.isEmpty) = some k → TruV Γ.K v H k := fun h => by
    cases q : rdL S d with
    | none => simp [q] at h
    | some xs =>
      simp only [q, Option.map_some, Option.some.injEq] at h
      obtain ⟨p, vs, rfl, q1, r1⟩ := rdL_at R r q
      exact .inl ⟨vs, q1, by rw [← isEmpty_rep r1]; exact h.symm⟩
  cases d with
  | non => simp only [Rep] at r; subst r; simp only [truth, Option.some.injEq] at h; exact h.symm
  | bl b => simp only [Rep] at r; subst r; simp only [truth, Option.some.injEq] at h; exact h.symm
  | int i => simp only [Rep] at r; subst r; simp only [truth, Option.some.injEq] at h; exact h.symm
  | str i =>
    simp only [Rep] at r
    subst r
    simp only [truth] at h
    split at h
    · rename_i hs
      exact ⟨sz hs, (Option.some.inj h).symm⟩
    · cases h
  | tup xs =>
    obtain ⟨p, vs, rfl, q1, r1⟩ := tup_at R r
    simp only [truth, Option.some.injEq] at h
    exact .inr (.inl ⟨vs, q1, by rw [← isEmpty_rep r1]; exact h.symm⟩)
  | obj _ _ => simp [truth] at h
  | exn _ _ => simp [truth] at h
  | lst xs => exact lists h
  | fro xs => exact lists h
  | ref k => exact lists h
theorem q_test (h : QE X cl E e m) (he : ∀ whole, isTrue e X.env whole = (do let v ← whole; standAt e.pos; holding [v] (truthy v)) := by intro _; rfl) : QT X cl E e (mTest m) := by
  obtain ⟨t, h1, h2⟩ := h.ex
  refine ⟨_, pt_truth h1 he, fun ρ S σ α G H Q hρ hR hp => h2 ρ S σ α G H _ hρ hR (post_bind hp fun d S1 α1 G1 H1 v _ e1 R1 r1 hp1 => ?_)⟩
  cases q : truth S1 d with
  | none => simp [q, Post] at hp1
  | some k =>
    simp only [q, oRes_some] at hp1
    exact ⟨k, truth_at R1 r1 q, post_ok hp1 R1 rfl⟩
def mTB (m : ME) : MT := fun ρ S => (m ρ S).bind fun d S1 => match d with
  | .bl b => .ok b S1
  | _ => .no
theorem snd_tb {Γ : Gm} {t : TE} (h : SndE Γ E t m) : SndT Γ E (tTest t) (mTB m) := fun ρ S σ α G H Q hρ hR hp => h ρ S σ α G H _ hρ hR (post_bind hp fun d S1 α1 G1 H1 v _ e1 R1 r1 hp1 => by
    cases d <;> first
      | (simp only [Post] at hp1; done)
      | skip
    simp only [Rep] at r1
    exact ⟨_, r1, post_ok hp1 R1 rfl⟩)
theorem q_tcmp {op : CmpOp} {f : D → D → Store → Res D} (ho : QR X cl E (compareOp op) f) (ha : QE X cl E a ma) (hb : QE X cl E b mb) (hm : behindInMarks op b = false := by first | rfl | exact nomark _) : QT X cl E (.Compare a [op] [b] pos) (mTB (mOp f ma mb)) := by
  obtain ⟨r, h1, h2⟩ := ho.ex
  obtain ⟨ta, a1, a2⟩ := ha.ex
  obtain ⟨tb, b1, b2⟩ := hb.ex
  exact ⟨_, pt_cmpR h1 a1 b1 hm, snd_tb (snd_op h2 a2 b2)⟩
def mNotT (m : MT) : MT := fun ρ S => (m ρ S).bind fun b S1 => .ok (!b) S1
def mAndT (m n : MT) : MT := fun ρ S => (m ρ S).bind fun b S1 => match b with
  | true => n ρ S1
  | false => .ok false S1
def mOrT (m n : MT) : MT := fun ρ S => (m ρ S).bind fun b S1 => match b with
  | true => .ok true S1
  | false => n ρ S1
theorem snd_notT {Γ : Gm} {t : TT} (h : SndT Γ E t mt) : SndT Γ E (tNot t) (mNotT mt) := fun ρ S σ α G H Q hρ hR hp => h ρ S σ α G H _ hρ hR (post_bind hp fun b S1 α1 G1 H1 v _ e1 R1 r1 hp1 => by
  have r1 : b = v := r1
  subst r1
  exact post_ok hp1 R1 rfl)
theorem snd_andT {Γ : Gm} {t u : TT} (h : SndT Γ E t mt) (k : SndT Γ E u mu) : SndT Γ E (tAnd t u) (mAndT mt mu) := fun ρ S σ α G H Q hρ hR hp => h ρ S σ α G H _ hρ hR (post_bind hp fun b S1 α1 G1 H1 v _ e1 R1 r1 hp1 => by
  have r1 : b = v := r1
  subst r1
  cases b with
  | true => exact iteT (k ρ S1 σ α1 G1 H1 Q (hρ.mono e1) R1 hp1)
  | false => exact iteF (post_ok hp1 R1 rfl))
theorem snd_orT {Γ : Gm} {t u : TT} (h : SndT Γ E t mt) (k : SndT Γ E u mu) : SndT Γ E (tOr t u) (mOrT mt mu) := fun ρ S σ α G H Q hρ hR hp => h ρ S σ α G H _ hρ hR (post_bind hp fun b S1 α1 G1 H1 v _ e1 R1 r1 hp1 => by
  have r1 : b = v := r1
  subst r1
  cases b with
  | true => exact iteT (post_ok hp1 R1 rfl)
  | false => exact iteF (k ρ S1 σ α1 G1 H1 Q (hρ.mono e1) R1 hp1))
theorem q_not (h : QT X cl E a mt) : QT X cl E (.UnaryOp .Not a pos) (mNotT mt) := by
  obtain ⟨t, h1, h2⟩ := h.ex
  exact ⟨_, pt_not h1, snd_notT h2⟩
theorem q_w (h : QW X cl E e mt) : QT X cl E e mt := by
  obtain ⟨t, h1, h2⟩ := h.ex
  exact ⟨_, h1.pt, h2⟩
theorem q_and1 (h : QT X cl E a mt) : QW X cl E (.BoolOp .And [a] pos) mt := by
  obtain ⟨t, h1, h2⟩ := h.ex
  exact ⟨_, pw_and1 h1, h2⟩
theorem q_or1 (h : QT X cl E a mt) : QW X cl E (.BoolOp .Or [a] pos) mt := by
  obtain ⟨t, h1, h2⟩ := h.ex
  exact ⟨_, pw_or1 h1, h2⟩
theorem q_and {rest : List Expr} (h : QT X cl E a mt) (k : QW X cl E (.BoolOp .And (b :: rest) pos) mu) : QW X cl E (.BoolOp .And (a :: b :: rest) pos) (mAndT mt mu) := by
  obtain ⟨t, h1, h2⟩ := h.ex
  obtain ⟨u, k1, k2⟩ := k.ex
  exact ⟨_, pw_and h1 k1, snd_andT h2 k2⟩
theorem q_or {rest : List Expr} (h : QT X cl E a mt) (k : QW X cl E (.BoolOp .Or (b :: rest) pos) mu) : QW X cl E (.BoolOp .Or (a :: b :: rest) pos) (mOrT mt mu) := by
  obtain ⟨t, h1, h2⟩ := h.ex
  obtain ⟨u, k1, k2⟩ := k.ex
  exact ⟨_, pw_or h1 k1, snd_orT h2 k2⟩
def mAndV (m n : ME) : ME := fun ρ S => (m ρ S).bind fun d S1 => (oRes (truth S1 d) S1).bind fun b S2 => match b with
  | true => n ρ S2
  | false => .ok d S2
def mOrV (m n : ME) : ME := fun ρ S => (m ρ S).bind fun d S1 => (oRes (truth S1 d) S1).bind fun b S2 => match b with
  | true => .ok d S2
  | false => n ρ S2
def mNotV (m : ME) : ME := fun ρ S => (m ρ S).bind fun d S1 => (oRes (truth S1 d) S1).bind fun b S2 => .ok (.bl (!b)) S2
theorem q_oneV {op : BoolOp} (h : QE X cl E a m) : QE X cl E (.BoolOp op [a] pos) m := by
  obtain ⟨t, h1, h2⟩ := h.ex
  exact ⟨_, pe_one h1, h2⟩
theorem q_andV {rest : List Expr} (h : QE X cl E a ma) (k : QE X cl E (.BoolOp .And (b :: rest) pos) mb) : QE X cl E (.BoolOp .And (a :: b :: rest) pos) (mAndV ma mb) := by
  obtain ⟨t, h1, h2⟩ := h.ex
  obtain ⟨u, k1, k2⟩ := k.ex
  refine ⟨_, pe_andT h1 k1, fun ρ S σ α G H Q hρ hR hp => h2 ρ S σ α G H _ hρ hR (post_bind hp fun d S1 α1 G1 H1 v _ e1 R1 r1 hp1 => ?_)⟩
  cases q : truth S1 d with
  | none => simp [q, Post] at hp1
  | some k =>
    simp only [q, oRes_some, bind_ok] at hp1
    refine ⟨k, truth_at R1 r1 q, ?_⟩
    cases k with
    | true => exact iteT (k2 ρ S1 σ α1 G1 H1 Q (hρ.mono e1) R1 hp1)
    | false => exact iteF (post_ok hp1 R1 r1)
theorem q_orV {rest : List Expr} (h : QE X cl E a ma) (k : QE X cl E (.BoolOp .Or (b :: rest) pos) mb) : QE X cl E (.BoolOp .Or (a :: b :: rest) pos) (mOrV ma mb) := by
  obtain ⟨t, h1, h2⟩ := h.ex
  obtain ⟨u, k1, k2⟩ := k.ex
  refine ⟨_, pe_orT h1 k1, fun ρ S σ α G H Q hρ hR hp => h2 ρ S σ α G H _ hρ hR (post_bind hp fun d S1 α1 G1 H1 v _ e1 R1 r1 hp1 => ?_)⟩
  cases q : truth S1 d with
  | none => simp [q, Post] at hp1
  | some k =>
    simp only [q, oRes_some, bind_ok] at hp1
    refine ⟨k, truth_at R1 r1 q, ?_⟩
    cases k with
    | true => exact iteT (post_ok hp1 R1 r1)
    | false => exact iteF (k2 ρ S1 σ α1 G1 H1 Q (hρ.mono e1) R1 hp1)
theorem q_notV (h : QE X cl E a ma) : QE X cl E (.UnaryOp .Not a pos) (mNotV ma) := by
  obtain ⟨t, h1, h2⟩ := h.ex
  refine ⟨_, pe_notT h1, fun ρ S σ α G H Q hρ hR hp => h2 ρ S σ α G H _ hρ hR (post_bind hp fun d S1 α1 G1 H1 v _ e1 R1 r1 hp1 => ?_)⟩
  cases q : truth S1 d with
  | none => simp [q, Post] at hp1
  | some k =>
    simp only [q, oRes_some, bind_ok] at hp1
    exact ⟨k, truth_at R1 r1 q, post_ok (x := V.bl (!k)) hp1 R1 (by simp [Rep])⟩
def mIfE (t : MT) (m n : ME) : ME := fun ρ S => (t ρ S).bind fun b S1 => match b with
  | true => m ρ S1
  | false => n ρ S1
theorem q_ifE {c : Expr} (hc : QT X cl E c mt) (ha : QE X cl E a ma) (hb : QE X cl E b mb) : QE X cl E (.IfExp c a b pos) (mIfE mt ma mb) := by
  obtain ⟨t, h1, h2⟩ := hc.ex
  obtain ⟨u, k1, k2⟩ := ha.ex
  obtain ⟨w, l1, l2⟩ := hb.ex
  refine ⟨_, pe_ifExp h1 k1 l1, fun ρ S σ α G H Q hρ hR hp => h2 ρ S σ α G H _ hρ hR (post_bind hp fun b S1 α1 G1 H1 v _ e1 R1 r1 hp1 => ?_)⟩
  have r1 : b = v := r1
  subst r1
  cases b with
  | true => exact iteT (k2 ρ S1 σ α1 G1 H1 Q (hρ.mono e1) R1 hp1)
  | false => exact iteF (l2 ρ S1 σ α1 G1 H1 Q (hρ.mono e1) R1 hp1)
def isNon : D → Bool
  | .non => true
  | _ => false
def mIsN (m : ME) : ME := fun ρ S => (m ρ S).bind fun d S1 => .ok (.bl (isNon d)) S1
theorem isNon_at {Γ : Gm} {α : List Addr} {G : Hp} {d : D} {v : V} (r : Rep Γ α G d v) : decide (v = .non) = isNon d := by
  cases d <;> (unfold Rep at r; first
    | (subst r; simp [isNon]; done)
    | (obtain ⟨a, vs, rfl, _⟩ := r; simp [isNon]; done)
    | (obtain ⟨a, rfl, _⟩ := r; simp [isNon]; done))
theorem snd_isN {Γ : Gm} {t : TE} (h : SndE Γ E t m) : SndE Γ E (tIsN t) (mIsN m) := fun ρ S σ α G H Q hρ hR hp => h ρ S σ α G H _ hρ hR (post_bind hp fun d S1 α1 G1 H1 v _ e1 R1 r1 hp1 => by
  rw [isNon_at r1]
  exact post_ok hp1 R1 (by simp [Rep]))
theorem q_isN {j pos'} (h : QE X cl E a m) : QE X cl E (.Compare a [.Is] [.Constant .none j pos'] pos) (mIsN m) := by
  obtain ⟨t, h1, h2⟩ := h.ex
  exact ⟨_, pe_cmp (pc_isN h1), snd_isN h2⟩
theorem snd_tB {Γ : Gm} {t : TE} (h : SndE Γ E t m) : SndT Γ E (tB t) (mTB m) := snd_tb h
theorem q_tisN {j pos'} (h : QE X cl E a m) : QT X cl E (.Compare a [.Is] [.Constant .none j pos'] pos) (mTB (mIsN m)) := by
  obtain ⟨t, h1, h2⟩ := h.ex
  exact ⟨_, pt_cmp (pc_isN h1), snd_tB (snd_isN h2)⟩
def mNil : MA := fun _ S => .ok [] S
def mCons (m : ME) (n : MA) : MA := fun ρ S => (m ρ S).bind fun d S1 => (n ρ S1).bind fun ds S2 => .ok (d :: ds) S2
theorem snd_nil {Γ : Gm} : SndA Γ E tNil mNil := fun ρ S σ α G H Q hρ hR hp => post_ok (x := ([] : List V)) hp hR (by simp [RepL])
theorem snd_cons {Γ : Gm} {t : TE} {u : TA} {n : MA} (h : SndE Γ E t m) (k : SndA Γ E u n) : SndA Γ E (tCons t u) (mCons m n) := fun ρ S σ α G H Q hρ hR hp =>
  h ρ S σ α G H _ hρ hR (post_bind hp fun d S1 α1 G1 H1 v _ e1 R1 r1 hp1 => k ρ S1 σ α1 G1 H1 _ (hρ.mono e1) R1 (post_bind hp1 fun ds S2 α2 G2 H2 vs _ e2 R2 r2 hp2 =>
    post_ok hp2 R2 (by show RepL _ _ _ (d :: ds) (v :: vs); unfold RepL; exact ⟨v, vs, rfl, Rep.mono e2.pre e2.sub _ _ r1, r2⟩)))
theorem q_nil : QA X cl E [] mNil := ⟨_, pa_nil, snd_nil⟩
theorem q_cons {es : List Expr} {n : MA} (h : QE X cl E e m) (k : QA X cl E es n) (hs : starEach (e :: es) X.env = (false, eval e X.env) :: starEach es X.env := by rfl) : QA X cl E (e :: es) (mCons m n) := by
  obtain ⟨t, h1, h2⟩ := h.ex
  obtain ⟨u, k1, k2⟩ := k.ex
  exact ⟨_, pa_cons h1 k1 hs, snd_cons h2 k2⟩
def mTup (n : MA) : ME := fun ρ S => (n ρ S).bind fun ds S1 => if ds.length ≤ 100000 then .ok (.tup ds) S1 else .no
def mLst (n : MA) : ME := fun ρ S => (n ρ S).bind fun ds S1 => if ds.length ≤ 100000 then .ok (.lst ds) S1 else .no
def mCell (n : MA) : ME := fun ρ S => (n ρ S).bind fun ds S1 => if ds.length ≤ 100000 then .ok (.ref S1.length) (S1 ++ [.lst ds]) else .no
theorem q_tup {es : List Expr} {n : MA} {x1} (h : QA X cl E es n) : QE X cl E (.Tuple es x1 pos) (mTup n) := by
  obtain ⟨t, h1, h2⟩ := h.ex
  refine ⟨_, pe_tup h1, fun ρ S σ α G H Q hρ hR hp => h2 ρ S σ α G H _ hρ hR (post_bind hp fun ds S1 α1 G1 H1 vs _ e1 R1 r1 hp1 => ?_)⟩
  split at hp1
  · rename_i hs
    exact ⟨by rw [← r1.length]; exact sz hs, fun p hz => post_tup R1 r1 hp1 hz⟩
  · exact hp1.elim
theorem q_lst {es : List Expr} {n : MA} (h : QA X cl E es n) : QE X cl E (.List es pos) (mLst n) := by
  obtain ⟨t, h1, h2⟩ := h.ex
  refine ⟨_, pe_lst h1, fun ρ S σ α G H Q hρ hR hp => h2 ρ S σ α G H _ hρ hR (post_bind hp fun ds S1 α1 G1 H1 vs _ e1 R1 r1 hp1 => ?_)⟩
  split at hp1
  · rename_i hs
    exact ⟨by rw [← r1.length]; exact sz hs, fun p hz => post_lst R1 r1 hp1 hz⟩
  · exact hp1.elim
theorem q_cell {es : List Expr} {n : MA} (h : QA X cl E es n) : QE X cl E (.List es pos) (mCell n) := by
  obtain ⟨t, h1, h2⟩ := h.ex
  refine ⟨_, pe_lst h1, fun ρ S σ α G H Q hρ hR hp => h2 ρ S σ α G H _ hρ hR (post_bind hp fun ds S1 α1 G1 H1 vs _ e1 R1 r1 hp1 => ?_)⟩
  split at hp1
  · rename_i hs
    exact ⟨by rw [← r1.length]; exact sz hs, fun p hz => post_cell R1 r1 hp1 hz⟩
  · exact hp1.elim
def fz (d : D) (S : Store) : Res D := match d with
  | .ref k => match S[k]? with
    | some (.lst xs) => .ok (.lst xs) (S.set k (.frz xs))
    | some (.frz xs) => .ok (.lst xs) S
    | _ => .no
  | d => .ok d S
def mFrz (m : ME) : ME := fun ρ S => (m ρ S).bind fz
theorem fz_at {Γ : Gm} {α : List Addr} {G H : Hp} {S : Store} {d : D} {v : V} {Q : VK} (R : Rl Γ α G S H) (r : Rep Γ α G d v) (hp : Post Γ (Rep Γ) α G H (fz d S) Q E) : Q v H := by
  cases d with
  | ref k =>
    simp only [fz] at hp
    unfold Rep at r
    obtain ⟨a, rfl, ha⟩ := r
    cases hc : S[k]? with
    | none => simp [hc, Post] at hp
    | some c =>
      cases c with
      | lst xs =>
        simp only [hc] at hp
        obtain ⟨vs, r1, R1, e1⟩ := R.freeze hc ha
        exact hp _ _ _ _ e1 R1 (rep_lst upd_same (RepL.mono e1.pre e1.sub _ _ r1))
      | frz xs =>
        simp only [hc] at hp
        obtain ⟨vs, h1, h2⟩ := (R.ok k _ a hc ha).frz
        exact post_ok hp R (rep_lst h1 h2)
      | _ => simp [hc, Post] at hp
  | _ => exact post_ok hp R r
theorem snd_frz {Γ : Gm} {t : TE} (h : SndE Γ E t m) : SndE Γ E t (mFrz m) := fun ρ S σ α G H Q hρ hR hp => h ρ S σ α G H _ hρ hR (post_bind hp fun d S1 α1 G1 H1 v _ e1 R1 r1 hp1 => fz_at R1 r1 hp1)
theorem q_frz (h : QE X cl E e m) : QE X cl E e (mFrz m) := by
  obtain ⟨t, h1, h2⟩ := h.ex
  exact ⟨t, h1, snd_frz h2⟩
def opIx : D → D → Store → Res D := fun a b S => match b with
  | .int i => match a with
    | .tup xs => oRes (atI xs i) S
    | .str s => if s.length ≤ 100000 then match atI s.cps.toList i with
        | some c => .ok (.str ⟨#[c]⟩) S
        | none => .no
      else .no
    | a => match rdL S a with
      | some xs => oRes (atI xs i) S
      | none => .no
  | _ => .no
theorem atI_rep {Γ : Gm} {α : List Addr} {G : Hp} {xs : List D} {vs : List V} {i : Int} {d : D} (r : RepL Γ α G xs vs) (h : atI xs i = some d) : ∃ v, atI vs i = some v ∧ Rep Γ α G d v := by
  unfold atI at h ⊢
  rw [r.length] at h
  cases q : ixN vs.length i with
  | none => simp [q] at h
  | some j =>
    simp only [q, Option.bind_some] at h ⊢
    exact r.get h
structure QIx (X : Cx) (cl : Nat → Addr) (E : XK) (f : D → D → Store → Res D) : Prop where
  ex : ∃ r, IxR X r ∧ SndR ⟨X.K, cl⟩ E r f
theorem ixQ : QIx X cl E opIx := by
  refine ⟨_, ix_seq, fun a b S α G H x y Q hR ra rb h => ?_⟩
  cases b <;> try exact h.elim
  rename_i i
  simp only [opIx] at h
  simp only [Rep] at rb
  have lists : ∀ o, rdL S a = o → Post ⟨X.K, cl⟩ (Rep ⟨X.K, cl⟩) α G H (match o with
      | some xs => oRes (atI xs i) S
      | none => .no) Q E → rIx X.K x y H Q := fun o q h => by
    cases o with
    | none => exact h.elim
    | some xs =>
      obtain ⟨p, vs, rfl, q1, r1⟩ := rdL_at hR ra q
      cases z : atI xs i with
      | none => simp [z, Post] at h
      | some d =>
        simp only [z, oRes_some] at h
        obtain ⟨v, e, rv⟩ := atI_rep r1 z
        exact .inl ⟨p, vs, i, v, rfl, rb, q1, e, post_ok h hR rv⟩
  cases a with
  | tup xs =>
    obtain ⟨p, vs, rfl, q1, r1⟩ := tup_at hR ra
    simp only at h
    cases z : atI xs i with
    | none => simp [z, Post] at h
    | some d =>
      simp only [z, oRes_some] at h
      obtain ⟨v, e, rv⟩ := atI_rep r1 z
      exact .inr (.inl ⟨p, vs, i, v, rfl, rb, q1, e, post_ok h hR rv⟩)
  | str s =>
    simp only at h
    simp only [Rep] at ra
    split at h
    · rename_i hs
      cases z : atI s.cps.toList i with
      | none => simp [z, Post] at h
      | some c =>
        simp only [z] at h
        exact .inr (.inr ⟨s, i, c, ra, rb, sz hs, z, post_ok h hR (by simp [Rep])⟩)
    · exact h.elim
  | _ => exact lists _ rfl h
theorem q_ix (ha : QE X cl E a ma) (hb : QE X cl E b mb) (hs : PlainIx b := by exact fun _ _ => rfl) : QE X cl E (.Subscript a b pos) (mOp opIx ma mb) := by
  obtain ⟨r, h1, h2⟩ := (ixQ (X := X) (cl := cl) (E := E)).ex
  obtain ⟨ta, a1, a2⟩ := ha.ex
  obtain ⟨tb, b1, b2⟩ := hb.ex
  exact ⟨_, pe_ix h1 a1 b1 hs, snd_op h2 a2 b2⟩
abbrev MO := Env → Store → Res (Option Int)
def RO : List Addr → Hp → Option Int → Option Int → Prop := fun _ _ a b => a = b
def SndO (Γ : Gm) (E : XK) (t : TO) (m : MO) : Prop := ∀ (ρ : Env) (S : Store) (σ : L2.St) (α : List Addr) (G H : Hp) (Q : Option Int → Hp → Prop), EnvR Γ α G ρ σ → Rl Γ α G S H → Post Γ RO α G H (m ρ S) Q E → t σ H Q
structure QO (X : Cx) (cl : Nat → Addr) (E : XK) (e : Option Expr) (m : MO) : Prop where
  ex : ∃ t, PO X e t ∧ SndO ⟨X.K, cl⟩ E t m
def mNoO : MO := fun _ S => .ok none S
def mSoO (m : ME) : MO := fun ρ S => (m ρ S).bind fun d S1 => match d with
  | .int i => .ok (some i) S1
  | _ => .no
theorem q_noO : QO X cl E none mNoO := ⟨_, po_none, fun ρ S σ α G H Q hρ hR hp => post_ok hp hR rfl⟩
theorem q_soO (h : QE X cl E e m) : QO X cl E (some e) (mSoO m) := by
  obtain ⟨t, h1, h2⟩ := h.ex
  refine ⟨_, po_some h1, fun ρ S σ α G H Q hρ hR hp => h2 ρ S σ α G H _ hρ hR (post_bind hp fun d S1 α1 G1 H1 v _ e1 R1 r1 hp1 => ?_)⟩
  cases d <;> try exact hp1.elim
  simp only [Rep] at r1
  exact ⟨_, r1, post_ok hp1 R1 rfl⟩
def cutD (xs : List D) (lo hi : Option Int) : List D := (xs.drop (HT.sIx xs.length 0 lo)).take (HT.sIx xs.length xs.length hi - HT.sIx xs.length 0 lo)
theorem cut_rep {Γ : Gm} {α : List Addr} {G : Hp} {xs : List D} {vs : List V} (r : RepL Γ α G xs vs) (lo hi : Option Int) : RepL Γ α G (cutD xs lo hi) (cutV vs lo hi) := by
  unfold cutD cutV
  rw [r.length]
  exact (r.drop _).take _
def opSl : D → Option Int → Option Int → Store → Res D := fun a lo hi S => match a with
  | .tup xs => .ok (.tup (cutD xs lo hi)) S
  | .str s => if s.length ≤ 100000 then .ok (.str (cutS s lo hi)) S else .no
  | a => match rdL S a with
    | some xs => .ok (.lst (cutD xs lo hi)) S
    | none => .no
def mSl (m : ME) (l h : MO) : ME := fun ρ S => (m ρ S).bind fun d S1 => (l ρ S1).bind fun lo S2 => (h ρ S2).bind fun hi S3 => opSl d lo hi S3
theorem cutD_whole {xs : List D} {lo hi : Option Int} (h : HT.sIx xs.length 0 lo = 0 ∧ HT.sIx xs.length xs.length hi = xs.length) : cutD xs lo hi = xs := by
  unfold cutD
  rw [h.1, h.2]
  simp
theorem snd_sl {Γ : Gm} : ∀ (d : D) (lo hi : Option Int) (S : Store) (α : List Addr) (G H : Hp) (x : V) (Q : VK), Rl Γ α G S H → Rep Γ α G d x → Post Γ (Rep Γ) α G H (opSl d lo hi S) Q E → (rSlL Γ.K x lo hi H Q ∨ rSlA Γ.K x lo hi H Q ∨ rSlS x lo hi H Q) := by
  intro d lo hi S α G H x Q hR ra h
  have lists : ∀ o, rdL S d = o → Post Γ (Rep Γ) α G H (match o with
      | some xs => Res.ok (.lst (cutD xs lo hi)) S
      | none => .no) Q E → rSlL Γ.K x lo hi H Q := fun o q h => by
    cases o with
    | none => exact h.elim
    | some xs =>
      obtain ⟨p, vs, rfl, q1, r1⟩ := rdL_at hR ra q
      exact ⟨p, vs, rfl, q1, fun z hz => post_lst hR (cut_rep r1 lo hi) h hz⟩
  cases d with
  | tup xs =>
    obtain ⟨p, vs, rfl, q1, r1⟩ := tup_at hR ra
    simp only [opSl] at h
    refine .inr (.inl ⟨p, vs, rfl, q1, fun w => ?_, fun _ z hz => post_tup hR (cut_rep r1 lo hi) h hz⟩)
    rw [← r1.length] at w
    rw [cutD_whole w] at h
    exact post_ok h hR ra
  | str s =>
    simp only [opSl] at h
    simp only [Rep] at ra
    split at h
    · rename_i hs
      exact .inr (.inr ⟨s, ra, sz hs, post_ok h hR (by simp [Rep])⟩)
    · exact h.elim
  | _ => exact .inl (lists _ rfl h)
theorem q_sl {lo hi : Option Expr} {l h : MO} {p2 : Pos} (ha : QE X cl E a ma) (hl : QO X cl E lo l) (hh : QO X cl E hi h) : QE X cl E (.Subscript a (.Slice lo hi none p2) pos) (mSl ma l h) := by
  obtain ⟨t, h1, h2⟩ := ha.ex
  obtain ⟨u, k1, k2⟩ := hl.ex
  obtain ⟨w, l1, l2⟩ := hh.ex
  refine ⟨_, pe_slice (sl_list.or (sl_tupA.or sl_str)) h1 k1 l1, fun ρ S σ α G H Q hρ hR hp => h2 ρ S σ α G H _ hρ hR (post_bind hp fun d S1 α1 G1 H1 v _ e1 R1 r1 hp1 => ?_)⟩
  refine k2 ρ S1 σ α1 G1 H1 _ (hρ.mono e1) R1 (post_bind hp1 fun o S2 α2 G2 H2 o' _ e2 R2 r2 hp2 => ?_)
  refine l2 ρ S2 σ α2 G2 H2 _ ((hρ.mono e1).mono e2) R2 (post_bind hp2 fun i S3 α3 G3 H3 i' _ e3 R3 r3 hp3 => ?_)
  have r2 : o = o' := r2
  have r3 : i = i' := r3
  subst r2 r3
  exact snd_sl d o i S3 α3 G3 H3 v Q R3 (Rep.mono e3.pre e3.sub _ _ (Rep.mono e2.pre e2.sub _ _ r1)) hp3
end
end Q
namespace Q
open PySem L2
section
variable {X : Cx} {cl : Nat → Addr} {E : XK} {a b c e : Expr} {ma mb mc m : ME} {mt mu : MT} {pos : Pos}
def SndC (Γ : Gm) (E : XK) (r : List V → Hp → VK → Prop) (f : List D → Store → Res D) : Prop := ∀ (ds : List D) (S : Store) (α : List Addr) (G H : Hp) (vs : List V) (Q : VK), Rl Γ α G S H → RepL Γ α G ds vs → Post Γ (Rep Γ) α G H (f ds S) Q E → r vs H Q
structure QC (X : Cx) (cl : Nat → Addr) (E : XK) (v : Value) (f : List D → Store → Res D) : Prop where
  ex : ∃ r, CallR X v r ∧ SndC ⟨X.K, cl⟩ E r f
def mCall (f : List D → Store → Res D) (n : MA) : ME := fun ρ S => (n ρ S).bind f
theorem snd_cb {Γ : Gm} {r : List V → Hp → VK → Prop} {f : List D → Store → Res D} {n : MA} {t : TA} (hr : SndC Γ E r f) (h : SndA Γ E t n) : SndE Γ E (tCB r t) (mCall f n) := fun ρ S σ α G H Q hρ hR hp =>
  h ρ S σ α G H _ hρ hR (post_bind hp fun ds S1 α1 G1 H1 vs _ e1 R1 r1 hp1 => hr ds S1 α1 G1 H1 vs Q R1 r1 hp1)
theorem q_callB {x : Str} {p : Pos} {id : String} {es : List Expr} {n : MA} {f : List D → Store → Res D} (hc : QC X cl E (.builtin id) f) (hg : Gl X x) (hm : X.mg x = none) (hv : bootBuiltins x = some (.builtin id)) (ha : QA X cl E (e :: es) n) (hn : x ≠ "__name__" := by decide) (hdb : (x == ("__debug__" : Str)) = false := by decide)
    (he : starEach (e :: es) X.env = (false, eval e X.env) :: starEach es X.env := by rfl) (hpl : (backTo pos (starEach es X.env)).any (·.1) = false := by rfl) : QE X cl E (.Call (.Name x p) (e :: es) [] pos) (mCall f n) := by
  obtain ⟨r, h1, h2⟩ := hc.ex
  obtain ⟨t, k1, k2⟩ := ha.ex
  exact ⟨_, pe_callB h1 hg hm hv k1 hn hdb he hpl, snd_cb h2 k2⟩
theorem q_callTy {x : Str} {p : Pos} {T : String} {es : List Expr} {n : MA} {f : List D → Store → Res D} (hc : QC X cl E (.type T) f) (hg : Gl X x) (hm : X.mg x = none) (hv : bootBuiltins x = some (.type T)) (ha : QA X cl E (e :: es) n) (hn : x ≠ "__name__" := by decide) (hdb : (x == ("__debug__" : Str)) = false := by decide)
    (he : starEach (e :: es) X.env = (false, eval e X.env) :: starEach es X.env := by rfl) (hpl : (backTo pos (starEach es X.env)).any (·.1) = false := by rfl) : QE X cl E (.Call (.Name x p) (e :: es) [] pos) (mCall f n) := by
  obtain ⟨r, h1, h2⟩ := hc.ex
  obtain ⟨t, k1, k2⟩ := ha.ex
  exact ⟨_, pe_callTy h1 hg hm hv k1 hn hdb he hpl, snd_cb h2 k2⟩
theorem repL1 {Γ : Gm} {α : List Addr} {G : Hp} {d : D} {vs : List V} (r : RepL Γ α G [d] vs) : ∃ v, vs = [v] ∧ Rep Γ α G d v := by
  unfold RepL at r
  obtain ⟨v, w, rfl, h1, h2⟩ := r
  unfold RepL at h2
  subst h2
  exact ⟨v, rfl, h1⟩
theorem repL2 {Γ : Gm} {α : List Addr} {G : Hp} {d d' : D} {vs : List V} (r : RepL Γ α G [d, d'] vs) : ∃ v v', vs = [v, v'] ∧ Rep Γ α G d v ∧ Rep Γ α G d' v' := by
  unfold RepL at r
  obtain ⟨v, w, rfl, h1, h2⟩ := r
  obtain ⟨v', rfl, h3⟩ := repL1 h2
  exact ⟨v, v', rfl, h1, h3⟩
def un1 (g : D → Store → Res D) : List D → Store → Res D
  | [d], S => g d S
  | _, _ => .no
def un2 (g : D → D → Store → Res D) : List D → Store → Res D
  | [d, d'], S => g d d' S
  | _, _ => .no
theorem snd_un1 {Γ : Gm} {r : List V → Hp → VK → Prop} {g : D → Store → Res D} (h : ∀ d S α G H v Q, Rl Γ α G S H → Rep Γ α G d v → Post Γ (Rep Γ) α G H (g d S) Q E → r [v] H Q) : SndC Γ E r (un1 g) := fun ds S α G H vs Q hR rv hp => by
  cases ds with
  | nil => exact hp.elim
  | cons d ds =>
    cases ds with
    | nil =>
      obtain ⟨v, rfl, rv'⟩ := repL1 rv
      exact h d S α G H v Q hR rv' hp
    | cons _ _ => exact hp.elim
theorem snd_un2 {Γ : Gm} {r : List V → Hp → VK → Prop} {g : D → D → Store → Res D} (h : ∀ d d' S α G H v v' Q, Rl Γ α G S H → Rep Γ α G d v → Rep Γ α G d' v' → Post Γ (Rep Γ) α G H (g d d' S) Q E → r [v, v'] H Q) : SndC Γ E r (un2 g) := fun ds S α G H vs Q hR rv hp => by
  cases ds with
  | nil => exact hp.elim
  | cons d ds =>
    cases ds with
    | nil => exact hp.elim
    | cons d' ds =>
      cases ds with
      | cons _ _ => exact hp.elim
      | nil =>
        obtain ⟨v, v', rfl, r1, r2⟩ := repL2 rv
        exact h d d' S α G H v v' Q hR r1 r2 hp
def seqOf (S : Store) : D → Option (List D)
  | .tup xs => some xs
  | d => rdL S d
theorem seqOf_at {Γ : Gm} {α : List Addr} {G H : Hp} {S : Store} (R : Rl Γ α G S H) {d : D} {v : V} {xs : List D} (r : Rep Γ α G d v) (h : seqOf S d = some xs) : ∃ a vs, v = .ref a ∧ (SqL Γ.K H a vs ∨ SqT Γ.K H a vs) ∧ RepL Γ α G xs vs := by
  have go : rdL S d = some xs → ∃ a vs, v = .ref a ∧ (SqL Γ.K H a vs ∨ SqT Γ.K H a vs) ∧ RepL Γ α G xs vs := fun h => by
    obtain ⟨a, vs, e, q, r⟩ := rdL_at R r h
    exact ⟨a, vs, e, .inl q, r⟩
  cases d with
  | tup ys =>
    have e : ys = xs := Option.some.inj h
    subst e
    obtain ⟨a, vs, e, q, r⟩ := tup_at R r
    exact ⟨a, vs, e, .inr q, r⟩
  | _ => exact go h
def gLen : D → Store → Res D := fun d S => match d with
  | .str s => if s.length ≤ 100000 then .ok (.int s.length) S else .no
  | d => match seqOf S d with
    | some xs => .ok (.int xs.length) S
    | none => .no
def fLen := un1 gLen
theorem lenQ : QC X cl E (.builtin "len") fLen := by
  refine ⟨_, call_len, snd_un1 fun d S α G H v Q hR rv h => ?_⟩
  have seqs : ∀ o, seqOf S d = o → Post ⟨X.K, cl⟩ (Rep ⟨X.K, cl⟩) α G H (match o with
      | some xs => Res.ok (.int xs.length) S
      | none => .no) Q E → ∃ x n, [v] = [x] ∧ LenV X.K x H n ∧ Q (.int n) H := fun o q h => by
    cases o with
    | none => exact h.elim
    | some xs =>
      obtain ⟨p, ws, rfl, q1, r1⟩ := seqOf_at hR rv q
      refine ⟨.ref p, xs.length, rfl, ?_, post_ok h hR (by simp [Rep])⟩
      rcases q1 with q1 | q1
      · exact .inl ⟨ws, q1, r1.length⟩
      · exact .inr ⟨ws, q1, r1.length⟩
  cases d with
  | str s =>
    simp only [gLen] at h
    simp only [Rep] at rv
    split at h
    · rename_i hs
      exact ⟨v, s.length, rfl, by subst rv; exact ⟨sz hs, rfl⟩, post_ok h hR (by simp [Rep])⟩
    · exact h.elim
  | _ => exact seqs _ rfl h
def gAbs : D → Store → Res D := fun d S => match d with
  | .int i => .ok (.int (if i < 0 then -i else i)) S
  | _ => .no
def fAbs := un1 gAbs
theorem absQ : QC X cl E (.builtin "abs") fAbs := by
  refine ⟨_, call_abs, snd_un1 fun d S α G H v Q hR rv h => ?_⟩
  cases d <;> try exact h.elim
  rename_i i
  simp only [Rep] at rv
  subst rv
  exact ⟨i, rfl, post_ok (x := V.int (if i < 0 then -i else i)) h hR (by simp [Rep])⟩
def gInt : D → Store → Res D := fun d S => match d with
  | .int i => .ok (.int i) S
  | .bl b => .ok (.int (if b then 1 else 0)) S
  | _ => .no
def fInt := un1 gInt
theorem intQ : QC X cl E (.type "int") fInt := by
  refine ⟨_, call_int1, snd_un1 fun d S α G H v Q hR rv h => ?_⟩
  cases d <;> try exact h.elim
  · rename_i b
    simp only [Rep] at rv
    subst rv
    exact .inr ⟨b, rfl, post_ok (x := V.int (if b then 1 else 0)) h hR (by simp [Rep])⟩
  · rename_i i
    simp only [Rep] at rv
    subst rv
    exact .inl ⟨i, rfl, post_ok (x := V.int i) h hR (by simp [Rep])⟩
def gList : D → Store → Res D := fun d S => match seqOf S d with
  | some xs => .ok (.lst xs) S
  | none => .no
def gListC : D → Store → Res D := fun d S => match seqOf S d with
  | some xs => .ok (.ref S.length) (S ++ [.lst xs])
  | none => .no
def fList := un1 gList
def fListC := un1 gListC
theorem listQ : QC X cl E (.type "list") fList := by
  refine ⟨_, call_list_of, snd_un1 fun d S α G H v Q hR rv h => ?_⟩
  simp only [gList] at h
  cases q : seqOf S d with
  | none => simp [q, Post] at h
  | some xs =>
    simp only [q] at h
    obtain ⟨p, ws, rfl, q1, r1⟩ := seqOf_at hR rv q
    exact ⟨p, ws, rfl, q1, fun z hz => post_lst hR r1 h hz⟩
theorem listCQ : QC X cl E (.type "list") fListC := by
  refine ⟨_, call_list_of, snd_un1 fun d S α G H v Q hR rv h => ?_⟩
  simp only [gListC] at h
  cases q : seqOf S d with
  | none => simp [q, Post] at h
  | some xs =>
    simp only [q] at h
    obtain ⟨p, ws, rfl, q1, r1⟩ := seqOf_at hR rv q
    exact ⟨p, ws, rfl, q1, fun z hz => post_cell hR r1 h hz⟩
def gTuple : D → Store → Res D := fun d S => match d with
  | .tup xs => .ok (.tup xs) S
  | d => match rdL S d with
    | some xs => .ok (.tup xs) S
    | none => .no
def fTuple := un1 gTuple
theorem tupleQ : QC X cl E (.type "tuple") fTuple := by
  refine ⟨_, call_tuple_of, snd_un1 fun d S α G H v Q hR rv h => ?_⟩
  have lists : ∀ o, rdL S d = o → Post ⟨X.K, cl⟩ (Rep ⟨X.K, cl⟩) α G H (match o with
      | some xs => Res.ok (.tup xs) S
      | none => .no) Q E → ∃ p ys, [v] = [.ref p] ∧ ((SqL X.K H p ys ∧ ∀ l, H l = none → Q (.ref l) (upd H l (.tup ys))) ∨ (SqT X.K H p ys ∧ Q (.ref p) H)) := fun o q h => by
    cases o with
    | none => exact h.elim
    | some xs =>
      obtain ⟨p, ws, rfl, q1, r1⟩ := rdL_at hR rv q
      exact ⟨p, ws, rfl, .inl ⟨q1, fun z hz => post_tup hR r1 h hz⟩⟩
  cases d with
  | tup xs =>
    obtain ⟨p, ws, rfl, q1, r1⟩ := tup_at hR rv
    exact ⟨p, ws, rfl, .inr ⟨q1, post_ok h hR rv⟩⟩
  | _ => exact lists _ rfl h
def boolsD : List D → Option (List Bool)
  | [] => some []
  | .bl b :: ds => (boolsD ds).map (b :: ·)
  | _ => none
def intsD : List D → Option (List Int)
  | [] => some []
  | .int b :: ds => (intsD ds).map (b :: ·)
  | _ => none
theorem bools_rep {Γ : Gm} {α : List Addr} {G : Hp} : ∀ {ds : List D} {vs : List V} {bs : List Bool}, RepL Γ α G ds vs → boolsD ds = some bs → vs = bs.map V.bl
  | [], vs, bs, r, h => by
    unfold RepL at r
    simp only [boolsD, Option.some.injEq] at h
    subst r h
    rfl
  | d :: ds, vs, bs, r, h => by
    unfold RepL at r
    obtain ⟨v, w, rfl, h1, h2⟩ := r
    cases d <;> simp only [boolsD, reduceCtorEq] at h
    rename_i b
    simp only [Rep] at h1
    subst h1
    cases q : boolsD ds with
    | none => simp [q] at h
    | some cs =>
      simp only [q, Option.map_some, Option.some.injEq] at h
      subst h
      rw [bools_rep h2 q]
      rfl
theorem ints_rep {Γ : Gm} {α : List Addr} {G : Hp} : ∀ {ds : List D} {vs : List V} {bs : List Int}, RepL Γ α G ds vs → intsD ds = some bs → vs = bs.map V.int
  | [], vs, bs, r, h => by
    unfold RepL at r
    simp only [intsD, Option.some.injEq] at h
    subst r h
    rfl
  | d :: ds, vs, bs, r, h => by
    unfold RepL at r
    obtain ⟨v, w, rfl, h1, h2⟩ := r
    cases d <;> simp only [intsD, reduceCtorEq] at h
    rename_i b
    simp only [Rep] at h1
    subst h1
    cases q : intsD ds with
    | none => simp [q] at h
    | some cs =>
      simp only [q, Option.map_some, Option.some.injEq] at h
      subst h
      rw [ints_rep h2 q]
      rfl
def onBools (g : List Bool → D) := un1 fun d S => match (rdL S d).bind boolsD with
  | some bs => .ok (g bs) S
  | none => .no
def onInts (c : List Int → Bool) (g : List Int → D) := un1 fun d S => match (rdL S d).bind intsD with
  | some bs => if c bs then .ok (g bs) S else .no
  | none => .no
def fAll := onBools fun bs => .bl (bs.all id)
def fAny := onBools fun bs => .bl (bs.any id)
def fSum := onInts (fun _ => true) fun ns => .int ns.sum
theorem snd_bools {Γ : Gm} {g : List Bool → D} {g' : List Bool → V} (hg : ∀ α G bs, Rep Γ α G (g bs) (g' bs)) : SndC Γ E (fun vs H Q => ∃ (a : Addr) (bs : List Bool), vs = [V.ref a] ∧ SqL Γ.K H a (bs.map V.bl) ∧ Q (g' bs) H) (onBools g) := snd_un1 fun d S α G H v Q hR rv h => by
  cases q : rdL S d with
  | none => simp [q, Post] at h
  | some xs =>
    simp only [q, Option.bind_some] at h
    obtain ⟨p, ws, rfl, q1, r1⟩ := rdL_at hR rv q
    cases z : boolsD xs with
    | none => simp [z, Post] at h
    | some bs =>
      simp only [z] at h
      rw [bools_rep r1 z] at q1
      exact ⟨p, bs, rfl, q1, post_ok h hR (hg _ _ _)⟩
theorem allQ (hc : X.calm = true := by rfl) : QC X cl E (.builtin "all") fAll := ⟨_, cr_all hc, snd_bools (Γ := ⟨X.K, cl⟩) fun _ _ _ => by simp [Rep]⟩
theorem anyQ (hc : X.calm = true := by rfl) : QC X cl E (.builtin "any") fAny := ⟨_, cr_any hc, snd_bools (Γ := ⟨X.K, cl⟩) fun _ _ _ => by simp [Rep]⟩
theorem snd_ints {Γ : Gm} {c : List Int → Bool} {g : List Int → D} {r' : List V → Hp → VK → Prop} (hg : ∀ α G ns a H Q, c ns = true → SqL Γ.K H a (ns.map V.int) → (∀ v, Rep Γ α G (g ns) v → Q v H) → r' [.ref a] H Q) : SndC Γ E r' (onInts c g) := snd_un1 fun d S α G H v Q hR rv h => by
  cases q : rdL S d with
  | none => simp [q, Post] at h
  | some xs =>
    simp only [q, Option.bind_some] at h
    obtain ⟨p, ws, rfl, q1, r1⟩ := rdL_at hR rv q
    cases z : intsD xs with
    | none => simp [z, Post] at h
    | some bs =>
      simp only [z] at h
      rw [ints_rep r1 z] at q1
      split at h
      · rename_i hc
        exact hg α G bs p H Q hc q1 fun v rv => post_ok h hR rv
      · exact h.elim
theorem sumQ (hc : X.calm = true := by rfl) : QC X cl E (.builtin "sum") fSum := ⟨_, cr_sum hc, snd_ints (Γ := ⟨X.K, cl⟩) fun α G ns a H Q _ hs k => ⟨a, ns, rfl, hs, k _ (by simp [Rep])⟩⟩
def gMin2 : D → D → Store → Res D := fun a b S => match a, b with
  | .int i, .int j => .ok (.int (if j < i then j else i)) S
  | _, _ => .no
def fMin2 := un2 gMin2
theorem min2Q (hc : X.calm = true := by rfl) : QC X cl E (.builtin "min") fMin2 := by
  refine ⟨_, call_min2 hc, snd_un2 fun a b S α G H v w Q hR rv rw' h => ?_⟩
  cases a <;> cases b <;> try exact h.elim
  rename_i i j
  simp only [Rep] at rv rw'
  subst rv rw'
  exact ⟨i, j, rfl, post_ok (x := V.int (if j < i then j else i)) h hR (by simp [Rep])⟩
theorem op_inT {hu : X.A.units + 65 < cLine} : OpR X (compareOp .In) (fun x y H Q => ∃ d ds, Dp X.K H x d ∧ Dp X.K H y (.tuple ds) ∧ SeqAt.shaped d = true ∧ SeqAt.shaped (.tuple ds) = true ∧ Q (.bl (ds.any fun z => PyData.eqv z d)) H) := by
  intro pins s σ H x y v u Q I rx ry h
  obtain ⟨d, ds, hd, he, sd, se, q⟩ := h
  obtain ⟨as, r1⟩ := Dp.reads I d x v hd rx
  obtain ⟨bs, r2⟩ := Dp.reads I (.tuple ds) y u he ry
  exact SeqAt.in_tuple_reads r2 r1 (SeqAt.canLay_of_shaped se) (SeqAt.canLay_of_shaped sd) (PyProof.Rows.room_in_shaped sd hu) ⟨.bl _, H, I, rfl, q⟩
theorem op_ninT {hu : X.A.units + 65 < cLine} : OpR X (compareOp .NotIn) (fun x y H Q => ∃ d ds, Dp X.K H x d ∧ Dp X.K H y (.tuple ds) ∧ SeqAt.shaped d = true ∧ SeqAt.shaped (.tuple ds) = true ∧ Q (.bl (!ds.any fun z => PyData.eqv z d)) H) := by
  intro pins s σ H x y v u Q I rx ry h
  obtain ⟨d, ds, hd, he, sd, se, q⟩ := h
  obtain ⟨as, r1⟩ := Dp.reads I d x v hd rx
  obtain ⟨bs, r2⟩ := Dp.reads I (.tuple ds) y u he ry
  exact SeqAt.notIn_tuple_reads r2 r1 (SeqAt.canLay_of_shaped se) (SeqAt.canLay_of_shaped sd) (PyProof.Rows.room_in_shaped sd hu) ⟨.bl _, H, I, rfl, q⟩
def inD (xs : List D) (a : D) : Bool := xs.any fun z => deq z a
def opIn : D → D → Store → Res D := fun a b S => match deref S b with
  | .tup xs => if shal 20 a && shal 20 (.tup xs) then .ok (.bl (inD xs a)) S else .no
  | .lst xs => if shal 20 a && shal 20 (.lst xs) then .ok (.bl (inD xs a)) S else .no
  | _ => .no
def opNin : D → D → Store → Res D := fun a b S => match deref S b with
  | .tup xs => if shal 20 a && shal 20 (.tup xs) then .ok (.bl (!inD xs a)) S else .no
  | .lst xs => if shal 20 a && shal 20 (.lst xs) then .ok (.bl (!inD xs a)) S else .no
  | _ => .no
theorem any_py {xs : List D} {a : D} (h : ∀ x ∈ xs, shal 19 x = true) (ha : shal 20 a = true) : ((toPyL xs).any fun z => PyData.eqv z (toPy a)) = inD xs a := by
  rw [toPyL_map, List.any_map]
  unfold inD
  induction xs with
  | nil => rfl
  | cons x xs ih =>
    simp only [List.any_cons, Function.comp]
    rw [deq_py 19 20 x a (h x (by simp)) ha]
    have ih' := ih fun z hz => h z (by simp [hz])
    rw [ih']
theorem shal19 {xs : List D} (h : shal 20 (.tup xs) = true) : ∀ x ∈ xs, shal 19 x = true := by simpa [shal] using h
theorem shal19l {xs : List D} (h : shal 20 (.lst xs) = true) : ∀ x ∈ xs, shal 19 x = true := by simpa [shal] using h
theorem inQ {k : Nat} (hr : Room k X.A) : QR X cl E (compareOp .In) opIn := by
  have hu : X.A.units + 65 < cLine := by have := hr.un; omega
  refine ⟨_, OpR.or (op_inT (hu := hu)) (op_inD hu), fun a b S α G H x y Q hR ra rb h => ?_⟩
  unfold opIn at h
  have hd := @deref_dp (Γ := ⟨X.K, cl⟩) α G H S hR b y
  split at h
  · rename_i xs e
    rw [e] at hd
    split at h
    · rename_i hs
      rw [Bool.and_eq_true] at hs
      have s2 := shal_shaped hs.2
      have d2 := hd hs.2 rb
      simp only [toPy] at s2 d2
      exact .inl ⟨_, _, rep_dp (Γ := ⟨X.K, cl⟩) hR.sub 20 a x hs.1 ra, d2, shal_shaped hs.1, s2, by rw [any_py (shal19 hs.2) hs.1]; exact post_ok h hR (by simp [Rep])⟩
    · exact h.elim
  · rename_i xs e
    rw [e] at hd
    split at h
    · rename_i hs
      rw [Bool.and_eq_true] at hs
      have s2 := shal_shaped hs.2
      have d2 := hd hs.2 rb
      simp only [toPy] at s2 d2
      exact .inr ⟨_, _, rep_dp (Γ := ⟨X.K, cl⟩) hR.sub 20 a x hs.1 ra, d2, shal_shaped hs.1, s2, by rw [any_py (shal19l hs.2) hs.1]; exact post_ok h hR (by simp [Rep])⟩
    · exact h.elim
  · exact h.elim
theorem ninQ {k : Nat} (hr : Room k X.A) : QR X cl E (compareOp .NotIn) opNin := by
  have hu : X.A.units + 65 < cLine := by have := hr.un; omega
  refine ⟨_, OpR.or (op_ninT (hu := hu)) (op_notInD hu), fun a b S α G H x y Q hR ra rb h => ?_⟩
  unfold opNin at h
  have hd := @deref_dp (Γ := ⟨X.K, cl⟩) α G H S hR b y
  split at h
  · rename_i xs e
    rw [e] at hd
    split at h
    · rename_i hs
      rw [Bool.and_eq_true] at hs
      have s2 := shal_shaped hs.2
      have d2 := hd hs.2 rb
      simp only [toPy] at s2 d2
      exact .inl ⟨_, _, rep_dp (Γ := ⟨X.K, cl⟩) hR.sub 20 a x hs.1 ra, d2, shal_shaped hs.1, s2, by rw [any_py (shal19 hs.2) hs.1]; exact post_ok h hR (by simp [Rep])⟩
    · exact h.elim
  · rename_i xs e
    rw [e] at hd
    split at h
    · rename_i hs
      rw [Bool.and_eq_true] at hs
      have s2 := shal_shaped hs.2
      have d2 := hd hs.2 rb
      simp only [toPy] at s2 d2
      exact .inr ⟨_, _, rep_dp (Γ := ⟨X.K, cl⟩) hR.sub 20 a x hs.1 ra, d2, shal_shaped hs.1, s2, by rw [any_py (shal19l hs.2) hs.1]; exact post_ok h hR (by simp [Rep])⟩
    · exact h.elim
  · exact h.elim
inductive Ty where
  | int | bool | str | list | tuple
def Ty.nm : Ty → String
  | .int => "int" | .bool => "bool" | .str => "str" | .list => "list" | .tuple => "tuple"
def tyN : D → String
  | .non => "NoneType" | .bl _ => "bool" | .int _ => "int" | .str _ => "str" | .tup _ => "tuple" | .lst _ => "list" | .fro _ => "list" | .ref _ => "list" | .obj _ _ => "object" | .exn _ _ => "object"
def isTy (T : Ty) : D → Bool
  | .bl _ => match T with | .int => true | .bool => true | _ => false
  | .int _ => match T with | .int => true | _ => false
  | .str _ => match T with | .str => true | _ => false
  | .tup _ => match T with | .tuple => true | _ => false
  | .lst _ | .fro _ | .ref _ => match T with | .list => true | _ => false
  | .non | .obj _ _ | .exn _ _ => false
def isOk (S : Store) : D → Bool
  | .obj _ _ => false
  | .exn _ _ => false
  | .ref k => (lstOf S (.ref k)).isSome
  | _ => true
theorem tyx_at {Γ : Gm} {α : List Addr} {G H : Hp} {S : Store} (R : Rl Γ α G S H) {d : D} {v : V} (r : Rep Γ α G d v) (h : isOk S d = true) : TyX Γ.K H v (.type (tyN d)) := by
  have lists : ∀ {a : Addr} {vs : List V}, SqL Γ.K H a vs → TyX Γ.K H (.ref a) (.type "list") := fun {a vs} q => by
    rcases q with (q | ⟨o, q⟩) | ⟨o, its, n, q, c, _⟩
    · exact .base (.lst q)
    · exact .base (.frz q)
    · exact .kList q c
  cases d with
  | non => simp only [Rep] at r; subst r; exact .base .non
  | bl b => simp only [Rep] at r; subst r; exact .base (.bl b)
  | int b => simp only [Rep] at r; subst r; exact .base (.int b)
  | str b => simp only [Rep] at r; subst r; exact .base (.str b)
  | tup xs =>
    obtain ⟨a, vs, rfl, q, _⟩ := tup_at R r
    rcases q with (q | ⟨o, q⟩) | ⟨o, its, n, q, c, _⟩
    · exact .base (.tup q)
    · exact .fTuple q
    · exact .kTuple q c
  | lst xs =>
    obtain ⟨a, vs, rfl, q, _⟩ := rdL_at R r (show rdL S (.lst xs) = some xs from rfl)
    exact lists q
  | fro xs =>
    obtain ⟨a, vs, rfl, q, _⟩ := rdL_at R r (show rdL S (.fro xs) = some xs from rfl)
    exact lists q
  | obj _ _ => simp [isOk] at h
  | exn _ _ => simp [isOk] at h
  | ref k =>
    obtain ⟨xs, hx⟩ := Option.isSome_iff_exists.mp h
    obtain ⟨a, vs, rfl, h1, _⟩ := lstOf_at R r hx
    exact lists (.inl (.inl h1))
theorem kit_at {S : Store} (T : Ty) (d : D) (h : isOk S d = true) {K : PySem.W.Frag} : PySem.W.kitOne K (.type (tyN d)) (.type T.nm) = some (isTy T d) := by
  cases d <;> first
    | (simp [isOk] at h; done)
    | (cases T <;> exact kit_ty (by dsimp only [tyN, isTy, Ty.nm]; decide +kernel))
def mIsi (T : Ty) (m : ME) : ME := fun ρ S => (m ρ S).bind fun d S1 => if isOk S1 d then .ok (.bl (isTy T d)) S1 else .no
theorem q_isi (T : Ty) {x : Str} {p p2 : Pos} (h : QE X cl E a m) (hg : Gl X "isinstance") (hm : X.mg "isinstance" = none) (hg2 : Gl X x) (hm2 : X.mg x = none) (hv : bootBuiltins x = some (.type T.nm)) (hn : x ≠ "__name__" := by decide) (hdb : (x == ("__debug__" : Str)) = false := by decide)
    (hs1 : starEach [a, .Name x p2] X.env = (false, eval a X.env) :: starEach [.Name x p2] X.env := by rfl) (hs2 : starEach [.Name x p2] X.env = (false, eval (.Name x p2) X.env) :: starEach [] X.env := by rfl) (hpl : (backTo pos (starEach [.Name x p2] X.env)).any (·.1) = false := by rfl) :
    QE X cl E (.Call (.Name "isinstance" p) [a, .Name x p2] [] pos) (mIsi T m) := by
  obtain ⟨t, h1, h2⟩ := h.ex
  refine ⟨_, pe_callB call_isi hg hm (by decide +kernel) (pa_cons h1 (pa_cons (pe_bltn (v := .ty T.nm) hg2 hm2 hv rfl hn hdb) pa_nil hs2) hs1) (by decide) (by decide) hs1 hpl, fun ρ S σ α G H Q hρ hR hp => h2 ρ S σ α G H _ hρ hR (post_bind hp fun d S1 α1 G1 H1 v _ e1 R1 r1 hp1 => ?_)⟩
  split at hp1
  · rename_i hk
    exact ⟨v, .ty T.nm, .type (tyN d), .type T.nm, isTy T d, rfl, .ty _, tyx_at R1 r1 hk, kit_at T d hk, post_ok hp1 R1 (by simp [Rep])⟩
  · exact hp1.elim
def mIsi2 (T U : Ty) (m : ME) : ME := fun ρ S => (m ρ S).bind fun d S1 => if isOk S1 d then .ok (.bl (isTy T d || isTy U d)) S1 else .no
theorem q_isi2 (T U : Ty) {x y : Str} {p p2 p3 p4 : Pos} {x1} (h : QE X cl E a m) (hg : Gl X "isinstance") (hm : X.mg "isinstance" = none) (hg2 : Gl X x) (hm2 : X.mg x = none) (hv : bootBuiltins x = some (.type T.nm)) (hg3 : Gl X y) (hm3 : X.mg y = none) (hv3 : bootBuiltins y = some (.type U.nm))
    (hn : x ≠ "__name__" := by decide) (hdb : (x == ("__debug__" : Str)) = false := by decide) (hn3 : y ≠ "__name__" := by decide) (hdb3 : (y == ("__debug__" : Str)) = false := by decide)
    (hs1 : starEach [a, .Tuple [.Name x p2, .Name y p3] x1 p4] X.env = (false, eval a X.env) :: starEach [.Tuple [.Name x p2, .Name y p3] x1 p4] X.env := by rfl) (hs2 : starEach [.Tuple [.Name x p2, .Name y p3] x1 p4] X.env = (false, eval (.Tuple [.Name x p2, .Name y p3] x1 p4) X.env) :: starEach [] X.env := by rfl)
    (hs3 : starEach [.Name x p2, .Name y p3] X.env = (false, eval (.Name x p2) X.env) :: starEach [.Name y p3] X.env := by rfl) (hs4 : starEach [.Name y p3] X.env = (false, eval (.Name y p3) X.env) :: starEach [] X.env := by rfl)
    (hpl : (backTo pos (starEach [.Tuple [.Name x p2, .Name y p3] x1 p4] X.env)).any (·.1) = false := by rfl) :
    QE X cl E (.Call (.Name "isinstance" p) [a, .Tuple [.Name x p2, .Name y p3] x1 p4] [] pos) (mIsi2 T U m) := by
  obtain ⟨t, h1, h2⟩ := h.ex
  refine ⟨_, pe_callB call_isiT hg hm (by decide +kernel) (pa_cons h1 (pa_cons (pe_tup (pa_cons (pe_bltn (v := .ty T.nm) hg2 hm2 hv rfl hn hdb) (pa_cons (pe_bltn (v := .ty U.nm) hg3 hm3 hv3 rfl hn3 hdb3) pa_nil hs4) hs3)) pa_nil hs2) hs1) (by decide) (by decide) hs1 hpl, fun ρ S σ α G H Q hρ hR hp => h2 ρ S σ α G H _ hρ hR (post_bind hp fun d S1 α1 G1 H1 v _ e1 R1 r1 hp1 => ?_)⟩
  split at hp1
  · rename_i hk
    refine ⟨sz (by simp), fun tp htp => ?_⟩
    obtain ⟨R2, e2⟩ := R1.out htp (.tup [.ty T.nm, .ty U.nm])
    refine ⟨v, tp, [.ty T.nm, .ty U.nm], .type (tyN d), [.type T.nm, .type U.nm], isTy T d || isTy U d, rfl, upd_same, .cons (.ty _) (.cons (.ty _) .nil), tyx_at R2 (Rep.mono e2.pre e2.sub _ _ r1) hk, ?_, hp1 _ _ _ _ e2 R2 (by simp [Rep])⟩
    refine kitAny_cons (kit_at T d hk) (fun e => ?_) (fun e => by rw [e]; rfl)
    refine kitAny_cons (kit_at U d hk) (fun e' => ?_) (fun e' => by rw [e']; simp)
    rw [e, e']
    exact kitAny_nil
  · exact hp1.elim
def spM (Γ : Gm) (f : List D → Store → Res D) : Sp := fun vs H Q E => ∃ ds α G S, RepL Γ α G ds vs ∧ Rl Γ α G S H ∧ Post Γ (Rep Γ) α G H (f ds S) Q E
def nox {β : Type} : Res β → Res β
  | .ex _ _ => .no
  | r => r
@[simp] theorem nox_ok {β : Type} (a : β) (S : Store) : nox (Res.ok a S) = .ok a S := rfl
@[simp] theorem nox_no {β : Type} : nox (Res.no : Res β) = .no := rfl
def fCall (f : List D → Store → Res D) : List D → Store → Res D := fun ds S => nox (f ds S)
mutual
def pureD : D → Bool
  | .ref _ => false
  | .tup xs => pureL xs
  | .lst xs => pureL xs
  | .fro xs => pureL xs
  | .obj _ fs => pureL fs
  | .exn _ fs => pureL fs
  | _ => true
def pureL : List D → Bool
  | [] => true
  | d :: ds => pureD d && pureL ds
end
def fPure (f : List D → Store → Res D) : List D → Store → Res D := fun ds S => if pureL ds then match f ds [] with
  | .ok d [] => .ok d S
  | _ => .no
  else .no
mutual
theorem pure_rep {Γ : Gm} {α β : List Addr} {G : Hp} : ∀ (d : D) (v : V), pureD d = true → Rep Γ α G d v → Rep Γ β G d v
  | .non, v, _, h => by simpa [Rep] using h
  | .bl b, v, _, h => by simpa [Rep] using h
  | .int i, v, _, h => by simpa [Rep] using h
  | .str s, v, _, h => by simpa [Rep] using h
  | .tup ds, v, p, h => by
    unfold Rep at h ⊢
    obtain ⟨a, vs, e, q, r⟩ := h
    exact ⟨a, vs, e, q, pureL_rep ds vs (by simpa [pureD] using p) r⟩
  | .lst ds, v, p, h => by
    unfold Rep at h ⊢
    obtain ⟨a, vs, e, q, r⟩ := h
    exact ⟨a, vs, e, q, pureL_rep ds vs (by simpa [pureD] using p) r⟩
  | .fro ds, v, p, h => by
    unfold Rep at h ⊢
    obtain ⟨a, vs, e, q, r⟩ := h
    exact ⟨a, vs, e, q, pureL_rep ds vs (by simpa [pureD] using p) r⟩
  | .obj c ds, v, p, h => by
    unfold Rep at h ⊢
    obtain ⟨a, vs, e, q, r⟩ := h
    exact ⟨a, vs, e, q, pureL_rep ds vs (by simpa [pureD] using p) r⟩
  | .exn c ds, v, p, h => by
    unfold Rep at h ⊢
    obtain ⟨a, vs, e, q, r⟩ := h
    exact ⟨a, vs, e, q, pureL_rep ds vs (by simpa [pureD] using p) r⟩
  | .ref k, v, p, _ => by simp [pureD] at p
theorem pureL_rep {Γ : Gm} {α β : List Addr} {G : Hp} : ∀ (ds : List D) (vs : List V), pureL ds = true → RepL Γ α G ds vs → RepL Γ β G ds vs
  | [], vs, _, h => by simpa [RepL] using h
  | d :: ds, vs, p, h => by
    unfold RepL at h ⊢
    obtain ⟨v, r, e, h1, h2⟩ := h
    simp only [pureL, Bool.and_eq_true] at p
    exact ⟨v, r, e, pure_rep d v p.1 h1, pureL_rep ds r p.2 h2⟩
end
theorem nox_post {Γ : Gm} {α : List Addr} {G H : Hp} {r : Res D} {Q : VK} (h : Post Γ (Rep Γ) α G H (nox r) Q E) {E' : XK} : Post Γ (Rep Γ) α G H r Q E' := by
  cases r with
  | ok d S => exact h
  | ex e S => exact h.elim
  | no => exact h.elim
theorem sp_call {Γ : Gm} {f : List D → Store → Res D} : SndC Γ E (fun vs H Q => spM Γ f vs H Q E0) (fCall f) := fun ds S α G H vs Q hR r h => ⟨ds, α, G, S, r, hR, nox_post h⟩
theorem Rl.bare {Γ : Gm} {α : List Addr} {G H : Hp} {S : Store} (R : Rl Γ α G S H) : Rl Γ [] G [] H := ⟨R.sub, rfl, List.nodup_nil, fun a m => (by simp at m), fun k c a h => (by simp at h)⟩
theorem Rl.back {Γ : Gm} {α : List Addr} {G H G' H' : Hp} {S : Store} (R : Rl Γ α G S H) (R' : Rl Γ [] G' [] H') (e : Ext [] G H [] G' H') : Rl Γ α G' S H' ∧ Ext α G H α G' H' := by
  have keep : ∀ a o, H a = some o → H' a = some o := fun a o h => e.fr a o h (by simp)
  have gn : ∀ a, a ∈ α → G a = none → G' a = none := fun a m h => by
    cases q : G' a with
    | none => rfl
    | some o =>
      rcases e.ng a (by rw [q]; simp) with z | z | z | ⟨xs, z⟩
      · exact absurd h z
      · simp at z
      · exact absurd z (R.tr a m)
      · exact absurd z (R.ntup m xs)
  refine ⟨⟨R'.sub, R.len, R.nd, fun a m => ?_, fun k c a hc ha => ?_⟩, ⟨⟨[], by simp⟩, e.sub, fun a o h _ => keep a o h, fun a m => .inl m, fun a h => ?_⟩⟩
  · cases q : H a with
    | none => exact absurd q (R.tr a m)
    | some o => rw [keep a o q]; simp
  · have hm : a ∈ α := List.mem_of_getElem? ha
    refine (R.ok k c a hc ha).mono ⟨[], by simp⟩ e.sub fun _ => ⟨?_, gn a hm⟩
    cases q : H a with
    | none => exact absurd q (R.tr a hm)
    | some o => exact keep a o q
  · rcases e.ng a h with z | z | z
    · exact .inl z
    · simp at z
    · exact .inr (.inr z)
theorem sp_pure {Γ : Gm} {f : List D → Store → Res D} : SndC Γ E (fun vs H Q => spM Γ f vs H Q E0) (fPure f) := fun ds S α G H vs Q hR r h => by
  unfold fPure at h
  split at h
  · rename_i hp
    refine ⟨ds, [], G, [], pureL_rep ds vs hp r, hR.bare, ?_⟩
    cases q : f ds [] with
    | no => rw [q] at h; exact h.elim
    | ex e S' => rw [q] at h; exact h.elim
    | ok d S' =>
      rw [q] at h
      cases S' with
      | cons c T => exact h.elim
      | nil =>
        intro α' G' H' v e R' rv
        have ea : α' = [] := List.eq_nil_of_length_eq_zero (by rw [R'.len]; rfl)
        subst ea
        obtain ⟨R2, e2⟩ := hR.back R' e
        exact h α G' H' v e2 R2 (Rep.mono (α := []) ⟨α, by simp⟩ (Sub.refl _) _ _ rv)
  · exact h.elim
theorem q_call {g : List D → Store → Res D} {f : List D → Store → Res D} {k : Nat} {fa : Addr} {fd : FuncData} {ps : List Str} {x : Str} {p : Pos} {es : List Expr} {n : MA} (F : FnOk X.prog X.w X.K X.mg X.base CX0 k fa fd ps (spM ⟨X.K, cl⟩ f)) (hr : Room k X.A)
    (hg : Gl X x) (hm : X.mg x = some (.ref fa)) (hk : PySem.W.keepIn X.K (.ref fa) = true) (hb : Binds X.K fd ps []) (ha : QA X cl E (e :: es) n) (hf : SndC ⟨X.K, cl⟩ E (fun vs H Q => spM ⟨X.K, cl⟩ f vs H Q E0) g)
    (hdb : (x == ("__debug__" : Str)) = false := by decide) (he : starEach (e :: es) X.env = (false, eval e X.env) :: starEach es X.env := by rfl) (hpl : (backTo pos (starEach es X.env)).any (·.1) = false := by rfl) :
    QE X cl E (.Call (.Name x p) (e :: es) [] pos) (mCall g n) := by
  obtain ⟨t, h1, h2⟩ := ha.ex
  refine ⟨_, pe_call F hr hg hm hk hb .nil pass0 h1 hdb he hpl, fun ρ S σ α G H Q hρ hR hp => h2 ρ S σ α G H _ hρ hR (post_bind hp fun ds S1 α1 G1 H1 vs _ e1 R1 r1 hp1 => ?_)⟩
  rw [List.append_nil]
  exact hf ds S1 α1 G1 H1 vs Q R1 r1 hp1
theorem q_call0 {g : List D → Store → Res D} {f : List D → Store → Res D} {k : Nat} {fa : Addr} {fd : FuncData} {ps : List Str} {x : Str} {p : Pos} (F : FnOk X.prog X.w X.K X.mg X.base CX0 k fa fd ps (spM ⟨X.K, cl⟩ f)) (hr : Room k X.A)
    (hg : Gl X x) (hm : X.mg x = some (.ref fa)) (hk : PySem.W.keepIn X.K (.ref fa) = true) (hb : Binds X.K fd ps []) (hf : SndC ⟨X.K, cl⟩ E (fun vs H Q => spM ⟨X.K, cl⟩ f vs H Q E0) g)
    (hdb : (x == ("__debug__" : Str)) = false := by decide) :
    QE X cl E (.Call (.Name x p) [] [] pos) (mCall g mNil) := by
  refine ⟨_, pe_call0 F hr hg hm hk hb .nil pass0 hdb, fun ρ S σ α G H Q hρ hR hp => ?_⟩
  exact hf [] S α G H [] Q hR (by simp [RepL]) hp
end
end Q
namespace Q
open PySem L2
section
variable {X : Cx} {cl : Nat → Addr} {E : XK} {a b c e : Expr} {ma mb mc m : ME} {mt mu : MT} {pos : Pos} {st : Stmt} {rest : List Stmt} {n n' : MS}
def mSkip : MS := fun ρ S => .ok (.nx ρ) S
def mSeq (n n' : MS) : MS := fun ρ S => (n ρ S).bind fun f S1 => match f with
  | .nx ρ1 => n' ρ1 S1
  | f => .ok f S1
theorem snd_seq {Γ : Gm} {t u : TS} (h : SndS Γ E t n) (k : SndS Γ E u n') : SndS Γ E (tSeq t u) (mSeq n n') := fun ρ S σ α G H Dn hρ hR hp => by
  refine h ρ S σ α G H _ hρ hR ?_
  unfold mSeq at hp
  cases q : n ρ S with
  | no => rw [q] at hp; exact hp
  | ex e S' => rw [q] at hp; exact hp
  | ok f S' =>
    rw [q] at hp
    cases f with
    | nx ρ1 => exact fun α' G' H' σ' e1 R1 r1 => k ρ1 S' σ' α' G' H' Dn r1 R1 (PostS.mono hp e1)
    | rt d => exact hp
    | bk ρ1 => exact hp
    | ct ρ1 => exact hp
theorem qss_nil : QSs X cl E [] mSkip := ⟨_, pss_nil, fun ρ S σ α G H Dn hρ hR hp => hp α G H σ (Ext.refl _ _ _) hR hρ⟩
theorem qss_cons (h : QS X cl E st n) (k : QSs X cl E rest n') : QSs X cl E (st :: rest) (mSeq n n') := by
  obtain ⟨t, h1, h2⟩ := h.ex
  obtain ⟨u, k1, k2⟩ := k.ex
  exact ⟨_, pss_cons h1 k1, snd_seq h2 k2⟩
theorem qss_one (h : QS X cl E st n) : QSs X cl E [st] n := by
  obtain ⟨t, h1, h2⟩ := h.ex
  exact ⟨_, pss_one h1, h2⟩
def mDrop (m : ME) : MS := fun ρ S => (m ρ S).bind fun _ S1 => .ok (.nx ρ) S1
theorem qs_expr (h : QE X cl E e m) (hs : swapsWith e none pos.line X.env = pure false := by rfl) : QS X cl E (.Expr e pos) (mDrop m) := by
  obtain ⟨t, h1, h2⟩ := h.ex
  exact ⟨_, ps_expr h1 hs, fun ρ S σ α G H Dn hρ hR hp => h2 ρ S σ α G H _ hρ hR (posts_bind hp fun d S1 α1 G1 H1 v _ e1 R1 r1 hp1 => hp1 α1 G1 H1 σ (Ext.refl _ _ _) R1 (hρ.mono e1))⟩
def mRet (m : ME) : MS := fun ρ S => (m ρ S).bind fun d S1 => .ok (.rt d) S1
theorem qs_ret (h : QE X cl E e m) : QS X cl E (.Return (some e) pos) (mRet m) := by
  obtain ⟨t, h1, h2⟩ := h.ex
  exact ⟨_, ps_ret h1, fun ρ S σ α G H Dn hρ hR hp => h2 ρ S σ α G H _ hρ hR (posts_bind hp fun d S1 α1 G1 H1 v _ e1 R1 r1 hp1 => hp1 α1 G1 H1 v (Ext.refl _ _ _) R1 r1)⟩
def mIf (t : MT) (n n' : MS) : MS := fun ρ S => (t ρ S).bind fun b S1 => match b with
  | true => n ρ S1
  | false => n' ρ S1
theorem qs_if {c : Expr} {sa sb : List Stmt} (hc : QT X cl E c mt) (ha : QSs X cl E sa n) (hb : QSs X cl E sb n') : QS X cl E (.If c sa sb pos) (mIf mt n n') := by
  obtain ⟨t, h1, h2⟩ := hc.ex
  obtain ⟨u, k1, k2⟩ := ha.ex
  obtain ⟨w, l1, l2⟩ := hb.ex
  refine ⟨_, ps_if h1 k1 l1, fun ρ S σ α G H Dn hρ hR hp => h2 ρ S σ α G H _ hρ hR (posts_bind hp fun b S1 α1 G1 H1 v _ e1 R1 r1 hp1 => ?_)⟩
  have r1 : b = v := r1
  subst r1
  cases b with
  | true => exact iteT (k2 ρ S1 σ α1 G1 H1 Dn (hρ.mono e1) R1 hp1)
  | false => exact iteF (l2 ρ S1 σ α1 G1 H1 Dn (hρ.mono e1) R1 hp1)
abbrev MG := D → Env → Store → Res Env
abbrev MGs := List D → Env → Store → Res Env
def SndG (Γ : Gm) (E : XK) (g : TG) (mg : MG) (js : List Nat) : Prop := ∀ (d : D) (ρ : Env) (S : Store) (σ : L2.St) (α : List Addr) (G H : Hp) (v : V) (Q : L2.St → Hp → Prop), EnvR Γ α G ρ σ → Rl Γ α G S H → Rep Γ α G d v →
  Post Γ (EnvR Γ) α G H (mg d ρ S) (fun σ' H' => σ'.length = σ.length ∧ (∀ i, i ∉ js → σ'[i]? = σ[i]?) → Q σ' H') E → g v σ H Q
def SndGs (Γ : Gm) (E : XK) (g : TGs) (mg : MGs) (js : List Nat) : Prop := ∀ (ds : List D) (ρ : Env) (S : Store) (σ : L2.St) (α : List Addr) (G H : Hp) (vs : List V) (Q : L2.St → Hp → Prop), EnvR Γ α G ρ σ → Rl Γ α G S H → RepL Γ α G ds vs →
  Post Γ (EnvR Γ) α G H (mg ds ρ S) (fun σ' H' => σ'.length = σ.length ∧ (∀ i, i ∉ js → σ'[i]? = σ[i]?) → Q σ' H') E → g vs σ H Q
structure QG (X : Cx) (cl : Nat → Addr) (E : XK) (tg : Expr) (mg : MG) (js : List Nat) : Prop where
  ex : ∃ g, PG X tg g ∧ SndG ⟨X.K, cl⟩ E g mg js
structure QGs (X : Cx) (cl : Nat → Addr) (E : XK) (tgs : List Expr) (mg : MGs) (js : List Nat) : Prop where
  ex : ∃ g, PGs X tgs g ∧ SndGs ⟨X.K, cl⟩ E g mg js
def mgN (i : Nat) : MG := fun d ρ S => .ok (ρ.set i (some d)) S
theorem qg_name (i : Nat) {x : Str} (hN : X.N.Nodup) (hi : X.N[i]? = some x := by rfl) (hx : Loc X.env.scope x := by first | exact .inl rfl | exact .inr rfl) (hf : X.fn x = true ∨ X.env.scope.names.lookup x = some .local := by first | exact .inl rfl | exact .inr rfl) : QG X cl E (.Name x pos) (mgN i) [i] := by
  refine ⟨_, pg_name hN hi hx hf, fun d ρ S σ α G H v Q hρ hR r hp => ?_⟩
  refine post_ok (x := σ.set i (some v)) hp hR (hρ.set i r) ⟨by simp, fun j hj => ?_⟩
  rw [List.getElem?_set_ne]
  simpa using fun e => hj (by simp [e])
def mgNil : MGs := fun ds ρ S => match ds with
  | [] => .ok ρ S
  | _ => .no
def mgCons (g : MG) (gs : MGs) : MGs := fun ds ρ S => match ds with
  | [] => .no
  | d :: ds => (g d ρ S).bind fun ρ1 S1 => gs ds ρ1 S1
theorem qgs_nil : QGs X cl E [] mgNil [] := by
  refine ⟨_, pgs_nil, fun ds ρ S σ α G H vs Q hρ hR r hp => ?_⟩
  cases ds with
  | cons d ds => exact hp.elim
  | nil =>
    unfold RepL at r
    exact ⟨r, post_ok (x := σ) hp hR hρ ⟨rfl, fun _ _ => rfl⟩⟩
theorem qgs_cons {tg : Expr} {tgs : List Expr} {g : MG} {gs : MGs} {js ks : List Nat} (h : QG X cl E tg g js) (k : QGs X cl E tgs gs ks) (hs : (assignEach (tg :: tgs) X.env).map (·.2) = assign tg X.env :: (assignEach tgs X.env).map (·.2) := by rfl) : QGs X cl E (tg :: tgs) (mgCons g gs) (js ++ ks) := by
  obtain ⟨t, h1, h2⟩ := h.ex
  obtain ⟨u, k1, k2⟩ := k.ex
  refine ⟨_, pgs_cons h1 k1 hs, fun ds ρ S σ α G H vs Q hρ hR r hp => ?_⟩
  cases ds with
  | nil => exact hp.elim
  | cons d ds =>
    unfold RepL at r
    obtain ⟨v, w, rfl, r1, r2⟩ := r
    refine ⟨v, w, rfl, h2 d ρ S σ α G H v _ hρ hR r1 (post_bind hp fun ρ1 S1 α1 G1 H1 σ1 _ e1 R1 q1 hp1 => fun ⟨l1, o1⟩ => ?_)⟩
    refine k2 ds ρ1 S1 σ1 α1 G1 H1 w _ q1 R1 (RepL.mono e1.pre e1.sub _ _ r2) ?_
    revert hp1
    cases gs ds ρ1 S1 with
    | no => exact id
    | ex e S' => exact id
    | ok ρ2 S2 => exact fun hp1 α' G' H' σ' e R r c => hp1 α' G' H' σ' e R r ⟨by rw [c.1, l1], fun i hi => by rw [c.2 i (fun z => hi (List.mem_append_right _ z)), o1 i (fun z => hi (List.mem_append_left _ z))]⟩
def mgTup (k : Nat) (gs : MGs) : MG := fun d ρ S => match seqOf S d with
  | some ds => if ds.length = k then gs ds ρ S else .no
  | none => .no
theorem PG.or {tg : Expr} {t u : TG} (h : PG X tg t) (h' : PG X tg u) : PG X tg (fun v σ H Q => t v σ H Q ∨ u v σ H Q) := ⟨fun pins s σ H v w Q I r q => q.elim (fun q => h.run pins s σ H v w Q I r q) (fun q => h'.run pins s σ H v w Q I r q)⟩
theorem qg_tup (k : Nat) {es : List Expr} {x1 : Nat} {gs : MGs} {js : List Nat} (h : QGs X cl E es gs js) (hc : X.calm = true := by rfl) (hn : (assignEach es X.env).length = k := by rfl) (hst : (assignEach es X.env).findIdx? (·.1) = none := by rfl) : QG X cl E (.Tuple es x1 pos) (mgTup k gs) js := by
  obtain ⟨t, h1, h2⟩ := h.ex
  refine ⟨_, PG.or (pg_tup hc h1 hn hst) (pg_lst hc h1 hn hst), fun d ρ S σ α G H v Q hρ hR r hp => ?_⟩
  unfold mgTup at hp
  cases q : seqOf S d with
  | none => simp [q, Post] at hp
  | some ds =>
    simp only [q] at hp
    split at hp
    · rename_i hk
      obtain ⟨p, vs, rfl, q1, r1⟩ := seqOf_at hR r q
      have hl : vs.length = k := by rw [← r1.length]; exact hk
      rcases q1 with q1 | q1
      · exact .inr ⟨p, vs, rfl, q1, hl, h2 ds ρ S σ α G H vs Q hρ hR r1 hp⟩
      · exact .inl ⟨p, vs, rfl, q1, hl, h2 ds ρ S σ α G H vs Q hρ hR r1 hp⟩
    · exact hp.elim
def setIx (o i : D) (d : D) (S : Store) : Res Unit := match o, i with
  | .ref k, .int j => match S[k]? with
    | some (.lst xs) => match ixN xs.length j with
      | some jj => .ok () (S.set k (.lst (xs.set jj d)))
      | none => .no
    | _ => .no
  | _, _ => .no
def mgSub (mo mi : ME) : MG := fun d ρ S => (mo ρ S).bind fun o S1 => (mi ρ S1).bind fun i S2 => (setIx o i d S2).bind fun _ S3 => .ok ρ S3
theorem qg_sub {o i : Expr} {mo mi : ME} (ho : QE X cl E o mo) (hi : QE X cl E i mi)
    (ha : ∀ v, assign (.Subscript o i pos) X.env v = (do
      let ov ← holding [v] (eval o X.env)
      let iv ← holding [v, ov] (eval i X.env)
      standAt pos
      holding [v, ov, iv] (setItem ov iv v)
      release [v, ov, iv] []) := by intro _; rfl) : QG X cl E (.Subscript o i pos) (mgSub mo mi) [] := by
  obtain ⟨t, h1, h2⟩ := ho.ex
  obtain ⟨u, k1, k2⟩ := hi.ex
  refine ⟨_, pg_sub h1 k1 set_list ha, fun d ρ S σ α G H v Q hρ hR r hp => ?_⟩
  refine h2 ρ S σ α G H _ hρ hR (post_bind hp fun od S1 α1 G1 H1 ov q1 e1 R1 r1 hp1 => ?_)
  clear q1
  refine k2 ρ S1 σ α1 G1 H1 _ (hρ.mono e1) R1 (post_bind hp1 fun id S2 α2 G2 H2 iv q2 e2 R2 r2 hp2 => ?_)
  clear q2
  have r0 : Rep ⟨X.K, cl⟩ α2 G2 d v := Rep.mono e2.pre e2.sub _ _ (Rep.mono e1.pre e1.sub _ _ r)
  have ro : Rep ⟨X.K, cl⟩ α2 G2 od ov := Rep.mono e2.pre e2.sub _ _ r1
  cases od <;> try exact hp2.elim
  rename_i kk
  cases id <;> try exact hp2.elim
  rename_i j
  simp only [setIx] at hp2
  unfold Rep at ro
  obtain ⟨p, rfl, hp'⟩ := ro
  simp only [Rep] at r2
  cases hc : S2[kk]? with
  | none => simp [hc, Post] at hp2
  | some c =>
    cases c with
    | frz xs => simp [hc, Post] at hp2
    | dk l xs => simp [hc, Post] at hp2
    | dt l xs => simp [hc, Post] at hp2
    | ob l xs => simp [hc, Post] at hp2
    | lst xs =>
      simp only [hc] at hp2
      cases hj : ixN xs.length j with
      | none => simp [hj, Post] at hp2
      | some jj =>
        simp only [hj, bind_ok] at hp2
        obtain ⟨vs, q1, q2, q3⟩ := (R2.ok kk _ p hc hp').lst
        obtain ⟨R3, e3⟩ := R2.put hc hp' (q2.set jj r0)
        refine ⟨p, vs, j, jj, rfl, r2, q1, by rw [← q2.length]; exact hj, ?_⟩
        exact hp2 _ _ _ σ e3 R3 (((hρ.mono e1).mono e2).mono e3) ⟨rfl, fun _ _ => rfl⟩
def mAsg (m : ME) (g : MG) : MS := fun ρ S => (m ρ S).bind fun d S1 => (g d ρ S1).bind fun ρ1 S2 => .ok (.nx ρ1) S2
theorem snd_asg {Γ : Gm} {t : TE} {g : TG} {mg : MG} {js : List Nat} (h : SndE Γ E t m) (k : SndG Γ E g mg js) : SndS Γ E (tAsg t g) (mAsg m mg) := fun ρ S σ α G H Dn hρ hR hp =>
  h ρ S σ α G H _ hρ hR (posts_bind hp fun d S1 α1 G1 H1 v _ e1 R1 r1 hp1 =>
    k d ρ S1 σ α1 G1 H1 v _ (hρ.mono e1) R1 r1 (posts_bind hp1 fun ρ1 S2 α2 G2 H2 σ2 _ e2 R2 q2 hp2 => fun _ => hp2 α2 G2 H2 σ2 (Ext.refl _ _ _) R2 q2))
theorem qs_asg {tg : Expr} {mg : MG} {js : List Nat} (h : QE X cl E e m) (k : QG X cl E tg mg js) (hs : swapsWithSole [tg] e pos.line X.env = pure false := by rfl) (hw : swappedStores [tg] e X.env = pure none := by rfl)
    (h1 : (assignEach [tg] X.env).map (·.2) = [assign tg X.env] := by rfl) : QS X cl E (.Assign [tg] e pos) (mAsg m mg) := by
  obtain ⟨t, a1, a2⟩ := h.ex
  obtain ⟨g, b1, b2⟩ := k.ex
  exact ⟨_, ps_asg a1 b1 hs hw h1, snd_asg a2 b2⟩
theorem sndg_name {Γ : Gm} (i : Nat) : SndG Γ E (gName i) (mgN i) [i] := fun d ρ S σ α G H v Q hρ hR r hp => by
  refine post_ok (x := σ.set i (some v)) hp hR (hρ.set i r) ⟨by simp, fun j hj => ?_⟩
  rw [List.getElem?_set_ne]
  simpa using fun e => hj (by simp [e])
theorem qs_set (i : Nat) {x : Str} {px : Pos} (h : QE X cl E e m) (hN : X.N.Nodup) (hi : X.N[i]? = some x := by rfl) (hx : Loc X.env.scope x := by first | exact .inl rfl | exact .inr rfl) (hs : swapsWith e (some (.Name x px)) pos.line X.env = pure false := by rfl) (hf : X.fn x = true ∨ X.env.scope.names.lookup x = some .local := by first | exact .inl rfl | exact .inr rfl) :
    QS X cl E (.Assign [.Name x px] e pos) (mAsg m (mgN i)) := by
  obtain ⟨t, a1, a2⟩ := h.ex
  exact ⟨_, ps_set hN hi hx a1 hs hf, snd_asg a2 (sndg_name i)⟩
def mPar (i j : Nat) (n : MA) : MS := fun ρ S => (n ρ S).bind fun ds S1 => match ds with
  | [d, d'] => .ok (.nx ((ρ.set i (some d)).set j (some d'))) S1
  | _ => .no
theorem qs_par (i j : Nat) {x y : Str} {px py pt : Pos} {kt k2 pt2} {na : MA} (hN : X.N.Nodup) (ha : QA X cl E [a, b] na) (hi : X.N[i]? = some x := by rfl) (hj : X.N[j]? = some y := by rfl) (hij : i ≠ j := by decide)
    (hx : X.env.scope.names.lookup x = some .local := by rfl) (hy : X.env.scope.names.lookup y = some .local := by rfl) (hw : swappedStores [.Tuple [.Name x px, .Name y py] kt pt] (.Tuple [a, b] k2 pt2) X.env = pure (some [x, y]) := by rfl)
    (hs : swapsWithSole [.Tuple [.Name x px, .Name y py] kt pt] (.Tuple [a, b] k2 pt2) pos.line X.env = pure false := by rfl) (hc : X.calm = true := by rfl) : QS X cl E (.Assign [.Tuple [.Name x px, .Name y py] kt pt] (.Tuple [a, b] k2 pt2) pos) (mPar i j na) := by
  obtain ⟨t, h1, h2⟩ := ha.ex
  refine ⟨_, ps_par hc hN hi hj hij hx hy h1 hw hs, fun ρ S σ α G H Dn hρ hR hp => h2 ρ S σ α G H _ hρ hR (posts_bind hp fun ds S1 α1 G1 H1 vs _ e1 R1 r1 hp1 => ?_)⟩
  match ds, hp1, r1 with
  | [d, d'], hp1, r1 =>
    obtain ⟨v, v', rfl, rv, rv'⟩ := repL2 r1
    exact ⟨v, v', rfl, hp1 α1 G1 H1 _ (Ext.refl _ _ _) R1 (((hρ.mono e1).set i rv).set j rv')⟩
  | [], hp1, _ => exact hp1.elim
  | [_], hp1, _ => exact hp1.elim
  | _ :: _ :: _ :: _, hp1, _ => exact hp1.elim
def appTo (k : Nat) (d : D) (S : Store) : Res D := match S[k]? with
  | some (.lst xs) => if xs.length < 100000 then .ok .non (S.set k (.lst (xs ++ [d]))) else .no
  | _ => .no
def notOb (S : Store) (k : Nat) : Bool := match S[k]? with
  | some (.dk _ _) => false
  | some (.dt _ _) => false
  | some (.ob _ _) => false
  | _ => true
def mApp (mo m : ME) : ME := fun ρ S => (mo ρ S).bind fun o S1 => match o with
  | .ref k => if notOb S1 k = true then (m ρ S1).bind fun d S2 => appTo k d S2 else .no
  | _ => .no
theorem listy {Γ : Gm} {α : List Addr} {G H : Hp} {S : Store} (R : Rl Γ α G S H) {k : Nat} {v : V} (r : Rep Γ α G (.ref k) v) (h : notOb S k = true) : ∃ p, v = .ref p ∧ α[k]? = some p ∧ tyV Γ.K "list" (.ref p) H := by
  unfold Rep at r
  obtain ⟨p, rfl, hp'⟩ := r
  have hk : k < S.length := by rw [← R.len]; exact (List.getElem?_eq_some_iff.mp hp').1
  have hc : S[k]? = some S[k] := List.getElem?_eq_getElem hk
  have z := R.ok k S[k] p hc hp'
  unfold notOb at h
  rw [hc] at h
  cases q : S[k] with
  | lst xs =>
    rw [q] at z
    obtain ⟨vs, q1, _⟩ := z.lst
    exact ⟨p, rfl, hp', .inl ⟨rfl, vs, .inl (.inl q1)⟩⟩
  | frz xs =>
    rw [q] at z
    obtain ⟨vs, q1, _⟩ := z.frz
    exact ⟨p, rfl, hp', .inl ⟨rfl, vs, .inl (.inl (R.sub _ _ q1))⟩⟩
  | _ => rw [q] at h; cases h
theorem q_app {o : Expr} {mo : ME} {apos cpos : Pos} (ho : QE X cl E o mo) (he : QE X cl E e m) (hbase : attributeBase o "append" X.env (eval o X.env) = eval o X.env := by rfl)
    (hfew : ((backTo cpos (starEach [e] X.env)).all (fun x => !x.1) && (backToKw cpos (keywordEach [] X.env)).all (fun x => x.1.isSome)
      && decide (([e] : List Expr).length + ([] : List Keyword).length + (if ([] : List Keyword).isEmpty then 0 else 1) < 30)) = true := by rfl)
    (hline : (apos.endLine == cpos.line) = true := by rfl) (hs : starEach [e] X.env = (false, eval e X.env) :: starEach [] X.env := by rfl) (hplain : (backTo cpos (starEach [] X.env)).any (·.1) = false := by rfl) :
    QE X cl E (.Call (.Attribute o "append" apos) [e] [] cpos) (mApp mo m) := by
  obtain ⟨t, h1, h2⟩ := ho.ex
  obtain ⟨u, k1, k2⟩ := he.ex
  refine ⟨_, pe_bm PySem.F.plainAttrs_list PySem.F.slot_list_append PySem.F.type_list_append mt_append h1 (pa_cons k1 pa_nil hs) hbase hfew hline hs hplain, fun ρ S σ α G H Q hρ hR hp => ?_⟩
  refine h2 ρ S σ α G H _ hρ hR (post_bind hp fun od S1 α1 G1 H1 ov q1 e1 R1 r1 hp1 => ?_)
  clear q1
  cases od <;> try exact hp1.elim
  rename_i kk
  dsimp only at hp1
  split at hp1
  case isFalse => exact hp1.elim
  rename_i hno
  obtain ⟨p, rfl, ha1, htv⟩ := listy R1 r1 hno
  refine ⟨htv, ?_⟩
  refine k2 ρ S1 σ α1 G1 H1 _ (hρ.mono e1) R1 (post_bind hp1 fun d S2 α2 G2 H2 v q2 e2 R2 r2 hp2 => ?_)
  have hp' : α2[kk]? = some p := by
    obtain ⟨β, rfl⟩ := e2.pre
    rw [List.getElem?_append_left (List.getElem?_eq_some_iff.mp ha1).1]
    exact ha1
  unfold appTo at hp2
  cases hc : S2[kk]? with
  | none => simp [hc, Post] at hp2
  | some c =>
    cases c with
    | frz xs => simp [hc, Post] at hp2
    | dk l xs => simp [hc, Post] at hp2
    | dt l xs => simp [hc, Post] at hp2
    | ob l xs => simp [hc, Post] at hp2
    | lst xs =>
      simp only [hc] at hp2
      split at hp2
      · rename_i hl
        obtain ⟨vs, q1, q2, q3⟩ := (R2.ok kk _ p hc hp').lst
        obtain ⟨R3, e3⟩ := R2.put hc hp' (q2.append (show RepL ⟨X.K, cl⟩ α2 G2 [d] [v] by unfold RepL; exact ⟨v, [], rfl, r2, by simp [RepL]⟩))
        exact ⟨p, vs, v, rfl, rfl, q1, by rw [← q2.length]; exact Nat.lt_of_lt_of_le hl (by decide), hp2 _ _ _ .non e3 R3 (by simp [Rep])⟩
      · exact hp2.elim
def whileF (t : MT) (b : MS) : Nat → MS
  | 0 => fun _ _ => .no
  | k + 1 => fun ρ S => (t ρ S).bind fun c S1 => match c with
    | false => .ok (.nx ρ) S1
    | true => (b ρ S1).bind fun f S2 => match f with
      | .nx ρ1 => whileF t b k ρ1 S2
      | .ct ρ1 => whileF t b k ρ1 S2
      | .bk ρ1 => .ok (.nx ρ1) S2
      | .rt d => .ok (.rt d) S2
def mWhile (fuel : Env → Store → Nat) (t : MT) (b : MS) : MS := fun ρ S => whileF t b (fuel ρ S) ρ S
theorem snd_while {Γ : Gm} {fuel : Env → Store → Nat} {tc : TT} {tb : TS} (h : SndT Γ E tc mt) (k : SndS Γ E tb n) : SndS Γ E (tWhile tc tb) (mWhile fuel mt n) := fun ρ S σ α G H Dn hρ hR hp => by
  refine ⟨fun j σ H => ∃ ρ S α G, EnvR Γ α G ρ σ ∧ Rl Γ α G S H ∧ PostS Γ E α G H (whileF mt n j ρ S) Dn, ⟨_, ρ, S, α, G, hρ, hR, hp⟩, ?_⟩
  rintro j σ H ⟨ρ, S, α, G, hρ, hR, hp⟩
  cases j with
  | zero => exact hp.elim
  | succ j =>
    refine h ρ S σ α G H _ hρ hR (posts_bind hp fun c S1 α1 G1 H1 c' _ e1 R1 r1 hp1 => ?_)
    have r1 : c = c' := r1
    subst r1
    cases c with
    | false => exact iteF (hp1 α1 G1 H1 σ (Ext.refl _ _ _) R1 (hρ.mono e1))
    | true =>
      refine iteT ⟨fun σ' H' => ∃ m', m' < j + 1 ∧ ∃ ρ S α G, EnvR Γ α G ρ σ' ∧ Rl Γ α G S H' ∧ PostS Γ E α G H' (whileF mt n m' ρ S) Dn, fun σ' H' z => z, ?_⟩
      refine k ρ S1 σ α1 G1 H1 _ (hρ.mono e1) R1 ?_
      simp only at hp1
      cases q : n ρ S1 with
      | no => rw [q] at hp1; exact hp1
      | ex e S' => rw [q] at hp1; exact hp1
      | ok f S2 =>
        rw [q] at hp1
        cases f with
        | nx ρ1 => exact fun α2 G2 H2 σ2 e2 R2 r2 => ⟨j, Nat.lt_succ_self j, ρ1, S2, α2, G2, r2, R2, PostS.mono hp1 e2⟩
        | ct ρ1 => exact fun α2 G2 H2 σ2 e2 R2 r2 => ⟨j, Nat.lt_succ_self j, ρ1, S2, α2, G2, r2, R2, PostS.mono hp1 e2⟩
        | bk ρ1 => exact hp1
        | rt d => exact hp1
theorem qs_while (fuel : Env → Store → Nat) {c : Expr} {body : List Stmt} (hc : QT X cl E c mt) (hb : QSs X cl E body n) (hp : PassesOwn (model X.prog X.w) X.A X.env X.xe := by exact PassesOwn.never) : QS X cl E (.While c body [] pos) (mWhile fuel mt n) := by
  obtain ⟨t, h1, h2⟩ := hc.ex
  obtain ⟨u, k1, k2⟩ := hb.ex
  exact ⟨_, ps_while hp h1 k1, snd_while h2 k2⟩
def Steps (Γ : Gm) (α : List Addr) (G : Hp) (ds : List D) (J : It) : Prop := ∀ (i : Nat) (α2 : List Addr) (G2 H2 : Hp) (S2 : Store), (∃ β, α2 = α ++ β) → Sub G G2 → Rl Γ α2 G2 S2 H2 →
  (ds.length ≤ i → J.stop i H2) ∧ ∀ d, ds[i]? = some d → J.go i H2 ∧ ∀ x H3, J.yld i H2 x H3 → ∃ G3, Rl Γ α2 G3 S2 H3 ∧ Ext α2 G2 H2 α2 G3 H3 ∧ Rep Γ α2 G3 d x
def PostI (Γ : Gm) (E : XK) (α : List Addr) (G H : Hp) (r : Res (List D)) (R : It → Hp → Prop) : Prop := match r with
  | .ok ds S' => ∀ α' G' H' J, Ext α G H α' G' H' → Rl Γ α' G' S' H' → Steps Γ α' G' ds J → R J H'
  | .ex e S' => ∀ α' G' H' c x, Ext α G H α' G' H' → Rl Γ α' G' S' H' → ExR Γ α' G' e c x H' → E c x H'
  | .no => False
theorem PostI.mono {Γ : Gm} {α α1 : List Addr} {G H G1 H1 : Hp} {r : Res (List D)} {R : It → Hp → Prop} (h : PostI Γ E α G H r R) (e : Ext α G H α1 G1 H1) : PostI Γ E α1 G1 H1 r R := by
  cases r with
  | ok d S' => exact fun α' G' H' v x rl rp => h α' G' H' v (e.trans x) rl rp
  | ex d S' => exact fun α' G' H' c x y rl rp => h α' G' H' c x (e.trans y) rl rp
  | no => exact h
theorem posti_bind {Γ : Gm} {β γ : Type} {R : List Addr → Hp → β → γ → Prop} {α : List Addr} {G H : Hp} {r : Res β} {f : β → Store → Res (List D)} {RI : It → Hp → Prop} {Q : γ → Hp → Prop} (h : PostI Γ E α G H (r.bind f) RI)
    (k : ∀ a S1 α1 G1 H1 x, r = .ok a S1 → Ext α G H α1 G1 H1 → Rl Γ α1 G1 S1 H1 → R α1 G1 a x → PostI Γ E α1 G1 H1 (f a S1) RI → Q x H1) : Post Γ R α G H r Q E := by
  cases r with
  | ok d S' =>
    intro α' G' H' v e rl rp
    exact k d S' α' G' H' v rfl e rl rp (PostI.mono h e)
  | ex e S' => exact h
  | no => exact h
def SndI (Γ : Gm) (E : XK) (wi : TI) (mi : MA) : Prop := ∀ (ρ : Env) (S : Store) (σ : L2.St) (α : List Addr) (G H : Hp) (R : It → Hp → Prop), EnvR Γ α G ρ σ → Rl Γ α G S H → PostI Γ E α G H (mi ρ S) R → wi σ H R
structure QI (X : Cx) (cl : Nat → Addr) (E : XK) (tg iter : Expr) (mi : MA) : Prop where
  ex : ∃ wi, PI X tg iter wi ∧ SndI ⟨X.K, cl⟩ E wi mi
theorem PI.or {tg it : Expr} {t u : TI} (h : PI X tg it t) (h' : PI X tg it u) : PI X tg it (fun σ H R => t σ H R ∨ u σ H R) := ⟨fun pins s σ H R I q => q.elim (fun q => h.run pins s σ H R I q) (fun q => h'.run pins s σ H R I q)⟩
def itemsOf : D → Store → Res (List D) := fun d S => match d with
  | .tup xs => .ok xs S
  | .lst xs => .ok xs S
  | .fro xs => .ok xs S
  | _ => .no
def mItems (m : ME) : MA := fun ρ S => (m ρ S).bind itemsOf
theorem steps_list {Γ : Gm} {α : List Addr} {G : Hp} {ds : List D} {a : Addr} {vs : List V} (h : SqL Γ.K G a vs) (r : RepL Γ α G ds vs) : Steps Γ α G ds (Itl Γ.K a) := fun i α2 G2 H2 S2 hp hs R2 => by
  have q : SqL Γ.K H2 a vs := (hs.trans R2.sub).sqL h
  have r2 : RepL Γ α2 G2 ds vs := RepL.mono hp hs _ _ r
  refine ⟨fun hl => ⟨vs, q, by rw [← r2.length]; exact hl⟩, fun d hd => ?_⟩
  obtain ⟨v, hv, rv⟩ := r2.get hd
  refine ⟨⟨vs, v, q, hv⟩, fun x H3 hy => ?_⟩
  obtain ⟨rfl, f⟩ := hy
  have e := f vs q
  rw [hv] at e
  cases e
  exact ⟨G2, R2, Ext.refl _ _ _, rv⟩
theorem steps_tup {Γ : Gm} {α : List Addr} {G : Hp} {ds : List D} {a : Addr} {vs : List V} (h : SqT Γ.K G a vs) (r : RepL Γ α G ds vs) : Steps Γ α G ds (Itt Γ.K a) := fun i α2 G2 H2 S2 hp hs R2 => by
  have q : SqT Γ.K H2 a vs := (hs.trans R2.sub).sqT h
  have r2 : RepL Γ α2 G2 ds vs := RepL.mono hp hs _ _ r
  refine ⟨fun hl => ⟨vs, q, by rw [← r2.length]; exact hl⟩, fun d hd => ?_⟩
  obtain ⟨v, hv, rv⟩ := r2.get hd
  refine ⟨⟨vs, v, q, hv⟩, fun x H3 hy => ?_⟩
  obtain ⟨rfl, f⟩ := hy
  have e := f vs q
  rw [hv] at e
  cases e
  exact ⟨G2, R2, Ext.refl _ _ _, rv⟩
theorem qi_items {tg it : Expr} (h : QE X cl E it m) : QI X cl E tg it (mItems m) := by
  obtain ⟨t, h1, h2⟩ := h.ex
  refine ⟨_, PI.or (pi_list h1) (pi_tup h1), fun ρ S σ α G H R hρ hR hp => ?_⟩
  have lists : ∀ xs S', m ρ S = .ok (.lst xs) S' → iList X.K t σ H R := fun xs S' q => by
    refine h2 ρ S σ α G H _ hρ hR (posti_bind hp fun d S1 α1 G1 H1 v q1 e1 R1 r1 hp1 => ?_)
    rw [q] at q1
    cases q1
    unfold Rep at r1
    obtain ⟨a, vs, rfl, q2, r2⟩ := r1
    exact ⟨a, rfl, ⟨vs, R1.sub.sqL (.inl (.inl q2))⟩, hp1 α1 G1 H1 _ (Ext.refl _ _ _) R1 (steps_list (Γ := ⟨X.K, cl⟩) (.inl (.inl q2)) r2)⟩
  have fros : ∀ xs S', m ρ S = .ok (.fro xs) S' → iList X.K t σ H R := fun xs S' q => by
    refine h2 ρ S σ α G H _ hρ hR (posti_bind hp fun d S1 α1 G1 H1 v q1 e1 R1 r1 hp1 => ?_)
    rw [q] at q1
    cases q1
    unfold Rep at r1
    obtain ⟨a, vs, rfl, q2, r2⟩ := r1
    exact ⟨a, rfl, ⟨vs, R1.sub.sqL q2⟩, hp1 α1 G1 H1 _ (Ext.refl _ _ _) R1 (steps_list (Γ := ⟨X.K, cl⟩) q2 r2)⟩
  have tups : ∀ xs S', m ρ S = .ok (.tup xs) S' → iTup X.K t σ H R := fun xs S' q => by
    refine h2 ρ S σ α G H _ hρ hR (posti_bind hp fun d S1 α1 G1 H1 v q1 e1 R1 r1 hp1 => ?_)
    rw [q] at q1
    cases q1
    unfold Rep at r1
    obtain ⟨a, vs, rfl, q2, r2⟩ := r1
    exact ⟨a, rfl, ⟨vs, .inl (.inl (R1.sub _ _ q2))⟩, hp1 α1 G1 H1 _ (Ext.refl _ _ _) R1 (steps_tup (Γ := ⟨X.K, cl⟩) (.inl (.inl q2)) r2)⟩
  cases q : m ρ S with
  | no => unfold mItems at hp; rw [q] at hp; exact hp.elim
  | ex e S' =>
    -- the exception comes ahead of the walk: either reading carries it
    refine .inl (h2 ρ S σ α G H _ hρ hR ?_)
    unfold mItems at hp
    rw [q] at hp ⊢
    exact hp
  | ok d S' =>
    cases d with
    | lst xs => exact .inl (lists xs S' q)
    | fro xs => exact .inl (fros xs S' q)
    | tup xs => exact .inr (tups xs S' q)
    | _ => (unfold mItems at hp; rw [q] at hp; exact hp.elim)
def rangeD (lo : Int) (k : Nat) : List D := (List.range k).map fun (i : Nat) => .int (lo + (i : Int))
theorem steps_range {Γ : Gm} {α : List Addr} {G : Hp} (lo : Int) (k : Nat) : Steps Γ α G (rangeD lo k) (Itr lo k) := fun i α2 G2 H2 S2 hp hs R2 => by
  refine ⟨fun hl => (by simpa [rangeD] using hl : k ≤ i), fun d hd => ?_⟩
  unfold rangeD at hd
  rw [List.getElem?_map] at hd
  cases q : (List.range k)[i]? with
  | none => simp [q] at hd
  | some j =>
    simp only [q, Option.map_some, Option.some.injEq] at hd
    have hi := List.getElem?_eq_some_iff.mp q
    obtain ⟨h1, h2⟩ := hi
    simp at h1 h2
    subst h2
    refine ⟨h1, fun x H3 hy => ?_⟩
    obtain ⟨rfl, rfl⟩ := hy
    exact ⟨G2, R2, Ext.refl _ _ _, by subst hd; simp [Rep]⟩
def mRange1 (m : ME) : MA := fun ρ S => (m ρ S).bind fun d S1 => match d with
  | .int j => if j.natAbs < 2 ^ 62 then .ok (rangeD 0 j.toNat) S1 else .no
  | _ => .no
def mRange2 (m m' : ME) : MA := fun ρ S => (m ρ S).bind fun d S1 => (m' ρ S1).bind fun d' S2 => match d, d' with
  | .int i, .int j => if i.natAbs < 2 ^ 62 ∧ j.natAbs < 2 ^ 62 then .ok (rangeD i (j - i).toNat) S2 else .no
  | _, _ => .no
theorem qi_range1 {tg a : Expr} {p pos : Pos} (h : QE X cl E a m) (hg : Gl X "range") (hm : X.mg "range" = none) (hs : starEach [a] X.env = [(false, eval a X.env)] := by rfl) : QI X cl E tg (.Call (.Name "range" p) [a] [] pos) (mRange1 m) := by
  obtain ⟨t, h1, h2⟩ := h.ex
  refine ⟨_, pi_range1 hg hm (pa_cons h1 pa_nil (by rw [hs]; rfl)) hs, fun ρ S σ α G H R hρ hR hp => h2 ρ S σ α G H _ hρ hR (posti_bind hp fun d S1 α1 G1 H1 v q1 e1 R1 r1 hp1 => ?_)⟩
  clear q1
  cases d <;> try exact hp1.elim
  rename_i j
  simp only at hp1
  simp only [Rep] at r1
  subst r1
  split at hp1
  · rename_i hb
    exact ⟨j, rfl, by omega, by omega, hp1 α1 G1 H1 _ (Ext.refl _ _ _) R1 (steps_range 0 j.toNat)⟩
  · exact hp1.elim
theorem qi_range2 {tg a b : Expr} {p pos : Pos} (h : QE X cl E a ma) (h' : QE X cl E b mb) (hg : Gl X "range") (hm : X.mg "range" = none) (hs : starEach [a, b] X.env = [(false, eval a X.env), (false, eval b X.env)] := by rfl) (hs2 : starEach [b] X.env = [(false, eval b X.env)] := by rfl) : QI X cl E tg (.Call (.Name "range" p) [a, b] [] pos) (mRange2 ma mb) := by
  obtain ⟨t, h1, h2⟩ := h.ex
  obtain ⟨u, k1, k2⟩ := h'.ex
  refine ⟨_, pi_range2 hg hm (pa_cons h1 (pa_cons k1 pa_nil (by rw [hs2]; rfl)) (by rw [hs, hs2])) hs hs2, fun ρ S σ α G H R hρ hR hp => h2 ρ S σ α G H _ hρ hR (posti_bind hp fun d S1 α1 G1 H1 v q1 e1 R1 r1 hp1 => ?_)⟩
  refine k2 ρ S1 σ α1 G1 H1 _ (hρ.mono e1) R1 (posti_bind hp1 fun d' S2 α2 G2 H2 w q2 e2 R2 r2 hp2 => ?_)
  clear q1 q2
  cases d <;> cases d' <;> try exact hp2.elim
  rename_i i j
  simp only at hp2
  simp only [Rep] at r1 r2
  subst r1 r2
  split at hp2
  · rename_i hb
    exact ⟨i, j, rfl, by omega, hp2 α2 G2 H2 _ (Ext.refl _ _ _) R2 (steps_range i _)⟩
  · exact hp2.elim
def forL (g : MG) (b : MS) : List D → MS
  | [] => fun ρ S => .ok (.nx ρ) S
  | d :: ds => fun ρ S => (g d ρ S).bind fun ρ1 S1 => (b ρ1 S1).bind fun f S2 => match f with
    | .nx ρ2 => forL g b ds ρ2 S2
    | .ct ρ2 => forL g b ds ρ2 S2
    | .bk ρ2 => .ok (.nx ρ2) S2
    | .rt d => .ok (.rt d) S2
def mFor (mi : MA) (g : MG) (b : MS) : MS := fun ρ S => (mi ρ S).bind fun ds S1 => forL g b ds ρ S1
theorem posts_i {Γ : Gm} {α : List Addr} {G H : Hp} {r : Res (List D)} {f : List D → Store → Res Fl} {Dn : Ends} {R : It → Hp → Prop} (h : PostS Γ E α G H (r.bind f) Dn)
    (k : ∀ ds S1 α1 G1 H1 J, Ext α G H α1 G1 H1 → Rl Γ α1 G1 S1 H1 → Steps Γ α1 G1 ds J → PostS Γ E α1 G1 H1 (f ds S1) Dn → R J H1) : PostI Γ E α G H r R := by
  cases r with
  | ok d S' =>
    intro α' G' H' v e rl rp
    exact k d S' α' G' H' v e rl rp (PostS.mono h e)
  | ex e S' => exact h
  | no => exact h
theorem snd_for {Γ : Gm} {wi : TI} {mi : MA} {g : TG} {mg : MG} {js : List Nat} {tb : TS} (hi : SndI Γ E wi mi) (hg : SndG Γ E g mg js) (hb : SndS Γ E tb n) : SndS Γ E (tFor wi g tb) (mFor mi mg n) := fun ρ S σ α G H Dn hρ hR hp => by
  refine hi ρ S σ α G H _ hρ hR (posts_i hp fun ds S1 α1 G1 H1 J e1 R1 st hp1 => ?_)
  refine ⟨fun i k σ H => k = ds.length - i ∧ i ≤ ds.length ∧ ∃ ρ S α2 G2, Ext α1 G1 H1 α2 G2 H ∧ EnvR Γ α2 G2 ρ σ ∧ Rl Γ α2 G2 S H ∧ PostS Γ E α2 G2 H (forL mg n (ds.drop i) ρ S) Dn, ⟨ds.length, by simp, Nat.zero_le _, ρ, S1, α1, G1, Ext.refl _ _ _, hρ.mono e1, R1, by simpa using hp1⟩, ?_⟩
  rintro i k σ2 H2 ⟨rfl, hle, ρ2, S2, α2, G2, e2, hρ2, R2, hp2⟩
  obtain ⟨stop, go⟩ := st i α2 G2 H2 S2 e2.pre e2.sub R2
  by_cases hlt : i < ds.length
  · have hd : ds[i]? = some ds[i] := List.getElem?_eq_getElem hlt
    obtain ⟨hgo, hy⟩ := go _ hd
    refine .inr ⟨hgo, fun σ' H' => ∃ ρ S α2 G2, Ext α1 G1 H1 α2 G2 H' ∧ EnvR Γ α2 G2 ρ σ' ∧ Rl Γ α2 G2 S H' ∧ PostS Γ E α2 G2 H' (forL mg n (ds.drop (i + 1)) ρ S) Dn, fun σ' H' z => ⟨ds.length - (i + 1), by omega, rfl, hlt, z⟩, fun x H3 y3 => ?_⟩
    obtain ⟨G3, R3, e3, rx⟩ := hy x H3 y3
    rw [List.drop_eq_getElem_cons hlt] at hp2
    have hp3 := PostS.mono hp2 e3
    refine hg ds[i] ρ2 S2 σ2 α2 G3 H3 x _ (hρ2.mono e3) R3 rx (posts_bind hp3 fun ρ4 S4 α4 G4 H4 σ4 q4 e4 R4 r4 hp4 => fun _ => ?_)
    refine hb ρ4 S4 σ4 α4 G4 H4 _ r4 R4 ?_
    clear q4
    have e14 : Ext α1 G1 H1 α4 G4 H4 := (e2.trans e3).trans e4
    cases q : n ρ4 S4 with
    | no => rw [q] at hp4; exact hp4
    | ex e S' => rw [q] at hp4; exact hp4
    | ok f S5 =>
      rw [q] at hp4
      cases f with
      | nx ρ5 => exact fun α5 G5 H5 σ5 e5 R5 r5 => ⟨ρ5, S5, α5, G5, e14.trans e5, r5, R5, PostS.mono hp4 e5⟩
      | ct ρ5 => exact fun α5 G5 H5 σ5 e5 R5 r5 => ⟨ρ5, S5, α5, G5, e14.trans e5, r5, R5, PostS.mono hp4 e5⟩
      | bk ρ5 => exact hp4
      | rt d => exact hp4
  · refine .inl ⟨stop (by omega), ?_⟩
    rw [List.drop_of_length_le (by omega)] at hp2
    exact hp2 α2 G2 H2 σ2 (Ext.refl _ _ _) R2 hρ2
theorem qs_for {tg it : Expr} {body : List Stmt} {mi : MA} {mg : MG} {js : List Nat} (hi : QI X cl E tg it mi) (hg : QG X cl E tg mg js) (hb : QSs X cl E body n) (hp : PassesOwn (model X.prog X.w) X.A X.env X.xe := by exact PassesOwn.never) (hc : X.calm = true := by rfl)
    (hs : ∀ x, foldedSetIterable it X.env x = pure x := by intro _; rfl) : QS X cl E (.For tg it body [] pos) (mFor mi mg n) := by
  obtain ⟨wi, h1, h2⟩ := hi.ex
  obtain ⟨g, k1, k2⟩ := hg.ex
  obtain ⟨tb, l1, l2⟩ := hb.ex
  exact ⟨_, ps_for hp hc h1 k1 l1 hs, snd_for h2 k2 l2⟩
def wp (ρ : Env) : List Nat → Env
  | [] => ρ
  | v :: vs => (wp ρ vs).set v none
theorem wipe_get {σ : L2.St} {i : Nat} : ∀ {vs : List Nat}, i ∉ vs → (wipe σ vs)[i]? = σ[i]?
  | [], _ => rfl
  | v :: vs, h => by
    unfold wipe
    rw [List.getElem?_set_ne (fun e => h (by simp [e]))]
    exact wipe_get fun z => h (List.mem_cons_of_mem _ z)
theorem wipe_in {σ : L2.St} {i : Nat} : ∀ {vs : List Nat}, i ∈ vs → i < σ.length → (wipe σ vs)[i]? = some none
  | v :: vs, h, hl => by
    unfold wipe
    by_cases e : v = i
    · subst e
      rw [List.getElem?_set_self (by rw [wipe_length]; exact hl)]
    · rw [List.getElem?_set_ne e]
      exact wipe_in ((List.mem_cons.mp h).resolve_left fun z => e z.symm) hl
theorem wipe_same {σ τ : L2.St} {vs js : List Nat} (hl : τ.length = (wipe σ vs).length) (ho : ∀ i, i ∉ js → τ[i]? = (wipe σ vs)[i]?) (hj : ∀ j ∈ js, j ∈ vs) : wipe τ vs = wipe σ vs := by
  rw [wipe_length] at hl
  apply List.ext_getElem?
  intro i
  by_cases hi : i ∈ vs
  · by_cases hb : i < σ.length
    · rw [wipe_in hi hb, wipe_in hi (by rw [hl]; exact hb)]
    · rw [List.getElem?_eq_none (by rw [wipe_length]; omega), List.getElem?_eq_none (by rw [wipe_length]; omega)]
  · rw [wipe_get hi, ho i fun z => hi (hj i z)]
theorem EnvR.wp {Γ : Gm} {α : List Addr} {G : Hp} {ρ : Env} {σ : L2.St} (h : EnvR Γ α G ρ σ) : ∀ vs : List Nat, EnvR Γ α G (wp ρ vs) (wipe σ vs)
  | [] => h
  | v :: vs => by
    have ih := EnvR.wp h vs
    unfold Q.wp wipe
    refine ⟨by simp [ih.1], fun i d hd => ?_⟩
    by_cases e : v = i
    · subst e
      have hl := (List.getElem?_eq_some_iff.mp hd).1
      rw [List.length_set] at hl
      rw [List.getElem?_set_self hl] at hd
      cases hd
    · rw [List.getElem?_set_ne e] at hd ⊢
      exact ih.2 i d hd
def lcL (g : MG) (t : MT) (m : ME) (ρ : Env) : List D → Store → Res (List D)
  | [], S => .ok [] S
  | d :: ds, S => (g d ρ S).bind fun ρ1 S1 => (t ρ1 S1).bind fun b S2 => match b with
    | true => (m ρ1 S2).bind fun v S3 => (lcL g t m ρ ds S3).bind fun vs S4 => .ok (v :: vs) S4
    | false => lcL g t m ρ ds S2
def mLc (mi : MA) (g : MG) (t : MT) (m : ME) (vs : List Nat) : ME := fun ρ S => (mi ρ S).bind fun ds S1 => if ds.length ≤ 100000 then (lcL g t m (wp ρ vs) ds S1).bind fun xs S2 => .ok (.lst xs) S2 else .no
def mLcC (mi : MA) (g : MG) (t : MT) (m : ME) (vs : List Nat) : ME := fun ρ S => (mi ρ S).bind fun ds S1 => if ds.length ≤ 100000 then (lcL g t m (wp ρ vs) ds S1).bind fun xs S2 => .ok (.ref S2.length) (S2 ++ [.lst xs]) else .no
theorem Rl.patch {Γ : Gm} {α : List Addr} {G H : Hp} {S : Store} (R : Rl Γ α G S H) {p : Addr} (hp : p ∉ α) (hg : G p = none) (o : HO) : Rl Γ α G S (upd H p o) := by
  have ne : ∀ a ∈ α, a ≠ p := fun a m e => by subst e; exact hp m
  refine ⟨fun a u e => ?_, R.len, R.nd, fun a m => by rw [upd_ne (ne a m)]; exact R.tr a m, fun k c a hc ha => ?_⟩
  · rw [upd_ne (fun z => by subst z; rw [hg] at e; cases e)]; exact R.sub a u e
  · exact (R.ok k c a hc ha).mono ⟨[], by simp⟩ (Sub.refl G) fun _ => ⟨upd_ne (ne a (List.mem_of_getElem? ha)), fun h => h⟩
theorem Ext.patch {α α' : List Addr} {G G' H H' : Hp} (e : Ext α G H α' G' H') {p : Addr} (hp : H p = none) (o : HO) : Ext α G H α' G' (upd H' p o) :=
  ⟨e.pre, e.sub, fun a u h m => by rw [upd_ne (ne_of_none h hp)]; exact e.fr a u h m, e.na, e.ng⟩
structure Mid (Γ : Gm) (α1 : List Addr) (G1 H1 : Hp) (p : Addr) (α : List Addr) (G : Hp) (S : Store) (H : Hp) (vs : List V) : Prop where
  ext : Ext α1 G1 H1 α G H
  rl : Rl Γ α G S H
  at_ : H p = some (.lst vs)
  na : p ∉ α
  ng : G p = none
theorem Mid.step {Γ : Gm} {α1 α α' : List Addr} {G1 H1 G H G' H' : Hp} {p : Addr} {S S' : Store} {vs : List V} (M : Mid Γ α1 G1 H1 p α G S H vs) (e : Ext α G H α' G' H') (R : Rl Γ α' G' S' H') : Mid Γ α1 G1 H1 p α' G' S' H' vs := by
  refine ⟨M.ext.trans e, R, e.fr p _ M.at_ M.na, fun m => ?_, ?_⟩
  · rcases e.na p m with z | z
    · exact M.na z
    · rw [M.at_] at z; cases z
  · cases q : G' p with
    | none => rfl
    | some o =>
      rcases e.ng p (by rw [q]; simp) with z | z | z | ⟨xs, z⟩
      · exact absurd M.ng z
      · exact absurd z M.na
      · rw [M.at_] at z; cases z
      · rw [M.at_] at z; cases z
theorem Mid.push {Γ : Gm} {α1 α : List Addr} {G1 H1 G H : Hp} {p : Addr} {S : Store} {vs : List V} (M : Mid Γ α1 G1 H1 p α G S H vs) (hp : H1 p = none) (ws : List V) : Mid Γ α1 G1 H1 p α G S (upd H p (.lst ws)) ws :=
  ⟨M.ext.patch hp _, M.rl.patch M.na M.ng _, upd_same, M.na, M.ng⟩
theorem Mid.done {Γ : Gm} {α1 α : List Addr} {G1 H1 G H : Hp} {p : Addr} {S : Store} {vs : List V} (M : Mid Γ α1 G1 H1 p α G S H vs) (hp : H1 p = none) : Rl Γ α (upd G p (.lst vs)) S H ∧ Ext α1 G1 H1 α (upd G p (.lst vs)) H := by
  have sg : Sub G (upd G p (.lst vs)) := Sub.new M.ng
  refine ⟨⟨fun a u e => ?_, M.rl.len, M.rl.nd, M.rl.tr, fun k c a hc ha => ?_⟩, ⟨M.ext.pre, M.ext.sub.trans sg, M.ext.fr, M.ext.na, fun a h => ?_⟩⟩
  · by_cases z : a = p
    · subst z; rw [upd_same] at e; cases e; exact M.at_
    · rw [upd_ne z] at e; exact M.rl.sub a u e
  · have ne : a ≠ p := fun z => by subst z; exact M.na (List.mem_of_getElem? ha)
    exact (M.rl.ok k c a hc ha).mono ⟨[], by simp⟩ sg fun _ => ⟨rfl, fun h3 => by rw [upd_ne ne]; exact h3⟩
  · by_cases z : a = p
    · subst z; exact .inr (.inr (.inl hp))
    · rw [upd_ne z] at h; exact M.ext.ng a h
theorem Mid.cell {Γ : Gm} {α1 α : List Addr} {G1 H1 G H : Hp} {p : Addr} {S : Store} {ds : List D} {vs : List V} (M : Mid Γ α1 G1 H1 p α G S H vs) (hp : H1 p = none) (r : RepL Γ α G ds vs) :
    Rl Γ (α ++ [p]) G (S ++ [.lst ds]) H ∧ Ext α1 G1 H1 (α ++ [p]) G H ∧ Rep Γ (α ++ [p]) G (.ref S.length) (.ref p) := by
  have mono : ∀ {ds vs}, RepL Γ α G ds vs → RepL Γ (α ++ [p]) G ds vs := fun {ds vs} h => RepL.mono ⟨[p], rfl⟩ (Sub.refl G) _ _ h
  refine ⟨⟨M.rl.sub, by simp [M.rl.len], ?_, fun a m => ?_, fun k c a hc ha => ?_⟩, ⟨?_, M.ext.sub, M.ext.fr, fun a m => ?_, M.ext.ng⟩, ?_⟩
  · rw [List.nodup_append]
    exact ⟨M.rl.nd, by simp, fun a m b mb => by simp at mb; subst mb; exact fun z => by subst z; exact M.na m⟩
  · rcases List.mem_append.mp m with m | m
    · exact M.rl.tr a m
    · simp at m; subst m; rw [M.at_]; simp
  · by_cases hk : k < α.length
    · rw [List.getElem?_append_left hk] at ha
      rw [List.getElem?_append_left (by rw [← M.rl.len]; exact hk)] at hc
      exact (M.rl.ok k c a hc ha).mono ⟨[p], rfl⟩ (Sub.refl G) fun _ => ⟨rfl, fun h => h⟩
    · rw [List.getElem?_append_right (by omega)] at ha
      rw [List.getElem?_append_right (by rw [← M.rl.len]; omega)] at hc
      have e1 : k - α.length = 0 := by
        have := (List.getElem?_eq_some_iff.mp ha).1
        simp at this
        omega
      have e2 : k - S.length = 0 := by rw [← M.rl.len]; exact e1
      rw [e1] at ha
      rw [e2] at hc
      simp at ha hc
      subst ha
      subst hc
      exact .mkL M.at_ (mono r) M.ng
  · obtain ⟨β, rfl⟩ := M.ext.pre
    exact ⟨β ++ [p], by simp⟩
  · rcases List.mem_append.mp m with m | m
    · exact M.ext.na a m
    · simp at m; subst m; exact .inr hp
  · unfold Rep
    exact ⟨p, rfl, by rw [← M.rl.len]; simp⟩
def PostL (Γ : Gm) (E : XK) (α1 : List Addr) (G1 H1 : Hp) (p : Addr) (acc : List D) (r : Res (List D)) (Q : VK) : Prop := match r with
  | .ok xs S' => ∀ α G H vs, Mid Γ α1 G1 H1 p α G S' H vs → RepL Γ α G (acc ++ xs) vs → Q (.ref p) H
  | .ex e S' => ∀ α G H c x, Ext α1 G1 H1 α G H → Rl Γ α G S' H → ExR Γ α G e c x H → E c x H
  | .no => False
theorem snd_lc {Γ : Gm} {wi : TI} {mi : MA} {g : TG} {mg : MG} {js vs : List Nat} {tt : TT} {te : TE} (hi : SndI Γ E wi mi) (hg : SndG Γ E g mg js) (ht : SndT Γ E tt mt) (he : SndE Γ E te m) (hj : ∀ j ∈ js, j ∈ vs) (cellQ : Bool) :
    SndE Γ E (tLc wi g tt te vs) (if cellQ then mLcC mi mg mt m vs else mLc mi mg mt m vs) := fun ρ S σ α G H Q hρ hR hp => by
  have main : ∀ ds S1 α1 G1 H1 J, Ext α G H α1 G1 H1 → Rl Γ α1 G1 S1 H1 → Steps Γ α1 G1 ds J → ds.length ≤ 100000 → ∀ p, H1 p = none → PostL Γ E α1 G1 H1 p [] (lcL mg mt m (wp ρ vs) ds S1) Q → ∃ W : Nat → Nat → Hp → Prop, (∃ m, W 0 m (upd H1 p (.lst []))) ∧ ∀ i m H, W i m H →
      (J.stop i H ∧ Q (.ref p) H) ∨ (J.go i H ∧ ∃ Nx : Hp → Prop, (∀ H', Nx H' → ∃ m', m' < m ∧ W (i + 1) m' H') ∧ ∀ x H', J.yld i H x H' → g x (wipe σ vs) H' fun σ2 H2 => wipe σ2 vs = wipe σ vs ∧ tt σ2 H2 fun b H3 =>
        if b = true then te σ2 H3 fun y H4 => ∃ acc, H4 p = some (.lst acc) ∧ acc.length < sizeLine ∧ Nx (upd H4 p (.lst (acc ++ [y]))) else Nx H3) := by
    intro ds S1 α1 G1 H1 J e1 R1 st hl p hp0 hq
    have hpa : p ∉ α1 := fun z => R1.tr p z hp0
    have hpg : G1 p = none := R1.gnone hp0
    refine ⟨fun i k H => k = ds.length - i ∧ i ≤ ds.length ∧ ∃ S2 α2 G2 acc ws, Mid Γ α1 G1 H1 p α2 G2 S2 H ws ∧ RepL Γ α2 G2 acc ws ∧ acc.length ≤ i ∧ PostL Γ E α1 G1 H1 p acc (lcL mg mt m (wp ρ vs) (ds.drop i) S2) Q,
      ⟨ds.length, by simp, Nat.zero_le _, S1, α1, G1, [], [], ⟨(Ext.refl _ _ _).patch hp0 _, R1.patch hpa hpg _, upd_same, hpa, hpg⟩, by simp [RepL], Nat.le_refl _, by simpa using hq⟩, ?_⟩
    rintro i k H2 ⟨rfl, hle, S2, α2, G2, acc, ws, M2, r2, ha2, hq2⟩
    obtain ⟨stop, go⟩ := st i α2 G2 H2 S2 M2.ext.pre M2.ext.sub M2.rl
    by_cases hlt : i < ds.length
    · have hd : ds[i]? = some ds[i] := List.getElem?_eq_getElem hlt
      obtain ⟨hgo, hy⟩ := go _ hd
      refine .inr ⟨hgo, fun H' => ∃ S2 α2 G2 acc ws, Mid Γ α1 G1 H1 p α2 G2 S2 H' ws ∧ RepL Γ α2 G2 acc ws ∧ acc.length ≤ i + 1 ∧ PostL Γ E α1 G1 H1 p acc (lcL mg mt m (wp ρ vs) (ds.drop (i + 1)) S2) Q, fun H' z => ⟨ds.length - (i + 1), by omega, rfl, hlt, z⟩, fun x H3 y3 => ?_⟩
      obtain ⟨G3, R3, e3, rx⟩ := hy x H3 y3
      have M3 := M2.step e3 R3
      rw [List.drop_eq_getElem_cons hlt] at hq2
      simp only [lcL] at hq2
      have hρ3 : EnvR Γ α2 G3 (wp ρ vs) (wipe σ vs) := by
        have := (hρ.mono e1).mono (M3.ext)
        exact this.wp vs
      refine hg ds[i] (wp ρ vs) S2 (wipe σ vs) α2 G3 H3 x _ hρ3 R3 rx ?_
      cases q4 : mg ds[i] (wp ρ vs) S2 with
      | no => rw [q4] at hq2; exact hq2.elim
      | ex e' S' =>
        rw [q4] at hq2
        exact fun α' G' H' c x e R r => hq2 α' G' H' c x (M3.ext.trans e) R r
      | ok ρ4 S4 =>
        rw [q4] at hq2
        dsimp only [Res.bind] at hq2
        intro α4 G4 H4 σ4 e4 R4 r4 ⟨l4, o4⟩
        have M4 := M3.step e4 R4
        refine ⟨wipe_same l4 o4 hj, ?_⟩
        refine ht ρ4 S4 σ4 α4 G4 H4 _ r4 R4 ?_
        cases q5 : mt ρ4 S4 with
        | no => rw [q5] at hq2; exact hq2.elim
        | ex e' S' =>
          rw [q5] at hq2
          exact fun α' G' H' c x e R r => hq2 α' G' H' c x (M4.ext.trans e) R r
        | ok b S5 =>
          rw [q5] at hq2
          dsimp only [Res.bind] at hq2
          intro α5 G5 H5 b' e5 R5 rb
          have rb : b = b' := rb
          subst rb
          have M5 := M4.step e5 R5
          have r5 : RepL Γ α5 G5 acc ws := RepL.mono e5.pre e5.sub _ _ (RepL.mono e4.pre e4.sub _ _ (RepL.mono e3.pre e3.sub _ _ r2))
          cases b with
          | false => exact iteF ⟨S5, α5, G5, acc, ws, M5, r5, by omega, hq2⟩
          | true =>
            refine iteT (he ρ4 S5 σ4 α5 G5 H5 _ (r4.mono e5) R5 ?_)
            cases q6 : m ρ4 S5 with
            | no => rw [q6] at hq2; exact hq2.elim
            | ex e' S' =>
              rw [q6] at hq2
              exact fun α' G' H' c x e R r => hq2 α' G' H' c x (M5.ext.trans e) R r
            | ok v S6 =>
              rw [q6] at hq2
              dsimp only [Res.bind] at hq2
              intro α6 G6 H6 y e6 R6 ry
              have M6 := M5.step e6 R6
              have r6 : RepL Γ α6 G6 acc ws := RepL.mono e6.pre e6.sub _ _ r5
              refine ⟨ws, M6.at_, ?_, S6, α6, G6, acc ++ [v], ws ++ [y], M6.push hp0 _, r6.append (by unfold RepL; exact ⟨y, [], rfl, ry, by simp [RepL]⟩), by simp; omega, ?_⟩
              · rw [← r6.length]
                exact Nat.lt_of_le_of_lt (by omega : acc.length ≤ 100000) (by decide)
              · cases q7 : lcL mg mt m (wp ρ vs) (ds.drop (i + 1)) S6 with
                | no => rw [q7] at hq2; exact hq2.elim
                | ex e' S' => rw [q7] at hq2; exact hq2
                | ok xs S7 =>
                  rw [q7] at hq2
                  intro α7 G7 H7 vs7 M7 r7
                  refine hq2 α7 G7 H7 vs7 M7 ?_
                  rw [List.append_assoc] at r7
                  exact r7
    · refine .inl ⟨stop (by omega), ?_⟩
      rw [List.drop_of_length_le (by omega)] at hq2
      exact hq2 α2 G2 H2 ws M2 (by simpa using r2)
  refine hi ρ S σ α G H _ hρ hR ?_
  cases cellQ with
  | false =>
    simp only [Bool.false_eq_true, if_false, mLc] at hp
    cases q : mi ρ S with
    | no => rw [q] at hp; exact hp
    | ex e S' => rw [q] at hp; exact hp
    | ok ds S1 =>
      rw [q] at hp
      intro α1 G1 H1 J e1 R1 st p hp0
      have hp := (show Post Γ (Rep Γ) α G H (if ds.length ≤ 100000 then _ else _) Q E from hp)
      split at hp
      · rename_i hl
        have hp1 := Post.mono hp e1
        refine main ds S1 α1 G1 H1 J e1 R1 st hl p hp0 ?_
        cases q2 : lcL mg mt m (wp ρ vs) ds S1 with
        | no => rw [q2] at hp1; exact hp1.elim
        | ex e S' => rw [q2] at hp1; exact hp1
        | ok xs S2 =>
          rw [q2] at hp1
          intro α2 G2 H2 ws M r
          obtain ⟨R3, e3⟩ := M.done hp0
          have r' : RepL Γ α2 (upd G2 p (.lst ws)) xs ws := RepL.mono (α := α2) ⟨[], by simp⟩ (Sub.new M.ng) xs ws (by simpa using r)
          exact hp1 α2 _ H2 (.ref p) e3 R3 (rep_lst upd_same r')
      · exact hp.elim
  | true =>
    simp only [if_true, mLcC] at hp
    cases q : mi ρ S with
    | no => rw [q] at hp; exact hp
    | ex e S' => rw [q] at hp; exact hp
    | ok ds S1 =>
      rw [q] at hp
      intro α1 G1 H1 J e1 R1 st p hp0
      have hp := (show Post Γ (Rep Γ) α G H (if ds.length ≤ 100000 then _ else _) Q E from hp)
      split at hp
      · rename_i hl
        have hp1 := Post.mono hp e1
        refine main ds S1 α1 G1 H1 J e1 R1 st hl p hp0 ?_
        cases q2 : lcL mg mt m (wp ρ vs) ds S1 with
        | no => rw [q2] at hp1; exact hp1.elim
        | ex e S' => rw [q2] at hp1; exact hp1
        | ok xs S2 =>
          rw [q2] at hp1
          intro α2 G2 H2 ws M r
          obtain ⟨R3, e3, r3⟩ := M.cell hp0 (by simpa using r)
          exact hp1 _ _ H2 (.ref p) e3 R3 r3
      · exact hp.elim
structure QTs (X : Cx) (cl : Nat → Addr) (E : XK) (ifs : List Expr) (m : MT) : Prop where
  ex : ∃ t, PTs X ifs t ∧ SndT ⟨X.K, cl⟩ E t m
def mYes : MT := fun _ S => .ok true S
theorem snd_yes {Γ : Gm} : SndT Γ E tYes mYes := fun ρ S σ α G H Q hρ hR hp => post_ok (x := true) hp hR rfl
end
section
variable {X : Cx} {cl : Nat → Addr} {E : XK} {m : ME} {mt : MT} {pos : Pos}
def tE (Γ : Gm) (E : XK) (m : ME) : TE := fun σ H Q => ∃ ρ S α G, EnvR Γ α G ρ σ ∧ Rl Γ α G S H ∧ Post Γ (Rep Γ) α G H (m ρ S) Q E
def tT (Γ : Gm) (E : XK) (m : MT) : TT := fun σ H Q => ∃ ρ S α G, EnvR Γ α G ρ σ ∧ Rl Γ α G S H ∧ Post Γ RB α G H (m ρ S) Q E
def tG (Γ : Gm) (E : XK) (mg : MG) (js : List Nat) : TG := fun v σ H Q => ∃ d ρ S α G, EnvR Γ α G ρ σ ∧ Rl Γ α G S H ∧ Rep Γ α G d v ∧ Post Γ (EnvR Γ) α G H (mg d ρ S) (fun σ' H' => σ'.length = σ.length ∧ (∀ i, i ∉ js → σ'[i]? = σ[i]?) → Q σ' H') E
theorem QE.can {e : Expr} (h : QE X cl E e m) : PE X e (tE ⟨X.K, cl⟩ E m) := by
  obtain ⟨t, h1, h2⟩ := h.ex
  exact ⟨fun pins s σ H Q I ⟨ρ, S, α, G, hρ, hR, hp⟩ => h1.run pins s σ H Q I (h2 ρ S σ α G H Q hρ hR hp)⟩
theorem QT.can {e : Expr} (h : QT X cl E e mt) : PT X e (tT ⟨X.K, cl⟩ E mt) := by
  obtain ⟨t, h1, h2⟩ := h.ex
  exact ⟨fun pins s σ H Q I ⟨ρ, S, α, G, hρ, hR, hp⟩ => h1.run pins s σ H Q I (h2 ρ S σ α G H Q hρ hR hp)⟩
theorem QG.can {e : Expr} {mg : MG} {js : List Nat} (h : QG X cl E e mg js) : PG X e (tG ⟨X.K, cl⟩ E mg js) := by
  obtain ⟨t, h1, h2⟩ := h.ex
  exact ⟨fun pins s σ H v u Q I r ⟨d, ρ, S, α, G, hρ, hR, rd, hp⟩ => h1.run pins s σ H v u Q I r (h2 d ρ S σ α G H v Q hρ hR rd hp)⟩
theorem snd_tE {Γ : Gm} : SndE Γ E (tE Γ E m) m := fun ρ S σ α G H Q hρ hR hp => ⟨ρ, S, α, G, hρ, hR, hp⟩
theorem snd_tT {Γ : Gm} : SndT Γ E (tT Γ E mt) mt := fun ρ S σ α G H Q hρ hR hp => ⟨ρ, S, α, G, hρ, hR, hp⟩
theorem snd_tG {Γ : Gm} {mg : MG} {js : List Nat} : SndG Γ E (tG Γ E mg js) mg js := fun d ρ S σ α G H v Q hρ hR rd hp => ⟨d, ρ, S, α, G, hρ, hR, rd, hp⟩
abbrev Blk (X : Cx) (scope : Scope) (s : Shared) (H : Hp) (C : Addr) (c : List (Str × Addr)) (fp : List Addr) : Cx := X.blk s H scope (compEnvC scope c C X.env) fp
variable {elt tg iter c : Expr} {scope : Scope} {mi : MA} {mg : MG} {js : List Nat}
theorem q_lc (own : List (Str × Nat)) (hi : QI X cl E tg iter mi) (hN : X.N.Nodup) (ok : BlkOk X.N X.env.scope scope own)
    (hg : ∀ (s : Shared) (H : Hp) (C : Addr) (c : List (Str × Addr)) (fp : List Addr), QG (Blk X scope s H C c fp) cl E tg mg js)
    (he : ∀ (s : Shared) (H : Hp) (C : Addr) (c : List (Str × Addr)) (fp : List Addr), QE (Blk X scope s H C c fp) cl E elt m)
    (hj : ∀ j ∈ js, j ∈ own.map (·.2) := by decide) (hc : X.calm = true := by rfl) (hs : ∀ x, foldedSetIterable iter X.env x = pure x := by intro _; rfl) :
    QE X cl E (.ListComp elt [⟨tg, iter, [], 0⟩] scope pos) (mLc mi mg mYes m (own.map (·.2))) := by
  obtain ⟨wi, h1, h2⟩ := hi.ex
  exact ⟨_, pe_lc hc hN h1 ok (fun s H C c fp => (hg s H C c fp).can) (fun _ _ _ _ _ => pts_nil) (fun s H C c fp => (he s H C c fp).can) hs, snd_lc (Γ := ⟨X.K, cl⟩) h2 snd_tG snd_yes snd_tE hj false⟩
theorem q_lcC (own : List (Str × Nat)) (hi : QI X cl E tg iter mi) (hN : X.N.Nodup) (ok : BlkOk X.N X.env.scope scope own)
    (hg : ∀ (s : Shared) (H : Hp) (C : Addr) (c : List (Str × Addr)) (fp : List Addr), QG (Blk X scope s H C c fp) cl E tg mg js)
    (he : ∀ (s : Shared) (H : Hp) (C : Addr) (c : List (Str × Addr)) (fp : List Addr), QE (Blk X scope s H C c fp) cl E elt m)
    (hj : ∀ j ∈ js, j ∈ own.map (·.2) := by decide) (hc : X.calm = true := by rfl) (hs : ∀ x, foldedSetIterable iter X.env x = pure x := by intro _; rfl) :
    QE X cl E (.ListComp elt [⟨tg, iter, [], 0⟩] scope pos) (mLcC mi mg mYes m (own.map (·.2))) := by
  obtain ⟨wi, h1, h2⟩ := hi.ex
  exact ⟨_, pe_lc hc hN h1 ok (fun s H C c fp => (hg s H C c fp).can) (fun _ _ _ _ _ => pts_nil) (fun s H C c fp => (he s H C c fp).can) hs, snd_lc (Γ := ⟨X.K, cl⟩) h2 snd_tG snd_yes snd_tE hj true⟩
theorem q_lcIf (own : List (Str × Nat)) (hi : QI X cl E tg iter mi) (hN : X.N.Nodup) (ok : BlkOk X.N X.env.scope scope own)
    (hg : ∀ (s : Shared) (H : Hp) (C : Addr) (c : List (Str × Addr)) (fp : List Addr), QG (Blk X scope s H C c fp) cl E tg mg js)
    (ht : ∀ (s : Shared) (H : Hp) (C : Addr) (c' : List (Str × Addr)) (fp : List Addr), QT (Blk X scope s H C c' fp) cl E c mt)
    (he : ∀ (s : Shared) (H : Hp) (C : Addr) (c : List (Str × Addr)) (fp : List Addr), QE (Blk X scope s H C c fp) cl E elt m)
    (hj : ∀ j ∈ js, j ∈ own.map (·.2) := by decide) (hc : X.calm = true := by rfl) (hs : ∀ x, foldedSetIterable iter X.env x = pure x := by intro _; rfl) :
    QE X cl E (.ListComp elt [⟨tg, iter, [c], 0⟩] scope pos) (mLc mi mg mt m (own.map (·.2))) := by
  obtain ⟨wi, h1, h2⟩ := hi.ex
  exact ⟨_, pe_lc hc hN h1 ok (fun s H C c fp => (hg s H C c fp).can) (fun s H C c fp => pts_one (ht s H C c fp).can) (fun s H C c fp => (he s H C c fp).can) hs, snd_lc (Γ := ⟨X.K, cl⟩) h2 snd_tG snd_tT snd_tE hj false⟩
theorem qs_setLc (i : Nat) {y : Str} {py spos : Pos} {ifs : List Expr} (own : List (Str × Nat)) (cellQ : Bool) (hi : QI X cl E tg iter mi) (hN : X.N.Nodup) (ok : BlkOk X.N X.env.scope scope own)
    (hg : ∀ (s : Shared) (H : Hp) (C : Addr) (c : List (Str × Addr)) (fp : List Addr), QG (Blk X scope s H C c fp) cl E tg mg js)
    (ht : ∀ (s : Shared) (H : Hp) (C : Addr) (c' : List (Str × Addr)) (fp : List Addr), PTs (Blk X scope s H C c' fp) ifs (tT ⟨X.K, cl⟩ E mt))
    (he : ∀ (s : Shared) (H : Hp) (C : Addr) (c : List (Str × Addr)) (fp : List Addr), QE (Blk X scope s H C c fp) cl E elt m)
    (hj : ∀ j ∈ js, j ∈ own.map (·.2) := by decide) (hy : X.N[i]? = some y := by rfl) (hyl : X.env.scope.names.lookup y = some .local := by rfl) (hc : X.calm = true := by rfl)
    (hsw : swapsWith (.ListComp elt [⟨tg, iter, ifs, 0⟩] scope pos) (some (.Name y py)) spos.line X.env = pure true := by exact sw_true rfl rfl rfl (by decide +kernel)) (hs : ∀ x, foldedSetIterable iter X.env x = pure x := by intro _; rfl) :
    QS X cl E (.Assign [.Name y py] (.ListComp elt [⟨tg, iter, ifs, 0⟩] scope pos) spos) (mAsg (if cellQ then mLcC mi mg mt m (own.map (·.2)) else mLc mi mg mt m (own.map (·.2))) (mgN i)) := by
  obtain ⟨wi, h1, h2⟩ := hi.ex
  exact ⟨_, ps_setLc hc hN hy hyl hsw h1 ok (fun s H C c fp => (hg s H C c fp).can) ht (fun s H C c fp => (he s H C c fp).can) hs, snd_asg (snd_lc (Γ := ⟨X.K, cl⟩) h2 snd_tG snd_tT snd_tE hj cellQ) (sndg_name i)⟩
theorem ts_nil : PTs X [] (tT ⟨X.K, cl⟩ E mYes) := ⟨fun pins s σ H Q I ⟨ρ, S, α, G, hρ, hR, hp⟩ => pts_nil.run pins s σ H Q I (snd_yes ρ S σ α G H Q hρ hR hp)⟩
theorem ts_one (h : QT X cl E c mt) : PTs X [c] (tT ⟨X.K, cl⟩ E mt) := pts_one h.can
end
mutual
def belowD (n : Nat) : D → Bool
  | .ref k => decide (k < n)
  | .tup xs => belowL n xs
  | .lst xs => belowL n xs
  | .fro xs => belowL n xs
  | .obj _ fs => belowL n fs
  | .exn _ fs => belowL n fs
  | .non => true
  | .bl _ => true
  | .int _ => true
  | .str _ => true
def belowL (n : Nat) : List D → Bool
  | [] => true
  | d :: ds => belowD n d && belowL n ds
end
mutual
theorem below_pure (n : Nat) : ∀ (d : D), pureD d = true → belowD n d = true
  | .non, _ => by simp [belowD]
  | .bl b, _ => by simp [belowD]
  | .int i, _ => by simp [belowD]
  | .str s, _ => by simp [belowD]
  | .tup ds, p => by simp only [belowD]; exact belowL_pure n ds (by simpa [pureD] using p)
  | .lst ds, p => by simp only [belowD]; exact belowL_pure n ds (by simpa [pureD] using p)
  | .fro ds, p => by simp only [belowD]; exact belowL_pure n ds (by simpa [pureD] using p)
  | .obj c ds, p => by simp only [belowD]; exact belowL_pure n ds (by simpa [pureD] using p)
  | .exn c ds, p => by simp only [belowD]; exact belowL_pure n ds (by simpa [pureD] using p)
  | .ref k, p => by simp [pureD] at p
theorem belowL_pure (n : Nat) : ∀ (ds : List D), pureL ds = true → belowL n ds = true
  | [], _ => by simp [belowL]
  | d :: ds, p => by
    simp only [pureL, Bool.and_eq_true] at p
    simp only [belowL, Bool.and_eq_true]
    exact ⟨below_pure n d p.1, belowL_pure n ds p.2⟩
end
mutual
theorem below_rep {Γ : Gm} {α β : List Addr} {G : Hp} : ∀ (d : D) (v : V), belowD α.length d = true → Rep Γ (α ++ β) G d v → Rep Γ α G d v
  | .non, v, _, h => by simpa [Rep] using h
  | .bl b, v, _, h => by simpa [Rep] using h
  | .int i, v, _, h => by simpa [Rep] using h
  | .str s, v, _, h => by simpa [Rep] using h
  | .tup ds, v, p, h => by
    unfold Rep at h ⊢
    obtain ⟨a, vs, e, q, r⟩ := h
    exact ⟨a, vs, e, q, belowL_rep ds vs (by simpa [belowD] using p) r⟩
  | .lst ds, v, p, h => by
    unfold Rep at h ⊢
    obtain ⟨a, vs, e, q, r⟩ := h
    exact ⟨a, vs, e, q, belowL_rep ds vs (by simpa [belowD] using p) r⟩
  | .fro ds, v, p, h => by
    unfold Rep at h ⊢
    obtain ⟨a, vs, e, q, r⟩ := h
    exact ⟨a, vs, e, q, belowL_rep ds vs (by simpa [belowD] using p) r⟩
  | .obj c ds, v, p, h => by
    unfold Rep at h ⊢
    obtain ⟨a, vs, e, q, r⟩ := h
    exact ⟨a, vs, e, q, belowL_rep ds vs (by simpa [belowD] using p) r⟩
  | .exn c ds, v, p, h => by
    unfold Rep at h ⊢
    obtain ⟨a, vs, e, q, r⟩ := h
    exact ⟨a, vs, e, q, belowL_rep ds vs (by simpa [belowD] using p) r⟩
  | .ref k, v, p, h => by
    unfold Rep at h ⊢
    obtain ⟨a, e, q⟩ := h
    have hk : k < α.length := by simpa [belowD] using p
    exact ⟨a, e, by rw [List.getElem?_append_left hk] at q; exact q⟩
theorem belowL_rep {Γ : Gm} {α β : List Addr} {G : Hp} : ∀ (ds : List D) (vs : List V), belowL α.length ds = true → RepL Γ (α ++ β) G ds vs → RepL Γ α G ds vs
  | [], vs, _, h => by simpa [RepL] using h
  | d :: ds, vs, p, h => by
    unfold RepL at h ⊢
    obtain ⟨v, r, e, h1, h2⟩ := h
    simp only [belowL, Bool.and_eq_true] at p
    exact ⟨v, r, e, below_rep d v p.1 h1, belowL_rep ds r p.2 h2⟩
end
def Cell.pure : Cell → Bool
  | .lst ds => pureL ds
  | .frz ds => pureL ds
  | .dk _ kvs => kvs.all fun p => pureD p.2
  | .dt _ kvs => kvs.all fun p => pureD p.2
  | .ob _ fs => fs.all fun o => match o with
    | some d => pureD d
    | none => true
def Cell.below (n : Nat) : Cell → Bool
  | .lst ds => belowL n ds
  | .frz ds => belowL n ds
  | .dk _ kvs => kvs.all fun p => belowD n p.2
  | .dt _ kvs => kvs.all fun p => belowD n p.2
  | .ob _ fs => fs.all fun o => match o with
    | some d => belowD n d
    | none => true
theorem Cell.below_of {c : Cell} (n : Nat) (h : c.pure = true) : c.below n = true := by
  cases c with
  | lst ds => exact belowL_pure n ds h
  | frz ds => exact belowL_pure n ds h
  | dk l kvs => exact List.all_eq_true.mpr fun p hp => below_pure n _ (List.all_eq_true.mp h p hp)
  | dt l kvs => exact List.all_eq_true.mpr fun p hp => below_pure n _ (List.all_eq_true.mp h p hp)
  | ob l fs =>
    refine List.all_eq_true.mpr fun p hp => ?_
    have := List.all_eq_true.mp h p hp
    cases p with
    | none => rfl
    | some d => exact below_pure n d this
theorem below_all {S : Store} (n : Nat) (h : S.all Cell.pure = true) : S.all (Cell.below n) = true := List.all_eq_true.mpr fun c hc => Cell.below_of n (List.all_eq_true.mp h c hc)
def fin (n : Nat) (d : D) (S : Store) : Res D := if S.length = n then .ok d S else if belowD n d && (S.take n).all (Cell.below n) then .ok d (S.take n) else .no
theorem fin_ok {n : Nat} {d : D} {S : Store} (h : n < S.length) (hd : pureD d = true) (hp : (S.take n).all Cell.pure = true) : fin n d S = .ok d (S.take n) := by
  unfold fin
  rw [if_neg (by omega), below_pure n d hd, below_all n hp]
  rfl
def endM (n : Nat) (r : Res Fl) : Res D := match r with
  | .ok (.nx _) S => fin n .non S
  | .ok (.rt d) S => fin n d S
  | _ => .no
def fnM (nN nP : Nat) (n : MS) : List D → Store → Res D := fun ds S => if ds.length = nP then endM S.length (n (ds.map some ++ List.replicate (nN - nP) none) S) else .no
theorem repKV_below {Γ : Gm} {α β : List Addr} {G : Hp} {κ : Type} : ∀ (kvs : List (κ × D)) (ws : List (κ × V)), (kvs.all fun p => belowD α.length p.2) = true → RepKV Γ (α ++ β) G kvs ws → RepKV Γ α G kvs ws
  | [], ws, _, h => by simpa [RepKV] using h
  | (k, d) :: r, ws, p, h => by
    unfold RepKV at h ⊢
    obtain ⟨v, t, e, h1, h2⟩ := h
    rw [List.all_cons, Bool.and_eq_true] at p
    exact ⟨v, t, e, below_rep d v p.1 h1, repKV_below r t p.2 h2⟩
theorem Rl.cut {Γ : Gm} {α α' : List Addr} {G H G' H' : Hp} {S S' : Store} (e : Ext α G H α' G' H') (R : Rl Γ α' G' S' H') (R0 : Rl Γ α G S H) (hp : (S'.take S.length).all (Cell.below S.length) = true) : Rl Γ α G' (S'.take S.length) H' ∧ Ext α G H α G' H' := by
  obtain ⟨β, rfl⟩ := e.pre
  have hl : S.length ≤ S'.length := by rw [← R.len, ← R0.len]; simp
  refine ⟨⟨R.sub, by rw [R0.len, List.length_take]; omega, R0.nd, fun a m => R.tr a (List.mem_append_left _ m), fun k c a hc ha => ?_⟩, ⟨⟨[], by simp⟩, e.sub, e.fr, fun a m => .inl m, e.ng⟩⟩
  have hk : k < α.length := (List.getElem?_eq_some_iff.mp ha).1
  have hc' : S'[k]? = some c := by
    rw [List.getElem?_take_of_lt (by rw [← R0.len]; exact hk)] at hc
    exact hc
  obtain ⟨o, z, w⟩ := R.ok k c a hc' (by rw [List.getElem?_append_left hk]; exact ha)
  have pc : c.below α.length = true := by rw [R0.len]; exact List.all_eq_true.mp hp c (List.mem_of_getElem? hc)
  refine ⟨o, ?_, w⟩
  cases c with
  | lst ds =>
    obtain ⟨vs, h1, h2⟩ := z
    exact ⟨vs, h1, belowL_rep ds vs pc h2⟩
  | frz ds =>
    obtain ⟨vs, h1, h2⟩ := z
    exact ⟨vs, h1, belowL_rep ds vs pc h2⟩
  | dk l kvs =>
    obtain ⟨ws, h1, h2⟩ := z
    exact ⟨ws, repKV_below kvs ws pc h1, h2⟩
  | dt l kvs =>
    obtain ⟨ws, h1, h2⟩ := z
    exact ⟨ws, repKV_below kvs ws pc h1, h2⟩
  | ob l fs =>
    obtain ⟨dx, vs, h1, h2, h3⟩ := z
    refine ⟨dx, vs, h1, h2, fun i d hd => ?_⟩
    obtain ⟨v, e1, r1⟩ := h3 i d hd
    exact ⟨v, e1, below_rep d v (List.all_eq_true.mp pc _ (List.mem_of_getElem? hd)) r1⟩
theorem fin_post {Γ : Gm} {E : XK} {α : List Addr} {G H : Hp} {S : Store} {d : D} {S' : Store} {Q : VK} (R0 : Rl Γ α G S H) (hp : Post Γ (Rep Γ) α G H (fin S.length d S') Q E) : ∀ α' G' H' v, Ext α G H α' G' H' → Rl Γ α' G' S' H' → Rep Γ α' G' d v → Q v H' := by
  intro α' G' H' v e R r
  unfold fin at hp
  split at hp
  · exact hp α' G' H' v e R r
  · split at hp
    · rename_i hc
      rw [Bool.and_eq_true] at hc
      obtain ⟨R1, e1⟩ := Rl.cut e R R0 hc.2
      obtain ⟨β, rfl⟩ := e.pre
      exact hp α G' H' v e1 R1 (below_rep d v (by rw [R0.len]; exact hc.1) r)
    · exact hp.elim
section
variable {P : Program} {w : World} {K : PySem.W.Frag} {mg : Str → Option Value} {base : Heap}
theorem envR_start {Γ : Gm} {α : List Addr} {G : Hp} {ds : List D} {vs : List V} {N : List Str} (r : RepL Γ α G ds vs) : EnvR Γ α G (ds.map some ++ List.replicate (N.length - vs.length) none) (L2.start N vs) := by
  have hl := r.length
  unfold L2.start
  refine ⟨by simp [hl], fun i d hd => ?_⟩
  by_cases hi : i < ds.length
  · rw [List.getElem?_append_left (by simpa using hi), List.getElem?_map] at hd
    cases q : ds[i]? with
    | none => simp [q] at hd
    | some e =>
      simp only [q, Option.map_some, Option.some.injEq] at hd
      subst hd
      obtain ⟨v, hv, rv⟩ := r.get q
      exact ⟨v, by rw [List.getElem?_append_left (by simpa [← hl] using hi), List.getElem?_map, hv]; rfl, rv⟩
  · rw [List.getElem?_append_right (by simpa using hi), List.getElem?_replicate] at hd
    split at hd <;> cases hd
open PySem.Spec PyProof.Rows in
theorem fn_ok {x qual : Str} {st : Stmt} {f : Addr} {fd : FuncData} {N ps : List Str} {k : Nat} {cl : Nat → Addr} (nN nP : Nat) {n : MS} (F : Fun K x qual st f fd) (S : FnScope N ps (defScope st))
    (hbody : ∀ (cdv : Value) (A : Around) (outer : List PySem.Env) (s : Shared) (H : Hp) (E : XK), Room k (A.deeper (envOfC qual (defScope st) s.heap.objs.size f cdv)) → QSs (cxOf CX0 P w K mg base N qual (defScope st) f cdv A outer s H E).nox cl E0 (defBody st) n)
    (hN : N.length = nN := by rfl) (hP : ps.length = nP := by rfl) : FnOk P w K mg base CX0 (k + 1) f fd ps (spM ⟨K, cl⟩ (fnM nN nP n)) := by
  refine F.ok S (fun vs H Q E h => ?_) (fun cdv A outer s H vs Q E hr h => ?_)
  · obtain ⟨ds, α, G, S, r, hR, hp⟩ := h
    unfold fnM at hp
    split at hp
    · rename_i e
      rw [← r.length, e, hP]
    · exact hp.elim
  · obtain ⟨ds, α, G, S', r, hR, hp⟩ := h
    obtain ⟨t, h1, h2⟩ := (hbody cdv A outer s H E hr).ex
    refine ⟨t, h1, ?_⟩
    unfold fnM at hp
    split at hp
    · rename_i e
      rw [← hN, ← hP, show ps.length = vs.length by rw [hP, ← e, r.length]] at hp
      refine h2 _ S' _ α G H _ (envR_start r) hR ?_
      revert hp
      cases n (ds.map some ++ List.replicate (N.length - vs.length) none) S' with
      | no => exact id
      | ex e S2 => exact fun hp => hp.elim
      | ok fl S2 =>
        cases fl with
        | nx ρ => exact fun hp α' G' H' σ' e R _ => fin_post hR hp α' G' H' .non e R (by simp [Rep])
        | rt d => exact fun hp α' G' H' v e R r => fin_post hR hp α' G' H' v e R r
        | bk ρ => exact fun hp => hp.elim
        | ct ρ => exact fun hp => hp.elim
    · exact hp.elim
def endC (r : Res Fl) : Res D := match r with
  | .ok (.nx _) S => .ok .non S
  | .ok (.rt d) S => .ok d S
  | _ => .no
def fnC (nN nP : Nat) (n : MS) : List D → Store → Res D := fun ds S => if ds.length = nP then endC (n (ds.map some ++ List.replicate (nN - nP) none) S) else .no
open PySem.Spec PyProof.Rows in
theorem fn_okC {x qual : Str} {st : Stmt} {f : Addr} {fd : FuncData} {N ps : List Str} {k : Nat} {cl : Nat → Addr} (nN nP : Nat) {n : MS} (F : Fun K x qual st f fd) (S : FnScope N ps (defScope st))
    (hbody : ∀ (cdv : Value) (A : Around) (outer : List PySem.Env) (s : Shared) (H : Hp) (E : XK), Room k (A.deeper (envOfC qual (defScope st) s.heap.objs.size f cdv)) → QSs (cxOf CX0 P w K mg base N qual (defScope st) f cdv A outer s H E).nox cl E0 (defBody st) n)
    (hN : N.length = nN := by rfl) (hP : ps.length = nP := by rfl) : FnOk P w K mg base CX0 (k + 1) f fd ps (spM ⟨K, cl⟩ (fnC nN nP n)) := by
  refine F.ok S (fun vs H Q E h => ?_) (fun cdv A outer s H vs Q E hr h => ?_)
  · obtain ⟨ds, α, G, S, r, hR, hp⟩ := h
    unfold fnC at hp
    split at hp
    · rename_i e
      rw [← r.length, e, hP]
    · exact hp.elim
  · obtain ⟨ds, α, G, S', r, hR, hp⟩ := h
    obtain ⟨t, h1, h2⟩ := (hbody cdv A outer s H E hr).ex
    refine ⟨t, h1, ?_⟩
    unfold fnC at hp
    split at hp
    · rename_i e
      rw [← hN, ← hP, show ps.length = vs.length by rw [hP, ← e, r.length]] at hp
      refine h2 _ S' _ α G H _ (envR_start r) hR ?_
      revert hp
      cases n (ds.map some ++ List.replicate (N.length - vs.length) none) S' with
      | no => exact id
      | ex e S2 => exact fun hp => hp.elim
      | ok fl S2 =>
        cases fl with
        | nx ρ => exact fun hp α' G' H' σ' e R _ => hp α' G' H' .non e R (by simp [Rep])
        | rt d => exact fun hp α' G' H' v e R r => hp α' G' H' v e R r
        | bk ρ => exact fun hp => hp.elim
        | ct ρ => exact fun hp => hp.elim
    · exact hp.elim
theorem fn_none {CX : CXT} {f : Addr} {fd : FuncData} {ps : List Str} {k : Nat} {cl : Nat → Addr} : FnOk P w K mg base CX k f fd ps (spM ⟨K, cl⟩ fun _ _ => .no) :=
  ⟨fun vs H Q E ⟨_, _, _, _, _, _, h⟩ => h.elim, fun A outer s H args us vs Q E _ _ _ _ ⟨_, _, _, _, _, _, h⟩ => h.elim⟩
def spLaw (K : PySem.W.Frag) : Sp := fun vs H Q _ => ∃ (a : Addr) (ns : List Int), vs = [.ref a] ∧ SqL K H a (ns.map V.int) ∧ ns.length ≤ 63 ∧ ∀ H', Q (.bl true) H'
def scriptD (ns : List Int) : D := .fro (ns.map D.int)
theorem repL_ints {Γ : Gm} {α : List Addr} {G : Hp} : ∀ ns : List Int, RepL Γ α G (ns.map D.int) (ns.map V.int)
  | [] => by simp [RepL]
  | n :: ns => by
    show RepL Γ α G (.int n :: ns.map D.int) (.int n :: ns.map V.int)
    unfold RepL
    exact ⟨.int n, _, rfl, by simp [Rep], repL_ints ns⟩
theorem law_ok {CX : CXT} {k : Nat} {f : Addr} {fd : FuncData} {ps : List Str} {cl : Nat → Addr} {g : List D → Store → Res D} (F : FnOk P w K mg base CX k f fd ps (spM ⟨K, cl⟩ g)) (h : ∀ ns : List Int, ns.length ≤ 63 → ∃ S, g [scriptD ns] [] = .ok (.bl true) S) : FnOk P w K mg base CX k f fd ps (spLaw K) :=
  F.imp fun vs H Q E ⟨a, ns, e, hs, hl, q⟩ => by
    subst e
    obtain ⟨S, hg⟩ := h ns hl
    refine ⟨[scriptD ns], [], H, [], ?_, ⟨Sub.refl H, rfl, List.nodup_nil, fun a m => (by simp at m), fun k c a h => (by simp at h)⟩, ?_⟩
    · unfold RepL
      exact ⟨.ref a, [], rfl, by unfold scriptD Rep; exact ⟨a, _, rfl, hs, repL_ints ns⟩, by simp [RepL]⟩
    · rw [hg]
      intro α' G' H' v e R r
      simp only [Rep] at r
      subst r
      exact q H'
end
end Q
namespace Q
open PySem L2
section
variable {X : Cx} {cl : Nat → Addr} {E : XK} {a b c e : Expr} {ma mb mc m : ME} {mt mu : MT} {pos : Pos}
def place {β : Type} (idx : List Nat) (xs : List β) : List β := idx.filterMap fun i => xs[i]?
theorem place_cons {β : Type} (i : Nat) (idx : List Nat) (xs : List β) : place (i :: idx) xs = match xs[i]? with
    | some x => x :: place idx xs
    | none => place idx xs := by
  unfold place
  rw [List.filterMap_cons]
  cases xs[i]? <;> rfl
theorem place_rep {Γ : Gm} {α : List Addr} {G : Hp} {ds : List D} {vs : List V} (r : RepL Γ α G ds vs) : ∀ idx : List Nat, RepL Γ α G (place idx ds) (place idx vs)
  | [] => by simp [place, RepL]
  | i :: idx => by
    rw [place_cons, place_cons]
    cases q : ds[i]? with
    | none =>
      have : vs[i]? = none := by
        rw [List.getElem?_eq_none_iff] at q ⊢
        rw [← r.length]; exact q
      rw [this]
      exact place_rep r idx
    | some d =>
      obtain ⟨v, hv, rv⟩ := r.get q
      rw [hv]
      simp only
      unfold RepL
      exact ⟨v, _, rfl, rv, place_rep r idx⟩
theorem place_vals {vs : List V} {us : List Value} (r : Vals vs us) : ∀ idx : List Nat, Vals (place idx vs) (place idx us)
  | [] => .nil
  | i :: idx => by
    rw [place_cons, place_cons]
    cases q : vs[i]? with
    | none =>
      rw [r.none_of q]
      exact place_vals r idx
    | some d =>
      obtain ⟨v, hv, rv⟩ := r.get q
      rw [hv]
      exact .cons rv (place_vals r idx)
theorem kbn {K : PySem.W.Frag} {x qual : Str} {st : Stmt} {f : Addr} {fd : FuncData} {ps ks : List Str} (F : Fun K x qual st f fd) (n : Nat) (idx : List Nat)
    (h : ∀ (kV doc pm : Value) (an : Option Addr) (cdv ct : Value) (us ws : List Value), us.length = n → ws.length = ks.length → bindArgs (PySem.W.fnOf x qual (defArgs st) (defBody st) (defScope st) .none kV doc pm an cdv ct) ⟨us, ks.zip ws⟩ = pure (ps.zip (place idx (us ++ ws)))) :
    KBn K fd ps n ks (fun us ws => place idx (us ++ ws)) (fun us ws => place idx (us ++ ws)) := by
  obtain ⟨oc, od, kV, doc, pm, an, cdv, ct, osl, rfl, lk, hcd⟩ := F.ex
  exact ⟨fun s us ws _ h1 h2 => .of_eq (h kV doc pm an cdv ct us ws h1 h2), fun r1 r2 => place_vals (r1.append r2) idx⟩
structure QK (X : Cx) (cl : Nat → Addr) (E : XK) (kws : List Keyword) (m : MA) : Prop where
  ex : ∃ t, PK X kws t ∧ SndA ⟨X.K, cl⟩ E t m
theorem qk_nil : QK X cl E [] mNil := ⟨_, pk_nil, snd_nil⟩
theorem qk_cons {kws : List Keyword} {n : MA} {nm : Option Str} {kpos : Pos} (h : QE X cl E e m) (k : QK X cl E kws n) : QK X cl E (⟨nm, e, kpos⟩ :: kws) (mCons m n) := by
  obtain ⟨t, h1, h2⟩ := h.ex
  obtain ⟨u, k1, k2⟩ := k.ex
  exact ⟨_, pk_cons h1 k1, snd_cons h2 k2⟩
def mCallK (g : List D → Store → Res D) (i j : Nat) (idx : List Nat) (n nk : MA) : ME := fun ρ S => (n ρ S).bind fun ds S1 => (nk ρ S1).bind fun zs S2 => if ds.length = i ∧ zs.length = j then g (place idx (ds ++ zs)) S2 else .no
theorem snd_callK {Γ : Gm} {sp : Sp} {E' : XK} {g : List D → Store → Res D} {i j : Nat} {idx : List Nat} {n nk : MA} {t tk : TA} (hf : SndC Γ E (fun vs H Q => sp vs H Q E') g) (h : SndA Γ E t n) (k : SndA Γ E tk nk) :
    SndE Γ E (tCallN i j sp (fun us ws => place idx (us ++ ws)) E' t tk) (mCallK g i j idx n nk) := fun ρ S σ α G H Q hρ hR hp =>
  h ρ S σ α G H _ hρ hR (post_bind hp fun ds S1 α1 G1 H1 vs _ e1 R1 r1 hp1 => k ρ S1 σ α1 G1 H1 _ (hρ.mono e1) R1 (post_bind hp1 fun zs S2 α2 G2 H2 ws _ e2 R2 r2 hp2 => by
    split at hp2
    · rename_i hl
      have r1' := RepL.mono e2.pre e2.sub _ _ r1
      exact ⟨by rw [← r1'.length]; exact hl.1, by rw [← r2.length]; exact hl.2, hf _ S2 α2 G2 H2 _ Q R2 (place_rep (r1'.append r2) idx) hp2⟩
    · exact hp2.elim))
theorem pe_callN0 {CX : CXT} {k : Nat} {f : Addr} {fd : FuncData} {ps ks : List Str} {sp : Sp} {x : Str} {p : Pos} {kws : List Keyword} {tk : TA} {g : List Value → List Value → List Value} {gV : List V → List V → List V} {E : XK} (F : FnOk X.prog X.w X.K X.mg X.base CX k f fd ps sp) (hr : Room k X.A) (hg : Gl X x) (hm : X.mg x = some (.ref f)) (hk : PySem.W.keepIn X.K (.ref f) = true) (hb : KBn X.K fd ps 0 ks g gV) (hx : Passes CX X E)
    (hkw : PK X kws tk) (hall : (backToKw pos (keywordEach kws X.env)).all (·.1.isSome) = true) (hks : (backToKw pos (keywordEach kws X.env)).filterMap (·.1) = ks)
    (hdb : (x == ("__debug__" : Str)) = false)
    (hpl : ((backTo pos (starEach [] X.env)).any (·.1) || (backToKw pos (keywordEach kws X.env)).any (·.1.isNone)) = false) :
    PE X (.Call (.Name x p) [] kws pos) (tCallN 0 ks.length sp gV E tNil tk) := by
  refine ⟨fun pins s σ H Q I h => ?_⟩
  refine wpAny_Call_Name_kw (ld_glob I hg hm ?_ hdb)
  refine PySem.W.callWith_KW0 (h₀ := X.base) I.ok.mod.kin hk hall ?_ hpl
  refine thn (hkw.run pos pins s σ H _ I h) fun ws s2 ⟨zs, H2, I2, rz, l1, l2, q2⟩ => ⟨I2.kIn, ?_⟩
  rw [hks]
  exact run_fnN F hr hb hx I2 .nil rz l1 l2 q2
theorem q_callK0 {g f : List D → Store → Res D} {k j : Nat} {idx : List Nat} {fa : Addr} {fd : FuncData} {ps ks : List Str} {x : Str} {p : Pos} {kws : List Keyword} {nk : MA} (F : FnOk X.prog X.w X.K X.mg X.base CX0 k fa fd ps (spM ⟨X.K, cl⟩ f)) (hr : Room k X.A)
    (hg : Gl X x) (hm : X.mg x = some (.ref fa)) (hk : PySem.W.keepIn X.K (.ref fa) = true) (hb : KBn X.K fd ps 0 ks (fun us ws => place idx (us ++ ws)) (fun us ws => place idx (us ++ ws))) (hkw : QK X cl E kws nk) (hf : SndC ⟨X.K, cl⟩ E (fun vs H Q => spM ⟨X.K, cl⟩ f vs H Q E0) g)
    (hall : (backToKw pos (keywordEach kws X.env)).all (·.1.isSome) = true := by rfl) (hks : (backToKw pos (keywordEach kws X.env)).filterMap (·.1) = ks := by rfl)
    (hdb : (x == ("__debug__" : Str)) = false := by decide)
    (hpl : ((backTo pos (starEach [] X.env)).any (·.1) || (backToKw pos (keywordEach kws X.env)).any (·.1.isNone)) = false := by rfl) (hj : ks.length = j := by rfl) :
    QE X cl E (.Call (.Name x p) [] kws pos) (mCallK g 0 j idx mNil nk) := by
  subst hj
  obtain ⟨u, k1, k2⟩ := hkw.ex
  exact ⟨_, pe_callN0 F hr hg hm hk hb pass0 k1 hall hks hdb hpl, snd_callK hf snd_nil k2⟩
def zipD (xs ys : List D) : List D := List.zipWith (fun x y => .tup [x, y]) xs ys
def zipItems (ds : List D) (S : Store) : Res (List D) := match ds with
  | [.tup xs, .tup ys] => .ok (zipD xs ys) S
  | [.lst xs, .lst ys] => .ok (zipD xs ys) S
  | _ => .no
def mZip (n : MA) : MA := fun ρ S => (n ρ S).bind zipItems
theorem zipD_get {xs ys : List D} {i : Nat} {d : D} (h : (zipD xs ys)[i]? = some d) : ∃ x y, xs[i]? = some x ∧ ys[i]? = some y ∧ d = .tup [x, y] := by
  unfold zipD at h
  rw [List.getElem?_zipWith] at h
  cases q1 : xs[i]? with
  | none => simp [q1] at h
  | some x =>
    cases q2 : ys[i]? with
    | none => simp [q1, q2] at h
    | some y =>
      simp only [q1, q2, Option.some.injEq] at h
      exact ⟨x, y, rfl, rfl, h.symm⟩
theorem zipD_len {xs ys : List D} {i : Nat} (h : (zipD xs ys).length ≤ i) : xs.length ≤ i ∨ ys.length ≤ i := by
  unfold zipD at h
  rw [List.length_zipWith] at h
  omega
theorem steps_zip {Γ : Gm} {α : List Addr} {G : Hp} {xs ys : List D} {a b : Addr} {vs ws : List V} (h : SqL Γ.K G a vs) (r : RepL Γ α G xs vs) (h' : SqL Γ.K G b ws) (r' : RepL Γ α G ys ws) : Steps Γ α G (zipD xs ys) (Itz Γ.K a b) := fun i α2 G2 H2 S2 hp hs R2 => by
  have q : SqL Γ.K H2 a vs := (hs.trans R2.sub).sqL h
  have q' : SqL Γ.K H2 b ws := (hs.trans R2.sub).sqL h'
  have r2 : RepL Γ α2 G2 xs vs := RepL.mono hp hs _ _ r
  have r2' : RepL Γ α2 G2 ys ws := RepL.mono hp hs _ _ r'
  refine ⟨fun hl => ⟨vs, ws, q, q', by rw [← r2.length, ← r2'.length]; exact zipD_len hl⟩, fun d hd => ?_⟩
  obtain ⟨x, y, hx, hy, rfl⟩ := zipD_get hd
  obtain ⟨v, hv, rv⟩ := r2.get hx
  obtain ⟨w, hw, rw'⟩ := r2'.get hy
  refine ⟨⟨vs, ws, v, w, q, q', hv, hw⟩, fun z H3 hz => ?_⟩
  obtain ⟨T, x', y', rfl, hT, rfl, f1, f2⟩ := hz
  have e1 := f1 vs q
  have e2 := f2 ws q'
  rw [hv] at e1
  rw [hw] at e2
  cases e1
  cases e2
  obtain ⟨R3, e3⟩ := R2.new hT (.tup [v, w])
  exact ⟨_, R3, e3, rep_tup upd_same (RepL.mono e3.pre e3.sub _ _ (by unfold RepL; exact ⟨v, [w], rfl, rv, by unfold RepL; exact ⟨w, [], rfl, rw', by simp [RepL]⟩⟩))⟩
theorem steps_zipT {Γ : Gm} {α : List Addr} {G : Hp} {xs ys : List D} {a b : Addr} {vs ws : List V} (h : SqT Γ.K G a vs) (r : RepL Γ α G xs vs) (h' : SqT Γ.K G b ws) (r' : RepL Γ α G ys ws) : Steps Γ α G (zipD xs ys) (RZ.ItzT Γ.K a b) := fun i α2 G2 H2 S2 hp hs R2 => by
  have q : SqT Γ.K H2 a vs := (hs.trans R2.sub).sqT h
  have q' : SqT Γ.K H2 b ws := (hs.trans R2.sub).sqT h'
  have r2 : RepL Γ α2 G2 xs vs := RepL.mono hp hs _ _ r
  have r2' : RepL Γ α2 G2 ys ws := RepL.mono hp hs _ _ r'
  refine ⟨fun hl => ⟨vs, ws, q, q', by rw [← r2.length, ← r2'.length]; exact zipD_len hl⟩, fun d hd => ?_⟩
  obtain ⟨x, y, hx, hy, rfl⟩ := zipD_get hd
  obtain ⟨v, hv, rv⟩ := r2.get hx
  obtain ⟨w, hw, rw'⟩ := r2'.get hy
  refine ⟨⟨vs, ws, v, w, q, q', hv, hw⟩, fun z H3 hz => ?_⟩
  obtain ⟨T, x', y', rfl, hT, rfl, f1, f2⟩ := hz
  have e1 := f1 vs q
  have e2 := f2 ws q'
  rw [hv] at e1
  rw [hw] at e2
  cases e1
  cases e2
  obtain ⟨R3, e3⟩ := R2.new hT (.tup [v, w])
  exact ⟨_, R3, e3, rep_tup upd_same (RepL.mono e3.pre e3.sub _ _ (by unfold RepL; exact ⟨v, [w], rfl, rv, by unfold RepL; exact ⟨w, [], rfl, rw', by simp [RepL]⟩⟩))⟩
theorem qi_zip {elts : List Expr} {kk : Nat} {tpos p : Pos} {n : MA} (h : QA X cl E [a, b] n) (hg : Gl X "zip") (hm : X.mg "zip" = none)
    (hs : starEach [a, b] X.env = (false, eval a X.env) :: starEach [b] X.env := by rfl) (hpl : (backTo pos (starEach [b] X.env)).any (·.1) = false := by rfl) : QI X cl E (.Tuple elts kk tpos) (.Call (.Name "zip" p) [a, b] [] pos) (mZip n) := by
  obtain ⟨t, h1, h2⟩ := h.ex
  refine ⟨_, RZ.pi_zipA hg hm h1 hs hpl, fun ρ S σ α G H R hρ hR hp => h2 ρ S σ α G H _ hρ hR (posti_bind hp fun ds S1 α1 G1 H1 vs q1 e1 R1 r1 hp1 => ?_)⟩
  clear q1
  unfold zipItems at hp1
  split at hp1
  · rename_i xs ys
    obtain ⟨v, w, rfl, rv, rw'⟩ := repL2 r1
    unfold Rep at rv rw'
    obtain ⟨p1, vs, rfl, z1, k1⟩ := rv
    obtain ⟨p2, ws, rfl, z2, k2⟩ := rw'
    exact ⟨p1, p2, vs, ws, rfl, .inr ⟨.inl (.inl (R1.sub _ _ z1)), .inl (.inl (R1.sub _ _ z2)), hp1 α1 G1 H1 _ (Ext.refl _ _ _) R1 (steps_zipT (Γ := ⟨X.K, cl⟩) (.inl (.inl z1)) k1 (.inl (.inl z2)) k2)⟩⟩
  · rename_i xs ys
    obtain ⟨v, w, rfl, rv, rw'⟩ := repL2 r1
    unfold Rep at rv rw'
    obtain ⟨p1, vs, rfl, z1, k1⟩ := rv
    obtain ⟨p2, ws, rfl, z2, k2⟩ := rw'
    exact ⟨p1, p2, vs, ws, rfl, .inl ⟨R1.sub.sqL (.inl (.inl z1)), R1.sub.sqL (.inl (.inl z2)), hp1 α1 G1 H1 _ (Ext.refl _ _ _) R1 (steps_zip (Γ := ⟨X.K, cl⟩) (.inl (.inl z1)) k1 (.inl (.inl z2)) k2)⟩⟩
  · exact hp1.elim
def enumD (k : Nat) : List D → List D
  | [] => []
  | d :: ds => .tup [.int (k : Nat), d] :: enumD (k + 1) ds
theorem enumD_len : ∀ (k : Nat) (ds : List D), (enumD k ds).length = ds.length
  | _, [] => rfl
  | k, d :: ds => by simp [enumD, enumD_len (k + 1) ds]
theorem enumD_get : ∀ {k : Nat} {ds : List D} {i : Nat} {d : D}, (enumD k ds)[i]? = some d → ∃ x, ds[i]? = some x ∧ d = .tup [.int ((k + i : Nat) : Int), x]
  | _, [], _, _, h => by simp [enumD] at h
  | k, x :: ds, 0, d, h => by simp [enumD] at h; exact ⟨x, rfl, h.symm⟩
  | k, x :: ds, i + 1, d, h => by
    simp only [enumD, List.getElem?_cons_succ] at h
    obtain ⟨y, h1, h2⟩ := enumD_get h
    exact ⟨y, by simpa using h1, by rw [h2]; congr 3; omega⟩
def mEnum (m : ME) : MA := fun ρ S => (m ρ S).bind fun d S1 => match d with
  | .lst xs => .ok (enumD 0 xs) S1
  | .fro xs => .ok (enumD 0 xs) S1
  | _ => .no
theorem steps_enum {Γ : Gm} {α : List Addr} {G : Hp} {ds : List D} {a : Addr} {vs : List V} (h : SqL Γ.K G a vs) (r : RepL Γ α G ds vs) : Steps Γ α G (enumD 0 ds) (Ite Γ.K a) := fun i α2 G2 H2 S2 hp hs R2 => by
  have q : SqL Γ.K H2 a vs := (hs.trans R2.sub).sqL h
  have r2 : RepL Γ α2 G2 ds vs := RepL.mono hp hs _ _ r
  refine ⟨fun hl => ⟨vs, q, by rw [← r2.length, ← enumD_len 0]; exact hl⟩, fun d hd => ?_⟩
  obtain ⟨x, hx, rfl⟩ := enumD_get hd
  obtain ⟨v, hv, rv⟩ := r2.get hx
  refine ⟨⟨vs, v, q, hv⟩, fun z H3 hz => ?_⟩
  obtain ⟨T, x', rfl, hT, rfl, f1⟩ := hz
  have e1 := f1 vs q
  rw [hv] at e1
  cases e1
  obtain ⟨R3, e3⟩ := R2.new hT (.tup [.int (i : Nat), v])
  exact ⟨_, R3, e3, rep_tup upd_same (RepL.mono e3.pre e3.sub _ _ (by unfold RepL; exact ⟨.int (i : Nat), [v], rfl, by simp [Rep], by unfold RepL; exact ⟨v, [], rfl, rv, by simp [RepL]⟩⟩))⟩
theorem qi_enum {elts : List Expr} {kk : Nat} {tpos p : Pos} (h : QE X cl E a m) (hg : Gl X "enumerate") (hm : X.mg "enumerate" = none) (hs : starEach [a] X.env = [(false, eval a X.env)] := by rfl) : QI X cl E (.Tuple elts kk tpos) (.Call (.Name "enumerate" p) [a] [] pos) (mEnum m) := by
  obtain ⟨t, h1, h2⟩ := h.ex
  refine ⟨_, pi_enum hg hm (pa_cons h1 pa_nil (by rw [hs]; rfl)) hs, fun ρ S σ α G H R hρ hR hp => h2 ρ S σ α G H _ hρ hR (posti_bind hp fun d S1 α1 G1 H1 v q1 e1 R1 r1 hp1 => ?_)⟩
  clear q1
  cases d <;> try exact hp1.elim
  · rename_i xs
    unfold Rep at r1
    obtain ⟨p1, vs, rfl, z1, k1⟩ := r1
    exact ⟨p1, vs, rfl, R1.sub.sqL (.inl (.inl z1)), hp1 α1 G1 H1 _ (Ext.refl _ _ _) R1 (steps_enum (Γ := ⟨X.K, cl⟩) (.inl (.inl z1)) k1)⟩
  · rename_i xs
    unfold Rep at r1
    obtain ⟨p1, vs, rfl, z1, k1⟩ := r1
    exact ⟨p1, vs, rfl, R1.sub.sqL z1, hp1 α1 G1 H1 _ (Ext.refl _ _ _) R1 (steps_enum (Γ := ⟨X.K, cl⟩) z1 k1)⟩
end
end Q
namespace Q
open PySem L2
section
variable {X : Cx} {cl : Nat → Addr} {E : XK} {e : Expr} {m : ME} {f : Str} {pos : Pos}
theorem obj_slt {G H : Hp} (s : Sub G H) {a C : Addr} {vs : List V} (h : ObAt G a C vs) : ∃ dx, SlX.Slt H a C dx (vs.map some) := by
  obtain ⟨dx, h1, h2⟩ := h
  exact ⟨dx, .inr ⟨s _ _ h1, s _ _ h2⟩⟩
end
def isObj (c : Nat) : D → Bool
  | .obj c' _ => c' == c
  | _ => false
theorem obj_at {Γ : Gm} {α : List Addr} {G H : Hp} {S : Store} {c : Nat} {d : D} {v : V} (R : Rl Γ α G S H) (h : isObj c d = true) (r : Rep Γ α G d v) : ∃ a dx vs, v = .ref a ∧ SlX.Slt H a (Γ.cl c) dx vs := by
  cases d <;> simp [isObj] at h
  subst h
  unfold Rep at r
  obtain ⟨a, vs, rfl, ho, _⟩ := r
  obtain ⟨dx, hs⟩ := obj_slt R.sub ho
  exact ⟨a, dx, _, rfl, hs⟩
section
open PySem.Spec PyProof.Rows
variable {X : Cx} {CX : CXT} {g : Addr} {C : Addr} {n : Nat} {sp : Sp} {E : XK}
def rOwnX (K : PySem.W.Frag) (C : Addr) (sp : Sp) (E : XK) : R2 := fun x y H Q => ∃ a dx vs t, x = .ref a ∧ SlX.Slt H a C dx vs ∧ TyX K H y t ∧ PySem.W.notFirst K C t = true ∧ sp [x, y] H Q E
theorem op_ownX {op : CmpOp} (hop : ∀ a b, compareOp op a b = richCompare op a b) (hs : PySem.W.findIn X.K (.ref C) (cmpInfo op).2.1 = some (some (.ref g))) (hf : PySem.W.isFn X.K (.ref g) = true) (F : FnR X.prog X.w X.K X.mg X.base CX n g sp)
    (hr : Room n X.A) (hx : Passes CX X E) : OpR X (compareOp op) (rOwnX X.K C sp E) := by
  intro pins s σ H x y v u Q I rx ry h
  obtain ⟨a, dx, vs, t, rfl, ha, ht, hn, q⟩ := h
  cases (show v = Value.ref a from rx)
  obtain ⟨sl, od, _, J, _⟩ := SlX.slt_inst I ha
  obtain ⟨P, hk, hP, _⟩ := kit_of I ry ht
  obtain ⟨m, hF⟩ := I.fr
  rw [hop]
  refine PySem.W.cmp_K (op := op) (tb := t) hr.units0 hF I.ok.mod.kin J (hk.ty _ _ I.kIn hP) hn hs hf ?_
  refine wpAny_mono (wpAny_call (run_fnR (us := [.ref a, u]) (vs := [.ref a, y]) F hr hx I (.cons rfl (.cons ry .nil)) q)) (fun w s' z => ?_) fun _ _ x => x
  obtain ⟨z', H', I', rz, qz⟩ := z
  exact SlX.cmpback rz ⟨z', H', I', rz, qz⟩
end
section
variable {X : Cx} {cl : Nat → Addr} {E : XK}
def opOwn (c : Nat) (g : List D → Store → Res D) (f : D → D → Store → Res D) : D → D → Store → Res D := fun a b S => if isObj c a then (if isObj c b || isOk S b then g [a, b] S else .no) else f a b S
theorem eqO {g fm : List D → Store → Res D} {op : CmpOp} {f : D → D → Store → Res D} {k c : Nat} {fa : Addr} (hop : ∀ a b, compareOp op a b = richCompare op a b) (hs : PySem.W.findIn X.K (.ref (cl c)) (cmpInfo op).2.1 = some (some (.ref fa))) (hff : PySem.W.isFn X.K (.ref fa) = true)
    (F : FnR X.prog X.w X.K X.mg X.base CX0 k fa (spM ⟨X.K, cl⟩ fm)) (hr : Room k X.A) (hf : SndC ⟨X.K, cl⟩ E (fun vs H Q => spM ⟨X.K, cl⟩ fm vs H Q E0) g) (hn : PySem.W.notFirst X.K (cl c) (.ref (cl c)) = true) (hn2 : ∀ (S : Store) d, isOk S d = true → PySem.W.notFirst X.K (cl c) (.type (tyN d)) = true)
    (h0 : QR X cl E (compareOp op) f) : QR X cl E (compareOp op) (opOwn c g f) := by
  obtain ⟨r, h1, h2⟩ := h0.ex
  refine ⟨_, OpR.or (SlX.op_own (C := cl c) hop hs hff F hr pass0) (OpR.or (op_ownX (C := cl c) hop hs hff F hr pass0) h1), fun a b S α G H x y Q hR ra rb h => ?_⟩
  unfold opOwn at h
  split at h
  · rename_i ha
    obtain ⟨p, dx, vs, rfl, hsl⟩ := obj_at hR ha ra
    split at h
    · rename_i hb
      have call : spM ⟨X.K, cl⟩ fm [.ref p, y] H Q E0 := hf [a, b] S α G H [.ref p, y] Q hR (by unfold RepL; exact ⟨_, _, rfl, ra, by unfold RepL; exact ⟨_, _, rfl, rb, by simp [RepL]⟩⟩) h
      cases hc : isObj c b with
      | true =>
        obtain ⟨p2, dy, ws, rfl, hsl2⟩ := obj_at hR hc rb
        exact .inl ⟨p, dx, vs, p2, cl c, dy, ws, rfl, rfl, hsl, hsl2, hn, call⟩
      | false =>
        rw [hc, Bool.false_or] at hb
        exact .inr (.inl ⟨p, dx, vs, .type (tyN b), rfl, hsl, tyx_at hR rb hb, hn2 S b hb, call⟩)
    · exact h.elim
  · exact .inr (.inr (h2 a b S α G H x y Q hR ra rb h))
end
end Q
namespace Q
open PySem L2
section
open PySem.W PySem.Calls PyProof.Rows
variable {prog : Program} {w : World} {A : Around} {E : Value → Shared → Prop} {s : Shared} {K : Frag} {x C L f : Addr} {h₀ : Heap} {m : Str → Option Value} {ox : Obj} {od : Option Obj} {b tb : Value}
structure NeC (K : Frag) (C g : Addr) : Prop where
  ne : findIn K (.ref C) "__ne__" = some (some (.builtin "object.__ne__"))
  top : mroIn K C (.type "object") = some true
  eq : findIn K (.ref C) "__eq__" = some (some (.ref g))
  fn : isFn K (.ref g) = true
end
structure StaC (K : PySem.W.Frag) (C : Addr) (m : Str) (g : Addr) : Prop where
  rd : PySem.W.readsIn K C (.type "type") = true
  ga : PySem.W.specialIn K (.ref C) "__getattribute__" = some (some (.builtin "type.__getattribute__"))
  at_ : ∃ p, PySem.W.findCls K (.ref C) (.type "type") m = some (.get (.builtin "staticmethod.__get__") (.ref p) .none (.ref C)) ∧ ∃ rest, PySem.W.recIn K p "staticmethod" = some (.ref g :: rest)
  kp : PySem.W.keepIn K (.ref g) = true
end Q
namespace Q
open PySem L2
def Res.Sat {β : Type} (r : Res β) (P : β → Store → Prop) : Prop := match r with
  | .ok a S => P a S
  | _ => False
section
variable {β γ δ : Type} {P : β → Store → Prop} {Q : γ → Store → Prop}
@[simp] theorem sat_ok (a : β) (S : Store) : (Res.ok a S).Sat P = P a S := rfl
@[simp] theorem sat_no : (Res.no : Res β).Sat P = False := rfl
@[simp] theorem sat_ex (e : Exn) (S : Store) : (Res.ex e S : Res β).Sat P = False := rfl
theorem sat_step {r : Res γ} {K : γ → Store → Res β} (h : r.Sat Q) (k : ∀ a S, Q a S → (K a S).Sat P) : (r.bind K).Sat P := by
  cases r with
  | ok a S => exact k a S h
  | ex e S => exact h.elim
  | no => exact h.elim
theorem Res.Sat.mono {r : Res β} {P' : β → Store → Prop} (h : r.Sat P) (k : ∀ a S, P a S → P' a S) : r.Sat P' := by
  cases r with
  | ok a S => exact k a S h
  | ex e S => exact h.elim
  | no => exact h.elim
theorem sat_eq {r : Res β} (h : r.Sat P) : ∃ a S, r = .ok a S ∧ P a S := by
  cases r with
  | ok a S => exact ⟨a, S, rfl, h⟩
  | ex e S => exact h.elim
  | no => exact h.elim
theorem sat_of {r : Res β} {a : β} {S : Store} (e : r = .ok a S) (h : P a S) : r.Sat P := by rw [e]; exact h
def compK (k1 : β → Store → Res γ) (k2 : γ → Store → Res δ) : β → Store → Res δ := fun a S => (k1 a S).bind k2
@[simp] theorem compK_ap (k1 : β → Store → Res γ) (k2 : γ → Store → Res δ) (a : β) (S : Store) : compK k1 k2 a S = (k1 a S).bind k2 := rfl
@[simp] theorem bind_flat (r : Res β) (k1 : β → Store → Res γ) (k2 : γ → Store → Res δ) : (r.bind k1).bind k2 = r.bind (compK k1 k2) := by cases r <;> rfl
@[simp] theorem nox_sat (r : Res β) : (nox r).Sat P = r.Sat P := by cases r <;> rfl
@[simp] theorem nox_bind_sat (r : Res γ) (K : γ → Store → Res β) : ((nox r).bind K).Sat P = (r.bind K).Sat P := by cases r <;> rfl
end
section
variable {ρ : Env} {S : Store}
def varK (o : Option (Option D)) (S : Store) : Res D := match o with | some (some d) => .ok d S | _ => .no
@[simp] theorem varK_some (d : D) : varK (some (some d)) S = .ok d S := rfl
@[simp] theorem ap_var (i : Nat) : mVar i ρ S = varK ρ[i]? S := rfl
@[simp] theorem ap_c (d : D) : mC d ρ S = .ok d S := rfl
def opK (f : D → D → Store → Res D) (mb : ME) (ρ : Env) : D → Store → Res D := fun x S1 => (mb ρ S1).bind (f x)
@[simp] theorem opK_ap (f : D → D → Store → Res D) (mb : ME) (x : D) : opK f mb ρ x S = (mb ρ S).bind (f x) := rfl
@[simp] theorem ap_op (f : D → D → Store → Res D) (ma mb : ME) : mOp f ma mb ρ S = (ma ρ S).bind (opK f mb ρ) := rfl
def tstK (d : D) (S : Store) : Res Bool := oRes (truth S d) S
@[simp] theorem tstK_ap (d : D) : tstK d S = oRes (truth S d) S := rfl
@[simp] theorem ap_test (m : ME) : mTest m ρ S = (m ρ S).bind tstK := rfl
def asB (d : D) (S : Store) : Res Bool := match d with | .bl b => .ok b S | _ => .no
@[simp] theorem asB_bl (b : Bool) : asB (.bl b) S = .ok b S := rfl
@[simp] theorem ap_tb (m : ME) : mTB m ρ S = (m ρ S).bind asB := rfl
def notK (b : Bool) (S : Store) : Res Bool := .ok (!b) S
@[simp] theorem notK_ap (b : Bool) : notK b S = .ok (!b) S := rfl
@[simp] theorem ap_notT (m : MT) : mNotT m ρ S = (m ρ S).bind notK := rfl
def br {β : Type} (b : Bool) (x y : β) : β := match b with | true => x | false => y
@[simp] theorem br_t {β : Type} (x y : β) : br true x y = x := rfl
@[simp] theorem br_f {β : Type} (x y : β) : br false x y = y := rfl
def andK (n : MT) (ρ : Env) (b : Bool) (S : Store) : Res Bool := br b (n ρ S) (.ok false S)
def orK (n : MT) (ρ : Env) (b : Bool) (S : Store) : Res Bool := br b (.ok true S) (n ρ S)
@[simp] theorem andK_t (n : MT) : andK n ρ true S = n ρ S := rfl
@[simp] theorem andK_f (n : MT) : andK n ρ false S = .ok false S := rfl
@[simp] theorem orK_t (n : MT) : orK n ρ true S = .ok true S := rfl
@[simp] theorem orK_f (n : MT) : orK n ρ false S = n ρ S := rfl
@[simp] theorem ap_andT (m n : MT) : mAndT m n ρ S = (m ρ S).bind (andK n ρ) := rfl
@[simp] theorem ap_orT (m n : MT) : mOrT m n ρ S = (m ρ S).bind (orK n ρ) := rfl
def andVK2 (n : ME) (ρ : Env) (d : D) (b : Bool) (S : Store) : Res D := br b (n ρ S) (.ok d S)
def orVK2 (n : ME) (ρ : Env) (d : D) (b : Bool) (S : Store) : Res D := br b (.ok d S) (n ρ S)
def andVK (n : ME) (ρ : Env) (d : D) (S : Store) : Res D := (oRes (truth S d) S).bind (andVK2 n ρ d)
def orVK (n : ME) (ρ : Env) (d : D) (S : Store) : Res D := (oRes (truth S d) S).bind (orVK2 n ρ d)
@[simp] theorem andVK2_t (n : ME) (d : D) : andVK2 n ρ d true S = n ρ S := rfl
@[simp] theorem andVK2_f (n : ME) (d : D) : andVK2 n ρ d false S = .ok d S := rfl
@[simp] theorem orVK2_t (n : ME) (d : D) : orVK2 n ρ d true S = .ok d S := rfl
@[simp] theorem orVK2_f (n : ME) (d : D) : orVK2 n ρ d false S = n ρ S := rfl
@[simp] theorem andVK_ap (n : ME) (d : D) : andVK n ρ d S = (oRes (truth S d) S).bind (andVK2 n ρ d) := rfl
@[simp] theorem orVK_ap (n : ME) (d : D) : orVK n ρ d S = (oRes (truth S d) S).bind (orVK2 n ρ d) := rfl
@[simp] theorem ap_andV (m n : ME) : mAndV m n ρ S = (m ρ S).bind (andVK n ρ) := rfl
@[simp] theorem ap_orV (m n : ME) : mOrV m n ρ S = (m ρ S).bind (orVK n ρ) := rfl
def notVK2 (b : Bool) (S : Store) : Res D := .ok (.bl (!b)) S
@[simp] theorem notVK2_ap (b : Bool) : notVK2 b S = .ok (.bl (!b)) S := rfl
def notVK (d : D) (S : Store) : Res D := (oRes (truth S d) S).bind notVK2
@[simp] theorem notVK_ap (d : D) : notVK d S = (oRes (truth S d) S).bind notVK2 := rfl
@[simp] theorem ap_notV (m : ME) : mNotV m ρ S = (m ρ S).bind notVK := rfl
def ifEK (m n : ME) (ρ : Env) (b : Bool) (S : Store) : Res D := br b (m ρ S) (n ρ S)
@[simp] theorem ifEK_t (m n : ME) : ifEK m n ρ true S = m ρ S := rfl
@[simp] theorem ifEK_f (m n : ME) : ifEK m n ρ false S = n ρ S := rfl
@[simp] theorem ap_ifE (t : MT) (m n : ME) : mIfE t m n ρ S = (t ρ S).bind (ifEK m n ρ) := rfl
def isNK (d : D) (S : Store) : Res D := .ok (.bl (isNon d)) S
@[simp] theorem isNK_ap (d : D) : isNK d S = .ok (.bl (isNon d)) S := rfl
@[simp] theorem ap_isN (m : ME) : mIsN m ρ S = (m ρ S).bind isNK := rfl
@[simp] theorem ap_nil : mNil ρ S = .ok [] S := rfl
def consK2 (d : D) (ds : List D) (S : Store) : Res (List D) := .ok (d :: ds) S
@[simp] theorem consK2_ap (d : D) (ds : List D) : consK2 d ds S = .ok (d :: ds) S := rfl
def consK (n : MA) (ρ : Env) (d : D) (S : Store) : Res (List D) := (n ρ S).bind (consK2 d)
@[simp] theorem consK_ap (n : MA) (d : D) : consK n ρ d S = (n ρ S).bind (consK2 d) := rfl
@[simp] theorem ap_cons (m : ME) (n : MA) : mCons m n ρ S = (m ρ S).bind (consK n ρ) := rfl
def tupK (ds : List D) (S : Store) : Res D := if ds.length ≤ 100000 then .ok (.tup ds) S else .no
def lstK (ds : List D) (S : Store) : Res D := if ds.length ≤ 100000 then .ok (.lst ds) S else .no
def cellK (ds : List D) (S : Store) : Res D := if ds.length ≤ 100000 then .ok (.ref S.length) (S ++ [.lst ds]) else .no
@[simp] theorem tupK_ap (ds : List D) : tupK ds S = if ds.length ≤ 100000 then .ok (.tup ds) S else .no := rfl
@[simp] theorem lstK_ap (ds : List D) : lstK ds S = if ds.length ≤ 100000 then .ok (.lst ds) S else .no := rfl
@[simp] theorem cellK_ap (ds : List D) : cellK ds S = if ds.length ≤ 100000 then .ok (.ref S.length) (S ++ [.lst ds]) else .no := rfl
@[simp] theorem ap_tup (n : MA) : mTup n ρ S = (n ρ S).bind tupK := rfl
@[simp] theorem ap_lst (n : MA) : mLst n ρ S = (n ρ S).bind lstK := rfl
@[simp] theorem ap_cell (n : MA) : mCell n ρ S = (n ρ S).bind cellK := rfl
@[simp] theorem ap_frz (m : ME) : mFrz m ρ S = (m ρ S).bind fz := rfl
@[simp] theorem fz_int (i : Int) : fz (.int i) S = .ok (.int i) S := rfl
@[simp] theorem fz_bl (i : Bool) : fz (.bl i) S = .ok (.bl i) S := rfl
@[simp] theorem fz_tup (i : List D) : fz (.tup i) S = .ok (.tup i) S := rfl
@[simp] theorem fz_lst (i : List D) : fz (.lst i) S = .ok (.lst i) S := rfl
@[simp] theorem fz_non : fz .non S = .ok .non S := rfl
theorem fz_ref {k : Nat} {xs : List D} (h : S[k]? = some (.lst xs)) : fz (.ref k) S = .ok (.lst xs) (S.set k (.frz xs)) := by simp [fz, h]
def slK (d : D) (lo hi : Option Int) (S : Store) : Res D := opSl d lo hi S
@[simp] theorem slK_ap (d : D) (lo hi : Option Int) : slK d lo hi S = opSl d lo hi S := rfl
def slK2 (h : MO) (ρ : Env) (d : D) (lo : Option Int) (S : Store) : Res D := (h ρ S).bind (slK d lo)
@[simp] theorem slK2_ap (h : MO) (d : D) (lo : Option Int) : slK2 h ρ d lo S = (h ρ S).bind (slK d lo) := rfl
def slK1 (l h : MO) (ρ : Env) (d : D) (S : Store) : Res D := (l ρ S).bind (slK2 h ρ d)
@[simp] theorem slK1_ap (l h : MO) (d : D) : slK1 l h ρ d S = (l ρ S).bind (slK2 h ρ d) := rfl
@[simp] theorem ap_sl (m : ME) (l h : MO) : mSl m l h ρ S = (m ρ S).bind (slK1 l h ρ) := rfl
@[simp] theorem ap_noO : mNoO ρ S = .ok none S := rfl
def asI (d : D) (S : Store) : Res (Option Int) := match d with | .int i => .ok (some i) S | _ => .no
@[simp] theorem asI_int (i : Int) : asI (.int i) S = .ok (some i) S := rfl
@[simp] theorem ap_soO (m : ME) : mSoO m ρ S = (m ρ S).bind asI := rfl
@[simp] theorem ap_call (f : List D → Store → Res D) (n : MA) : mCall f n ρ S = (n ρ S).bind f := rfl
def ckK2 (g : List D → Store → Res D) (i j : Nat) (idx : List Nat) (ds zs : List D) (S : Store) : Res D := if ds.length = i ∧ zs.length = j then g (place idx (ds ++ zs)) S else .no
@[simp] theorem ckK2_ap (g : List D → Store → Res D) (i j : Nat) (idx : List Nat) (ds zs : List D) : ckK2 g i j idx ds zs S = if ds.length = i ∧ zs.length = j then g (place idx (ds ++ zs)) S else .no := rfl
def ckK (g : List D → Store → Res D) (i j : Nat) (idx : List Nat) (nk : MA) (ρ : Env) (ds : List D) (S : Store) : Res D := (nk ρ S).bind (ckK2 g i j idx ds)
@[simp] theorem ckK_ap (g : List D → Store → Res D) (i j : Nat) (idx : List Nat) (nk : MA) (ds : List D) : ckK g i j idx nk ρ ds S = (nk ρ S).bind (ckK2 g i j idx ds) := rfl
@[simp] theorem ap_callK (g : List D → Store → Res D) (i j : Nat) (idx : List Nat) (n nk : MA) : mCallK g i j idx n nk ρ S = (n ρ S).bind (ckK g i j idx nk ρ) := rfl
def isiK (T : Ty) (d : D) (S : Store) : Res D := if isOk S d then .ok (.bl (isTy T d)) S else .no
def isiK2 (T U : Ty) (d : D) (S : Store) : Res D := if isOk S d then .ok (.bl (isTy T d || isTy U d)) S else .no
@[simp] theorem isiK_ap (T : Ty) (d : D) : isiK T d S = if isOk S d then .ok (.bl (isTy T d)) S else .no := rfl
@[simp] theorem isiK2_ap (T U : Ty) (d : D) : isiK2 T U d S = if isOk S d then .ok (.bl (isTy T d || isTy U d)) S else .no := rfl
@[simp] theorem ap_isi (T : Ty) (m : ME) : mIsi T m ρ S = (m ρ S).bind (isiK T) := rfl
@[simp] theorem ap_isi2 (T U : Ty) (m : ME) : mIsi2 T U m ρ S = (m ρ S).bind (isiK2 T U) := rfl
@[simp] theorem ap_skip : mSkip ρ S = .ok (.nx ρ) S := rfl
def seqK (n' : MS) (f : Fl) (S : Store) : Res Fl := match f with | .nx ρ1 => n' ρ1 S | f => .ok f S
@[simp] theorem seqK_nx (n' : MS) : seqK n' (.nx ρ) S = n' ρ S := rfl
@[simp] theorem seqK_rt (n' : MS) (d : D) : seqK n' (.rt d) S = .ok (.rt d) S := rfl
@[simp] theorem seqK_bk (n' : MS) : seqK n' (.bk ρ) S = .ok (.bk ρ) S := rfl
@[simp] theorem seqK_ct (n' : MS) : seqK n' (.ct ρ) S = .ok (.ct ρ) S := rfl
@[simp] theorem ap_seq (n n' : MS) : mSeq n n' ρ S = (n ρ S).bind (seqK n') := rfl
def nxK {β : Type} (ρ : Env) (_ : β) (S : Store) : Res Fl := .ok (.nx ρ) S
@[simp] theorem nxK_ap {β : Type} (d : β) : nxK ρ d S = .ok (.nx ρ) S := rfl
@[simp] theorem ap_drop (m : ME) : mDrop m ρ S = (m ρ S).bind (nxK ρ) := rfl
def rtK (d : D) (S : Store) : Res Fl := .ok (.rt d) S
@[simp] theorem rtK_ap (d : D) : rtK d S = .ok (.rt d) S := rfl
@[simp] theorem ap_ret (m : ME) : mRet m ρ S = (m ρ S).bind rtK := rfl
def ifK (n n' : MS) (ρ : Env) (b : Bool) (S : Store) : Res Fl := br b (n ρ S) (n' ρ S)
@[simp] theorem ifK_t (n n' : MS) : ifK n n' ρ true S = n ρ S := rfl
@[simp] theorem ifK_f (n n' : MS) : ifK n n' ρ false S = n' ρ S := rfl
@[simp] theorem ap_if (t : MT) (n n' : MS) : mIf t n n' ρ S = (t ρ S).bind (ifK n n' ρ) := rfl
def asgK2 (ρ1 : Env) (S : Store) : Res Fl := .ok (.nx ρ1) S
@[simp] theorem asgK2_ap (ρ1 : Env) : asgK2 ρ1 S = .ok (.nx ρ1) S := rfl
def asgK (g : MG) (ρ : Env) (d : D) (S : Store) : Res Fl := (g d ρ S).bind asgK2
@[simp] theorem asgK_ap (g : MG) (d : D) : asgK g ρ d S = (g d ρ S).bind asgK2 := rfl
@[simp] theorem ap_asg (m : ME) (g : MG) : mAsg m g ρ S = (m ρ S).bind (asgK g ρ) := rfl
@[simp] theorem ap_gN (i : Nat) (d : D) : mgN i d ρ S = .ok (ρ.set i (some d)) S := rfl
@[simp] theorem ap_gNil : mgNil [] ρ S = .ok ρ S := rfl
def gconsK (gs : MGs) (ds : List D) (ρ : Env) (S : Store) : Res Env := gs ds ρ S
@[simp] theorem gconsK_ap (gs : MGs) (ds : List D) : gconsK gs ds ρ S = gs ds ρ S := rfl
@[simp] theorem ap_gCons (g : MG) (gs : MGs) (d : D) (ds : List D) : mgCons g gs (d :: ds) ρ S = (g d ρ S).bind (gconsK gs ds) := rfl
@[simp] theorem ap_gTup (k : Nat) (gs : MGs) (ds : List D) : mgTup k gs (.tup ds) ρ S = if ds.length = k then gs ds ρ S else .no := rfl
@[simp] theorem ap_gTupL (k : Nat) (gs : MGs) (ds : List D) : mgTup k gs (.lst ds) ρ S = if ds.length = k then gs ds ρ S else .no := rfl
def okK {β γ : Type} (a : β) (_ : γ) (S : Store) : Res β := .ok a S
@[simp] theorem okK_ap {β γ : Type} (a : β) (z : γ) : okK a z S = .ok a S := rfl
def gsubK2 (ρ : Env) (d o i : D) (S : Store) : Res Env := (setIx o i d S).bind (okK ρ)
@[simp] theorem gsubK2_ap (d o i : D) : gsubK2 ρ d o i S = (setIx o i d S).bind (okK ρ) := rfl
def gsubK (mi : ME) (ρ : Env) (d o : D) (S : Store) : Res Env := (mi ρ S).bind (gsubK2 ρ d o)
@[simp] theorem gsubK_ap (mi : ME) (d o : D) : gsubK mi ρ d o S = (mi ρ S).bind (gsubK2 ρ d o) := rfl
@[simp] theorem ap_gSub (mo mi : ME) (d : D) : mgSub mo mi d ρ S = (mo ρ S).bind (gsubK mi ρ d) := rfl
def parK (i j : Nat) (ρ : Env) (ds : List D) (S : Store) : Res Fl := match ds with | [d, d'] => .ok (.nx ((ρ.set i (some d)).set j (some d'))) S | _ => .no
@[simp] theorem parK_2 (i j : Nat) (d d' : D) : parK i j ρ [d, d'] S = .ok (.nx ((ρ.set i (some d)).set j (some d'))) S := rfl
@[simp] theorem ap_par (i j : Nat) (n : MA) : mPar i j n ρ S = (n ρ S).bind (parK i j ρ) := rfl
def appK (m : ME) (ρ : Env) (o : D) (S : Store) : Res D := match o with | .ref k => if notOb S k = true then (m ρ S).bind (appTo k) else .no | _ => .no
@[simp] theorem appK_ref (m : ME) (k : Nat) (h : notOb S k = true) : appK m ρ (.ref k) S = (m ρ S).bind (appTo k) := by show (if notOb S k = true then _ else _) = _; rw [if_pos h]
theorem notOb_lst {k : Nat} {xs : List D} (h : S[k]? = some (.lst xs)) : notOb S k = true := by unfold notOb; rw [h]
@[simp] theorem notOb_0 (xs : List D) (T : Store) : notOb (.lst xs :: T) 0 = true := (Eq.refl _).trans rfl
@[simp] theorem notOb_S (c : Cell) (T : Store) (k : Nat) : notOb (c :: T) (k + 1) = notOb T k := (Eq.refl _).trans rfl
@[simp] theorem ap_app (mo m : ME) : mApp mo m ρ S = (mo ρ S).bind (appK m ρ) := rfl
theorem appTo_ok {k : Nat} {xs : List D} (d : D) (h : S[k]? = some (.lst xs)) (hl : xs.length < 100000) : appTo k d S = .ok .non (S.set k (.lst (xs ++ [d]))) := by simp [appTo, h, hl]
@[simp] theorem ap_items (m : ME) : mItems m ρ S = (m ρ S).bind itemsOf := rfl
@[simp] theorem items_tup (xs : List D) : itemsOf (.tup xs) S = .ok xs S := rfl
@[simp] theorem items_lst (xs : List D) : itemsOf (.lst xs) S = .ok xs S := rfl
@[simp] theorem items_fro (xs : List D) : itemsOf (.fro xs) S = .ok xs S := rfl
@[simp] theorem ap_zip (n : MA) : mZip n ρ S = (n ρ S).bind zipItems := rfl
@[simp] theorem zip_tup (xs ys : List D) : zipItems [.tup xs, .tup ys] S = .ok (zipD xs ys) S := rfl
@[simp] theorem zip_lst (xs ys : List D) : zipItems [.lst xs, .lst ys] S = .ok (zipD xs ys) S := rfl
def enumK (d : D) (S : Store) : Res (List D) := match d with | .lst xs => .ok (enumD 0 xs) S | .fro xs => .ok (enumD 0 xs) S | _ => .no
@[simp] theorem enumK_lst (xs : List D) : enumK (.lst xs) S = .ok (enumD 0 xs) S := rfl
@[simp] theorem enumK_fro (xs : List D) : enumK (.fro xs) S = .ok (enumD 0 xs) S := rfl
@[simp] theorem ap_enum (m : ME) : mEnum m ρ S = (m ρ S).bind enumK := rfl
def r1K (d : D) (S : Store) : Res (List D) := match d with | .int j => if j.natAbs < 2 ^ 62 then .ok (rangeD 0 j.toNat) S else .no | _ => .no
theorem r1K_int (j : Int) : r1K (.int j) S = if j.natAbs < 2 ^ 62 then .ok (rangeD 0 j.toNat) S else .no := rfl
theorem r1K_nat (j : Nat) (h : j < 2 ^ 60) : r1K (.int (j : Nat)) S = .ok (rangeD 0 j) S := by
  have h2 : (j : Int).natAbs < 2 ^ 62 := by omega
  rw [r1K_int, if_pos h2, Int.toNat_natCast]
@[simp] theorem ap_r1 (m : ME) : mRange1 m ρ S = (m ρ S).bind r1K := rfl
def r2K2 (d d' : D) (S : Store) : Res (List D) := match d, d' with
  | .int i, .int j => if i.natAbs < 2 ^ 62 ∧ j.natAbs < 2 ^ 62 then .ok (rangeD i (j - i).toNat) S else .no
  | _, _ => .no
theorem r2K2_int (i j : Int) : r2K2 (.int i) (.int j) S = if i.natAbs < 2 ^ 62 ∧ j.natAbs < 2 ^ 62 then .ok (rangeD i (j - i).toNat) S else .no := rfl
def r2K (m' : ME) (ρ : Env) (d : D) (S : Store) : Res (List D) := (m' ρ S).bind (r2K2 d)
@[simp] theorem r2K_ap (m' : ME) (d : D) : r2K m' ρ d S = (m' ρ S).bind (r2K2 d) := rfl
@[simp] theorem ap_r2 (m m' : ME) : mRange2 m m' ρ S = (m ρ S).bind (r2K m' ρ) := rfl
def forIK (g : MG) (b : MS) (ρ : Env) (ds : List D) (S : Store) : Res Fl := forL g b ds ρ S
@[simp] theorem forIK_ap (g : MG) (b : MS) (ds : List D) : forIK g b ρ ds S = forL g b ds ρ S := rfl
@[simp] theorem ap_for (mi : MA) (g : MG) (b : MS) : mFor mi g b ρ S = (mi ρ S).bind (forIK g b ρ) := rfl
def lcK2 (xs : List D) (S : Store) : Res D := .ok (.lst xs) S
@[simp] theorem lcK2_ap (xs : List D) : lcK2 xs S = .ok (.lst xs) S := rfl
def lcCK2 (xs : List D) (S : Store) : Res D := .ok (.ref S.length) (S ++ [.lst xs])
@[simp] theorem lcCK2_ap (xs : List D) : lcCK2 xs S = .ok (.ref S.length) (S ++ [.lst xs]) := rfl
def lcK (g : MG) (t : MT) (m : ME) (vs : List Nat) (ρ : Env) (ds : List D) (S : Store) : Res D := if ds.length ≤ 100000 then (lcL g t m (wp ρ vs) ds S).bind lcK2 else .no
def lcCK (g : MG) (t : MT) (m : ME) (vs : List Nat) (ρ : Env) (ds : List D) (S : Store) : Res D := if ds.length ≤ 100000 then (lcL g t m (wp ρ vs) ds S).bind lcCK2 else .no
@[simp] theorem lcK_ap (g : MG) (t : MT) (m : ME) (vs : List Nat) (ds : List D) : lcK g t m vs ρ ds S = if ds.length ≤ 100000 then (lcL g t m (wp ρ vs) ds S).bind lcK2 else .no := rfl
@[simp] theorem lcCK_ap (g : MG) (t : MT) (m : ME) (vs : List Nat) (ds : List D) : lcCK g t m vs ρ ds S = if ds.length ≤ 100000 then (lcL g t m (wp ρ vs) ds S).bind lcCK2 else .no := rfl
@[simp] theorem ap_lc (mi : MA) (g : MG) (t : MT) (m : ME) (vs : List Nat) : mLc mi g t m vs ρ S = (mi ρ S).bind (lcK g t m vs ρ) := rfl
@[simp] theorem ap_lcC (mi : MA) (g : MG) (t : MT) (m : ME) (vs : List Nat) : mLcC mi g t m vs ρ S = (mi ρ S).bind (lcCK g t m vs ρ) := rfl
@[simp] theorem ap_yes : mYes ρ S = .ok true S := rfl
@[simp] theorem wp_nil : wp ρ [] = ρ := rfl
@[simp] theorem wp_cons (v : Nat) (vs : List Nat) : wp ρ (v :: vs) = (wp ρ vs).set v none := rfl
@[simp] theorem addI_int (i j : Int) : opAddI (.int i) (.int j) S = .ok (.int (i + j)) S := rfl
@[simp] theorem add_int (i j : Int) : opAdd (.int i) (.int j) S = .ok (.int (i + j)) S := rfl
@[simp] theorem add_lst (xs ys : List D) : opAdd (.lst xs) (.lst ys) S = if xs.length + ys.length ≤ 100000 then .ok (.lst (xs ++ ys)) S else .no := rfl
@[simp] theorem add_tup (xs ys : List D) : opAdd (.tup xs) (.tup ys) S = if xs.length + ys.length ≤ 100000 then .ok (.tup (xs ++ ys)) S else .no := rfl
@[simp] theorem sub_int (i j : Int) : opSubI (.int i) (.int j) S = .ok (.int (i - j)) S := rfl
@[simp] theorem mul_intD (i j : Int) : opMul (.int i) (.int j) S = if mulOk i j = true then .ok (.int (i * j)) S else .no := by
  unfold opMul opMulI fI opRep opRepT
  by_cases h : mulOk i j = true <;> simp [h, lstOf]
@[simp] theorem div_int (i j : Int) : opDivI (.int i) (.int j) S = if divOk i j = true then .ok (.int (i / j)) S else .no := rfl
@[simp] theorem mod_int (i j : Int) : opModI (.int i) (.int j) S = if modOk i j = true then .ok (.int (i % j)) S else .no := rfl
@[simp] theorem pow_int (i j : Int) : opPowI (.int i) (.int j) S = if powOk i j = true then .ok (.int (i ^ j.toNat)) S else .no := rfl
@[simp] theorem lt_int (i j : Int) : opLt (.int i) (.int j) S = .ok (.bl (decide (i < j))) S := rfl
@[simp] theorem gt_int (i j : Int) : opGt (.int i) (.int j) S = .ok (.bl (decide (j < i))) S := rfl
@[simp] theorem ge_int (i j : Int) : opGe (.int i) (.int j) S = .ok (.bl (decide (j ≤ i))) S := rfl
@[simp] theorem eq_intD (i j : Int) : opEq (.int i) (.int j) S = .ok (.bl (decide (i = j))) S := rfl
@[simp] theorem ne_intD (i j : Int) : opNe (.int i) (.int j) S = .ok (.bl (!decide (i = j))) S := rfl
@[simp] theorem eq_blD (i j : Bool) : opEq (.bl i) (.bl j) S = .ok (.bl (decide (i = j))) S := by cases i <;> cases j <;> rfl
@[simp] theorem ne_blD (i j : Bool) : opNe (.bl i) (.bl j) S = .ok (.bl (!decide (i = j))) S := by cases i <;> cases j <;> rfl
@[simp] theorem eq_strD (i j : Str) : opEq (.str i) (.str j) S = .ok (.bl (decide (i = j))) S := rfl
@[simp] theorem ix_tupD (xs : List D) (i : Int) : opIx (.tup xs) (.int i) S = oRes (atI xs i) S := rfl
@[simp] theorem ix_lstD (xs : List D) (i : Int) : opIx (.lst xs) (.int i) S = oRes (atI xs i) S := rfl
@[simp] theorem ix_froD (xs : List D) (i : Int) : opIx (.fro xs) (.int i) S = oRes (atI xs i) S := rfl
theorem ix_refD {k : Nat} {xs : List D} (i : Int) (h : S[k]? = some (.lst xs)) : opIx (.ref k) (.int i) S = oRes (atI xs i) S := by simp [opIx, rdL, lstOf, h]
theorem atI_get {α : Type} {xs : List α} {i : Nat} {x : α} (h : xs[i]? = some x) : atI xs (i : Int) = some x := by
  have hl := (List.getElem?_eq_some_iff.mp h).1
  unfold atI ixN
  rw [if_pos (by omega), if_pos (by omega)]
  simpa using h
@[simp] theorem atI_0 {α : Type} (x : α) (xs : List α) : atI (x :: xs) 0 = some x := by
  have h : (0 : Int) < (x :: xs).length := by simp
  simp [atI, ixN]
@[simp] theorem atI_1 {α : Type} (x y : α) (xs : List α) : atI (x :: y :: xs) 1 = some y := by
  exact atI_get (i := 1) rfl
@[simp] theorem atI_2 {α : Type} (x y z : α) (xs : List α) : atI (x :: y :: z :: xs) 2 = some z := by
  exact atI_get (i := 2) rfl
@[simp] theorem sl_tupD (xs : List D) (lo hi : Option Int) : opSl (.tup xs) lo hi S = .ok (.tup (cutD xs lo hi)) S := rfl
@[simp] theorem sl_lstD (xs : List D) (lo hi : Option Int) : opSl (.lst xs) lo hi S = .ok (.lst (cutD xs lo hi)) S := rfl
@[simp] theorem sl_froD (xs : List D) (lo hi : Option Int) : opSl (.fro xs) lo hi S = .ok (.lst (cutD xs lo hi)) S := rfl
@[simp] theorem truth_bl (b : Bool) : truth S (.bl b) = some b := (Eq.refl _).trans rfl
@[simp] theorem truth_int (b : Int) : truth S (.int b) = some (b != 0) := (Eq.refl _).trans rfl
@[simp] theorem truth_non : truth S .non = some false := (Eq.refl _).trans rfl
@[simp] theorem truth_tup (xs : List D) : truth S (.tup xs) = some (!xs.isEmpty) := (Eq.refl _).trans rfl
@[simp] theorem truth_lst (xs : List D) : truth S (.lst xs) = some (!xs.isEmpty) := (Eq.refl _).trans rfl
theorem truth_ref {k : Nat} {xs : List D} (h : S[k]? = some (.lst xs)) : truth S (.ref k) = some (!xs.isEmpty) := by simp [truth, rdL, lstOf, h]
@[simp] theorem len_tup (xs : List D) : fLen [.tup xs] S = .ok (.int xs.length) S := rfl
@[simp] theorem len_lst (xs : List D) : fLen [.lst xs] S = .ok (.int xs.length) S := rfl
@[simp] theorem len_fro (xs : List D) : fLen [.fro xs] S = .ok (.int xs.length) S := rfl
@[simp] theorem abs_int (i : Int) : fAbs [.int i] S = .ok (.int (if i < 0 then -i else i)) S := rfl
@[simp] theorem int_int (i : Int) : fInt [.int i] S = .ok (.int i) S := rfl
@[simp] theorem int_bl (i : Bool) : fInt [.bl i] S = .ok (.int (if i then 1 else 0)) S := rfl
@[simp] theorem tuple_lst (xs : List D) : fTuple [.lst xs] S = .ok (.tup xs) S := rfl
@[simp] theorem tuple_tup (xs : List D) : fTuple [.tup xs] S = .ok (.tup xs) S := rfl
@[simp] theorem list_lst (xs : List D) : fList [.lst xs] S = .ok (.lst xs) S := rfl
@[simp] theorem list_tup (xs : List D) : fList [.tup xs] S = .ok (.lst xs) S := rfl
@[simp] theorem listC_lst (xs : List D) : fListC [.lst xs] S = .ok (.ref S.length) (S ++ [.lst xs]) := rfl
@[simp] theorem listC_tup (xs : List D) : fListC [.tup xs] S = .ok (.ref S.length) (S ++ [.lst xs]) := rfl
theorem all_lst {xs : List D} {bs : List Bool} (h : boolsD xs = some bs) : fAll [.lst xs] S = .ok (.bl (bs.all id)) S := by simp [fAll, onBools, un1, rdL, lstOf, h]
theorem any_lst {xs : List D} {bs : List Bool} (h : boolsD xs = some bs) : fAny [.lst xs] S = .ok (.bl (bs.any id)) S := by simp [fAny, onBools, un1, rdL, lstOf, h]
theorem sum_lst {xs : List D} {bs : List Int} (h : intsD xs = some bs) : fSum [.lst xs] S = .ok (.int bs.sum) S := by simp [fSum, onInts, un1, rdL, lstOf, h]
theorem ints_map {β : Type} (f : β → Int) (xs : List β) : intsD (xs.map fun x => D.int (f x)) = some (xs.map f) := by
  induction xs with
  | nil => rfl
  | cons x xs ih => simp [intsD, ih]
@[simp] theorem isOk_non : isOk S .non = true := (Eq.refl _).trans rfl
@[simp] theorem isOk_bl (b : Bool) : isOk S (.bl b) = true := (Eq.refl _).trans rfl
@[simp] theorem isOk_int (b : Int) : isOk S (.int b) = true := (Eq.refl _).trans rfl
@[simp] theorem isOk_str (b : Str) : isOk S (.str b) = true := (Eq.refl _).trans rfl
@[simp] theorem isOk_tup (b : List D) : isOk S (.tup b) = true := (Eq.refl _).trans rfl
@[simp] theorem isOk_lst (b : List D) : isOk S (.lst b) = true := (Eq.refl _).trans rfl
@[simp] theorem isNon_non : isNon .non = true := (Eq.refl _).trans rfl
@[simp] theorem isNon_bl (b : Bool) : isNon (.bl b) = false := (Eq.refl _).trans rfl
@[simp] theorem isNon_int (b : Int) : isNon (.int b) = false := (Eq.refl _).trans rfl
@[simp] theorem isNon_str (b : Str) : isNon (.str b) = false := (Eq.refl _).trans rfl
@[simp] theorem isNon_tup (b : List D) : isNon (.tup b) = false := (Eq.refl _).trans rfl
@[simp] theorem isNon_lst (b : List D) : isNon (.lst b) = false := (Eq.refl _).trans rfl
end
@[simp] theorem isObj_obj (c : Nat) (fs : List D) : isObj c (.obj c fs) = true := by simp [isObj]
@[simp] theorem isObj_non (c : Nat) : isObj c .non = false := (Eq.refl _).trans rfl
@[simp] theorem isObj_bl (c : Nat) (b : Bool) : isObj c (.bl b) = false := (Eq.refl _).trans rfl
@[simp] theorem isObj_int (c : Nat) (b : Int) : isObj c (.int b) = false := (Eq.refl _).trans rfl
@[simp] theorem isObj_str (c : Nat) (b : Str) : isObj c (.str b) = false := (Eq.refl _).trans rfl
@[simp] theorem isObj_tup (c : Nat) (b : List D) : isObj c (.tup b) = false := (Eq.refl _).trans rfl
@[simp] theorem isObj_lst (c : Nat) (b : List D) : isObj c (.lst b) = false := (Eq.refl _).trans rfl
@[simp] theorem isObj_ref (c : Nat) (b : Nat) : isObj c (.ref b) = false := (Eq.refl _).trans rfl
@[simp] theorem own_obj (c : Nat) (g : List D → Store → Res D) (f : D → D → Store → Res D) (fs : List D) (b : D) : opOwn c g f (.obj c fs) b S = if (isObj c b || isOk S b) = true then g [.obj c fs, b] S else .no := by
  unfold opOwn
  rw [isObj_obj, if_pos rfl]
@[simp] theorem isNon_obj (c : Nat) (b : List D) : isNon (.obj c b) = false := (Eq.refl _).trans rfl
@[simp] theorem pureD_obj (c : Nat) (b : List D) : pureD (.obj c b) = pureL b := (Eq.refl _).trans rfl
@[simp] theorem fz_obj (c : Nat) (b : List D) : fz (.obj c b) S = .ok (.obj c b) S := rfl
@[simp] theorem place_nil {β : Type} (xs : List β) : place [] xs = [] := rfl
@[simp] theorem fCall_ap (f : List D → Store → Res D) (ds : List D) (S : Store) : fCall f ds S = nox (f ds S) := rfl
theorem fPure_ap {f : List D → Store → Res D} {ds : List D} {d : D} (S : Store) (hp : pureL ds = true) (h : f ds [] = .ok d []) : fPure f ds S = .ok d S := by simp [fPure, hp, h]
@[simp] theorem pureL_nil : pureL [] = true := (Eq.refl _).trans rfl
@[simp] theorem pureL_cons (d : D) (ds : List D) : pureL (d :: ds) = (pureD d && pureL ds) := (Eq.refl _).trans rfl
@[simp] theorem pureD_non : pureD .non = true := (Eq.refl _).trans rfl
@[simp] theorem pureD_bl (b : Bool) : pureD (.bl b) = true := (Eq.refl _).trans rfl
@[simp] theorem pureD_int (b : Int) : pureD (.int b) = true := (Eq.refl _).trans rfl
@[simp] theorem pureD_str (b : Str) : pureD (.str b) = true := (Eq.refl _).trans rfl
@[simp] theorem pureD_tup (b : List D) : pureD (.tup b) = pureL b := (Eq.refl _).trans rfl
@[simp] theorem pureD_lst (b : List D) : pureD (.lst b) = pureL b := (Eq.refl _).trans rfl
@[simp] theorem pureD_fro (b : List D) : pureD (.fro b) = pureL b := (Eq.refl _).trans rfl
@[simp] theorem pureD_ref (b : Nat) : pureD (.ref b) = false := (Eq.refl _).trans rfl
theorem pureL_all {ds : List D} : pureL ds = true ↔ ∀ d ∈ ds, pureD d = true := by
  induction ds with
  | nil => simp
  | cons d ds ih => simp [ih]
@[simp] theorem fin_same {S S' : Store} {d : D} (h : S'.length = S.length) : fin S.length d S' = .ok d S' := by simp [fin, h]
theorem fin_nil {d : D} {S : Store} (h : pureD d = true) : fin 0 d S = .ok d [] := by
  unfold fin
  split
  · rename_i e
    rw [List.eq_nil_of_length_eq_zero e]
  · rw [below_pure 0 d h]; rfl
def endK (n : Nat) (f : Fl) (S : Store) : Res D := match f with
  | .nx _ => fin n .non S
  | .rt d => fin n d S
  | _ => .no
@[simp] theorem endK_nx (n : Nat) (ρ : Env) (S : Store) : endK n (.nx ρ) S = fin n .non S := rfl
@[simp] theorem endK_rt (n : Nat) (d : D) (S : Store) : endK n (.rt d) S = fin n d S := rfl
@[simp] theorem endM_nx {n : Nat} {ρ : Env} {S : Store} : endM n (.ok (.nx ρ) S) = fin n .non S := rfl
@[simp] theorem endM_rt {n : Nat} {d : D} {S : Store} : endM n (.ok (.rt d) S) = fin n d S := rfl
@[simp] theorem endC_nx {ρ : Env} {S : Store} : endC (.ok (.nx ρ) S) = .ok .non S := rfl
@[simp] theorem endC_rt {d : D} {S : Store} : endC (.ok (.rt d) S) = .ok d S := rfl
def endCK (f : Fl) (S : Store) : Res D := match f with
  | .nx _ => .ok .non S
  | .rt d => .ok d S
  | _ => .no
@[simp] theorem endCK_nx (ρ : Env) (S : Store) : endCK (.nx ρ) S = .ok .non S := rfl
@[simp] theorem endCK_rt (d : D) (S : Store) : endCK (.rt d) S = .ok d S := rfl
@[simp] theorem endM_sat {P : D → Store → Prop} (n : Nat) (r : Res Fl) : (endM n r).Sat P = (r.bind (endK n)).Sat P := by
  cases r with
  | ok f S => cases f <;> rfl
  | ex e S => rfl
  | no => rfl
@[simp] theorem endC_sat {P : D → Store → Prop} (r : Res Fl) : (endC r).Sat P = (r.bind endCK).Sat P := by
  cases r with
  | ok f S => cases f <;> rfl
  | ex e S => rfl
  | no => rfl
theorem set_get {S : Store} {k : Nat} {c c' : Cell} (h : S[k]? = some c) : (S.set k c')[k]? = some c' := List.getElem?_set_self (List.getElem?_eq_some_iff.mp h).1
def forK (k : MS) (f : Fl) (S : Store) : Res Fl := match f with
  | .nx ρ => k ρ S
  | .ct ρ => k ρ S
  | .bk ρ => .ok (.nx ρ) S
  | .rt d => .ok (.rt d) S
@[simp] theorem forK_nx (k : MS) (ρ : Env) (S : Store) : forK k (.nx ρ) S = k ρ S := rfl
@[simp] theorem forK_ct (k : MS) (ρ : Env) (S : Store) : forK k (.ct ρ) S = k ρ S := rfl
@[simp] theorem forK_bk (k : MS) (ρ : Env) (S : Store) : forK k (.bk ρ) S = .ok (.nx ρ) S := rfl
@[simp] theorem forK_rt (k : MS) (d : D) (S : Store) : forK k (.rt d) S = .ok (.rt d) S := rfl
def forBK (g : MG) (b : MS) (ds : List D) (ρ : Env) (S : Store) : Res Fl := (b ρ S).bind (forK (forL g b ds))
@[simp] theorem forBK_ap (g : MG) (b : MS) (ds : List D) (ρ : Env) (S : Store) : forBK g b ds ρ S = (b ρ S).bind (forK (forL g b ds)) := rfl
theorem forL_cons (g : MG) (b : MS) (d : D) (ds : List D) (ρ : Env) (S : Store) : forL g b (d :: ds) ρ S = (g d ρ S).bind (forBK g b ds) := rfl
theorem forL_nil (g : MG) (b : MS) (ρ : Env) (S : Store) : forL g b [] ρ S = .ok (.nx ρ) S := rfl
theorem fnM_1 {nN : Nat} {n : MS} {a : D} {S : Store} : fnM nN 1 n [a] S = endM S.length (n (some a :: List.replicate (nN - 1) none) S) := rfl
theorem fnM_2 {nN : Nat} {n : MS} {a b : D} {S : Store} : fnM nN 2 n [a, b] S = endM S.length (n (some a :: some b :: List.replicate (nN - 2) none) S) := rfl
theorem fnM_3 {nN : Nat} {n : MS} {a b c : D} {S : Store} : fnM nN 3 n [a, b, c] S = endM S.length (n (some a :: some b :: some c :: List.replicate (nN - 3) none) S) := rfl
theorem fnC_2 {nN : Nat} {n : MS} {a b : D} {S : Store} : fnC nN 2 n [a, b] S = endC (n (some a :: some b :: List.replicate (nN - 2) none) S) := rfl
theorem set_self {S : Store} {k : Nat} {c : Cell} (h : S[k]? = some c) : S.set k c = S := by
  apply List.ext_getElem?
  intro i
  by_cases e : k = i
  · subst e; rw [set_get h, h]
  · rw [List.getElem?_set_ne e]
theorem lcL_map {g : MG} {m : ME} {ρ : Env} {f : D → D} : ∀ (ds : List D) (S : Store), (∀ d ∈ ds, ∃ ρ1, g d ρ S = .ok ρ1 S ∧ m ρ1 S = .ok (f d) S) → lcL g mYes m ρ ds S = .ok (ds.map f) S
  | [], S, _ => rfl
  | d :: ds, S, h => by
    obtain ⟨ρ1, h1, h2⟩ := h d (by simp)
    unfold lcL
    rw [h1]
    simp only [bind_ok, ap_yes]
    rw [h2]
    simp only [bind_ok]
    rw [lcL_map ds S fun e he => h e (by simp [he])]
    rfl
theorem rangeD_len (lo : Int) (n : Nat) : (rangeD lo n).length = n := by simp [rangeD]
theorem rangeD_get {lo : Int} {n i : Nat} {d : D} (h : (rangeD lo n)[i]? = some d) : i < n ∧ d = .int (lo + (i : Int)) := by
  unfold rangeD at h
  rw [List.getElem?_map] at h
  cases q : (List.range n)[i]? with
  | none => simp [q] at h
  | some j =>
    simp only [q, Option.map_some, Option.some.injEq] at h
    obtain ⟨h1, h2⟩ := List.getElem?_eq_some_iff.mp q
    simp at h1 h2
    subst h2
    exact ⟨h1, h.symm⟩
@[simp] theorem fin_00 (d : D) : fin 0 d [] = .ok d [] := rfl
def Turn (I : Env → Store → Prop) (P : Fl → Store → Prop) : Fl → Store → Prop := fun f S => match f with
  | .nx ρ => I ρ S
  | .ct ρ => I ρ S
  | .bk ρ => P (.nx ρ) S
  | .rt d => P (.rt d) S
section
variable {I : Env → Store → Prop} {P : Fl → Store → Prop} {ρ : Env} {S : Store}
@[simp] theorem turn_nx : Turn I P (.nx ρ) S = I ρ S := rfl
@[simp] theorem turn_ct : Turn I P (.ct ρ) S = I ρ S := rfl
@[simp] theorem turn_bk : Turn I P (.bk ρ) S = P (.nx ρ) S := rfl
@[simp] theorem turn_rt (d : D) : Turn I P (.rt d) S = P (.rt d) S := rfl
end
theorem forL_sat {g : MG} {b : MS} {P : Fl → Store → Prop} (Inv : List D → Env → Store → Prop) (turn : ∀ d ds ρ S, Inv (d :: ds) ρ S → ∃ ρ1 S1, g d ρ S = .ok ρ1 S1 ∧ (b ρ1 S1).Sat (Turn (Inv ds) P)) (last : ∀ ρ S, Inv [] ρ S → P (.nx ρ) S) :
    ∀ (ds : List D) (ρ : Env) (S : Store), Inv ds ρ S → (forL g b ds ρ S).Sat P
  | [], ρ, S, h => last ρ S h
  | d :: ds, ρ, S, h => by
    obtain ⟨ρ1, S1, e, h1⟩ := turn d ds ρ S h
    rw [forL_cons, e, bind_ok, forBK_ap]
    refine sat_step h1 fun f S2 h2 => ?_
    cases f with
    | nx ρ2 => exact forL_sat Inv turn last ds ρ2 S2 h2
    | ct ρ2 => exact forL_sat Inv turn last ds ρ2 S2 h2
    | bk ρ2 => exact h2
    | rt d => exact h2
@[simp] theorem ap_while (fuel : Env → Store → Nat) (t : MT) (b : MS) (ρ : Env) (S : Store) : mWhile fuel t b ρ S = whileF t b (fuel ρ S) ρ S := rfl
section
variable {g : MG} {t : MT} {m : ME} {ρ0 : Env} {S : Store}
def lcB4 (v : D) (vs : List D) (S : Store) : Res (List D) := .ok (v :: vs) S
@[simp] theorem lcB4_ap (v : D) (vs : List D) : lcB4 v vs S = .ok (v :: vs) S := rfl
def lcB3 (g : MG) (t : MT) (m : ME) (ρ0 : Env) (ds : List D) (v : D) (S : Store) : Res (List D) := (lcL g t m ρ0 ds S).bind (lcB4 v)
@[simp] theorem lcB3_ap (ds : List D) (v : D) : lcB3 g t m ρ0 ds v S = (lcL g t m ρ0 ds S).bind (lcB4 v) := rfl
def lcB2 (g : MG) (t : MT) (m : ME) (ρ0 : Env) (ds : List D) (ρ1 : Env) (b : Bool) (S : Store) : Res (List D) := br b ((m ρ1 S).bind (lcB3 g t m ρ0 ds)) (lcL g t m ρ0 ds S)
@[simp] theorem lcB2_t (ds : List D) (ρ1 : Env) : lcB2 g t m ρ0 ds ρ1 true S = (m ρ1 S).bind (lcB3 g t m ρ0 ds) := rfl
@[simp] theorem lcB2_f (ds : List D) (ρ1 : Env) : lcB2 g t m ρ0 ds ρ1 false S = lcL g t m ρ0 ds S := rfl
def lcB1 (g : MG) (t : MT) (m : ME) (ρ0 : Env) (ds : List D) (ρ1 : Env) (S : Store) : Res (List D) := (t ρ1 S).bind (lcB2 g t m ρ0 ds ρ1)
@[simp] theorem lcB1_ap (ds : List D) (ρ1 : Env) : lcB1 g t m ρ0 ds ρ1 S = (t ρ1 S).bind (lcB2 g t m ρ0 ds ρ1) := rfl
theorem lcL_cons (d : D) (ds : List D) : lcL g t m ρ0 (d :: ds) S = (g d ρ0 S).bind (lcB1 g t m ρ0 ds) := by
  show (g d ρ0 S).bind _ = (g d ρ0 S).bind _
  congr 1
end
end Q
namespace Q
open PySem L2
variable {X : Cx} {cl : Nat → Addr} {E : XK}
end Q
namespace Q
open PySem L2
def snap : Nat → Store → D → D
  | 0, _, d => d
  | n + 1, S, .ref k => match S[k]? with
    | some (.lst xs) => .lst (xs.map (snap n S))
    | some (.frz xs) => .lst (xs.map (snap n S))
    | _ => .ref k
  | n + 1, S, .tup ds => .tup (ds.map (snap n S))
  | n + 1, S, .lst ds => .lst (ds.map (snap n S))
  | n + 1, S, .fro ds => .fro (ds.map (snap n S))
  | n + 1, S, .obj c fs => .obj c (fs.map (snap n S))
  | n + 1, S, .exn c fs => .exn c (fs.map (snap n S))
  | _ + 1, _, d => d
def borTK (S : Store) : Res Bool → Res Bool
  | .ok b _ => .ok b S
  | .ex e _ => .no
  | .no => .no
section
variable {Γ : Gm} {α : List Addr} {G H : Hp} {S : Store} {E : XK}
theorem repL_map {P : D → Prop} {f : D → D} (hf : ∀ d v, P d → pureD (f d) = true → Rep Γ α G d v → Rep Γ [] H (f d) v) : ∀ (ds : List D) (vs : List V), (∀ d ∈ ds, P d) → pureL (ds.map f) = true → RepL Γ α G ds vs → RepL Γ [] H (ds.map f) vs
  | [], vs, _, _, h => by simpa [RepL] using h
  | d :: ds, vs, hP, hp, h => by
    unfold RepL at h
    obtain ⟨v, r, rfl, h1, h2⟩ := h
    rw [List.map_cons] at hp ⊢
    unfold pureL at hp
    rw [Bool.and_eq_true] at hp
    unfold RepL
    exact ⟨v, r, rfl, hf d v (hP d (by simp)) hp.1 h1, repL_map hf ds r (fun d hd => hP d (by simp [hd])) hp.2 h2⟩
theorem pure_down (hs : Sub G H) (d : D) (v : V) (hp : pureD d = true) (r : Rep Γ α G d v) : Rep Γ [] H d v := by
  have r2 : Rep Γ ([] ++ α) H d v := Rep.mono ⟨[], by simp⟩ hs d v r
  exact pure_rep d v hp r2
theorem rep_down : ∀ (d : D) (v : V), pureD d = true → Sub G H → Rep Γ α G d v → Rep Γ [] H d v := fun d v hp hs r => pure_down hs d v hp r
theorem rep_snap (R : Rl Γ α G S H) : ∀ (n : Nat) (d : D) (v : V), pureD (snap n S d) = true → Rep Γ α G d v → Rep Γ [] H (snap n S d) v
  | 0, d, v, hp, r => rep_down d v hp R.sub r
  | n + 1, d, v, hp, r => by
    have L := fun ds vs hp r => repL_map (P := fun _ => True) (H := H) (fun d v _ h r => rep_snap R n d v h r) ds vs (fun _ _ => trivial) hp r
    cases d with
    | ref k =>
      unfold Rep at r
      obtain ⟨a, rfl, ha⟩ := r
      unfold snap at hp ⊢
      cases q : S[k]? with
      | none => rw [q] at hp; cases hp
      | some c =>
        have z := R.ok k c a q ha
        rw [q] at hp
        cases c with
        | lst xs =>
          obtain ⟨vs, h1, h2, _⟩ := z.lst
          unfold Rep
          exact ⟨a, vs, rfl, h1, L xs vs hp h2⟩
        | frz xs =>
          obtain ⟨vs, h1, h2⟩ := z.frz
          unfold Rep
          exact ⟨a, vs, rfl, R.sub _ _ h1, L xs vs hp h2⟩
        | _ => cases hp
    | tup ds =>
      unfold snap at hp ⊢
      unfold Rep at r ⊢
      obtain ⟨a, vs, e, q, r⟩ := r
      exact ⟨a, vs, e, R.sub _ _ q, L ds vs hp r⟩
    | lst ds =>
      unfold snap at hp ⊢
      unfold Rep at r ⊢
      obtain ⟨a, vs, e, q, r⟩ := r
      exact ⟨a, vs, e, R.sub _ _ q, L ds vs hp r⟩
    | fro ds =>
      unfold snap at hp ⊢
      unfold Rep at r ⊢
      obtain ⟨a, vs, e, q, r⟩ := r
      exact ⟨a, vs, e, R.sub.sqL q, L ds vs hp r⟩
    | obj c fs =>
      unfold snap at hp ⊢
      unfold Rep at r ⊢
      obtain ⟨a, vs, e, ⟨dx, h1, h2⟩, r⟩ := r
      exact ⟨a, vs, e, ⟨dx, R.sub _ _ h1, R.sub _ _ h2⟩, L fs vs hp r⟩
    | exn c fs =>
      unfold snap at hp ⊢
      unfold Rep at r ⊢
      obtain ⟨a, vs, e, ⟨d, h1, h2⟩, r⟩ := r
      exact ⟨a, vs, e, ⟨d, R.sub _ _ h1, h2.keep fun _ _ z => R.sub _ _ z⟩, L fs vs hp r⟩
    | non => unfold snap at hp ⊢; exact rep_down _ v hp R.sub r
    | bl b => unfold snap at hp ⊢; exact rep_down _ v hp R.sub r
    | int i => unfold snap at hp ⊢; exact rep_down _ v hp R.sub r
    | str s => unfold snap at hp ⊢; exact rep_down _ v hp R.sub r
theorem rl_bare : Rl Γ [] H [] H := ⟨Sub.refl H, rfl, List.Pairwise.nil, fun a m => by simp at m, fun k c a h _ => by simp at h⟩
theorem ext_back {α' : List Addr} {G' H' : Hp} (R : Rl Γ α G S H) (e : Ext [] H H α' G' H') : Ext α G H α G H' ∧ Rl Γ α G S H' := by
  have st : ∀ a o, H a = some o → H' a = some o := fun a o h => e.fr a o h (by simp)
  refine ⟨⟨⟨[], by simp⟩, Sub.refl G, fun a o h _ => st a o h, fun a m => .inl m, fun a h => .inl h⟩, ⟨fun a u h => st a u (R.sub a u h), R.len, R.nd, fun a m z => ?_, fun k c a hc ha => ?_⟩⟩
  · cases q : H a with
    | none => exact R.tr a m q
    | some o => rw [st a o q] at z; cases z
  · refine (R.ok k c a hc ha).mono ⟨[], by simp⟩ (Sub.refl G) fun _ => ⟨?_, fun h => h⟩
    cases q : H a with
    | none => exact absurd q (R.tr a (List.mem_of_getElem? ha))
    | some o => exact st a o q
end
section
variable {S : Store} {ρ : Env}
@[simp] theorem borTK_ok (b : Bool) (S' : Store) : borTK S (.ok b S') = .ok b S := (Eq.refl _).trans rfl
end
end Q
namespace Q
open PySem L2
def lim : Int := 1000000
def pairsOf : List D → Option (List (Int × Int))
  | [] => some []
  | .tup [.int i, .int j] :: xs => if (0 ≤ i ∧ i < lim) ∧ 0 ≤ j ∧ j < lim then (pairsOf xs).map ((i, j) :: ·) else none
  | _ :: _ => none
def plt (a b : Int × Int) : Prop := a.1 < b.1 ∨ (a.1 = b.1 ∧ a.2 < b.2)
instance (a b : Int × Int) : Decidable (plt a b) := by unfold plt; infer_instance
theorem plt_irr (a : Int × Int) : ¬ plt a a := by unfold plt; omega
theorem plt_trans {a b c : Int × Int} (h : plt a b) (h' : plt b c) : plt a c := by unfold plt at *; omega
theorem plt_tri {a b : Int × Int} (h : a ≠ b) (h' : ¬ plt a b) : plt b a := by
  unfold plt at *
  by_cases e : a.1 = b.1
  · by_cases e2 : a.2 = b.2
    · exact absurd (Prod.ext e e2) h
    · omega
  · omega
def insU (x : Int × Int) : List (Int × Int) → List (Int × Int)
  | [] => [x]
  | y :: ys => if x = y then y :: ys else if plt x y then x :: y :: ys else y :: insU x ys
def sortU : List (Int × Int) → List (Int × Int)
  | [] => []
  | x :: xs => insU x (sortU xs)
theorem mem_insU {x z : Int × Int} : ∀ {ys : List (Int × Int)}, z ∈ insU x ys ↔ z = x ∨ z ∈ ys
  | [] => by simp [insU]
  | y :: ys => by
    unfold insU
    split
    · rename_i e
      subst e
      simp
    · split
      · simp
      · simp only [List.mem_cons, mem_insU (ys := ys)]
        constructor <;> (intro h; rcases h with h | h | h <;> simp [h])
theorem mem_sortU {z : Int × Int} : ∀ {xs : List (Int × Int)}, z ∈ sortU xs ↔ z ∈ xs
  | [] => by simp [sortU]
  | x :: xs => by
    unfold sortU
    rw [mem_insU, mem_sortU, List.mem_cons]
theorem insU_up {x : Int × Int} : ∀ {ys : List (Int × Int)}, ys.Pairwise plt → (insU x ys).Pairwise plt
  | [], _ => by simp [insU]
  | y :: ys, h => by
    have h' := List.pairwise_cons.mp h
    unfold insU
    split
    · exact h
    · rename_i hne
      split
      · rename_i hlt
        refine List.pairwise_cons.mpr ⟨fun z hz => ?_, h⟩
        rcases List.mem_cons.mp hz with rfl | m
        · exact hlt
        · exact plt_trans hlt (h'.1 z m)
      · rename_i hlt
        refine List.pairwise_cons.mpr ⟨fun z hz => ?_, insU_up h'.2⟩
        rcases mem_insU.mp hz with rfl | m
        · exact plt_tri hne hlt
        · exact h'.1 z m
theorem sortU_up : ∀ xs : List (Int × Int), (sortU xs).Pairwise plt
  | [] => by simp [sortU]
  | x :: xs => insU_up (sortU_up xs)
theorem up_uniq : ∀ (xs ys : List (Int × Int)), xs.Pairwise plt → ys.Pairwise plt → (∀ z, z ∈ xs ↔ z ∈ ys) → xs = ys
  | [], [], _, _, _ => rfl
  | [], y :: ys, _, _, h => absurd ((h y).mpr (by simp)) (by simp)
  | x :: xs, [], _, _, h => absurd ((h x).mp (by simp)) (by simp)
  | x :: xs, y :: ys, hx, hy, h => by
    have hx' := List.pairwise_cons.mp hx
    have hy' := List.pairwise_cons.mp hy
    have e : x = y := by
      rcases List.mem_cons.mp ((h x).mp (by simp)) with e | m
      · exact e
      · rcases List.mem_cons.mp ((h y).mpr (by simp)) with e | m'
        · exact e.symm
        · exact absurd (plt_trans (hx'.1 y m') (hy'.1 x m)) (plt_irr x)
    subst e
    rw [up_uniq xs ys hx'.2 hy'.2 fun z => ⟨fun m => ?_, fun m => ?_⟩]
    · rcases List.mem_cons.mp ((h z).mp (by simp [m])) with e | m'
      · subst e; exact absurd (hx'.1 z m) (plt_irr z)
      · exact m'
    · rcases List.mem_cons.mp ((h z).mpr (by simp [m])) with e | m'
      · subst e; exact absurd (hy'.1 z m) (plt_irr z)
      · exact m'
def pairD (p : Int × Int) : D := .tup [.int p.1, .int p.2]
theorem pairs_at {Γ : Gm} {α : List Addr} {G : Hp} : ∀ (xs : List D) (ps : List (Int × Int)) (vs : List V), pairsOf xs = some ps → RepL Γ α G xs vs →
    ∃ ks : List (Addr × List Int), vs = ks.map (fun p => V.ref p.1) ∧ (∀ p ∈ ks, G p.1 = some (.tup (p.2.map V.int))) ∧ ks.map (·.2) = ps.map (fun p => [p.1, p.2]) ∧ ∀ p ∈ ps, (0 ≤ p.1 ∧ p.1 < lim) ∧ 0 ≤ p.2 ∧ p.2 < lim
  | [], ps, vs, h, r => by
    unfold RepL at r
    subst r
    cases h
    exact ⟨[], rfl, by simp, rfl, by simp⟩
  | x :: xs, ps, vs, h, r => by
    unfold pairsOf at h
    split at h
    · rename_i e; cases e
    · rename_i i j ys e
      cases e
      split at h
      · rename_i hb
        cases q : pairsOf xs with
        | none => rw [q] at h; cases h
        | some qs =>
          rw [q] at h
          cases h
          unfold RepL at r
          obtain ⟨v, w, rfl, r1, r2⟩ := r
          obtain ⟨ks, rfl, h1, h2, h3⟩ := pairs_at xs qs w q r2
          unfold Rep at r1
          obtain ⟨a, us, rfl, s1, t1⟩ := r1
          have e : us = [V.int i, V.int j] := by
            obtain ⟨u, u', rfl, t2, t3⟩ := repL2 t1
            simp only [Rep] at t2 t3
            rw [t2, t3]
          subst e
          refine ⟨(a, [i, j]) :: ks, rfl, fun p hp => ?_, by simp [h2], fun p hp => ?_⟩
          · rcases List.mem_cons.mp hp with rfl | m
            · exact s1
            · exact h1 p m
          · rcases List.mem_cons.mp hp with rfl | m
            · exact hb
            · exact h3 p m
      · cases h
    · cases h
def pk (l : List Int) : Int × Int := (l.headD 0, (l.drop 1).headD 0)
theorem code2 (x y : Int) : TS.code lim [x, y] = x * lim + y := by
  show x * lim ^ 1 + (y * lim ^ 0 + 0) = x * lim + y
  have e1 : lim ^ 1 = lim := by decide
  have e0 : lim ^ 0 = 1 := by decide
  rw [e1, e0, Int.mul_one, Int.add_zero]
theorem rep_pairs {Γ : Gm} {α : List Addr} {G : Hp} : ∀ (L : List (Addr × List Int)), (∀ p ∈ L, G p.1 = some (.tup (p.2.map V.int))) → (∀ p ∈ L, ∃ i j, p.2 = [i, j]) → RepL Γ α G ((L.map fun p => pk p.2).map pairD) (L.map fun p => V.ref p.1)
  | [], _, _ => by simp [RepL]
  | p :: L, h, h2 => by
    obtain ⟨i, j, e⟩ := h2 p (by simp)
    have h1 := h p (by simp)
    rw [List.map_cons, List.map_cons, List.map_cons]
    unfold RepL
    refine ⟨_, _, rfl, ?_, rep_pairs L (fun q hq => h q (by simp [hq])) fun q hq => h2 q (by simp [hq])⟩
    rw [e] at h1 ⊢
    unfold pairD Rep
    exact ⟨p.1, [V.int i, V.int j], rfl, h1, by simp [RepL, Rep, pk]⟩
section
variable {X : Cx} {cl : Nat → Addr} {E : XK} {e : Expr} {m : ME} {pos : Pos}
theorem ss_pairs {xs : List D} {ps : List (Int × Int)} {v : V} {α1 : List Addr} {G1 H1 : Hp} {S1 : Store} {Q Q2 : VK} (R1 : Rl ⟨X.K, cl⟩ α1 G1 S1 H1) (r1 : Rep ⟨X.K, cl⟩ α1 G1 (.lst xs) v) (q : pairsOf xs = some ps) (hl : ps.length < 64)
    (hp1 : Post ⟨X.K, cl⟩ (Rep ⟨X.K, cl⟩) α1 G1 H1 (.ok (.lst ((sortU ps).map pairD)) S1) Q E) (hQ : ∀ x H2, rSortedT X.K X.prog X.w [x] H2 Q → Q2 x H2) : rSetOfT X.K X.prog X.w [v] H1 Q2 := by
  unfold Rep at r1
  obtain ⟨l, vs, rfl, s1, t1⟩ := r1
  obtain ⟨ks, rfl, k1, k2, k3⟩ := pairs_at xs ps vs q t1
  have hlen : ks.length = ps.length := by have := congrArg List.length k2; simpa using this
  have two : ∀ p ∈ ks, ∃ i j, p.2 = [i, j] ∧ (i, j) ∈ ps := fun p hp => by
    have : p.2 ∈ ps.map (fun p => [p.1, p.2]) := by rw [← k2]; exact List.mem_map.mpr ⟨p, hp, rfl⟩
    obtain ⟨u, hu, e⟩ := List.mem_map.mp this
    exact ⟨u.1, u.2, e.symm, hu⟩
  refine ⟨l, ks, rfl, R1.sub.sqL (.inl (.inl s1)), fun p hp => .inl (.inl (R1.sub _ _ (k1 p hp))), by rw [hlen]; exact hl, fun a L ha hL hL2 => ?_⟩
  obtain ⟨R2, e2⟩ := R1.new ha (SetTO X.prog X.w a L)
  refine hQ _ _ ?_
  refine ⟨a, L, 2, lim, rfl, upd_same, fun p hp => .inl (.inl (R2.sub _ _ (e2.sub _ _ (k1 p (hL p hp))))), by decide, fun p hp => ?_, fun L' b pm nd hf pw hb => ?_⟩
  · obtain ⟨i, j, e, hm⟩ := two p (hL p hp)
    have b := k3 _ hm
    refine ⟨by rw [e]; rfl, fun z hz => ?_⟩
    rw [e] at hz
    simp at hz
    rcases hz with rfl | rfl
    · exact b.1
    · exact b.2
  · have two' : ∀ p ∈ L', ∃ i j, p.2 = [i, j] ∧ (i, j) ∈ ps := fun p hp => two p (hL p (pm.subset hp))
    have eM : (L'.map fun p => pk p.2) = sortU ps := by
      refine up_uniq _ _ ?_ (sortU_up ps) fun z => ?_
      · rw [List.pairwise_map]
        have nd' : L'.Pairwise fun p q => p.2 ≠ q.2 := by
          have := nd
          unfold List.Nodup at this
          rwa [List.pairwise_map] at this
        refine (pw.and nd').imp_of_mem fun {p q} hp hq hpq => ?_
        obtain ⟨i, j, ep, mp⟩ := two' p hp
        obtain ⟨i', j', eq, mq⟩ := two' q hq
        have b := k3 _ mp
        have b' := k3 _ mq
        have c := hpq.1
        have ne := hpq.2
        rw [ep, eq, code2, code2] at c
        rw [ep, eq] at ne ⊢
        show plt (i, j) (i', j')
        unfold plt
        simp only at b b' ⊢
        unfold lim at *
        by_cases e : i = i'
        · by_cases e3 : j = j'
          · exact absurd (by rw [e, e3]) ne
          · right; omega
        · left; omega
      · rw [mem_sortU]
        constructor
        · intro hz
          obtain ⟨p, hp, rfl⟩ := List.mem_map.mp hz
          obtain ⟨i, j, ep, mp⟩ := two' p hp
          rw [ep]
          exact mp
        · intro hz
          have : [z.1, z.2] ∈ ks.map (·.2) := by rw [k2]; exact List.mem_map.mpr ⟨z, hz, rfl⟩
          obtain ⟨p, hp, e⟩ := List.mem_map.mp this
          obtain ⟨p', hp', e'⟩ := List.mem_map.mp (hL2 p hp)
          exact List.mem_map.mpr ⟨p', pm.mem_iff.mpr hp', by rw [e', e]; rfl⟩
    obtain ⟨R3, e3⟩ := R2.new hb (.lst (L'.map fun q => V.ref q.1))
    refine hp1 _ _ _ _ (e2.trans e3) R3 (rep_lst upd_same ?_)
    rw [← eM]
    exact rep_pairs L' (fun p hp => e3.sub _ _ (e2.sub _ _ (k1 p (hL p (pm.subset hp))))) fun p hp => by
      obtain ⟨i, j, e, _⟩ := two' p hp
      exact ⟨i, j, e⟩
end
section
variable {S : Store} {ρ : Env}
theorem pairsOf_map : ∀ (ps : List (Int × Int)), (∀ p ∈ ps, (0 ≤ p.1 ∧ p.1 < lim) ∧ 0 ≤ p.2 ∧ p.2 < lim) → pairsOf (ps.map pairD) = some ps
  | [], _ => rfl
  | p :: ps, h => by
    rw [List.map_cons]
    unfold pairD pairsOf
    rw [if_pos (h p (by simp)), show ps.map (fun p => D.tup [.int p.1, .int p.2]) = ps.map pairD from rfl, pairsOf_map ps fun q hq => h q (by simp [hq])]
    rfl
end
end Q
namespace L2
open PySem PySem.Spec PyProof.Rows
section
variable {P : Program} {w : World} {A : Around} {E : Value → Shared → Prop} {s : Shared}
abbrev bare (w : World) : Obj := { cls := .type "set", dict := none, data := .set #[] 0 (.fresh 0 0 (!w.params.followText "set-order")) }
abbrev walker (l : Addr) : Obj := { cls := .type "list_iterator", data := .fields #[.ref l, .int 0 0] }
def Filled (w : World) (s : Shared) (ns : List Int) (s' : Shared) : Prop := ∃ h' tk c, s' = { s with heap := h', toks := tk } ∧ SetR w h' s.heap.objs.size (fun j => decide (j ∈ ns)) c ∧ c ≤ ns.length ∧ ∀ b o, s.heap.get? b = some o → h'.get? b = some o
theorem fill_list {l : Addr} {xs : Array Value} {ns : List Int} (hh : A.handled = none) (hl : s.heap.IsList l xs) (hi : IntsAre xs.toList ns) (hb : ns.length + 1 < scanBound) :
    codeAny (model P w) A (.call (.builtin "set.__init__") ⟨[.ref s.heap.objs.size, .ref l], []⟩) (wants (fun r s₂ => r = .none ∧ Filled w s ns s₂) E) { s with heap := s.heap.push (bare w) } := by
  have len : xs.size = ns.length := by simpa using IntsAre.length hi
  obtain ⟨o, ho, hc, k, hd⟩ := hl
  obtain ⟨oc, odi, oda, osl⟩ := o
  simp only at hc hd
  subst hc hd
  have lt0 : l < s.heap.objs.size := Heap.lt_size ho
  have sz : (s.heap.push (bare w)).objs.size = s.heap.objs.size + 1 := Heap.size_push ..
  have at_ : (s.heap.push (bare w)).get? l = some { cls := .type "list", dict := odi, data := .seq xs k, slots := osl } := Heap.get?_push_of_some _ ho
  have isl : (s.heap.push (bare w)).IsList l xs := ⟨_, at_, rfl, k, rfl⟩
  have ty : Shared.TypeIs { s with heap := s.heap.push (bare w) } (.ref s.heap.objs.size) "set" := ⟨_, Heap.get?_push_size _ rfl, rfl⟩
  refine codeAny_call_builtin F.called_set.init.plain F.entry_set_init (check_set_init_1 ty ?_)
  have f1 := F.sub_list_set
  have f2 := F.sub_list_frozenset
  have f3 : (Value.type "list" == Value.type "dict") = false := by decide
  unfold Builtin.«set.__init__» noKeywords Builtin.Frozenset.updateFrom
  generalize hit : pyIter = it
  wp_walk
  subst hit
  refine wpAny_pyIter_list isl (wpAny_bind (wpAny_runValue ?_))
  have away : l ≠ (s.heap.push (bare w)).objs.size := by rw [sz]; exact Nat.ne_of_lt (Nat.lt_succ_of_lt lt0)
  have away2 : s.heap.objs.size ∉ [(s.heap.push (bare w)).objs.size, l] := by simp [sz]; exact Nat.ne_of_gt lt0
  have val : ∀ (i : Nat) (v : Value), xs[i]? = some v → ∃ k t, ns[i]? = some k ∧ v = .int k t := fun i v hv => by
    have lt : i < ns.length := by have := (Array.getElem?_eq_some_iff.mp hv).1; omega
    obtain ⟨t, e⟩ := PyProof.Rows.IntsAre.int_at hi i v (by rw [Array.getElem?_toList]; exact hv)
    exact ⟨ns[i], t, List.getElem?_eq_getElem lt, by rw [e, List.getD_eq_getElem?_getD, List.getElem?_eq_getElem lt]; rfl⟩
  have g0 : ((s.heap.push (bare w)).push (walker l)).get? s.heap.objs.size = some (bare w) := Heap.get?_push_of_some _ (Heap.get?_push_size _ rfl)
  refine set_update_ints ((Walks.list (by simp [hh]) _ l away xs).toS) s.heap.objs.size away2 ns len hb val (xs.size - 0) 0 _ (by omega) (Nat.zero_le _) ⟨⟨_, Heap.get?_push_size _ rfl, rfl, rfl⟩, isl.push _⟩ ⟨0, Nat.le_refl 0, setR_new_at g0⟩ fun s' c hm hc hs => ?_
  obtain ⟨h', g', d', tk', os'⟩ := s'
  obtain rfl : g' = s.gens := hm.gens
  obtain rfl : d' = s.drawn := hm.drawn
  obtain rfl : os' = s.os := hm.os
  show wpAny _ _ _ _ _ _
  refine wpAny_pure ?_
  show wpAny _ _ (ret Value.none) _ _ _
  refine wpAny_pure ⟨rfl, h', tk', c, rfl, hs, by omega, fun b o e => ?_⟩
  have lb := Heap.lt_size e
  exact hm.heap b o (by simp [sz]; exact ⟨Nat.ne_of_lt lb, Nat.ne_of_lt (Nat.lt_succ_of_lt lb)⟩) (Heap.get?_push_of_some _ (Heap.get?_push_of_some _ e))
theorem set_ofL {l : Addr} {xs : Array Value} {ns : List Int} {Q : Value → Shared → Prop} (hh : A.handled = none) (hl : s.heap.IsList l xs) (hi : IntsAre xs.toList ns) (hb : ns.length + 1 < scanBound) (q : ∀ s', Filled w s ns s' → Q (.ref s.heap.objs.size) s') :
    wpAny (model P w) A (call (.type "set") [.ref l]) Q E s := by
  obtain ⟨c, tl, mro⟩ := F.called_set.mro
  have m1 := F.called_set.made
  have m2 := F.called_set.sub
  have m3 := F.called_set.notType
  have m4 := F.called_set.canCreate
  have m5 := F.typeCall_set_1 (.ref l)
  refine wpAny_call (codeAny_of_tree ?_)
  show wpAny _ _ (callAny (.type "set") _) _ _ _
  refine wpAny_pure ⟨Code.quiet_builtin _ (by decide +kernel), codeAny_builtin F.entry_type_call ?_⟩
  rw [Around.under_plain (weight_type_call_type "set" [.ref l] []) rfl]
  repeat (any_goals (first | assumption | wp_step))
  refine codeAny_mono (code_set_led1 (.ref l) (E := E) (Q₁ := fun o t => o = .ref s.heap.objs.size ∧ t = { s with heap := s.heap.push (bare w) }) ⟨rfl, rfl⟩) fun r t hr => ?_
  cases r with
  | error e => exact hr
  | ok fl =>
    cases fl with
    | ret obj =>
      obtain ⟨rfl, rfl⟩ := hr
      have i1 := F.called_set.init.lookup
      have i2 := F.called_set.init.bind (.ref s.heap.objs.size)
      have is : Shared.TypeIs { s with heap := s.heap.push (bare w) } (.ref s.heap.objs.size) "set" := ⟨_, Heap.get?_push_size _ rfl, rfl⟩
      repeat (any_goals (first | assumption | wp_step))
      refine codeAny_mono (fill_list (P := P) (E := E) (by simp [hh]) hl hi hb) fun r2 s2 hr2 => ?_
      cases r2 with
      | error e => exact hr2
      | ok fl2 =>
        cases fl2 with
        | ret r =>
          obtain ⟨rfl, hf⟩ := hr2
          repeat (any_goals (first | assumption | wp_step))
          exact q _ hf
        | _ => exact hr2.elim
    | _ => exact hr.elim
end
section
variable {X : Cx}
def rSetOfL (K : PySem.W.Frag) (w : World) : List V → Hp → VK → Prop := fun vs H Q => ∃ (l : Addr) (ns : List Int), vs = [V.ref l] ∧ SqL K H l (ns.map V.int) ∧ ns.length + 1 < scanBound ∧ ∀ a c, H a = none → c ≤ ns.length → Q (.ref a) (upd H a (SetO w a (fun j => decide (j ∈ ns)) c))
theorem cr_setL (hc : X.calm = true) : CallR X (.type "set") (rSetOfL X.K X.w) := by
  intro pins s σ H vs us Q I r h
  obtain ⟨l, ns, rfl, hl, hb, q⟩ := h
  obtain ⟨its, rv, li, hz⟩ := I.list hl
  rw [Vals.ref1 r]
  refine set_ofL (I.ok.hd hc) li.isList (by simpa using rv.ints) hb fun s' hf => ?_
  obtain ⟨h', tk, c, rfl, hs, hcl, keep⟩ := hf
  exact ⟨.ref _, upd H s.heap.objs.size (SetO X.w s.heap.objs.size (fun j => decide (j ∈ ns)) c), I.laid (t' := tk) keep (Nat.le_refl _) (setO_new hs), rfl, q _ c (I.hok.fresh (Nat.le_refl _)) hcl⟩
end
end L2
namespace Q
open PySem L2
def intsOf : List D → Option (List Int)
  | [] => some []
  | .int i :: xs => (intsOf xs).map (i :: ·)
  | _ :: _ => none
def insN (x : Int) : List Int → List Int
  | [] => [x]
  | y :: ys => if x = y then y :: ys else if x < y then x :: y :: ys else y :: insN x ys
def sortN : List Int → List Int
  | [] => []
  | x :: xs => insN x (sortN xs)
theorem mem_insN {x z : Int} : ∀ {ys : List Int}, z ∈ insN x ys ↔ z = x ∨ z ∈ ys
  | [] => by simp [insN]
  | y :: ys => by
    unfold insN
    split
    · rename_i e
      subst e
      simp
    · split
      · simp
      · simp only [List.mem_cons, mem_insN (ys := ys)]
        constructor <;> (intro h; rcases h with h | h | h <;> simp [h])
theorem mem_sortN {z : Int} : ∀ {xs : List Int}, z ∈ sortN xs ↔ z ∈ xs
  | [] => by simp [sortN]
  | x :: xs => by
    unfold sortN
    rw [mem_insN, mem_sortN, List.mem_cons]
theorem insN_up {x : Int} : ∀ {ys : List Int}, ys.Pairwise (· < ·) → (insN x ys).Pairwise (· < ·)
  | [], _ => by simp [insN]
  | y :: ys, h => by
    have h' := List.pairwise_cons.mp h
    unfold insN
    split
    · exact h
    · rename_i hne
      split
      · rename_i hlt
        refine List.pairwise_cons.mpr ⟨fun z hz => ?_, h⟩
        rcases List.mem_cons.mp hz with rfl | m
        · exact hlt
        · exact Int.lt_trans hlt (h'.1 z m)
      · rename_i hlt
        refine List.pairwise_cons.mpr ⟨fun z hz => ?_, insN_up h'.2⟩
        rcases mem_insN.mp hz with rfl | m
        · omega
        · exact h'.1 z m
theorem sortN_up : ∀ xs : List Int, (sortN xs).Pairwise (· < ·)
  | [] => by simp [sortN]
  | x :: xs => insN_up (sortN_up xs)
theorem upN_uniq : ∀ (xs ys : List Int), xs.Pairwise (· < ·) → ys.Pairwise (· < ·) → (∀ z, z ∈ xs ↔ z ∈ ys) → xs = ys
  | [], [], _, _, _ => rfl
  | [], y :: ys, _, _, h => absurd ((h y).mpr (by simp)) (by simp)
  | x :: xs, [], _, _, h => absurd ((h x).mp (by simp)) (by simp)
  | x :: xs, y :: ys, hx, hy, h => by
    have hx' := List.pairwise_cons.mp hx
    have hy' := List.pairwise_cons.mp hy
    have e : x = y := by
      rcases List.mem_cons.mp ((h x).mp (by simp)) with e | m
      · exact e
      · rcases List.mem_cons.mp ((h y).mpr (by simp)) with e | m'
        · exact e.symm
        · have a := hx'.1 y m'
          have b := hy'.1 x m
          omega
    subst e
    rw [upN_uniq xs ys hx'.2 hy'.2 fun z => ⟨fun m => ?_, fun m => ?_⟩]
    · rcases List.mem_cons.mp ((h z).mp (by simp [m])) with e | m'
      · have := hx'.1 z m; omega
      · exact m'
    · rcases List.mem_cons.mp ((h z).mpr (by simp [m])) with e | m'
      · have := hy'.1 z m; omega
      · exact m'
theorem ints_at {Γ : Gm} {α : List Addr} {G : Hp} : ∀ (xs : List D) (ns : List Int) (vs : List V), intsOf xs = some ns → RepL Γ α G xs vs → vs = ns.map V.int
  | [], ns, vs, h, r => by
    unfold RepL at r
    subst r
    cases h
    rfl
  | x :: xs, ns, vs, h, r => by
    unfold intsOf at h
    split at h
    · rename_i e; cases e
    · rename_i i ys e
      cases e
      cases q : intsOf xs with
      | none => rw [q] at h; cases h
      | some ms =>
        rw [q] at h
        cases h
        unfold RepL at r
        obtain ⟨v, w, rfl, r1, r2⟩ := r
        rw [ints_at xs ms w q r2]
        simp only [Rep] at r1
        rw [r1]
        rfl
    · cases h
theorem rep_ints {Γ : Gm} {α : List Addr} {G : Hp} : ∀ ns : List Int, RepL Γ α G (ns.map D.int) (ns.map V.int)
  | [] => by simp [RepL]
  | n :: ns => by
    rw [List.map_cons, List.map_cons]
    unfold RepL
    exact ⟨_, _, rfl, by simp [Rep], rep_ints ns⟩
def ssK (d : D) (S : Store) : Res D := match d with
  | .lst xs => match pairsOf xs with
    | some ps => if ps.length < 64 then .ok (.lst ((sortU ps).map pairD)) S else .no
    | none => match intsOf xs with
      | some ns => if ns.length < 64 then .ok (.lst ((sortN ns).map .int)) S else .no
      | none => .no
  | _ => .no
def mSortSet (m : ME) : ME := fun ρ S => (m ρ S).bind ssK
section
variable {X : Cx} {cl : Nat → Addr} {E : XK} {e : Expr} {m : ME} {pos : Pos}
theorem q_sortset {k : Nat} {p p1 p2 : Pos} (hr : Room k X.A) (h : QE X cl E e m) (hg : Gl X "sorted") (hm : X.mg "sorted" = none) (hg' : Gl X "set") (hm' : X.mg "set" = none) (hc : X.calm = true := by rfl)
    (he : starEach [e] X.env = (false, eval e X.env) :: starEach [] X.env := by rfl)
    (he2 : starEach [.Call (.Name "set" p1) [e] [] p2] X.env = (false, eval (.Call (.Name "set" p1) [e] [] p2) X.env) :: starEach [] X.env := by rfl)
    (hpl : (backTo p2 (starEach [] X.env)).any (·.1) = false := by rfl) (hpl2 : (backTo pos (starEach [] X.env)).any (·.1) = false := by rfl) :
    QE X cl E (.Call (.Name "sorted" p) [.Call (.Name "set" p1) [e] [] p2] [] pos) (mSortSet m) := by
  obtain ⟨t, h1, h2⟩ := h.ex
  have c1 := pe_callTy (pos := p2) (p := p1) ((cr_setOfT hc hr.units).or (cr_setL hc)) hg' hm' (by rfl) (pa_cons h1 pa_nil he) (by decide) (by decide) he hpl
  refine ⟨_, pe_callB ((cr_sortedT hc).or (cr_sortedSet hc)) hg hm (by rfl) (pa_cons c1 pa_nil he2) (by decide) (by decide) he2 hpl2, fun ρ S σ α G H Q hρ hR hp => ?_⟩
  refine h2 ρ S σ α G H _ hρ hR (post_bind hp fun d S1 α1 G1 H1 v _ e1 R1 r1 hp1 => ?_)
  cases d with
  | lst xs =>
    simp only [ssK] at hp1
    cases q : pairsOf xs with
    | some ps =>
      rw [q] at hp1
      simp only at hp1
      split at hp1
      · rename_i hl
        exact .inl (ss_pairs R1 r1 q hl hp1 fun x H2 z => .inl z)
      · exact hp1.elim
    | none =>
      rw [q] at hp1
      simp only at hp1
      cases q2 : intsOf xs with
      | none => rw [q2] at hp1; exact hp1.elim
      | some ns =>
        rw [q2] at hp1
        simp only at hp1
        split at hp1
        · rename_i hl
          unfold Rep at r1
          obtain ⟨l, vs, rfl, s1, t1⟩ := r1
          have ev := ints_at xs ns vs q2 t1
          subst ev
          refine .inr ⟨l, ns, rfl, R1.sub.sqL (.inl (.inl s1)), by unfold scanBound; omega, fun a c ha hcl => .inr ⟨a, _, c, rfl, upd_same, by omega, fun ns' b pw mem len hb => ?_⟩⟩
          have en : ns' = sortN ns := upN_uniq _ _ pw (sortN_up ns) fun z => by rw [mem_sortN, mem z]; exact decide_eq_true_iff
          subst en
          obtain ⟨R2, e2⟩ := R1.new ha (SetO X.w a (fun j => decide (j ∈ ns)) c)
          obtain ⟨R3, e3⟩ := R2.new hb (.lst ((sortN ns).map V.int))
          exact hp1 _ _ _ _ (e2.trans e3) R3 (rep_lst upd_same (rep_ints _))
        · exact hp1.elim
  | _ => exact hp1.elim
end
section
variable {S : Store} {ρ : Env}
@[simp] theorem ap_sortset (m : ME) : mSortSet m ρ S = (m ρ S).bind ssK := (Eq.refl _).trans rfl
theorem ssK_pairs {ps : List (Int × Int)} (h : ∀ p ∈ ps, (0 ≤ p.1 ∧ p.1 < lim) ∧ 0 ≤ p.2 ∧ p.2 < lim) (hl : ps.length < 64) : ssK (.lst (ps.map pairD)) S = .ok (.lst ((sortU ps).map pairD)) S := by
  simp only [ssK, pairsOf_map ps h, hl, if_true]
theorem intsOf_map : ∀ ns : List Int, intsOf (ns.map .int) = some ns
  | [] => rfl
  | n :: ns => by
    rw [List.map_cons]
    unfold intsOf
    rw [intsOf_map ns]
    rfl
theorem ssK_ints {ns : List Int} (hl : ns.length < 64) : ssK (.lst (ns.map .int)) S = .ok (.lst ((sortN ns).map .int)) S := by
  cases ns with
  | nil => rfl
  | cons n ns =>
    have e : pairsOf ((n :: ns).map D.int) = none := rfl
    simp only [ssK, e, intsOf_map, hl, if_true]
end
end Q
namespace L2
open PySem PySem.Spec PyProof.Rows
theorem perm_of_map {α β : Type} {f : α → β} {l m : List β} (h : l.Perm m) : ∀ ks : List α, m = ks.map f → ∃ L : List α, L.Perm ks ∧ l = L.map f := by
  induction h with
  | nil => exact fun ks e => ⟨[], by rw [List.map_eq_nil_iff.mp e.symm], rfl⟩
  | cons x _ ih =>
    intro ks e
    cases ks with
    | nil => cases e
    | cons k ks =>
      rw [List.map_cons] at e
      have i1 := (List.cons.inj e).1
      obtain ⟨L, p, e2⟩ := ih ks (List.cons.inj e).2
      exact ⟨k :: L, p.cons k, by rw [i1, e2]; rfl⟩
  | swap x y l =>
    intro ks e
    match ks, e with
    | a :: b :: ks, e =>
      rw [List.map_cons, List.map_cons] at e
      have i1 := (List.cons.inj e).1
      have i2 := (List.cons.inj (List.cons.inj e).2).1
      have i3 := (List.cons.inj (List.cons.inj e).2).2
      exact ⟨b :: a :: ks, List.Perm.swap a b ks, by rw [i1, i2, i3]; rfl⟩
    | [], e => cases e
    | [_], e => cases e
  | trans _ _ ih1 ih2 =>
    intro ks e
    obtain ⟨L, p, e2⟩ := ih2 ks e
    obtain ⟨M, q, e3⟩ := ih1 L e2
    exact ⟨M, q.trans p, e3⟩
theorem vrefs : ∀ {ks : List (Addr × Int × Int)} {us : List Value}, Vals (ks.map fun p => V.ref p.1) us → us = ks.map fun p => Value.ref p.1
  | [], _, .nil => rfl
  | k :: ks, _, .cons r t => by
    cases r
    rw [vrefs t]
    rfl
theorem refsv : ∀ ks : List (Addr × Int × Int), Vals (ks.map fun p => V.ref p.1) (ks.map fun p => Value.ref p.1)
  | [] => .nil
  | k :: ks => .cons rfl (refsv ks)
def pairAt (h : Heap) (u : Value) : Int × Int := Q.pk (TS.intsOf h u)
section
variable {X : Cx}
def rSortedRP (K : PySem.W.Frag) : List V → List V → Hp → VK → Prop := fun vs zs H Q => ∃ (a : Addr) (ks : List (Addr × Int × Int)), vs = [V.ref a] ∧ zs = [.bl true] ∧ SqL K H a (ks.map fun p => V.ref p.1) ∧ (∀ p ∈ ks, SqT K H p.1 [.int p.2.1, .int p.2.2]) ∧
  ∀ (L : List (Addr × Int × Int)) (p : Addr), L.Perm ks → L.Pairwise (fun p q => q.2.1 < p.2.1 ∨ (q.2.1 = p.2.1 ∧ q.2.2 ≤ p.2.2)) → H p = none → Q (.ref p) (upd H p (.lst (L.map fun p => V.ref p.1)))
theorem cr_sortedRP : CallRK X (.builtin "sorted") [Str.ofString "reverse"] (rSortedRP X.K) := by
  intro pins s σ H vs zs us ws Q I r rz h
  obtain ⟨a, ks, rfl, rfl, hl, hk, q⟩ := h
  obtain rfl := Vals.ref1 r
  obtain ⟨w1, rfl, e1⟩ := vals1 rz
  obtain rfl : w1 = Value.bool true := e1
  obtain ⟨its, rv, pl, hz⟩ := I.list hl
  obtain rfl := vrefs rv
  have at_ : ∀ p ∈ ks, Srt.IsPair s.heap (.ref p.1) p.2.1 p.2.2 ∧ pairAt s.heap (.ref p.1) = p.2 := fun p hp => by
    obtain ⟨us, r2, ⟨o, ho, hc, n, hd⟩, _⟩ := I.tuple (hk p hp)
    obtain ⟨u1, u2, rfl, ri, rj⟩ := vals2 r2
    obtain ⟨t1, rfl⟩ := ri
    obtain ⟨t2, rfl⟩ := rj
    refine ⟨⟨_, o, t1, t2, n, rfl, ho, hc, hd⟩, ?_⟩
    have ti : TS.TupInts s.heap (.ref p.1) [p.2.1, p.2.2] := ⟨p.1, _, rfl, ⟨o, ho, hc, n, hd⟩, .cons _ _ (.cons _ _ .nil)⟩
    unfold pairAt
    rw [ti.ints]
    rfl
  have mem : ∀ v ∈ ks.map (fun p => Value.ref p.1), Srt.IsPair s.heap v (pairAt s.heap v).1 (pairAt s.heap v).2 := fun v hv => by
    obtain ⟨p, hp, rfl⟩ := List.mem_map.mp hv
    have z := at_ p hp
    rw [z.2]
    exact z.1
  have hz2 : (ks.map fun p => Value.ref p.1).length ≤ sizeLine := by simpa using hz
  refine SrtR.sorted_ordK (b := true) (fun _ => rfl) (PyProof.Rows.args_sorted_rev _ _) (fun _ => PyProof.Rows.args_list_sort_rev _ _) (SrtO.swo_lex (pairAt s.heap)) pl.isList hz2 (fun h2 h₁ a' g keep => ?_) fun out h1 h2 => ?_
  · refine SrtO.pairs_sortableO (by omega) (fun v hv => (mem v hv).keeps fun b o e _ => (keep b o e).2) fun o e => ?_
    rw [g] at e
    cases e
    exact fun z => by
      injection z with z3
      exact absurd z3 (by decide)
  · have pm : out.reverse.Perm (ks.map fun p => Value.ref p.1) := (List.reverse_perm out).trans (h2.perm.trans (List.reverse_perm _))
    obtain ⟨L, pL, eL⟩ := perm_of_map pm ks rfl
    obtain ⟨ep, he'⟩ := PyProof.Rows.sortedAll_at s.heap (ks.map fun p => Value.ref p.1) out.toArray.reverse
    have ea : out.toArray.reverse = (L.map fun p => Value.ref p.1).toArray := by rw [← eL]; simp
    rw [ea] at he'
    have hlen : (L.map fun p => V.ref p.1).length ≤ sizeLine := by
      rw [List.length_map, pL.length_eq]
      simpa using hz
    refine ⟨.ref _, upd H (s.heap.objs.size + 1) (.lst (L.map fun p => V.ref p.1)), I.laid (t' := s.toks) (fun _ _ => PyProof.Rows.sortedAll_old) (Nat.le_succ _) ⟨hlen, _, ep, refsv L, by simp only [if_true]; rw [ea]; exact he'⟩, rfl, q _ _ pL ?_ (I.hok.fresh (Nat.le_succ _))⟩
    have pw : out.reverse.Pairwise fun x y => SrtO.lexB (pairAt s.heap x) (pairAt s.heap y) = false := List.pairwise_reverse.mpr h1
    rw [eL, List.pairwise_map] at pw
    refine pw.imp_of_mem fun {x y} hx hy hxy => ?_
    rw [(at_ x (pL.subset hx)).2, (at_ y (pL.subset hy)).2, SrtO.lexB_no] at hxy
    by_cases e : y.2.1 = x.2.1
    · right; omega
    · left; omega
end
end L2
namespace Q
open PySem L2
def ple (a b : Int × Int) : Prop := a.1 < b.1 ∨ (a.1 = b.1 ∧ a.2 ≤ b.2)
instance (a b : Int × Int) : Decidable (ple a b) := by unfold ple; infer_instance
theorem ple_tot {a b : Int × Int} (h : ¬ ple a b) : ple b a := by unfold ple at *; omega
theorem ple_trans {a b c : Int × Int} (h : ple a b) (h' : ple b c) : ple a c := by unfold ple at *; omega
theorem ple_anti {a b : Int × Int} (h : ple a b) (h' : ple b a) : a = b := by
  unfold ple at *
  exact Prod.ext (by omega) (by omega)
def insD (x : Int × Int) : List (Int × Int) → List (Int × Int)
  | [] => [x]
  | y :: ys => if ple y x then x :: y :: ys else y :: insD x ys
def sortD : List (Int × Int) → List (Int × Int)
  | [] => []
  | x :: xs => insD x (sortD xs)
theorem insD_perm (x : Int × Int) : ∀ ys : List (Int × Int), (insD x ys).Perm (x :: ys)
  | [] => List.Perm.refl _
  | y :: ys => by
    unfold insD
    split
    · exact List.Perm.refl _
    · exact ((insD_perm x ys).cons y).trans (List.Perm.swap x y ys)
theorem sortD_perm : ∀ xs : List (Int × Int), (sortD xs).Perm xs
  | [] => List.Perm.refl _
  | x :: xs => (insD_perm x _).trans ((sortD_perm xs).cons x)
theorem insD_down {x : Int × Int} : ∀ {ys : List (Int × Int)}, ys.Pairwise (fun p q => ple q p) → (insD x ys).Pairwise fun p q => ple q p
  | [], _ => by simp [insD]
  | y :: ys, h => by
    have h' := List.pairwise_cons.mp h
    unfold insD
    split
    · rename_i hle
      refine List.pairwise_cons.mpr ⟨fun z hz => ?_, h⟩
      rcases List.mem_cons.mp hz with rfl | m
      · exact hle
      · exact ple_trans (h'.1 z m) hle
    · rename_i hle
      refine List.pairwise_cons.mpr ⟨fun z hz => ?_, insD_down h'.2⟩
      rcases List.mem_cons.mp ((insD_perm x ys).mem_iff.mp hz) with rfl | m
      · exact ple_tot hle
      · exact h'.1 z m
theorem sortD_down : ∀ xs : List (Int × Int), (sortD xs).Pairwise fun p q => ple q p
  | [] => by simp [sortD]
  | x :: xs => insD_down (sortD_down xs)
theorem down_uniq : ∀ (xs ys : List (Int × Int)), xs.Perm ys → xs.Pairwise (fun p q => ple q p) → ys.Pairwise (fun p q => ple q p) → xs = ys
  | [], ys, p, _, _ => p.nil_eq
  | x :: xs, [], p, _, _ => absurd p.length_eq (by simp)
  | x :: xs, y :: ys, p, hx, hy => by
    have hx' := List.pairwise_cons.mp hx
    have hy' := List.pairwise_cons.mp hy
    have e : x = y := by
      rcases List.mem_cons.mp (p.mem_iff.mp (by simp : x ∈ x :: xs)) with e | m
      · exact e
      · rcases List.mem_cons.mp (p.mem_iff.mpr (by simp : y ∈ y :: ys)) with e | m'
        · exact e.symm
        · exact ple_anti (hy'.1 x m) (hx'.1 y m')
    subst e
    rw [down_uniq xs ys (List.Perm.cons_inv p) hx'.2 hy'.2]
def srK (d : D) (S : Store) : Res D := match d with
  | .lst xs => match pairsOf xs with
    | some ps => .ok (.lst ((sortD ps).map pairD)) S
    | none => .no
  | _ => .no
def srK2 (d : D) (b : D) (S : Store) : Res D := match b with
  | .bl true => srK d S
  | _ => .no
def mSortRev (m m2 : ME) : ME := fun ρ S => (m ρ S).bind fun d S1 => (m2 ρ S1).bind (srK2 d)
section
variable {X : Cx} {cl : Nat → Addr} {E : XK} {e e2 : Expr} {m m2 : ME} {pos : Pos}
theorem q_sortrev {p kp : Pos} (h : QE X cl E e m) (h' : QE X cl E e2 m2) (hg : Gl X "sorted") (hm : X.mg "sorted" = none)
    (he0 : starEach [e] X.env = (false, eval e X.env) :: starEach [] X.env := by rfl)
    (he : backTo pos (starEach [e] X.env) = (false, eval e X.env) :: backTo pos (starEach [] X.env) := by rfl) (hpl : (backTo pos (starEach [e] X.env)).any (·.1) = false := by rfl)
    (hall : (backToKw pos (keywordEach [⟨some "reverse", e2, kp⟩] X.env)).all (·.1.isSome) = true := by rfl) (hnone : (backToKw pos (keywordEach [⟨some "reverse", e2, kp⟩] X.env)).any (·.1.isNone) = false := by rfl) (hks : (backToKw pos (keywordEach [⟨some "reverse", e2, kp⟩] X.env)).filterMap (·.1) = [Str.ofString "reverse"] := by rfl) :
    QE X cl E (.Call (.Name "sorted" p) [e] [⟨some "reverse", e2, kp⟩] pos) (mSortRev m m2) := by
  obtain ⟨t, h1, h2⟩ := h.ex
  obtain ⟨u, k1, k2⟩ := h'.ex
  refine ⟨_, pe_callBK cr_sortedRP hg hm (by rfl) (pa_cons h1 pa_nil he0) (pk_cons k1 pk_nil) (by decide) (by decide) he hpl hall hnone hks, fun ρ S σ α G H Q hρ hR hp => ?_⟩
  refine h2 ρ S σ α G H _ hρ hR (post_bind hp fun d S1 α1 G1 H1 v _ e1 R1 r1 hp1 => ?_)
  refine k2 ρ S1 σ α1 G1 H1 _ (hρ.mono e1) R1 (post_bind hp1 fun b S2 α2 G2 H2 w _ e2 R2 r2 hp2 => ?_)
  have r1' := Rep.mono e2.pre e2.sub _ _ r1
  unfold srK2 at hp2
  split at hp2
  · rename_i b1
    unfold srK at hp2
    split at hp2
    · rename_i xs _h0
      split at hp2
      · rename_i ps q
        unfold Rep at r1'
        obtain ⟨l, vs, rfl, s1, t1⟩ := r1'
        obtain ⟨ks, rfl, c1, c2, c3⟩ := pairs_at xs ps vs q t1
        simp only [Rep] at r2
        subst r2
        have two : ∀ p ∈ ks, p.2 = [(pk p.2).1, (pk p.2).2] := fun p hp => by
          have : p.2 ∈ ps.map (fun p => [p.1, p.2]) := by rw [← c2]; exact List.mem_map.mpr ⟨p, hp, rfl⟩
          obtain ⟨u, hu, e⟩ := List.mem_map.mp this
          rw [← e]
          rfl
        have eps : (ks.map fun p => pk p.2) = ps := by
          have := congrArg (List.map pk) c2
          rw [List.map_map, List.map_map] at this
          have e3 : (pk ∘ fun p : Int × Int => [p.1, p.2]) = id := by funext p; rfl
          rw [e3, List.map_id] at this
          exact this
        refine ⟨l, ks.map fun p => (p.1, pk p.2), rfl, rfl, ?_, fun p hp => ?_, fun L b pm pw hb => ?_⟩
        · rw [List.map_map]
          exact R2.sub.sqL (.inl (.inl s1))
        · obtain ⟨p0, hp0, rfl⟩ := List.mem_map.mp hp
          have := R2.sub _ _ (c1 p0 hp0)
          rw [two p0 hp0] at this
          exact .inl (.inl this)
        · have eL : L.map (·.2) = sortD ps := by
            refine down_uniq _ _ ?_ ?_ (sortD_down ps)
            · have := pm.map (·.2)
              rw [List.map_map] at this
              exact (this.trans (by rw [show ((fun p : Addr × Int × Int => p.2) ∘ fun p : Addr × List Int => (p.1, pk p.2)) = fun p => pk p.2 from rfl, eps])).trans (sortD_perm ps).symm
            · rw [List.pairwise_map]
              exact pw.imp fun {a b} h => h
          obtain ⟨R3, e3⟩ := R2.new hb (.lst (L.map fun p => V.ref p.1))
          refine hp2 _ _ _ _ e3 R3 (rep_lst upd_same ?_)
          rw [← eL]
          have sq : ∀ p ∈ L, G2 p.1 = some (.tup [.int p.2.1, .int p.2.2]) := fun p hp => by
            obtain ⟨p0, hp0, rfl⟩ := List.mem_map.mp (pm.subset hp)
            have := c1 p0 hp0
            rw [two p0 hp0] at this
            exact this
          have go : ∀ L : List (Addr × Int × Int), (∀ p ∈ L, G2 p.1 = some (.tup [.int p.2.1, .int p.2.2])) → RepL ⟨X.K, cl⟩ α2 (upd G2 b (.lst (L.map fun p => V.ref p.1))) [] [] → RepL ⟨X.K, cl⟩ α2 G2 ((L.map (·.2)).map pairD) (L.map fun p => V.ref p.1) := fun L => by
            induction L with
            | nil => intro _ _; simp [RepL]
            | cons p L ih =>
              intro hs _
              rw [List.map_cons, List.map_cons, List.map_cons]
              unfold RepL
              refine ⟨_, _, rfl, ?_, ih (fun q hq => hs q (by simp [hq])) (by simp [RepL])⟩
              unfold pairD Rep
              exact ⟨p.1, [V.int p.2.1, V.int p.2.2], rfl, hs p (by simp), by simp [RepL, Rep]⟩
          exact RepL.mono e3.pre e3.sub _ _ (go L sq (by simp [RepL]))
      · exact hp2.elim
    · exact hp2.elim
  · exact hp2.elim
end
section
variable {S : Store} {ρ : Env}
def srK1 (m2 : ME) (ρ : Env) (d : D) (S : Store) : Res D := (m2 ρ S).bind (srK2 d)
@[simp] theorem srK1_ap (m2 : ME) (d : D) : srK1 m2 ρ d S = (m2 ρ S).bind (srK2 d) := (Eq.refl _).trans rfl
@[simp] theorem ap_sortrev (m m2 : ME) : mSortRev m m2 ρ S = (m ρ S).bind (srK1 m2 ρ) := (Eq.refl _).trans rfl
@[simp] theorem srK2_tru (d : D) : srK2 d (.bl true) S = srK d S := (Eq.refl _).trans rfl
theorem srK_pairs {ps : List (Int × Int)} (h : ∀ p ∈ ps, (0 ≤ p.1 ∧ p.1 < lim) ∧ 0 ≤ p.2 ∧ p.2 < lim) : srK (.lst (ps.map pairD)) S = .ok (.lst ((sortD ps).map pairD)) S := by
  simp only [srK, pairsOf_map ps h]
end
end Q
namespace Q
open PySem L2
def insI (x : Int) : List Int → List Int
  | [] => [x]
  | y :: ys => if x ≤ y then x :: y :: ys else y :: insI x ys
def sortI : List Int → List Int
  | [] => []
  | x :: xs => insI x (sortI xs)
theorem insI_perm (x : Int) : ∀ ys : List Int, (insI x ys).Perm (x :: ys)
  | [] => List.Perm.refl _
  | y :: ys => by
    unfold insI
    split
    · exact List.Perm.refl _
    · exact ((insI_perm x ys).cons y).trans (List.Perm.swap x y ys)
theorem sortI_perm : ∀ xs : List Int, (sortI xs).Perm xs
  | [] => List.Perm.refl _
  | x :: xs => (insI_perm x _).trans ((sortI_perm xs).cons x)
theorem insI_up {x : Int} : ∀ {ys : List Int}, ys.Pairwise (· ≤ ·) → (insI x ys).Pairwise (· ≤ ·)
  | [], _ => by simp [insI]
  | y :: ys, h => by
    have h' := List.pairwise_cons.mp h
    unfold insI
    split
    · rename_i c
      refine List.pairwise_cons.mpr ⟨fun z hz => ?_, h⟩
      rcases List.mem_cons.mp hz with rfl | m
      · exact c
      · exact Int.le_trans c (h'.1 z m)
    · rename_i c
      refine List.pairwise_cons.mpr ⟨fun z hz => ?_, insI_up h'.2⟩
      rcases List.mem_cons.mp ((insI_perm x ys).mem_iff.mp hz) with rfl | m
      · omega
      · exact h'.1 z m
theorem sortI_up : ∀ xs : List Int, (sortI xs).Pairwise (· ≤ ·)
  | [] => List.Pairwise.nil
  | x :: xs => insI_up (sortI_up xs)
theorem sortI_uniq {xs ys : List Int} (hp : ys.Perm xs) (hu : ys.Pairwise (· ≤ ·)) : ys = sortI xs :=
  List.Perm.eq_of_pairwise (le := (· ≤ ·)) (fun a b _ _ h1 h2 => by omega) hu (sortI_up xs) (hp.trans (sortI_perm xs).symm)
def plStep (ks : List Int) (p : Int × Int) : List Int := if p.1 ∈ ks then (if p.2 ∈ ks then ks else ks ++ [p.2]) else ks
def plK (k : Int) (ps : List (Int × Int)) : List Int := sortI (ps.foldl plStep [k])
def pairsQ : List D → Option (List (Int × Int))
  | [] => some []
  | .tup [.int i, .int j] :: ds => (pairsQ ds).map ((i, j) :: ·)
  | _ :: _ => none
def plR (k : Int) (d : D) (S : Store) : Res Fl := match d with
  | .lst xs => match pairsQ xs with
    | some ps => if ps.length ≤ 1000 then .ok (.rt (.lst ((plK k ps).map .int))) S else .no
    | none => .no
  | _ => .no
def mPl (ip ifd b : Nat) (m : ME) : MS := fun ρ S => if b < ρ.length then match ρ[ip]? with
  | some (some (.int k)) => (m (ρ.set ifd none) S).bind (plR k)
  | _ => .no
  else .no
theorem upd2 {H : Hp} {p : Addr} (o o' : HO) : upd (upd H p o) p o' = upd H p o' := by
  funext a
  by_cases h : a = p
  · subst h; rw [upd_same, upd_same]
  · rw [upd_ne h, upd_ne h, upd_ne h]
theorem updS {H : Hp} {p : Addr} {o : HO} (h : H p = some o) : upd H p o = H := by
  funext a
  by_cases e : a = p
  · subst e; rw [upd_same, h]
  · rw [upd_ne e]
theorem updC {H : Hp} {p q : Addr} (h : p ≠ q) (o o' : HO) : upd (upd H p o) q o' = upd (upd H q o') p o := by
  funext a
  by_cases e : a = q
  · subst e; rw [upd_same, upd_ne (Ne.symm h), upd_same]
  · rw [upd_ne e]
    by_cases e2 : a = p
    · subst e2; rw [upd_same, upd_same]
    · rw [upd_ne e2, upd_ne e2, upd_ne e]
theorem EnvR.drop {Γ : Gm} {α : List Addr} {G : Hp} {ρ : Env} {σ : L2.St} (h : EnvR Γ α G ρ σ) (i : Nat) (o : Option V) : EnvR Γ α G (ρ.set i none) (σ.set i o) := by
  refine ⟨by simp [h.1], fun j e hj => ?_⟩
  by_cases hij : i = j
  · subst hij
    have hl : i < ρ.length := by
      have := (List.getElem?_eq_some_iff.mp hj).1
      simpa using this
    rw [List.getElem?_set_self hl] at hj
    cases hj
  · rw [List.getElem?_set_ne hij] at hj ⊢
    exact h.2 j e hj
theorem pairsQ_map : ∀ {xs : List D} {ps : List (Int × Int)}, pairsQ xs = some ps → xs = ps.map fun p => .tup [.int p.1, .int p.2]
  | [], ps, h => by simp [pairsQ] at h; subst h; rfl
  | d :: ds, ps, h => by
    unfold pairsQ at h
    split at h
    · rename_i e; cases e
    · rename_i i j ds' e
      cases e
      cases q : pairsQ ds with
      | none => rw [q] at h; cases h
      | some qs =>
        rw [q] at h
        cases h
        rw [pairsQ_map q]
        rfl
    · cases h
theorem repL_intsW {Γ : Gm} {α : List Addr} {G : Hp} : ∀ zs : List Int, RepL Γ α G (zs.map .int) (zs.map .int)
  | [] => by simp [RepL]
  | z :: zs => by
    rw [List.map_cons, List.map_cons]
    unfold RepL
    exact ⟨_, _, rfl, by simp [Rep], repL_intsW zs⟩
def kvT (ks : List Int) : List (Key × V) := ks.map fun k => (Sum.inl k, V.bl true)
theorem kvT_any (ks : List Int) (k : Int) : ((kvT ks).any fun kv => decide (kv.1 = (Sum.inl k : Key))) = decide (k ∈ ks) := by
  unfold kvT
  induction ks with
  | nil => rfl
  | cons x ks ih =>
    rw [List.map_cons, List.any_cons, ih]
    by_cases e : x = k
    · subst e; simp
    · have e2 : ¬ (Sum.inl x : Key) = Sum.inl k := fun z => e (Sum.inl.inj z)
      have e3 : ¬ k = x := fun z => e z.symm
      simp [e2, e3]
theorem kvT_get (ks : List Int) (k : Int) : (valV (kvT ks) (Sum.inl k : Key)).isSome = decide (k ∈ ks) := by
  rw [← kvT_any]
  unfold valV
  rw [Option.isSome_map, Bool.eq_iff_iff, List.find?_isSome, List.any_eq_true]
theorem kvT_put (ks : List Int) (k : Int) : putK (kvT ks) (Sum.inl k : Key) (V.bl true) = kvT (if k ∈ ks then ks else ks ++ [k]) := by
  unfold putK
  rw [kvT_any]
  by_cases h : k ∈ ks
  · rw [if_pos (by simpa using h), if_pos h]
    unfold kvT
    rw [List.map_map]
    refine List.map_congr_left fun x _ => ?_
    simp only [Function.comp_apply]
    split <;> rfl
  · rw [if_neg (by simpa using h), if_neg h]
    unfold kvT
    simp
theorem foldl_take {ps : List (Int × Int)} {i : Nat} {p : Int × Int} (h : ps[i]? = some p) (k : List Int) : (ps.take (i + 1)).foldl plStep k = plStep ((ps.take i).foldl plStep k) p := by
  rw [List.take_succ, h, List.foldl_append]
  rfl
theorem plStep_len (ks : List Int) (p : Int × Int) : (plStep ks p).length ≤ ks.length + 1 := by
  unfold plStep
  split
  · split
    · omega
    · simp
  · omega
theorem plF_len : ∀ (ps : List (Int × Int)) (ks : List Int), (ps.foldl plStep ks).length ≤ ks.length + ps.length
  | [], ks => by simp
  | p :: ps, ks => by
    have h1 := plF_len ps (plStep ks p)
    have h2 := plStep_len ks p
    rw [List.foldl_cons, List.length_cons]
    omega
section
variable {X : Cx} {cl : Nat → Addr} {E : XK}
theorem qss_places {ip ifd ie is_ io b : Nat} {m : ME} {st1 : Stmt} {eK tgP it tgO eltO : Expr} {xc xs xf xo : Str} {scope : Scope} {p1 p2 p3 p4 p5 p6 p7 p8 p9 q1 q2 q3 q4 q5 q6 q7 q8 : Pos} {j1 j2 : Nat}
    (hK : PE X eK (tVar ip)) (h1 : ∀ te, PE X (.Dict [some eK] [.Constant (.bool true) j1 p1] p2) te → PS X st1 (tAsg te (gName ifd)))
    (hi : QE X cl E it m) (hfs : ∀ x, foldedSetIterable it X.env x = pure x) (hg : PG X tgP (gTup X.K 2 (gCons (gName ie) (gCons (gName is_) gNil))))
    (hC : PE X (.Name xc q1) (tVar ie)) (hSt : PE X (.Name xs q2) (tVar is_)) (hF : PE X (.Name xf q3) (tVar ifd)) (hF2 : PE X (.Name xf q4) (tVar ifd)) (hF3 : PE X (.Name xf q5) (tVar ifd))
    (hN : X.N.Nodup) (hB : BlkOk X.N X.env.scope scope [(xo, io)])
    (hgo : ∀ (s : Shared) (H : Hp) (C : Addr) (c : List (Str × Addr)) (fp : List Addr), PG (X.blk s H scope (compEnvC scope c C X.env) fp) tgO (gName io))
    (heo : ∀ (s : Shared) (H : Hp) (C : Addr) (c : List (Str × Addr)) (fp : List Addr), PE (X.blk s H scope (compEnvC scope c C X.env) fp) eltO (tVar io))
    (hs : Gl X "sorted") (hms : X.mg "sorted" = none) (hu : X.A.units + 1 < cLine)
    (hne : ie ≠ is_ ∧ ifd ≠ ie ∧ ifd ≠ is_ ∧ ip ≠ ifd ∧ io ≠ ifd) (hlt : ie ≤ b ∧ is_ ≤ b ∧ ifd ≤ b ∧ io ≤ b)
    (hc : X.calm = true := by rfl) (hpo : PassesOwn (model X.prog X.w) X.A X.env X.xe := by exact PassesOwn.never) :
    QSs X cl E [st1, .For tgP it [.If (.Compare (.Name xc q1) [.In] [.Name xf q3] p3) [.Assign [.Subscript (.Name xf q4) (.Name xs q2) p4] (.Constant (.bool true) j2 p5) p6] [] p7] [] p8,
      .Return (some (.Call (.Name "sorted" p9) [.ListComp eltO [⟨tgO, .Name xf q5, [], 0⟩] scope q6] [] q7)) q8] (mPl ip ifd b m) := by
  obtain ⟨ti, hi1, hi2⟩ := hi.ex
  have b1 := h1 _ (pe_disp (pps_cons hK pe_bl pps_nil) rfl rfl (by simp) (by simp))
  have bIf := ps_if (pos := p7) (pt_cmp (pos := p3) (pc_din hu hC hF)) (pss_one (ps_asg (pos := p6) (pe_bl (b := true) (j := j2) (pos := p5)) (pg_sub (pos := p4) hF2 hSt (set_dict hu)))) pss_nil
  have b2 := ps_for (pos := p8) hpo hc (pi_list hi1) hg (pss_one bIf) hfs
  have b3 := ps_ret (pos := q8) (pe_callB (p := p9) (pos := q7) cr_sortedI hs hms rfl (pa_cons (pe_lock (pe_lc (pos := q6) hc hN (pi_keys hF3) hB hgo (fun _ _ _ _ _ => pts_nil) heo)) pa_nil))
  refine ⟨⟨_, pss_cons b1 (pss_cons b2 (pss_one b3)), fun ρ S σ α G H Dn hρ hR hp => ?_⟩⟩
  obtain ⟨n1, n2, n3, n4, n5⟩ := hne
  obtain ⟨l1, l2, l3, l4⟩ := hlt
  unfold mPl at hp
  split at hp
  case isFalse => exact hp.elim
  rename_i hbl
  have hσl : b < σ.length := by rw [← hρ.1]; exact hbl
  split at hp
  case h_2 => exact hp.elim
  rename_i k hk
  obtain ⟨v, hv, rv⟩ := hρ.2 ip _ hk
  simp only [Rep] at rv
  subst rv
  intro p hz
  refine ⟨.int k, hv, upd_same, [(Sum.inl k, .bl true)], rfl, by simp, ?_⟩
  have e1 : upd (upd H p (.dK [])) p (.dK (mergeK [] [(Sum.inl k, V.bl true)])) = upd H p (.dK (kvT [k])) := by
    rw [upd2]
    rfl
  rw [e1]
  obtain ⟨R0, e0⟩ := hR.out hz (.dK (kvT [k]))
  have hρ' := hρ.drop ifd (some (.ref p))
  have hpα : p ∉ α := fun z => hR.tr p z hz
  refine hi2 (ρ.set ifd none) S _ α G _ _ hρ' R0 ?_
  cases q : m (ρ.set ifd none) S with
  | no => rw [q] at hp; exact hp.elim
  | ex e S1 =>
    rw [q] at hp
    intro α' G' H' c x ex rl rr
    exact hp α' G' H' c x (e0.trans ex) rl rr
  | ok d S1 =>
    rw [q] at hp
    intro α1 G1 H1 v ex R1 r1
    have hp' : PostS ⟨X.K, cl⟩ E α G H (plR k d S1) Dn := hp
    unfold plR at hp'
    cases d <;> try exact hp'.elim
    rename_i xs0
    simp only at hp'
    split at hp'
    case h_2 => exact hp'.elim
    rename_i ps hps
    split at hp'
    case isFalse => exact hp'.elim
    rename_i hlen
    have hxs := pairsQ_map hps
    subst hxs
    unfold Rep at r1
    obtain ⟨a, vs, rfl, hGa, rL⟩ := r1
    have hvl : vs.length = ps.length := by rw [← rL.length, List.length_map]
    have hH1p : H1 p = some (.dK (kvT [k])) := ex.fr p _ upd_same hpα
    have hpα1 : p ∉ α1 := fun z => by
      rcases ex.na p z with w | w
      · exact hpα w
      · rw [upd_same] at w; cases w
    have hG1p : G1 p = none := by
      cases w : G1 p with
      | none => rfl
      | some o =>
        rcases ex.ng p (by rw [w]; simp) with z | z | z | ⟨_, z⟩
        · exact absurd (hR.gnone hz) z
        · exact absurd z hpα
        · rw [upd_same] at z; cases z
        · rw [upd_same] at z; cases z
    have Rp := fun o => R1.patch hpα1 hG1p o
    have kl : ∀ i, ((ps.take i).foldl plStep [k]).length ≤ 1001 := fun i => by
      have h1 := plF_len (ps.take i) [k]
      have h2 : (ps.take i).length ≤ ps.length := by rw [List.length_take]; omega
      simp at h1
      omega
    refine ⟨a, rfl, ⟨vs, R1.sub.sqL (.inl (.inl hGa))⟩, for_list (K := X.K) (a := a) (xs := vs) (fun i τ Hc => Hc = upd H1 p (.dK (kvT ((ps.take i).foldl plStep [k]))) ∧ τ[ifd]? = some (some (V.ref p)) ∧ τ.length = σ.length) ⟨by rw [List.take_zero]; exact (updS hH1p).symm, List.getElem?_set_self (by omega), by simp⟩ ?_ ?_ ?_⟩
    · rintro i τ _ _ ⟨rfl, _, _⟩
      exact (Rp _).sub.sqL (.inl (.inl hGa))
    · rintro i x τ _ hx ⟨rfl, hf, hl⟩
      have hil : i < ps.length := by rw [← hvl]; exact (List.getElem?_eq_some_iff.mp hx).1
      have hpi : ps[i]? = some ps[i] := List.getElem?_eq_getElem hil
      obtain ⟨w, hw, rw'⟩ := rL.get (show (ps.map fun p => D.tup [.int p.1, .int p.2])[i]? = some (.tup [.int ps[i].1, .int ps[i].2]) by rw [List.getElem?_map, hpi]; rfl)
      rw [hx] at hw
      cases hw
      obtain ⟨t, ws, rfl, qT, rW⟩ := tup_at (Rp (.dK (kvT ((ps.take i).foldl plStep [k])))) rw'
      have eW : ws = [.int ps[i].1, .int ps[i].2] := by
        simp only [RepL, Rep] at rW
        obtain ⟨_, _, rfl, rfl, _, _, rfl, rfl, rfl⟩ := rW
        rfl
      subst eW
      refine ⟨t, _, rfl, qT, rfl, _, _, rfl, _, _, rfl, rfl, ?_⟩
      have g1 : ((τ.set ie (some (V.int ps[i].1))).set is_ (some (V.int ps[i].2)))[ie]? = some (some (V.int ps[i].1)) := by
        rw [List.getElem?_set_ne (Ne.symm n1), List.getElem?_set_self (by omega)]
      have g2 : ((τ.set ie (some (V.int ps[i].1))).set is_ (some (V.int ps[i].2)))[is_]? = some (some (V.int ps[i].2)) := List.getElem?_set_self (by simp; omega)
      have g3 : ((τ.set ie (some (V.int ps[i].1))).set is_ (some (V.int ps[i].2)))[ifd]? = some (some (V.ref p)) := by
        rw [List.getElem?_set_ne (Ne.symm n3), List.getElem?_set_ne (Ne.symm n2)]
        exact hf
      refine ⟨.int ps[i].1, g1, .ref p, g3, p, _, rfl, DGet.k (k := Sum.inl ps[i].1) upd_same, _, rfl, ?_⟩
      have st := foldl_take hpi [k]
      have hk2 := kl i
      generalize (ps.take i).foldl plStep [k] = ks at *
      rw [kvT_get]
      show if decide (ps[i].1 ∈ ks) = true then _ else _
      by_cases he : ps[i].1 ∈ ks
      · rw [if_pos (by simpa using he)]
        refine ⟨.ref p, g3, .int ps[i].2, g2, p, _, rfl, DPut.k (k := Sum.inl ps[i].2) upd_same (by unfold kvT; rw [List.length_map]; exact Nat.lt_of_le_of_lt hk2 (by decide)), ?_, g3, by simp [hl]⟩
        rw [upd2, kvT_put, st]
        unfold plStep
        rw [if_pos he]
      · rw [if_neg (by simpa using he)]
        refine ⟨?_, g3, by simp [hl]⟩
        rw [st]
        unfold plStep
        rw [if_neg he]
    · rintro τ _ ⟨rfl, hf, hl⟩
      rw [hvl, List.take_of_length_le (Nat.le_refl _)]
      have hk2 := kl ps.length
      rw [List.take_of_length_le (Nat.le_refl _)] at hk2
      have hplK : plK k ps = sortI (ps.foldl plStep [k]) := rfl
      rw [hplK] at hp'
      generalize ps.foldl plStep [k] = ks at *
      refine ⟨p, .dK (kvT ks), upd_same, trivial, fun od => ?_⟩
      refine ⟨.ref p, hf, p, od, rfl, .inl ⟨kvT ks, upd_same, ?_⟩⟩
      intro Dd hD
      rw [upd2] at hD
      have hDp : Dd ≠ p := fun z => by subst z; rw [upd_same] at hD; cases hD
      have kvl : (kvT ks).length = ks.length := by unfold kvT; rw [List.length_map]
      refine lc_it walk_keys (fun i H' => H' = upd (upd (upd H1 p (.dK (kvT ks))) p (.frz od (.dK (kvT ks)))) Dd (.lst ((ks.take i).map V.int))) rfl ?_ ?_ ?_
      · rintro i _ _ rfl
        rw [upd_ne (Ne.symm hDp), upd_same]
      · rintro i x _ _ hi0 rfl ⟨rfl, kk, vv, hkk, rfl⟩
        have hik : i < ks.length := by omega
        have hki : ks[i]? = some ks[i] := List.getElem?_eq_getElem hik
        unfold kvT at hkk
        rw [List.getElem?_map, hki] at hkk
        cases hkk
        have wl : io < (wipe τ [io]).length := by rw [wipe_length]; omega
        refine ⟨?_, ?_⟩
        · show ((wipe τ [io]).set io (some (V.int ks[i]))).set io none = (τ.set io none)
          show ((τ.set io none).set io (some (V.int ks[i]))).set io none = (τ.set io none)
          rw [List.set_set, List.set_set]
        · show ∃ v, _
          refine ⟨.int ks[i], List.getElem?_set_self wl, _, upd_same, ?_, ?_⟩
          · rw [List.length_map, List.length_take]
            exact Nat.lt_of_le_of_lt (show min i ks.length ≤ 1001 by omega) (by decide)
          · have et : ks.take (i + 1) = ks.take i ++ [ks[i]] := by
              rw [List.take_succ, hki]
              rfl
            rw [upd2, et, List.map_append]
            rfl
      · rintro _ rfl
        rw [kvl, List.take_of_length_le (Nat.le_refl _)]
        refine ⟨by rw [upd_ne (Ne.symm hDp), upd_same], ?_⟩
        have eE : upd (upd (upd (upd H1 p (.dK (kvT ks))) p (.frz od (.dK (kvT ks)))) Dd (.lst (ks.map V.int))) p (.dK (kvT ks)) = upd (upd H1 p (.dK (kvT ks))) Dd (.lst (ks.map V.int)) := by
          rw [updC (Ne.symm hDp).symm, upd2, upd2]
        rw [eE]
        refine ⟨Dd, ks, rfl, .inl (.inl upd_same), fun ns' qq hpm hpw hq => ?_⟩
        have en := sortI_uniq hpm hpw
        subst en
        have hD' : upd H1 p (.dK (kvT ks)) Dd = none := by
          rw [upd_ne hDp] at hD ⊢
          exact hD
        obtain ⟨R2, e2⟩ := (Rp (.dK (kvT ks))).out hD' (.lst (ks.map V.int))
        obtain ⟨R3, e3⟩ := R2.new hq (.lst ((sortI ks).map V.int))
        refine hp' α1 _ _ (.ref qq) (((((e0.trans ex).patch hz (.dK (kvT ks))).trans e2)).trans e3) R3 (rep_lst upd_same (repL_intsW (sortI ks)))
end
end Q
namespace L2
open PySem PySem.Spec PyProof.Rows
section
variable {X : Cx}
def rSortedPP (K : PySem.W.Frag) : List V → Hp → VK → Prop := fun vs H Q => ∃ (a : Addr) (ks : List (Addr × Int × Int)), vs = [V.ref a] ∧ SqL K H a (ks.map fun p => V.ref p.1) ∧ (∀ p ∈ ks, SqT K H p.1 [.int p.2.1, .int p.2.2]) ∧
  ∀ (L : List (Addr × Int × Int)) (p : Addr), L.Perm ks → L.Pairwise (fun p q => p.2.1 < q.2.1 ∨ (p.2.1 = q.2.1 ∧ p.2.2 ≤ q.2.2)) → H p = none → Q (.ref p) (upd H p (.lst (L.map fun p => V.ref p.1)))
theorem cr_sortedPP : CallR X (.builtin "sorted") (rSortedPP X.K) := by
  intro pins s σ H vs us Q I r h
  obtain ⟨a, ks, rfl, hl, hk, q⟩ := h
  obtain rfl := Vals.ref1 r
  obtain ⟨its, rv, pl, hz⟩ := I.list hl
  obtain rfl := vrefs rv
  have at_ : ∀ p ∈ ks, Srt.IsPair s.heap (.ref p.1) p.2.1 p.2.2 ∧ pairAt s.heap (.ref p.1) = p.2 := fun p hp => by
    obtain ⟨us, r2, ⟨o, ho, hc, n, hd⟩, _⟩ := I.tuple (hk p hp)
    obtain ⟨u1, u2, rfl, ri, rj⟩ := vals2 r2
    obtain ⟨t1, rfl⟩ := ri
    obtain ⟨t2, rfl⟩ := rj
    refine ⟨⟨_, o, t1, t2, n, rfl, ho, hc, hd⟩, ?_⟩
    have ti : TS.TupInts s.heap (.ref p.1) [p.2.1, p.2.2] := ⟨p.1, _, rfl, ⟨o, ho, hc, n, hd⟩, .cons _ _ (.cons _ _ .nil)⟩
    unfold pairAt
    rw [ti.ints]
    rfl
  have mem : ∀ v ∈ ks.map (fun p => Value.ref p.1), Srt.IsPair s.heap v (pairAt s.heap v).1 (pairAt s.heap v).2 := fun v hv => by
    obtain ⟨p, hp, rfl⟩ := List.mem_map.mp hv
    have z := at_ p hp
    rw [z.2]
    exact z.1
  have hz2 : (ks.map fun p => Value.ref p.1).length ≤ sizeLine := by simpa using hz
  refine SrtO.sorted_pairsO (k := pairAt s.heap) pl.isList hz2 mem fun h' d out h1 h2 kp hd hn => ?_
  obtain ⟨n, hn⟩ := hn
  obtain ⟨L, pL, rfl⟩ := perm_of_map h2.perm ks rfl
  have hlen : (L.map fun p => V.ref p.1).length ≤ sizeLine := by
    rw [List.length_map, pL.length_eq]
    simpa using hz
  refine ⟨.ref d, upd H d (.lst (L.map fun p => V.ref p.1)), I.laid kp hd ⟨hlen, _, n, refsv L, hn⟩, rfl, q _ _ pL ?_ (I.hok.fresh hd)⟩
  have pw : (L.map fun p => Value.ref p.1).Pairwise fun x y => SrtO.lexB (pairAt s.heap y) (pairAt s.heap x) = false := h1
  rw [List.pairwise_map] at pw
  refine pw.imp_of_mem fun {x y} hx hy hxy => ?_
  rw [(at_ x (pL.subset hx)).2, (at_ y (pL.subset hy)).2, SrtO.lexB_no] at hxy
  by_cases e : x.2.1 = y.2.1
  · right; omega
  · left; omega
end
end L2
namespace Q
open PySem L2
def insP (x : Int × Int) : List (Int × Int) → List (Int × Int)
  | [] => [x]
  | y :: ys => if ple x y then x :: y :: ys else y :: insP x ys
def sortP : List (Int × Int) → List (Int × Int)
  | [] => []
  | x :: xs => insP x (sortP xs)
theorem insP_perm (x : Int × Int) : ∀ ys : List (Int × Int), (insP x ys).Perm (x :: ys)
  | [] => List.Perm.refl _
  | y :: ys => by
    unfold insP
    split
    · exact List.Perm.refl _
    · exact ((insP_perm x ys).cons y).trans (List.Perm.swap x y ys)
theorem sortP_perm : ∀ xs : List (Int × Int), (sortP xs).Perm xs
  | [] => List.Perm.refl _
  | x :: xs => (insP_perm x _).trans ((sortP_perm xs).cons x)
theorem insP_up {x : Int × Int} : ∀ {ys : List (Int × Int)}, ys.Pairwise ple → (insP x ys).Pairwise ple
  | [], _ => by simp [insP]
  | y :: ys, h => by
    have h' := List.pairwise_cons.mp h
    unfold insP
    split
    · rename_i hle
      refine List.pairwise_cons.mpr ⟨fun z hz => ?_, h⟩
      rcases List.mem_cons.mp hz with rfl | m
      · exact hle
      · exact ple_trans hle (h'.1 z m)
    · rename_i hle
      refine List.pairwise_cons.mpr ⟨fun z hz => ?_, insP_up h'.2⟩
      rcases List.mem_cons.mp ((insP_perm x ys).mem_iff.mp hz) with rfl | m
      · exact ple_tot hle
      · exact h'.1 z m
theorem sortP_up : ∀ xs : List (Int × Int), (sortP xs).Pairwise ple
  | [] => by simp [sortP]
  | x :: xs => insP_up (sortP_up xs)
theorem sortP_uniq {xs ys : List (Int × Int)} (hp : ys.Perm xs) (hu : ys.Pairwise ple) : ys = sortP xs :=
  List.Perm.eq_of_pairwise (le := ple) (fun a b _ _ h1 h2 => ple_anti h1 h2) hu (sortP_up xs) (hp.trans (sortP_perm xs).symm)
def intsQ : List D → Option (List Int)
  | [] => some []
  | .int i :: ds => (intsQ ds).map (i :: ·)
  | _ :: _ => none
theorem intsQ_map : ∀ {xs : List D} {ns : List Int}, intsQ xs = some ns → xs = ns.map .int
  | [], ns, h => by simp [intsQ] at h; subst h; rfl
  | d :: ds, ns, h => by
    unfold intsQ at h
    split at h
    · rename_i e; cases e
    · rename_i i ds' e
      cases e
      cases q : intsQ ds with
      | none => rw [q] at h; cases h
      | some qs =>
        rw [q] at h
        cases h
        rw [intsQ_map q]
        rfl
    · cases h
def skX (xs : List D) : Option (List D) := match intsQ xs with
  | some ns => some ((sortI ns).map .int)
  | none => (pairsQ xs).map fun ps => (sortP ps).map pairD
def skK (d : D) (S : Store) : Res D := match (rdL S d).bind skX with
  | some ys => .ok (.lst ys) S
  | none => .no
def mSortL (m : ME) : ME := fun ρ S => (m ρ S).bind skK
def extTo (k : Nat) (d : D) (S : Store) : Res D := match S[k]?, lstOf S d with
  | some (.lst xs), some ys => if xs.length + ys.length ≤ 100000 then .ok .non (S.set k (.lst (xs ++ ys))) else .no
  | _, _ => .no
def mExt (mo m : ME) : ME := fun ρ S => (mo ρ S).bind fun o S1 => match o with
  | .ref k => if notOb S1 k = true then (m ρ S1).bind fun d S2 => extTo k d S2 else .no
  | _ => .no
theorem ints_vals {Γ : Gm} {α : List Addr} {G : Hp} : ∀ {ns : List Int} {vs : List V}, RepL Γ α G (ns.map .int) vs → vs = ns.map .int
  | [], vs, h => by simpa [RepL] using h
  | n :: ns, vs, h => by
    rw [List.map_cons] at h
    unfold RepL at h
    obtain ⟨v, r, rfl, h1, h2⟩ := h
    simp only [Rep] at h1
    subst h1
    rw [ints_vals h2]
    rfl
theorem pairs_vals {Γ : Gm} {α : List Addr} {G : Hp} : ∀ {ps : List (Int × Int)} {vs : List V}, RepL Γ α G (ps.map fun p => .tup [.int p.1, .int p.2]) vs → ∃ ks : List (Addr × Int × Int), vs = ks.map (fun p => V.ref p.1) ∧ ks.map (·.2) = ps ∧ ∀ p ∈ ks, G p.1 = some (.tup [.int p.2.1, .int p.2.2])
  | [], vs, h => ⟨[], by simpa [RepL] using h, rfl, by simp⟩
  | p :: ps, vs, h => by
    rw [List.map_cons] at h
    unfold RepL at h
    obtain ⟨v, r, rfl, h1, h2⟩ := h
    obtain ⟨ks, rfl, e, hk⟩ := pairs_vals h2
    unfold Rep at h1
    obtain ⟨t, ws, rfl, q, rW⟩ := h1
    simp only [RepL, Rep] at rW
    obtain ⟨_, _, rfl, rfl, _, _, rfl, rfl, rfl⟩ := rW
    refine ⟨(t, p) :: ks, rfl, by rw [List.map_cons, e], fun z hz => ?_⟩
    rcases List.mem_cons.mp hz with rfl | m
    · exact q
    · exact hk z m
section
variable {X : Cx} {cl : Nat → Addr} {E : XK} {e : Expr} {m : ME} {pos : Pos}
theorem sk_core {Γ : Gm} {α : List Addr} {G H : Hp} {S : Store} {d : D} {v : V} {ys : List D} {Q : VK} (R1 : Rl Γ α G S H) (r1 : Rep Γ α G d v) (h : (rdL S d).bind skX = some ys)
    (k : ∀ us q, H q = none → RepL Γ α G ys us → Q (.ref q) (upd H q (.lst us))) : rSortedI Γ.K [v] H Q ∨ rSortedPP Γ.K [v] H Q := by
  cases hx : rdL S d with
  | none => rw [hx] at h; cases h
  | some xs =>
    rw [hx] at h
    have h : skX xs = some ys := h
    obtain ⟨a, vs, rfl, hs, rL⟩ := rdL_at R1 r1 hx
    unfold skX at h
    cases hn : intsQ xs with
    | some ns =>
      rw [hn] at h
      cases h
      have := intsQ_map hn
      subst this
      have := ints_vals rL
      subst this
      refine .inl ⟨a, ns, rfl, hs, fun ns' q hpm hpw hq => ?_⟩
      have en := sortI_uniq hpm hpw
      subst en
      exact k _ q hq (repL_intsW _)
    | none =>
      rw [hn] at h
      cases hps : pairsQ xs with
      | none => rw [hps] at h; cases h
      | some ps =>
        rw [hps] at h
        cases h
        have := pairsQ_map hps
        subst this
        obtain ⟨ks, rfl, ek, hk⟩ := pairs_vals rL
        refine .inr ⟨a, ks, rfl, hs, fun p hp => .inl (.inl (R1.sub _ _ (hk p hp))), fun L b pm pw hb => ?_⟩
        have eL : L.map (·.2) = sortP ps := by
          refine sortP_uniq ?_ ?_
          · rw [← ek]; exact pm.map (·.2)
          · rw [List.pairwise_map]
            exact pw.imp fun {a b} h => h
        refine k _ b hb ?_
        show RepL Γ α G ((sortP ps).map pairD) _
        rw [← eL]
        have sq : ∀ p ∈ L, G p.1 = some (.tup [.int p.2.1, .int p.2.2]) := fun p hp => hk p (pm.subset hp)
        have go : ∀ L : List (Addr × Int × Int), (∀ p ∈ L, G p.1 = some (.tup [.int p.2.1, .int p.2.2])) → RepL Γ α G ((L.map (·.2)).map pairD) (L.map fun p => V.ref p.1) := fun L => by
          induction L with
          | nil => intro _; simp [RepL]
          | cons p L ih =>
            intro hs
            rw [List.map_cons, List.map_cons, List.map_cons]
            unfold RepL
            refine ⟨_, _, rfl, ?_, ih (fun q hq => hs q (by simp [hq]))⟩
            unfold pairD Rep
            exact ⟨p.1, [V.int p.2.1, V.int p.2.2], rfl, hs p (by simp), by simp [RepL, Rep]⟩
        exact go L sq
theorem q_sortL {p : Pos} (h : QE X cl E e m) (hg : Gl X "sorted") (hm : X.mg "sorted" = none)
    (he0 : starEach [e] X.env = (false, eval e X.env) :: starEach [] X.env := by rfl) (hpl : (backTo pos (starEach [] X.env)).any (·.1) = false := by rfl) :
    QE X cl E (.Call (.Name "sorted" p) [e] [] pos) (mSortL m) := by
  obtain ⟨t, h1, h2⟩ := h.ex
  refine ⟨_, pe_callB (CallR.or cr_sortedI cr_sortedPP) hg hm rfl (pa_cons h1 pa_nil he0) (by decide) (by decide) he0 hpl, fun ρ S σ α G H Q hρ hR hp => ?_⟩
  refine h2 ρ S σ α G H _ hρ hR (post_bind hp fun d S1 α1 G1 H1 v _ e1 R1 r1 hp1 => ?_)
  unfold skK at hp1
  split at hp1
  case h_2 => exact hp1.elim
  rename_i ys hy
  exact sk_core (Γ := ⟨X.K, cl⟩) R1 r1 hy fun us q hq ru => post_lst R1 ru hp1 hq
theorem q_ext {o : Expr} {mo : ME} {apos cpos : Pos} (ho : QE X cl E o mo) (he : QE X cl E e m) (hbase : attributeBase o "extend" X.env (eval o X.env) = eval o X.env := by rfl)
    (hfew : ((backTo cpos (starEach [e] X.env)).all (fun x => !x.1) && (backToKw cpos (keywordEach [] X.env)).all (fun x => x.1.isSome)
      && decide (([e] : List Expr).length + ([] : List Keyword).length + (if ([] : List Keyword).isEmpty then 0 else 1) < 30)) = true := by rfl)
    (hline : (apos.endLine == cpos.line) = true := by rfl) (hs : starEach [e] X.env = (false, eval e X.env) :: starEach [] X.env := by rfl) (hplain : (backTo cpos (starEach [] X.env)).any (·.1) = false := by rfl) :
    QE X cl E (.Call (.Attribute o "extend" apos) [e] [] cpos) (mExt mo m) := by
  obtain ⟨t, h1, h2⟩ := ho.ex
  obtain ⟨u, k1, k2⟩ := he.ex
  refine ⟨_, pe_bm PySem.F.plainAttrs_list PySem.F.slot_list_extend PySem.F.type_list_extend mt_extend h1 (pa_cons k1 pa_nil hs) hbase hfew hline hs hplain, fun ρ S σ α G H Q hρ hR hp => ?_⟩
  refine h2 ρ S σ α G H _ hρ hR (post_bind hp fun od S1 α1 G1 H1 ov q1 e1 R1 r1 hp1 => ?_)
  clear q1
  cases od <;> try exact hp1.elim
  rename_i kk
  dsimp only at hp1
  split at hp1
  case isFalse => exact hp1.elim
  rename_i hno
  obtain ⟨p, rfl, ha1, htv⟩ := listy R1 r1 hno
  refine ⟨htv, ?_⟩
  refine k2 ρ S1 σ α1 G1 H1 _ (hρ.mono e1) R1 (post_bind hp1 fun d S2 α2 G2 H2 v q2 e2 R2 r2 hp2 => ?_)
  have hp' : α2[kk]? = some p := by
    obtain ⟨β, rfl⟩ := e2.pre
    rw [List.getElem?_append_left (List.getElem?_eq_some_iff.mp ha1).1]
    exact ha1
  unfold extTo at hp2
  split at hp2
  case h_2 => exact hp2.elim
  rename_i xs ys hc hy
  split at hp2
  case isFalse => exact hp2.elim
  rename_i hl
  obtain ⟨b, ws, rfl, hb, rw'⟩ := lstOf_at R2 r2 hy
  obtain ⟨vs, q1, q2', q3⟩ := (R2.ok kk _ p hc hp').lst
  obtain ⟨R3, e3⟩ := R2.put hc hp' (q2'.append rw')
  exact ⟨p, b, vs, ws, rfl, rfl, q1, hb, by rw [← q2'.length, ← rw'.length]; exact sz hl, hp2 _ _ _ .non e3 R3 (by simp [Rep])⟩
end
section
variable {S : Store} {ρ : Env}
@[simp] theorem ap_sortL (m : ME) : mSortL m ρ S = (m ρ S).bind skK := (Eq.refl _).trans rfl
theorem pairsQ_pairs : ∀ ps : List (Int × Int), pairsQ (ps.map pairD) = some ps
  | [] => rfl
  | p :: ps => by
    rw [List.map_cons]
    unfold pairD
    rw [pairsQ]
    have := pairsQ_pairs ps
    unfold pairD at this
    rw [this]
    rfl
theorem skX_pairs (ps : List (Int × Int)) : skX (ps.map pairD) = some ((sortP ps).map pairD) := by
  unfold skX
  cases ps with
  | nil => rfl
  | cons p ps =>
    have : intsQ ((p :: ps).map pairD) = none := rfl
    rw [this, pairsQ_pairs]
    rfl
theorem skK_pairs {d : D} {ps : List (Int × Int)} (h : rdL S d = some (ps.map pairD)) : skK d S = .ok (.lst ((sortP ps).map pairD)) S := by
  unfold skK
  rw [h, Option.bind_some, skX_pairs]
def extK (m : ME) (ρ : Env) (o : D) (S : Store) : Res D := match o with
  | .ref k => if notOb S k = true then (m ρ S).bind (extTo k) else .no
  | _ => .no
@[simp] theorem ap_ext (mo m : ME) : mExt mo m ρ S = (mo ρ S).bind (extK m ρ) := by
  unfold mExt
  congr 1
@[simp] theorem extK_ref (m : ME) (k : Nat) (h : notOb S k = true) : extK m ρ (.ref k) S = (m ρ S).bind (extTo k) := by show (if notOb S k = true then _ else _) = _; rw [if_pos h]
theorem extTo_ok {k : Nat} {d : D} {xs ys : List D} (h : S[k]? = some (.lst xs)) (hy : lstOf S d = some ys) (hl : xs.length + ys.length ≤ 100000) : extTo k d S = .ok .non (S.set k (.lst (xs ++ ys))) := by
  unfold extTo
  rw [h, hy]
  simp only [hl, if_true]
@[simp] theorem ap_pl (ip ifd b : Nat) (m : ME) : mPl ip ifd b m ρ S = if b < ρ.length then (match ρ[ip]? with
  | some (some (.int k)) => (m (ρ.set ifd none) S).bind (plR k)
  | _ => .no) else .no := rfl
theorem plR_ok {k : Int} {ps : List (Int × Int)} (h : ps.length ≤ 1000) : plR k (.lst (ps.map pairD)) S = .ok (.rt (.lst ((plK k ps).map .int))) S := by
  unfold plR
  simp only [pairsQ_pairs, h, if_true]
end
end Q
namespace L2
open PySem PySem.Spec PyProof.Rows
end L2
namespace Q
open PySem L2
theorem PE.or {X : Cx} {e : Expr} {t u : TE} (h : PE X e t) (h' : PE X e u) : PE X e (fun σ H Q => t σ H Q ∨ u σ H Q) := ⟨fun pins s σ H Q I q => q.elim (fun q => h.run pins s σ H Q I q) (fun q => h'.run pins s σ H Q I q)⟩
def seqX (S : Store) : D → Option (List D)
  | .tup xs => some xs
  | d => rdL S d
def mStar (m : ME) (n : MA) : MA := fun ρ S => (m ρ S).bind fun d S1 => match seqX S1 d with
  | some xs => (n ρ S1).bind fun ys S2 => .ok (xs ++ ys) S2
  | none => .no
def popAt (k : Nat) (d : D) (S : Store) : Res D := match d, S[k]? with
  | .int i, some (.lst xs) => if 0 ≤ i ∧ i < 2 ^ 40 then (match xs[i.toNat]? with
    | some x => .ok x (S.set k (.lst (xs.eraseIdx i.toNat)))
    | none => .no) else .no
  | _, _ => .no
def mPopAt (mo m : ME) : ME := fun ρ S => (mo ρ S).bind fun o S1 => match o with
  | .ref k => if notOb S1 k = true then (m ρ S1).bind fun d S2 => popAt k d S2 else .no
  | _ => .no
section
variable {X : Cx} {cl : Nat → Addr} {E : XK} {e e1 e2 e3 : Expr} {m m1 m2 m3 : ME} {pos : Pos}
theorem qs_none {st : Stmt} : QS X cl E st (fun _ _ => .no) := ⟨⟨fun _ _ _ => False, ⟨fun _ _ _ _ _ _ h => h.elim⟩, fun _ _ _ _ _ _ _ _ _ hp => hp.elim⟩⟩
theorem seqX_at {Γ : Gm} {α : List Addr} {G H : Hp} {S : Store} (R : Rl Γ α G S H) {d : D} {v : V} {xs : List D} (r : Rep Γ α G d v) (h : seqX S d = some xs) : ∃ a vs, v = .ref a ∧ (SqT Γ.K H a vs ∨ SqL Γ.K H a vs) ∧ RepL Γ α G xs vs := by
  have go : rdL S d = some xs → ∃ a vs, v = .ref a ∧ (SqT Γ.K H a vs ∨ SqL Γ.K H a vs) ∧ RepL Γ α G xs vs := fun h => by
    obtain ⟨a, vs, e, q, r⟩ := rdL_at R r h
    exact ⟨a, vs, e, .inr q, r⟩
  cases d with
  | tup ys =>
    have e : ys = xs := Option.some.inj h
    subst e
    obtain ⟨a, vs, rfl, q, r⟩ := tup_at R r
    exact ⟨a, vs, rfl, .inl q, r⟩
  | _ => exact go h
theorem q_star {es : List Expr} {n : MA} {p : Pos} (h : QE X cl E e m) (k : QA X cl E es n) (hs : starEach (.Starred e p :: es) X.env = (true, eval e X.env) :: starEach es X.env := by rfl) : QA X cl E (.Starred e p :: es) (mStar m n) := by
  obtain ⟨t, h1, h2⟩ := h.ex
  obtain ⟨u, k1, k2⟩ := k.ex
  refine ⟨_, StX.pa_star h1 k1 hs, fun ρ S σ α G H Q hρ hR hp => ?_⟩
  refine h2 ρ S σ α G H _ hρ hR (post_bind hp fun d S1 α1 G1 H1 v q1 e1 R1 r1 hp1 => ?_)
  clear q1
  split at hp1
  case h_2 => exact hp1.elim
  rename_i xs hx
  obtain ⟨a, vs, rfl, q, rL⟩ := seqX_at R1 r1 hx
  refine ⟨a, vs, rfl, q, k2 ρ S1 σ α1 G1 H1 _ (hρ.mono e1) R1 (post_bind hp1 fun ys S2 α2 G2 H2 ws q2 e2 R2 r2 hp2 => ?_)⟩
  exact post_ok hp2 R2 ((RepL.mono e2.pre e2.sub _ _ rL).append r2)
theorem erase_rep {Γ : Gm} {α : List Addr} {G : Hp} : ∀ (i : Nat) {ds : List D} {vs : List V}, RepL Γ α G ds vs → RepL Γ α G (ds.eraseIdx i) (vs.eraseIdx i)
  | i, [], vs, h => by
    have : vs = [] := by simpa [RepL] using h
    subst this
    simpa using h
  | 0, d :: ds, vs, h => by
    unfold RepL at h
    obtain ⟨v, r, rfl, h1, h2⟩ := h
    exact h2
  | i + 1, d :: ds, vs, h => by
    unfold RepL at h
    obtain ⟨v, r, rfl, h1, h2⟩ := h
    rw [List.eraseIdx_cons_succ, List.eraseIdx_cons_succ]
    unfold RepL
    exact ⟨v, _, rfl, h1, erase_rep i h2⟩
theorem seqIx (i : Int) (n : Nat) (h0 : 0 ≤ i) (h1 : i < n) : seqIndex? i n = some i.toNat := by
  unfold seqIndex?
  simp
  omega
theorem q_popAt {o : Expr} {mo : ME} {apos cpos : Pos} (ho : QE X cl E o mo) (he : QE X cl E e m) (hbase : attributeBase o "pop" X.env (eval o X.env) = eval o X.env := by rfl)
    (hfew : ((backTo cpos (starEach [e] X.env)).all (fun x => !x.1) && (backToKw cpos (keywordEach [] X.env)).all (fun x => x.1.isSome)
      && decide (([e] : List Expr).length + ([] : List Keyword).length + (if ([] : List Keyword).isEmpty then 0 else 1) < 30)) = true := by rfl)
    (hline : (apos.endLine == cpos.line) = true := by rfl) (hs : starEach [e] X.env = (false, eval e X.env) :: starEach [] X.env := by rfl) (hplain : (backTo cpos (starEach [] X.env)).any (·.1) = false := by rfl) :
    QE X cl E (.Call (.Attribute o "pop" apos) [e] [] cpos) (mPopAt mo m) := by
  obtain ⟨t, h1, h2⟩ := ho.ex
  obtain ⟨u, k1, k2⟩ := he.ex
  refine ⟨_, pe_bm PySem.F.plainAttrs_list PySem.F.slot_list_pop PySem.F.type_list_pop mt_popAt h1 (pa_cons k1 pa_nil hs) hbase hfew hline hs hplain, fun ρ S σ α G H Q hρ hR hp => ?_⟩
  refine h2 ρ S σ α G H _ hρ hR (post_bind hp fun od S1 α1 G1 H1 ov q1 e1 R1 r1 hp1 => ?_)
  clear q1
  cases od <;> try exact hp1.elim
  rename_i kk
  dsimp only at hp1
  split at hp1
  case isFalse => exact hp1.elim
  rename_i hno
  obtain ⟨p, rfl, ha1, htv⟩ := listy R1 r1 hno
  refine ⟨htv, ?_⟩
  refine k2 ρ S1 σ α1 G1 H1 _ (hρ.mono e1) R1 (post_bind hp1 fun d S2 α2 G2 H2 v q2 e2 R2 r2 hp2 => ?_)
  have hp' : α2[kk]? = some p := by
    obtain ⟨β, rfl⟩ := e2.pre
    rw [List.getElem?_append_left (List.getElem?_eq_some_iff.mp ha1).1]
    exact ha1
  unfold popAt at hp2
  split at hp2
  case h_2 => exact hp2.elim
  rename_i i xs hc
  split at hp2
  case isFalse => exact hp2.elim
  rename_i hi
  split at hp2
  case h_2 => exact hp2.elim
  rename_i x hx
  simp only [Rep] at r2
  subst r2
  obtain ⟨vs, a1, a2, a3⟩ := (R2.ok kk _ p hc hp').lst
  obtain ⟨y, hy, ry⟩ := a2.get hx
  have hl : i.toNat < xs.length := (List.getElem?_eq_some_iff.mp hx).1
  obtain ⟨R3, e3⟩ := R2.put hc hp' (erase_rep i.toNat a2)
  refine ⟨p, vs, i, i.toNat, y, rfl, rfl, a1, ?_, ?_, seqIx i vs.length hi.1 (by rw [← a2.length]; omega), hy, hp2 _ _ _ y e3 R3 (Rep.mono e3.pre e3.sub _ _ ry)⟩
  · have : -((2 : Int) ^ 63) ≤ 0 := by decide
    omega
  · have : (2 : Int) ^ 40 < 2 ^ 63 := by decide
    omega
end
section
variable {S : Store} {ρ : Env}
def starK2 (xs ys : List D) (S : Store) : Res (List D) := .ok (xs ++ ys) S
@[simp] theorem starK2_ap (xs ys : List D) : starK2 xs ys S = .ok (xs ++ ys) S := (Eq.refl _).trans rfl
def starK (n : MA) (ρ : Env) (d : D) (S : Store) : Res (List D) := match seqX S d with
  | some xs => (n ρ S).bind (starK2 xs)
  | none => .no
@[simp] theorem ap_star (m : ME) (n : MA) : mStar m n ρ S = (m ρ S).bind (starK n ρ) := (Eq.refl _).trans rfl
@[simp] theorem starK_tup (n : MA) (xs : List D) : starK n ρ (.tup xs) S = (n ρ S).bind (starK2 xs) := (Eq.refl _).trans rfl
@[simp] theorem starK_lst (n : MA) (xs : List D) : starK n ρ (.lst xs) S = (n ρ S).bind (starK2 xs) := (Eq.refl _).trans rfl
def popK (m : ME) (ρ : Env) (o : D) (S : Store) : Res D := match o with
  | .ref k => if notOb S k = true then (m ρ S).bind (popAt k) else .no
  | _ => .no
@[simp] theorem ap_popAt (mo m : ME) : mPopAt mo m ρ S = (mo ρ S).bind (popK m ρ) := (Eq.refl _).trans rfl
@[simp] theorem popK_ref (m : ME) (k : Nat) (h : notOb S k = true) : popK m ρ (.ref k) S = (m ρ S).bind (popAt k) := by show (if notOb S k = true then _ else _) = _; rw [if_pos h]
theorem popAt_ok {k : Nat} {xs : List D} {i : Int} {x : D} (h : S[k]? = some (.lst xs)) (h0 : 0 ≤ i ∧ i < 2 ^ 40) (hx : xs[i.toNat]? = some x) : popAt k (.int i) S = .ok x (S.set k (.lst (xs.eraseIdx i.toNat))) := by
  unfold popAt
  rw [h]
  simp only [if_pos h0, hx]
@[simp] theorem ap_none {β : Type} : (fun (_ : Env) (_ : Store) => (Res.no : Res β)) ρ S = .no := rfl
end
end Q
namespace Q
open PySem L2
def putO (i : Nat) (d : D) (fs : List (Option D)) : List (Option D) := (fs ++ List.replicate (i + 1 - fs.length) none).set i (some d)
theorem RepO.put {Γ : Gm} {α : List Addr} {G : Hp} {fs : List (Option D)} {vs : List (Option V)} (h : RepO Γ α G fs vs) (i : Nat) {d : D} {v : V} (r : Rep Γ α G d v) : RepO Γ α G (putO i d fs) (SlX.putS i v vs) := by
  intro j e he
  by_cases hj : j = i
  · subst hj
    refine ⟨v, SlX.putS_get j v vs, ?_⟩
    have : (putO j d fs)[j]? = some (some d) := by
      unfold putO
      exact List.getElem?_set_self (by simp only [List.length_append, List.length_replicate]; omega)
    rw [this] at he
    cases he
    exact r
  · have : fs[j]? = some (some e) := by
      unfold putO at he
      rw [List.getElem?_set_ne (Ne.symm hj)] at he
      by_cases hl : j < fs.length
      · rw [List.getElem?_append_left hl] at he
        exact he
      · rw [List.getElem?_append_right (by omega), List.getElem?_replicate] at he
        split at he <;> cases he
    obtain ⟨w, hw, rw'⟩ := h j e this
    exact ⟨w, (SlX.putS_ne hj).mpr hw, rw'⟩
end Q
namespace Q
open PySem L2
def keyD : D → Option Key
  | .int i => some (.inl i)
  | .str s => some (.inr s)
  | _ => none
def keysD : List D → Option (List Key)
  | [] => some []
  | d :: ds => match keyD d, keysD ds with
    | some k, some ks => some (k :: ks)
    | _, _ => none
def tkeyD : D → Option (List Key)
  | .tup xs => keysD xs
  | _ => none
theorem keyD_rep {Γ : Gm} {α : List Addr} {G : Hp} {d : D} {k : Key} {v : V} (h : keyD d = some k) (r : Rep Γ α G d v) : v = kV k := by
  cases d <;> simp [keyD] at h <;> subst h <;> simp only [Rep] at r <;> subst r <;> rfl
theorem keysD_rep {Γ : Gm} {α : List Addr} {G : Hp} : ∀ {ds : List D} {ks : List Key} {vs : List V}, keysD ds = some ks → RepL Γ α G ds vs → vs = ks.map kV
  | [], ks, vs, h, r => by simp [keysD] at h; subst h; simpa [RepL] using r
  | d :: ds, ks, vs, h, r => by
    unfold keysD at h
    unfold RepL at r
    obtain ⟨v, w, rfl, r1, r2⟩ := r
    split at h
    · rename_i k kk e1 e2
      cases h
      rw [keyD_rep e1 r1, keysD_rep e2 r2]
      rfl
    · cases h
section
variable {κ : Type} [DecidableEq κ]
def valD (kvs : List (κ × D)) (k : κ) : Option D := (kvs.find? fun kv => decide (kv.1 = k)).map (·.2)
def putD (kvs : List (κ × D)) (k : κ) (d : D) : List (κ × D) := if (kvs.any fun kv => decide (kv.1 = k)) = true then kvs.map (fun kv => if kv.1 = k then (kv.1, d) else kv) else kvs ++ [(k, d)]
theorem valD_cons (p : κ × D) (r : List (κ × D)) (k : κ) : valD (p :: r) k = if p.1 = k then some p.2 else valD r k := by
  by_cases e : p.1 = k <;> simp [valD, List.find?_cons, e]
theorem valV_cons (p : κ × V) (r : List (κ × V)) (k : κ) : valV (p :: r) k = if p.1 = k then some p.2 else valV r k := by
  by_cases e : p.1 = k <;> simp [valV, List.find?_cons, e]
variable {Γ : Gm} {α : List Addr} {G : Hp}
theorem RepKV.val : ∀ {kvs : List (κ × D)} {ws : List (κ × V)} (k : κ), RepKV Γ α G kvs ws → (∀ d, valD kvs k = some d → ∃ v, valV ws k = some v ∧ Rep Γ α G d v) ∧ (valD kvs k = none → valV ws k = none)
  | [], ws, k, h => by
    unfold RepKV at h
    subst h
    exact ⟨fun d e => by simp [valD] at e, fun _ => rfl⟩
  | p :: r, ws, k, h => by
    unfold RepKV at h
    obtain ⟨v, t, rfl, h1, h2⟩ := h
    rw [valD_cons, valV_cons]
    by_cases e : p.1 = k
    · rw [if_pos e, if_pos e]
      exact ⟨fun d hd => ⟨v, rfl, by cases hd; exact h1⟩, fun hn => nomatch hn⟩
    · rw [if_neg e, if_neg e]
      exact RepKV.val k h2
theorem RepKV.length : ∀ {kvs : List (κ × D)} {ws : List (κ × V)}, RepKV Γ α G kvs ws → kvs.length = ws.length
  | [], ws, h => by unfold RepKV at h; subst h; rfl
  | p :: r, ws, h => by
    unfold RepKV at h
    obtain ⟨v, t, rfl, _, h2⟩ := h
    simp [RepKV.length h2]
theorem RepKV.any (k : κ) : ∀ {kvs : List (κ × D)} {ws : List (κ × V)}, RepKV Γ α G kvs ws → (kvs.any fun kv => decide (kv.1 = k)) = (ws.any fun kv => decide (kv.1 = k))
  | [], ws, h => by unfold RepKV at h; subst h; rfl
  | p :: r, ws, h => by
    unfold RepKV at h
    obtain ⟨v, t, rfl, _, h2⟩ := h
    simp [RepKV.any k h2]
theorem RepKV.upd {k : κ} {d : D} {v : V} (r0 : Rep Γ α G d v) : ∀ {kvs : List (κ × D)} {ws : List (κ × V)}, RepKV Γ α G kvs ws → RepKV Γ α G (kvs.map fun kv => if kv.1 = k then (kv.1, d) else kv) (ws.map fun kv => if kv.1 = k then (kv.1, v) else kv)
  | [], ws, h => by unfold RepKV at h; subst h; simp [RepKV]
  | p :: r, ws, h => by
    unfold RepKV at h
    obtain ⟨u, t, rfl, h1, h2⟩ := h
    rw [List.map_cons, List.map_cons]
    unfold RepKV
    by_cases e : p.1 = k
    · simp only [e, if_true]
      exact ⟨v, _, rfl, r0, RepKV.upd r0 h2⟩
    · simp only [e, if_false]
      exact ⟨u, _, rfl, h1, RepKV.upd r0 h2⟩
theorem RepKV.snoc {k : κ} {d : D} {v : V} (r0 : Rep Γ α G d v) : ∀ {kvs : List (κ × D)} {ws : List (κ × V)}, RepKV Γ α G kvs ws → RepKV Γ α G (kvs ++ [(k, d)]) (ws ++ [(k, v)])
  | [], ws, h => by
    unfold RepKV at h
    subst h
    show RepKV Γ α G [(k, d)] [(k, v)]
    unfold RepKV
    exact ⟨v, [], rfl, r0, by simp [RepKV]⟩
  | p :: r, ws, h => by
    unfold RepKV at h
    obtain ⟨u, t, rfl, h1, h2⟩ := h
    show RepKV Γ α G (p :: (r ++ [(k, d)])) ((p.1, u) :: (t ++ [(k, v)]))
    unfold RepKV
    exact ⟨u, _, rfl, h1, RepKV.snoc r0 h2⟩
theorem RepKV.put {k : κ} {d : D} {v : V} (r0 : Rep Γ α G d v) {kvs : List (κ × D)} {ws : List (κ × V)} (h : RepKV Γ α G kvs ws) : RepKV Γ α G (putD kvs k d) (putK ws k v) := by
  unfold putD putK
  rw [h.any k]
  split
  · exact h.upd r0
  · exact h.snoc r0
theorem RepKV.get : ∀ {kvs : List (κ × D)} {ws : List (κ × V)} {i : Nat} {k : κ} {v : V}, RepKV Γ α G kvs ws → ws[i]? = some (k, v) → ∃ d, kvs[i]? = some (k, d) ∧ Rep Γ α G d v
  | [], ws, i, k, v, h, hi => by unfold RepKV at h; subst h; simp at hi
  | p :: r, ws, 0, k, v, h, hi => by
    unfold RepKV at h
    obtain ⟨u, t, rfl, h1, h2⟩ := h
    simp at hi
    obtain ⟨rfl, rfl⟩ := hi
    exact ⟨p.2, rfl, h1⟩
  | p :: r, ws, i + 1, k, v, h, hi => by
    unfold RepKV at h
    obtain ⟨u, t, rfl, h1, h2⟩ := h
    simpa using RepKV.get h2 (by simpa using hi)
end
def dgetD (S : Store) (d key : D) : Option (Option D) := match d with
  | .ref k => match S[k]? with
    | some (.dk _ kvs) => (keyD key).map (valD kvs)
    | some (.dt _ kvs) => (tkeyD key).map (valD kvs)
    | _ => none
  | _ => none
theorem dk_at {Γ : Gm} {α : List Addr} {G H : Hp} {S : Store} {k : Nat} {a : Addr} {l : Bool} {kvs : List (Key × D)} (R : Rl Γ α G S H) (hk : S[k]? = some (.dk l kvs)) (ha : α[k]? = some a) : ∃ ws, RepKV Γ α G kvs ws ∧ Rd H a (.dK ws) := by
  obtain ⟨o, ⟨ws, r, e⟩, w⟩ := R.ok k _ a hk ha
  refine ⟨ws, r, ?_⟩
  rcases w with ⟨w, w1, _⟩ | ⟨w, w1⟩
  · rcases e with ⟨rfl, rfl⟩ | ⟨rfl, _⟩
    · exact .inl w1
    · cases w
  · rcases e with ⟨rfl, _⟩ | ⟨_, od, rfl⟩
    · cases w
    · exact .inr ⟨od, R.sub _ _ w1⟩
theorem dt_at {Γ : Gm} {α : List Addr} {G H : Hp} {S : Store} {k : Nat} {a : Addr} {l : Bool} {kvs : List (List Key × D)} (R : Rl Γ α G S H) (hk : S[k]? = some (.dt l kvs)) (ha : α[k]? = some a) : ∃ ws, RepKV Γ α G kvs ws ∧ Rd H a (.dT ws) := by
  obtain ⟨o, ⟨ws, r, e⟩, w⟩ := R.ok k _ a hk ha
  refine ⟨ws, r, ?_⟩
  rcases w with ⟨w, w1, _⟩ | ⟨w, w1⟩
  · rcases e with ⟨rfl, rfl⟩ | ⟨rfl, _⟩
    · exact .inl w1
    · cases w
  · rcases e with ⟨rfl, _⟩ | ⟨_, od, rfl⟩
    · cases w
    · exact .inr ⟨od, R.sub _ _ w1⟩
theorem tkey_at {Γ : Gm} {α : List Addr} {G H : Hp} {S : Store} {d : D} {y : V} {key : List Key} (R : Rl Γ α G S H) (h : tkeyD d = some key) (r : Rep Γ α G d y) : ∃ b, y = .ref b ∧ H b = some (.tup (key.map kV)) := by
  cases d <;> try (simp [tkeyD] at h; done)
  rename_i xs
  obtain ⟨b, vs, rfl, _, hb, rl⟩ := tup_at2 R r
  rw [keysD_rep (show keysD xs = some key from h) rl] at hb
  exact ⟨b, rfl, hb⟩
theorem dgetD_at {Γ : Gm} {α : List Addr} {G H : Hp} {S : Store} {d key : D} {v y : V} {o : Option D} (R : Rl Γ α G S H) (r : Rep Γ α G d v) (r2 : Rep Γ α G key y) (h : dgetD S d key = some o) :
    ∃ a ov, v = .ref a ∧ DGet H a y ov ∧ ov.isSome = o.isSome ∧ ∀ x, o = some x → ∃ w, ov = some w ∧ Rep Γ α G x w := by
  cases d <;> try (simp [dgetD] at h; done)
  rename_i k
  unfold Rep at r
  obtain ⟨a, rfl, ha⟩ := r
  unfold dgetD at h
  have fin : ∀ (ov : Option V) (o' : Option D), o' = o → ((∀ d, o' = some d → ∃ v, ov = some v ∧ Rep Γ α G d v) ∧ (o' = none → ov = none)) → ov.isSome = o.isSome ∧ ∀ x, o = some x → ∃ w, ov = some w ∧ Rep Γ α G x w := fun ov o' e z => by
    subst e
    refine ⟨?_, z.1⟩
    cases o' with
    | none => rw [z.2 rfl]; rfl
    | some x => obtain ⟨w, e, _⟩ := z.1 x rfl; rw [e]; rfl
  cases q : S[k]? with
  | none => simp [q] at h
  | some c =>
    cases c with
    | dk l kvs =>
      simp only [q, Option.map_eq_some_iff] at h
      obtain ⟨kk, hk, e⟩ := h
      obtain ⟨ws, rk, rd⟩ := dk_at R q ha
      exact ⟨a, valV ws kk, rfl, .inl ⟨ws, kk, rd, keyD_rep hk r2, rfl⟩, fin _ _ e (rk.val kk)⟩
    | dt l kvs =>
      simp only [q, Option.map_eq_some_iff] at h
      obtain ⟨kk, hk, e⟩ := h
      obtain ⟨ws, rk, rd⟩ := dt_at R q ha
      obtain ⟨b, rfl, hb⟩ := tkey_at R hk r2
      exact ⟨a, valV ws kk, rfl, .inr ⟨ws, kk, b, rd, rfl, hb, rfl⟩, fin _ _ e (rk.val kk)⟩
    | _ => simp [q] at h
def dgetK (d key : D) (S : Store) : Res D := match dgetD S d key with
  | some (some x) => .ok x S
  | _ => .no
def mDGet (mo mi : ME) : ME := fun ρ S => (mo ρ S).bind fun d S1 => (mi ρ S1).bind fun i S2 => dgetK d i S2
def dinK (y d : D) (S : Store) : Res D := match dgetD S d y with
  | some o => .ok (.bl o.isSome) S
  | none => .no
def dninK (y d : D) (S : Store) : Res D := match dgetD S d y with
  | some o => .ok (.bl (!o.isSome)) S
  | none => .no
def mDIn (mi mo : ME) : ME := fun ρ S => (mi ρ S).bind fun y S1 => (mo ρ S1).bind fun d S2 => dinK y d S2
def mDNin (mi mo : ME) : ME := fun ρ S => (mi ρ S).bind fun y S1 => (mo ρ S1).bind fun d S2 => dninK y d S2
def dget2K (d y z : D) (S : Store) : Res D := match dgetD S d y with
  | some o => .ok (o.getD z) S
  | none => .no
def mDGet2 (mo mi mf : ME) : ME := fun ρ S => (mo ρ S).bind fun d S1 => if (isDictS S1 d) then (mi ρ S1).bind fun y S2 => (mf ρ S2).bind fun z S3 => dget2K d y z S3 else .no
where isDictS (S : Store) (d : D) : Bool := match d with
  | .ref k => match S[k]? with
    | some (.dk _ _) => true
    | some (.dt _ _) => true
    | _ => false
  | _ => false
theorem isDict_at {Γ : Gm} {α : List Addr} {G H : Hp} {S : Store} {d : D} {v : V} (R : Rl Γ α G S H) (r : Rep Γ α G d v) (h : mDGet2.isDictS S d = true) : ∃ a, v = .ref a ∧ IsD H a := by
  cases d <;> try (simp [mDGet2.isDictS] at h; done)
  rename_i k
  unfold Rep at r
  obtain ⟨a, rfl, ha⟩ := r
  unfold mDGet2.isDictS at h
  cases q : S[k]? with
  | none => simp [q] at h
  | some c =>
    cases c with
    | dk l kvs => obtain ⟨ws, _, rd⟩ := dk_at R q ha; exact ⟨a, rfl, .inl ⟨ws, rd⟩⟩
    | dt l kvs => obtain ⟨ws, _, rd⟩ := dt_at R q ha; exact ⟨a, rfl, .inr ⟨ws, rd⟩⟩
    | _ => simp [q] at h
section
variable {X : Cx} {cl : Nat → Addr} {E : XK} {o i f : Expr} {mo mi mf : ME} {pos : Pos}
theorem snd_dget {to ti : TE} (ho : SndE ⟨X.K, cl⟩ E to mo) (hi : SndE ⟨X.K, cl⟩ E ti mi) : SndE ⟨X.K, cl⟩ E (tDGet to ti) (mDGet mo mi) := fun ρ S σ α G H Q hρ hR hp =>
  ho ρ S σ α G H _ hρ hR (post_bind hp fun d S1 α1 G1 H1 v _ e1 R1 r1 hp1 => hi ρ S1 σ α1 G1 H1 _ (hρ.mono e1) R1 (post_bind hp1 fun y S2 α2 G2 H2 u _ e2 R2 r2 hp2 => by
    unfold dgetK at hp2
    split at hp2
    · rename_i x hx
      obtain ⟨a, ov, rfl, g, _, z⟩ := dgetD_at R2 (Rep.mono e2.pre e2.sub _ _ r1) r2 hx
      obtain ⟨w, rfl, rw'⟩ := z x rfl
      exact ⟨a, w, rfl, g, post_ok hp2 R2 rw'⟩
    · exact hp2.elim))
theorem q_dget (hu : X.A.units + 1 < cLine) (ho : QE X cl E o mo) (hi : QE X cl E i mi) (hs : NoSl i := by exact fun _ _ => rfl) : QE X cl E (.Subscript o i pos) (mDGet mo mi) := by
  obtain ⟨t, h1, h2⟩ := ho.ex
  obtain ⟨u, k1, k2⟩ := hi.ex
  exact ⟨_, pe_dget hu h1 k1 hs, snd_dget h2 k2⟩
theorem snd_din {to ti : TE} (hi : SndE ⟨X.K, cl⟩ E ti mi) (ho : SndE ⟨X.K, cl⟩ E to mo) : SndE ⟨X.K, cl⟩ E (tDIn ti to) (mDIn mi mo) := fun ρ S σ α G H Q hρ hR hp =>
  hi ρ S σ α G H _ hρ hR (post_bind hp fun y S1 α1 G1 H1 u _ e1 R1 r1 hp1 => ho ρ S1 σ α1 G1 H1 _ (hρ.mono e1) R1 (post_bind hp1 fun d S2 α2 G2 H2 v _ e2 R2 r2 hp2 => by
    unfold dinK at hp2
    split at hp2
    · rename_i ov hx
      obtain ⟨a, w, rfl, g, z, _⟩ := dgetD_at R2 r2 (Rep.mono e2.pre e2.sub _ _ r1) hx
      exact ⟨a, w, rfl, g, post_ok hp2 R2 (by simp [Rep, z])⟩
    · exact hp2.elim))
theorem snd_dnin {to ti : TE} (hi : SndE ⟨X.K, cl⟩ E ti mi) (ho : SndE ⟨X.K, cl⟩ E to mo) : SndE ⟨X.K, cl⟩ E (tDNotIn ti to) (mDNin mi mo) := fun ρ S σ α G H Q hρ hR hp =>
  hi ρ S σ α G H _ hρ hR (post_bind hp fun y S1 α1 G1 H1 u _ e1 R1 r1 hp1 => ho ρ S1 σ α1 G1 H1 _ (hρ.mono e1) R1 (post_bind hp1 fun d S2 α2 G2 H2 v _ e2 R2 r2 hp2 => by
    unfold dninK at hp2
    split at hp2
    · rename_i ov hx
      obtain ⟨a, w, rfl, g, z, _⟩ := dgetD_at R2 r2 (Rep.mono e2.pre e2.sub _ _ r1) hx
      exact ⟨a, w, rfl, g, post_ok hp2 R2 (by simp [Rep, z])⟩
    · exact hp2.elim))
theorem q_tdin (hu : X.A.units + 1 < cLine) (hi : QE X cl E i mi) (ho : QE X cl E o mo) (hb : behindInMarks .In o = false := by rfl) : QT X cl E (.Compare i [.In] [o] pos) (mTB (mDIn mi mo)) := by
  obtain ⟨t, h1, h2⟩ := ho.ex
  obtain ⟨u, k1, k2⟩ := hi.ex
  exact ⟨_, pt_cmp (pc_din hu k1 h1) hb, snd_tB (snd_din k2 h2)⟩
theorem q_tdnin (hu : X.A.units + 1 < cLine) (hi : QE X cl E i mi) (ho : QE X cl E o mo) (hb : behindInMarks .NotIn o = false := by rfl) : QT X cl E (.Compare i [.NotIn] [o] pos) (mTB (mDNin mi mo)) := by
  obtain ⟨t, h1, h2⟩ := ho.ex
  obtain ⟨u, k1, k2⟩ := hi.ex
  exact ⟨_, pt_cmp (pc_dnotin hu k1 h1) hb, snd_tB (snd_dnin k2 h2)⟩
end
def dputD (S : Store) (o i d : D) : Option Store := match o with
  | .ref k => match S[k]? with
    | some (.dk false kvs) => match keyD i with
      | some key => if kvs.length ≤ 100000 then some (S.set k (.dk false (putD kvs key d))) else none
      | none => none
    | some (.dt false kvs) => match tkeyD i with
      | some key => if kvs.length ≤ 100000 then some (S.set k (.dt false (putD kvs key d))) else none
      | none => none
    | _ => none
  | _ => none
theorem dputD_at {Γ : Gm} {α : List Addr} {G H : Hp} {S S' : Store} {o i d : D} {v y w : V} (R : Rl Γ α G S H) (r : Rep Γ α G o v) (r2 : Rep Γ α G i y) (r3 : Rep Γ α G d w) (h : dputD S o i d = some S') :
    ∃ a H', v = .ref a ∧ DPut H a y w H' ∧ Rl Γ α G S' H' ∧ Ext α G H α G H' := by
  cases o <;> try (simp [dputD] at h; done)
  rename_i k
  unfold Rep at r
  obtain ⟨a, rfl, ha⟩ := r
  unfold dputD at h
  cases q : S[k]? with
  | none => simp [q] at h
  | some c =>
    cases c with
    | dk l kvs =>
      cases l <;> simp only [q] at h
      · cases hk : keyD i with
        | none => simp [hk] at h
        | some kk =>
          simp only [hk] at h
          split at h
          · rename_i hl
            cases h
            obtain ⟨o, ⟨ws, rk, e⟩, w1⟩ := R.ok k _ a q ha
            rcases e with ⟨_, rfl⟩ | ⟨e, _⟩
            · rcases w1 with ⟨_, w1, w2⟩ | ⟨w1, _⟩
              · obtain ⟨R2, e2⟩ := R.putC (c1 := .dk false (putD kvs kk d)) q ha rfl rfl ⟨_, rk.put r3, .inl ⟨rfl, rfl⟩⟩
                have := keyD_rep hk r2
                subst this
                exact ⟨a, _, rfl, DPut.k w1 (by rw [← rk.length]; exact Nat.lt_of_le_of_lt hl (by decide)), R2, e2⟩
              · cases w1
            · cases e
          · cases h
      · cases h
    | dt l kvs =>
      cases l <;> simp only [q] at h
      · cases hk : tkeyD i with
        | none => simp [hk] at h
        | some kk =>
          simp only [hk] at h
          split at h
          · rename_i hl
            cases h
            obtain ⟨o, ⟨ws, rk, e⟩, w1⟩ := R.ok k _ a q ha
            rcases e with ⟨_, rfl⟩ | ⟨e, _⟩
            · rcases w1 with ⟨_, w1, w2⟩ | ⟨w1, _⟩
              · obtain ⟨R2, e2⟩ := R.putC (c1 := .dt false (putD kvs kk d)) q ha rfl rfl ⟨_, rk.put r3, .inl ⟨rfl, rfl⟩⟩
                obtain ⟨b, rfl, hb⟩ := tkey_at R hk r2
                exact ⟨a, _, rfl, DPut.t w1 hb (by rw [← rk.length]; exact Nat.lt_of_le_of_lt hl (by decide)), R2, e2⟩
              · cases w1
            · cases e
          · cases h
      · cases h
    | _ => simp [q] at h
def dputK (o i d : D) (S : Store) : Res Unit := match dputD S o i d with
  | some S' => .ok () S'
  | none => .no
def mgDSub (mo mi : ME) : MG := fun d ρ S => (mo ρ S).bind fun o S1 => (mi ρ S1).bind fun i S2 => (dputK o i d S2).bind fun _ S3 => .ok ρ S3
section
variable {X : Cx} {cl : Nat → Addr} {E : XK} {o i e : Expr} {mo mi m : ME} {pos tpos : Pos}
theorem qg_dsub (hu : X.A.units + 1 < cLine) (ho : QE X cl E o mo) (hi : QE X cl E i mi)
    (ha : ∀ v, assign (.Subscript o i pos) X.env v = (do
      let ov ← holding [v] (eval o X.env)
      let iv ← holding [v, ov] (eval i X.env)
      standAt pos
      holding [v, ov, iv] (setItem ov iv v)
      release [v, ov, iv] []) := by intro _; rfl) : QG X cl E (.Subscript o i pos) (mgDSub mo mi) [] := by
  obtain ⟨t, h1, h2⟩ := ho.ex
  obtain ⟨u, k1, k2⟩ := hi.ex
  refine ⟨_, pg_sub h1 k1 (set_dict hu) ha, fun d ρ S σ α G H v Q hρ hR r hp => ?_⟩
  refine h2 ρ S σ α G H _ hρ hR (post_bind hp fun od S1 α1 G1 H1 ov q1 e1 R1 r1 hp1 => ?_)
  clear q1
  refine k2 ρ S1 σ α1 G1 H1 _ (hρ.mono e1) R1 (post_bind hp1 fun id S2 α2 G2 H2 iv q2 e2 R2 r2 hp2 => ?_)
  clear q2
  have r0 : Rep ⟨X.K, cl⟩ α2 G2 d v := Rep.mono e2.pre e2.sub _ _ (Rep.mono e1.pre e1.sub _ _ r)
  have ro : Rep ⟨X.K, cl⟩ α2 G2 od ov := Rep.mono e2.pre e2.sub _ _ r1
  unfold dputK at hp2
  cases q : dputD S2 od id d with
  | none => rw [q] at hp2; exact hp2.elim
  | some S' =>
    rw [q] at hp2
    obtain ⟨a, H', rfl, g, R3, e3⟩ := dputD_at R2 ro r2 r0 q
    exact ⟨a, H', rfl, g, hp2 _ _ _ σ e3 R3 (((hρ.mono e1).mono e2).mono e3) ⟨rfl, fun _ _ => rfl⟩⟩
end
end Q
namespace Q
open PySem L2
theorem Rl.adopt {Γ : Gm} {α : List Addr} {G H : Hp} {S : Store} (R : Rl Γ α G S H) {p : Addr} {c0 : Cell} {o0 : HO} (hp : H p = some o0) (na : p ∉ α) (ng : G p = none) (hl : c0.live = true) (r : RepC Γ α G p c0 o0) :
    Rl Γ (α ++ [p]) G (S ++ [c0]) H ∧ Rep Γ (α ++ [p]) G (.ref S.length) (.ref p) := by
  let H0 : Hp := fun a => if a = p then none else H a
  have h0 : ∀ a, a ≠ p → H0 a = H a := fun a h => if_neg h
  have R0 : Rl Γ α G S H0 := by
    have ne : ∀ a ∈ α, a ≠ p := fun a m z => by subst z; exact na m
    refine ⟨fun a o e => ?_, R.len, R.nd, fun a m => by rw [h0 a (ne a m)]; exact R.tr a m, fun k c a hc ha => ?_⟩
    · rw [h0 a (fun z => by subst z; rw [ng] at e; cases e)]; exact R.sub a o e
    · exact (R.ok k c a hc ha).mono ⟨[], by simp⟩ (Sub.refl G) fun _ => ⟨h0 a (ne a (List.mem_of_getElem? ha)), fun h => h⟩
  obtain ⟨R1, _, r1⟩ := R0.cellC (show H0 p = none from if_pos rfl) hl r
  have e : upd H0 p o0 = H := by
    funext a
    by_cases h : a = p
    · subst h; rw [upd_same, hp]
    · rw [upd_ne h, h0 a h]
  rw [e] at R1
  exact ⟨R1, r1⟩
theorem Ext.adopt {α α' : List Addr} {G G' H H' : Hp} (e : Ext α G H α' G' H') {p : Addr} (hp : H p = none) : Ext α G H (α' ++ [p]) G' H' := by
  refine ⟨?_, e.sub, e.fr, fun b m => ?_, e.ng⟩
  · obtain ⟨β, rfl⟩ := e.pre
    exact ⟨β ++ [p], by simp⟩
  · rcases List.mem_append.mp m with m | m
    · exact e.na b m
    · simp at m; subst m; exact .inr hp
theorem Ext.aside {Γ : Gm} {α α' : List Addr} {G G' H H' : Hp} {S : Store} (e : Ext α G H α' G' H') {p : Addr} {o : HO} (hp : H p = some o) (na : p ∉ α) (ng : G p = none) (nt : ∀ xs, o ≠ .tup xs) : H' p = some o ∧ p ∉ α' ∧ G' p = none := by
  refine ⟨e.fr p o hp na, fun m => ?_, ?_⟩
  · rcases e.na p m with z | z
    · exact na z
    · rw [hp] at z; cases z
  · cases q : G' p with
    | none => rfl
    | some u =>
      rcases e.ng p (by rw [q]; simp) with z | z | z | ⟨xs, z⟩
      · exact absurd ng z
      · exact absurd z na
      · rw [hp] at z; cases z
      · rw [hp] at z; exact absurd (Option.some.inj z) (nt xs)
def disp1K (k v : D) (S : Store) : Res D := match keyD k with
  | some key => .ok (.ref S.length) (S ++ [.dk false [(key, v)]])
  | none => .no
def mDDisp1 (mk mv : ME) : ME := fun ρ S => (mk ρ S).bind fun k S1 => (mv ρ S1).bind fun v S2 => disp1K k v S2
section
variable {X : Cx} {cl : Nat → Addr} {E : XK} {ek ev : Expr} {mk mv : ME} {pos : Pos}
theorem q_ddisp1 (hk : QE X cl E ek mk) (hv : QE X cl E ev mv) : QE X cl E (.Dict [some ek] [ev] pos) (mDDisp1 mk mv) := by
  obtain ⟨t, h1, h2⟩ := hk.ex
  obtain ⟨u, k1, k2⟩ := hv.ex
  refine ⟨_, pe_disp (pps_cons h1 k1 pps_nil) rfl rfl (by simp) (by simp), fun ρ S σ α G H Q hρ hR hp p hz => ?_⟩
  obtain ⟨R0, e0⟩ := hR.out hz (.dK [])
  have na : p ∉ α := fun m => hR.tr p m hz
  have ng : G p = none := hR.gnone hz
  refine h2 ρ S σ α G _ _ hρ R0 ?_
  revert hp
  unfold mDDisp1
  cases mk ρ S with
  | no => exact fun h => h.elim
  | ex e S' => exact fun h α' G' H' c x ex rl rp => h α' G' H' c x (e0.trans ex) rl rp
  | ok kd S1 =>
    intro hp α1 G1 H1 kv x1 R1 r1
    refine k2 ρ S1 σ α1 G1 H1 _ ((hρ.mono e0).mono x1) R1 ?_
    revert hp
    rw [bind_ok]
    cases mv ρ S1 with
    | no => exact fun h => h.elim
    | ex e S' => exact fun h α' G' H' c x ex rl rp => h α' G' H' c x ((e0.trans x1).trans ex) rl rp
    | ok vd S2 =>
      intro hp α2 G2 H2 vv x2 R2 r2
      obtain ⟨w1, w2, w3⟩ := (x1.trans x2).aside (Γ := ⟨X.K, cl⟩) (S := S) upd_same na ng (fun xs z => nomatch z)
      rw [bind_ok] at hp
      unfold disp1K at hp
      cases hk : keyD kd with
      | none => rw [hk] at hp; exact hp.elim
      | some key =>
        simp only [hk] at hp
        have hkv := keyD_rep hk r1
        subst hkv
        refine ⟨w1, [(key, vv)], rfl, by simp, ?_⟩
        have eM : mergeK [] [(key, vv)] = [(key, vv)] := rfl
        rw [eM]
        have R3 := R2.patch w2 w3 (.dK [(key, vv)])
        obtain ⟨R4, r4⟩ := R3.adopt (c0 := .dk false [(key, vd)]) upd_same w2 w3 rfl ⟨[(key, vv)], by
          unfold RepKV
          exact ⟨vv, [], rfl, r2, by simp [RepKV]⟩, .inl ⟨rfl, rfl⟩⟩
        exact hp _ _ _ _ ((((e0.trans x1).trans x2).patch hz _).adopt hz) R4 r4
end
mutual
theorem Rep.keeps {Γ : Gm} {α : List Addr} {G G' : Hp} (k : ∀ b o, G b = some o → (∀ od u, o = .frz od u → ∃ xs, u = .lst xs) → G' b = some o) : ∀ (d : D) (v : V), Rep Γ α G d v → Rep Γ α G' d v
  | .non, v, h => by simpa [Rep] using h
  | .bl b, v, h => by simpa [Rep] using h
  | .int i, v, h => by simpa [Rep] using h
  | .str s, v, h => by simpa [Rep] using h
  | .tup ds, v, h => by
    unfold Rep at h ⊢
    obtain ⟨a, vs, e, q, r⟩ := h
    exact ⟨a, vs, e, k _ _ q fun _ _ z => (nomatch z), RepL.keeps k ds vs r⟩
  | .lst ds, v, h => by
    unfold Rep at h ⊢
    obtain ⟨a, vs, e, q, r⟩ := h
    exact ⟨a, vs, e, k _ _ q fun _ _ z => (nomatch z), RepL.keeps k ds vs r⟩
  | .fro ds, v, h => by
    unfold Rep at h ⊢
    obtain ⟨a, vs, e, q, r⟩ := h
    refine ⟨a, vs, e, ?_, RepL.keeps k ds vs r⟩
    rcases q with (q | ⟨o, q⟩) | q
    · exact .inl (.inl (k _ _ q fun _ _ z => (nomatch z)))
    · exact .inl (.inr ⟨o, k _ _ q fun od u z => by cases z; exact ⟨vs, rfl⟩⟩)
    · exact .inr q
  | .obj c ds, v, h => by
    unfold Rep at h ⊢
    obtain ⟨a, vs, e, ⟨dx, h1, h2⟩, r⟩ := h
    exact ⟨a, vs, e, ⟨dx, k _ _ h1 (fun _ _ z => by unfold SlX.SlO at z; cases z), k _ _ h2 fun _ _ z => (nomatch z)⟩, RepL.keeps k ds vs r⟩
  | .exn c ds, v, h => by
    unfold Rep at h ⊢
    obtain ⟨a, vs, e, ⟨d, h1, h2⟩, r⟩ := h
    exact ⟨a, vs, e, ⟨d, k _ _ h1 (fun _ _ z => by unfold ExK at z; cases z), h2.keep fun _ _ z => k _ _ z fun _ _ y => (nomatch y)⟩, RepL.keeps k ds vs r⟩
  | .ref n, v, h => by
    unfold Rep at h ⊢
    exact h
theorem RepL.keeps {Γ : Gm} {α : List Addr} {G G' : Hp} (k : ∀ b o, G b = some o → (∀ od u, o = .frz od u → ∃ xs, u = .lst xs) → G' b = some o) : ∀ (ds : List D) (vs : List V), RepL Γ α G ds vs → RepL Γ α G' ds vs
  | [], vs, h => by simpa [RepL] using h
  | d :: ds, vs, h => by
    unfold RepL at h ⊢
    obtain ⟨v, r, e, h1, h2⟩ := h
    exact ⟨v, r, e, Rep.keeps k d v h1, RepL.keeps k ds r h2⟩
end
theorem RepKV.keeps {Γ : Gm} {α : List Addr} {G G' : Hp} {κ : Type} (k : ∀ b o, G b = some o → (∀ od u, o = .frz od u → ∃ xs, u = .lst xs) → G' b = some o) : ∀ {kvs : List (κ × D)} {ws : List (κ × V)}, RepKV Γ α G kvs ws → RepKV Γ α G' kvs ws
  | [], ws, h => by simpa [RepKV] using h
  | p :: r, ws, h => by
    unfold RepKV at h ⊢
    obtain ⟨v, t, e, h1, h2⟩ := h
    exact ⟨v, t, e, Rep.keeps k _ _ h1, RepKV.keeps k h2⟩
theorem RepC.keeps {Γ : Gm} {α : List Addr} {G G' : Hp} {a : Addr} {c : Cell} {o : HO} (k : ∀ b o, G b = some o → (∀ od u, o = .frz od u → ∃ xs, u = .lst xs) → G' b = some o) (h : RepC Γ α G a c o) : RepC Γ α G' a c o := by
  cases c with
  | lst ds => obtain ⟨vs, e, r⟩ := h; exact ⟨vs, e, RepL.keeps k _ _ r⟩
  | frz ds => obtain ⟨vs, e, r⟩ := h; exact ⟨vs, e, RepL.keeps k _ _ r⟩
  | dk lk kvs => obtain ⟨ws, r, e⟩ := h; exact ⟨ws, r.keeps k, e⟩
  | dt lk kvs => obtain ⟨ws, r, e⟩ := h; exact ⟨ws, r.keeps k, e⟩
  | ob c fs =>
    obtain ⟨dx, vs, e, hx, r⟩ := h
    refine ⟨dx, vs, e, k _ _ hx fun _ _ z => (nomatch z), fun i d hd => ?_⟩
    obtain ⟨v, e1, r1⟩ := r i d hd
    exact ⟨v, e1, Rep.keeps k _ _ r1⟩
theorem EnvR.keeps {Γ : Gm} {α : List Addr} {G G' : Hp} {ρ : Env} {σ : L2.St} (k : ∀ b o, G b = some o → (∀ od u, o = .frz od u → ∃ xs, u = .lst xs) → G' b = some o) (h : EnvR Γ α G ρ σ) : EnvR Γ α G' ρ σ :=
  ⟨h.1, fun i d hi => let ⟨v, a, b⟩ := h.2 i d hi; ⟨v, a, Rep.keeps k _ _ b⟩⟩
end Q
namespace Q
open PySem PySem.Spec PyProof.Rows L2
structure DSort (κ : Type) [DecidableEq κ] where
  kf : D → Option κ
  ho : List (κ × V) → HO
  ce : List (κ × D) → Cell
structure DSort.Ok {κ : Type} [DecidableEq κ] (s : DSort κ) : Prop where
  nil : s.ho [] = .dK [] ∨ s.ho [] = .dT []
  live : ∀ kvs, (s.ce kvs).live = true
  rep : ∀ (Γ : Gm) (α : List Addr) (G : Hp) (p : Addr) kvs ws, RepKV Γ α G kvs ws → RepC Γ α G p (s.ce kvs) (s.ho ws)
  ntup : ∀ ws xs, s.ho ws ≠ .tup xs
  put : ∀ (Γ : Gm) (α : List Addr) (G H : Hp) (S : Store) (d : D) k (y : V) (p : Addr) ws (z : V), Rl Γ α G S H → s.kf d = some k → Rep Γ α G d y → H p = some (s.ho ws) → ws.length < sizeLine → DPut H p y z (upd H p (s.ho (putK ws k z)))
section
variable {κ : Type} [DecidableEq κ]
structure MidX (Γ : Gm) (α1 : List Addr) (G1 H1 : Hp) (p : Addr) (α : List Addr) (G : Hp) (S : Store) (H : Hp) (o : HO) : Prop where
  ext : Ext α1 G1 H1 α G H
  rl : Rl Γ α G S H
  at_ : H p = some o
  na : p ∉ α
  ng : G p = none
variable {Γ : Gm} {α1 α α' : List Addr} {G1 H1 G H G' H' : Hp} {p : Addr} {S S' : Store} {o o' : HO}
theorem MidX.step (M : MidX Γ α1 G1 H1 p α G S H o) (nt : ∀ xs, o ≠ .tup xs) (e : Ext α G H α' G' H') (R : Rl Γ α' G' S' H') : MidX Γ α1 G1 H1 p α' G' S' H' o :=
  let ⟨w1, w2, w3⟩ := e.aside (Γ := Γ) (S := S) M.at_ M.na M.ng nt
  ⟨M.ext.trans e, R, w1, w2, w3⟩
theorem MidX.push (M : MidX Γ α1 G1 H1 p α G S H o) (hp : H1 p = none) (o' : HO) : MidX Γ α1 G1 H1 p α G S (upd H p o') o' :=
  ⟨M.ext.patch hp _, M.rl.patch M.na M.ng _, upd_same, M.na, M.ng⟩
variable {E : XK} {wi : TI} {mi : MA} {g : TG} {mg : MG} {js vs : List Nat} {tt : TT} {mt : MT} {tk tv : TE} {mk mv : ME} {s : DSort κ}
end
end Q
namespace Q
open PySem L2
def RPair : List Addr → Hp → Int × Int → Int × Int → Prop := fun _ _ a b => a = b
abbrev MRg := Env → Store → Res (Int × Int)
structure QRg (X : Cx) (cl : Nat → Addr) (E : XK) (e : Expr) (m : MRg) : Prop where
  ex : ∃ t, PRg X e t ∧ ∀ (ρ : Env) (S : Store) (σ : L2.St) (α : List Addr) (G H : Hp) (R : Int → Int → Hp → Prop), EnvR ⟨X.K, cl⟩ α G ρ σ → Rl ⟨X.K, cl⟩ α G S H → Post ⟨X.K, cl⟩ RPair α G H (m ρ S) (fun p H' => R p.1 p.2 H') E → t σ H R
section
variable {S : Store} {ρ : Env}
def dGetK1 (mi : ME) (ρ : Env) (d : D) (S : Store) : Res D := (mi ρ S).bind (dgetK d)
@[simp] theorem dGetK1_ap (mi : ME) (d : D) : dGetK1 mi ρ d S = (mi ρ S).bind (dgetK d) := (Eq.refl _).trans rfl
@[simp] theorem ap_dget (mo mi : ME) : mDGet mo mi ρ S = (mo ρ S).bind (dGetK1 mi ρ) := (Eq.refl _).trans rfl
def dInK1 (mo : ME) (ρ : Env) (y : D) (S : Store) : Res D := (mo ρ S).bind (dinK y)
@[simp] theorem dInK1_ap (mo : ME) (y : D) : dInK1 mo ρ y S = (mo ρ S).bind (dinK y) := (Eq.refl _).trans rfl
@[simp] theorem ap_din (mi mo : ME) : mDIn mi mo ρ S = (mi ρ S).bind (dInK1 mo ρ) := (Eq.refl _).trans rfl
def dNinK1 (mo : ME) (ρ : Env) (y : D) (S : Store) : Res D := (mo ρ S).bind (dninK y)
@[simp] theorem dNinK1_ap (mo : ME) (y : D) : dNinK1 mo ρ y S = (mo ρ S).bind (dninK y) := (Eq.refl _).trans rfl
@[simp] theorem ap_dnin (mi mo : ME) : mDNin mi mo ρ S = (mi ρ S).bind (dNinK1 mo ρ) := (Eq.refl _).trans rfl
theorem dgetD_k {k : Nat} {l : Bool} {kvs : List (Key × D)} {i : Int} (h : S[k]? = some (.dk l kvs)) : dgetD S (.ref k) (.int i) = some (valD kvs (.inl i)) := by simp [dgetD, h, keyD]
theorem dgetK_of {d y x : D} (h : dgetD S d y = some (some x)) : dgetK d y S = .ok x S := by simp [dgetK, h]
theorem dinK_of {d y : D} {o : Option D} (h : dgetD S d y = some o) : dinK y d S = .ok (.bl o.isSome) S := by simp [dinK, h]
theorem dninK_of {d y : D} {o : Option D} (h : dgetD S d y = some o) : dninK y d S = .ok (.bl (!o.isSome)) S := by simp [dninK, h]
def gDSubK2 (o d : D) (ρ : Env) (i : D) (S : Store) : Res Env := (dputK o i d S).bind fun _ S3 => .ok ρ S3
def gDSubK1 (mi : ME) (d : D) (ρ : Env) (o : D) (S : Store) : Res Env := (mi ρ S).bind (gDSubK2 o d ρ)
@[simp] theorem gDSubK1_ap (mi : ME) (d o : D) : gDSubK1 mi d ρ o S = (mi ρ S).bind (gDSubK2 o d ρ) := (Eq.refl _).trans rfl
@[simp] theorem ap_gdsub (mo mi : ME) (d : D) : mgDSub mo mi d ρ S = (mo ρ S).bind (gDSubK1 mi d ρ) := (Eq.refl _).trans rfl
theorem gDSub_of {o i d : D} {S' : Store} (h : dputD S o i d = some S') : gDSubK2 o d ρ i S = .ok ρ S' := by simp [gDSubK2, dputK, h]
theorem dputD_k {k : Nat} {kvs : List (Key × D)} {i : Int} {d : D} (h : S[k]? = some (.dk false kvs)) (hl : kvs.length ≤ 100000) : dputD S (.ref k) (.int i) d = some (S.set k (.dk false (putD kvs (.inl i) d))) := by simp [dputD, h, keyD, hl]
def disp1K1 (mv : ME) (ρ : Env) (k : D) (S : Store) : Res D := (mv ρ S).bind (disp1K k)
@[simp] theorem disp1K1_ap (mv : ME) (k : D) : disp1K1 mv ρ k S = (mv ρ S).bind (disp1K k) := (Eq.refl _).trans rfl
@[simp] theorem ap_disp1 (mk mv : ME) : mDDisp1 mk mv ρ S = (mk ρ S).bind (disp1K1 mv ρ) := (Eq.refl _).trans rfl
@[simp] theorem disp1K_int (i : Int) (v : D) : disp1K (.int i) v S = .ok (.ref S.length) (S ++ [.dk false [(.inl i, v)]]) := (Eq.refl _).trans rfl
end
end Q
namespace Q
open PySem PySem.Spec L2 PyProof.Rows
abbrev TC := L2.St → V → Hp → VK → Prop
abbrev MC := Env → D → Store → Res D
structure PC (X : Cx) (ops : List CmpOp) (es : List Expr) (t : TC) : Prop where
  run : ∀ (pos : Pos) (pins : List (Addr × Obj)) (s : Shared) (σ : L2.St) (H : Hp) (x : V) (v : Value) (Q : VK), Inv X pins σ H s → RelV x v → t σ x H Q →
    wpAny (model X.prog X.w) X.A (compareChain pos v ops (evalEach es X.env)) (EP X pins σ Q) X.xe s
  test : ∀ (pos : Pos) (pins : List (Addr × Obj)) (s : Shared) (σ : L2.St) (H : Hp) (x : V) (v : Value) (Q : Bool → Hp → Prop), Inv X pins σ H s → RelV x v → t σ x H (fun z H' => ∃ k, z = .bl k ∧ Q k H') →
    wpAny (model X.prog X.w) X.A (testChain pos v ops (evalEach es X.env)) (TP X pins σ Q) X.xe s
def SndCh (Γ : Gm) (E : XK) (t : TC) (m : MC) : Prop := ∀ (ρ : Env) (d : D) (S : Store) (σ : L2.St) (α : List Addr) (G H : Hp) (x : V) (Q : VK), EnvR Γ α G ρ σ → Rl Γ α G S H → Rep Γ α G d x → Post Γ (Rep Γ) α G H (m ρ d S) Q E → t σ x H Q
structure QCh (X : Cx) (cl : Nat → Addr) (E : XK) (ops : List CmpOp) (es : List Expr) (m : MC) : Prop where
  ex : ∃ t, PC X ops es t ∧ SndCh ⟨X.K, cl⟩ E t m
end Q
namespace Q
open PySem L2
end Q
namespace Q
open PySem L2
section
variable {X : Cx} {cl : Nat → Addr} {E : XK} {pos : Pos}
variable {o i : Expr} {mo mi : ME}
def dget1K (d y : D) (S : Store) : Res D := match dgetD S d y with
  | some o => .ok (o.getD .non) S
  | none => .no
def mDGet1 (mo mi : ME) : ME := fun ρ S => (mo ρ S).bind fun d S1 => if (mDGet2.isDictS S1 d) then (mi ρ S1).bind fun y S2 => dget1K d y S2 else .no
theorem q_dget1 {apos cpos : Pos} (hu : X.A.units + 1 < cLine) (ho : QE X cl E o mo) (hi : QE X cl E i mi) (m : M1 X o "get" apos i cpos := by exact ⟨rfl, rfl, rfl, rfl⟩) : QE X cl E (.Call (.Attribute o "get" apos) [i] [] cpos) (mDGet1 mo mi) := by
  obtain ⟨t, h1, h2⟩ := ho.ex
  obtain ⟨u, k1, k2⟩ := hi.ex
  refine ⟨_, pe_dget1 hu h1 k1 m, fun ρ S σ α G H Q hρ hR hp => h2 ρ S σ α G H _ hρ hR (post_bind hp fun d S1 α1 G1 H1 v _ e1 R1 r1 hp1 => ?_)⟩
  split at hp1
  · rename_i hd
    obtain ⟨a, rfl, hD⟩ := isDict_at R1 r1 hd
    refine ⟨a, rfl, hD, k2 ρ S1 σ α1 G1 H1 _ (hρ.mono e1) R1 (post_bind hp1 fun y S2 α2 G2 H2 u _ e2 R2 r2 hp2 => ?_)⟩
    unfold dget1K at hp2
    split at hp2
    · rename_i ov hx
      obtain ⟨a', w', ea, g, z1, z2⟩ := dgetD_at R2 (Rep.mono e2.pre e2.sub _ _ r1) r2 hx
      cases ea
      refine ⟨w', g, ?_⟩
      cases ov with
      | none =>
        cases w' with
        | none => exact post_ok hp2 R2 (by simp [Rep])
        | some _ => simp at z1
      | some x =>
        obtain ⟨w2, rfl, r4⟩ := z2 x rfl
        exact post_ok hp2 R2 r4
    · exact hp2.elim
  · exact hp1.elim
end
section
variable {S : Store} {ρ : Env}
def dGet1K2 (d : D) (y : D) (S : Store) : Res D := dget1K d y S
def dGet1K1 (mi : ME) (ρ : Env) (d : D) (S : Store) : Res D := if mDGet2.isDictS S d then (mi ρ S).bind (dGet1K2 d) else .no
@[simp] theorem ap_dget1 (mo mi : ME) : mDGet1 mo mi ρ S = (mo ρ S).bind (dGet1K1 mi ρ) := (Eq.refl _).trans rfl
theorem dGet1K1_k {k : Nat} {l : Bool} {kvs : List (Key × D)} {mi : ME} (h : S[k]? = some (.dk l kvs)) : dGet1K1 mi ρ (.ref k) S = (mi ρ S).bind (dGet1K2 (.ref k)) := by
  unfold dGet1K1 mDGet2.isDictS
  simp [h]
theorem dGet1K2_of {d y : D} {o : Option D} (h : dgetD S d y = some o) : dGet1K2 d y S = .ok (o.getD .non) S := by
  unfold dGet1K2 dget1K
  rw [h]
end
end Q
namespace L2
open PySem PySem.Spec PyProof.Rows
end L2
namespace Q
open PySem L2
end Q
namespace L2
open PySem PySem.Spec PyProof.Rows
end L2
namespace Q
open PySem L2
end Q
namespace L2
open PySem PySem.Spec PyProof.Rows
end L2
namespace Q
open PySem L2
end Q
namespace Q
open PySem L2
section
variable {X : Cx} {cl : Nat → Addr} {E : XK} {m : ME} {mt1 : MT} {pos : Pos}
def tI (Γ : Gm) (E : XK) (mi : MA) : TI := fun σ H R => ∃ ρ S α G, EnvR Γ α G ρ σ ∧ Rl Γ α G S H ∧ PostI Γ E α G H (mi ρ S) R
theorem QI.can {tg iter : Expr} {mi : MA} (h : QI X cl E tg iter mi) : PI X tg iter (tI ⟨X.K, cl⟩ E mi) := by
  obtain ⟨t, h1, h2⟩ := h.ex
  exact ⟨fun pins s σ H R I ⟨ρ, S, α, G, hρ, hR, hp⟩ => h1.run pins s σ H R I (h2 ρ S σ α G H R hρ hR hp)⟩
variable {elt tg iter tg1 iter1 c : Expr} {scope : Scope} {mi mi1 : MA} {mg mg1 : MG} {js js1 : List Nat}
variable {mt : MT}
end
end Q
namespace L2
open PySem PySem.Spec PyProof.Rows
end L2
namespace Q
open PySem L2
end Q
namespace L2
open PySem PySem.Spec PyProof.Rows
end L2
namespace Q
open PySem L2
end Q
set_option exponentiation.threshold 10000
namespace Q
open PySem L2
end Q
namespace Q
open PySem L2 PySem.Calls PyProof.Rows
structure SupSrc (st : Stmt) (txt : Str) : Prop where
  body : ∃ (j : Nat) (p0 p1 p2 p3 p4 p5 : Pos), defBody st = [.Expr (.Call (.Attribute (.Call (.Name "super" p0) [] [] p1) "__init__" p2) [.Constant (.str txt) j p3] [] p4) p5] ∧
    ∀ (qual : Str) (L fa cc : Addr) (cd : Value), ∃ pl : Sem Bool, eval (.Call (.Attribute (.Call (.Name "super" p0) [] [] p1) "__init__" p2) [.Constant (.str txt) j p3] [] p4) (PySem.W.ksEnv qual (defScope st) L fa cd cc) = (do
      let ov ← attributeBase (.Call (.Name "super" p0) [] [] p1) "__init__" (PySem.W.ksEnv qual (defScope st) L fa cd cc) (eval (.Call (.Name "super" p0) [] [] p1) (PySem.W.ksEnv qual (defScope st) L fa cd cc))
      standAt p2.atName
      let (fn, first) ← holding [ov] (getMethod ov "__init__" pl)
      callWith p4 fn first (backTo p4 (starEach [.Constant (.str txt) j p3] (PySem.W.ksEnv qual (defScope st) L fa cd cc))) [])
  arg : ∃ ar : Arg, (defArgs st).posonlyargs ++ (defArgs st).args = [ar] ∧ ar.arg = ("self" : Str)
  ns : (defScope st).names.lookup ("super" : Str) = some .globalImplicit
  nc : (defScope st).names.lookup ("__class__" : Str) = some .free
  nl : (defScope st).names.lookup ("self" : Str) = some .local
  ki : (defScope st).kind = .function
  it : ∀ (qual : Str) (L fa cc : Addr) (cd : Value), interactive (PySem.W.ksEnv qual (defScope st) L fa cd cc) = false
  co : (defScope st).isCoroutine = false
  ge : (defScope st).isGenerator = false
  ce : ∀ x ∈ (defScope st).names, x.2 ≠ .cell
  bi : ∀ (cc : Addr) (x qual : Str) (kV doc pm : Value) (an : Option Addr) (cdv ct u : Value), bindArgs (PySem.W.ksFn x qual (defArgs st) (defBody st) (defScope st) .none kV doc pm an cdv ct cc) ⟨[u], []⟩ = pure [(("self" : Str), u)]
structure ExcU (P : Program) (K : PySem.W.Frag) (C f : Addr) (B newId initId : String) (bmB : List Value) (st : Stmt) : Prop where
  fb : ExcBaseFacts B newId initId bmB
  kf : PySem.W.KxsFacts B initId
  ci : PySem.W.excInitIn K C bmB newId = true
  ini : PySem.W.findIn K (.ref C) "__init__" = some (some (.ref f))
  ty : PySem.W.typeIn K (.ref f) = some (.type "function")
  fn : ∃ (oc : Value) (od : Option Addr) (x qual : Str) (kV doc pm : Value) (an : Option Addr) (ct : Value) (osl : Array (Option Value)) (cc cda : Addr), K.lookup f = some ⟨oc, od, .func (PySem.W.ksFn x qual (defArgs st) (defBody st) (defScope st) .none kV doc pm an (.ref cda) ct cc), osl⟩ ∧ PySem.W.codeIn K (.ref cda) qual = true ∧
    (∃ ccl cdd vs ccs file tf, K.lookup cda = some ⟨ccl, cdd, .fields vs, ccs⟩ ∧ vs[2]? = some (.str file tf) ∧ ((P.main.file : Str) == file) = true) ∧ ∃ cl cld csl, K.lookup cc = some ⟨cl, cld, .cell (some (.ref C)), csl⟩
  cl : (PySem.W.clsIn K C).isSome = true
  ms : PySem.W.mroIn K C (.ref C) = some true
  nsu : PySem.W.nsIn K mainGlobals "super" = some none
  top : (P.main.scope.names.lookup ("super" : Str)).isSome = false
  any : PySem.W.nsIn K cStatics "thirdparty.any" = some none
  sup : PySem.W.ks_superIn K C C "__init__" = some (some (.builtin initId))
  sb : PySem.W.subIn K (.ref C) (.type B) = some true
  sbe : PySem.W.subIn K (.ref C) (.type "BaseException") = some true
  tyC : PySem.W.typeIn K (.ref C) = some (.type "type")
  kC : PySem.W.keepIn K (.ref C) = true
end Q
namespace Q
open PySem L2
section
variable {X : Cx} {cl : Nat → Addr} {W : WX} {E : XK} {e a b c : Expr} {pos : Pos}
def SndEX (Γ : Gm) (W : WX) (t : TE) (m : ME) : Prop := ∀ (ρ : Env) (S : Store) (σ : L2.St) (α : List Addr) (G H : Hp) (Q : VK), EnvR Γ α G ρ σ → Rl Γ α G S H → Post Γ (Rep Γ) α G H (m ρ S) Q (fun c d H' => W c d σ H') → t σ H Q
structure QEX (X : Cx) (cl : Nat → Addr) (W : WX) (e : Expr) (m : ME) : Prop where
  ex : ∃ t, PE X e t ∧ SndEX ⟨X.K, cl⟩ W t m
def SndX (Γ : Gm) (W : WX) (t : TS) (n : MS) : Prop := ∀ (ρ : Env) (S : Store) (σ : L2.St) (α : List Addr) (G H : Hp) (Dn : Ends), EnvR Γ α G ρ σ → Rl Γ α G S H → PostS Γ (fun c d H' => W c d σ H') α G H (n ρ S) Dn → t Dn σ H
structure QX (X : Cx) (cl : Nat → Addr) (W : WX) (st : Stmt) (n : MS) : Prop where
  ex : ∃ t, PS X st t ∧ SndX ⟨X.K, cl⟩ W t n
structure QXs (X : Cx) (cl : Nat → Addr) (W : WX) (st : List Stmt) (n : MS) : Prop where
  ex : ∃ t, PSs X st t ∧ SndX ⟨X.K, cl⟩ W t n
def tX (Γ : Gm) (W : WX) (n : MS) : TS := fun Dn σ H => ∃ ρ S α G, EnvR Γ α G ρ σ ∧ Rl Γ α G S H ∧ PostS Γ (fun c d H' => W c d σ H') α G H (n ρ S) Dn
theorem QXs.can {st : List Stmt} {n : MS} (h : QXs X cl W st n) : PSs X st (tX ⟨X.K, cl⟩ W n) := by
  obtain ⟨t, h1, h2⟩ := h.ex
  exact ⟨fun pins s σ H D I ⟨ρ, S, α, G, hρ, hR, hp⟩ => h1.run pins s σ H D I (h2 ρ S σ α G H D hρ hR hp)⟩
end
section
variable {ρ : Env} {S : Store}
@[simp] theorem nox_ex {β : Type} (e : Exn) : nox (Res.ex e S : Res β) = .no := rfl
end
end Q
namespace Q
open PySem L2
structure HdT (X : Cx) (cl : Nat → Addr) (ty : Expr) (cs : List (Nat × Bool)) : Prop where
  run : ∀ (a : Addr) (pn : List (Addr × Obj)) (σ : St) (H : Hp) (s : Shared) (oe : Obj) (c : Nat) (b : Bool) (Q : Bool → Shared → Prop) (E : Value → Shared → Prop), Inv (X.suite a pn) [] σ H s → s.heap.get? a = some oe → oe.cls = .ref (cl c) → cs.lookup c = some b →
    (∀ h' tk, (∀ b o, s.heap.get? b = some o → h'.get? b = some o) → Q b { s with heap := h', toks := tk }) → wpAny (model X.prog X.w) (X.A.mark (some (.ref a))) (eval ty X.env) (fun v s1 => wpAny (model X.prog X.w) (X.A.mark (some (.ref a))) (excMatches (.ref a) v) Q E s1) E s
structure Hd where
  cs : List (Nat × Bool)
  j : Nat
  ms : MS
inductive HdsQ (X : Cx) (cl : Nat → Addr) : List ExceptHandler → List Hd → Prop
  | nil : HdsQ X cl [] []
  | cons {ty : Expr} {n : Str} {b₀ : Stmt} {suite : List Stmt} {pos : Pos} {cs : List (Nat × Bool)} {j : Nat} {ms : MS} {hds : List ExceptHandler} {r : List Hd} (hi : X.N[j]? = some n) (hln : X.env.kindOf n = some .local) (ht : HdT X cl ty cs)
      (hsu : ∀ (a : Addr) (pn : List (Addr × Obj)), QSs (X.suite a pn) cl E0 (b₀ :: suite) ms) (k : HdsQ X cl hds r) : HdsQ X cl (.ExceptHandler (some ty) (some n) (b₀ :: suite) pos :: hds) (⟨cs, j, ms⟩ :: r)
end Q
namespace Q
open PySem L2
inductive NamesL (X : Cx) : List Expr → List Value → Prop
  | nil : NamesL X [] []
  | cons {x : Str} {p : Pos} {c : Value} {es : List Expr} {cs : List Value} (h : Names X x c) (k : NamesL X es cs) : NamesL X (.Name x p :: es) (c :: cs)
theorem NamesL.suite {X : Cx} {es : List Expr} {cs : List Value} (h : NamesL X es cs) (a : Addr) (pn : List (Addr × Obj)) : NamesL (X.suite a pn) es cs := by
  induction h with
  | nil => exact .nil
  | cons h k ih => exact .cons h ih
structure ExcQ (K : PySem.W.Frag) (C : Addr) : Prop where
  cl : (PySem.W.clsIn K C).isSome = true
  ga : PySem.W.findIn K (.ref C) "__getattribute__" = some (some (.builtin "BaseException.__getattribute__"))
  gg : PySem.W.findIn K (.ref C) "__getattr__" = some none
  sb : PySem.W.subIn K (.ref C) (.type "BaseException") = some true
  ca : PySem.W.findIn K (.ref C) "__class__" = some (some (.builtin "object.__class__"))
  cn : PySem.W.specialIn K (.builtin "object.__class__") "__get__" = some (some (.builtin "getset_descriptor.__get__"))
  ct : PySem.W.takesIn K (.builtin "object.__class__") = some true
  ob : PySem.W.mroIn K C (.type "object") = some true
@[simp] theorem isNon_exn (c : Nat) (fs : List D) : isNon (.exn c fs) = false := (Eq.refl _).trans rfl
@[simp] theorem pureD_exn (c : Nat) (fs : List D) : pureD (.exn c fs) = pureL fs := (Eq.refl _).trans rfl
end Q
namespace Q
open PySem L2 PySem.Spec PyProof.Rows
section
variable {X : Cx} {cl : Nat → Addr} {E : XK} {e : Expr} {m : ME} {pos : Pos}
def popLast (k : Nat) (S : Store) : Res D := match S[k]? with
  | some (.lst xs) => (match xs[xs.length - 1]? with
    | some x => .ok x (S.set k (.lst xs.dropLast))
    | none => .no)
  | _ => .no
def mPop0 (mo : ME) : ME := fun ρ S => (mo ρ S).bind fun o S1 => match o with
  | .ref k => if notOb S1 k = true then popLast k S1 else .no
  | _ => .no
theorem dropLast_rep {Γ : Gm} {α : List Addr} {G : Hp} : ∀ {xs : List D} {vs : List V}, RepL Γ α G xs vs → RepL Γ α G xs.dropLast vs.dropLast := fun {xs vs} h => by
  have := erase_rep (xs.length - 1) h
  have e1 : xs.eraseIdx (xs.length - 1) = xs.dropLast := List.eraseIdx_length_sub_one
  have e2 : vs.eraseIdx (xs.length - 1) = vs.dropLast := by rw [h.length, List.eraseIdx_length_sub_one]
  rw [e1, e2] at this
  exact this
theorem q_pop0 {o : Expr} {mo : ME} {apos cpos : Pos} (ho : QE X cl E o mo) (hbase : attributeBase o "pop" X.env (eval o X.env) = eval o X.env := by rfl)
    (hline : (apos.endLine == cpos.line) = true := by rfl) :
    QE X cl E (.Call (.Attribute o "pop" apos) [] [] cpos) (mPop0 mo) := by
  obtain ⟨t, h1, h2⟩ := ho.ex
  refine ⟨_, pe_bm0 PySem.F.plainAttrs_list PySem.F.slot_list_pop PySem.F.type_list_pop mt_pop h1 hbase hline, fun ρ S σ α G H Q hρ hR hp => ?_⟩
  refine h2 ρ S σ α G H _ hρ hR (post_bind hp fun od S1 α1 G1 H1 ov q1 e1 R1 r1 hp1 => ?_)
  clear q1
  cases od <;> try exact hp1.elim
  rename_i kk
  dsimp only at hp1
  split at hp1
  case isFalse => exact hp1.elim
  rename_i hno
  obtain ⟨p, rfl, ha1, htv⟩ := listy R1 r1 hno
  refine ⟨htv, ?_⟩
  unfold popLast at hp1
  split at hp1
  case h_2 => exact hp1.elim
  rename_i xs hc
  split at hp1
  case h_2 => exact hp1.elim
  rename_i x hx
  obtain ⟨vs, a1, a2, a3⟩ := (R1.ok kk _ p hc ha1).lst
  obtain ⟨y, hy, ry⟩ := a2.get hx
  obtain ⟨R3, e3⟩ := R1.put hc ha1 (dropLast_rep a2)
  rw [a2.length] at hy
  exact ⟨p, vs, y, rfl, rfl, a1, hy, hp1 _ _ _ y e3 R3 (Rep.mono e3.pre e3.sub _ _ ry)⟩
end
section
variable {ρ : Env} {S : Store}
def pop0K (o : D) (S : Store) : Res D := match o with
  | .ref k => if notOb S k = true then popLast k S else .no
  | _ => .no
@[simp] theorem ap_pop0 (mo : ME) : mPop0 mo ρ S = (mo ρ S).bind pop0K := (Eq.refl _).trans rfl
theorem pop0K_ref {k : Nat} {xs : List D} {x : D} (h : S[k]? = some (.lst (xs ++ [x]))) : pop0K (.ref k) S = .ok x (S.set k (.lst xs)) := by
  show (if notOb S k = true then _ else _) = _
  rw [if_pos (notOb_lst h)]
  unfold popLast
  rw [h]
  have e : (xs ++ [x])[(xs ++ [x]).length - 1]? = some x := by simp
  simp only [e, List.dropLast_concat]
end
end Q
namespace L2
open PySem PySem.Spec PyProof.Rows
end L2
namespace Q
open PySem L2
end Q
namespace L2
open PySem PySem.Spec PyProof.Rows PySem.W
end L2
namespace Q
open PySem L2
end Q
namespace L2
open PySem PySem.Spec PyProof.Rows PySem.W
end L2
namespace Q
open PySem L2
end Q
namespace Q
open PySem L2
section
open PySem.W PySem.Calls PyProof.Rows
variable {prog : Program} {w : World} {A : Around} {E : Value → Shared → Prop} {s : Shared} {K : Frag} {x C L f g : Addr} {h₀ : Heap} {m : Str → Option Value} {ox : Obj} {od : Option Obj} {i : Int} {t : Tok}
structure MulC (K : Frag) (C f g : Addr) : Prop where
  self : selfFirst K C = true
  mul : findIn K (.ref C) (dunder "mul") = some (some (.ref f))
  rmul : findIn K (.ref C) (dunderR "mul") = some (some (.ref g))
  fnf : isFn K (.ref f) = true
  fng : isFn K (.ref g) = true
  noint : subIn K (.ref C) (.type "int") = some false
end
section
variable {X : Cx} {C f g : Addr} {n : Nat} {sp : Sp} {E : XK} {CX : CXT}
open PyProof.Rows
structure MulI (K : PySem.W.Frag) (C : Addr) : Prop where
  fo : ∃ fo, PySem.W.findIn K (.type "int") (dunder "mul") = some fo
  ro : ∃ ro, PySem.W.findIn K (.type "int") (dunderR "mul") = some ro
  sub : PySem.W.subIn K (.type "int") (.ref C) = some false
structure AddC (K : PySem.W.Frag) (C f : Addr) : Prop where
  self : PySem.W.selfFirst K C = true
  add : PySem.W.findIn K (.ref C) (dunder "add") = some (some (.ref f))
  fnf : PySem.W.isFn K (.ref f) = true
end
section
open PySem.Spec PyProof.Rows
variable {X : Cx} {CX : CXT} {g : Addr} {C : Addr} {n : Nat} {sp : Sp} {E : XK}
structure InC (K : PySem.W.Frag) (C g : Addr) : Prop where
  at_ : PySem.W.findIn K (.ref C) "__contains__" = some (some (.ref g))
  fn : PySem.W.isFn K (.ref g) = true
end
end Q
namespace L2
open PySem PySem.Spec PyProof.Rows
end L2
namespace Q
open PySem L2
end Q
namespace Q
open PySem L2 PySem.Spec PyProof.Rows
structure FnG (P : Program) (w : World) (K : PySem.W.Frag) (mg : Str → Option Value) (base : Heap) (CX : CXT) (k : Nat) (f : Addr) (fd : FuncData) (ps : List Str) (sp : Sp) : Prop where
  size : ∀ vs H W E, sp vs H W E → vs.length = ps.length
  runs : ∀ (A : Around) (fs : List PySem.Env) (s : Shared) (H : Hp) (ar : Args) (us : List Value) (vs : List V) (W : VK) (E : XK), A.guards = some [] → Room k A → Env0 P w K mg base A fs s H → BindsTo s fd ar (ps.zip us) → Vals vs us → sp vs H W E →
    codeAny (model P w) A (.call (.ref f) ar) (CR CX fs P w H s W E) s
section
variable {P : Program} {w : World} {K : PySem.W.Frag} {mg : Str → Option Value} {base : Heap} {CX : CXT}
theorem FnG.of {k : Nat} {f : Addr} {fd : FuncData} {ps : List Str} {sp : Sp} (F : FnOk P w K mg base CX k f fd ps sp) : FnG P w K mg base CX k f fd ps sp :=
  ⟨F.len, fun A fs s H ar us vs W E _ r e b v h => F.run A fs s H ar us vs W E r e b v h⟩
theorem FnG.imp {k : Nat} {f : Addr} {fd : FuncData} {ps : List Str} {sp sp' : Sp} (F : FnG P w K mg base CX k f fd ps sp) (h : ∀ vs H W E, sp' vs H W E → sp vs H W E) : FnG P w K mg base CX k f fd ps sp' :=
  ⟨fun vs H W E q => F.size vs H W E (h _ _ _ _ q), fun A fs s H ar us vs W E g r e b v q => F.runs A fs s H ar us vs W E g r e b v (h _ _ _ _ q)⟩
end
mutual
def rpC : D → Nat
  | .non => 0
  | .bl _ => 0
  | .int i => if i.natAbs < 10 ^ 200 then 0 else 1000000000
  | .str s => s.cps.size
  | .tup xs => rpCL xs
  | .lst xs => rpCL xs
  | _ => 1000000000
def rpCL : List D → Nat
  | [] => 0
  | x :: xs => rpC x + 1 + rpCL xs
end
mutual
theorem rpC_bulk : ∀ (d : D), rpC d ≤ 65536 → (toPy d).bulk ≤ rpC d ∧ (toPy d).intsShort 201 = true ∧ (toPy d).showable = true
  | .non, _ => ⟨Nat.zero_le _, rfl, rfl⟩
  | .bl _, _ => ⟨Nat.zero_le _, rfl, rfl⟩
  | .int i, h => by
    unfold rpC at h
    split at h
    · rename_i c
      refine ⟨Nat.zero_le _, ?_, ?_⟩
      · unfold toPy PyData.intsShort
        refine decide_eq_true ?_
        show (Str.ofString (toString i)).length ≤ 201
        rw [PySem.ofString_length]
        exact int_text_length_le10 (k := 200) (by decide) c
      · unfold toPy PyData.showable
        refine decide_eq_true ?_
        by_cases z : i.natAbs = 0
        · rw [z]; decide
        · exact (Nat.log2_lt z).mpr (Nat.lt_trans c (by decide +kernel))
    · omega
  | .str s, _ => ⟨Nat.le_refl _, rfl, rfl⟩
  | .tup xs, h => by
    unfold rpC at h ⊢
    obtain ⟨a, b, c⟩ := rpCL_bulk xs h
    exact ⟨by unfold toPy PyData.bulk; exact a, by unfold toPy PyData.intsShort; exact b, by unfold toPy PyData.showable; exact c⟩
  | .lst xs, h => by
    unfold rpC at h ⊢
    obtain ⟨a, b, c⟩ := rpCL_bulk xs h
    exact ⟨by unfold toPy PyData.bulk; exact a, by unfold toPy PyData.intsShort; exact b, by unfold toPy PyData.showable; exact c⟩
  | .fro _, h => by unfold rpC at h; omega
  | .obj _ _, h => by unfold rpC at h; omega
  | .exn _ _, h => by unfold rpC at h; omega
  | .ref _, h => by unfold rpC at h; omega
theorem rpCL_bulk : ∀ (xs : List D), rpCL xs ≤ 65536 → PyData.bulkAll (toPyL xs) ≤ rpCL xs ∧ PyData.intsShortAll 201 (toPyL xs) = true ∧ PyData.showableAll (toPyL xs) = true
  | [], _ => ⟨Nat.zero_le _, rfl, rfl⟩
  | x :: xs, h => by
    unfold rpCL at h ⊢
    obtain ⟨a, b, c⟩ := rpC_bulk x (by omega)
    obtain ⟨a', b', c'⟩ := rpCL_bulk xs (by omega)
    refine ⟨?_, ?_, ?_⟩
    · unfold toPyL PyData.bulkAll; omega
    · unfold toPyL PyData.intsShortAll; rw [b, b']; rfl
    · unfold toPyL PyData.showableAll; rw [c, c']; rfl
end
end Q
namespace L2
open PySem PySem.Spec PyProof.Rows PySem.W
end L2
namespace Q
open PySem L2
end Q
namespace Q
open PySem L2
end Q
namespace Q
open PySem L2
end Q
namespace Q
open PySem L2
end Q
namespace Q
open PySem L2 PySem.Spec PyProof.Rows
def Cst.d : Cst → D
  | .bl b => .bl b
  | .int i => .int i
def Cst.v : Cst → V
  | .bl b => .bl b
  | .int i => .int i
theorem Cst.rep {Γ : Gm} {α : List Addr} {G : Hp} (c : Cst) : Rep Γ α G c.d c.v := by cases c <;> simp [Cst.d, Cst.v, Rep]
structure KwD (K : PySem.W.Frag) (f : Addr) (x : Str) (c : Cst) : Prop where
  ex : ∃ (oc : Value) (od : Option Addr) (fd : FuncData) (osl : Array (Option Value)) (E : Addr) (u : Value), K.lookup f = some ⟨oc, od, .func fd, osl⟩ ∧ fd.kwdefaults = .ref E ∧ PySem.W.nsIn K E x = some (some u) ∧ c.is u = true
end Q
namespace L2
open PySem PySem.Spec PyProof.Rows
end L2
namespace Q
open PySem L2
section
variable {Γ : Gm} {α : List Addr} {G H : Hp} {S : Store} {E : XK}
theorem Rl.see {a : Addr} {vs : List V} (R : Rl Γ α G S H) (h : H a = some (.tup vs)) : Sub G (upd G a (.tup vs)) ∧ Rl Γ α (upd G a (.tup vs)) S H := by
  have sb : Sub G (upd G a (.tup vs)) := fun b o hb => by
    by_cases e : b = a
    · subst e
      rw [upd_same]
      have := R.sub b o hb
      rw [h] at this
      exact this
    · rw [upd_ne e]; exact hb
  refine ⟨sb, ⟨fun b o hb => ?_, R.len, R.nd, R.tr, fun k c b hc hb => ?_⟩⟩
  · by_cases e : b = a
    · subst e
      rw [upd_same] at hb
      rw [h]; exact hb
    · rw [upd_ne e] at hb; exact R.sub b o hb
  · refine (R.ok k c b hc hb).mono ⟨[], by simp⟩ sb fun _ => ⟨rfl, fun hn => ?_⟩
    have ne : b ≠ a := fun e => by
      subst e
      exact R.ntup (List.mem_of_getElem? hb) vs h
    rw [upd_ne ne]; exact hn
end
end Q
namespace Q
open PySem L2 PySem.Spec PyProof.Rows
end Q
namespace Q
open PySem L2
end Q
set_option maxHeartbeats 1000000
namespace Q
namespace ZG
open PySem PySem.Sem
section
variable {prog : Program} {w : World} {A : Around}
structure Source (prog : Program) (w : World) (A : Around) (i l : Addr) (xs : Array Value) (P : Nat → Heap → Prop) : Prop where
  keep : ∀ {k h h'}, P k h → (∀ o, h.get? i = some o → h'.get? i = some o) → (∀ o, h.get? l = some o → h'.get? l = some o) → P k h'
  item : ∀ {k} {s : Shared} {x E Q}, P k s.heap → xs[k]? = some x → (∀ h', P (k + 1) h' → Heap.SameBut i s.heap h' → Q x { s with heap := h' }) → wpAny (model prog w) A (Builtin.SmallTypes.nextOf (.ref i)) Q E s
  done : ∀ {k} {s : Shared} {E Q}, P k s.heap → xs[k]? = none → (∀ h' e, Heap.ExtBut i s.heap h' → (∃ o, h'.get? e = some o ∧ o.cls = .type "StopIteration") → E (.ref e) { s with heap := h' }) → wpAny (model prog w) A (Builtin.SmallTypes.nextOf (.ref i)) Q E s
  lt : ∀ {k h}, P k h → i < h.objs.size
variable {z ti own p q u v : Addr} {k m : Nat} {xs ys : Array Value} {P₁ P₂ : Nat → Heap → Prop} {s : Shared} {E : Value → Shared → Prop}
end
end ZG
open PySem PySem.Spec PyProof.Rows L2 ZG
end Q
set_option maxHeartbeats 1000000
namespace Q
namespace ZG
open PySem PySem.Sem
end ZG
open PySem PySem.Spec PyProof.Rows L2 ZG
end Q
set_option maxHeartbeats 1000000
namespace L2
open PySem PySem.Spec PyProof.Rows
end L2
namespace Q
open PySem PySem.Spec PyProof.Rows L2
end Q
namespace Q
open PySem L2
end Q
namespace Q
open PySem L2
end Q
namespace Q
open PySem L2
end Q
namespace L2
open PySem PySem.Spec PyProof.Rows
end L2
namespace Q
open PySem L2
end Q
namespace Q
open PySem L2
end Q
namespace L2
open PySem PySem.Spec PyProof.Rows PySem.W
end L2
namespace Q
open PySem L2
end Q
namespace Q
open PySem L2
end Q
namespace Q
open PySem L2
end Q
namespace L2
open PySem PySem.Spec PyProof.Rows PySem.W
end L2
namespace Q
open PySem L2
end Q
namespace Q
open PySem PySem.HandSPX
end Q
namespace Q
open PySem L2 PySem.Calls PyProof.Rows PySem.HandSPX
structure SupSrc1 (st : Stmt) (txt par fl : Str) (e2 : Expr) : Prop where
  body : ∃ (j : Nat) (p0 p1 p2 p3 p4 p5 q1 q2 q3 : Pos), defBody st = [.Expr (.Call (.Attribute (.Call (.Name "super" p0) [] [] p1) "__init__" p2) [.Constant (.str txt) j p3] [] p4) p5, .Assign [.Attribute (.Name "self" q1) fl q2] e2 q3] ∧
    (∀ (qual : Str) (L fa cc : Addr) (cd : Value), ∃ pl : Sem Bool, eval (.Call (.Attribute (.Call (.Name "super" p0) [] [] p1) "__init__" p2) [.Constant (.str txt) j p3] [] p4) (PySem.W.ksEnv qual (defScope st) L fa cd cc) = (do
      let ov ← attributeBase (.Call (.Name "super" p0) [] [] p1) "__init__" (PySem.W.ksEnv qual (defScope st) L fa cd cc) (eval (.Call (.Name "super" p0) [] [] p1) (PySem.W.ksEnv qual (defScope st) L fa cd cc))
      standAt p2.atName
      let (fn, first) ← holding [ov] (getMethod ov "__init__" pl)
      callWith p4 fn first (backTo p4 (starEach [.Constant (.str txt) j p3] (PySem.W.ksEnv qual (defScope st) L fa cd cc))) [])) ∧
    ∀ (qual : Str) (L fa cc : Addr) (cd : Value), swapsWith e2 (some (.Attribute (.Name "self" q1) fl q2)) q3.line (PySem.W.ksEnv qual (defScope st) L fa cd cc) = pure false
  arg : ∃ ar ar2 : Arg, (defArgs st).posonlyargs ++ (defArgs st).args = [ar, ar2] ∧ ar.arg = ("self" : Str)
  ne : (("self" : Str) == par) = false
  ns : (defScope st).names.lookup ("super" : Str) = some .globalImplicit
  nc : (defScope st).names.lookup ("__class__" : Str) = some .free
  nl : (defScope st).names.lookup ("self" : Str) = some .local
  np : (defScope st).names.lookup par = some .local
  ki : (defScope st).kind = .function
  it : ∀ (qual : Str) (L fa cc : Addr) (cd : Value), interactive (PySem.W.ksEnv qual (defScope st) L fa cd cc) = false
  co : (defScope st).isCoroutine = false
  ge : (defScope st).isGenerator = false
  ce : ∀ x ∈ (defScope st).names, x.2 ≠ .cell
  bi : ∀ (cc : Addr) (x qual : Str) (kV doc pm : Value) (an : Option Addr) (cdv ct u v : Value), bindArgs (PySem.W.ksFn x qual (defArgs st) (defBody st) (defScope st) .none kV doc pm an cdv ct cc) ⟨[u, v], []⟩ = pure [(("self" : Str), u), (par, v)]
structure ExcS (K : PySem.W.Frag) (C : Addr) (B : String) (bmB : List Value) (fl : Str) : Prop where
  sf : PySem.StoreFacts B bmB "object.__setattr__" "object"
  sa : PySem.W.findIn K (.ref C) "__setattr__" = some (some (.builtin "object.__setattr__"))
  ov : PySem.W.excOver K C bmB = true
  hd : PySem.W.hasDictIn K C = true
  tk : PySem.W.takerIn K C fl = some none
end Q
namespace Q
open PySem L2 PySem.Calls PyProof.Rows
end Q
namespace Q
open PySem L2 PySem.Calls PyProof.Rows
section
variable {X : Cx} {cl : Nat → Addr} {E : XK} {pos : Pos}
structure XfQ (K : PySem.W.Frag) (C : Addr) (fl : Str) : Prop where
  c : XfC K C
  no : PySem.W.findIn K (.ref C) fl = some none
end
end Q
namespace Q
namespace ZG
open PySem PySem.Sem
abbrev IsZV (h : Heap) (z ti own : Addr) (f0 : Value) (f : Bool) : Prop := h.get? z = some { cls := .type "zip", dict := none, data := .fields #[f0, .bool f, .bool false, .ref ti, .ref own], slots := #[] }
def IsZF (h : Heap) (z ti own : Addr) : Prop := ∃ (f0 : Value) (f : Bool), IsZV h z ti own f0 f ∧ (f0 = .none ∨ ∃ T : Addr, f0 = rawInt T)
section
variable {prog : Program} {w : World} {A : Around}
variable {z ti own p q u v : Addr} {k m : Nat} {xs ys : Array Value} {P₁ P₂ : Nat → Heap → Prop} {s : Shared} {E : Value → Shared → Prop}
theorem IsZF.at {h g : Heap} (iz : IsZF h z ti own) (k : ∀ o, h.get? z = some o → g.get? z = some o) : IsZF g z ti own := by
  obtain ⟨f0, f, e, hf⟩ := iz
  exact ⟨f0, f, k _ e, hf⟩
end
end ZG
open PySem PySem.Spec PyProof.Rows L2 ZG
end Q
namespace Q
open PySem L2
end Q
namespace Q
open PySem L2
structure IAddC (K : PySem.W.Frag) (C f : Addr) : Prop where
  self : PySem.W.selfFirst K C = true
  iadd : PySem.W.findIn K (.ref C) (dunderI "add") = some (some (.ref f))
  fnf : PySem.W.isFn K (.ref f) = true
end Q
namespace Q
open PySem L2
end Q
namespace Q
open PySem L2
end Q
namespace Q
open PySem L2
structure SetC (K : PySem.W.Frag) (C f : Addr) : Prop where
  seq : PySem.W.noSeq K C = true
  at_ : PySem.W.findIn K (.ref C) "__setitem__" = some (some (.ref f))
  fnf : PySem.W.isFn K (.ref f) = true
end Q
namespace Q
open PySem L2
end Q
namespace Q
open PySem L2 PySem.Calls PyProof.Rows PySem.HandSPX
end Q
namespace Q
open PySem L2
abbrev Src := Store → Option (List D)
def StepsV (Γ : Gm) (α : List Addr) (src : Src) (J : It) : Prop := ∀ (i : Nat) (α2 : List Addr) (G2 H2 : Hp) (S2 : Store) (ds : List D), (∃ β, α2 = α ++ β) → Rl Γ α2 G2 S2 H2 → src S2 = some ds →
  (ds.length ≤ i → J.stop i H2) ∧ ∀ d, ds[i]? = some d → J.go i H2 ∧ ∀ x H3, J.yld i H2 x H3 → ∃ G3, Rl Γ α2 G3 S2 H3 ∧ Ext α2 G2 H2 α2 G3 H3 ∧ Rep Γ α2 G3 d x
abbrev MV := Env → Store → Res Src
def PostV (Γ : Gm) (E : XK) (α : List Addr) (G H : Hp) (r : Res Src) (R : It → Hp → Prop) : Prop := match r with
  | .ok s S' => ∀ α' G' H' J, Ext α G H α' G' H' → Rl Γ α' G' S' H' → StepsV Γ α' s J → R J H'
  | .ex e S' => ∀ α' G' H' c x, Ext α G H α' G' H' → Rl Γ α' G' S' H' → ExR Γ α' G' e c x H' → E c x H'
  | .no => False
theorem PostV.mono {Γ : Gm} {E : XK} {α α1 : List Addr} {G H G1 H1 : Hp} {r : Res Src} {R : It → Hp → Prop} (h : PostV Γ E α G H r R) (e : Ext α G H α1 G1 H1) : PostV Γ E α1 G1 H1 r R := by
  cases r with
  | ok d S' => exact fun α' G' H' v x rl rp => h α' G' H' v (e.trans x) rl rp
  | ex d S' => exact fun α' G' H' c x y rl rp => h α' G' H' c x (e.trans y) rl rp
  | no => exact h
def SndV (Γ : Gm) (E : XK) (wi : TI) (mi : MV) : Prop := ∀ (ρ : Env) (S : Store) (σ : L2.St) (α : List Addr) (G H : Hp) (R : It → Hp → Prop), EnvR Γ α G ρ σ → Rl Γ α G S H → PostV Γ E α G H (mi ρ S) R → wi σ H R
structure QV (X : Cx) (cl : Nat → Addr) (E : XK) (tg iter : Expr) (mi : MV) : Prop where
  ex : ∃ wi, PI X tg iter wi ∧ SndV ⟨X.K, cl⟩ E wi mi
end Q
namespace Q
open PySem L2
structure GetC (K : PySem.W.Frag) (C f : Addr) : Prop where
  at_ : PySem.W.findIn K (.ref C) "__getitem__" = some (some (.ref f))
  fni : PySem.W.fnIn K f = true
  fnf : PySem.W.isFn K (.ref f) = true
structure LenC (K : PySem.W.Frag) (C f : Addr) : Prop where
  at_ : PySem.W.findIn K (.ref C) "__len__" = some (some (.ref f))
  fnf : PySem.W.isFn K (.ref f) = true
mutual
def isTupD : D → Bool
  | .tup xs => isTupL xs
  | .non => true
  | .bl _ => true
  | .int _ => true
  | .str _ => true
  | .lst _ => false
  | .fro _ => false
  | .ref _ => false
  | .obj _ _ => false
  | .exn _ _ => false
def isTupL : List D → Bool
  | [] => true
  | d :: ds => isTupD d && isTupL ds
end
section
variable {Γ : Gm} {α : List Addr} {G H H' : Hp} {S : Store}
def Seen (Γ : Gm) (α : List Addr) (G H H' : Hp) (S : Store) (G1 : Hp) : Prop := Ext α G H α G1 H' ∧ Rl Γ α G1 S H'
theorem Seen.tup {G1 : Hp} {a : Addr} {vs : List V} (h : Seen Γ α G H H' S G1) (ha : H' a = some (.tup vs)) : Seen Γ α G H H' S (upd G1 a (.tup vs)) ∧ Sub G1 (upd G1 a (.tup vs)) := by
  obtain ⟨e, R⟩ := h
  obtain ⟨sb, R3⟩ := R.see ha
  refine ⟨⟨⟨⟨[], by simp⟩, e.sub.trans sb, e.fr, e.na, fun b hb => ?_⟩, R3⟩, sb⟩
  by_cases eb : b = a
  · subst eb
    by_cases m : b ∈ α
    · exact .inr (.inl m)
    · cases hb2 : H b with
      | none => exact .inr (.inr (.inl rfl))
      | some o =>
        have := e.fr b o hb2 m
        rw [ha] at this
        exact .inr (.inr (.inr ⟨vs, this.symm⟩))
  · rw [upd_ne eb] at hb
    exact e.ng b hb
mutual
theorem see_deep {α' : List Addr} {G' : Hp} (hs : Sub G' H') : ∀ (d : D) (v : V) (G1 : Hp), isTupD d = true → Rep Γ α' G' d v → Seen Γ α G H H' S G1 → ∃ G2, Sub G1 G2 ∧ Seen Γ α G H H' S G2 ∧ Rep Γ α G2 d v
  | .tup xs, v, G1, ht, r, h => by
    unfold isTupD at ht
    unfold Rep at r
    obtain ⟨a, vs, rfl, ga, rl⟩ := r
    obtain ⟨G2, s2, h2, r2⟩ := see_deepL hs xs vs G1 ht rl h
    obtain ⟨h3, s3⟩ := h2.tup (hs _ _ ga)
    refine ⟨_, s2.trans s3, h3, ?_⟩
    unfold Rep
    exact ⟨a, vs, rfl, upd_same, RepL.mono (α := α) ⟨[], by simp⟩ s3 _ _ r2⟩
  | .non, v, G1, _, r, h => ⟨G1, Sub.refl _, h, by simp only [Rep] at r ⊢; exact r⟩
  | .bl _, v, G1, _, r, h => ⟨G1, Sub.refl _, h, by simp only [Rep] at r ⊢; exact r⟩
  | .int _, v, G1, _, r, h => ⟨G1, Sub.refl _, h, by simp only [Rep] at r ⊢; exact r⟩
  | .str _, v, G1, _, r, h => ⟨G1, Sub.refl _, h, by simp only [Rep] at r ⊢; exact r⟩
  | .lst _, _, _, ht, _, _ => by simp [isTupD] at ht
  | .fro _, _, _, ht, _, _ => by simp [isTupD] at ht
  | .ref _, _, _, ht, _, _ => by simp [isTupD] at ht
  | .obj _ _, _, _, ht, _, _ => by simp [isTupD] at ht
  | .exn _ _, _, _, ht, _, _ => by simp [isTupD] at ht
theorem see_deepL {α' : List Addr} {G' : Hp} (hs : Sub G' H') : ∀ (ds : List D) (vs : List V) (G1 : Hp), isTupL ds = true → RepL Γ α' G' ds vs → Seen Γ α G H H' S G1 → ∃ G2, Sub G1 G2 ∧ Seen Γ α G H H' S G2 ∧ RepL Γ α G2 ds vs
  | [], vs, G1, _, r, h => ⟨G1, Sub.refl _, h, by unfold RepL at r ⊢; exact r⟩
  | d :: ds, vs, G1, ht, r, h => by
    unfold isTupL at ht
    rw [Bool.and_eq_true] at ht
    unfold RepL at r
    obtain ⟨v, w, rfl, r1, r2⟩ := r
    obtain ⟨G2, s2, h2, q2⟩ := see_deep hs d v G1 ht.1 r1 h
    obtain ⟨G3, s3, h3, q3⟩ := see_deepL hs ds w G2 ht.2 r2 h2
    refine ⟨G3, s2.trans s3, h3, ?_⟩
    unfold RepL
    exact ⟨v, w, rfl, Rep.mono (α := α) ⟨[], by simp⟩ s3 _ _ q2, q3⟩
end
end
end Q
namespace L2
open PySem PySem.Spec PyProof.Rows
def numKey : Nat → NestedKey → Bool
  | _, .num _ => true
  | n + 1, .tup ks => ks.all (numKey n)
  | _, _ => false
def IsN (h : Heap) (k : NestedKey) (b : Addr) : Prop := NestedIs h k (.ref b) ∧ numKey 8 k = true
section
variable {P : Program} {w : World} {A : Around} {E : Value → Shared → Prop} {s : Shared}
def rowsN (w : World) (L : List (Addr × NestedKey)) : List (Int × Value) := L.map fun p => (p.2.hash w, .ref p.1)
def hashN (w : World) (L : List (Addr × NestedKey)) : List Int := L.map fun p => p.2.hash w
structure SetN (w : World) (h : Heap) (a : Addr) (L : List (Addr × NestedKey)) (es : Array (Int × Value)) (ep : Nat) (t : SetTable) : Prop where
  ob : ∃ o, h.get? a = some o ∧ o.ExactSet ∧ o.data = .set es ep t
  rows : es.toList = rowsN w L
  tab : TabOk t (hashN w L)
  nd : (L.map (·.2)).Nodup
  key : ∀ p ∈ L, IsN h p.2 p.1
  plain : t.plain = true
  led : w.params.followText "set-order" = true ∨ t.led = true
  room : L.length * 5 < t.mask * 3
  few : L.length < 64
variable {a : Addr} {L : List (Addr × NestedKey)} {es : Array (Int × Value)} {ep : Nat} {t : SetTable}
end
structure GotN (ks : List (Addr × NestedKey)) (i : Nat) (L : List (Addr × NestedKey)) : Prop where
  sub : ∀ p ∈ L, p ∈ ks.take i
  all : ∀ p ∈ ks.take i, p.2 ∈ L.map (·.2)
  len : L.length ≤ i
section
variable {ks L L' : List (Addr × NestedKey)} {i : Nat} {x : Addr × NestedKey}
theorem GotN.zero (ks : List (Addr × NestedKey)) : GotN ks 0 [] := ⟨fun p h => (by cases h), fun p h => (by simp at h), Nat.le_refl _⟩
theorem GotN.same (g : GotN ks i L) (h : ks[i]? = some x) (hm : x.2 ∈ L.map (·.2)) : GotN ks (i + 1) L := by
  have e := take_next h
  refine ⟨fun p hp => by rw [e]; exact List.mem_append_left _ (g.sub p hp), fun p hp => ?_, Nat.le_succ_of_le g.len⟩
  rw [e] at hp
  rcases List.mem_append.mp hp with z | z
  · exact g.all p z
  · rw [List.mem_singleton.mp z]
    exact hm
theorem GotN.more (g : GotN ks i L) (h : ks[i]? = some x) (pm : L'.Perm (x :: L)) : GotN ks (i + 1) L' := by
  have e := take_next h
  refine ⟨fun p hp => ?_, fun p hp => ?_, by rw [pm.length_eq, List.length_cons]; exact Nat.succ_le_succ g.len⟩
  · rw [e]
    rcases List.mem_cons.mp (pm.mem_iff.mp hp) with rfl | z
    · exact List.mem_append_right _ (List.mem_singleton.mpr rfl)
    · exact List.mem_append_left _ (g.sub p z)
  · rw [(pm.map (·.2)).mem_iff, List.map_cons]
    rw [e] at hp
    rcases List.mem_append.mp hp with z | z
    · exact List.mem_cons_of_mem _ (g.all p z)
    · rw [List.mem_singleton.mp z]
      exact List.mem_cons_self
end
section
variable {P : Program} {w : World} {A : Around} {E : Value → Shared → Prop} {s : Shared}
theorem SetN.keep {h h' : Heap} {a : Addr} {L : List (Addr × NestedKey)} {es : Array (Int × Value)} {ep : Nat} {t : SetTable} (R : SetN w h a L es ep t) (ha : ∀ o, h.get? a = some o → h'.get? a = some o) (ht : ∀ p ∈ L, IsN h' p.2 p.1) : SetN w h' a L es ep t := by
  obtain ⟨o, ho, r⟩ := R.ob
  exact ⟨⟨o, ha o ho, r⟩, R.rows, R.tab, R.nd, ht, R.plain, R.led, R.room, R.few⟩
end
end L2
namespace L2
open PySem PySem.Spec PyProof.Rows PySem.W
end L2
namespace Q
open PySem L2
mutual
def nkD : D → NestedKey
  | .int i => .num i
  | .tup xs => .tup (nkDs xs)
  | _ => .none
def nkDs : List D → List NestedKey
  | [] => []
  | x :: xs => nkD x :: nkDs xs
end
end Q
namespace L2
open PySem PySem.Spec PyProof.Rows
end L2
namespace L2
open PySem PySem.Spec PyProof.Rows PySem.W
structure SetN0 (w : World) (h : Heap) (a : Addr) (L : List (Addr × NestedKey)) : Prop where
  ex : ∃ (es : Array (Int × Value)) (ep : Nat) (t : SetTable), (∃ o, h.get? a = some o ∧ o.ExactSet ∧ o.data = .set es ep t) ∧ es.toList = rowsN w L ∧ TabOk t (hashN w L) ∧ (L.map (·.2)).Nodup ∧ t.plain = true ∧
    (w.params.followText "set-order" = true ∨ t.led = true) ∧ L.length * 5 < t.mask * 3 ∧ L.length < 64
section
variable {w : World} {h : Heap} {a : Addr} {L : List (Addr × NestedKey)}
theorem SetN.n0 {es : Array (Int × Value)} {ep : Nat} {t : SetTable} (R : SetN w h a L es ep t) : SetN0 w h a L := ⟨es, ep, t, R.ob, R.rows, R.tab, R.nd, R.plain, R.led, R.room, R.few⟩
end
abbrev nk (p : Addr × _root_.Q.D) : Addr × NestedKey := (p.1, _root_.Q.nkD p.2)
end L2
namespace Q
open PySem L2
end Q
namespace L2
open PySem PySem.Spec PyProof.Rows
end L2
namespace Q
open PySem L2
end Q
set_option exponentiation.threshold 10000
namespace Q
open PySem L2
def mJs : List ME → Str → Env → Store → Res D
  | [], acc, _, S => .ok (.str acc) S
  | m :: ms, acc, ρ, S => (m ρ S).bind fun d S1 => match d with
    | .str y => if (acc ++ y).length ≤ 100000 then mJs ms (acc ++ y) ρ S1 else .no
    | _ => .no
section
variable {X : Cx} {cl : Nat → Addr} {E : XK} {a o e : Expr} {mo m ma : ME} {pos apos cpos : Pos}
def SndJ (Γ : Gm) (E : XK) (ts : List TE) (ms : List ME) : Prop := ∀ (acc : Str) (ρ : Env) (S : Store) (σ : St) (α : List Addr) (G H : Hp) (Q : VK), EnvR Γ α G ρ σ → Rl Γ α G S H → Post Γ (Rep Γ) α G H (mJs ms acc ρ S) Q E → tJs ts acc σ H fun out H1 => Q (.str out) H1
structure QJ (X : Cx) (cl : Nat → Addr) (E : XK) (es : List Expr) (ms : List ME) : Prop where
  ex : ∃ ts, PJ X es ts ∧ SndJ ⟨X.K, cl⟩ E ts ms
end
section
variable {ρ : Env} {S : Store}
def jsK (ms : List ME) (acc : Str) (ρ : Env) (d : D) (S : Store) : Res D := match d with
  | .str y => if (acc ++ y).length ≤ 100000 then mJs ms (acc ++ y) ρ S else .no
  | _ => .no
@[simp] theorem js_nil (acc : Str) : mJs [] acc ρ S = .ok (.str acc) S := (Eq.refl _).trans rfl
@[simp] theorem js_cons (m : ME) (ms : List ME) (acc : Str) : mJs (m :: ms) acc ρ S = (m ρ S).bind (jsK ms acc ρ) := (Eq.refl _).trans rfl
end
end Q
namespace L2
open PySem PySem.Spec PyProof.Rows Builtin Builtin.Str Builtin.Int
end L2
namespace Q
open PySem L2
end Q
namespace Mrg
open PySem
open Sem (wp)
end Mrg
namespace L2
open PySem PySem.Spec PyProof.Rows
open Sem (wp)
end L2
namespace L2
open PySem PySem.Spec PyProof.Rows
open Sem (wp)
end L2
namespace Mrg
open PySem
open Sem (wp)
end Mrg
namespace L2
open PySem PySem.Spec PyProof.Rows
open Sem (wp)
end L2
namespace Q
open PySem L2
end Q
namespace L2
open PySem PySem.Spec PyProof.Rows
open Sem (wp)
variable {X : Cx}
end L2
namespace Q
open PySem L2
end Q
namespace L2
open PySem PySem.Spec PyProof.Rows
end L2
namespace Q
open PySem L2
end Q
namespace L2
open PySem PySem.Spec PyProof.Rows
open Sem (wp)
end L2
namespace Q
open PySem L2
end Q
namespace Q
open PySem L2
open PySem.Spec PyProof.Rows
end Q
namespace Q
open PySem L2
end Q
namespace Q
open PySem L2
def snapO6 (S : Store) (o : Option D) : Option D := o.bind fun d => if pureD d then some d else if pureD (snap 6 S d) then some (snap 6 S d) else none
def snapE6 (S : Store) (ρ : Env) : Env := ρ.map (snapO6 S)
def mBorT6 (m : MT) : MT := fun ρ S => borTK S (m (snapE6 S ρ) [])
section
variable {Γ : Gm} {α : List Addr} {G H : Hp} {S : Store} {E : XK}
theorem env_snap6 {ρ : Env} {σ : L2.St} (hρ : EnvR Γ α G ρ σ) (R : Rl Γ α G S H) : EnvR Γ [] H (snapE6 S ρ) σ := by
  refine ⟨by simp [snapE6, hρ.1], fun i d hd => ?_⟩
  unfold snapE6 at hd
  rw [List.getElem?_map] at hd
  cases q : ρ[i]? with
  | none => rw [q] at hd; cases hd
  | some o =>
    rw [q] at hd
    cases o with
    | none => cases hd
    | some d0 =>
      obtain ⟨v, h1, h2⟩ := hρ.2 i d0 q
      refine ⟨v, h1, ?_⟩
      simp only [Option.map_some, Option.some.injEq, snapO6, Option.bind_some] at hd
      split at hd
      · rename_i hp
        cases hd
        exact rep_down d v hp R.sub h2
      · split at hd
        · rename_i hp
          cases hd
          exact rep_snap R 6 d0 v hp h2
        · cases hd
theorem snd_borT6 {t : TT} {m : MT} (h : SndT Γ E t m) : SndT Γ E t (mBorT6 m) := fun ρ S σ α G H Q hρ hR hp => by
  refine h _ [] σ [] H H Q (env_snap6 hρ hR) rl_bare ?_
  unfold mBorT6 borTK at hp
  split at hp
  · rename_i d S' q
    rw [q]
    intro α' G' H' v e R r
    obtain ⟨e2, R2⟩ := ext_back hR e
    exact hp α G H' v e2 R2 r
  · exact hp.elim
  · exact hp.elim
end
section
variable {X : Cx} {cl : Nat → Addr} {E : XK}
theorem q_borT6 {e : Expr} {m : MT} (h : QT X cl E e m) : QT X cl E e (mBorT6 m) := by
  obtain ⟨t, h1, h2⟩ := h.ex
  exact ⟨t, h1, snd_borT6 h2⟩
end
section
variable {S : Store} {ρ : Env}
@[simp] theorem ap_borT6 (m : MT) : mBorT6 m ρ S = borTK S (m (snapE6 S ρ) []) := (Eq.refl _).trans rfl
@[simp] theorem snapE6_nil : snapE6 S [] = [] := (Eq.refl _).trans rfl
@[simp] theorem snapE6_cons (o : Option D) : snapE6 S (o :: ρ) = snapO6 S o :: snapE6 S ρ := (Eq.refl _).trans rfl
@[simp] theorem snapO6_none : snapO6 S none = none := (Eq.refl _).trans rfl
theorem snapO6_pure {d : D} (h : pureD d = true) : snapO6 S (some d) = some d := by simp [snapO6, h]
theorem snapO6_is {k : Nat} {d : D} (h : snap 6 S (.ref k) = d) (hp : pureD d = true) : snapO6 S (some (.ref k)) = some d := by
  have e : pureD (.ref k) = false := rfl
  subst h
  simp only [snapO6, Option.bind_some, e, hp, if_true]
  rfl
end
end Q
namespace Q
open PySem PySem.Spec PyProof.Rows L2 He
section
variable {K : PySem.W.Frag} {h : Heap} {mg : Str → Option Value} {c i : Nat} {f m : Str}
theorem qf_glo (X : K.In h) (G : h.Ns mainGlobals mg) {x : Str} (e : (Qf.glo x).ok K = true) : mg x = some (.ref (ga K x)) := glo_ok X G e
theorem qf_free (X : K.In h) (G : h.Ns mainGlobals mg) {x : Str} (e : (Qf.free x).ok K = true) : mg x = none := free_ok X G e
structure IsiC (K : PySem.W.Frag) (C : Addr) : Prop where
  i : SlX.SIsi K C
  k : PySem.W.kitOne K (.ref C) (.ref C) = some true
  n : ∀ (S : Store) d, isOk S d = true → PySem.W.kitOne K (.type (tyN d)) (.ref C) = some false
structure EqC (K : PySem.W.Frag) (C g : Addr) : Prop where
  at_ : PySem.W.findIn K (.ref C) "__eq__" = some (some (.ref g))
  fn : PySem.W.isFn K (.ref g) = true
  ne : NeC K C g
  nf : PySem.W.notFirst K C (.ref C) = true
  nk : ∀ (S : Store) d, isOk S d = true → PySem.W.notFirst K C (.type (tyN d)) = true
end
theorem DefQ.fun {K : PySem.W.Frag} {d : DefQ} (hn : d.at_.cn = []) (e : fnQ K d = d.val) (c : d.ok K = true) : ∃ fd, Fun K d.name d.qual d.st (d.at_.ad K) fd := by
  obtain ⟨kp, c2⟩ := ba c
  unfold fnQ at e
  cases q : K.lookup (d.at_.ad K) with
  | none =>
    rw [q] at c2
    cases c2
  | some o =>
    obtain ⟨oc, od, dt, osl⟩ := o
    rw [q] at c2 e
    cases dt with
    | func fd =>
      obtain ⟨n1, n2, n3, n4, n5, n6, n7, n8, n9, n10, n11, n12, n13, n14, n15⟩ := fd
      have e2 : (some (n1, n2, n3, n4, n5, n6, n7.map (·.1), n15) : FnQ) = some (d.name, d.qual, defArgs d.st, .stmts (defBody d.st), defScope d.st, mainGlobals, d.at_.cn, builtinsNs) := e
      rw [hn] at e2
      simp only [Option.some.injEq, Prod.mk.injEq, List.map_eq_nil_iff] at e2
      obtain ⟨h1, h2, h3, h4, h5, h6, h7, h8⟩ := e2
      subst h1 h2 h3 h4 h5 h6 h7 h8
      obtain ⟨k1, k2⟩ := ba c2
      have k3 : n8 = .none := by
        clear q k1 c2 kp
        dsimp only at k2
        cases n8 <;> first | rfl | cases k2
      subst k3
      exact ⟨_, ⟨⟨oc, od, n9, n10, n11, n12, n13, n14, osl, rfl, q, k1⟩, kp⟩⟩
    | _ => cases c2
section
variable {fa : List Qf} {fn : List DefQ} {K : PySem.W.Frag}
theorem SaysQ.fact (c : SaysQ fa fn K) (i : Nat) {f : Qf} (h : fa[i]? = some f := by rfl) : f.ok K = true := by
  have c1 := (ba (show ((fa.all fun f => f.ok K) && fn.all fun d => d.ok K) = true from congrArg (fun z : AlQ => z.1) c)).1
  exact List.all_eq_true.mp c1 f (List.mem_of_getElem? h)
theorem SaysQ.both (c : SaysQ fa fn K) (i : Nat) {d : DefQ} (h : fn[i]? = some d := by rfl) : fnQ K d = d.val ∧ d.ok K = true := by
  have c2 := (ba (show ((fa.all fun f => f.ok K) && fn.all fun d => d.ok K) = true from congrArg (fun z : AlQ => z.1) c)).2
  have e : fn.map (fun d => fnQ K d) = fn.map DefQ.val := congrArg (fun z : AlQ => z.2) c
  have e2 : (fn.map fun d => fnQ K d)[i]? = (fn.map DefQ.val)[i]? := by rw [e]
  rw [List.getElem?_map, List.getElem?_map, h] at e2
  exact ⟨Option.some.inj e2, List.all_eq_true.mp c2 d (List.mem_of_getElem? h)⟩
theorem SaysQ.def_ (c : SaysQ fa fn K) (i : Nat) {d : DefQ} (h : fn[i]? = some d := by rfl) (hn : d.at_.cn = [] := by rfl) : ∃ fd, Fun K d.name d.qual d.st (d.at_.ad K) fd := DefQ.fun hn (c.both i h).1 (c.both i h).2
end
theorem bindsA0 {K : PySem.W.Frag} {x qual : Str} {st : Stmt} {f : Addr} {fd : FuncData} {us : List Value} {r : List (Str × Value)} (F : Fun K x qual st f fd)
    (h : ∀ (kV doc pm : Value) (an : Option Addr) (cdv ct : Value), bindArgs (PySem.W.fnOf x qual (defArgs st) (defBody st) (defScope st) .none kV doc pm an cdv ct) ⟨us, []⟩ = pure r) (s : Shared) : BindsTo s fd ⟨us, []⟩ r := by
  obtain ⟨oc, od, kV, doc, pm, an, cdv, ct, osl, rfl, lk, hcd⟩ := F.ex
  exact .of_eq (h kV doc pm an cdv ct)
end Q
namespace Lw
open PySem L2 Q
def m_l_cells : MS := (mSeq (mAsg (mOrV (mCall fListC (mCons (mSl (mVar 0) mNoO (mSoO (mVar 1))) mNil)) (mCell (mCons (mC (.int 0)) mNil))) (mgN 2))
  (mSeq (mFor (mEnum (mSl (mVar 0) (mSoO (mVar 1)) (mSoO (mC (.int 63))))) (mgTup 2 (mgCons (mgN 3) (mgCons (mgN 4) mgNil))) (mSeq (mAsg (mOp opModI (mCall fInt (mCons (mVar 3) mNil)) (mVar 1)) (mgN 5))
  (mAsg (mOp opAdd (mOp opIx (mVar 2) (mVar 5)) (mOp opMul (mVar 4) (mOp opAdd (mVar 3) (mC (.int 2))))) (mgSub (mVar 2) (mVar 5)))))
  (mRet (mFrz (mVar 2)))))
def f_l_cells : List D → Store → Res D := fnM 6 2 m_l_cells
def m_l_box : MS := (mSeq (mAsg (mIfE (mTB (mOp opLt (mVar 1) (mCall fLen (mCons (mVar 0) mNil)))) (mOp opIx (mVar 0) (mVar 1)) (mC (.int 0))) (mgN 2))
  (mRet (mCell (mCons (mOp opMul (mCall fAbs (mCons (mVar 2) mNil)) (mCall fInt (mCons (mOp opGe (mCall fAbs (mCons (mVar 2) mNil)) (mOp opPowI (mC (.int 10)) (mC (.int 18)))) mNil))) (mCons (mOp opAdd (mOp opAdd (mOp opModI (mCall fInt (mCons (mVar 2) mNil)) (mC (.int 2305843009213693951))) (mOp opMul (mC (.int 39373)) (mVar 1))) (mC (.int 832))) (mCons (mC (.int 0)) mNil))))))
def f_l_box : List D → Store → Res D := fnC 3 2 m_l_box
def m_l_same (self : List D → Store → Res D) : MS := (mSeq (mIf (mTest (mIsi2 .list .tuple (mVar 1))) (mSeq (mIf (mOrT (mTB (mOp opNe (mIsi .list (mVar 0)) (mIsi .list (mVar 1)))) (mTB (mOp opNe (mIsi .tuple (mVar 0)) (mIsi .tuple (mVar 1))))) (mRet (mC (.bl false))) mSkip)
  (mRet (mAndV (mOp opEq (mCall fLen (mCons (mVar 0) mNil)) (mCall fLen (mCons (mVar 1) mNil))) (mCall fAll (mCons (mLc (mZip (mCons (mVar 0) (mCons (mVar 1) mNil))) (mgTup 2 (mgCons (mgN 2) (mgCons (mgN 3) mgNil))) mYes (mCall (fPure self) (mCons (mVar 2) (mCons (mVar 3) mNil))) [2, 3]) mNil))))) mSkip)
  (mSeq (mIf (mOrT (mTB (mIsN (mVar 1))) (mTest (mIsi2 .bool .str (mVar 1)))) (mRet (mAndV (mOp opEq (mVar 0) (mVar 1)) (mAndV (mOp opEq (mIsi .bool (mVar 0)) (mIsi .bool (mVar 1))) (mOp opEq (mIsN (mVar 0)) (mIsN (mVar 1)))))) mSkip)
  (mRet (mAndV (mIsi .int (mVar 0)) (mAndV (mNotV (mIsi .bool (mVar 0))) (mOp opEq (mVar 0) (mVar 1)))))))
def f_l_same : Nat → List D → Store → Res D
  | 0 => fun _ _ => .no
  | k + 1 => fnM 4 2 (m_l_same (f_l_same k))
def m_p_tupled (self : List D → Store → Res D) : MS := (mRet (mIfE (mTest (mIsi2 .list .tuple (mVar 0))) (mCall fTuple (mCons (mLc (mItems (mVar 0)) (mgN 1) mYes (mCall (fPure self) (mCons (mVar 1) mNil)) [1]) mNil)) (mVar 0)))
def f_p_tupled : Nat → List D → Store → Res D
  | 0 => fun _ _ => .no
  | k + 1 => fnM 2 1 (m_p_tupled (f_p_tupled k))
def m_p_places_below : MS := (mPl 1 2 5 (mSortRev (mLc (mItems (mVar 0)) (mgTup 2 (mgCons (mgN 4) (mgCons (mgN 3) mgNil))) mYes (mTup (mCons (mVar 3) (mCons (mVar 4) mNil))) [4, 3]) (mC (.bl true))))
def f_p_places_below : List D → Store → Res D := fnM 6 2 m_p_places_below
def m_p_least : MS := (mSeq (mAsg (mCall (fPure (f_p_tupled 30)) (mCons (mVar 0) mNil)) (mgTup 3 (mgCons (mgN 1) (mgCons (mgN 2) (mgCons (mgN 3) mgNil)))))
  (mSeq (mAsg (mCell mNil) (mgN 4))
  (mSeq (mFor (mItems (mVar 3)) (mgN 5) (mSeq (mAsg (mLc (mItems (mVar 3)) (mgN 7) (mTB (mOp opNe (mVar 7) (mVar 5))) (mVar 7) [7]) (mgN 6))
  (mIf (mTB (mOp opNin (mOp opIx (mVar 5) (mC (.int 0))) (mCall (fPure f_p_places_below) (mCons (mVar 6) (mCons (mOp opIx (mVar 5) (mC (.int 1))) mNil))))) (mDrop (mApp (mVar 4) (mVar 5))) mSkip)))
  (mRet (mTup (mCons (mVar 1) (mCons (mVar 2) (mCons (mCall fTuple (mCons (mVar 4) mNil)) mNil))))))))
def f_p_least : List D → Store → Res D := fnM 8 1 m_p_least
def m_l_by_hand_right : MS := (mSeq (mAsg (mTup (mCons (mTup (mCons (mC (.int 0)) (mCons (mC (.int 2)) mNil))) (mCons (mTup (mCons (mC (.int 1)) (mCons (mC (.int 3)) mNil))) (mCons (mTup (mCons (mC (.int 2)) (mCons (mC (.int 4)) mNil))) (mCons (mTup (mCons (mC (.int 3)) (mCons (mC (.int 5)) mNil))) mNil))))) (mgN 0))
  (mSeq (mAsg (mLst (mCons (mTup (mCons (mC (.int 5)) (mCons (mTup (mCons (mC (.int 2)) (mCons (mC (.int 20)) mNil))) (mCons (mTup (mCons (mTup (mCons (mC (.int 0)) (mCons (mC (.int 2)) mNil))) (mCons (mTup (mCons (mC (.int 0)) (mCons (mC (.int 4)) mNil))) (mCons (mTup (mCons (mC (.int 1)) (mCons (mC (.int 3)) mNil))) (mCons (mTup (mCons (mC (.int 2)) (mCons (mC (.int 4)) mNil))) (mCons (mTup (mCons (mC (.int 3)) (mCons (mC (.int 5)) mNil))) mNil)))))) mNil)))) (mCons (mTup (mCons (mC (.int 5)) (mCons (mTup (mCons (mC (.int 1)) (mCons (mC (.int 10)) mNil))) (mCons (mVar 0) mNil)))) (mCons (mTup (mCons (mC (.int 3)) (mCons (mTup (mCons (mC (.int 1)) (mCons (mC (.int 10)) mNil))) (mCons (mTup mNil) mNil)))) mNil)))) (mgN 1))
  (mSeq (mAsg (mOp opAdd (mVar 1) (mLst (mCons (mTup (mCons (mC (.int 4)) (mCons (mTup (mCons (mC (.int 1)) (mCons (mC (.int 2)) mNil))) (mCons (mTup (mCons (mTup (mCons (mC (.int 0)) (mCons (mC (.int 1)) mNil))) (mCons (mTup (mCons (mC (.int 0)) (mCons (mC (.int 2)) mNil))) (mCons (mTup (mCons (mC (.int 0)) (mCons (mC (.int 3)) mNil))) (mCons (mTup (mCons (mC (.int 0)) (mCons (mC (.int 4)) mNil))) (mCons (mTup (mCons (mC (.int 1)) (mCons (mC (.int 2)) mNil))) (mCons (mTup (mCons (mC (.int 1)) (mCons (mC (.int 4)) mNil))) (mCons (mTup (mCons (mC (.int 2)) (mCons (mC (.int 3)) mNil))) (mCons (mTup (mCons (mC (.int 2)) (mCons (mC (.int 4)) mNil))) (mCons (mTup (mCons (mC (.int 3)) (mCons (mC (.int 4)) mNil))) mNil)))))))))) mNil)))) mNil))) (mgN 1))
  (mSeq (mAsg (mLc (mItems (mVar 1)) (mgN 7) mYes (mCall (fPure f_p_least) (mCons (mVar 7) mNil)) [7]) (mgN 2))
  (mSeq (mAsg (mLst (mCons (mTup (mCons (mC (.int 5)) (mCons (mTup (mCons (mC (.int 2)) (mCons (mC (.int 20)) mNil))) (mCons (mVar 0) mNil)))) (mCons (mTup (mCons (mC (.int 5)) (mCons (mTup (mCons (mC (.int 1)) (mCons (mC (.int 10)) mNil))) (mCons (mVar 0) mNil)))) (mCons (mTup (mCons (mC (.int 3)) (mCons (mTup (mCons (mC (.int 1)) (mCons (mC (.int 10)) mNil))) (mCons (mTup mNil) mNil)))) (mCons (mTup (mCons (mC (.int 4)) (mCons (mTup (mCons (mC (.int 1)) (mCons (mC (.int 2)) mNil))) (mCons (mTup (mCons (mTup (mCons (mC (.int 0)) (mCons (mC (.int 1)) mNil))) (mCons (mTup (mCons (mC (.int 1)) (mCons (mC (.int 2)) mNil))) (mCons (mTup (mCons (mC (.int 2)) (mCons (mC (.int 3)) mNil))) (mCons (mTup (mCons (mC (.int 3)) (mCons (mC (.int 4)) mNil))) mNil))))) mNil)))) mNil))))) (mgN 3))
  (mSeq (mAsg (mLc (mRange1 (mC (.int 20))) (mgN 8) mYes (mTup (mCons (mVar 8) (mCons (mOp opAdd (mVar 8) (mC (.int 1))) mNil))) [8]) (mgN 4))
  (mSeq (mAsg (mTup (mCons (mC (.int 60)) (mCons (mTup (mCons (mC (.int 1)) (mCons (mC (.int 2)) mNil))) (mCons (mCall fTuple (mCons (mSortL (mOp opAdd (mOp opAdd (mVar 4) (mLc (mRange1 (mC (.int 19))) (mgN 8) mYes (mTup (mCons (mVar 8) (mCons (mOp opAdd (mVar 8) (mC (.int 2))) mNil))) [8])) (mLst (mCons (mTup (mCons (mC (.int 0)) (mCons (mC (.int 20)) mNil))) mNil)))) mNil)) mNil)))) (mgN 5))
  (mSeq (mAsg (mTup (mCons (mC (.int 60)) (mCons (mTup (mCons (mC (.int 1)) (mCons (mC (.int 2)) mNil))) (mCons (mTup (mCons (mTup (mCons (mC (.int 0)) (mCons (mC (.int 30)) mNil))) (mCons (mTup (mCons (mC (.int 0)) (mCons (mC (.int 60)) mNil))) (mCons (mTup (mCons (mC (.int 29)) (mCons (mC (.int 60)) mNil))) (mCons (mTup (mCons (mC (.int 30)) (mCons (mC (.int 59)) mNil))) mNil))))) mNil)))) (mgN 6))
  (mRet (mCall (fPure (f_l_same 30)) (mCons (mOp opAdd (mVar 2) (mLst (mCons (mCall (fPure f_p_least) (mCons (mVar 5) mNil)) (mCons (mCall (fPure f_p_least) (mCons (mVar 6) mNil)) mNil)))) (mCons (mOp opAdd (mVar 3) (mLst (mCons (mTup (mCons (mC (.int 60)) (mCons (mTup (mCons (mC (.int 1)) (mCons (mC (.int 2)) mNil))) (mCons (mCall fTuple (mCons (mVar 4) mNil)) mNil)))) (mCons (mVar 6) mNil)))) mNil))))))))))))
def f_l_by_hand_right : List D → Store → Res D := fnM 9 0 m_l_by_hand_right
def m_l_take : MS := (mSeq (mIf (mTB (mOp opGt (mOp opIx (mVar 0) (mC (.int 0))) (mC (.int 0)))) (mSeq (mAsg (mOp opModI (mCall fInt (mCons (mOp opIx (mVar 0) (mC (.int 0))) mNil)) (mVar 1)) (mgN 2))
  (mSeq (mAsg (mOp opDivI (mOp opIx (mVar 0) (mC (.int 0))) (mVar 1)) (mgSub (mVar 0) (mC (.int 0))))
  (mRet (mVar 2)))) mSkip)
  (mSeq (mAsg (mOp opAdd (mOp opIx (mVar 0) (mC (.int 2))) (mC (.int 1))) (mgSub (mVar 0) (mC (.int 2))))
  (mSeq (mAsg (mOp opModI (mCall fInt (mCons (mOp opMul (mOp opAdd (mOp opIx (mVar 0) (mC (.int 1))) (mOp opMul (mC (.int 48271)) (mOp opIx (mVar 0) (mC (.int 2))))) (mOp opAdd (mC (.int 39373)) (mOp opIx (mVar 0) (mC (.int 2))))) mNil)) (mC (.int 2147483647))) (mgN 3))
  (mSeq (mAsg (mOp opAdd (mOp opModI (mCall fInt (mCons (mVar 3) mNil)) (mC (.int 40009))) (mC (.int 7))) (mgN 4))
  (mSeq (mAsg (mOp opModI (mCall fInt (mCons (mOp opMul (mOp opAdd (mOp opAdd (mVar 3) (mOp opIx (mVar 0) (mC (.int 2)))) (mOp opDivI (mOp opIx (mVar 0) (mC (.int 1))) (mC (.int 1000003)))) (mVar 4)) mNil)) (mC (.int 2147483629))) (mgN 5))
  (mRet (mOp opModI (mCall fInt (mCons (mOp opDivI (mOp opModI (mCall fInt (mCons (mOp opAdd (mOp opMul (mVar 5) (mC (.int 48271))) (mVar 3)) mNil)) (mC (.int 2147483587))) (mC (.int 64))) mNil)) (mVar 1))))))))
def f_l_take : List D → Store → Res D := fnM 6 2 m_l_take
def m_p_sure : MS := (mSeq (mAsg (mCall (fPure (f_p_tupled 30)) (mCons (mVar 0) mNil)) (mgTup 3 (mgCons (mgN 1) (mgCons (mgN 2) (mgCons (mgN 3) mgNil)))))
  (mSeq (mAsg (mCell mNil) (mgN 4))
  (mSeq (mFor (mRange2 (mC (.int 1)) (mOp opAdd (mVar 1) (mC (.int 1)))) (mgN 5) (mDrop (mExt (mVar 4) (mLc (mItems (mCall (fPure f_p_places_below) (mCons (mVar 3) (mCons (mVar 5) mNil)))) (mgN 6) (mTB (mOp opNe (mVar 6) (mVar 5))) (mTup (mCons (mVar 6) (mCons (mVar 5) mNil))) [6]))))
  (mRet (mSortL (mVar 4))))))
def f_p_sure : List D → Store → Res D := fnM 7 1 m_p_sure
def m_p_reached : MS := (mRet (mCall (fPure f_p_places_below) (mCons (mOp opIx (mCall (fPure (f_p_tupled 30)) (mCons (mVar 0) mNil)) (mC (.int 2))) (mCons (mVar 1) mNil))))
def f_p_reached : List D → Store → Res D := fnM 2 2 m_p_reached
def m_p_tiling : MS := (mSeq (mAsg (mVar 1) (mgTup 2 (mgCons (mgN 2) (mgCons (mgN 3) mgNil))))
  (mSeq (mAsg (mDDisp1 (mVar 2) (mTup mNil)) (mgN 4))
  (mSeq (mFor (mItems (mOp opIx (mCall (fPure (f_p_tupled 30)) (mCons (mVar 0) mNil)) (mC (.int 2)))) (mgTup 2 (mgCons (mgN 5) (mgCons (mgN 6) mgNil))) (mIf (mAndT (mTB (mDIn (mVar 5) (mVar 4))) (mTB (mDNin (mVar 6) (mVar 4)))) (mAsg (mTup (mStar (mDGet (mVar 4) (mVar 5)) (mCons (mTup (mCons (mVar 5) (mCons (mVar 6) mNil))) mNil))) (mgDSub (mVar 4) (mVar 6))) mSkip))
  (mRet (mDGet1 (mVar 4) (mVar 3))))))
def f_p_tiling : List D → Store → Res D := fnM 7 2 m_p_tiling
def m_p_agree : MS := (mRet (mOp opEq (mOp opMul (mOp opIx (mVar 0) (mC (.int 0))) (mOp opIx (mVar 1) (mC (.int 1)))) (mOp opMul (mOp opIx (mVar 1) (mC (.int 0))) (mOp opIx (mVar 0) (mC (.int 1))))))
def f_p_agree : List D → Store → Res D := fnM 2 2 m_p_agree
def m_p_rises : MS := (mSeq (mAsg (mVar 0) (mgTup 2 (mgCons (mgN 2) (mgCons (mgN 3) mgNil))))
  (mRet (mLc (mRange2 (mVar 2) (mVar 3)) (mgN 4) (mAndT (mTB (mOp opNin (mVar 4) (mVar 1))) (mTB (mOp opIn (mOp opAdd (mVar 4) (mC (.int 1))) (mVar 1)))) (mVar 4) [4])))
def f_p_rises : List D → Store → Res D := fnM 5 2 m_p_rises
def m_p_falls : MS := (mSeq (mAsg (mVar 0) (mgTup 2 (mgCons (mgN 2) (mgCons (mgN 3) mgNil))))
  (mRet (mLc (mRange2 (mVar 2) (mVar 3)) (mgN 4) (mAndT (mTB (mOp opIn (mVar 4) (mVar 1))) (mTB (mOp opNin (mOp opAdd (mVar 4) (mC (.int 1))) (mVar 1)))) (mVar 4) [4])))
def f_p_falls : List D → Store → Res D := fnM 5 2 m_p_falls
def m_p_log_of : MS := (mSeq (mAsg (mVar 0) (mgTup 2 (mgCons (mgN 3) (mgCons (mgN 4) mgNil))))
  (mSeq (mAsg (mTup (mCons (mCall (fPure f_p_rises) (mCons (mTup (mCons (mC (.int 0)) (mCons (mVar 1) mNil))) (mCons (mVar 2) mNil))) (mCons (mCall (fPure f_p_falls) (mCons (mTup (mCons (mC (.int 0)) (mCons (mVar 1) mNil))) (mCons (mVar 2) mNil))) mNil))) (mgTup 2 (mgCons (mgN 5) (mgCons (mgN 6) mgNil))))
  (mRet (mCall fTuple (mCons (mLc (mRange1 (mVar 1)) (mgN 7) mYes (mTup (mCons (mIfE (mTB (mOp opIn (mVar 7) (mVar 6))) (mOp opSubI (mVar 4) (mVar 3)) (mC (.int 0))) (mCons (mIfE (mTB (mOp opIn (mVar 7) (mVar 5))) (mVar 3) (mC (.int 0))) mNil))) [7]) mNil)))))
def f_p_log_of : List D → Store → Res D := fnM 8 3 m_p_log_of
def m_p_parted_by_look : MS := (mSeq (mAsg (mVar 0) (mgTup 3 (mgCons (mgN 2) (mgCons (mgN 3) (mgCons (mgN 4) mgNil)))))
  (mSeq (mFor (mItems (mOp opIx (mVar 1) (mC (.int 2)))) (mgTup 2 (mgCons (mgN 5) (mgCons (mgN 6) mgNil))) (mSeq (mAsg (mCall (fPure f_p_places_below) (mCons (mVar 4) (mCons (mVar 6) mNil))) (mgN 7))
  (mIf (mTB (mOp opNin (mVar 5) (mVar 7))) (mRet (mCall (fPure f_p_log_of) (mCons (mVar 3) (mCons (mVar 2) (mCons (mCall fTuple (mCons (mVar 7) mNil)) mNil))))) mSkip)))
  (mRet (mC .non))))
def f_p_parted_by_look : List D → Store → Res D := fnM 8 2 m_p_parted_by_look
def m_p_parted_by_limit : MS := (mSeq (mAsg (mOp opIx (mVar 0) (mC (.int 1))) (mgTup 2 (mgCons (mgN 2) (mgCons (mgN 3) mgNil))))
  (mSeq (mAsg (mOp opIx (mVar 1) (mC (.int 1))) (mgTup 2 (mgCons (mgN 4) (mgCons (mgN 5) mgNil))))
  (mSeq (mIf (mTB (mOp opGt (mCall fLen (mCons (mOp opIx (mVar 0) (mC (.int 2))) mNil)) (mC (.int 0)))) (mRet (mOp opMul (mTup (mCons (mTup (mCons (mOp opSubI (mOp opSubI (mOp opAdd (mVar 3) (mVar 5)) (mVar 2)) (mVar 4)) (mCons (mOp opAdd (mVar 2) (mVar 4)) mNil))) mNil)) (mOp opIx (mVar 0) (mC (.int 0))))) mSkip)
  (mRet (mIfE (mTB (mOp opGt (mCall fLen (mCons (mOp opIx (mVar 1) (mC (.int 2))) mNil)) (mC (.int 0)))) (mOp opMul (mTup (mCons (mTup (mCons (mC (.int 0)) (mCons (mC (.int 1)) mNil))) mNil)) (mOp opIx (mVar 0) (mC (.int 0)))) (mC .non))))))
def f_p_parted_by_limit : List D → Store → Res D := fnM 6 2 m_p_parted_by_limit
def m_p_parting : MS := (mSeq (mPar 2 3 (mCons (mCall (fPure (f_p_tupled 30)) (mCons (mVar 0) mNil)) (mCons (mCall (fPure (f_p_tupled 30)) (mCons (mVar 1) mNil)) mNil)))
  (mSeq (mIf (mTB (mOp opNe (mOp opIx (mVar 2) (mC (.int 0))) (mOp opIx (mVar 3) (mC (.int 0))))) (fun _ _ => .no) mSkip)
  (mSeq (mIf (mTest (mCall (fPure f_p_agree) (mCons (mOp opIx (mVar 2) (mC (.int 1))) (mCons (mOp opIx (mVar 3) (mC (.int 1))) mNil)))) (mSeq (mAsg (mCall (fPure f_p_parted_by_look) (mCons (mVar 2) (mCons (mVar 3) mNil))) (mgN 4))
  (mRet (mIfE (mTB (mIsN (mVar 4))) (mCall (fPure f_p_parted_by_look) (mCons (mVar 3) (mCons (mVar 2) mNil))) (mVar 4)))) mSkip)
  (mSeq (mAsg (mOp opLt (mOp opMul (mOp opIx (mOp opIx (mVar 2) (mC (.int 1))) (mC (.int 0))) (mOp opIx (mOp opIx (mVar 3) (mC (.int 1))) (mC (.int 1)))) (mOp opMul (mOp opIx (mOp opIx (mVar 3) (mC (.int 1))) (mC (.int 0))) (mOp opIx (mOp opIx (mVar 2) (mC (.int 1))) (mC (.int 1))))) (mgN 5))
  (mRet (mIfE (mTest (mVar 5)) (mCall (fPure f_p_parted_by_limit) (mCons (mVar 2) (mCons (mVar 3) mNil))) (mCall (fPure f_p_parted_by_limit) (mCons (mVar 3) (mCons (mVar 2) mNil)))))))))
def f_p_parting : List D → Store → Res D := fnM 6 2 m_p_parting
def m_p_alike : MS := (mRet (mIsN (mCall (fPure f_p_parting) (mCons (mVar 0) (mCons (mVar 1) mNil)))))
def f_p_alike : List D → Store → Res D := fnM 2 2 m_p_alike
def m_l_told : MS := (mSeq (mAsg (mLst (mCons (mCall (fPure f_p_sure) (mCons (mVar 0) mNil)) (mCons (mCall (fPure f_p_least) (mCons (mVar 0) mNil)) (mCons (mCall (fPure f_p_reached) (mCons (mVar 0) (mCons (mOp opIx (mVar 0) (mC (.int 0))) mNil))) (mCons (mCall (fPure f_p_tiling) (mCons (mVar 0) (mCons (mTup (mCons (mC (.int 0)) (mCons (mOp opIx (mVar 0) (mC (.int 0))) mNil))) mNil))) mNil))))) (mgN 2))
  (mRet (mOp opAdd (mVar 2) (mLst (mCons (mCall (fPure f_p_alike) (mCons (mVar 0) (mCons (mVar 1) mNil))) (mCons (mCall (fPure f_p_parting) (mCons (mVar 1) (mCons (mVar 0) mNil))) mNil))))))
def f_l_told : List D → Store → Res D := fnM 3 2 m_l_told
def m_l_lists (self : List D → Store → Res D) : MS := (mRet (mIfE (mTest (mIsi2 .list .tuple (mVar 0))) (mLc (mItems (mVar 0)) (mgN 1) mYes (mCall (fPure self) (mCons (mVar 1) mNil)) [1]) (mVar 0)))
def f_l_lists : Nat → List D → Store → Res D
  | 0 => fun _ _ => .no
  | k + 1 => fnM 2 1 (m_l_lists (f_l_lists k))
def mC_l_lists (self : List D → Store → Res D) : MS := (mRet (mIfE (mTest (mIsi2 .list .tuple (mVar 0))) (mLcC (mItems (mVar 0)) (mgN 1) mYes (mCall (fCall self) (mCons (mVar 1) mNil)) [1]) (mVar 0)))
def c_l_lists : Nat → List D → Store → Res D
  | 0 => fun _ _ => .no
  | k + 1 => fnC 2 1 (mC_l_lists (c_l_lists k))
def m_l_filled (self : List D → Store → Res D) : MS := (mSeq (mFor (mEnum (mFrz (mVar 1))) (mgTup 2 (mgCons (mgN 2) (mgCons (mgN 3) mgNil))) (mIf (mTB (mOp opEq (mVar 2) (mCall fLen (mCons (mVar 0) mNil)))) (mDrop (mApp (mVar 0) (mVar 3))) (mIf (mAndT (mTest (mIsi .list (mVar 3))) (mTest (mIsi .list (mOp opIx (mVar 0) (mVar 2))))) (mDrop (mCall (fCall self) (mCons (mOp opIx (mVar 0) (mVar 2)) (mCons (mVar 3) mNil)))) (mAsg (mVar 3) (mgSub (mVar 0) (mVar 2))))))
  (mWhile (fun _ _ => 1000) (mTB (mOp opGt (mCall fLen (mCons (mVar 0) mNil)) (mCall fLen (mCons (mVar 1) mNil)))) (mDrop (mPop0 (mVar 0)))))
def f_l_filled : Nat → List D → Store → Res D
  | 0 => fun _ _ => .no
  | k + 1 => fnM 4 2 (m_l_filled (f_l_filled k))
def m_l_of : MS := (mRet (mOp opIx (mVar 1) (mCall (fCall f_l_take) (mCons (mVar 0) (mCons (mCall fLen (mCons (mVar 1) mNil)) mNil)))))
def f_l_of : List D → Store → Res D := fnM 2 2 m_l_of
def m_l_limit : MS := (mSeq (mAsg (mCall (fCall f_l_take) (mCons (mVar 0) (mCons (mC (.int 8)) mNil))) (mgN 1))
  (mSeq (mIf (mTB (mOp opEq (mVar 1) (mC (.int 0)))) (mRet (mTup (mCons (mOp opAdd (mC (.int 1)) (mCall (fCall f_l_take) (mCons (mVar 0) (mCons (mOp opPowI (mC (.int 10)) (mC (.int 18))) mNil)))) (mCons (mOp opAdd (mOp opAdd (mOp opPowI (mC (.int 10)) (mC (.int 18))) (mC (.int 1))) (mCall (fCall f_l_take) (mCons (mVar 0) (mCons (mOp opPowI (mC (.int 10)) (mC (.int 20))) mNil)))) mNil)))) mSkip)
  (mSeq (mIf (mTB (mOp opEq (mVar 1) (mC (.int 1)))) (mRet (mTup (mCons (mOp opAdd (mC (.int 2)) (mOp opMul (mCall (fCall f_l_take) (mCons (mVar 0) (mCons (mC (.int 3)) mNil))) (mC (.int 2)))) (mCons (mC (.int 20)) mNil)))) mSkip)
  (mRet (mCall (fCall f_l_of) (mCons (mVar 0) (mCons (mLst (mCons (mTup (mCons (mC (.int 1)) (mCons (mC (.int 10)) mNil))) (mCons (mTup (mCons (mC (.int 1)) (mCons (mC (.int 2)) mNil))) (mCons (mTup (mCons (mC (.int 1)) (mCons (mC (.int 100)) mNil))) (mCons (mTup (mCons (mC (.int 3)) (mCons (mC (.int 7)) mNil))) (mCons (mTup (mCons (mC (.int 99)) (mCons (mC (.int 100)) mNil))) (mCons (mTup (mCons (mC (.int 2)) (mCons (mC (.int 5)) mNil))) mNil))))))) mNil)))))))
def f_l_limit : List D → Store → Res D := fnM 2 1 m_l_limit
def m_l_looks : MS := (mSeq (mPar 3 4 (mCons (mCall (fCall f_l_take) (mCons (mVar 0) (mCons (mC (.int 4)) mNil))) (mCons (mCell mNil) mNil)))
  (mSeq (mAsg (mOp opAdd (mC (.int 1)) (mCall (fCall f_l_take) (mCons (mVar 0) (mCons (mCall fMin2 (mCons (mVar 1) (mCons (mC (.int 5)) mNil))) mNil)))) (mgN 5))
  (mSeq (mFor (mRange1 (mCall (fCall f_l_take) (mCons (mVar 0) (mCons (mOp opAdd (mVar 2) (mC (.int 1))) mNil)))) (mgN 6) (mSeq (mAsg (mCall (fCall f_l_take) (mCons (mVar 0) (mCons (mVar 1) mNil))) (mgN 7))
  (mIf (mTB (mOp opEq (mVar 3) (mC (.int 0)))) (mDrop (mApp (mVar 4) (mTup (mCons (mVar 7) (mCons (mOp opAdd (mOp opAdd (mVar 7) (mC (.int 1))) (mCall (fCall f_l_take) (mCons (mVar 0) (mCons (mOp opSubI (mVar 1) (mVar 7)) mNil)))) mNil))))) (mIf (mTB (mOp opEq (mVar 3) (mC (.int 1)))) (mDrop (mApp (mVar 4) (mTup (mCons (mVar 7) (mCons (mCall fMin2 (mCons (mVar 1) (mCons (mOp opAdd (mVar 7) (mVar 5)) mNil))) mNil))))) (mDrop (mApp (mVar 4) (mTup (mCons (mVar 7) (mCons (mCall fMin2 (mCons (mVar 1) (mCons (mOp opAdd (mOp opAdd (mVar 7) (mC (.int 1))) (mCall (fCall f_l_take) (mCons (mVar 0) (mCons (mC (.int 5)) mNil)))) mNil))) mNil)))))))))
  (mRet (mCall fTuple (mCons (mSortSet (mFrz (mVar 4))) mNil))))))
def f_l_looks : List D → Store → Res D := fnM 8 3 m_l_looks
def m_l_again_right : MS := (mSeq (mAsg (mOp opAdd (mC (.int 2)) (mCall (fCall f_l_take) (mCons (mVar 0) (mCons (mC (.int 6)) mNil)))) (mgN 1))
  (mSeq (mAsg (mLc (mRange1 (mC (.int 2))) (mgN 5) mYes (mTup (mCons (mVar 1) (mCons (mCall (fCall f_l_limit) (mCons (mVar 0) mNil)) (mCons (mCall (fCall f_l_looks) (mCons (mVar 0) (mCons (mVar 1) (mCons (mC (.int 8)) mNil)))) mNil)))) [5]) (mgN 2))
  (mSeq (mAsg (mLst (mCons (mCall (fPure f_l_told) (mCons (mOp opIx (mVar 2) (mC (.int 0))) (mCons (mOp opIx (mVar 2) (mC (.int 1))) mNil))) (mCons (mCall (fPure f_l_told) (mCons (mOp opIx (mVar 2) (mC (.int 1))) (mCons (mOp opIx (mVar 2) (mC (.int 0))) mNil))) mNil))) (mgN 3))
  (mSeq (mAsg (mCell (mCons (mCall (fCall (c_l_lists 30)) (mCons (mOp opIx (mVar 2) (mC (.int 0))) mNil)) (mCons (mCall (fCall (c_l_lists 30)) (mCons (mOp opIx (mVar 2) (mC (.int 1))) mNil)) mNil))) (mgN 4))
  (mSeq (mFor (mItems (mTup (mCons (mC (.int 1)) (mCons (mC (.int 0)) (mCons (mC (.int 1)) mNil))))) (mgN 5) (mSeq (mDrop (mCall (fCall (f_l_filled 30)) (mCons (mVar 4) (mCons (mLst (mCons (mCall (fCall (c_l_lists 30)) (mCons (mOp opIx (mVar 2) (mVar 5)) mNil)) (mCons (mCall (fCall (c_l_lists 30)) (mCons (mOp opIx (mVar 2) (mOp opSubI (mC (.int 1)) (mVar 5))) mNil)) mNil))) mNil))))
  (mIf (mBorT6 (mNotT (mTest (mCall (fPure (f_l_same 30)) (mCons (mCall (fPure f_l_told) (mCons (mOp opIx (mVar 4) (mC (.int 0))) (mCons (mOp opIx (mVar 4) (mC (.int 1))) mNil))) (mCons (mOp opIx (mVar 3) (mVar 5)) mNil)))))) (mRet (mC (.bl false))) mSkip)))
  (mRet (mC (.bl true))))))))
def f_l_again_right : List D → Store → Res D := fnM 6 1 m_l_again_right
def m_l_with : MS := (mRet (mTup (mCons (mOp opIx (mVar 0) (mC (.int 0))) (mCons (mOp opIx (mVar 0) (mC (.int 1))) (mCons (mCall fTuple (mCons (mSortSet (mOp opAdd (mCall fList (mCons (mOp opIx (mVar 0) (mC (.int 2))) mNil)) (mCall fList (mCons (mVar 1) mNil)))) mNil)) mNil)))))
def f_l_with : List D → Store → Res D := fnM 2 2 m_l_with
def m_l_without : MS := (mRet (mTup (mCons (mOp opIx (mVar 0) (mC (.int 0))) (mCons (mOp opIx (mVar 0) (mC (.int 1))) (mCons (mCall fTuple (mCons (mLc (mItems (mOp opIx (mVar 0) (mC (.int 2)))) (mgN 2) (mTB (mOp opNin (mVar 2) (mVar 1))) (mVar 2) [2]) mNil)) mNil)))))
def f_l_without : List D → Store → Res D := fnM 3 2 m_l_without
def m_l_book : MS := (mSeq (mAsg (mOp opAdd (mC (.int 1)) (mCall (fCall f_l_take) (mCons (mVar 0) (mCons (mVar 1) mNil)))) (mgN 3))
  (mRet (mTup (mCons (mVar 3) (mCons (mCall (fCall f_l_limit) (mCons (mVar 0) mNil)) (mCons (mCall (fCall f_l_looks) (mCons (mVar 0) (mCons (mVar 3) (mCons (mVar 2) mNil)))) mNil))))))
def f_l_book : List D → Store → Res D := fnM 4 3 m_l_book
def m_l_pick : MS := (mSeq (mPar 3 4 (mCons (mCall fListC (mCons (mVar 1) mNil)) (mCons (mCell mNil) mNil)))
  (mSeq (mFor (mRange1 (mCall fMin2 (mCons (mVar 2) (mCons (mCall fLen (mCons (mVar 3) mNil)) mNil)))) (mgN 5) (mDrop (mApp (mVar 4) (mPopAt (mVar 3) (mCall (fCall f_l_take) (mCons (mVar 0) (mCons (mCall fLen (mCons (mVar 3) mNil)) mNil)))))))
  (mRet (mFrz (mVar 4)))))
def f_l_pick : List D → Store → Res D := fnM 6 3 m_l_pick
def m_l_net : MS := (mSeq (mPar 3 4 (mCons (mOp opAdd (mC (.int 1)) (mCall (fCall f_l_take) (mCons (mVar 0) (mCons (mVar 1) mNil)))) (mCons (mLst mNil) mNil)))
  (mSeq (mFor (mRange1 (mVar 3)) (mgN 5) (mAsg (mOp opAdd (mVar 4) (mLc (mRange1 (mOp opSubI (mVar 3) (mVar 5))) (mgN 6) mYes (mTup (mCons (mVar 5) (mCons (mOp opAdd (mOp opAdd (mVar 5) (mC (.int 1))) (mVar 6)) mNil))) [6])) (mgN 4)))
  (mRet (mTup (mCons (mVar 3) (mCons (mCall (fCall f_l_limit) (mCons (mVar 0) mNil)) (mCons (mCall fTuple (mCons (mSortL (mCall (fCall f_l_pick) (mCons (mVar 0) (mCons (mVar 4) (mCons (mCall (fCall f_l_take) (mCons (mVar 0) (mCons (mOp opAdd (mVar 2) (mC (.int 1))) mNil))) mNil))))) mNil)) mNil)))))))
def f_l_net : List D → Store → Res D := fnM 7 3 m_l_net
def m_l_closed : MS := (mSeq (mAsg (mCall fListC (mCons (mVar 1) mNil)) (mgN 2))
  (mSeq (mFor (mItems (mSortRev (mLc (mItems (mVar 0)) (mgN 5) mYes (mTup (mCons (mOp opIx (mVar 5) (mC (.int 1))) (mCons (mOp opIx (mVar 5) (mC (.int 0))) mNil))) [5]) (mC (.bl true)))) (mgTup 2 (mgCons (mgN 3) (mgCons (mgN 4) mgNil))) (mIf (mAndT (mTB (mOp opIn (mVar 3) (mVar 2))) (mTB (mOp opNin (mVar 4) (mVar 2)))) (mDrop (mApp (mVar 2) (mVar 4))) mSkip))
  (mRet (mCall fTuple (mCons (mSortSet (mFrz (mVar 2))) mNil)))))
def f_l_closed : List D → Store → Res D := fnM 6 2 m_l_closed
def m_l_tiled : MS := (mRet (mOp opIn (mOp opIx (mVar 1) (mC (.int 0))) (mCall (fPure f_l_closed) (mCons (mVar 0) (mCons (mTup (mCons (mOp opIx (mVar 1) (mC (.int 1))) mNil)) mNil)))))
def f_l_tiled : List D → Store → Res D := fnM 2 2 m_l_tiled
def m_l_least : MS := (mSeq (mAsg (mLc (mItems (mOp opIx (mVar 0) (mC (.int 2)))) (mgN 2) (mNotT (mTest (mCall (fPure f_l_tiled) (mCons (mLc (mItems (mOp opIx (mVar 0) (mC (.int 2)))) (mgN 3) (mTB (mOp opNe (mVar 3) (mVar 2))) (mVar 3) [3]) (mCons (mVar 2) mNil))))) (mVar 2) [2]) (mgN 1))
  (mRet (mTup (mCons (mOp opIx (mVar 0) (mC (.int 0))) (mCons (mOp opIx (mVar 0) (mC (.int 1))) (mCons (mCall fTuple (mCons (mVar 1) mNil)) mNil))))))
def f_l_least : List D → Store → Res D := fnM 4 1 m_l_least
def m_l_added : MS := (mRet (mCall fTuple (mCons (mLc (mZip (mCons (mVar 0) (mCons (mVar 1) mNil))) (mgTup 2 (mgCons (mgN 2) (mgCons (mgN 3) mgNil))) mYes (mTup (mCons (mOp opAdd (mOp opIx (mVar 2) (mC (.int 0))) (mOp opIx (mVar 3) (mC (.int 0)))) (mCons (mOp opAdd (mOp opIx (mVar 2) (mC (.int 1))) (mOp opIx (mVar 3) (mC (.int 1)))) mNil))) [2, 3]) mNil)))
def f_l_added : List D → Store → Res D := fnM 4 2 m_l_added
def m_l_rises : MS := (mRet (mLc (mRange2 (mOp opIx (mVar 1) (mC (.int 0))) (mOp opIx (mVar 1) (mC (.int 1)))) (mgN 2) (mAndT (mTB (mOp opIn (mOp opAdd (mVar 2) (mC (.int 1))) (mVar 0))) (mTB (mOp opNin (mVar 2) (mVar 0)))) (mVar 2) [2]))
def f_l_rises : List D → Store → Res D := fnM 3 2 m_l_rises
def m_l_falls : MS := (mRet (mLc (mRange2 (mOp opIx (mVar 1) (mC (.int 0))) (mOp opIx (mVar 1) (mC (.int 1)))) (mgN 2) (mAndT (mTB (mOp opIn (mVar 2) (mVar 0))) (mTB (mOp opNin (mOp opAdd (mVar 2) (mC (.int 1))) (mVar 0)))) (mVar 2) [2]))
def f_l_falls : List D → Store → Res D := fnM 3 2 m_l_falls
def m_l_hills_log : MS := (mSeq (mAsg (mTup (mCons (mCall (fPure f_l_rises) (mCons (mVar 2) (mCons (mTup (mCons (mC (.int 0)) (mCons (mVar 1) mNil))) mNil))) (mCons (mCall (fPure f_l_falls) (mCons (mVar 2) (mCons (mTup (mCons (mC (.int 0)) (mCons (mVar 1) mNil))) mNil))) mNil))) (mgTup 2 (mgCons (mgN 3) (mgCons (mgN 4) mgNil))))
  (mSeq (mAsg (mOp opSubI (mOp opIx (mVar 0) (mC (.int 1))) (mOp opIx (mVar 0) (mC (.int 0)))) (mgN 5))
  (mRet (mCall fTuple (mCons (mLc (mRange1 (mVar 1)) (mgN 6) mYes (mTup (mCons (mOp opMul (mCall fInt (mCons (mOp opIn (mVar 6) (mVar 4)) mNil)) (mVar 5)) (mCons (mOp opMul (mCall fInt (mCons (mOp opIn (mVar 6) (mVar 3)) mNil)) (mOp opIx (mVar 0) (mC (.int 0)))) mNil))) [6]) mNil)))))
def f_l_hills_log : List D → Store → Res D := fnM 7 3 m_l_hills_log
def m_l_times : MS := (mRet (mCall fTuple (mCons (mLc (mItems (mVar 1)) (mgN 2) mYes (mTup (mCons (mOp opMul (mVar 0) (mOp opIx (mVar 2) (mC (.int 0)))) (mCons (mOp opMul (mVar 0) (mOp opIx (mVar 2) (mC (.int 1)))) mNil))) [2]) mNil)))
def f_l_times : List D → Store → Res D := fnM 3 2 m_l_times
def m_l_number : MS := (mSeq (mAsg (mCall (fCall f_l_take) (mCons (mVar 0) (mCons (mC (.int 6)) mNil))) (mgN 1))
  (mSeq (mIf (mTB (mOp opLt (mVar 1) (mC (.int 2)))) (mRet (mC (.int 0))) mSkip)
  (mSeq (mIf (mTB (mOp opLt (mVar 1) (mC (.int 4)))) (mRet (mOp opAdd (mC (.int 1)) (mCall (fCall f_l_take) (mCons (mVar 0) (mCons (mC (.int 12)) mNil))))) mSkip)
  (mRet (mIfE (mTB (mOp opEq (mVar 1) (mC (.int 4)))) (mCall (fCall f_l_take) (mCons (mVar 0) (mCons (mC (.int 1000)) mNil))) (mCall (fCall f_l_take) (mCons (mVar 0) (mCons (mOp opPowI (mC (.int 10)) (mC (.int 30))) mNil))))))))
def f_l_number : List D → Store → Res D := fnM 2 1 m_l_number
def m_l_quiet_log : MS := (mSeq (mAsg (mVar 1) (mgTup 3 (mgCons (mgN 2) (mgCons (mgN 3) (mgCons (mgN 4) mgNil)))))
  (mSeq (mAsg (mCall fTuple (mCons (mOp opMul (mLst (mCons (mTup (mCons (mC (.int 0)) (mCons (mC (.int 0)) mNil))) mNil)) (mVar 2)) mNil)) (mgN 5))
  (mSeq (mFor (mRange1 (mOp opAdd (mC (.int 1)) (mCall (fCall f_l_take) (mCons (mVar 0) (mCons (mC (.int 3)) mNil))))) (mgN 6) (mSeq (mAsg (mLc (mRange1 (mOp opAdd (mVar 2) (mC (.int 1)))) (mgN 10) (mTB (mOp opEq (mCall (fCall f_l_take) (mCons (mVar 0) (mCons (mC (.int 3)) mNil))) (mC (.int 0)))) (mVar 10) [10]) (mgN 7))
  (mSeq (mAsg (mCall (fPure f_l_hills_log) (mCons (mVar 3) (mCons (mVar 2) (mCons (mCall (fPure f_l_closed) (mCons (mVar 4) (mCons (mVar 7) mNil))) mNil)))) (mgN 8))
  (mAsg (mCall (fPure f_l_added) (mCons (mVar 5) (mCons (mCall (fPure f_l_times) (mCons (mCall (fCall f_l_number) (mCons (mVar 0) mNil)) (mCons (mVar 8) mNil))) mNil))) (mgN 5)))))
  (mSeq (mAsg (mCell mNil) (mgN 9))
  (mSeq (mFor (mRange1 (mVar 2)) (mgN 10) (mSeq (mAsg (mCall (fCall f_l_of) (mCons (mVar 0) (mCons (mLst (mCons (mC (.int 0)) (mCons (mC (.int 0)) (mCons (mC (.int 1)) (mCons (mCall (fCall f_l_number) (mCons (mVar 0) mNil)) mNil))))) mNil))) (mgN 11))
  (mSeq (mAsg (mCall (fCall f_l_of) (mCons (mVar 0) (mCons (mLst (mCons (mC (.int 0)) (mCons (mC (.int 0)) (mCons (mC (.int 0)) (mCons (mCall (fCall f_l_number) (mCons (mVar 0) mNil)) mNil))))) mNil))) (mgN 12))
  (mDrop (mApp (mVar 9) (mTup (mCons (mOp opAdd (mOp opMul (mVar 11) (mOp opSubI (mOp opIx (mVar 3) (mC (.int 1))) (mOp opIx (mVar 3) (mC (.int 0))))) (mVar 12)) (mCons (mOp opMul (mVar 11) (mOp opIx (mVar 3) (mC (.int 0)))) mNil))))))))
  (mRet (mCall (fPure f_l_added) (mCons (mVar 5) (mCons (mCall fTuple (mCons (mVar 9) mNil)) mNil)))))))))
def f_l_quiet_log : List D → Store → Res D := fnM 13 2 m_l_quiet_log
def m_l_above : MS := (mRet (mOp opGt (mOp opMul (mOp opIx (mVar 0) (mC (.int 1))) (mOp opIx (mVar 1) (mC (.int 1)))) (mOp opMul (mOp opIx (mVar 0) (mC (.int 0))) (mOp opAdd (mOp opIx (mVar 1) (mC (.int 0))) (mOp opIx (mVar 1) (mC (.int 1)))))))
def f_l_above : List D → Store → Res D := fnM 2 2 m_l_above
def m_l_calls : MS := (mSeq (mAsg (mSl (mVar 0) (mSoO (mOp opIx (mVar 1) (mC (.int 0)))) (mSoO (mOp opIx (mVar 1) (mC (.int 1))))) (mgN 2))
  (mRet (mTup (mCons (mCall fSum (mCons (mLc (mItems (mVar 2)) (mgN 3) mYes (mOp opIx (mVar 3) (mC (.int 0))) [3]) mNil)) (mCons (mCall fSum (mCons (mLc (mItems (mVar 2)) (mgN 3) mYes (mOp opIx (mVar 3) (mC (.int 1))) [3]) mNil)) mNil)))))
def f_l_calls : List D → Store → Res D := fnM 4 2 m_l_calls
def m_l_is_quiet : MS := (mRet (mNotV (mCall fAny (mCons (mLc (mItems (mOp opIx (mVar 0) (mC (.int 2)))) (mgN 2) mYes (mCall (fPure f_l_above) (mCons (mOp opIx (mVar 0) (mC (.int 1))) (mCons (mCall (fPure f_l_calls) (mCons (mVar 1) (mCons (mVar 2) mNil))) mNil))) [2]) mNil))))
def f_l_is_quiet : List D → Store → Res D := fnM 3 2 m_l_is_quiet
def m_p_is_above : MS := (mSeq (mAsg (mVar 1) (mgTup 2 (mgCons (mgN 2) (mgCons (mgN 3) mgNil))))
  (mRet (mOp opGt (mOp opMul (mOp opIx (mVar 0) (mC (.int 1))) (mVar 3)) (mOp opMul (mOp opIx (mVar 0) (mC (.int 0))) (mOp opAdd (mVar 2) (mVar 3))))))
def f_p_is_above : List D → Store → Res D := fnM 4 2 m_p_is_above
def m_p_calls : MS := (mSeq (mAsg (mVar 1) (mgTup 2 (mgCons (mgN 2) (mgCons (mgN 3) mgNil))))
  (mSeq (mAsg (mSl (mVar 0) (mSoO (mVar 2)) (mSoO (mVar 3))) (mgN 4))
  (mRet (mTup (mCons (mCall fSum (mCons (mLc (mItems (mVar 4)) (mgTup 2 (mgCons (mgN 5) (mgCons (mgN 6) mgNil))) mYes (mVar 5) [5, 6]) mNil)) (mCons (mCall fSum (mCons (mLc (mItems (mVar 4)) (mgTup 2 (mgCons (mgN 5) (mgCons (mgN 6) mgNil))) mYes (mVar 6) [5, 6]) mNil)) mNil))))))
def f_p_calls : List D → Store → Res D := fnM 7 2 m_p_calls
def m_p_loud : MS := (mSeq (mAsg (mCall (fPure (f_p_tupled 30)) (mCons (mVar 0) mNil)) (mgTup 3 (mgCons (mgN 2) (mgCons (mgN 3) (mgCons (mgN 4) mgNil)))))
  (mSeq (mAsg (mCall (fPure (f_p_tupled 30)) (mCons (mVar 1) mNil)) (mgN 5))
  (mRet (mLc (mItems (mVar 4)) (mgN 6) (mTest (mCall (fPure f_p_is_above) (mCons (mVar 3) (mCons (mCall (fPure f_p_calls) (mCons (mVar 5) (mCons (mVar 6) mNil))) mNil)))) (mVar 6) [6]))))
def f_p_loud : List D → Store → Res D := fnM 7 2 m_p_loud
def m_p_is_quiet : MS := (mRet (mOp opEq (mCall fLen (mCons (mCall (fPure f_p_loud) (mCons (mVar 0) (mCons (mVar 1) mNil))) mNil)) (mC (.int 0))))
def f_p_is_quiet : List D → Store → Res D := fnM 2 2 m_p_is_quiet
def m_l_right : MS := (mSeq (mAsg (mIfE (mTB (mOp opEq (mCall (fCall f_l_take) (mCons (mVar 0) (mCons (mC (.int 2)) mNil))) (mC (.int 0)))) (mCall (fCall f_l_book) (mCons (mVar 0) (mCons (mC (.int 12)) (mCons (mC (.int 10)) mNil)))) (mCall (fCall f_l_net) (mCons (mVar 0) (mCons (mC (.int 7)) (mCons (mC (.int 14)) mNil))))) (mgN 1))
  (mSeq (mAsg (mTup (mCons (mCall (fPure f_l_least) (mCons (mVar 1) mNil)) (mCons (mCall (fPure (f_l_lists 30)) (mCons (mVar 1) mNil)) mNil))) (mgTup 2 (mgCons (mgN 2) (mgCons (mgN 3) mgNil))))
  (mSeq (mIf (mOrT (mNotT (mTest (mCall (fPure (f_l_same 30)) (mCons (mLst (mCons (mCall (fPure f_p_least) (mCons (mVar 1) mNil)) (mCons (mCallK (fPure f_p_least) 0 1 [0] mNil (mCons (mVar 3) mNil)) (mCons (mCall (fPure f_p_least) (mCons (mVar 2) mNil)) mNil)))) (mCons (mOp opMul (mLst (mCons (mVar 2) mNil)) (mC (.int 3))) mNil))))) (mTB (mOp opNe (mVar 3) (mCall (fPure (f_l_lists 30)) (mCons (mVar 1) mNil))))) (mRet (mC (.bl false))) mSkip)
  (mSeq (mAsg (mCall (fPure f_l_with) (mCons (mVar 1) (mCons (mCall (fCall f_l_pick) (mCons (mVar 0) (mCons (mCall (fPure f_p_sure) (mCons (mVar 1) mNil)) (mCons (mC (.int 10)) mNil)))) mNil))) (mgN 4))
  (mSeq (mAsg (mCall (fPure f_l_without) (mCons (mVar 1) (mCons (mLc (mItems (mOp opIx (mVar 1) (mC (.int 2)))) (mgN 9) (mAndT (mTB (mOp opNin (mVar 9) (mOp opIx (mVar 2) (mC (.int 2))))) (mTB (mOp opEq (mCall (fCall f_l_take) (mCons (mVar 0) (mCons (mC (.int 2)) mNil))) (mC (.int 0))))) (mVar 9) [9]) mNil))) (mgN 5))
  (mSeq (mIf (mNotT (mTest (mCall (fPure (f_l_same 30)) (mCons (mLst (mCons (mCall (fPure f_p_least) (mCons (mVar 4) mNil)) (mCons (mCall (fPure f_p_least) (mCons (mVar 5) mNil)) mNil))) (mCons (mLst (mCons (mVar 2) (mCons (mVar 2) mNil))) mNil))))) (mRet (mC (.bl false))) mSkip)
  (mSeq (mFor (mRange1 (mC (.int 2))) (mgN 6) (mSeq (mPar 7 8 (mCons (mCall (fCall f_l_quiet_log) (mCons (mVar 0) (mCons (mVar 2) mNil))) (mCons (mCall (fCall f_l_quiet_log) (mCons (mVar 0) (mCons (mVar 4) mNil))) mNil)))
  (mIf (mOrT (mNotT (mTest (mCall (fPure f_l_is_quiet) (mCons (mVar 1) (mCons (mVar 7) mNil))))) (mOrT (mNotT (mTest (mCall (fPure f_p_is_quiet) (mCons (mVar 4) (mCons (mVar 7) mNil))))) (mNotT (mTest (mCall (fPure f_p_is_quiet) (mCons (mVar 2) (mCons (mVar 8) mNil))))))) (mRet (mC (.bl false))) mSkip)))
  (mRet (mC (.bl true))))))))))
def f_l_right : List D → Store → Res D := fnM 10 1 m_l_right
def m_l_law : MS := (mSeq (mAsg (mCall (fPure f_l_cells) (mCons (mVar 0) (mCons (mC (.int 3)) mNil))) (mgN 1))
  (mSeq (mFor (mRange1 (mCall fLen (mCons (mVar 1) mNil))) (mgN 2) (mSeq (mAsg (mCall (fCall f_l_box) (mCons (mVar 1) (mCons (mVar 2) mNil))) (mgN 3))
  (mIf (mOrT (mNotT (mTest (mCall (fPure f_l_by_hand_right) mNil))) (mOrT (mNotT (mTest (mCall fAll (mCons (mLc (mRange1 (mC (.int 4))) (mgN 4) mYes (mCall (fCall f_l_right) (mCons (mVar 3) mNil)) [4]) mNil)))) (mNotT (mTest (mCall (fCall f_l_again_right) (mCons (mVar 3) mNil)))))) (mRet (mC (.bl false))) mSkip)))
  (mRet (mC (.bl true)))))
def f_l_law : List D → Store → Res D := fnM 5 1 m_l_law
end Lw
set_option exponentiation.threshold 10000
namespace Lw
open PySem L2 Q
def isT (r : Res D) : Bool := match r with
  | .ok (.bl b) [] => b
  | _ => false
theorem isT_ok {r : Res D} (h : isT r = true) : r = .ok (.bl true) [] := by
  unfold isT at h
  split at h
  · rw [h]
  · cases h
theorem hand_is : isT (f_l_by_hand_right [] []) = true := by decide +kernel
abbrev box (a b c : Int) : Cell := .lst [.int a, .int b, .int c]
theorem mulOk_r {i j : Int} (h : -(2 ^ 64) < j ∧ j < 2 ^ 64) : mulOk i j = true := by
  have h2 : j.natAbs < 2 ^ 64 := by omega
  unfold mulOk
  rw [decide_eq_true h2]
  simp
theorem mulOk_l {i j : Int} (h : -(2 ^ 64) < i ∧ i < 2 ^ 64) : mulOk i j = true := by
  have h2 : i.natAbs < 2 ^ 64 := by omega
  unfold mulOk
  rw [decide_eq_true h2]
  simp
theorem log2_lt9000 {n : Int} (h0 : 0 ≤ n) (h : n < 2 ^ 8999) : n.natAbs.log2 < 9000 := by
  by_cases e : n.natAbs = 0
  · rw [e]; decide
  · have h2 : n.natAbs < 2 ^ 8999 := by
      have : (n.natAbs : Int) = n := by omega
      have h3 : (n.natAbs : Int) < ((2 ^ 8999 : Nat) : Int) := by rw [this]; exact_mod_cast h
      exact_mod_cast h3
    have := (Nat.log2_lt e).mpr h2
    omega
theorem divOk_of {i j : Int} (h0 : 0 < j) (h : j < 2 ^ 8999) : divOk i j = true := by
  unfold divOk
  exact decide_eq_true ⟨h0, log2_lt9000 (by omega) h⟩
theorem modOk_of {i j : Int} (h0 : 0 < j) : modOk i j = true := by
  unfold modOk
  exact decide_eq_true h0
def BoxC (x : Cell) (N : Nat) : Prop := ∃ a b c : Int, x = box a b c ∧ 0 ≤ a ∧ (0 ≤ b ∧ b < 2 ^ 63) ∧ 0 ≤ c ∧ c ≤ N
theorem BoxC.mono {x : Cell} {N M : Nat} (h : BoxC x N) (hl : N ≤ M) : BoxC x M := by
  obtain ⟨a, b, c, e, ha, hb, hc, hd⟩ := h
  exact ⟨a, b, c, e, ha, hb, hc, by omega⟩
def BoxS (S0 : Store) (k N : Nat) (S : Store) : Prop := ∃ y, S = S0.set k y ∧ BoxC y N ∧ k < S0.length
theorem BoxS.len {S0 S : Store} {k N : Nat} (h : BoxS S0 k N S) : S.length = S0.length := by obtain ⟨y, rfl, _, _⟩ := h; simp
theorem BoxS.mono {S0 S : Store} {k N M : Nat} (h : BoxS S0 k N S) (hl : N ≤ M) : BoxS S0 k M S := by obtain ⟨y, e, hy, hk⟩ := h; exact ⟨y, e, hy.mono hl, hk⟩
theorem BoxS.start {S : Store} {k N : Nat} {x : Cell} (h : S[k]? = some x) (hx : BoxC x N) : BoxS S k N S := ⟨x, (set_self h).symm, hx, (List.getElem?_eq_some_iff.mp h).1⟩
theorem BoxS.other {S0 S : Store} {k N j : Nat} (h : BoxS S0 k N S) (hj : j ≠ k) : S[j]? = S0[j]? := by
  obtain ⟨y, rfl, _, _⟩ := h
  rw [List.getElem?_set_ne (fun e => hj e.symm)]
theorem BoxS.get {S0 S : Store} {k N : Nat} (h : BoxS S0 k N S) : ∃ x, S[k]? = some x ∧ BoxC x N := by
  obtain ⟨y, rfl, hy, hk⟩ := h
  exact ⟨y, List.getElem?_set_self hk, hy⟩
theorem BoxS.set {S0 S : Store} {k N M : Nat} {y : Cell} (h : BoxS S0 k N S) (hy : BoxC y M) : BoxS S0 k M (S.set k y) := by
  obtain ⟨x, rfl, _, hk⟩ := h
  exact ⟨y, by rw [List.set_set], hy, hk⟩
theorem fin_len {n : Nat} {S : Store} {d : D} (h : S.length = n) : fin n d S = .ok d S := by unfold fin; rw [if_pos h]
def big : Int := 2 ^ 8000
theorem big_lt {n : Int} (h : n < big) : n < 2 ^ 8999 := Int.lt_trans h (by unfold big; decide)
theorem mulOk_big {i j : Int} (h0 : 0 ≤ i) (h1 : i < big) (h2 : 0 ≤ j) (h3 : j < big) : mulOk i j = true := by
  have lg : ∀ n : Int, 0 ≤ n → n < big → n.natAbs.log2 < 9000 := fun n a b => log2_lt9000 a (big_lt b)
  have a := lg i h0 h1
  have b := lg j h2 h3
  unfold mulOk
  rw [decide_eq_true (show i.natAbs.log2 + j.natAbs.log2 < 1000000 by omega)]
  simp
theorem bigN {x : Int} (hx : x ≤ 10 ^ 70) : x < big := Int.lt_of_le_of_lt hx (by unfold big; decide)
theorem range2_nat {i j : Nat} {S : Store} (hi : i < 2 ^ 60) (hj : j < 2 ^ 60) : r2K2 (.int i) (.int j) S = .ok (rangeD i (j - i)) S := by
  rw [r2K2_int, if_pos ⟨by omega, by omega⟩]
  congr 2
  omega
def once (b c : Int) : Int := ((b + 48271 * (c + 1)) * (39373 + (c + 1))) % 2147483647
def far (b c : Int) : Int := once b c % 40009 + 7
def twice (b c : Int) : Int := ((once b c + (c + 1) + b / 1000003) * far b c) % 2147483629
theorem take_eq1 (S : Store) (k : Nat) (a b c n : Int) (hk : S[k]? = some (box a b c)) (ha : 0 < a) (hn : 0 < n) (hn2 : n < 2 ^ 8999) :
    f_l_take [.ref k, .int n] S = .ok (.int (a % n)) (S.set k (box (a / n) b c)) := by
  simp [f_l_take, fnM, m_l_take, ix_refD _ hk, ha, modOk_of hn, divOk_of hn hn2, setIx, hk, ixN]
theorem take_eq2 (S : Store) (k : Nat) (a b c n : Int) (hk : S[k]? = some (box a b c)) (ha : ¬ 0 < a) (hn : 0 < n) (hb : 0 ≤ b ∧ b < 2 ^ 63) (hc : 0 ≤ c ∧ c < 2 ^ 40) :
    f_l_take [.ref k, .int n] S = .ok (.int ((twice b c * 48271 + once b c) % 2147483587 / 64 % n)) (S.set k (box a b (c + 1))) := by
  have hk2 : (S.set k (box a b (c + 1)))[k]? = some (box a b (c + 1)) := set_get hk
  have e1 : mulOk 48271 (c + 1) = true := mulOk_l (by decide)
  have e2 : mulOk (b + 48271 * (c + 1)) (39373 + (c + 1)) = true := mulOk_r (by omega)
  have e3 : ∀ x, mulOk x (far b c) = true := fun x => mulOk_r (by unfold far; omega)
  have e4 : ∀ x, mulOk x 48271 = true := fun x => mulOk_r (by decide)
  have f1 : ((b + 48271 * (c + 1)) * (39373 + (c + 1))) % 2147483647 = once b c := rfl
  have f2 : once b c % 40009 + 7 = far b c := rfl
  have f3 : ((once b c + (c + 1) + b / 1000003) * far b c) % 2147483629 = twice b c := rfl
  have g1 : divOk b 1000003 = true := divOk_of (by decide) (by decide)
  have g2 : ∀ x, divOk x 64 = true := fun x => divOk_of (by decide) (by decide)
  have g3 : ∀ x, modOk x n = true := fun x => modOk_of hn
  have g4 : ∀ x, modOk x 2147483647 = true := fun x => modOk_of (by decide)
  have g5 : ∀ x, modOk x 40009 = true := fun x => modOk_of (by decide)
  have g6 : ∀ x, modOk x 2147483629 = true := fun x => modOk_of (by decide)
  have g7 : ∀ x, modOk x 2147483587 = true := fun x => modOk_of (by decide)
  simp [f_l_take, fnM, m_l_take, ix_refD _ hk, ix_refD _ hk2, ha, setIx, hk, ixN, e1, e2, e3, e4, f1, f2, f3, g1, g2, g3, g4, g5, g6, g7]
theorem take_ok {S : Store} {k N : Nat} {x : Cell} {n : Int} (hk : S[k]? = some x) (hx : BoxC x N) (hN : N < 2 ^ 40) (hn : 0 < n) (hn2 : n < 2 ^ 8999) :
    ∃ r y, (0 ≤ r ∧ r < n) ∧ BoxC y (N + 1) ∧ f_l_take [.ref k, .int n] S = .ok (.int r) (S.set k y) := by
  obtain ⟨a, b, c, rfl, ha, hb, hc, hd⟩ := hx
  by_cases h : 0 < a
  · exact ⟨_, _, ⟨Int.emod_nonneg _ (by omega), Int.emod_lt_of_pos _ hn⟩, ⟨a / n, b, c, rfl, Int.ediv_nonneg ha (by omega), hb, hc, by omega⟩, take_eq1 S k a b c n hk h hn hn2⟩
  · exact ⟨_, _, ⟨Int.emod_nonneg _ (by omega), Int.emod_lt_of_pos _ hn⟩, ⟨a, b, c + 1, rfl, ha, hb, by omega, by omega⟩, take_eq2 S k a b c n hk h hn hb ⟨hc, by omega⟩⟩
theorem take_s {S0 S : Store} {k N : Nat} {n : Int} (h : BoxS S0 k N S) (hN : N < 2 ^ 40) (hn : 0 < n) (hn2 : n < 2 ^ 8999) :
    (f_l_take [.ref k, .int n] S).Sat fun d S' => ∃ r : Int, d = .int r ∧ 0 ≤ r ∧ r < n ∧ BoxS S0 k (N + 1) S' := by
  obtain ⟨x, hk, hx⟩ := h.get
  obtain ⟨r, y, hr, hy, e⟩ := take_ok hk hx hN hn hn2
  exact sat_of e ⟨r, rfl, hr.1, hr.2, h.set hy⟩
theorem of_s {S0 S : Store} {k N : Nat} {xs : List D} (h : BoxS S0 k N S) (hN : N < 2 ^ 40) (h0 : xs ≠ []) (h1 : xs.length < 2 ^ 60) :
    (f_l_of [.ref k, .lst xs] S).Sat fun d S' => d ∈ xs ∧ BoxS S0 k (N + 1) S' := by
  have hp : 0 < xs.length := List.length_pos_iff.mpr h0
  unfold f_l_of m_l_of
  rw [fnM_2]
  simp
  refine sat_step (take_s (n := (xs.length : Int)) h hN (by omega) (Int.lt_of_lt_of_le (show (xs.length : Int) < 2 ^ 60 by omega) (by decide))) ?_
  rintro _ S1 ⟨r, rfl, r0, r1, hS1⟩
  have hl : r.toNat < xs.length := by omega
  have hg : atI xs r = some xs[r.toNat] := by
    have e : ((r.toNat : Nat) : Int) = r := by omega
    have z := atI_get (List.getElem?_eq_getElem hl)
    rw [e] at z
    exact z
  simp [hg, fin_len (hS1.len.trans h.len.symm)]
  exact hS1
def IsLim (d : D) : Prop := ∃ p q : Int, d = .tup [.int p, .int q] ∧ 0 < p ∧ p < q ∧ q < 2 ^ 67
theorem limit_s {S0 S : Store} {k N : Nat} (h : BoxS S0 k N S) (hN : N + 3 < 2 ^ 40) : (f_l_limit [.ref k] S).Sat fun d S' => IsLim d ∧ BoxS S0 k (N + 3) S' := by
  unfold f_l_limit m_l_limit
  rw [fnM_1]
  simp
  refine sat_step (take_s (n := 8) h (by omega) (by decide) (by decide)) ?_
  rintro _ S1 ⟨r1, rfl, a1, b1, h1⟩
  have p1 : powOk 10 18 = true := by decide
  have p2 : powOk 10 20 = true := by decide
  by_cases e0 : r1 = 0
  · simp [e0, p1]
    refine sat_step (take_s (n := 1000000000000000000) h1 (by omega) (by decide) (by decide)) ?_
    rintro _ S2 ⟨r2, rfl, a2, b2, h2⟩
    simp [p1, p2]
    refine sat_step (take_s (n := 100000000000000000000) h2 (by omega) (by decide) (by decide)) ?_
    rintro _ S3 ⟨r3, rfl, a3, b3, h3⟩
    simp [fin_len (h3.len.trans h.len.symm)]
    exact ⟨⟨_, _, rfl, by omega, by omega, by omega⟩, h3⟩
  · by_cases e1 : r1 = 1
    · simp [e1]
      refine sat_step (take_s (n := 3) h1 (by omega) (by decide) (by decide)) ?_
      rintro _ S2 ⟨r2, rfl, a2, b2, h2⟩
      have m1 : mulOk r2 2 = true := mulOk_r (by decide)
      simp [m1, fin_len (h2.len.trans h.len.symm)]
      exact ⟨⟨_, _, rfl, by omega, by omega, by omega⟩, h2.mono (by omega)⟩
    · simp [e0, e1]
      refine sat_step (of_s h1 (by omega) (by simp) (by simp)) ?_
      rintro d S2 ⟨hd, h2⟩
      simp only [List.mem_cons, List.mem_nil_iff, or_false] at hd
      simp [fin_len (h2.len.trans h.len.symm)]
      refine ⟨?_, h2.mono (by omega)⟩
      rcases hd with rfl | rfl | rfl | rfl | rfl | rfl <;> exact ⟨_, _, rfl, by decide⟩
theorem lcL_draw {g : MG} {m : ME} {ρ : Q.Env} {S0 : Store} {k c T : Nat} {P : D → Prop} : ∀ (ds : List D) (N : Nat) (S : Store), BoxS S0 k N S → N + c * ds.length ≤ T →
    (∀ d ∈ ds, ∀ M S, BoxS S0 k M S → M + c ≤ T → ∃ ρ1, g d ρ S = .ok ρ1 S ∧ (m ρ1 S).Sat fun v S' => P v ∧ BoxS S0 k (M + c) S') →
    (lcL g mYes m ρ ds S).Sat fun vs S' => vs.length = ds.length ∧ (∀ v ∈ vs, P v) ∧ BoxS S0 k (N + c * ds.length) S'
  | [], N, S, h, _, _ => ⟨rfl, fun v hv => absurd hv (by simp), by simpa using h⟩
  | d :: ds, N, S, h, hT, turn => by
    rw [List.length_cons, Nat.mul_succ] at hT ⊢
    obtain ⟨ρ1, h1, h2⟩ := turn d (by simp) N S h (by omega)
    unfold lcL
    rw [h1]
    simp only [bind_ok, ap_yes]
    refine sat_step h2 fun v S1 ⟨hv, hS1⟩ => ?_
    refine sat_step (lcL_draw ds (N + c) S1 hS1 (by omega) fun e he => turn e (by simp [he])) fun vs S2 ⟨l, hvs, hS2⟩ => ?_
    refine ⟨by simp [l], fun w hw => ?_, hS2.mono (by omega)⟩
    rcases List.mem_cons.mp hw with rfl | hw
    · exact hv
    · exact hvs w hw
theorem eq_plain {a b : D} {S : Store} (ha : shal 20 a = true) (hb : shal 20 b = true) : opEq a b S = .ok (.bl (deq a b)) S := by
  have da : ∀ d, shal 20 d = true → deref S d = d := fun d h => by cases d <;> first | rfl | simp [shal] at h
  have key : (if shal 20 (deref S a) && shal 20 (deref S b) then Res.ok (D.bl (deq (deref S a) (deref S b))) S else Res.no) = .ok (.bl (deq a b)) S := by
    rw [da a ha, da b hb, ha, hb]
    rfl
  cases a <;> cases b <;> first
    | exact key
    | (simp only [opEq, deq])
theorem ne_plain {a b : D} {S : Store} (ha : shal 20 a = true) (hb : shal 20 b = true) : opNe a b S = .ok (.bl (!deq a b)) S := by
  have da : ∀ d, shal 20 d = true → deref S d = d := fun d h => by cases d <;> first | rfl | simp [shal] at h
  have key : (if shal 20 (deref S a) && shal 20 (deref S b) then Res.ok (D.bl (!deq (deref S a) (deref S b))) S else Res.no) = .ok (.bl (!deq a b)) S := by
    rw [da a ha, da b hb, ha, hb]
    rfl
  cases a <;> cases b <;> first
    | exact key
    | (simp only [opNe, deq])
@[simp] theorem eq_non {S : Store} : opEq .non .non S = .ok (.bl true) S := eq_plain rfl rfl
def okD : Nat → D → Bool
  | _, .non => true
  | _, .bl _ => true
  | _, .int _ => true
  | _, .str _ => true
  | n + 1, .tup xs => decide (xs.length ≤ 100000) && xs.all (okD n)
  | n + 1, .lst xs => decide (xs.length ≤ 100000) && xs.all (okD n)
  | _, _ => false
@[simp] theorem okD_non (n : Nat) : okD n .non = true := by cases n <;> rfl
@[simp] theorem okD_bl (n : Nat) (b : Bool) : okD n (.bl b) = true := by cases n <;> rfl
@[simp] theorem okD_int (n : Nat) (b : Int) : okD n (.int b) = true := by cases n <;> rfl
@[simp] theorem okD_str (n : Nat) (b : Str) : okD n (.str b) = true := by cases n <;> rfl
@[simp] theorem okD_tup (n : Nat) (xs : List D) : okD (n + 1) (.tup xs) = (decide (xs.length ≤ 100000) && xs.all (okD n)) := rfl
@[simp] theorem okD_lst (n : Nat) (xs : List D) : okD (n + 1) (.lst xs) = (decide (xs.length ≤ 100000) && xs.all (okD n)) := rfl
theorem okD_pure : ∀ (n : Nat) (d : D), okD n d = true → pureD d = true
  | _, .non, _ => rfl
  | _, .bl _, _ => rfl
  | _, .int _, _ => rfl
  | _, .str _, _ => rfl
  | n + 1, .tup xs, h => by
    rw [okD_tup, Bool.and_eq_true] at h
    exact pureL_all.mpr fun d hd => okD_pure n d (List.all_eq_true.mp h.2 d hd)
  | n + 1, .lst xs, h => by
    rw [okD_lst, Bool.and_eq_true] at h
    exact pureL_all.mpr fun d hd => okD_pure n d (List.all_eq_true.mp h.2 d hd)
  | 0, .tup xs, h => by simp [okD] at h
  | 0, .lst xs, h => by simp [okD] at h
  | 0, .fro _, h => by simp [okD] at h
  | 0, .obj _ _, h => by simp [okD] at h
  | 0, .exn _ _, h => by simp [okD] at h
  | 0, .ref _, h => by simp [okD] at h
  | _ + 1, .fro _, h => by simp [okD] at h
  | _ + 1, .obj _ _, h => by simp [okD] at h
  | _ + 1, .exn _ _, h => by simp [okD] at h
  | _ + 1, .ref _, h => by simp [okD] at h
theorem zip_self (xs : List D) : zipD xs xs = xs.map fun x => .tup [x, x] := by
  unfold zipD
  induction xs with
  | nil => rfl
  | cons x xs ih => simp [ih]
theorem same_lc {k : Nat} {ρ : Q.Env} {f : List D → Store → Res D} (h2 : 3 < ρ.length) : ∀ (xs : List D) (S : Store), (∀ x ∈ xs, ∀ T, fPure f [x, x] T = .ok (.bl true) T) →
    lcL (mgTup 2 (mgCons (mgN 2) (mgCons (mgN 3) mgNil))) mYes (mCall (fPure f) (mCons (mVar 2) (mCons (mVar 3) mNil))) ρ (zipD xs xs) S = .ok (List.replicate xs.length (.bl true)) S := by
  intro xs S h
  rw [zip_self, lcL_map (f := fun _ => .bl true) (xs.map fun x => .tup [x, x]) S]
  · rw [List.map_map]
    show Res.ok (xs.map fun _ => D.bl true) S = _
    rw [List.map_const']
  · intro d hd
    obtain ⟨x, hx, rfl⟩ := List.mem_map.mp hd
    refine ⟨_, rfl, ?_⟩
    have e2 : ((ρ.set 2 (some x)).set 3 (some x))[2]? = some (some x) := by rw [List.getElem?_set_ne (by decide), List.getElem?_set_self (by omega)]
    have e3 : ((ρ.set 2 (some x)).set 3 (some x))[3]? = some (some x) := List.getElem?_set_self (by simpa using h2)
    simp only [ap_call, ap_cons, ap_var, e2, e3, varK_some, bind_ok, consK_ap, ap_nil, consK2_ap, h x hx S]
theorem same_self : ∀ (k n : Nat) (d : D) (S : Store), okD n d = true → n < k → f_l_same k [d, d] S = .ok (.bl true) S
  | 0, n, d, S, _, hk => absurd hk (by omega)
  | k + 1, n, d, S, h, hk => by
    have seq : ∀ xs : List D, (∀ x ∈ xs, okD (n - 1) x = true ∧ 0 < n) → ∀ x ∈ xs, ∀ T, fPure (f_l_same k) [x, x] T = .ok (.bl true) T := fun xs hx x hm T => by
      have p := okD_pure _ _ (hx x hm).1
      exact fPure_ap T (by simp [p]) (same_self k (n - 1) x [] (hx x hm).1 (by have := (hx x hm).2; omega))
    have all : ∀ (m : Nat) (S : Store), fAll [.lst (List.replicate m (.bl true))] S = .ok (.bl true) S := fun m S => by
      have hb : boolsD (List.replicate m (D.bl true)) = some (List.replicate m true) := by
        induction m with
        | zero => rfl
        | succ m ih => rw [List.replicate_succ, boolsD, ih]; rfl
      rw [all_lst hb]
      simp
    cases d with
    | non => simp [f_l_same, fnM, m_l_same, isTy]
    | bl b => simp [f_l_same, fnM, m_l_same, isTy]
    | int b => simp [f_l_same, fnM, m_l_same, isTy]
    | str b => simp [f_l_same, fnM, m_l_same, isTy]
    | tup xs =>
      cases n with
      | zero => simp [okD] at h
      | succ n =>
        rw [okD_tup, Bool.and_eq_true, decide_eq_true_eq] at h
        have hs := same_lc (k := k) (f := f_l_same k) (ρ := [some (.tup xs), some (.tup xs), none, none]) (by simp) xs S (seq xs fun x hx => ⟨List.all_eq_true.mp h.2 x hx, by omega⟩)
        have hl : (zipD xs xs).length ≤ 100000 := by rw [zip_self, List.length_map]; exact h.1
        simp [f_l_same, fnM, m_l_same, isTy, hl, hs, all]
    | lst xs =>
      cases n with
      | zero => simp [okD] at h
      | succ n =>
        rw [okD_lst, Bool.and_eq_true, decide_eq_true_eq] at h
        have hs := same_lc (k := k) (f := f_l_same k) (ρ := [some (.lst xs), some (.lst xs), none, none]) (by simp) xs S (seq xs fun x hx => ⟨List.all_eq_true.mp h.2 x hx, by omega⟩)
        have hl : (zipD xs xs).length ≤ 100000 := by rw [zip_self, List.length_map]; exact h.1
        simp [f_l_same, fnM, m_l_same, isTy, hl, hs, all]
    | fro xs => cases n <;> simp [okD] at h
    | obj c xs => cases n <;> simp [okD] at h
    | exn c xs => cases n <;> simp [okD] at h
    | ref j => cases n <;> simp [okD] at h
theorem sameP {d : D} (S : Store) (h : okD 20 d = true) : fPure (f_l_same 30) [d, d] S = .ok (.bl true) S := fPure_ap S (by simp [okD_pure 20 d h]) (same_self 30 20 d [] h (by decide))
theorem deq_self : ∀ (n : Nat) (d : D), shal n d = true → deq d d = true
  | _, .non, _ => by simp [deq]
  | _, .bl b, _ => by simp [deq]
  | _, .int b, _ => by simp [deq]
  | _, .str b, _ => by simp [deq]
  | n + 1, .tup xs, h => by
    have h' : ∀ x ∈ xs, shal n x = true := by simpa [shal] using h
    have go : ∀ ys : List D, (∀ y ∈ ys, deq y y = true) → deqL ys ys = true := by
      intro ys
      induction ys with
      | nil => intro _; simp [deqL]
      | cons y ys ih => intro hy; simp [deqL, hy y (by simp), ih fun z hz => hy z (by simp [hz])]
    simpa [deq] using go xs fun x hx => deq_self n x (h' x hx)
  | n + 1, .lst xs, h => by
    have h' : ∀ x ∈ xs, shal n x = true := by simpa [shal] using h
    have go : ∀ ys : List D, (∀ y ∈ ys, deq y y = true) → deqL ys ys = true := by
      intro ys
      induction ys with
      | nil => intro _; simp [deqL]
      | cons y ys ih => intro hy; simp [deqL, hy y (by simp), ih fun z hz => hy z (by simp [hz])]
    simpa [deq] using go xs fun x hx => deq_self n x (h' x hx)
  | 0, .tup xs, h => by simp [shal] at h
  | 0, .lst xs, h => by simp [shal] at h
  | n, .fro _, h => by cases n <;> simp [shal] at h
  | n, .obj _ _, h => by cases n <;> simp [shal] at h
  | n, .exn _ _, h => by cases n <;> simp [shal] at h
  | n, .ref _, h => by cases n <;> simp [shal] at h
theorem ne_selfD {d : D} {S : Store} (h : shal 20 d = true) : opNe d d S = .ok (.bl false) S := by rw [ne_plain h h, deq_self 20 d h]; rfl
@[simp] theorem shal_int (n : Nat) (i : Int) : shal n (.int i) = true := by cases n <;> rfl
@[simp] theorem shal_bl (n : Nat) (i : Bool) : shal n (.bl i) = true := by cases n <;> rfl
@[simp] theorem shal_non (n : Nat) : shal n .non = true := by cases n <;> rfl
@[simp] theorem shal_tup (n : Nat) (xs : List D) : shal (n + 1) (.tup xs) = xs.all (shal n) := rfl
@[simp] theorem shal_lst (n : Nat) (xs : List D) : shal (n + 1) (.lst xs) = xs.all (shal n) := rfl
theorem shal_map {β : Type} {f : β → D} {n : Nat} (h : ∀ b, shal n (f b) = true) (xs : List β) : (xs.map f).all (shal n) = true := List.all_eq_true.mpr fun d hd => by
  obtain ⟨b, _, rfl⟩ := List.mem_map.mp hd
  exact h b
theorem in_lst {a : D} {xs : List D} {S : Store} (ha : shal 20 a = true) (hx : shal 20 (.lst xs) = true) : opIn a (.lst xs) S = .ok (.bl (inD xs a)) S := by
  show (if shal 20 a && shal 20 (.lst xs) then Res.ok (D.bl (inD xs a)) S else .no) = _
  rw [ha, hx]
  rfl
theorem in_tup {a : D} {xs : List D} {S : Store} (ha : shal 20 a = true) (hx : shal 20 (.tup xs) = true) : opIn a (.tup xs) S = .ok (.bl (inD xs a)) S := by
  show (if shal 20 a && shal 20 (.tup xs) then Res.ok (D.bl (inD xs a)) S else .no) = _
  rw [ha, hx]
  rfl
theorem nin_lst {a : D} {xs : List D} {S : Store} (ha : shal 20 a = true) (hx : shal 20 (.lst xs) = true) : opNin a (.lst xs) S = .ok (.bl (!inD xs a)) S := by
  show (if shal 20 a && shal 20 (.lst xs) then Res.ok (D.bl (!inD xs a)) S else .no) = _
  rw [ha, hx]
  rfl
theorem nin_tup {a : D} {xs : List D} {S : Store} (ha : shal 20 a = true) (hx : shal 20 (.tup xs) = true) : opNin a (.tup xs) S = .ok (.bl (!inD xs a)) S := by
  show (if shal 20 a && shal 20 (.tup xs) then Res.ok (D.bl (!inD xs a)) S else .no) = _
  rw [ha, hx]
  rfl
theorem cutD_take (xs : List D) (m : Nat) : cutD xs none (some (m : Int)) = xs.take m := by
  unfold cutD
  rw [HT.sIx_none, HT.sIx_nat]
  show List.take (min m xs.length - 0) (List.drop 0 xs) = _
  rw [List.drop_zero, Nat.sub_zero]
  by_cases h : m ≤ xs.length
  · rw [Nat.min_eq_left h]
  · rw [Nat.min_eq_right (by omega), List.take_of_length_le (Nat.le_refl _), List.take_of_length_le (by omega)]
theorem cutD_mid (xs : List D) (m n : Nat) : cutD xs (some (m : Int)) (some (n : Int)) = (xs.drop m).take (n - m) := by
  unfold cutD
  rw [HT.sIx_nat, HT.sIx_nat]
  by_cases h : m ≤ xs.length
  · rw [Nat.min_eq_left h]
    by_cases h2 : n ≤ xs.length
    · rw [Nat.min_eq_left h2]
    · rw [Nat.min_eq_right (by omega), List.take_of_length_le (by rw [List.length_drop]; omega), List.take_of_length_le (by rw [List.length_drop]; omega)]
  · rw [Nat.min_eq_right (show xs.length ≤ m by omega), List.drop_of_length_le (Nat.le_refl _), List.drop_of_length_le (by omega)]
    simp
theorem pure_ints (cs : List Int) : pureL (cs.map D.int) = true := pureL_all.mpr fun d hd => by
  obtain ⟨z, _, rfl⟩ := List.mem_map.mp hd
  rfl
def CellsI (v0 : D) (m c n : Nat) (ds : List D) (ρ : Q.Env) (S : Store) : Prop := ∃ (cs : List Int) (i : Nat) (xs : List Int) (w3 w4 w5 : Option D), ds = enumD i (xs.map D.int) ∧ i + xs.length ≤ 63 ∧ cs.length = n ∧ (xs ≠ [] → n = m) ∧
  ρ = [some v0, some (.int m), some (.ref c), w3, w4, w5] ∧ S[c]? = some (.lst (cs.map D.int))
theorem cells_ok (ns : List Int) (hn : ns.length ≤ 63) (m : Nat) (hm : 0 < m) (hm2 : m ≤ 63) : ∃ cs : List Int, 0 < cs.length ∧ cs.length ≤ m ∧ f_l_cells [scriptD ns, .int (m : Nat)] [] = .ok (.lst (cs.map .int)) [] := by
  have c1 : cutD (ns.map D.int) none (some (m : Int)) = (ns.take m).map D.int := by rw [cutD_take, List.map_take]
  have c2 : cutD (ns.map D.int) (some (m : Int)) (some 63) = ((ns.drop m).take (63 - m)).map D.int := by
    have := cutD_mid (ns.map D.int) m 63
    rw [show ((63 : Nat) : Int) = 63 from rfl] at this
    rw [this, List.map_take, List.map_drop]
  have ht : (ns.take m).length = min m ns.length := List.length_take
  suffices h : (f_l_cells [scriptD ns, .int (m : Nat)] []).Sat fun d S => S = [] ∧ ∃ cs : List Int, 0 < cs.length ∧ cs.length ≤ m ∧ d = .lst (cs.map .int) by
    obtain ⟨d, S, e, rfl, cs, h1, h2, rfl⟩ := sat_eq h
    exact ⟨cs, h1, h2, e⟩
  have loop : ∀ (ys : List Int) (c : Nat) (cs0 : List Int) (S0 : Store), ys.length ≤ 63 → S0[c]? = some (.lst (cs0.map D.int)) → 0 < cs0.length → cs0.length ≤ m → (ys ≠ [] → cs0.length = m) →
      ((forL (mgTup 2 (mgCons (mgN 3) (mgCons (mgN 4) mgNil))) (mSeq (mAsg (mOp opModI (mCall fInt (mCons (mVar 3) mNil)) (mVar 1)) (mgN 5))
      (mAsg (mOp opAdd (mOp opIx (mVar 2) (mVar 5)) (mOp opMul (mVar 4) (mOp opAdd (mVar 3) (mC (.int 2))))) (mgSub (mVar 2) (mVar 5)))) (enumD 0 (ys.map D.int)) [some (.fro (ns.map D.int)), some (.int m), some (.ref c), none, none, none] S0).Sat
      fun f S => ∃ cs : List Int, 0 < cs.length ∧ cs.length ≤ m ∧ ∃ w3 w4 w5, f = .nx [some (.fro (ns.map D.int)), some (.int m), some (.ref c), w3, w4, w5] ∧ S[c]? = some (.lst (cs.map D.int))) := by
    intro ys c cs0 S0 hy h0 p0 p1 p2
    refine forL_sat (CellsI (.fro (ns.map D.int)) m c cs0.length) ?_ ?_ _ _ _ ⟨cs0, 0, ys, none, none, none, rfl, by omega, rfl, p2, rfl, h0⟩
    · rintro d ds ρ S ⟨cs, i, xs, w3, w4, w5, e, hi, hl, hnm, rfl, hS⟩
      cases xs with
      | nil => simp [enumD] at e
      | cons x xs =>
        simp only [List.map_cons, enumD, List.cons.injEq] at e
        obtain ⟨rfl, rfl⟩ := e
        rw [List.length_cons] at hi
        have hlm : cs.length = m := by rw [hl]; exact hnm (by simp)
        obtain ⟨j, hj, hjm⟩ : ∃ j : Nat, (i : Int) % (m : Int) = (j : Int) ∧ j < m := ⟨((i : Int) % (m : Int)).toNat, by
          have := Int.emod_nonneg (i : Int) (show (m : Int) ≠ 0 by omega)
          omega, by
          have := Int.emod_lt_of_pos (i : Int) (show (0 : Int) < m by omega)
          omega⟩
        have hlt : j < cs.length := by rw [hlm]; exact hjm
        have hg : (cs.map D.int)[j]? = some (.int cs[j]) := by rw [List.getElem?_map, List.getElem?_eq_getElem hlt]; rfl
        have ha := atI_get hg
        have hx : ixN cs.length (j : Int) = some j := by
          unfold ixN
          rw [if_pos (by omega), if_pos (by omega)]
          simp
        have hm1 : mulOk x ((i : Int) + 2) = true := mulOk_r (by omega)
        have hmo : modOk (i : Int) (m : Int) = true := modOk_of (by omega)
        refine ⟨[some (.fro (ns.map D.int)), some (.int m), some (.ref c), some (.int i), some (.int x), w5], S, by simp, ?_⟩
        simp [hmo, hj, ix_refD _ hS, ha, hm1, setIx, hS, hx]
        refine ⟨cs.set j (cs[j] + x * ((i : Int) + 2)), i + 1, xs, some (.int i), some (.int x), some (.int (j : Int)), rfl, by omega, by simpa using hl, fun _ => hnm (by simp), rfl, ?_⟩
        rw [List.map_set]
        exact set_get hS
    · rintro ρ S ⟨cs, i, xs, w3, w4, w5, e, hi, hl, hnm, rfl, hS⟩
      exact ⟨cs, by omega, by omega, w3, w4, w5, rfl, hS⟩
  unfold f_l_cells m_l_cells
  rw [fnM_2]
  by_cases h0 : ns = []
  · subst h0
    simp only [List.map_nil, List.take_nil, List.drop_nil] at c1 c2
    have e1 : ([Cell.lst [], Cell.lst [.int 0]] : Store)[1]? = some (.lst [.int 0]) := rfl
    have tr : truth [Cell.lst []] (.ref 0) = some false := rfl
    simp [scriptD, c1, c2, tr]
    refine sat_step (loop [] 1 [0] _ (by simp) rfl (by decide) hm (by simp)) ?_
    rintro _ S ⟨cs, q1, q2, w3, w4, w5, rfl, hS⟩
    simp [fz_ref hS, fin_nil, pure_ints]
    exact ⟨cs, q1, q2, rfl⟩
  · have hp : 0 < ns.length := List.length_pos_iff.mpr h0
    have hne : (ns.take m).isEmpty = false := by
      cases ns with
      | nil => exact absurd rfl h0
      | cons a t =>
        cases m with
        | zero => omega
        | succ m => rfl
    have hd : (ns.drop m).take (63 - m) ≠ [] → (ns.take m).length = m := fun h => by
      have : 0 < ((ns.drop m).take (63 - m)).length := List.length_pos_iff.mpr h
      rw [List.length_take, List.length_drop] at this
      rw [ht]
      omega
    have hy : ((ns.drop m).take (63 - m)).length ≤ 63 := by rw [List.length_take, List.length_drop]; omega
    have hl0 : 0 < (ns.take m).length := by rw [ht]; omega
    have hlm : (ns.take m).length ≤ m := by rw [ht]; omega
    generalize ns.take m = L at *
    generalize (ns.drop m).take (63 - m) = ys at *
    have e0 : ([Cell.lst (L.map D.int)] : Store)[0]? = some (.lst (L.map D.int)) := rfl
    have tr : truth [Cell.lst (L.map D.int)] (.ref 0) = some true := by rw [truth_ref e0, List.isEmpty_map, hne]; rfl
    simp [scriptD, c1, tr, c2]
    refine sat_step (loop ys 0 L _ hy e0 hl0 hlm hd) ?_
    rintro _ S ⟨cs, q1, q2, w3, w4, w5, rfl, hS⟩
    simp [fz_ref hS, fin_nil, pure_ints]
    exact ⟨cs, q1, q2, rfl⟩
theorem box_ok (S : Store) (cs : List Int) (k : Nat) (off : Int) (hk : k < cs.length) (hk3 : k < 100) (ho : 0 ≤ off ∧ off < 100000)
    (hm : m_l_box = (mSeq (mAsg (mIfE (mTB (mOp opLt (mVar 1) (mCall fLen (mCons (mVar 0) mNil)))) (mOp opIx (mVar 0) (mVar 1)) (mC (.int 0))) (mgN 2))
  (mRet (mCell (mCons (mOp opMul (mCall fAbs (mCons (mVar 2) mNil)) (mCall fInt (mCons (mOp opGe (mCall fAbs (mCons (mVar 2) mNil)) (mOp opPowI (mC (.int 10)) (mC (.int 18)))) mNil))) (mCons (mOp opAdd (mOp opAdd (mOp opModI (mCall fInt (mCons (mVar 2) mNil)) (mC (.int 2305843009213693951))) (mOp opMul (mC (.int 39373)) (mVar 1))) (mC (.int off))) (mCons (mC (.int 0)) mNil))))))) :
    ∃ x, BoxC x 0 ∧ f_l_box [.lst (cs.map .int), .int (k : Nat)] S = .ok (.ref S.length) (S ++ [x]) := by
  have hg : atI (cs.map D.int) (k : Int) = some (.int cs[k]) := atI_get (by rw [List.getElem?_map, List.getElem?_eq_getElem hk]; rfl)
  have p1 : powOk 10 18 = true := by decide
  have m2 : mulOk 39373 (k : Int) = true := mulOk_l (by decide)
  have g1 : ∀ u, modOk u 2305843009213693951 = true := fun u => modOk_of (by decide)
  have hlt : ((k : Int) < (cs.length : Int)) := by omega
  generalize cs[k] = z at *
  obtain ⟨u, hu, ha⟩ : ∃ u : Int, 0 ≤ u ∧ ∀ T, fAbs [.int z] T = .ok (.int u) T := ⟨if z < 0 then -z else z, by split <;> omega, fun _ => rfl⟩
  have m1 : mulOk u (if 1000000000000000000 ≤ u then 1 else 0) = true := mulOk_r (by split <;> decide)
  have q0 : (0 : Int) ≤ u * (if 1000000000000000000 ≤ u then 1 else 0) := by split <;> simp [hu]
  refine ⟨box (u * (if 1000000000000000000 ≤ u then 1 else 0)) (z % 2305843009213693951 + 39373 * (k : Int) + off) 0, ⟨_, _, _, rfl, q0, ?_, by decide, by decide⟩, ?_⟩
  · have h1 := Int.emod_nonneg z (show (2305843009213693951 : Int) ≠ 0 by decide)
    have h2 := Int.emod_lt_of_pos z (show (0 : Int) < 2305843009213693951 by decide)
    omega
  · unfold f_l_box
    rw [hm, fnC_2]
    simp [-abs_int, ha, hg, hlt, p1, m1, m2, g1]
def BoxOk : Prop := ∀ (S : Store) (cs : List Int) (k : Nat), k < cs.length → k < 100 → ∃ x, BoxC x 0 ∧ f_l_box [.lst (cs.map .int), .int (k : Nat)] S = .ok (.ref S.length) (S ++ [x])
theorem BoxC.pure {x : Cell} {N : Nat} (h : BoxC x N) : x.pure = true := by
  obtain ⟨a, b, c, rfl, _⟩ := h
  rfl
theorem BoxS.pure {S0 S : Store} {k N : Nat} (h : BoxS S0 k N S) (hp : S0.all Cell.pure = true) : S.all Cell.pure = true := by
  obtain ⟨y, rfl, hy, hk⟩ := h
  refine List.all_eq_true.mpr fun c hc => ?_
  rcases List.mem_or_eq_of_mem_set hc with m | rfl
  · exact List.all_eq_true.mp hp c m
  · exact hy.pure
def rowD (r : Int × Int) : D := .tup [.int r.1, .int r.2]
def rowL (r : Int × Int) : D := .lst [.int r.1, .int r.2]
def logD (rows : List (Int × Int)) : D := .tup (rows.map rowD)
def strD (s e : Nat) : D := .tup [.int s, .int e]
def strL (s e : Nat) : D := .lst [.int s, .int e]
def seg (rows : List (Int × Int)) (s e : Nat) : List (Int × Int) := (rows.drop s).take (e - s)
def sg (rows : List (Int × Int)) (s e : Nat) : Int := ((seg rows s e).map Prod.fst).sum
def sf (rows : List (Int × Int)) (s e : Nat) : Int := ((seg rows s e).map Prod.snd).sum
@[simp] theorem pure_rowD (r : Int × Int) : pureD (rowD r) = true := (Eq.refl _).trans rfl
@[simp] theorem pure_rowL (r : Int × Int) : pureD (rowL r) = true := (Eq.refl _).trans rfl
@[simp] theorem pure_strD (s e : Nat) : pureD (strD s e) = true := (Eq.refl _).trans rfl
@[simp] theorem pure_strL (s e : Nat) : pureD (strL s e) = true := (Eq.refl _).trans rfl
theorem pureL_map {β : Type} {f : β → D} (h : ∀ b, pureD (f b) = true) (xs : List β) : pureL (xs.map f) = true := pureL_all.mpr fun d hd => by
  obtain ⟨b, _, rfl⟩ := List.mem_map.mp hd
  exact h b
@[simp] theorem pure_logD (rows : List (Int × Int)) : pureD (logD rows) = true := by
  unfold logD
  rw [pureD_tup, pureL_map pure_rowD]
theorem seg_len (rows : List (Int × Int)) (s e : Nat) : (seg rows s e).length ≤ rows.length := by
  unfold seg
  rw [List.length_take, List.length_drop]
  omega
theorem seg_app (rows : List (Int × Int)) {s m e : Nat} (h1 : s ≤ m) (h2 : m ≤ e) : seg rows s e = seg rows s m ++ seg rows m e := by
  unfold seg
  rw [show e - s = (m - s) + (e - m) by omega, List.take_add, List.drop_drop, show s + (m - s) = m by omega]
theorem sg_app (rows : List (Int × Int)) {s m e : Nat} (h1 : s ≤ m) (h2 : m ≤ e) : sg rows s e = sg rows s m + sg rows m e := by
  unfold sg
  rw [seg_app rows h1 h2, List.map_append, List.sum_append]
theorem sf_app (rows : List (Int × Int)) {s m e : Nat} (h1 : s ≤ m) (h2 : m ≤ e) : sf rows s e = sf rows s m + sf rows m e := by
  unfold sf
  rw [seg_app rows h1 h2, List.map_append, List.sum_append]
theorem sg_self (rows : List (Int × Int)) (s : Nat) : sg rows s s = 0 := by simp [sg, seg]
theorem sf_self (rows : List (Int × Int)) (s : Nat) : sf rows s s = 0 := by simp [sf, seg]
theorem seg_one (rows : List (Int × Int)) {m : Nat} (h : m < rows.length) : seg rows m (m + 1) = [rows[m]] := by
  unfold seg
  rw [show m + 1 - m = 1 by omega, List.drop_eq_getElem_cons h]
  rfl
theorem sg_one (rows : List (Int × Int)) {m : Nat} (h : m < rows.length) : sg rows m (m + 1) = rows[m].1 := by simp [sg, seg_one rows h]
theorem sf_one (rows : List (Int × Int)) {m : Nat} (h : m < rows.length) : sf rows m (m + 1) = rows[m].2 := by simp [sf, seg_one rows h]
def RowsOk (B : Int) (rows : List (Int × Int)) : Prop := ∀ r ∈ rows, (0 ≤ r.1 ∧ r.1 ≤ B) ∧ 0 ≤ r.2 ∧ r.2 ≤ B
theorem sum_bound {B : Int} : ∀ (xs : List Int), (∀ x ∈ xs, 0 ≤ x ∧ x ≤ B) → 0 ≤ xs.sum ∧ xs.sum ≤ B * xs.length
  | [], _ => by simp
  | x :: xs, h => by
    have h1 := h x (by simp)
    have h2 := sum_bound xs fun y hy => h y (by simp [hy])
    rw [List.sum_cons, List.length_cons]
    have : B * ((xs.length + 1 : Nat) : Int) = B * (xs.length : Int) + B := by rw [Int.natCast_add, Int.mul_add]; simp
    omega
theorem sg_bound {B : Int} {rows : List (Int × Int)} (h : RowsOk B rows) (hB : 0 ≤ B) (s e : Nat) : 0 ≤ sg rows s e ∧ sg rows s e ≤ B * rows.length := by
  have h1 := sum_bound (B := B) ((seg rows s e).map Prod.fst) fun x hx => by
    obtain ⟨r, hr, rfl⟩ := List.mem_map.mp hx
    exact (h r (List.mem_of_mem_drop (List.mem_of_mem_take hr))).1
  rw [List.length_map] at h1
  have h2 := Int.mul_le_mul_of_nonneg_left (show ((seg rows s e).length : Int) ≤ rows.length by have := seg_len rows s e; omega) hB
  exact ⟨h1.1, Int.le_trans h1.2 h2⟩
theorem sf_bound {B : Int} {rows : List (Int × Int)} (h : RowsOk B rows) (hB : 0 ≤ B) (s e : Nat) : 0 ≤ sf rows s e ∧ sf rows s e ≤ B * rows.length := by
  have h1 := sum_bound (B := B) ((seg rows s e).map Prod.snd) fun x hx => by
    obtain ⟨r, hr, rfl⟩ := List.mem_map.mp hx
    exact (h r (List.mem_of_mem_drop (List.mem_of_mem_take hr))).2
  rw [List.length_map] at h1
  have h2 := Int.mul_le_mul_of_nonneg_left (show ((seg rows s e).length : Int) ≤ rows.length by have := seg_len rows s e; omega) hB
  exact ⟨h1.1, Int.le_trans h1.2 h2⟩
theorem cut_map {β : Type} {f : β → D} (xs : List β) (s e : Nat) : cutD (xs.map f) (some (s : Int)) (some (e : Int)) = ((xs.drop s).take (e - s)).map f := by
  rw [cutD_mid, List.map_take, List.map_drop]
theorem lc_fst {i j v : Nat} {ρ : Q.Env} {f : Int × Int → D} (hv : v = i ∨ v = j) (hi : i < ρ.length) (hj : j < ρ.length) (hij : i ≠ j) (hf : ∀ r S, ∃ T, mgTup 2 (mgCons (mgN i) (mgCons (mgN j) mgNil)) (f r) ρ S = .ok T S ∧ T = (ρ.set i (some (.int r.1))).set j (some (.int r.2))) :
    ∀ (xs : List (Int × Int)) (S : Store), lcL (mgTup 2 (mgCons (mgN i) (mgCons (mgN j) mgNil))) mYes (mVar v) ρ (xs.map f) S = .ok (xs.map fun r => .int (if v = i then r.1 else r.2)) S := by
  intro xs
  induction xs with
  | nil => exact fun S => rfl
  | cons x xs ih =>
    intro S
    obtain ⟨T, h1, rfl⟩ := hf x S
    have h2 : ((ρ.set i (some (.int x.1))).set j (some (.int x.2)))[v]? = some (some (.int (if v = i then x.1 else x.2))) := by
      rcases hv with rfl | rfl
      · rw [List.getElem?_set_ne (Ne.symm hij), List.getElem?_set_self hi, if_pos rfl]
      · rw [List.getElem?_set_self (by simpa using hj), if_neg (Ne.symm hij)]
    rw [List.map_cons, lcL_cons, h1]
    simp [h2, ih]
theorem calls_gen {rows : List (Int × Int)} {f : Int × Int → D} {d st : D} {s e : Nat} {S : Store} (hl : rows.length ≤ 100000) (hf : f = rowD ∨ f = rowL) (hd : d = .tup (rows.map f) ∨ d = .lst (rows.map f)) (hst : st = strD s e ∨ st = strL s e) :
    f_p_calls [d, st] S = .ok (.tup [.int (sg rows s e), .int (sf rows s e)]) S := by
  have hs : ∀ (rows : List (Int × Int)) (v : Nat) (S : Store) (ρ : Q.Env), (v = 5 ∨ v = 6) → 6 < ρ.length → lcL (mgTup 2 (mgCons (mgN 5) (mgCons (mgN 6) mgNil))) mYes (mVar v) ρ (rows.map f) S = .ok (rows.map fun r => .int (if v = 5 then r.1 else r.2)) S := fun rows v S ρ hv hρ => by
    refine lc_fst hv (by omega) hρ (by decide) (fun r S => ⟨_, ?_, rfl⟩) rows S
    rcases hf with rfl | rfl <;> rfl
  have hc := cut_map (f := f) rows s e
  have hl2 := seg_len rows s e
  unfold seg at hl2
  have hl3 : ((rows.drop s).take (e - s)).length ≤ 100000 := by omega
  have sm : ∀ (g : Int × Int → Int) (S : Store), fSum [.lst (((rows.drop s).take (e - s)).map fun r => D.int (g r))] S = .ok (.int (((rows.drop s).take (e - s)).map g).sum) S := fun g S => sum_lst (ints_map g _)
  unfold sg sf seg
  generalize (rows.drop s).take (e - s) = cut at *
  have h5 := fun S ρ hρ => hs cut 5 S ρ (.inl rfl) hρ
  have h6 := fun S ρ hρ => hs cut 6 S ρ (.inr rfl) hρ
  simp only [if_true, show ¬ (6 : Nat) = 5 by decide, if_false] at h5 h6
  have s5 := fun S => sm (fun r => r.1) S
  have s6 := fun S => sm (fun r => r.2) S
  rcases hd with rfl | rfl <;> rcases hst with rfl | rfl <;> simp [f_p_calls, fnM, m_p_calls, strD, strL, hc, hl3, h5, h6, s5, s6] <;> rfl
section
variable {rows : List (Int × Int)} {s e : Nat} {S : Store}
theorem callsP (hl : rows.length ≤ 100000) : fPure f_p_calls [logD rows, strD s e] S = .ok (.tup [.int (sg rows s e), .int (sf rows s e)]) S := fPure_ap S (by simp) (calls_gen hl (.inl rfl) (.inl rfl) (.inl rfl))
end
theorem lcL_mapx {β : Type} {u w : β → D} {g : MG} {m : ME} {ρ : Q.Env} : ∀ (xs : List β) (S : Store), (∀ x ∈ xs, ∃ ρ1, g (u x) ρ S = .ok ρ1 S ∧ m ρ1 S = .ok (w x) S) → lcL g mYes m ρ (xs.map u) S = .ok (xs.map w) S
  | [], S, _ => rfl
  | x :: xs, S, h => by
    obtain ⟨ρ1, h1, h2⟩ := h x (by simp)
    rw [List.map_cons]
    unfold lcL
    rw [h1]
    simp only [bind_ok, ap_yes]
    rw [h2]
    simp only [bind_ok]
    rw [lcL_mapx xs S fun y hy => h y (by simp [hy])]
    rfl
theorem zipD_map {β γ : Type} {f : β → D} {g : γ → D} : ∀ (xs : List β) (ys : List γ), zipD (xs.map f) (ys.map g) = (xs.zip ys).map fun p => .tup [f p.1, g p.2]
  | [], _ => rfl
  | _ :: _, [] => rfl
  | x :: xs, y :: ys => by
    show D.tup [f x, g y] :: zipD (xs.map f) (ys.map g) = _
    rw [zipD_map xs ys]
    rfl
theorem shal_ints (xs : List Int) : shal 20 (.lst (xs.map .int)) = true := by
  rw [shal_lst]
  exact shal_map (fun _ => shal_int _ _) xs
theorem lcL_filtermap {β : Type} {u w : β → D} {q : β → Bool} {g : MG} {t : MT} {m : ME} {ρ : Q.Env} : ∀ (xs : List β) (S : Store), (∀ x ∈ xs, ∃ ρ1, g (u x) ρ S = .ok ρ1 S ∧ t ρ1 S = .ok (q x) S ∧ m ρ1 S = .ok (w x) S) → lcL g t m ρ (xs.map u) S = .ok ((xs.filter q).map w) S
  | [], S, _ => rfl
  | x :: xs, S, h => by
    obtain ⟨ρ1, h1, h2, h3⟩ := h x (by simp)
    have ih := lcL_filtermap xs S fun y hy => h y (by simp [hy])
    rw [List.map_cons]
    unfold lcL
    rw [h1]
    simp only [bind_ok]
    rw [h2]
    simp only [bind_ok]
    cases e : q x with
    | true =>
      simp only [e, if_true, h3, bind_ok, ih, List.filter_cons]
      rfl
    | false =>
      simp only [e, ih, List.filter_cons]
      rfl
theorem BoxS.lt {S0 S : Store} {k N : Nat} (h : BoxS S0 k N S) : k < S0.length := by obtain ⟨y, _, _, hk⟩ := h; exact hk
theorem BoxS.push {S0 S : Store} {k N : Nat} (c : Cell) (h : BoxS S0 k N S) : BoxS (S0 ++ [c]) k N (S ++ [c]) := by
  obtain ⟨y, rfl, hy, hk⟩ := h
  exact ⟨y, by rw [List.set_append_left _ _ hk], hy, by simp; omega⟩
theorem BoxS.last {S0 S : Store} {k N : Nat} {c : Cell} (h : BoxS (S0 ++ [c]) k N S) (hk : k < S0.length) : S[S0.length]? = some c := by
  obtain ⟨y, rfl, _, _⟩ := h
  rw [List.getElem?_set_ne (by omega)]
  simp
theorem BoxS.setLast {S0 S : Store} {k N : Nat} {c : Cell} (c' : Cell) (h : BoxS (S0 ++ [c]) k N S) (hk : k < S0.length) : BoxS (S0 ++ [c']) k N (S.set S0.length c') := by
  obtain ⟨y, rfl, hy, _⟩ := h
  refine ⟨y, ?_, hy, by simp; omega⟩
  rw [List.set_append_left _ _ hk, List.set_append_left _ _ hk]
  have e : (S0.set k y).length = S0.length := by simp
  rw [← e, List.set_append_right _ _ (Nat.le_refl _)]
  simp
theorem BoxS.cut {S0 S : Store} {k N : Nat} {c : Cell} (h : BoxS (S0 ++ [c]) k N S) (hk : k < S0.length) : S.length = S0.length + 1 ∧ BoxS S0 k N (S.take S0.length) := by
  obtain ⟨y, rfl, hy, _⟩ := h
  refine ⟨by simp, y, ?_, hy, hk⟩
  rw [List.set_append_left _ _ hk]
  exact List.take_left' (by simp)
theorem fin_cut {S0 S : Store} {k N n : Nat} {c : Cell} {d : D} (h : BoxS (S0 ++ [c]) k N S) (hk : k < S0.length) (hn : n = S0.length) (hp : S0.all Cell.pure = true) (hd : pureD d = true) : ∃ S', fin n d S = .ok d S' ∧ BoxS S0 k N S' := by
  obtain ⟨hl, hb⟩ := h.cut hk
  refine ⟨S.take S0.length, ?_, hb⟩
  subst hn
  exact fin_ok (by omega) hd (hb.pure hp)
theorem BoxS.pushes {S0 S : Store} {k N : Nat} (cs : List Cell) (h : BoxS S0 k N S) : BoxS (S0 ++ cs) k N (S ++ cs) := by
  obtain ⟨y, rfl, hy, hk⟩ := h
  exact ⟨y, by rw [List.set_append_left _ _ hk], hy, by simp; omega⟩
theorem BoxS.cuts {S0 S : Store} {cs : List Cell} {k N : Nat} (h : BoxS (S0 ++ cs) k N S) (hk : k < S0.length) : S.length = S0.length + cs.length ∧ BoxS S0 k N (S.take S0.length) := by
  obtain ⟨y, rfl, hy, _⟩ := h
  refine ⟨by simp, y, ?_, hy, hk⟩
  rw [List.set_append_left _ _ hk]
  exact List.take_left' (by simp)
theorem fin_cuts {S0 S : Store} {cs : List Cell} {k N n : Nat} {d : D} (h : BoxS (S0 ++ cs) k N S) (hk : k < S0.length) (hn : n = S0.length) (hp : S0.all Cell.pure = true) (hd : pureD d = true) : ∃ S', fin n d S = .ok d S' ∧ BoxS S0 k N S' := by
  obtain ⟨hl, hb⟩ := h.cuts hk
  subst hn
  by_cases h0 : cs.length = 0
  · refine ⟨S, by unfold fin; rw [if_pos (by omega)], ?_⟩
    rwa [List.take_of_length_le (by omega)] at hb
  · refine ⟨S.take S0.length, ?_, hb⟩
    exact fin_ok (by omega) hd (hb.pure hp)
structure LooksOk (many : Int) (ps : List (Int × Int)) : Prop where
  up : ps.Pairwise plt
  ok : ∀ p ∈ ps, 0 ≤ p.1 ∧ p.1 < p.2 ∧ p.2 ≤ many
def looksD (ps : List (Int × Int)) : D := .tup (ps.map pairD)
theorem insU_len (x : Int × Int) : ∀ ys : List (Int × Int), (insU x ys).length ≤ ys.length + 1
  | [] => by simp [insU]
  | y :: ys => by
    unfold insU
    have := insU_len x ys
    split
    · simp
    · split
      · simp
      · simp; omega
theorem sortU_len : ∀ xs : List (Int × Int), (sortU xs).length ≤ xs.length
  | [] => by simp [sortU]
  | x :: xs => by
    unfold sortU
    have a := insU_len x (sortU xs)
    have b := sortU_len xs
    simp; omega
theorem min2_ok {a b : Int} {S : Store} : fMin2 [.int a, .int b] S = .ok (.int (if b < a then b else a)) S := rfl
def mLk : MS := (mSeq (mAsg (mCall (fCall f_l_take) (mCons (mVar 0) (mCons (mVar 1) mNil))) (mgN 7))
  (mIf (mTB (mOp opEq (mVar 3) (mC (.int 0)))) (mDrop (mApp (mVar 4) (mTup (mCons (mVar 7) (mCons (mOp opAdd (mOp opAdd (mVar 7) (mC (.int 1))) (mCall (fCall f_l_take) (mCons (mVar 0) (mCons (mOp opSubI (mVar 1) (mVar 7)) mNil)))) mNil))))) (mIf (mTB (mOp opEq (mVar 3) (mC (.int 1)))) (mDrop (mApp (mVar 4) (mTup (mCons (mVar 7) (mCons (mCall fMin2 (mCons (mVar 1) (mCons (mOp opAdd (mVar 7) (mVar 5)) mNil))) mNil))))) (mDrop (mApp (mVar 4) (mTup (mCons (mVar 7) (mCons (mCall fMin2 (mCons (mVar 1) (mCons (mOp opAdd (mOp opAdd (mVar 7) (mC (.int 1))) (mCall (fCall f_l_take) (mCons (mVar 0) (mCons (mC (.int 5)) mNil)))) mNil))) mNil))))))))
theorem looks_s {S0 S : Store} {k N : Nat} {many : Int} {most : Nat} (h : BoxS S0 k N S) (hp : S0.all Cell.pure = true) (hN : N + 2 * most + 10 < 2 ^ 40) (hm : 0 < many) (hm2 : many < lim) (hmost : most < 63) :
    (f_l_looks [.ref k, .int many, .int most] S).Sat fun d S' => ∃ ps, d = looksD ps ∧ LooksOk many ps ∧ ps.length ≤ most ∧ BoxS S0 k (N + 2 * most + 3) S' := by
  have hm3 : many < 2 ^ 8999 := Int.lt_trans hm2 (by decide)
  have hk := h.lt
  have turn : ∀ (way wide : Int) (v2 : Option D) (ps : List (Int × Int)) (v6 v7 : Option D) (M : Nat) (T : Store), 0 < wide → M + 2 < 2 ^ 40 → ps.length < 63 → (∀ p ∈ ps, 0 ≤ p.1 ∧ p.1 < p.2 ∧ p.2 ≤ many) → BoxS (S0 ++ [.lst (ps.map pairD)]) k M T →
      (mLk [some (.ref k), some (.int many), v2, some (.int way), some (.ref S0.length), some (.int wide), v6, v7] T).Sat fun f T' => ∃ p v7', f = .nx [some (.ref k), some (.int many), v2, some (.int way), some (.ref S0.length), some (.int wide), v6, v7'] ∧ (0 ≤ p.1 ∧ p.1 < p.2 ∧ p.2 ≤ many) ∧ BoxS (S0 ++ [.lst ((ps ++ [p]).map pairD)]) k (M + 2) T' := by
    intro way wide v2 ps v6 v7 M T hw hM hps hok hT
    have put : ∀ (M' : Nat) (T' : Store) (s e : Int), BoxS (S0 ++ [.lst (ps.map pairD)]) k M' T' → appTo S0.length (.tup [.int s, .int e]) T' = .ok .non (T'.set S0.length (.lst ((ps ++ [(s, e)]).map pairD))) := fun M' T' s e hb => by
      rw [appTo_ok _ (hb.last hk) (by simp; omega)]
      simp [pairD]
    have no : ∀ (M' : Nat) (T' : Store), BoxS (S0 ++ [.lst (ps.map pairD)]) k M' T' → notOb T' S0.length = true := fun M' T' hb => notOb_lst (hb.last hk)
    unfold mLk
    simp
    refine sat_step (take_s (n := many) hT (by omega) hm hm3) ?_
    rintro _ T1 ⟨s, rfl, a1, b1, h1⟩
    by_cases e0 : way = 0
    · simp [e0, no _ _ h1]
      refine sat_step (take_s (n := many - s) h1 (by omega) (by omega) (by omega)) ?_
      rintro _ T2 ⟨r, rfl, a2, b2, h2⟩
      simp [put _ _ _ _ h2]
      have z := (h2.setLast (.lst ((ps ++ [(s, s + 1 + r)]).map pairD)) hk).mono (show M + 1 + 1 ≤ M + 2 by omega)
      exact ⟨s, s + 1 + r, ⟨by omega, by omega, by omega⟩, by simpa using z⟩
    · by_cases e1 : way = 1
      · simp [e1, min2_ok, no _ _ h1, put _ _ _ _ h1]
        have z := (h1.setLast (.lst ((ps ++ [(s, if s + wide < many then s + wide else many)]).map pairD)) hk).mono (show M + 1 ≤ M + 2 by omega)
        exact ⟨s, if s + wide < many then s + wide else many, ⟨by omega, by split <;> omega, by split <;> omega⟩, by simpa using z⟩
      · simp [e0, e1, no _ _ h1]
        refine sat_step (take_s (n := 5) h1 (by omega) (by decide) (by decide)) ?_
        rintro _ T2 ⟨r, rfl, a2, b2, h2⟩
        simp [min2_ok, put _ _ _ _ h2]
        have z := (h2.setLast (.lst ((ps ++ [(s, if s + 1 + r < many then s + 1 + r else many)]).map pairD)) hk).mono (show M + 1 + 1 ≤ M + 2 by omega)
        exact ⟨s, if s + 1 + r < many then s + 1 + r else many, ⟨by omega, by split <;> omega, by split <;> omega⟩, by simpa using z⟩
  unfold f_l_looks m_l_looks
  rw [fnM_3]
  show (endM S.length (mSeq _ (mSeq _ (mSeq (mFor _ _ mLk) _)) _ _)).Sat _
  generalize mLk = mL at *
  simp
  refine sat_step (take_s (n := 4) h (by omega) (by decide) (by decide)) ?_
  rintro _ S1 ⟨way, rfl, a1, b1, h1⟩
  have hl1 : S1.length = S0.length := h1.len
  simp [min2_ok]
  refine sat_step (take_s (n := if 5 < many then 5 else many) (h1.push (.lst [])) (by omega) (by split <;> omega) (Int.lt_trans (show (if (5 : Int) < many then 5 else many) < 6 by split <;> omega) (by decide))) ?_
  rintro _ S2 ⟨w, rfl, a2, b2, h2⟩
  simp
  refine sat_step (take_s (n := (most : Int) + 1) h2 (by omega) (by omega) (Int.lt_trans (show (most : Int) + 1 < 100 by omega) (by decide))) ?_
  rintro _ S3 ⟨t, rfl, a3, b3, h3⟩
  obtain ⟨t, rfl⟩ := Int.eq_ofNat_of_zero_le a3
  simp [r1K_nat t (by omega)]
  refine sat_step (forL_sat (P := fun f S' => ∃ (ps : List (Int × Int)) (v6 v7 : Option D), f = .nx [some (.ref k), some (.int many), some (.int most), some (.int way), some (.ref S1.length), some (.int (1 + w)), v6, v7] ∧ ps.length = t ∧ (∀ p ∈ ps, 0 ≤ p.1 ∧ p.1 < p.2 ∧ p.2 ≤ many) ∧ BoxS (S0 ++ [.lst (ps.map pairD)]) k (N + 3 + 2 * ps.length) S')
    (fun ds ρ S' => ∃ (ps : List (Int × Int)) (v6 v7 : Option D), ρ = [some (.ref k), some (.int many), some (.int most), some (.int way), some (.ref S1.length), some (.int (1 + w)), v6, v7] ∧ ps.length + ds.length = t ∧ (∀ p ∈ ps, 0 ≤ p.1 ∧ p.1 < p.2 ∧ p.2 ≤ many) ∧ BoxS (S0 ++ [.lst (ps.map pairD)]) k (N + 3 + 2 * ps.length) S') ?_ ?_ _ _ _ ⟨[], none, none, rfl, by simp [rangeD_len], by simp, by simpa using h3⟩) ?_
  · rintro d ds ρ S' ⟨ps, v6, v7, rfl, hl, hok, hB⟩
    rw [List.length_cons] at hl
    refine ⟨_, S', rfl, ?_⟩
    rw [hl1]
    refine (turn way (1 + w) _ ps (some d) v7 _ S' (by omega) (by omega) (by omega) hok hB).mono ?_
    rintro _ T' ⟨p, v7', rfl, hpk, hB'⟩
    refine ⟨ps ++ [p], _, _, rfl, by simp; omega, fun q hq => ?_, by simpa [Nat.mul_add, Nat.add_assoc] using hB'⟩
    rcases List.mem_append.mp hq with m | m
    · exact hok q m
    · simp at m
      subst m
      exact hpk
  · rintro ρ S' ⟨ps, v6, v7, rfl, hl, hok, hB⟩
    exact ⟨ps, v6, v7, rfl, by simpa using hl, hok, hB⟩
  · rintro _ S' ⟨ps, v6, v7, rfl, hl, hok, hB⟩
    have pk : ∀ p ∈ ps, (0 ≤ p.1 ∧ p.1 < lim) ∧ 0 ≤ p.2 ∧ p.2 < lim := fun p hp => by
      have := hok p hp
      omega
    have ss := fun S => ssK_pairs (S := S) pk (by omega)
    have fr := fz_ref (hB.last hk)
    have hB2 := hB.setLast (.frz (ps.map pairD)) hk
    have len : ((sortU ps).map pairD).length ≤ 100000 := by have := sortU_len ps; simp; omega
    have pd : pureD (.tup ((sortU ps).map pairD)) = true := pureL_all.mpr fun d hd => by
      obtain ⟨p, _, rfl⟩ := List.mem_map.mp hd
      rfl
    obtain ⟨S4, e4, hB4⟩ := fin_cut (d := .tup ((sortU ps).map pairD)) hB2 hk h.len hp pd
    rw [hl1]
    generalize hR : (sortU ps).map pairD = R at *
    simp [fr, ss, hR, e4]
    exact ⟨sortU ps, by rw [looksD, hR], ⟨sortU_up ps, fun p hp => hok p (mem_sortU.mp hp)⟩, by have := sortU_len ps; omega, hB4.mono (by omega)⟩
def bookD (many a b : Int) (ps : List (Int × Int)) : D := .tup [.int many, .tup [.int a, .int b], looksD ps]
theorem book_s {S0 S : Store} {k N mm most : Nat} (h : BoxS S0 k N S) (hp : S0.all Cell.pure = true) (hN : N + 2 * most + 20 < 2 ^ 40) (hm : 0 < mm) (hm2 : mm < 1000) (hmost : most < 63) :
    (f_l_book [.ref k, .int mm, .int most] S).Sat fun d S' => ∃ (many : Nat) (a b : Int) (ps : List (Int × Int)), d = bookD many a b ps ∧ (0 < many ∧ many ≤ mm) ∧ (0 < a ∧ a < b ∧ b < 2 ^ 67) ∧ LooksOk many ps ∧ ps.length ≤ most ∧ BoxS S0 k (N + 2 * most + 7) S' := by
  unfold f_l_book m_l_book
  rw [fnM_3]
  simp
  refine sat_step (take_s (n := (mm : Int)) h (by omega) (by omega) (Int.lt_trans (show (mm : Int) < 1000 by omega) (by decide))) ?_
  rintro _ S1 ⟨r, rfl, a1, b1, h1⟩
  simp
  refine sat_step (limit_s h1 (by omega)) ?_
  rintro _ S2 ⟨⟨a, b, rfl, ha, hab, hb⟩, h2⟩
  simp
  refine sat_step (looks_s (many := 1 + r) (most := most) h2 hp (by omega) (by omega) (by unfold lim; omega) hmost) ?_
  rintro _ S3 ⟨ps, rfl, hl, hps, h3⟩
  obtain ⟨n, rfl⟩ := Int.eq_ofNat_of_zero_le a1
  simp [fin_len (h3.len.trans h.len.symm)]
  refine ⟨n + 1, a, b, ps, ?_, ⟨by omega, by omega⟩, ⟨ha, hab, hb⟩, ?_, hps, h3.mono (by omega)⟩
  · unfold bookD
    rw [show (((n + 1 : Nat)) : Int) = 1 + (n : Int) by omega]
  · rw [show (((n + 1 : Nat)) : Int) = 1 + (n : Int) by omega]
    exact hl
abbrev Jmp := List ((Int × Int) × Int)
abbrev Stp := List (Int × Bool)
def sumI (xs : List Int) : Int := xs.foldr (· + ·) 0
@[simp] theorem sumI_nil : sumI [] = 0 := rfl
@[simp] theorem sumI_cons (x : Int) (xs : List Int) : sumI (x :: xs) = x + sumI xs := rfl
def jW (χ : Int → Int) (J : Jmp) : Int := sumI (J.map fun x => x.2 * (χ x.1.2 - χ x.1.1))
def tW (χ : Int → Int) (T : Stp) : Int := sumI (T.map fun x => if x.2 then χ (x.1 + 1) - χ x.1 else 0)
def getT (T : Stp) (m : Int) : Option Bool := (T.find? fun x => decide (x.1 = m)).map (·.2)
def getJ (J : Jmp) (l : Int × Int) : Option Int := (J.find? fun x => decide (x.1 = l)).map (·.2)
theorem getT_cons (x : Int × Bool) (T : Stp) (m : Int) : getT (x :: T) m = if x.1 = m then some x.2 else getT T m := by
  by_cases h : x.1 = m <;> simp [getT, List.find?_cons, h]
theorem getT_mem {m : Int} {v : Bool} : ∀ {T : Stp}, getT T m = some v → (m, v) ∈ T
  | [], h => by simp [getT] at h
  | x :: T, h => by
    rw [getT_cons] at h
    split at h
    · rename_i e; cases h; subst e; simp
    · exact List.mem_cons_of_mem _ (getT_mem h)
def ways (J : Jmp) (T : Stp) (p : Int) : List Int :=
  (J.filter fun x => decide (x.1.2 = p)).map (·.1.1) ++ (J.filter fun x => decide (x.1.1 = p) && decide (x.2 > 0)).map (·.1.2) ++ (if getT T (p - 1) = some false then [p - 1] else []) ++ (if getT T p = some true then [p + 1] else [])
theorem mem_ways {J : Jmp} {T : Stp} {p o : Int} : o ∈ ways J T p ↔ (∃ n, ((o, p), n) ∈ J) ∨ (∃ n, ((p, o), n) ∈ J ∧ n > 0) ∨ (o = p - 1 ∧ getT T (p - 1) = some false) ∨ (o = p + 1 ∧ getT T p = some true) := by
  unfold ways
  simp only [List.mem_append, List.mem_map, List.mem_filter, decide_eq_true_eq, Bool.and_eq_true]
  constructor
  · rintro (((⟨⟨⟨s, e⟩, n⟩, ⟨h1, h2⟩, h3⟩ | ⟨⟨⟨s, e⟩, n⟩, ⟨h1, h2, h3⟩, h4⟩) | h) | h)
    · simp only at h2 h3
      subst h2; subst h3
      exact .inl ⟨n, h1⟩
    · simp only at h2 h3 h4
      subst h2; subst h4
      exact .inr (.inl ⟨n, h1, h3⟩)
    · split at h
      · rename_i hg; simp at h; exact .inr (.inr (.inl ⟨h, hg⟩))
      · simp at h
    · split at h
      · rename_i hg; simp at h; exact .inr (.inr (.inr ⟨h, hg⟩))
      · simp at h
  · rintro (⟨n, h⟩ | ⟨n, h, hn⟩ | ⟨rfl, h⟩ | ⟨rfl, h⟩)
    · exact .inl (.inl (.inl ⟨_, ⟨h, rfl⟩, rfl⟩))
    · exact .inl (.inl (.inr ⟨_, ⟨h, rfl, hn⟩, rfl⟩))
    · exact .inl (.inr (by rw [if_pos h]; simp))
    · exact .inr (by rw [if_pos h]; simp)
structure Fl0 (first last : Int) (J : Jmp) (T : Stp) : Prop where
  nj : (J.map (·.1)).Nodup
  nt : (T.map (·.1)).Nodup
  pos : ∀ x ∈ J, 0 ≤ x.2
  lk : ∀ x ∈ J, first ≤ x.1.1 ∧ x.1.1 < x.1.2 ∧ x.1.2 ≤ last
  st : ∀ m, m ∈ T.map (·.1) ↔ (first ≤ m ∧ m < last ∧ (m, m + 1) ∉ J.map (·.1))
theorem ways_in {first last : Int} {J : Jmp} {T : Stp} (h : Fl0 first last J T) {p o : Int} (ho : o ∈ ways J T p) : first ≤ o ∧ o ≤ last ∧ first ≤ p ∧ p ≤ last := by
  rcases mem_ways.mp ho with ⟨n, m⟩ | ⟨n, m, _⟩ | ⟨rfl, m⟩ | ⟨rfl, m⟩
  · have := h.lk _ m; simp at this; omega
  · have := h.lk _ m; simp at this; omega
  · have := (h.st (p - 1)).mp (List.mem_map.mpr ⟨_, getT_mem m, rfl⟩); omega
  · have := (h.st p).mp (List.mem_map.mpr ⟨_, getT_mem m, rfl⟩); omega
inductive Chain (J : Jmp) (T : Stp) (last : Int) : List (Int × Int) → Prop
  | base : Chain J T last [(last, last)]
  | snoc {ks : List (Int × Int)} {p q : Int} : Chain J T last ks → q ∈ ks.map (·.1) → p ∉ ks.map (·.1) → p ∈ ways J T q → Chain J T last (ks ++ [(p, q)])
theorem Chain.nodup {J : Jmp} {T : Stp} {last : Int} {ks : List (Int × Int)} (h : Chain J T last ks) : (ks.map (·.1)).Nodup := by
  induction h with
  | base => simp
  | snoc _ _ hp _ ih =>
    rw [List.map_append, List.nodup_append]
    refine ⟨ih, by simp, fun a ha b hb => ?_⟩
    simp at hb
    subst hb
    exact fun z => hp (z ▸ ha)
theorem Chain.within {first last : Int} {J : Jmp} {T : Stp} (hf : Fl0 first last J T) (hl : first < last) {ks : List (Int × Int)} (h : Chain J T last ks) : ∀ p ∈ ks.map (·.1), first ≤ p ∧ p ≤ last := by
  induction h with
  | base => intro p hp; simp at hp; omega
  | snoc _ _ _ hw ih =>
    intro p hp
    rw [List.map_append, List.mem_append] at hp
    rcases hp with hp | hp
    · exact ih p hp
    · simp at hp
      subst hp
      have := ways_in hf hw
      omega
theorem Chain.cut {J : Jmp} {T : Stp} {last : Int} {ks : List (Int × Int)} (h : Chain J T last ks) : ∀ {pre suf : List (Int × Int)} {p q : Int}, ks = pre ++ (p, q) :: suf → p ≠ last → Chain J T last pre ∧ q ∈ pre.map (·.1) ∧ p ∉ pre.map (·.1) ∧ p ∈ ways J T q := by
  induction h with
  | base =>
    intro pre suf p q e hp
    cases pre with
    | nil => simp at e; exact absurd e.1.1.symm hp
    | cons a pre => simp at e
  | @snoc ks p0 q0 hc hq hp0 hw ih =>
    intro pre suf p q e hp
    rcases List.eq_nil_or_concat suf with rfl | ⟨suf', x, rfl⟩
    · have := List.append_inj' e rfl
      obtain ⟨rfl, e2⟩ := this
      simp at e2
      obtain ⟨rfl, rfl⟩ := e2
      exact ⟨hc, hq, hp0, hw⟩
    · have e' : ks ++ [(p0, q0)] = (pre ++ (p, q) :: suf') ++ [x] := by rw [e]; simp [List.concat_eq_append]
      exact ih (List.append_inj' e' rfl).1 hp
structure Agree (J : Jmp) (T : Stp) (J' : Jmp) (T' : Stp) (P : Int → Prop) : Prop where
  kj : J'.map (·.1) = J.map (·.1)
  kt : T'.map (·.1) = T.map (·.1)
  gj : ∀ l : Int × Int, P l.1 → P l.2 → getJ J' l = getJ J l
  gt : ∀ m, P m → P (m + 1) → getT T' m = getT T m
structure FlowOk (first last : Int) (J : Jmp) (T : Stp) (many : Int) : Prop where
  f0 : Fl0 first last J T
  eq : ∀ χ : Int → Int, jW χ J + tW χ T = many * (χ last - χ first)
def riseB (P : Int → Bool) (m : Int) : Bool := !P m && P (m + 1)
def risesN (P : Int → Bool) (first last : Int) : Nat := (((List.range (last - first).toNat).map fun (i : Nat) => first + (i : Int)).filter (riseB P)).length
def mins (first last : Int) : List Int := (List.range (last - first).toNat).map fun (i : Nat) => first + (i : Int)
theorem mem_mins {first last m : Int} : m ∈ mins first last ↔ first ≤ m ∧ m < last := by
  unfold mins
  simp only [List.mem_map, List.mem_range]
  constructor
  · rintro ⟨i, hi, rfl⟩; omega
  · rintro ⟨a, b⟩; exact ⟨(m - first).toNat, by omega, by omega⟩
theorem nodup_le {xs ys : List Int} (nd : xs.Nodup) (h : ∀ x ∈ xs, x ∈ ys) : xs.length ≤ ys.length := List.Nodup.length_le_of_subset nd h
structure Bf (J : Jmp) (T : Stp) (last : Int) (ks : List (Int × Int)) (pend : List Int) : Prop where
  ch : Chain J T last ks
  sub : ∀ p ∈ pend, p ∈ ks.map (·.1)
  cl : ∀ p ∈ ks.map (·.1), p ∈ pend ∨ ∀ o ∈ ways J T p, o ∈ ks.map (·.1)
theorem Bf.start (J : Jmp) (T : Stp) (last : Int) : Bf J T last [(last, last)] [last] := ⟨.base, by simp, fun p hp => .inl (by simpa using hp)⟩
theorem Bf.add {J : Jmp} {T : Stp} {last : Int} {ks : List (Int × Int)} {pend : List Int} {o q : Int} (h : Bf J T last ks pend) (hq : q ∈ ks.map (·.1)) (hw : o ∈ ways J T q) (hn : o ∉ ks.map (·.1)) : Bf J T last (ks ++ [(o, q)]) (pend ++ [o]) := by
  have mono : ∀ x ∈ ks.map (·.1), x ∈ (ks ++ [(o, q)]).map (·.1) := fun x hx => by rw [List.map_append]; exact List.mem_append_left _ hx
  refine ⟨.snoc h.ch hq hn hw, fun p hp => ?_, fun p hp => ?_⟩
  · rcases List.mem_append.mp hp with hp | hp
    · exact mono p (h.sub p hp)
    · simp at hp; subst hp; simp
  · rw [List.map_append, List.mem_append] at hp
    rcases hp with hp | hp
    · rcases h.cl p hp with z | z
      · exact .inl (List.mem_append_left _ z)
      · exact .inr fun x hx => mono x (z x hx)
    · simp at hp; subst hp; exact .inl (by simp)
theorem Bf.done {J : Jmp} {T : Stp} {last : Int} {ks : List (Int × Int)} {pend : List Int} {q : Int} (h : Bf J T last ks (q :: pend)) (hw : ∀ o ∈ ways J T q, o ∈ ks.map (·.1)) : Bf J T last ks pend :=
  ⟨h.ch, fun p hp => h.sub p (List.mem_cons_of_mem _ hp), fun p hp => by
    rcases h.cl p hp with z | z
    · rcases List.mem_cons.mp z with rfl | z
      · exact .inr hw
      · exact .inl z
    · exact .inr z⟩
theorem Chain.len {first last : Int} {J : Jmp} {T : Stp} (hf : Fl0 first last J T) (hl : first < last) {ks : List (Int × Int)} (h : Chain J T last ks) : ks.length ≤ (last - first).toNat + 1 := by
  have := nodup_le (ys := mins first (last + 1)) h.nodup fun x hx => mem_mins.mpr (by have := h.within hf hl x hx; omega)
  simp [mins] at this
  omega
section
variable {first last : Int} {J : Jmp} {T : Stp}
structure Found (J : Jmp) (T : Stp) (last : Int) (ks : List (Int × Int)) : Prop where
  ch : Chain J T last ks
  cl : ∀ p ∈ ks.map (·.1), ∀ o ∈ ways J T p, o ∈ ks.map (·.1)
end
def tuD : Nat → D → D
  | n + 1, .tup xs => .tup (xs.map (tuD n))
  | n + 1, .lst xs => .tup (xs.map (tuD n))
  | _, d => d
theorem tupled_ok : ∀ (k n : Nat) (d : D) (S : Store), okD n d = true → n < k → f_p_tupled k [d] S = .ok (tuD n d) S
  | 0, n, d, S, _, hk => absurd hk (by omega)
  | k + 1, n, d, S, h, hk => by
    have seq : ∀ (m : Nat) (xs : List D), (∀ x ∈ xs, okD m x = true) → m < k → ∀ ρ : Q.Env, 1 < ρ.length → ∀ S, lcL (mgN 1) mYes (mCall (fPure (f_p_tupled k)) (mCons (mVar 1) mNil)) ρ xs S = .ok (xs.map (tuD m)) S := fun m xs hx hm ρ hρ S => by
      refine lcL_map (f := tuD m) xs S fun x hxm => ⟨_, rfl, ?_⟩
      have p := okD_pure _ _ (hx x hxm)
      have e : (ρ.set 1 (some x))[1]? = some (some x) := List.getElem?_set_self hρ
      simp only [ap_call, ap_cons, ap_var, e, varK_some, bind_ok, consK_ap, ap_nil, consK2_ap]
      exact fPure_ap S (by simp [p]) (tupled_ok k m x [] (hx x hxm) hm)
    cases d with
    | non => simp [f_p_tupled, fnM, m_p_tupled, isTy]; cases n <;> rfl
    | bl b => simp [f_p_tupled, fnM, m_p_tupled, isTy]; cases n <;> rfl
    | int b => simp [f_p_tupled, fnM, m_p_tupled, isTy]; cases n <;> rfl
    | str b => simp [f_p_tupled, fnM, m_p_tupled, isTy]; cases n <;> rfl
    | tup xs =>
      cases n with
      | zero => simp [okD] at h
      | succ n =>
        rw [okD_tup, Bool.and_eq_true, decide_eq_true_eq] at h
        have hs := fun ρ hρ S => seq n xs (fun x hx => List.all_eq_true.mp h.2 x hx) (by omega) ρ hρ S
        simp [f_p_tupled, fnM, m_p_tupled, isTy, h.1, hs, tuD]
    | lst xs =>
      cases n with
      | zero => simp [okD] at h
      | succ n =>
        rw [okD_lst, Bool.and_eq_true, decide_eq_true_eq] at h
        have hs := fun ρ hρ S => seq n xs (fun x hx => List.all_eq_true.mp h.2 x hx) (by omega) ρ hρ S
        simp [f_p_tupled, fnM, m_p_tupled, isTy, h.1, hs, tuD]
    | fro xs => cases n <;> simp [okD] at h
    | obj c xs => cases n <;> simp [okD] at h
    | exn c xs => cases n <;> simp [okD] at h
    | ref j => cases n <;> simp [okD] at h
theorem tupledP {d : D} {n : Nat} (S : Store) (h : okD n d = true) (hn : n < 30) : fPure (f_p_tupled 30) [d] S = .ok (tuD n d) S := fPure_ap S (by simp [okD_pure n d h]) (tupled_ok 30 n d [] h hn)
inductive Til (ps : List (Int × Int)) (k : Int) : Int → Prop
  | here : Til ps k k
  | look {p : Int × Int} (h : p ∈ ps) (t : Til ps k p.2) : Til ps k p.1
section
variable {ps qs : List (Int × Int)} {k x m : Int}
theorem Til.trans (h : Til ps k m) (t : Til ps m x) : Til ps k x := by
  induction t with
  | here => exact h
  | look hp _ ih => exact Til.look hp ih
theorem Til.one {p : Int × Int} (h : p ∈ ps) : Til ps p.2 p.1 := Til.look h Til.here
theorem Til.le (hlt : ∀ p ∈ ps, p.1 < p.2) (t : Til ps k x) : x ≤ k := by
  induction t with
  | here => exact Int.le_refl _
  | look hp _ ih => have := hlt _ hp; omega
theorem til_map_in {f : Int → Int} (hlt : ∀ p ∈ ps, p.1 < p.2) (t : Til ps k x) (h : ∀ q ∈ ps, x ≤ q.1 → q.2 ≤ k → Til qs (f q.2) (f q.1)) : Til qs (f k) (f x) := by
  induction t with
  | here => exact Til.here
  | @look p hp t ih =>
    have l := hlt p hp
    exact (ih fun q hq h1 h2 => h q hq (by omega) h2).trans (h p hp (Int.le_refl _) (t.le hlt))
end
def spD (s e : Int) : D := .tup [.int s, .int e]
theorem book_okD {many a b : Int} {ps : List (Int × Int)} (hl : ps.length ≤ 100000) : okD 5 (bookD many a b ps) = true := by
  unfold bookD looksD
  have : (ps.map pairD).all (okD 3) = true := List.all_eq_true.mpr fun d hd => by
    obtain ⟨p, _, rfl⟩ := List.mem_map.mp hd
    rfl
  simp [okD_tup, hl]
  exact fun _ _ _ => rfl
theorem tuD_book {many a b : Int} {ps : List (Int × Int)} : tuD 5 (bookD many a b ps) = bookD many a b ps := by
  unfold bookD looksD
  have : (ps.map pairD).map (tuD 3) = ps.map pairD := by
    rw [List.map_map]
    exact List.map_congr_left fun p _ => rfl
  simp [tuD]
  exact fun _ _ _ => rfl
theorem book_tup {many a b : Int} {ps : List (Int × Int)} (S : Store) (hl : ps.length ≤ 100000) : fPure (f_p_tupled 30) [bookD many a b ps] S = .ok (bookD many a b ps) S := by
  rw [tupledP S (book_okD hl) (by omega), tuD_book]
structure IsBook (B : D) (many a b : Int) (ps : List (Int × Int)) : Prop where
  tup : ∀ S, fPure (f_p_tupled 30) [B] S = .ok (bookD many a b ps) S
  pure : pureD B = true
structure IsSp (T : D) (s e : Int) : Prop where
  tup : ∀ S, fPure (f_p_tupled 30) [T] S = .ok (spD s e) S
  pure : pureD T = true
theorem isBook {many a b : Int} {ps : List (Int × Int)} (hl : ps.length ≤ 100000) : IsBook (bookD many a b ps) many a b ps := ⟨fun S => book_tup S hl, okD_pure _ _ (book_okD hl)⟩
def placesD (P : List Int) : D := .tup (P.map .int)
theorem inD_ints {P : List Int} {m : Int} : inD (P.map .int) (.int m) = decide (m ∈ P) := by
  induction P with
  | nil => simp [inD]
  | cons x P ih =>
    have e : inD ((x :: P).map D.int) (.int m) = (deq (.int x) (.int m) || inD (P.map .int) (.int m)) := by simp [inD]
    rw [e, ih]
    show ((x == m) || decide (m ∈ P)) = _
    by_cases h : m = x
    · subst h; simp
    · have h' : ¬ x = m := fun z => h z.symm
      simp [h, h']
theorem shal_places (P : List Int) : shal 20 (placesD P) = true := by
  unfold placesD
  show (P.map D.int).all (shal 19) = true
  exact shal_map (fun _ => shal_int _ _) P
theorem in_places {P : List Int} {m : Int} {S : Store} : opIn (.int m) (placesD P) S = .ok (.bl (decide (m ∈ P))) S := by
  rw [placesD, in_tup (shal_int _ _) (shal_places P), inD_ints]
theorem nin_places {P : List Int} {m : Int} {S : Store} : opNin (.int m) (placesD P) S = .ok (.bl (!decide (m ∈ P))) S := by
  rw [placesD, nin_tup (shal_int _ _) (shal_places P), inD_ints]
theorem in_ints {P : List Int} {m : Int} {S : Store} : opIn (.int m) (.lst (P.map .int)) S = .ok (.bl (decide (m ∈ P))) S := by
  rw [in_lst (shal_int _ _) (shal_ints P), inD_ints]
theorem nin_ints {P : List Int} {m : Int} {S : Store} : opNin (.int m) (.lst (P.map .int)) S = .ok (.bl (!decide (m ∈ P))) S := by
  rw [nin_lst (shal_int _ _) (shal_ints P), inD_ints]
def isRise (P : List Int) (m : Int) : Bool := decide (m + 1 ∈ P) && !decide (m ∈ P)
def isFall (P : List Int) (m : Int) : Bool := decide (m ∈ P) && !decide (m + 1 ∈ P)
def minutes (n : Nat) : List Int := (List.range n).map fun (i : Nat) => (i : Int)
theorem rangeD_minutes (n : Nat) : rangeD 0 n = (minutes n).map .int := by
  unfold rangeD minutes
  rw [List.map_map]
  refine List.map_congr_left fun i _ => ?_
  simp
theorem mem_minutes {n : Nat} {m : Int} : m ∈ minutes n ↔ 0 ≤ m ∧ m < n := by
  unfold minutes
  rw [List.mem_map]
  constructor
  · rintro ⟨i, hi, rfl⟩
    have := List.mem_range.mp hi
    omega
  · intro h
    exact ⟨m.toNat, List.mem_range.mpr (by omega), by omega⟩
theorem lcL_filterx {u : Int → D} {q : Int → Bool} {g : MG} {t : MT} {m : ME} {ρ : Q.Env} : ∀ (xs : List Int) (S : Store), (∀ x ∈ xs, ∃ ρ1, g (u x) ρ S = .ok ρ1 S ∧ t ρ1 S = .ok (q x) S ∧ m ρ1 S = .ok (u x) S) → lcL g t m ρ (xs.map u) S = .ok ((xs.filter q).map u) S
  | [], S, _ => rfl
  | x :: xs, S, h => by
    obtain ⟨ρ1, h1, h2, h3⟩ := h x (by simp)
    have ih := lcL_filterx xs S fun y hy => h y (by simp [hy])
    rw [List.map_cons]
    unfold lcL
    rw [h1]
    simp only [bind_ok]
    rw [h2]
    simp only [bind_ok]
    cases e : q x with
    | true =>
      simp only [e, if_true, h3, bind_ok, ih, List.filter_cons]
      rfl
    | false =>
      simp only [e, ih, List.filter_cons]
      rfl
def J0 (W : List (Int × Int)) : Jmp := W.map fun p => (p, 0)
def T0 (s e : Int) (W : List (Int × Int)) : Stp := ((mins s e).filter fun m => decide ((m, m + 1) ∉ W)).map fun m => (m, false)
def ClosedB (W : List (Int × Int)) (P : Int → Bool) : Prop := ∀ p ∈ W, P p.2 = true → P p.1 = true
structure Most (W : List (Int × Int)) (s e : Int) (k : Nat) : Prop where
  some_ : ∃ P : Int → Bool, ClosedB W P ∧ P e = true ∧ P s = false ∧ risesN P s e = k
  all : ∀ P : Int → Bool, ClosedB W P → P e = true → P s = false → k ≤ risesN P s e
theorem til_closedB {W : List (Int × Int)} {P : Int → Bool} (h : ClosedB W P) {e x : Int} (t : Til W e x) (he : P e = true) : P x = true := by
  induction t with
  | here => exact he
  | look hp _ ih => exact h _ hp ih
structure Low (f c : Int) : Prop where
  f0 : 0 ≤ f
  le : f ≤ c
  c0 : 0 < c
  cs : c < big
  g1 : Int.gcd f c = 1
def MoSt (W : List (Int × Int)) (s e : Int) : Option Nat → Prop
  | none => Til W e s
  | some k => ¬ Til W e s ∧ Most W s e k
def rankN : Option Nat → Int
  | none => 1000000
  | some k => (k : Nat)
theorem MoSt.ge {W : List (Int × Int)} {s e : Int} {o : Option Nat} (h : MoSt W s e o) (hb : ∀ k, o = some k → 1 ≤ k ∧ k ≤ 900) {P : Int → Bool} (hc : ClosedB W P) (h1 : P e = true) (h2 : P s = false) : rankN o ≤ (risesN P s e : Nat) := by
  cases o with
  | none => rw [til_closedB hc h h1] at h2; cases h2
  | some k =>
    have := h.2.all P hc h1 h2
    show (k : Int) ≤ _
    omega
def hillsR (a b : Int) (n : Nat) (P : List Int) : List (Int × Int) := (minutes n).map fun m => (if isFall P m then b - a else 0, if isRise P m then a else 0)
theorem mem_filt {n : Nat} {q : Int → Bool} {m : Int} (h : m ∈ minutes n) : decide (m ∈ (minutes n).filter q) = q m := by
  cases e : q m with
  | true => simp [List.mem_filter, h, e]
  | false => simp [List.mem_filter, e]
theorem hills_len (a b : Int) (n : Nat) (P : List Int) : (hillsR a b n P).length = n := by simp [hillsR, minutes]
section
variable {P : List Int} {n : Nat} {S : Store}
theorem p_rises {pd sp : D} (hpd : pd = placesD P ∨ pd = .lst (P.map .int)) (hn : n ≤ 1000) : f_p_rises [.tup [.int 0, .int n], pd] S = .ok (.lst (((minutes n).filter (isRise P)).map .int)) S := by
  have rg : r2K2 (.int 0) (.int (n : Nat)) S = .ok (rangeD 0 n) S := by
    have := @range2_nat 0 n S (by omega) (by omega)
    simpa using this
  have i1 : ∀ m S, opIn (.int m) pd S = .ok (.bl (decide (m ∈ P))) S := fun m S => by
    rcases hpd with rfl | rfl
    · exact in_places
    · exact in_ints
  have i2 : ∀ m S, opNin (.int m) pd S = .ok (.bl (!decide (m ∈ P))) S := fun m S => by
    rcases hpd with rfl | rfl
    · exact nin_places
    · exact nin_ints
  have lc : ∀ ρ : Q.Env, 4 < ρ.length → ρ[1]? = some (some pd) → lcL (mgN 4) (mAndT (mTB (mOp opNin (mVar 4) (mVar 1))) (mTB (mOp opIn (mOp opAdd (mVar 4) (mC (.int 1))) (mVar 1)))) (mVar 4) ρ (rangeD 0 n) S = .ok (((minutes n).filter (isRise P)).map .int) S := fun ρ hρ h => by
    rw [rangeD_minutes]
    refine lcL_filterx _ S fun x hx => ⟨ρ.set 4 (some (.int x)), rfl, ?_⟩
    have e0 : (ρ.set 4 (some (.int x)))[1]? = some (some pd) := by rw [List.getElem?_set_ne (by decide)]; exact h
    have e2 : (ρ.set 4 (some (.int x)))[4]? = some (some (.int x)) := List.getElem?_set_self hρ
    generalize ρ.set 4 (some (.int x)) = ρ1 at *
    constructor
    · by_cases c1 : x ∈ P <;> simp [c1, e0, e2, i1, i2, isRise]
    · simp [e2]
  have hl : (rangeD 0 n).length ≤ 100000 := by rw [rangeD_len]; omega
  generalize ((minutes n).filter (isRise P)).map D.int = R at *
  simp [f_p_rises, fnM, m_p_rises, rg, hl, lc]
theorem p_falls {pd sp : D} (hpd : pd = placesD P ∨ pd = .lst (P.map .int)) (hn : n ≤ 1000) : f_p_falls [.tup [.int 0, .int n], pd] S = .ok (.lst (((minutes n).filter (isFall P)).map .int)) S := by
  have rg : r2K2 (.int 0) (.int (n : Nat)) S = .ok (rangeD 0 n) S := by
    have := @range2_nat 0 n S (by omega) (by omega)
    simpa using this
  have i1 : ∀ m S, opIn (.int m) pd S = .ok (.bl (decide (m ∈ P))) S := fun m S => by
    rcases hpd with rfl | rfl
    · exact in_places
    · exact in_ints
  have i2 : ∀ m S, opNin (.int m) pd S = .ok (.bl (!decide (m ∈ P))) S := fun m S => by
    rcases hpd with rfl | rfl
    · exact nin_places
    · exact nin_ints
  have lc : ∀ ρ : Q.Env, 4 < ρ.length → ρ[1]? = some (some pd) → lcL (mgN 4) (mAndT (mTB (mOp opIn (mVar 4) (mVar 1))) (mTB (mOp opNin (mOp opAdd (mVar 4) (mC (.int 1))) (mVar 1)))) (mVar 4) ρ (rangeD 0 n) S = .ok (((minutes n).filter (isFall P)).map .int) S := fun ρ hρ h => by
    rw [rangeD_minutes]
    refine lcL_filterx _ S fun x hx => ⟨ρ.set 4 (some (.int x)), rfl, ?_⟩
    have e0 : (ρ.set 4 (some (.int x)))[1]? = some (some pd) := by rw [List.getElem?_set_ne (by decide)]; exact h
    have e2 : (ρ.set 4 (some (.int x)))[4]? = some (some (.int x)) := List.getElem?_set_self hρ
    generalize ρ.set 4 (some (.int x)) = ρ1 at *
    constructor
    · by_cases c1 : x ∈ P <;> simp [c1, e0, e2, i1, i2, isFall]
    · simp [e2]
  have hl : (rangeD 0 n).length ≤ 100000 := by rw [rangeD_len]; omega
  generalize ((minutes n).filter (isFall P)).map D.int = R at *
  simp [f_p_falls, fnM, m_p_falls, rg, hl, lc]
theorem log_of_ok {a b : Int} {M pd : D} (hM : M = .tup [.int a, .int b] ∨ M = .lst [.int a, .int b]) (hpd : pd = placesD P ∨ pd = .lst (P.map .int)) (hn : n ≤ 1000) : f_p_log_of [M, .int n, pd] S = .ok (logD (hillsR a b n P)) S := by
  have hp : pureL [.tup [.int 0, .int (n : Nat)], pd] = true := by rcases hpd with rfl | rfl <;> simp [placesD, pure_ints]
  have r1 := fun S => fPure_ap S hp (p_rises (sp := .non) (P := P) (n := n) (S := []) hpd hn)
  have r2 := fun S => fPure_ap S hp (p_falls (sp := .non) (P := P) (n := n) (S := []) hpd hn)
  have lc : ∀ ρ : Q.Env, 7 < ρ.length → ρ[3]? = some (some (.int a)) → ρ[4]? = some (some (.int b)) → ρ[5]? = some (some (.lst (((minutes n).filter (isRise P)).map .int))) → ρ[6]? = some (some (.lst (((minutes n).filter (isFall P)).map .int))) →
      lcL (mgN 7) mYes (mTup (mCons (mIfE (mTB (mOp opIn (mVar 7) (mVar 6))) (mOp opSubI (mVar 4) (mVar 3)) (mC (.int 0))) (mCons (mIfE (mTB (mOp opIn (mVar 7) (mVar 5))) (mVar 3) (mC (.int 0))) mNil))) ρ (rangeD 0 n) S = .ok ((hillsR a b n P).map rowD) S := fun ρ hρ h3 h4 h5 h6 => by
    rw [rangeD_minutes]
    unfold hillsR
    rw [List.map_map]
    refine lcL_mapx _ S fun x hx => ⟨ρ.set 7 (some (.int x)), rfl, ?_⟩
    have e3 : (ρ.set 7 (some (.int x)))[3]? = some (some (.int a)) := by rw [List.getElem?_set_ne (by decide)]; exact h3
    have e4 : (ρ.set 7 (some (.int x)))[4]? = some (some (.int b)) := by rw [List.getElem?_set_ne (by decide)]; exact h4
    have e5 : (ρ.set 7 (some (.int x)))[5]? = some (some (.lst (((minutes n).filter (isRise P)).map .int))) := by rw [List.getElem?_set_ne (by decide)]; exact h5
    have e6 : (ρ.set 7 (some (.int x)))[6]? = some (some (.lst (((minutes n).filter (isFall P)).map .int))) := by rw [List.getElem?_set_ne (by decide)]; exact h6
    have e7 : (ρ.set 7 (some (.int x)))[7]? = some (some (.int x)) := List.getElem?_set_self hρ
    have i1 := fun S => @in_ints ((minutes n).filter (isRise P)) x S
    have i2 := fun S => @in_ints ((minutes n).filter (isFall P)) x S
    rw [mem_filt hx] at i1 i2
    generalize ρ.set 7 (some (.int x)) = ρ1 at *
    generalize ((minutes n).filter (isRise P)).map D.int = U at *
    generalize ((minutes n).filter (isFall P)).map D.int = V at *
    cases q1 : isFall P x <;> cases q2 : isRise P x <;> simp [e3, e4, e5, e6, e7, i1, i2, q1, q2, rowD]
  have hl : (rangeD 0 n).length ≤ 100000 := by rw [rangeD_len]; omega
  have hz : ((hillsR a b n P).map rowD).length ≤ 100000 := by rw [List.length_map, hills_len]; omega
  unfold logD
  generalize (hillsR a b n P).map rowD = R at *
  generalize ((minutes n).filter (isRise P)).map D.int = U at *
  generalize ((minutes n).filter (isFall P)).map D.int = V at *
  rcases hM with rfl | rfl <;> simp [f_p_log_of, fnM, m_p_log_of, r1, r2, r1K_nat n (by omega), hl, hz, lc]
end
def ind (P : List Int) (m : Int) : Int := if m ∈ P then 1 else 0
theorem hills_get {a b : Int} {n : Nat} {P : List Int} {m : Nat} (h : m < n) : ∃ hm : m < (hillsR a b n P).length, (hillsR a b n P)[m] = (if isFall P m then b - a else 0, if isRise P m then a else 0) := by
  refine ⟨by rw [hills_len]; exact h, ?_⟩
  simp [hillsR, minutes]
theorem hill_step (a k : Int) (P : List Int) (m : Int) : k * (if isRise P m then a else 0) - a * (if isFall P m then k else 0) = a * k * (ind P (m + 1) - ind P m) := by
  unfold isRise isFall ind
  by_cases h1 : m + 1 ∈ P <;> by_cases h2 : m ∈ P <;> simp [h1, h2, Int.mul_comm]
theorem hill_diff {a b : Int} {n : Nat} {P : List Int} {s : Nat} : ∀ d : Nat, s + d ≤ n → (b - a) * sf (hillsR a b n P) s (s + d) - a * sg (hillsR a b n P) s (s + d) = a * (b - a) * (ind P ((s + d : Nat) : Int) - ind P s)
  | 0, _ => by simp [sg_self, sf_self]
  | d + 1, h => by
    have ih := hill_diff (a := a) (b := b) (n := n) (P := P) (s := s) d (by omega)
    obtain ⟨hm, hg⟩ := hills_get (a := a) (b := b) (P := P) (show s + d < n by omega)
    have e1 : sg (hillsR a b n P) s (s + d + 1) = sg (hillsR a b n P) s (s + d) + sg (hillsR a b n P) (s + d) (s + d + 1) := sg_app _ (by omega) (by omega)
    have e2 : sf (hillsR a b n P) s (s + d + 1) = sf (hillsR a b n P) s (s + d) + sf (hillsR a b n P) (s + d) (s + d + 1) := sf_app _ (by omega) (by omega)
    rw [sg_one _ hm, hg] at e1
    rw [sf_one _ hm, hg] at e2
    have st := hill_step a (b - a) P ((s + d : Nat) : Int)
    have c : (((s + (d + 1) : Nat)) : Int) = ((s + d : Nat) : Int) + 1 := by omega
    rw [show s + (d + 1) = s + d + 1 from rfl, e1, e2, Int.mul_add, Int.mul_add]
    rw [show (((s + d + 1 : Nat)) : Int) = ((s + d : Nat) : Int) + 1 by omega]
    have dist : a * (b - a) * (ind P (((s + d : Nat) : Int) + 1) - ind P s) = a * (b - a) * (ind P (((s + d : Nat) : Int) + 1) - ind P ((s + d : Nat) : Int)) + a * (b - a) * (ind P ((s + d : Nat) : Int) - ind P s) := by
      rw [← Int.mul_add]
      congr 1
      omega
    rw [dist]
    simp only at st ⊢
    omega
def Quiet (a b : Int) (rows : List (Int × Int)) (ps : List (Int × Int)) : Prop := ∀ p ∈ ps, (b - a) * sf rows p.1.toNat p.2.toNat ≤ a * sg rows p.1.toNat p.2.toNat
def Closed (P : List Int) (ps : List (Int × Int)) : Prop := ∀ p ∈ ps, p.2 ∈ P → p.1 ∈ P
theorem hills_quiet {a b : Int} {n : Nat} {P : List Int} {ps : List (Int × Int)} (ha : 0 < a) (hab : a < b) (hl : ∀ p ∈ ps, 0 ≤ p.1 ∧ p.1 < p.2 ∧ p.2 ≤ n) (hc : Closed P ps) : Quiet a b (hillsR a b n P) ps := fun p hp => by
  have o := hl p hp
  have d := hill_diff (a := a) (b := b) (n := n) (P := P) (s := p.1.toNat) (p.2.toNat - p.1.toNat) (by omega)
  have e : p.1.toNat + (p.2.toNat - p.1.toNat) = p.2.toNat := by omega
  rw [e] at d
  have c1 : ((p.1.toNat : Nat) : Int) = p.1 := by omega
  have c2 : ((p.2.toNat : Nat) : Int) = p.2 := by omega
  rw [c1, c2] at d
  have hi : ind P p.2 - ind P p.1 ≤ 0 := by
    unfold ind
    by_cases h : p.2 ∈ P
    · simp [h, hc p hp h]
    · by_cases h2 : p.1 ∈ P <;> simp [h, h2]
  have k : 0 ≤ a * (b - a) := Int.mul_nonneg (by omega) (by omega)
  have := Int.mul_nonpos_of_nonneg_of_nonpos k hi
  omega
theorem quiet_nil (a b : Int) (n : Nat) (ps : List (Int × Int)) : Quiet a b (List.replicate n (0, 0)) ps := fun p _ => by
  have z : ∀ s e, sg (List.replicate n ((0 : Int), (0 : Int))) s e = 0 ∧ sf (List.replicate n ((0 : Int), (0 : Int))) s e = 0 := fun s e => by
    simp [sg, sf, seg]
  rw [(z _ _).1, (z _ _).2]
  simp
theorem quiet_each {a b : Int} {rows ps : List (Int × Int)} (h : ∀ r ∈ rows, (b - a) * r.2 ≤ a * r.1) : Quiet a b rows ps := fun p _ => by
  have go : ∀ xs : List (Int × Int), (∀ r ∈ xs, (b - a) * r.2 ≤ a * r.1) → (b - a) * (xs.map Prod.snd).sum ≤ a * (xs.map Prod.fst).sum := fun xs => by
    induction xs with
    | nil => intro _; simp
    | cons r xs ih =>
      intro hx
      have x := hx r (by simp)
      have y := ih fun q hq => hx q (by simp [hq])
      simp only [List.map_cons, List.sum_cons, Int.mul_add]
      omega
  exact go _ fun r hr => h r (List.mem_of_mem_drop (List.mem_of_mem_take hr))
structure HillsOk (ps : List (Int × Int)) (many s e : Int) (k : Nat) (P : List Int) : Prop where
  fl : ∃ q : Int → Bool, P = (mins 0 (many + 1)).filter q
  cl : ∀ p ∈ ps, p.2 ∈ P → p.1 ∈ P
  he : e ∈ P
  hs : s ∉ P
  ri : risesN (fun x => decide (x ∈ P)) s e = k
  lo : ∀ x, 0 ≤ x → x < s → x ∈ P
  hi : ∀ x, e < x → x ∉ P
structure BkD where
  a : Int
  b : Int
  ps : List (Int × Int)
structure BkOk (n : Nat) (B : BkD) : Prop where
  ha : 0 < B.a
  hab : B.a < B.b
  hb : B.b < 2 ^ 200
  hp : LooksOk n B.ps
  hl : B.ps.length < 40
def BkD.d (n : Nat) (B : BkD) : D := bookD n B.a B.b B.ps
theorem plt_nodup {ps : List (Int × Int)} (h : ps.Pairwise plt) : ps.Nodup := h.imp fun {x y} h e => by
  subst e
  unfold plt at h
  omega
section
variable {n : Nat} {A B : BkD} {p : Int × Int}
theorem BkOk.st (h : BkOk n B) : ∀ p ∈ B.ps, 0 ≤ p.1 ∧ p.1 < p.2 ∧ p.2 ≤ (n : Int) := h.hp.ok
theorem BkOk.nd (h : BkOk n B) : B.ps.Nodup := plt_nodup h.hp.up
theorem BkOk.book (h : BkOk n B) : IsBook (B.d n) (n : Nat) B.a B.b B.ps := isBook (by have := h.hl; omega)
theorem BkOk.lt (h : BkOk n A) : ∀ p ∈ A.ps, p.1 < p.2 := fun p hp => (h.st p hp).2.1
end
def Calm (B : BkD) (rows : List (Int × Int)) : Prop := Quiet B.a B.b rows B.ps
def closeL : List (Int × Int) → List Int → List Int
  | [], F => F
  | (e, s) :: L, F => if e ∈ F ∧ ¬ s ∈ F then closeL L (F ++ [s]) else closeL L F
theorem closeL_len : ∀ (L : List (Int × Int)) (F : List Int), (closeL L F).length ≤ F.length + L.length
  | [], F => by simp [closeL]
  | (e, s) :: L, F => by
    unfold closeL
    split
    · have := closeL_len L (F ++ [s])
      simp at this ⊢
      omega
    · have := closeL_len L F
      simp
      omega
theorem closeL_sub {m : Int} : ∀ (L : List (Int × Int)) (F : List Int), m ∈ F → m ∈ closeL L F
  | [], F, h => h
  | (e, s) :: L, F, h => by
    unfold closeL
    split
    · exact closeL_sub L _ (by simp [h])
    · exact closeL_sub L F h
theorem closeL_mem {m : Int} : ∀ (L : List (Int × Int)) (F : List Int), m ∈ closeL L F → m ∈ F ∨ ∃ p ∈ L, m = p.2
  | [], F, h => .inl h
  | (e, s) :: L, F, h => by
    unfold closeL at h
    split at h
    · rcases closeL_mem L _ h with h | ⟨p, hp, e⟩
      · rcases List.mem_append.mp h with h | h
        · exact .inl h
        · exact .inr ⟨(e, s), by simp, by simpa using h⟩
      · exact .inr ⟨p, by simp [hp], e⟩
    · rcases closeL_mem L _ h with h | ⟨p, hp, e⟩
      · exact .inl h
      · exact .inr ⟨p, by simp [hp], e⟩
theorem closeL_closed : ∀ (L : List (Int × Int)) (F : List Int), L.Pairwise (fun p q => ple q p) → (∀ p ∈ L, p.2 < p.1) → ∀ p ∈ L, p.1 ∈ closeL L F → p.2 ∈ closeL L F
  | [], F, _, _, p, hp, _ => by simp at hp
  | (e, s) :: L, F, hd, hlt, p, hp, h => by
    have hd' := List.pairwise_cons.mp hd
    have es := hlt (e, s) (by simp)
    rcases List.mem_cons.mp hp with rfl | hp
    · -- its own end: nothing that is added later reaches it
      have low : ∀ F', e ∈ closeL L F' → e ∈ F' := fun F' h => by
        rcases closeL_mem L F' h with h | ⟨q, hq, eq⟩
        · exact h
        · have a := hd'.1 q hq
          have b := hlt q (by simp [hq])
          unfold ple at a
          simp only at a es
          omega
      unfold closeL at h ⊢
      split
      · exact closeL_sub L _ (by simp)
      · rename_i hn
        rw [if_neg hn] at h
        have := low F h
        simp only [not_and, Classical.not_not] at hn
        exact closeL_sub L F (hn this)
    · unfold closeL at h ⊢
      split
      · rename_i hy
        rw [if_pos hy] at h
        exact closeL_closed L _ hd'.2 (fun q hq => hlt q (by simp [hq])) p hp h
      · rename_i hn
        rw [if_neg hn] at h
        exact closeL_closed L _ hd'.2 (fun q hq => hlt q (by simp [hq])) p hp h
def closedP (ps : List (Int × Int)) (P : List Int) : List Int := sortN (closeL (sortD (ps.map fun p => (p.2, p.1))) P)
theorem closedP_closed {ps : List (Int × Int)} {P : List Int} (h : ∀ p ∈ ps, p.1 < p.2) : Closed (closedP ps P) ps := fun p hp hm => by
  unfold closedP at hm ⊢
  rw [mem_sortN] at hm ⊢
  have mem : (p.2, p.1) ∈ sortD (ps.map fun p => (p.2, p.1)) := (sortD_perm _).mem_iff.mpr (List.mem_map.mpr ⟨p, hp, rfl⟩)
  exact closeL_closed _ P (sortD_down _) (fun q hq => by
    obtain ⟨r, hr, rfl⟩ := List.mem_map.mp ((sortD_perm _).mem_iff.mp hq)
    exact h r hr) (p.2, p.1) mem hm
theorem closeL_fold : ∀ (L : List (Int × Int)) (F : List Int), L.foldl plStep F = closeL L F
  | [], F => rfl
  | (e, s) :: L, F => by
    rw [List.foldl_cons, closeL_fold L]
    unfold plStep
    by_cases h1 : e ∈ F
    · by_cases h2 : s ∈ F
      · simp [h1, h2, closeL]
      · simp [h1, h2, closeL]
    · simp [h1, closeL]
theorem closeL_nodup : ∀ (L : List (Int × Int)) (F : List Int), F.Nodup → (closeL L F).Nodup
  | [], F, h => h
  | (e, s) :: L, F, h => by
    unfold closeL
    split
    · rename_i hy
      refine closeL_nodup L _ ?_
      rw [List.nodup_append]
      exact ⟨h, by simp, fun a ha b hb => by simp at hb; subst hb; exact fun z => hy.2 (z ▸ ha)⟩
    · exact closeL_nodup L F h
theorem closeL_le {k : Int} : ∀ (L : List (Int × Int)) (F : List Int), (∀ p ∈ L, p.2 < p.1) → (∀ x ∈ F, x ≤ k) → ∀ x ∈ closeL L F, x ≤ k
  | [], F, _, h => h
  | (e, s) :: L, F, hl, h => by
    unfold closeL
    have hes := hl (e, s) (by simp)
    split
    · rename_i hy
      refine closeL_le L _ (fun p hp => hl p (by simp [hp])) fun x hx => ?_
      rcases List.mem_append.mp hx with m | m
      · exact h x m
      · simp at m
        have := h e hy.1
        simp only at hes
        omega
    · exact closeL_le L F (fun p hp => hl p (by simp [hp])) h
theorem nodup_lt : ∀ {xs : List Int}, xs.Pairwise (· < ·) → xs.Nodup := fun {xs} h => h.imp fun {a b} hab => by omega
theorem sortI_nodup {F : List Int} (h : F.Nodup) : sortI F = sortN F := by
  refine (sortI_uniq ?_ ((sortN_up F).imp fun {a b} hab => by omega)).symm
  exact (List.perm_ext_iff_of_nodup (nodup_lt (sortN_up F)) h).mpr fun a => mem_sortN
theorem plK_closed (k : Int) (ps : List (Int × Int)) : plK k (sortD (ps.map fun p => (p.2, p.1))) = closedP ps [k] := by
  unfold plK closedP
  rw [closeL_fold, sortI_nodup (closeL_nodup _ _ (by simp))]
theorem insN_len (x : Int) : ∀ ys : List Int, (insN x ys).length ≤ ys.length + 1
  | [] => by simp [insN]
  | y :: ys => by
    unfold insN
    have := insN_len x ys
    split
    · simp
    · split
      · simp
      · simp; omega
theorem sortN_len : ∀ xs : List Int, (sortN xs).length ≤ xs.length
  | [] => by simp [sortN]
  | x :: xs => by
    unfold sortN
    have a := insN_len x (sortN xs)
    have b := sortN_len xs
    simp; omega
theorem closedP_len (ps : List (Int × Int)) (P : List Int) : (closedP ps P).length ≤ P.length + ps.length := by
  have h1 := sortN_len (closeL (sortD (ps.map fun p => (p.2, p.1))) P)
  have h2 := closeL_len (sortD (ps.map fun p => (p.2, p.1))) P
  rw [(sortD_perm _).length_eq, List.length_map] at h2
  unfold closedP
  omega
theorem sw_lt {ps : List (Int × Int)} (h : ∀ p ∈ ps, p.1 < p.2) : ∀ q ∈ sortD (ps.map fun p => (p.2, p.1)), q.2 < q.1 := fun q hq => by
  obtain ⟨r, hr, rfl⟩ := List.mem_map.mp ((sortD_perm _).mem_iff.mp hq)
  exact h r hr
theorem closed_le {ps : List (Int × Int)} {k : Int} (h : ∀ p ∈ ps, p.1 < p.2) : ∀ x ∈ closedP ps [k], x ≤ k := fun x hx => by
  unfold closedP at hx
  rw [mem_sortN] at hx
  exact closeL_le _ _ (sw_lt h) (by simp) x hx
theorem closed_self (ps : List (Int × Int)) (k : Int) : k ∈ closedP ps [k] := by
  unfold closedP
  rw [mem_sortN]
  exact closeL_sub _ _ (by simp)
theorem closeL_til {ps : List (Int × Int)} {k : Int} : ∀ (L : List (Int × Int)) (F : List Int), (∀ q ∈ L, (q.2, q.1) ∈ ps) → (∀ x ∈ F, Til ps k x) → ∀ x ∈ closeL L F, Til ps k x
  | [], F, _, h => h
  | (e, s) :: L, F, hl, h => by
    unfold closeL
    split
    · rename_i hy
      refine closeL_til L _ (fun p hp => hl p (by simp [hp])) fun x hx => ?_
      rcases List.mem_append.mp hx with m | m
      · exact h x m
      · simp at m
        subst m
        exact Til.look (p := (x, e)) (hl (e, x) (by simp)) (h e hy.1)
    · exact closeL_til L F (fun p hp => hl p (by simp [hp])) h
theorem closed_til {ps : List (Int × Int)} {k : Int} : ∀ x ∈ closedP ps [k], Til ps k x := fun x hx => by
  unfold closedP at hx
  rw [mem_sortN] at hx
  refine closeL_til _ _ (fun q hq => ?_) (fun y hy => by simp at hy; subst hy; exact Til.here) x hx
  obtain ⟨r, hr, rfl⟩ := List.mem_map.mp ((sortD_perm _).mem_iff.mp hq)
  exact hr
def endsR (n : Nat) : List Int := (List.range n).map fun (i : Nat) => 1 + (i : Int)
theorem rangeD_ends (n : Nat) : rangeD 1 n = (endsR n).map .int := by
  unfold rangeD endsR
  rw [List.map_map]
  rfl
theorem mem_ends {n : Nat} {e : Int} : e ∈ endsR n ↔ 1 ≤ e ∧ e ≤ n := by
  unfold endsR
  rw [List.mem_map]
  constructor
  · rintro ⟨i, hi, rfl⟩
    have := List.mem_range.mp hi
    omega
  · intro h
    exact ⟨(e - 1).toNat, List.mem_range.mpr (by omega), by omega⟩
def rowR (ps : List (Int × Int)) (e : Int) : List (Int × Int) := ((closedP ps [e]).filter fun s => decide (s < e)).map fun s => (s, e)
theorem rowR_ne {ps : List (Int × Int)} (h : ∀ p ∈ ps, p.1 < p.2) (e : Int) : (((closedP ps [e]).filter fun s => decide (s ≠ e)).map fun s => (s, e)) = rowR ps e := by
  unfold rowR
  congr 1
  refine List.filter_congr fun x hx => ?_
  have := closed_le h x hx
  by_cases c : x = e
  · subst c; simp
  · have : x < e := by omega
    simp [c, this]
theorem rowR_len (ps : List (Int × Int)) (e : Int) : (rowR ps e).length ≤ 1 + ps.length := by
  have h1 := closedP_len ps [e]
  have h2 := List.length_filter_le (fun s => decide (s < e)) (closedP ps [e])
  unfold rowR
  rw [List.length_map]
  simp at h1
  omega
def sureL (ps : List (Int × Int)) (n : Nat) : List (Int × Int) := (endsR n).flatMap (rowR ps)
def sureR (ps : List (Int × Int)) (n : Nat) : List (Int × Int) := sortP (sureL ps n)
theorem mem_sureR {ps : List (Int × Int)} {n : Nat} {p : Int × Int} : p ∈ sureR ps n ↔ (1 ≤ p.2 ∧ p.2 ≤ n) ∧ p.1 ∈ closedP ps [p.2] ∧ p.1 < p.2 := by
  unfold sureR sureL
  rw [(sortP_perm _).mem_iff, List.mem_flatMap]
  constructor
  · rintro ⟨e, he, hp⟩
    unfold rowR at hp
    obtain ⟨s, hs, rfl⟩ := List.mem_map.mp hp
    rw [List.mem_filter, decide_eq_true_eq] at hs
    exact ⟨mem_ends.mp he, hs⟩
  · rintro ⟨h1, h2, h3⟩
    refine ⟨p.2, mem_ends.mpr h1, ?_⟩
    unfold rowR
    exact List.mem_map.mpr ⟨p.1, by rw [List.mem_filter, decide_eq_true_eq]; exact ⟨h2, h3⟩, rfl⟩
theorem sureL_len (ps : List (Int × Int)) (n : Nat) : (sureL ps n).length ≤ (1 + ps.length) * n := by
  have go : ∀ es : List Int, (es.flatMap (rowR ps)).length ≤ (1 + ps.length) * es.length := fun es => by
    induction es with
    | nil => simp
    | cons e es ih =>
      have := rowR_len ps e
      rw [List.flatMap_cons, List.length_append, List.length_cons, Nat.mul_succ]
      omega
  have := go (endsR n)
  unfold sureL
  simpa [endsR] using this
theorem sureR_len (ps : List (Int × Int)) (n : Nat) : (sureR ps n).length ≤ (1 + ps.length) * n := by
  unfold sureR
  rw [(sortP_perm _).length_eq]
  exact sureL_len ps n
theorem plt_ne {x y : Int × Int} (h : plt x y) : x ≠ y := fun e => by
  subst e
  unfold plt at h
  omega
theorem plt_ple {x y : Int × Int} (h : plt x y) : ple x y := by
  unfold plt at h
  unfold ple
  omega
theorem plt_uniq {xs ys : List (Int × Int)} (hx : xs.Pairwise plt) (hy : ys.Pairwise plt) (h : ∀ z, z ∈ xs ↔ z ∈ ys) : xs = ys := by
  have nx : xs.Nodup := hx.imp fun h => plt_ne h
  have ny : ys.Nodup := hy.imp fun h => plt_ne h
  have p := (List.perm_ext_iff_of_nodup nx ny).mpr h
  rw [sortP_uniq p (hx.imp fun h => plt_ple h)]
  exact (sortP_uniq (List.Perm.refl ys) (hy.imp fun h => plt_ple h)).symm
section
variable {ps qs : List (Int × Int)} {k x m : Int}
theorem til_map {f : Int → Int} (t : Til ps k x) (h : ∀ q ∈ ps, Til qs (f q.2) (f q.1)) : Til qs (f k) (f x) := by
  induction t with
  | here => exact Til.here
  | look hp _ ih => exact ih.trans (h _ hp)
theorem til_in (hlt : ∀ p ∈ ps, p.1 < p.2) (t : Til ps k x) (h : ∀ q ∈ ps, x ≤ q.1 → q.2 ≤ k → Til qs q.2 q.1) : Til qs k x := til_map_in (f := id) hlt t h
theorem til_all (t : Til ps k x) (h : ∀ q ∈ ps, Til qs q.2 q.1) : Til qs k x := til_map (f := id) t h
theorem til_sub (t : Til ps k x) (h : ∀ q ∈ ps, q ∈ qs) : Til qs k x := til_all t fun q hq => Til.one (h q hq)
theorem til_closed (hlt : ∀ p ∈ ps, p.1 < p.2) : x ∈ closedP ps [k] ↔ Til ps k x := by
  constructor
  · exact closed_til x
  · intro t
    induction t with
    | here => exact closed_self ps k
    | look hp _ ih => exact closedP_closed hlt _ hp ih
theorem til_first (hlt : ∀ p ∈ ps, p.1 < p.2) (t : Til ps k x) (h : x < k) : ∃ q ∈ ps, q.1 = x ∧ q.2 ≤ k ∧ Til ps k q.2 := by
  cases t with
  | here => omega
  | look hp t => exact ⟨_, hp, rfl, t.le hlt, t⟩
end
section
variable {ps qs : List (Int × Int)} {n : Nat} {p : Int × Int}
theorem LooksOk.lt {n : Int} (h : LooksOk n ps) : ∀ p ∈ ps, p.1 < p.2 := fun p hp => (h.ok p hp).2.1
theorem mem_sure (h : ∀ p ∈ ps, p.1 < p.2) : p ∈ sureR ps n ↔ Til ps p.2 p.1 ∧ p.1 < p.2 ∧ 1 ≤ p.2 ∧ p.2 ≤ n := by
  rw [mem_sureR, til_closed h]
  constructor
  · rintro ⟨a, b, c⟩; exact ⟨b, c, a.1, a.2⟩
  · rintro ⟨a, b, c, d⟩; exact ⟨⟨c, d⟩, a, b⟩
theorem plt_of {xs : List (Int × Int)} (h : xs.Pairwise ple) (hn : xs.Nodup) : xs.Pairwise plt := by
  refine (h.and hn).imp fun {a b} ⟨h1, h2⟩ => ?_
  have h3 : ¬ (a.1 = b.1 ∧ a.2 = b.2) := fun z => h2 (Prod.ext z.1 z.2)
  unfold ple at h1
  unfold plt
  omega
theorem sure_ge (h : LooksOk n ps) (hp : p ∈ sureR ps n) : 0 ≤ p.1 ∧ p.1 < p.2 ∧ p.2 ≤ n := by
  obtain ⟨t, h1, h2, h3⟩ := (mem_sure h.lt).mp hp
  obtain ⟨q, hq, e, _⟩ := til_first h.lt t h1
  have := h.ok q hq
  omega
def leastR (ps : List (Int × Int)) : List (Int × Int) := ps.filter fun p => decide (p.1 ∉ closedP (ps.filter fun q => decide (q ≠ p)) [p.2])
theorem mem_least (h : ∀ p ∈ ps, p.1 < p.2) : p ∈ leastR ps ↔ p ∈ ps ∧ ¬ Til (ps.filter fun q => decide (q ≠ p)) p.2 p.1 := by
  unfold leastR
  rw [List.mem_filter, decide_eq_true_eq, til_closed fun q hq => h q (List.mem_filter.mp hq).1]
theorem least_sub : ∀ q ∈ leastR ps, q ∈ ps := fun q hq => (List.mem_filter.mp hq).1
theorem least_len (ps : List (Int × Int)) : (leastR ps).length ≤ ps.length := List.length_filter_le _ _
theorem least_ok {n : Int} (h : LooksOk n ps) : LooksOk n (leastR ps) := ⟨h.up.filter _, fun p hp => h.ok p (least_sub p hp)⟩
theorem least_one (h : ∀ p ∈ ps, p.1 < p.2) : ∀ (L : Nat) (p : Int × Int), p ∈ ps → (p.2 - p.1).toNat = L → Til (leastR ps) p.2 p.1 := fun L => by
  induction L using Nat.strongRecOn with
  | _ L ih =>
    intro p hp e
    by_cases c : p ∈ leastR ps
    · exact Til.one c
    · have t : Til (ps.filter fun q => decide (q ≠ p)) p.2 p.1 := by
        rcases Classical.em (Til (ps.filter fun q => decide (q ≠ p)) p.2 p.1) with z | z
        · exact z
        · exact absurd ((mem_least h).mpr ⟨hp, z⟩) c
      refine til_in (fun q hq => h q (List.mem_filter.mp hq).1) t fun q hq h1 h2 => ?_
      obtain ⟨hq1, hq2⟩ := List.mem_filter.mp hq
      rw [decide_eq_true_eq] at hq2
      have l1 := h q hq1
      have ne : ¬ (q.1 = p.1 ∧ q.2 = p.2) := fun z => hq2 (Prod.ext z.1 z.2)
      exact ih (q.2 - q.1).toNat (by omega) q hq1 rfl
theorem least_til (h : ∀ p ∈ ps, p.1 < p.2) {k x : Int} : Til (leastR ps) k x ↔ Til ps k x :=
  ⟨fun t => til_sub t least_sub, fun t => til_all t fun q hq => least_one h _ q hq rfl⟩
def Atom (T : Int → Int → Prop) (p : Int × Int) : Prop := T p.2 p.1 ∧ p.1 < p.2 ∧ ∀ m, p.1 < m → m < p.2 → ¬ (T p.2 m ∧ T m p.1)
theorem atom_mem (h : ∀ p ∈ ps, p.1 < p.2) (a : Atom (Til ps) p) : p ∈ ps := by
  obtain ⟨t, h1, h2⟩ := a
  obtain ⟨q, hq, e, h3, h4⟩ := til_first h t h1
  by_cases c : q.2 = p.2
  · rwa [← Prod.ext e c]
  · have l := h q hq
    refine absurd ⟨h4, ?_⟩ (h2 q.2 (by omega) (by omega))
    rw [← e]
    exact Til.one hq
theorem least_atom (h : ∀ p ∈ ps, p.1 < p.2) : p ∈ leastR ps ↔ Atom (Til ps) p := by
  have hs : ∀ q ∈ ps.filter (fun q => decide (q ≠ p)), q.1 < q.2 := fun q hq => h q (List.mem_filter.mp hq).1
  rw [mem_least h]
  constructor
  · rintro ⟨hp, hn⟩
    refine ⟨Til.one hp, h p hp, fun m h1 h2 ⟨t1, t2⟩ => hn ?_⟩
    refine Til.trans (m := m) (til_in h t1 fun q hq h3 h4 => Til.one (List.mem_filter.mpr ⟨hq, ?_⟩)) (til_in h t2 fun q hq h3 h4 => Til.one (List.mem_filter.mpr ⟨hq, ?_⟩))
    · rw [decide_eq_true_eq]
      rintro rfl
      omega
    · rw [decide_eq_true_eq]
      rintro rfl
      omega
  · intro a
    refine ⟨atom_mem h a, fun t => ?_⟩
    have sub : ∀ q ∈ ps.filter (fun q => decide (q ≠ p)), q ∈ ps := fun q hq => (List.mem_filter.mp hq).1
    have a2 : Atom (Til (ps.filter fun q => decide (q ≠ p))) p := ⟨t, a.2.1, fun m h1 h2 ⟨t1, t2⟩ => a.2.2 m h1 h2 ⟨til_sub t1 sub, til_sub t2 sub⟩⟩
    have := (List.mem_filter.mp (atom_mem hs a2)).2
    simp at this
theorem least_up {n : Int} (h : LooksOk n ps) : (leastR ps).Pairwise plt := h.up.filter _
theorem least_congr {n m : Int} (h : LooksOk n ps) (h' : LooksOk m qs) (ht : ∀ k x, Til ps k x ↔ Til qs k x) : leastR ps = leastR qs := by
  refine plt_uniq (least_up h) (least_up h') fun z => ?_
  rw [least_atom h.lt, least_atom h'.lt]
  unfold Atom
  simp only [ht]
end
theorem bigH {x : Int} (hx : x ≤ 10 ^ 300) : x < big := Int.lt_of_le_of_lt hx (by unfold big; decide)
theorem lcL_filterb {β : Type} {u : β → D} {q : β → Bool} {g : MG} {t : MT} {m : ME} {ρ : Q.Env} : ∀ (xs : List β) (S : Store), (∀ x ∈ xs, ∃ ρ1, g (u x) ρ S = .ok ρ1 S ∧ t ρ1 S = .ok (q x) S ∧ m ρ1 S = .ok (u x) S) → lcL g t m ρ (xs.map u) S = .ok ((xs.filter q).map u) S
  | [], S, _ => rfl
  | x :: xs, S, h => by
    obtain ⟨ρ1, h1, h2, h3⟩ := h x (by simp)
    have ih := lcL_filterb xs S fun y hy => h y (by simp [hy])
    rw [List.map_cons]
    unfold lcL
    rw [h1]
    simp only [bind_ok]
    rw [h2]
    simp only [bind_ok]
    cases e : q x with
    | true =>
      simp only [e, if_true, h3, bind_ok, ih, List.filter_cons]
      rfl
    | false =>
      simp only [e, ih, List.filter_cons]
      rfl
theorem ne_ints {i j : Int} {S : Store} : opNe (.int i) (.int j) S = .ok (.bl (decide (i ≠ j))) S := by
  rw [ne_plain rfl rfl]
  show Res.ok (D.bl (!(i == j))) S = _
  by_cases h : i = j <;> simp [h]
section
variable {a b c d : Int} {n m : Nat} {rows ps qs : List (Int × Int)} {S : Store}
theorem pure_pairs (ps : List (Int × Int)) : pureL (ps.map pairD) = true := pureL_map (fun _ => rfl) ps
theorem pure_bkW (many : Int) (a b : Int) (ps : List (Int × Int)) : pureD (bookD many a b ps) = true := by simp [bookD, looksD, pure_pairs]
theorem lim_ok {m : Int} (hm : m < lim) (hp : LooksOk m ps) : ∀ p ∈ ps, (0 ≤ p.1 ∧ p.1 < lim) ∧ 0 ≤ p.2 ∧ p.2 < lim := fun p h => by
  have := hp.ok p h
  omega
theorem pure_looks (ps : List (Int × Int)) : pureD (looksD ps) = true := by
  have : pureL (ps.map pairD) = true := pureL_map (fun _ => rfl) ps
  simp [looksD, this]
theorem below_ok {k : Int} (hb : ∀ p ∈ ps, (0 ≤ p.1 ∧ p.1 < lim) ∧ 0 ≤ p.2 ∧ p.2 < lim) (hl : ps.length < 64) : f_p_places_below [looksD ps, .int k] [] = .ok (.lst ((closedP ps [k]).map .int)) [] := by
  have lc : ∀ (ρ : Q.Env) (S : Store), 4 < ρ.length → lcL (mgTup 2 (mgCons (mgN 4) (mgCons (mgN 3) mgNil))) mYes (mTup (mCons (mVar 3) (mCons (mVar 4) mNil))) ρ (ps.map pairD) S = .ok ((ps.map fun p => (p.2, p.1)).map pairD) S := fun ρ S hρ => by
    rw [List.map_map]
    refine lcL_mapx _ S fun p hp => ⟨(ρ.set 4 (some (.int p.1))).set 3 (some (.int p.2)), by simp [pairD], ?_⟩
    have e4 : ((ρ.set 4 (some (.int p.1))).set 3 (some (.int p.2)))[4]? = some (some (.int p.1)) := by
      rw [List.getElem?_set_ne (by decide), List.getElem?_set_self (by omega)]
    have e3 : ((ρ.set 4 (some (.int p.1))).set 3 (some (.int p.2)))[3]? = some (some (.int p.2)) := List.getElem?_set_self (by simp; omega)
    generalize (ρ.set 4 (some (.int p.1))).set 3 (some (.int p.2)) = ρ1 at *
    simp [e3, e4, pairD]
  have sr : ∀ S, srK (.lst ((ps.map fun p => (p.2, p.1)).map pairD)) S = .ok (.lst ((sortD (ps.map fun p => (p.2, p.1))).map pairD)) S := fun S => srK_pairs fun q hq => by
    obtain ⟨r, hr, rfl⟩ := List.mem_map.mp hq
    have := hb r hr
    exact ⟨this.2, this.1⟩
  have len : (sortD (ps.map fun p => (p.2, p.1))).length = ps.length := by rw [(sortD_perm _).length_eq, List.length_map]
  have pl := fun S => plR_ok (S := S) (k := k) (ps := sortD (ps.map fun p => (p.2, p.1))) (by omega)
  rw [plK_closed] at pl
  have l2 : (ps.map pairD).length ≤ 100000 := by simp; omega
  have pd : pureD (.lst ((closedP ps [k]).map .int)) = true := pure_ints _
  unfold looksD
  generalize (closedP ps [k]).map D.int = Z at *
  generalize (sortD (ps.map fun p => (p.2, p.1))).map pairD = SD at *
  generalize (ps.map fun p => (p.2, p.1)).map pairD = SW at *
  generalize ps.map pairD = PS at *
  unfold f_p_places_below m_p_places_below
  rw [fnM_2]
  simp [l2]
  rw [lc _ _ (by simp)]
  simp [sr, pl, fin_nil pd]
theorem belowP {k : Int} {S : Store} (hb : ∀ p ∈ ps, (0 ≤ p.1 ∧ p.1 < lim) ∧ 0 ≤ p.2 ∧ p.2 < lim) (hl : ps.length < 64) : fPure f_p_places_below [looksD ps, .int k] S = .ok (.lst ((closedP ps [k]).map .int)) S := fPure_ap S (by simp [pure_looks]) (below_ok hb hl)
theorem belowG {k : Int} {z : D} (hz : z = .tup (ps.map pairD) ∨ z = .lst (ps.map pairD)) (hb : ∀ p ∈ ps, (0 ≤ p.1 ∧ p.1 < lim) ∧ 0 ≤ p.2 ∧ p.2 < lim) (hl : ps.length < 64) : fPure f_p_places_below [z, .int k] S = .ok (.lst ((closedP ps [k]).map .int)) S := by
  refine fPure_ap S (by rcases hz with rfl | rfl <;> simp [pure_pairs]) ?_
  rcases hz with rfl | rfl
  · exact below_ok hb hl
  · have lc : ∀ (ρ : Q.Env) (S : Store), 4 < ρ.length → lcL (mgTup 2 (mgCons (mgN 4) (mgCons (mgN 3) mgNil))) mYes (mTup (mCons (mVar 3) (mCons (mVar 4) mNil))) ρ (ps.map pairD) S = .ok ((ps.map fun p => (p.2, p.1)).map pairD) S := fun ρ S hρ => by
      rw [List.map_map]
      refine lcL_mapx _ S fun p hp => ⟨(ρ.set 4 (some (.int p.1))).set 3 (some (.int p.2)), by simp [pairD], ?_⟩
      have e4 : ((ρ.set 4 (some (.int p.1))).set 3 (some (.int p.2)))[4]? = some (some (.int p.1)) := by
        rw [List.getElem?_set_ne (by decide), List.getElem?_set_self (by omega)]
      have e3 : ((ρ.set 4 (some (.int p.1))).set 3 (some (.int p.2)))[3]? = some (some (.int p.2)) := List.getElem?_set_self (by simp; omega)
      generalize (ρ.set 4 (some (.int p.1))).set 3 (some (.int p.2)) = ρ1 at *
      simp [e3, e4, pairD]
    have sr : ∀ S, srK (.lst ((ps.map fun p => (p.2, p.1)).map pairD)) S = .ok (.lst ((sortD (ps.map fun p => (p.2, p.1))).map pairD)) S := fun S => srK_pairs fun q hq => by
      obtain ⟨r, hr, rfl⟩ := List.mem_map.mp hq
      have := hb r hr
      exact ⟨this.2, this.1⟩
    have len : (sortD (ps.map fun p => (p.2, p.1))).length = ps.length := by rw [(sortD_perm _).length_eq, List.length_map]
    have pl := fun S => plR_ok (S := S) (k := k) (ps := sortD (ps.map fun p => (p.2, p.1))) (by omega)
    rw [plK_closed] at pl
    have l2 : (ps.map pairD).length ≤ 100000 := by simp; omega
    have pd : pureD (.lst ((closedP ps [k]).map .int)) = true := pure_ints _
    generalize (closedP ps [k]).map D.int = Z at *
    generalize (sortD (ps.map fun p => (p.2, p.1))).map pairD = SD at *
    generalize (ps.map fun p => (p.2, p.1)).map pairD = SW at *
    generalize ps.map pairD = PS at *
    unfold f_p_places_below m_p_places_below
    rw [fnM_2]
    simp [l2]
    rw [lc _ _ (by simp)]
    simp [sr, pl, fin_nil pd]
def mLe : MS := (mSeq (mAsg (mLc (mItems (mVar 3)) (mgN 7) (mTB (mOp opNe (mVar 7) (mVar 5))) (mVar 7) [7]) (mgN 6))
  (mIf (mTB (mOp opNin (mOp opIx (mVar 5) (mC (.int 0))) (mCall (fPure f_p_places_below) (mCons (mVar 6) (mCons (mOp opIx (mVar 5) (mC (.int 1))) mNil))))) (mDrop (mApp (mVar 4) (mVar 5))) mSkip))
theorem deq_pair {p q : Int × Int} : deq (pairD q) (pairD p) = decide (q = p) := by
  have : deq (pairD q) (pairD p) = ((q.1 == p.1) && ((q.2 == p.2) && true)) := rfl
  rw [this]
  by_cases h : q = p
  · subst h; simp
  · have h2 : ¬ (q.1 = p.1 ∧ q.2 = p.2) := fun z => h (Prod.ext z.1 z.2)
    rw [decide_eq_false h]
    by_cases h3 : q.1 = p.1
    · have h4 : ¬ q.2 = p.2 := fun z => h2 ⟨h3, z⟩
      simp [h3, h4]
    · simp [h3]
theorem ne_pair {p q : Int × Int} (S : Store) : opNe (pairD q) (pairD p) S = .ok (.bl (decide (q ≠ p))) S := by
  rw [ne_plain rfl rfl, deq_pair]
  simp
theorem others_lc {p : Int × Int} {ρ : Q.Env} (h7 : 7 < ρ.length) (e5 : ρ[5]? = some (some (pairD p))) (S : Store) :
    lcL (mgN 7) (mTB (mOp opNe (mVar 7) (mVar 5))) (mVar 7) ρ (ps.map pairD) S = .ok ((ps.filter fun q => decide (q ≠ p)).map pairD) S := by
  refine lcL_filterb ps S fun q hq => ⟨ρ.set 7 (some (pairD q)), rfl, ?_⟩
  have g5 : (ρ.set 7 (some (pairD q)))[5]? = some (some (pairD p)) := by rw [List.getElem?_set_ne (by decide)]; exact e5
  have g7 : (ρ.set 7 (some (pairD q)))[7]? = some (some (pairD q)) := List.getElem?_set_self h7
  generalize ρ.set 7 (some (pairD q)) = ρ1 at *
  have ne := fun S => ne_pair (p := p) (q := q) S
  generalize pairD q = Q at *
  generalize pairD p = P at *
  constructor
  · simp [g5, g7, ne]
  · simp [g7]
def leastF (ps es : List (Int × Int)) : List (Int × Int) := es.filter fun p => decide (p.1 ∉ closedP (ps.filter fun q => decide (q ≠ p)) [p.2])
theorem leastF_in {e : Int × Int} {es : List (Int × Int)} (c : e.1 ∈ closedP (ps.filter fun q => decide (q ≠ e)) [e.2]) : leastF ps (e :: es) = leastF ps es := by
  unfold leastF
  rw [List.filter_cons, if_neg (by simpa using c)]
theorem leastF_out {e : Int × Int} {es : List (Int × Int)} (c : e.1 ∉ closedP (ps.filter fun q => decide (q ≠ e)) [e.2]) : leastF ps (e :: es) = e :: leastF ps es := by
  unfold leastF
  rw [List.filter_cons, if_pos (by simpa using c)]
theorem least_loop {B N L : Option D} (hb : LooksOk n ps) (hn : n < 1000) (hl : ps.length < 63) : ∀ (es : List (Int × Int)) (pre : List (Int × Int)) (v5 v6 : Option D), pre.length + es.length < 1000 →
    ∃ w5 w6, forL (mgN 5) mLe (es.map pairD) [B, N, L, some (looksD ps), some (.ref 0), v5, v6, none] [.lst (pre.map pairD)] = .ok (.nx [B, N, L, some (looksD ps), some (.ref 0), w5, w6, none]) [.lst ((pre ++ leastF ps es).map pairD)]
  | [], pre, v5, v6, _ => ⟨v5, v6, by simp [forL_nil, leastF]⟩
  | e :: es, pre, v5, v6, h => by
    rw [List.length_cons] at h
    have hlf : (ps.filter fun q => decide (q ≠ e)).length ≤ ps.length := List.length_filter_le _ _
    have hbf : ∀ p ∈ ps.filter (fun q => decide (q ≠ e)), (0 ≤ p.1 ∧ p.1 < lim) ∧ 0 ≤ p.2 ∧ p.2 < lim := fun p hp => lim_ok (show (n : Int) < lim by unfold lim; omega) hb p (List.mem_filter.mp hp).1
    have bl := fun S => belowG (ps := ps.filter fun q => decide (q ≠ e)) (k := e.2) (S := S) (z := .lst ((ps.filter fun q => decide (q ≠ e)).map pairD)) (.inr rfl) hbf (by omega)
    have oc := fun ρ h7 e5 S => others_lc (ps := ps) (p := e) (ρ := ρ) h7 e5 S
    have ni := fun S => nin_ints (P := closedP (ps.filter fun q => decide (q ≠ e)) [e.2]) (m := e.1) (S := S)
    have i0 : ∀ S, opIx (pairD e) (.int 0) S = .ok (.int e.1) S := fun S => rfl
    have i1 : ∀ S, opIx (pairD e) (.int 1) S = .ok (.int e.2) S := fun S => rfl
    have put : appTo 0 (pairD e) [.lst (pre.map pairD)] = .ok .non [.lst ((pre ++ [e]).map pairD)] := by
      rw [appTo_ok _ rfl (by simp; omega)]
      simp
    have hz : (ps.map pairD).length ≤ 100000 := by simp; omega
    by_cases c : e.1 ∈ closedP (ps.filter fun q => decide (q ≠ e)) [e.2]
    · obtain ⟨w5, w6, ih⟩ := least_loop (B := B) (N := N) (L := L) hb hn hl es pre (some (pairD e)) (some (.lst ((ps.filter fun q => decide (q ≠ e)).map pairD))) (by omega)
      refine ⟨w5, w6, ?_⟩
      rw [leastF_in c, List.map_cons, forL_cons]
      generalize (pre ++ leastF ps es).map pairD = Z at *
      rw [decide_eq_true c] at ni
      generalize pairD e = E at *
      generalize (ps.filter fun q => decide (q ≠ e)).map pairD = F at *
      generalize (closedP (ps.filter fun q => decide (q ≠ e)) [e.2]).map D.int = C at *
      unfold looksD at ih ⊢
      generalize ps.map pairD = P at *
      generalize pre.map pairD = P1 at *
      unfold mLe at ih ⊢
      simp -implicitDefEqProofs [hz]
      rw [oc _ (by simp) rfl]
      simp -implicitDefEqProofs [i0, i1, bl, ni]
      exact ih
    · obtain ⟨w5, w6, ih⟩ := least_loop (B := B) (N := N) (L := L) hb hn hl es (pre ++ [e]) (some (pairD e)) (some (.lst ((ps.filter fun q => decide (q ≠ e)).map pairD))) (by simp; omega)
      refine ⟨w5, w6, ?_⟩
      rw [List.append_assoc] at ih
      rw [leastF_out c, List.map_cons, forL_cons]
      rw [decide_eq_false c] at ni
      rw [show pre ++ e :: leastF ps es = pre ++ ([e] ++ leastF ps es) by simp]
      generalize (pre ++ ([e] ++ leastF ps es)).map pairD = Z at *
      generalize pairD e = E at *
      generalize (ps.filter fun q => decide (q ≠ e)).map pairD = F at *
      generalize (closedP (ps.filter fun q => decide (q ≠ e)) [e.2]).map D.int = C at *
      unfold looksD at ih ⊢
      generalize ps.map pairD = P at *
      generalize pre.map pairD = P1 at *
      generalize (pre ++ [e]).map pairD = P2 at *
      unfold mLe at ih ⊢
      simp -implicitDefEqProofs [hz]
      rw [oc _ (by simp) rfl]
      simp -implicitDefEqProofs [i0, i1, bl, ni, put]
      exact ih
end
section
variable {a b c d : Int} {n m : Nat} {ps qs : List (Int × Int)} {S : Store}
def mSu : MS := (mDrop (mExt (mVar 4) (mLc (mItems (mCall (fPure f_p_places_below) (mCons (mVar 3) (mCons (mVar 5) mNil)))) (mgN 6) (mTB (mOp opNe (mVar 6) (mVar 5))) (mTup (mCons (mVar 6) (mCons (mVar 5) mNil))) [6])))
theorem row_lcP {e : Int} {ρ : Q.Env} (h6 : 6 < ρ.length) (e5 : ∀ d, (ρ.set 6 d)[5]? = some (some (.int e))) (hlt : ∀ p ∈ ps, p.1 < p.2) (S : Store) :
    lcL (mgN 6) (mTB (mOp opNe (mVar 6) (mVar 5))) (mTup (mCons (mVar 6) (mCons (mVar 5) mNil))) ρ ((closedP ps [e]).map .int) S = .ok ((rowR ps e).map pairD) S := by
  rw [← rowR_ne hlt, List.map_map]
  refine lcL_filtermap (u := D.int) (w := pairD ∘ fun s => (s, e)) _ S fun s hs => ⟨ρ.set 6 (some (.int s)), rfl, ?_⟩
  have e6 : (ρ.set 6 (some (.int s)))[6]? = some (some (.int s)) := List.getElem?_set_self h6
  have g5 := e5 (some (.int s))
  generalize ρ.set 6 (some (.int s)) = ρ1 at *
  simp [e6, g5, ne_ints, pairD]
theorem sure_loop {B N L : Option D} {j : Nat} {S : Store} (hj : j = S.length) (hb : ∀ p ∈ ps, (0 ≤ p.1 ∧ p.1 < lim) ∧ 0 ≤ p.2 ∧ p.2 < lim) (hl : ps.length < 63) (hlt : ∀ p ∈ ps, p.1 < p.2) : ∀ (es : List Int) (pre : List (Int × Int)) (v5 : Option D), pre.length + 64 * es.length < 10000 →
    ∃ w5, forL (mgN 5) mSu (es.map .int) [B, N, L, some (looksD ps), some (.ref j), v5, none] (S ++ [.lst (pre.map pairD)]) = .ok (.nx [B, N, L, some (looksD ps), some (.ref j), w5, none]) (S ++ [.lst ((pre ++ es.flatMap (rowR ps)).map pairD)])
  | [], pre, v5, _ => ⟨v5, by simp [forL_nil]⟩
  | e :: es, pre, v5, h => by
    rw [List.length_cons] at h
    have rl := rowR_len ps e
    obtain ⟨w5, ih⟩ := sure_loop (B := B) (N := N) (L := L) hj hb hl hlt es (pre ++ rowR ps e) (some (.int e)) (by rw [List.length_append]; omega)
    refine ⟨w5, ?_⟩
    rw [List.append_assoc] at ih
    rw [List.map_cons, forL_cons, List.flatMap_cons]
    have bl := fun S => belowP (ps := ps) (k := e) (S := S) hb (by omega)
    have cl := closedP_len ps [e]
    have lc : ((closedP ps [e]).map D.int).length ≤ 100000 := by simp at cl ⊢; omega
    have rr := fun ρ h6 e5 S => row_lcP (ps := ps) (e := e) (ρ := ρ) h6 e5 hlt S
    have ex : extTo j (.lst ((rowR ps e).map pairD)) (S ++ [.lst (pre.map pairD)]) = .ok .non (S ++ [.lst ((pre ++ rowR ps e).map pairD)]) := by
      rw [extTo_ok (xs := pre.map pairD) (ys := (rowR ps e).map pairD) (by subst hj; simp) rfl (by simp; omega)]
      subst hj
      simp
    have no : notOb (S ++ [.lst (pre.map pairD)]) j = true := notOb_lst (xs := pre.map pairD) (by subst hj; simp)
    generalize ((pre ++ (rowR ps e ++ es.flatMap (rowR ps))).map pairD) = Z at *
    generalize (pre ++ rowR ps e).map pairD = P2 at *
    generalize pre.map pairD = P1 at *
    generalize (rowR ps e).map pairD = RR at *
    generalize (closedP ps [e]).map D.int = C at *
    generalize looksD ps = LK at *
    unfold mSu at ih ⊢
    simp [bl, lc, no]
    rw [rr _ (by simp) (fun d => rfl)]
    simp [ex]
    exact ih
end
section
variable {n : Nat} {A B : BkD}
def mPb : MS := (mSeq (mAsg (mCall (fPure f_p_places_below) (mCons (mVar 4) (mCons (mVar 6) mNil))) (mgN 7))
  (mIf (mTB (mOp opNin (mVar 5) (mVar 7))) (mRet (mCall (fPure f_p_log_of) (mCons (mVar 3) (mCons (mVar 2) (mCons (mCall fTuple (mCons (mVar 7) mNil)) mNil))))) mSkip))
theorem pb_loop {a b : Int} {ps : List (Int × Int)} {v0 v1 : Option D} (hb : LooksOk n ps) (hn : n ≤ 100) (hl : ps.length < 63) : ∀ (es : List (Int × Int)) (v5 v6 v7 : Option D),
    ((∀ q ∈ es, Til ps q.2 q.1) ∧ ∃ w5 w6 w7, forL (mgTup 2 (mgCons (mgN 5) (mgCons (mgN 6) mgNil))) mPb (es.map pairD) [v0, v1, some (.int n), some (.tup [.int a, .int b]), some (looksD ps), v5, v6, v7] [] = .ok (.nx [v0, v1, some (.int n), some (.tup [.int a, .int b]), some (looksD ps), w5, w6, w7]) []) ∨
    (∃ q ∈ es, ¬ Til ps q.2 q.1 ∧ forL (mgTup 2 (mgCons (mgN 5) (mgCons (mgN 6) mgNil))) mPb (es.map pairD) [v0, v1, some (.int n), some (.tup [.int a, .int b]), some (looksD ps), v5, v6, v7] [] = .ok (.rt (logD (hillsR a b n (closedP ps [q.2])))) [])
  | [], v5, v6, v7 => .inl ⟨fun p hp => (by cases hp), v5, v6, v7, rfl⟩
  | e :: es, v5, v6, v7 => by
    have bl := fun S => belowG (ps := ps) (k := e.2) (S := S) (z := looksD ps) (.inl rfl) (lim_ok (show (n : Int) < lim by unfold lim; omega) hb) (by omega)
    have ni := fun S => nin_ints (P := closedP ps [e.2]) (m := e.1) (S := S)
    have ep : pairD e = .tup [.int e.1, .int e.2] := rfl
    by_cases ht : Til ps e.2 e.1
    · rw [decide_eq_true ((til_closed hb.lt).mpr ht)] at ni
      have st : forL (mgTup 2 (mgCons (mgN 5) (mgCons (mgN 6) mgNil))) mPb ((e :: es).map pairD) [v0, v1, some (.int n), some (.tup [.int a, .int b]), some (looksD ps), v5, v6, v7] [] = forL (mgTup 2 (mgCons (mgN 5) (mgCons (mgN 6) mgNil))) mPb (es.map pairD) [v0, v1, some (.int n), some (.tup [.int a, .int b]), some (looksD ps), some (.int e.1), some (.int e.2), some (.lst ((closedP ps [e.2]).map .int))] [] := by
        rw [List.map_cons, forL_cons, ep]
        generalize (closedP ps [e.2]).map D.int = C at *
        generalize looksD ps = P at *
        generalize es.map pairD = L
        unfold mPb
        simp -implicitDefEqProofs [bl, ni]
      rw [st]
      rcases pb_loop (a := a) (b := b) (v0 := v0) (v1 := v1) hb hn hl es (some (.int e.1)) (some (.int e.2)) (some (.lst ((closedP ps [e.2]).map .int))) with ⟨h1, h2⟩ | ⟨q, hq, h1, h2⟩
      · refine .inl ⟨fun q hq => ?_, h2⟩
        rcases List.mem_cons.mp hq with rfl | hq
        · exact ht
        · exact h1 q hq
      · exact .inr ⟨q, List.mem_cons_of_mem _ hq, h1, h2⟩
    · rw [decide_eq_false (fun h => ht ((til_closed hb.lt).mp h))] at ni
      refine .inr ⟨e, List.mem_cons_self .., ht, ?_⟩
      have lo := fun S => fPure_ap (S := S) (show pureL [.tup [.int a, .int b], .int (n : Nat), .tup ((closedP ps [e.2]).map .int)] = true by have := pure_ints (closedP ps [e.2]); simp [this]) (log_of_ok (P := closedP ps [e.2]) (a := a) (b := b) (n := n) (S := []) (.inl rfl) (.inl rfl) (by omega))
      have hz : ((closedP ps [e.2]).map D.int).length ≤ 100000 := by have := closedP_len ps [e.2]; simp at this ⊢; omega
      rw [List.map_cons, forL_cons, ep]
      generalize logD (hillsR a b n (closedP ps [e.2])) = R at *
      generalize (closedP ps [e.2]).map D.int = C at *
      generalize looksD ps = P at *
      generalize es.map pairD = L
      unfold mPb
      simp -implicitDefEqProofs [bl, ni, lo, hz]
theorem partP (hn : n ≤ 100) (hA : BkOk n A) (hB : BkOk n B) : ((∀ q ∈ B.ps, Til A.ps q.2 q.1) ∧ ∀ S, fPure f_p_parted_by_look [A.d n, B.d n] S = .ok .non S) ∨ (∃ q ∈ B.ps, ¬ Til A.ps q.2 q.1 ∧ ∀ S, fPure f_p_parted_by_look [A.d n, B.d n] S = .ok (logD (hillsR A.a A.b n (closedP A.ps [q.2]))) S) := by
  have p1 := hA.book.pure
  have p2 := hB.book.pure
  have pp : pureL [A.d n, B.d n] = true := by simp only [pureL_cons, p1, p2, pureL_nil]; rfl
  have ix2 : ∀ S, opIx (B.d n) (.int 2) S = .ok (.tup (B.ps.map pairD)) S := fun S => rfl
  have hz : (B.ps.map pairD).length ≤ 100000 := by have := hB.hl; simp; omega
  have hz3 : (B.ps.map pairD).length ≤ 100000 := hz
  rcases pb_loop (a := A.a) (b := A.b) (v0 := some (A.d n)) (v1 := some (B.d n)) hA.hp hn (by have := hA.hl; omega) B.ps none none none with ⟨h1, w5, w6, w7, lp⟩ | ⟨q, hq, h1, lp⟩
  · refine .inl ⟨h1, fun S => fPure_ap S pp ?_⟩
    unfold f_p_parted_by_look m_p_parted_by_look
    rw [fnM_2]
    show endM 0 (mSeq _ (mSeq (mFor _ _ mPb) _) _ _) = _
    generalize mPb = mS at *
    generalize B.d n = Q at *
    generalize B.ps.map pairD = QS at *
    unfold BkD.d bookD at lp ⊢
    generalize looksD A.ps = LK at *
    simp -implicitDefEqProofs [ix2, lp, fin_nil]
  · refine .inr ⟨q, hq, h1, fun S => fPure_ap S pp ?_⟩
    have pl := pure_logD (hillsR A.a A.b n (closedP A.ps [q.2]))
    unfold f_p_parted_by_look m_p_parted_by_look
    rw [fnM_2]
    show endM 0 (mSeq _ (mSeq (mFor _ _ mPb) _) _ _) = _
    generalize mPb = mS at *
    generalize logD (hillsR A.a A.b n (closedP A.ps [q.2])) = R at *
    generalize B.d n = Q at *
    generalize B.ps.map pairD = QS at *
    unfold BkD.d bookD at lp ⊢
    generalize looksD A.ps = LK at *
    simp -implicitDefEqProofs [ix2, lp, fin_nil, pl]
theorem agreeP (hA : BkOk n A) (hB : BkOk n B) (S : Store) : fPure f_p_agree [.tup [.int A.a, .int A.b], .tup [.int B.a, .int B.b]] S = .ok (.bl (decide (A.a * B.b = B.a * A.b))) S := by
  refine fPure_ap S rfl ?_
  have hb : ∀ x : Int, x < 2 ^ 200 → x < big := fun x h => bigH (Int.le_trans (Int.le_of_lt h) (by decide))
  have a1 := hA.ha; have a2 := hA.hab; have a3 := hA.hb; have b1 := hB.ha; have b2 := hB.hab; have b3 := hB.hb
  have m1 : mulOk A.a B.b = true := mulOk_big (by omega) (hb _ (by omega)) (by omega) (hb _ b3)
  have m2 : mulOk B.a A.b = true := mulOk_big (by omega) (hb _ (by omega)) (by omega) (hb _ a3)
  by_cases h : A.a * B.b = B.a * A.b
  · simp [f_p_agree, fnM, m_p_agree, m1, m2, h, fin_nil]
  · simp [f_p_agree, fnM, m_p_agree, m1, m2, h, fin_nil]
end
section
variable {a b g f : Int} {S : Store}
theorem above_p (m1 : mulOk b f = true) (m2 : mulOk a (g + f) = true) : f_p_is_above [.tup [.int a, .int b], .tup [.int g, .int f]] S = .ok (.bl (decide (a * (g + f) < b * f))) S := by
  simp [f_p_is_above, fnM, m_p_is_above, m1, m2]
end
def isLoud (a b : Int) (rows : List (Int × Int)) (p : Int × Int) : Bool := decide (a * (sg rows p.1.toNat p.2.toNat + sf rows p.1.toNat p.2.toNat) < b * sf rows p.1.toNat p.2.toNat)
def loudR (a b : Int) (rows ps : List (Int × Int)) : List (Int × Int) := ps.filter (isLoud a b rows)
def loudD (a b : Int) (rows ps : List (Int × Int)) : List D := (loudR a b rows ps).map pairD
structure CaseOk (a b : Int) (n : Nat) (rows ps : List (Int × Int)) : Prop where
  ha : 0 < a
  hab : a < b
  hb : b < 2 ^ 200
  hn : 0 < n
  hn2 : n < 40
  hl : rows.length = n
  hr : RowsOk (10 ^ 100) rows
  hp : LooksOk n ps
  hpl : ps.length < 40
section
variable {a b : Int} {n : Nat} {rows ps : List (Int × Int)} {S : Store}
theorem CaseOk.muls (h : CaseOk a b n rows ps) (s e : Nat) : mulOk b (sf rows s e) = true ∧ mulOk a (sg rows s e + sf rows s e) = true := by
  have x1 := sf_bound h.hr (by decide) s e
  have x2 := sg_bound h.hr (by decide) s e
  have hl := h.hl
  have hn := h.hn2
  have ha := h.ha
  have hab := h.hab
  have hb := h.hb
  have q : (10 : Int) ^ 100 * (rows.length : Int) ≤ 10 ^ 100 * 40 := Int.mul_le_mul_of_nonneg_left (by omega) (by decide)
  exact ⟨mulOk_big (by omega) (bigH (Int.le_trans (Int.le_of_lt hb) (by decide))) x1.1 (bigH (Int.le_trans x1.2 (Int.le_trans q (by decide)))), mulOk_big (by omega) (bigH (show a ≤ 2 ^ 200 by omega |> fun h => Int.le_trans h (by decide))) (by omega) (bigH (Int.le_trans (show sg rows s e + sf rows s e ≤ 10 ^ 100 * 40 + 10 ^ 100 * 40 by omega) (by decide)))⟩
theorem pairD_str {p : Int × Int} (h : 0 ≤ p.1 ∧ p.1 < p.2 ∧ p.2 ≤ n) : pairD p = strD p.1.toNat p.2.toNat := by
  unfold pairD strD
  rw [show ((p.1.toNat : Nat) : Int) = p.1 by omega, show ((p.2.toNat : Nat) : Int) = p.2 by omega]
theorem loud_lc (h : CaseOk a b n rows ps) {ρ : Q.Env} (h6 : 6 < ρ.length) (e3 : ∀ d, (ρ.set 6 d)[3]? = some (some (.tup [.int a, .int b]))) (e5 : ∀ d, (ρ.set 6 d)[5]? = some (some (logD rows))) (S : Store) :
    lcL (mgN 6) (mTest (mCall (fPure f_p_is_above) (mCons (mVar 3) (mCons (mCall (fPure f_p_calls) (mCons (mVar 5) (mCons (mVar 6) mNil))) mNil)))) (mVar 6) ρ (ps.map pairD) S = .ok (loudD a b rows ps) S := by
  refine lcL_filterb ps S fun p hp => ⟨ρ.set 6 (some (pairD p)), rfl, ?_⟩
  have e6 : (ρ.set 6 (some (pairD p)))[6]? = some (some (pairD p)) := List.getElem?_set_self h6
  have g3 := e3 (some (pairD p))
  have g5 := e5 (some (pairD p))
  have hs := pairD_str (h.hp.ok p hp)
  have hl := h.hl
  have hn := h.hn2
  have c := fun S => callsP (rows := rows) (s := p.1.toNat) (e := p.2.toNat) (S := S) (by omega)
  obtain ⟨m1, m2⟩ := h.muls p.1.toNat p.2.toNat
  have ab := fun S => fPure_ap S (show pureL [.tup [.int a, .int b], .tup [.int (sg rows p.1.toNat p.2.toNat), .int (sf rows p.1.toNat p.2.toNat)]] = true from rfl) (above_p (S := []) m1 m2)
  generalize ρ.set 6 (some (pairD p)) = ρ1 at *
  generalize logD rows = L at *
  rw [hs] at e6 ⊢
  unfold isLoud
  generalize strD p.1.toNat p.2.toNat = st at *
  simp [e6, g3, g5, c, ab]
end
theorem tuD_map {β : Type} {f g : β → D} {k : Nat} (h : ∀ x, tuD k (f x) = g x) (xs : List β) : (xs.map f).map (tuD k) = xs.map g := by
  rw [List.map_map]
  exact List.map_congr_left fun x _ => h x
section
variable {a b : Int} {n : Nat} {rows ps : List (Int × Int)}
theorem tu_log : tuD 4 (logD rows) = logD rows := by
  show D.tup ((rows.map rowD).map (tuD 3)) = _
  rw [tuD_map (g := rowD) fun x => rfl]
  rfl
theorem okD_map {β : Type} {f : β → D} {k : Nat} (h : ∀ x, okD k (f x) = true) (xs : List β) : (xs.map f).all (okD k) = true := by
  rw [List.all_map, List.all_eq_true]
  exact fun x _ => h x
theorem ok_log (h : rows.length ≤ 1000) : okD 4 (logD rows) = true := by
  have e : (rows.map rowD).all (okD 3) = true := okD_map (fun x => rfl) rows
  have l : (rows.map rowD).length ≤ 100000 := by simp; omega
  unfold logD
  generalize rows.map rowD = P at *
  simp [okD_tup, e, l]
end
section
variable {a b : Int} {n : Nat} {rows ps : List (Int × Int)} {S : Store}
theorem loud_w (h : CaseOk a b n rows ps) {B : D} (hB : IsBook B (n : Nat) a b ps) : f_p_loud [B, logD rows] S = .ok (.lst (loudD a b rows ps)) S := by
  have t1 := fun S => hB.tup S
  have t2 := fun S => tupledP (d := logD rows) S (ok_log (by have := h.hl; have := h.hn2; omega)) (by decide)
  rw [tu_log] at t2
  have lc := fun ρ h6 e3 e5 S => loud_lc h (ρ := ρ) h6 e3 e5 S
  have hpl := h.hpl
  have hz : (ps.map pairD).length ≤ 100000 := by simp; omega
  unfold bookD looksD at t1
  clear hB
  generalize ps.map pairD = P at *
  generalize logD rows = L at *
  unfold f_p_loud m_p_loud
  rw [fnM_2]
  simp [t1, t2, hz]
  rw [lc _ (by simp) (fun d => rfl) (fun d => rfl)]
  simp [fin_len rfl]
theorem calm_loud {A : BkD} : loudR A.a A.b rows A.ps = [] ↔ Calm A rows := by
  unfold loudR Calm Quiet
  rw [List.filter_eq_nil_iff]
  refine forall_congr' fun p => forall_congr' fun hp => ?_
  unfold isLoud
  rw [decide_eq_true_eq, Int.mul_add, Int.sub_mul]
  omega
open Classical in
theorem isq_w (h : CaseOk a b n rows ps) {B : D} (hB : IsBook B (n : Nat) a b ps) (S : Store) : fPure f_p_is_quiet [B, logD rows] S = .ok (.bl (decide (loudR a b rows ps = []))) S := by
  have pb := hB.pure
  have pu : pureL [B, logD rows] = true := by simp [pb]
  have lo := fun S => fPure_ap S pu (loud_w (S := []) h hB)
  refine fPure_ap S pu ?_
  have hl : (loudD a b rows ps).length = (loudR a b rows ps).length := by unfold loudD; simp
  have hd : decide ((loudR a b rows ps).length = 0) = decide (loudR a b rows ps = []) := by cases loudR a b rows ps <;> simp
  rw [← hd]
  generalize loudD a b rows ps = X at *
  simp [f_p_is_quiet, fnM, m_p_is_quiet, lo, hl, fin_nil]
open Classical in
theorem calmP {A : BkD} (hn : 0 < n) (hn2 : n < 40) (hA : BkOk n A) (hl : rows.length = n) (hr : RowsOk (10 ^ 100) rows) (S : Store) : fPure f_p_is_quiet [A.d n, logD rows] S = .ok (.bl (decide (Calm A rows))) S := by
  rw [isq_w ⟨hA.ha, hA.hab, hA.hb, hn, hn2, hl, hr, hA.hp, hA.hl⟩ hA.book S]
  congr 2
  exact decide_eq_decide.mpr calm_loud
end
section
variable {n : Nat} {A B : BkD}
inductive PartIs (n : Nat) (A B : BkD) : D → Prop
  | no (h1 : ∀ q ∈ B.ps, Til A.ps q.2 q.1) (h2 : ∀ q ∈ A.ps, Til B.ps q.2 q.1) : PartIs n A B .non
  | mine (q : Int × Int) (hq : q ∈ B.ps) (h : ¬ Til A.ps q.2 q.1) : PartIs n A B (logD (hillsR A.a A.b n (closedP A.ps [q.2])))
  | its (h1 : ∀ q ∈ B.ps, Til A.ps q.2 q.1) (q : Int × Int) (hq : q ∈ A.ps) (h : ¬ Til B.ps q.2 q.1) : PartIs n A B (logD (hillsR B.a B.b n (closedP B.ps [q.2])))
theorem partingP (hn : n ≤ 100) (hA : BkOk n A) (hB : BkOk n B) (he : A.a * B.b = B.a * A.b) : ∃ r, PartIs n A B r ∧ (∀ S, fPure f_p_parting [A.d n, B.d n] S = .ok r S) ∧ ∀ S, fPure f_p_alike [A.d n, B.d n] S = .ok (.bl (isNon r)) S := by
  have p1 := hA.book.pure
  have p2 := hB.book.pure
  have pp : pureL [A.d n, B.d n] = true := by simp only [pureL_cons, p1, p2, pureL_nil]; rfl
  have t1 : ∀ S, fPure (f_p_tupled 30) [A.d n] S = .ok (A.d n) S := fun S => hA.book.tup S
  have t2 : ∀ S, fPure (f_p_tupled 30) [B.d n] S = .ok (B.d n) S := fun S => hB.book.tup S
  have i0 : ∀ S, opIx (A.d n) (.int 0) S = .ok (.int n) S := fun S => rfl
  have i1 : ∀ S, opIx (A.d n) (.int 1) S = .ok (.tup [.int A.a, .int A.b]) S := fun S => rfl
  have j0 : ∀ S, opIx (B.d n) (.int 0) S = .ok (.int n) S := fun S => rfl
  have j1 : ∀ S, opIx (B.d n) (.int 1) S = .ok (.tup [.int B.a, .int B.b]) S := fun S => rfl
  have ne : ∀ S, opNe (.int n) (.int n) S = .ok (.bl false) S := fun S => by rw [ne_plain rfl rfl]; simp [deq]
  have ag := agreeP hA hB
  rw [decide_eq_true he] at ag
  have nl : ∀ rows, isNon (logD rows) = false := fun _ => rfl
  have key : ∃ r, PartIs n A B r ∧ (∀ S, fPure f_p_parting [A.d n, B.d n] S = .ok r S) := by
    rcases partP hn hA hB with ⟨h1, e1⟩ | ⟨q, hq, h1, e1⟩
    · rcases partP hn hB hA with ⟨h2, e2⟩ | ⟨q, hq, h2, e2⟩
      · refine ⟨.non, .no h1 h2, fun S => fPure_ap S pp ?_⟩
        unfold f_p_parting m_p_parting
        rw [fnM_2]
        generalize A.d n = Ad at *
        generalize B.d n = Bd at *
        simp -implicitDefEqProofs [t1, t2, i0, i1, j0, j1, ne, ag, e1, e2, fin_nil]
      · refine ⟨_, .its h1 q hq h2, fun S => fPure_ap S pp ?_⟩
        have pl := pure_logD (hillsR B.a B.b n (closedP B.ps [q.2]))
        generalize logD (hillsR B.a B.b n (closedP B.ps [q.2])) = R at *
        unfold f_p_parting m_p_parting
        rw [fnM_2]
        generalize A.d n = Ad at *
        generalize B.d n = Bd at *
        simp -implicitDefEqProofs [t1, t2, i0, i1, j0, j1, ne, ag, e1, e2, fin_nil, pl]
    · refine ⟨_, .mine q hq h1, fun S => fPure_ap S pp ?_⟩
      have pl := pure_logD (hillsR A.a A.b n (closedP A.ps [q.2]))
      have nr := nl (hillsR A.a A.b n (closedP A.ps [q.2]))
      generalize logD (hillsR A.a A.b n (closedP A.ps [q.2])) = R at *
      unfold f_p_parting m_p_parting
      rw [fnM_2]
      generalize A.d n = Ad at *
      generalize B.d n = Bd at *
      simp -implicitDefEqProofs [t1, t2, i0, i1, j0, j1, ne, ag, e1, fin_nil, pl, nr]
  obtain ⟨r, hr, e⟩ := key
  refine ⟨r, hr, e, fun S => fPure_ap S pp ?_⟩
  unfold f_p_alike m_p_alike
  rw [fnM_2]
  generalize A.d n = Ad at *
  generalize B.d n = Bd at *
  simp -implicitDefEqProofs [e, fin_nil]
end
def InS (n : Nat) (p : Int × Int) : Prop := 0 ≤ p.1 ∧ p.1 < p.2 ∧ p.2 ≤ (n : Int)
def rowN (n : Nat) (s : Int) : List (Int × Int) := (minutes (n - s.toNat)).map fun j => (s, s + 1 + j)
def mNe : MS := (mAsg (mOp opAdd (mVar 4) (mLc (mRange1 (mOp opSubI (mVar 3) (mVar 5))) (mgN 6) mYes (mTup (mCons (mVar 5) (mCons (mOp opAdd (mOp opAdd (mVar 5) (mC (.int 1))) (mVar 6)) mNil))) [6])) (mgN 4))
theorem rowN_lc {s : Int} {k : Nat} {ρ : Q.Env} (h6 : 6 < ρ.length) (e5 : ρ[5]? = some (some (.int s))) (S : Store) :
    lcL (mgN 6) mYes (mTup (mCons (mVar 5) (mCons (mOp opAdd (mOp opAdd (mVar 5) (mC (.int 1))) (mVar 6)) mNil))) ρ (rangeD 0 k) S = .ok (((minutes k).map fun j => (s, s + 1 + j)).map pairD) S := by
  rw [rangeD_minutes, List.map_map]
  refine lcL_mapx (u := D.int) (w := pairD ∘ fun j => (s, s + 1 + j)) _ S fun j hj => ⟨ρ.set 6 (some (.int j)), rfl, ?_⟩
  have g5 : (ρ.set 6 (some (.int j)))[5]? = some (some (.int s)) := by rw [List.getElem?_set_ne (by decide)]; exact e5
  have g6 : (ρ.set 6 (some (.int j)))[6]? = some (some (.int j)) := List.getElem?_set_self h6
  generalize ρ.set 6 (some (.int j)) = ρ1 at *
  simp [g5, g6, pairD]
theorem net_loop {A B C : Option D} {S : Store} {n : Nat} (hn : n ≤ 10) : ∀ (ks : List Int) (pre : List (Int × Int)) (v5 : Option D), (∀ k ∈ ks, 0 ≤ k ∧ k < n) → pre.length + 10 * ks.length < 10000 →
    ∃ w5, forL (mgN 5) mNe (ks.map .int) [A, B, C, some (.int n), some (.lst (pre.map pairD)), v5, none] S = .ok (.nx [A, B, C, some (.int n), some (.lst ((pre ++ ks.flatMap (rowN n)).map pairD)), w5, none]) S
  | [], pre, v5, _, _ => ⟨v5, by simp [forL_nil]⟩
  | s :: ks, pre, v5, hk, h => by
    rw [List.length_cons] at h
    have rl : (rowN n s).length ≤ 10 := by unfold rowN minutes; simp; omega
    obtain ⟨w5, ih⟩ := net_loop (A := A) (B := B) (C := C) (S := S) hn ks (pre ++ rowN n s) (some (.int s)) (fun k h => hk k (by simp [h])) (by rw [List.length_append]; omega)
    refine ⟨w5, ?_⟩
    have hs := hk s (by simp)
    have e1 : (n : Int) - s = ((n - s.toNat : Nat) : Int) := by omega
    have rk := fun S => r1K_nat (n - s.toNat) (S := S) (by omega)
    have lc := fun ρ h6 e5 S => rowN_lc (s := s) (k := n - s.toNat) (ρ := ρ) h6 e5 S
    have lc' : ∀ (ρ : Q.Env), 6 < ρ.length → ρ[5]? = some (some (.int s)) → ∀ S, lcL (mgN 6) mYes (mTup (mCons (mVar 5) (mCons (mOp opAdd (mOp opAdd (mVar 5) (mC (.int 1))) (mVar 6)) mNil))) ρ (rangeD 0 (n - s.toNat)) S = .ok ((rowN n s).map pairD) S := lc
    clear lc
    rw [List.append_assoc] at ih
    rw [List.map_cons, forL_cons, List.flatMap_cons]
    have z1 : (pre.map pairD).length + ((rowN n s).map pairD).length ≤ 100000 := by simp; omega
    have z2 : (rangeD 0 (n - s.toNat)).length ≤ 100000 := by rw [rangeD_len]; omega
    have ea : (pre ++ rowN n s).map pairD = pre.map pairD ++ (rowN n s).map pairD := List.map_append
    rw [ea] at ih
    generalize (pre ++ (rowN n s ++ ks.flatMap (rowN n))).map pairD = Z at *
    generalize (rowN n s).map pairD = X at *
    generalize pre.map pairD = P at *
    generalize hR : rangeD 0 (n - s.toNat) = R at *
    unfold mNe at ih ⊢
    simp -implicitDefEqProofs [e1, rk, z2]
    rw [lc' _ (by simp) rfl]
    simp -implicitDefEqProofs [z1]
    exact ih
def netR (n : Nat) : List (Int × Int) := (minutes n).flatMap (rowN n)
theorem netR_ok {n : Nat} : ∀ p ∈ netR n, 0 ≤ p.1 ∧ p.1 < p.2 ∧ p.2 ≤ n := fun p hp => by
  obtain ⟨s, hs, hp2⟩ := List.mem_flatMap.mp hp
  obtain ⟨j, hj, rfl⟩ := List.mem_map.mp hp2
  have a := mem_minutes.mp hs
  have b := mem_minutes.mp hj
  simp only
  omega
theorem minutes_up (n : Nat) : (minutes n).Pairwise (· < ·) := by
  unfold minutes
  refine List.pairwise_map.mpr (List.pairwise_lt_range.imp fun {a b} h => by omega)
theorem netR_nodup (n : Nat) : (netR n).Nodup := by
  refine List.pairwise_flatMap.mpr ⟨fun s _ => ?_, ?_⟩
  · refine List.pairwise_map.mpr ((minutes_up _).imp fun {a b} h z => ?_)
    have := congrArg Prod.snd z
    simp only at this
    omega
  · refine (minutes_up n).imp fun {a b} h x hx y hy z => ?_
    obtain ⟨_, _, rfl⟩ := List.mem_map.mp hx
    obtain ⟨_, _, rfl⟩ := List.mem_map.mp hy
    have := congrArg Prod.fst z
    simp only at this
    omega
theorem picked_ok {n : Int} {ys zs xs : List (Int × Int)} (h : (ys ++ zs).Perm xs) (hn : xs.Nodup) (ho : ∀ p ∈ xs, 0 ≤ p.1 ∧ p.1 < p.2 ∧ p.2 ≤ n) : LooksOk n (sortP ys) ∧ (sortP ys).length = ys.length ∧ ∀ p ∈ sortP ys, p ∈ xs := by
  have nd : (ys ++ zs).Nodup := h.nodup_iff.mpr hn
  have ny : ys.Nodup := (List.nodup_append.mp nd).1
  have sub : ∀ p ∈ sortP ys, p ∈ xs := fun p hp => h.mem_iff.mp (List.mem_append.mpr (.inl ((sortP_perm ys).mem_iff.mp hp)))
  exact ⟨⟨plt_of (sortP_up ys) ((sortP_perm ys).nodup_iff.mpr ny), fun p hp => ho p (sub p hp)⟩, (sortP_perm ys).length_eq, sub⟩
section
variable {n : Nat} {A B : BkD} {p : Int × Int} {a b c d : Int}
structure Ali (n : Nat) (A B : BkD) : Prop where
  ag : A.a * B.b = B.a * A.b
  t1 : ∀ q ∈ B.ps, Til A.ps q.2 q.1
  t2 : ∀ q ∈ A.ps, Til B.ps q.2 q.1
theorem Ali.til (h : Ali n A B) (k x : Int) : Til A.ps k x ↔ Til B.ps k x := ⟨fun t => til_all t h.t2, fun t => til_all t h.t1⟩
theorem Ali.parting (h : Ali n A B) (hn : n ≤ 100) (hA : BkOk n A) (hB : BkOk n B) : (∀ S, fPure f_p_parting [A.d n, B.d n] S = .ok .non S) ∧ ∀ S, fPure f_p_alike [A.d n, B.d n] S = .ok (.bl true) S := by
  obtain ⟨r, hr, e1, e2⟩ := partingP hn hA hB h.ag
  cases hr with
  | no _ _ => exact ⟨e1, e2⟩
  | mine q hq z => exact absurd (h.t1 q hq) z
  | its _ q hq z => exact absurd (h.t2 q hq) z
end
theorem l_calls {rows : List (Int × Int)} {s e : Nat} {S : Store} (hl : rows.length ≤ 1000) : f_l_calls [logD rows, .tup [.int s, .int e]] S = .ok (.tup [.int (sg rows s e), .int (sf rows s e)]) S := by
  have h0 : ∀ (cut : List (Int × Int)) (ρ : Q.Env) (S : Store), 3 < ρ.length → lcL (mgN 3) mYes (mOp opIx (mVar 3) (mC (.int 0))) ρ (cut.map rowD) S = .ok (cut.map fun r => .int r.1) S := fun cut ρ S hρ => lcL_mapx _ S fun r hr => ⟨ρ.set 3 (some (rowD r)), rfl, by
    have e3 : (ρ.set 3 (some (rowD r)))[3]? = some (some (rowD r)) := List.getElem?_set_self hρ
    generalize ρ.set 3 (some (rowD r)) = ρ1 at *
    simp [e3, rowD]⟩
  have h1 : ∀ (cut : List (Int × Int)) (ρ : Q.Env) (S : Store), 3 < ρ.length → lcL (mgN 3) mYes (mOp opIx (mVar 3) (mC (.int 1))) ρ (cut.map rowD) S = .ok (cut.map fun r => .int r.2) S := fun cut ρ S hρ => lcL_mapx _ S fun r hr => ⟨ρ.set 3 (some (rowD r)), rfl, by
    have e3 : (ρ.set 3 (some (rowD r)))[3]? = some (some (rowD r)) := List.getElem?_set_self hρ
    generalize ρ.set 3 (some (rowD r)) = ρ1 at *
    simp [e3, rowD]⟩
  have hc := cut_map (f := rowD) rows s e
  have hl2 := seg_len rows s e
  unfold seg at hl2
  have hl3 : ((rows.drop s).take (e - s)).length ≤ 100000 := by omega
  have sm : ∀ (g : Int × Int → Int) (S : Store), fSum [.lst (((rows.drop s).take (e - s)).map fun r => D.int (g r))] S = .ok (.int (((rows.drop s).take (e - s)).map g).sum) S := fun g S => sum_lst (ints_map g _)
  unfold sg sf seg logD
  generalize (rows.drop s).take (e - s) = cut at *
  have s5 := fun S => sm (fun r => r.1) S
  have s6 := fun S => sm (fun r => r.2) S
  have hz : (cut.map rowD).length ≤ 100000 := by simpa using hl3
  simp [f_l_calls, fnM, m_l_calls, hc, hl3, h0, h1, s5, s6]
  try rfl
section
variable {a b g f : Int} {S : Store}
theorem above_l (m1 : mulOk b f = true) (m2 : mulOk a (g + f) = true) : f_l_above [.tup [.int a, .int b], .tup [.int g, .int f]] S = .ok (.bl (decide (a * (g + f) < b * f))) S := by
  simp [f_l_above, fnM, m_l_above, m1, m2]
end
theorem bools_falseL : ∀ t, boolsD (List.replicate t (D.bl false)) = some (List.replicate t false)
  | 0 => rfl
  | t + 1 => by rw [List.replicate_succ, boolsD, bools_falseL t]; rfl
theorem any_falseL {L : List (Int × Int)} {S : Store} : fAny [.lst (L.map fun _ => D.bl false)] S = .ok (.bl false) S := by
  rw [List.map_const', any_lst (bools_falseL _)]
  congr 2
  simp [List.any_replicate]
structure GoodL (n : Nat) (a b : Int) (ps : List (Int × Int)) (s e wf wc : Int) (R : List (Int × Int)) : Prop where
  len : R.length = n
  rows : RowsOk (10 ^ 100) R
  quiet : Quiet a b R ps
  pos : 0 < sg R s.toNat e.toNat + sf R s.toNat e.toNat
  eq : sf R s.toNat e.toNat * wc = wf * (sg R s.toNat e.toNat + sf R s.toNat e.toNat)
theorem sums60 {R : List (Int × Int)} (hr : RowsOk (10 ^ 100) R) (hl : R.length ≤ 900) (s e : Nat) : (0 ≤ sg R s e ∧ sg R s e < 10 ^ 104) ∧ 0 ≤ sf R s e ∧ sf R s e < 10 ^ 104 := by
  have x1 := sf_bound hr (by decide) s e
  have x2 := sg_bound hr (by decide) s e
  have q : (10 : Int) ^ 100 * (R.length : Int) ≤ 10 ^ 100 * 900 := Int.mul_le_mul_of_nonneg_left (by omega) (by decide)
  have q2 : (10 : Int) ^ 100 * 900 < 10 ^ 104 := by decide
  exact ⟨⟨x2.1, Int.lt_of_le_of_lt x2.2 (Int.lt_of_le_of_lt q q2)⟩, x1.1, Int.lt_of_le_of_lt x1.2 (Int.lt_of_le_of_lt q q2)⟩
theorem big64 {x : Int} (h : x < 10 ^ 105) : x < big := Int.lt_trans h (by unfold big; decide)
section
variable {n : Nat} {A : BkD} {R : List (Int × Int)}
theorem lquietP (hA : BkOk n A) (hn : n ≤ 100) (hl : R.length = n) (hr : RowsOk (10 ^ 100) R) (hq : Quiet A.a A.b R A.ps) (S : Store) : fPure f_l_is_quiet [A.d n, logD R] S = .ok (.bl true) S := by
  have p1 := hA.book.pure
  refine fPure_ap S (by simp [p1]) ?_
  have i1 : ∀ S, opIx (A.d n) (.int 1) S = .ok (.tup [.int A.a, .int A.b]) S := fun S => rfl
  have i2 : ∀ S, opIx (A.d n) (.int 2) S = .ok (.tup (A.ps.map pairD)) S := fun S => rfl
  have lc : lcL (mgN 2) mYes (mCall (fPure f_l_above) (mCons (mOp opIx (mVar 0) (mC (.int 1))) (mCons (mCall (fPure f_l_calls) (mCons (mVar 1) (mCons (mVar 2) mNil))) mNil))) [some (A.d n), some (logD R), none] (A.ps.map pairD) [] = .ok (A.ps.map fun _ => .bl false) [] :=
    lcL_mapx (u := pairD) (w := fun _ => D.bl false) _ [] fun p hp => ⟨[some (A.d n), some (logD R), some (pairD p)], rfl, by
      have st := hA.st p hp
      have ca := fPure_ap (S := []) (show pureL [logD R, .tup [.int (p.1.toNat : Nat), .int (p.2.toNat : Nat)]] = true by simp) (l_calls (S := []) (rows := R) (s := p.1.toNat) (e := p.2.toNat) (by omega))
      rw [show ((p.1.toNat : Nat) : Int) = p.1 by omega, show ((p.2.toNat : Nat) : Int) = p.2 by omega] at ca
      have sm := sums60 hr (by omega) p.1.toNat p.2.toNat
      have q := hq p hp
      have ha := hA.ha; have hab := hA.hab; have hb := hA.hb
      have ab := fPure_ap (S := []) (show pureL [.tup [.int A.a, .int A.b], .tup [.int (sg R p.1.toNat p.2.toNat), .int (sf R p.1.toNat p.2.toNat)]] = true from rfl) (above_l (S := []) (mulOk_big (by omega) (big64 (by omega)) sm.2.1 (big64 (by omega))) (mulOk_big (by omega) (big64 (by omega)) (by omega) (big64 (by omega))))
      rw [decide_eq_false (by rw [Int.sub_mul] at q; rw [Int.mul_add]; omega)] at ab
      have i1' := i1 []
      have ep : pairD p = .tup [.int p.1, .int p.2] := rfl
      rw [ep]
      generalize sg R p.1.toNat p.2.toNat = G at *
      generalize sf R p.1.toNat p.2.toNat = F at *
      generalize logD R = L at *
      generalize A.d n = a at *
      simp [i1', ca, ab]⟩
  have hz : (A.ps.map pairD).length ≤ 100000 := by have := hA.hl; rw [List.length_map]; omega
  have an := any_falseL (L := A.ps) (S := [])
  unfold f_l_is_quiet m_l_is_quiet
  rw [fnM_2]
  generalize A.ps.map (fun _ => D.bl false) = Z at *
  generalize A.ps.map pairD = P at *
  generalize logD R = L at *
  generalize A.d n = a at *
  simp [i2, hz, lc, an, fin_nil]
end
section
variable {n : Nat} {A B : BkD} {p q : Int × Int}
structure Hill (n : Nat) (A B : BkD) (rows : List (Int × Int)) : Prop where
  len : rows.length = n
  ro : RowsOk (10 ^ 100) rows
  calm : Calm A rows
  loud : ¬ Calm B rows
end
section
variable {S : Store}
theorem inD_pairs {xs : List (Int × Int)} {p : Int × Int} : inD (xs.map pairD) (pairD p) = decide (p ∈ xs) := by
  induction xs with
  | nil => simp [inD]
  | cons x xs ih =>
    have e : inD ((x :: xs).map pairD) (pairD p) = (deq (pairD x) (pairD p) || inD (xs.map pairD) (pairD p)) := by simp [inD]
    rw [e, ih]
    have e2 : deq (pairD x) (pairD p) = decide (p = x) := by
      have : deq (pairD x) (pairD p) = ((x.1 == p.1) && ((x.2 == p.2) && true)) := rfl
      rw [this]
      by_cases h : p = x
      · subst h; simp
      · have h2 : ¬ (x.1 = p.1 ∧ x.2 = p.2) := fun z => h (Prod.ext z.1.symm z.2.symm)
        rw [decide_eq_false h]
        by_cases h3 : x.1 = p.1
        · have h4 : ¬ x.2 = p.2 := fun z => h2 ⟨h3, z⟩
          simp [h3, h4]
        · simp [h3]
    rw [e2]
    simp
theorem shal_pairs (xs : List (Int × Int)) : shal 20 (.lst (xs.map pairD)) = true := by
  rw [shal_lst]
  exact shal_map (fun _ => rfl) xs
theorem nin_pairs {xs : List (Int × Int)} {p : Int × Int} : opNin (pairD p) (.lst (xs.map pairD)) S = .ok (.bl (!decide (p ∈ xs))) S := by
  rw [nin_lst (a := pairD p) rfl (shal_pairs xs), inD_pairs]
end
section
variable {n : Nat} {a b : Int} {ps qs : List (Int × Int)}
def withB (a b : Int) (ps qs : List (Int × Int)) : BkD := ⟨a, b, sortU (ps ++ qs)⟩
def lessB (a b : Int) (ps qs : List (Int × Int)) : BkD := ⟨a, b, ps.filter fun p => decide (p ∉ qs)⟩
theorem with_bk (ha : 0 < a) (hab : a < b) (hb : b < 2 ^ 200) (hp : ∀ p ∈ ps, InS n p) (hq : ∀ p ∈ qs, InS n p) (hl : ps.length + qs.length < 40) : BkOk n (withB a b ps qs) :=
  ⟨ha, hab, hb, ⟨sortU_up _, fun p hm => by
    rcases List.mem_append.mp (mem_sortU.mp hm) with hm | hm
    · exact hp p hm
    · exact hq p hm⟩, Nat.lt_of_le_of_lt (sortU_len _) (by rw [List.length_append]; exact hl)⟩
theorem less_bk (h : BkOk n ⟨a, b, ps⟩) : BkOk n (lessB a b ps qs) :=
  ⟨h.ha, h.hab, h.hb, ⟨h.hp.up.filter _, fun p hm => h.hp.ok p (List.mem_filter.mp hm).1⟩, Nat.lt_of_le_of_lt (List.length_filter_le _ _) h.hl⟩
theorem withP (hn : n ≤ 100) (hp : ∀ p ∈ ps, InS n p) (hq : ∀ p ∈ qs, InS n p) (hl : ps.length + qs.length < 40) (S : Store) :
    fPure f_l_with [bookD n a b ps, .lst (qs.map pairD)] S = .ok ((withB a b ps qs).d n) S := by
  have p1 : pureD (bookD n a b ps) = true := pure_bkW _ _ _ _
  have p2 : pureD (.lst (qs.map pairD)) = true := pure_pairs qs
  refine fPure_ap S (by simp only [pureL_cons, p1, p2, pureL_nil]; rfl) ?_
  have i0 : ∀ S, opIx (bookD n a b ps) (.int 0) S = .ok (.int n) S := fun S => rfl
  have i1 : ∀ S, opIx (bookD n a b ps) (.int 1) S = .ok (.tup [.int a, .int b]) S := fun S => rfl
  have i2 : ∀ S, opIx (bookD n a b ps) (.int 2) S = .ok (.tup (ps.map pairD)) S := fun S => rfl
  have z1 : (ps.map pairD).length ≤ 1000 := by rw [List.length_map]; omega
  have z2 : (qs.map pairD).length ≤ 1000 := by rw [List.length_map]; omega
  have z3 : ((sortU (ps ++ qs)).map pairD).length ≤ 100000 := by have := sortU_len (ps ++ qs); rw [List.length_append] at this; rw [List.length_map]; omega
  have z4 : (ps.map pairD).length + (qs.map pairD).length ≤ 100000 := by omega
  have z5 : (ps.map pairD).length ≤ 100000 := by omega
  have z6 : (qs.map pairD).length ≤ 100000 := by omega
  have ss := fun S => ssK_pairs (S := S) (ps := ps ++ qs) (fun p hm => by
    have : InS n p := by
      rcases List.mem_append.mp hm with hm | hm
      · exact hp p hm
      · exact hq p hm
    obtain ⟨x, y, z⟩ := this
    unfold lim
    omega) (by rw [List.length_append]; omega)
  rw [List.map_append] at ss
  have e : D.tup [.int n, .tup [.int a, .int b], .tup ((sortU (ps ++ qs)).map pairD)] = (withB a b ps qs).d n := rfl
  have pe : pureD ((withB a b ps qs).d n) = true := pure_bkW _ _ _ _
  rw [← e] at pe ⊢
  generalize (sortU (ps ++ qs)).map pairD = Z at *
  generalize ps.map pairD = X at *
  generalize qs.map pairD = Y at *
  generalize bookD n a b ps = B at *
  unfold f_l_with m_l_with
  rw [fnM_2]
  simp -implicitDefEqProofs [i0, i1, i2, z1, z2, z3, z4, z5, z6, ss, fin_nil pe]
theorem lessP (hl : ps.length ≤ 100) (S : Store) : fPure f_l_without [bookD n a b ps, .lst (qs.map pairD)] S = .ok ((lessB a b ps qs).d n) S := by
  have p1 : pureD (bookD n a b ps) = true := pure_bkW _ _ _ _
  have p2 : pureD (.lst (qs.map pairD)) = true := pure_pairs qs
  refine fPure_ap S (by simp only [pureL_cons, p1, p2, pureL_nil]; rfl) ?_
  have i0 : ∀ S, opIx (bookD n a b ps) (.int 0) S = .ok (.int n) S := fun S => rfl
  have i1 : ∀ S, opIx (bookD n a b ps) (.int 1) S = .ok (.tup [.int a, .int b]) S := fun S => rfl
  have i2 : ∀ S, opIx (bookD n a b ps) (.int 2) S = .ok (.tup (ps.map pairD)) S := fun S => rfl
  have z1 : (ps.map pairD).length ≤ 100000 := by rw [List.length_map]; omega
  have z3 : ((ps.filter fun p => decide (p ∉ qs)).map pairD).length ≤ 100000 := by have := List.length_filter_le (fun p => decide (p ∉ qs)) ps; rw [List.length_map]; omega
  have lc : ∀ v0 S, lcL (mgN 2) (mTB (mOp opNin (mVar 2) (mVar 1))) (mVar 2) [v0, some (.lst (qs.map pairD)), none] (ps.map pairD) S = .ok ((ps.filter fun p => decide (p ∉ qs)).map pairD) S := fun v0 S =>
    lcL_filterb (u := pairD) ps S fun p hp => ⟨[v0, some (.lst (qs.map pairD)), some (pairD p)], rfl, by
      have ni := nin_pairs (xs := qs) (p := p) (S := S)
      have e : (!decide (p ∈ qs)) = decide (p ∉ qs) := by simp
      rw [e] at ni
      generalize decide (p ∉ qs) = t at *
      generalize D.lst (qs.map pairD) = Q at *
      generalize pairD p = P at *
      simp [ni], rfl⟩
  have e : D.tup [.int n, .tup [.int a, .int b], .tup ((ps.filter fun p => decide (p ∉ qs)).map pairD)] = (lessB a b ps qs).d n := rfl
  have pe : pureD ((lessB a b ps qs).d n) = true := pure_bkW _ _ _ _
  rw [← e] at pe ⊢
  generalize (ps.filter fun p => decide (p ∉ qs)).map pairD = Z at *
  generalize ps.map pairD = X at *
  generalize D.lst (qs.map pairD) = Y at *
  generalize bookD n a b ps = B at *
  unfold f_l_without m_l_without
  rw [fnM_2]
  simp -implicitDefEqProofs [i0, i1, i2, z1, z3, lc, fin_nil pe]
end
def IsNum (d : D) : Prop := ∃ v : Int, d = .int v ∧ 0 ≤ v ∧ v < 10 ^ 30
theorem number_s {S0 S : Store} {k N : Nat} (h : BoxS S0 k N S) (hN : N + 2 < 2 ^ 40) : (f_l_number [.ref k] S).Sat fun d S' => IsNum d ∧ BoxS S0 k (N + 2) S' := by
  unfold f_l_number m_l_number
  rw [fnM_1]
  simp
  refine sat_step (take_s (n := 6) h (by omega) (by decide) (by decide)) ?_
  rintro _ S1 ⟨r1, rfl, a1, b1, h1⟩
  have p1 : powOk 10 30 = true := by decide
  by_cases e0 : r1 < 2
  · simp [e0, fin_len (h1.len.trans h.len.symm)]
    exact ⟨⟨0, rfl, by decide⟩, h1.mono (by omega)⟩
  · by_cases e1 : r1 < 4
    · simp [e0, e1]
      refine sat_step (take_s (n := 12) h1 (by omega) (by decide) (by decide)) ?_
      rintro _ S2 ⟨r2, rfl, a2, b2, h2⟩
      simp [fin_len (h2.len.trans h.len.symm)]
      exact ⟨⟨_, rfl, by omega, by omega⟩, h2⟩
    · by_cases e2 : r1 = 4
      · simp [e0, e1, e2]
        refine sat_step (take_s (n := 1000) h1 (by omega) (by decide) (by decide)) ?_
        rintro _ S2 ⟨r2, rfl, a2, b2, h2⟩
        simp [fin_len (h2.len.trans h.len.symm)]
        exact ⟨⟨_, rfl, by omega, by omega⟩, h2⟩
      · simp [e0, e1, e2, p1]
        refine sat_step (take_s (n := 1000000000000000000000000000000) h1 (by omega) (by decide) (by decide)) ?_
        rintro _ S2 ⟨r2, rfl, a2, b2, h2⟩
        simp [fin_len (h2.len.trans h.len.symm)]
        exact ⟨⟨_, rfl, by omega, by omega⟩, h2⟩
def addR (rows more : List (Int × Int)) : List (Int × Int) := (rows.zip more).map fun p => (p.1.1 + p.2.1, p.1.2 + p.2.2)
def timesR (t : Int) (rows : List (Int × Int)) : List (Int × Int) := rows.map fun r => (t * r.1, t * r.2)
theorem rowsOk_add {B : Int} {rows more : List (Int × Int)} (h : RowsOk B rows) (h' : RowsOk B more) : RowsOk (2 * B) (addR rows more) := fun r hr => by
  obtain ⟨p, hp, rfl⟩ := List.mem_map.mp hr
  have m := List.of_mem_zip (show (p.1, p.2) ∈ rows.zip more from hp)
  have a := h _ m.1
  have b := h' _ m.2
  exact ⟨⟨by simp only; omega, by simp only; omega⟩, by simp only; omega, by simp only; omega⟩
theorem rowsOk_times {B t T : Int} {rows : List (Int × Int)} (h : RowsOk B rows) (h0 : 0 ≤ t) (ht : t ≤ T) (hB : 0 ≤ B) : RowsOk (T * B) (timesR t rows) := fun r hr => by
  obtain ⟨p, hp, rfl⟩ := List.mem_map.mp hr
  have a := h _ hp
  exact ⟨⟨Int.mul_nonneg h0 a.1.1, Int.mul_le_mul ht a.1.2 a.1.1 (by omega)⟩, Int.mul_nonneg h0 a.2.1, Int.mul_le_mul ht a.2.2 a.2.1 (by omega)⟩
section
variable {a b : Int} {rows more : List (Int × Int)} {S : Store}
theorem added_ok (hl : rows.length < 1000) : f_l_added [logD rows, logD more] S = .ok (logD (addR rows more)) S := by
  have lc : ∀ ρ : Q.Env, 3 < ρ.length → lcL (mgTup 2 (mgCons (mgN 2) (mgCons (mgN 3) mgNil))) mYes (mTup (mCons (mOp opAdd (mOp opIx (mVar 2) (mC (.int 0))) (mOp opIx (mVar 3) (mC (.int 0)))) (mCons (mOp opAdd (mOp opIx (mVar 2) (mC (.int 1))) (mOp opIx (mVar 3) (mC (.int 1)))) mNil))) ρ (zipD (rows.map rowD) (more.map rowD)) S = .ok ((addR rows more).map rowD) S := fun ρ hρ => by
    rw [zipD_map]
    unfold addR
    rw [List.map_map]
    refine lcL_mapx _ S fun p hp => ⟨(ρ.set 2 (some (rowD p.1))).set 3 (some (rowD p.2)), by simp, ?_⟩
    have e2 : ((ρ.set 2 (some (rowD p.1))).set 3 (some (rowD p.2)))[2]? = some (some (rowD p.1)) := by
      rw [List.getElem?_set_ne (by decide), List.getElem?_set_self (by omega)]
    have e3 : ((ρ.set 2 (some (rowD p.1))).set 3 (some (rowD p.2)))[3]? = some (some (rowD p.2)) := List.getElem?_set_self (by simp; omega)
    generalize (ρ.set 2 (some (rowD p.1))).set 3 (some (rowD p.2)) = ρ1 at *
    simp [e2, e3, rowD]
  have hz : (zipD (rows.map rowD) (more.map rowD)).length ≤ 100000 := by
    rw [zipD_map, List.length_map, List.length_zip]; omega
  have hz2 : ((addR rows more).map rowD).length ≤ 100000 := by unfold addR; simp; omega
  unfold logD
  generalize rows.map rowD = R at *
  generalize more.map rowD = M at *
  generalize (addR rows more).map rowD = Z at *
  simp [f_l_added, fnM, m_l_added, hz, lc]
theorem addedP (hl : rows.length < 1000) : fPure f_l_added [logD rows, logD more] S = .ok (logD (addR rows more)) S := fPure_ap S (by simp) (added_ok hl)
theorem times_ok {t : Int} (h0 : 0 ≤ t) (ht : t < 10 ^ 30) (hr : RowsOk (10 ^ 65) rows) (hl : rows.length < 1000) : f_l_times [.int t, logD rows] S = .ok (logD (timesR t rows)) S := by
  have lc : ∀ ρ : Q.Env, 2 < ρ.length → ρ[0]? = some (some (.int t)) → lcL (mgN 2) mYes (mTup (mCons (mOp opMul (mVar 0) (mOp opIx (mVar 2) (mC (.int 0)))) (mCons (mOp opMul (mVar 0) (mOp opIx (mVar 2) (mC (.int 1)))) mNil))) ρ (rows.map rowD) S = .ok ((timesR t rows).map rowD) S := fun ρ hρ h => by
    unfold timesR
    rw [List.map_map]
    refine lcL_mapx _ S fun r hm => ⟨ρ.set 2 (some (rowD r)), rfl, ?_⟩
    have e0 : (ρ.set 2 (some (rowD r)))[0]? = some (some (.int t)) := by rw [List.getElem?_set_ne (by decide)]; exact h
    have e2 : (ρ.set 2 (some (rowD r)))[2]? = some (some (rowD r)) := List.getElem?_set_self (by omega)
    have q := hr r hm
    have m1 : mulOk t r.1 = true := mulOk_big h0 (bigN (Int.le_trans (Int.le_of_lt ht) (by decide))) q.1.1 (bigN (Int.le_trans q.1.2 (by decide)))
    have m2 : mulOk t r.2 = true := mulOk_big h0 (bigN (Int.le_trans (Int.le_of_lt ht) (by decide))) q.2.1 (bigN (Int.le_trans q.2.2 (by decide)))
    generalize ρ.set 2 (some (rowD r)) = ρ1 at *
    simp [e0, e2, rowD, m1, m2]
  have hz : (rows.map rowD).length ≤ 100000 := by simp; omega
  unfold logD
  generalize rows.map rowD = R at *
  generalize (timesR t rows).map rowD = Z at *
  simp [f_l_times, fnM, m_l_times, hz, lc]
theorem timesP {t : Int} (h0 : 0 ≤ t) (ht : t < 10 ^ 30) (hr : RowsOk (10 ^ 65) rows) (hl : rows.length < 1000) : fPure f_l_times [.int t, logD rows] S = .ok (logD (timesR t rows)) S := fPure_ap S (by simp) (times_ok h0 ht hr hl)
end
section
variable {P : List Int} {n : Nat} {S : Store}
theorem l_rises (hn : n ≤ 1000) : f_l_rises [placesD P, .tup [.int 0, .int n]] S = .ok (.lst (((minutes n).filter (isRise P)).map .int)) S := by
  have rg : r2K2 (.int 0) (.int (n : Nat)) S = .ok (rangeD 0 n) S := by
    have := @range2_nat 0 n S (by omega) (by omega)
    simpa using this
  have lc : ∀ ρ : Q.Env, 2 < ρ.length → ρ[0]? = some (some (placesD P)) → lcL (mgN 2) (mAndT (mTB (mOp opIn (mOp opAdd (mVar 2) (mC (.int 1))) (mVar 0))) (mTB (mOp opNin (mVar 2) (mVar 0)))) (mVar 2) ρ (rangeD 0 n) S = .ok (((minutes n).filter (isRise P)).map .int) S := fun ρ hρ h => by
    rw [rangeD_minutes]
    refine lcL_filterx _ S fun x hx => ⟨ρ.set 2 (some (.int x)), rfl, ?_⟩
    have e0 : (ρ.set 2 (some (.int x)))[0]? = some (some (placesD P)) := by rw [List.getElem?_set_ne (by decide)]; exact h
    have e2 : (ρ.set 2 (some (.int x)))[2]? = some (some (.int x)) := List.getElem?_set_self hρ
    generalize ρ.set 2 (some (.int x)) = ρ1 at *
    generalize hp : placesD P = pd at *
    have i1 := fun m S => hp ▸ @in_places P m S
    have i2 := fun m S => hp ▸ @nin_places P m S
    constructor
    · by_cases c1 : x + 1 ∈ P <;> simp [c1, e0, e2, i1, i2, isRise]
    · simp [e2]
  have hl : (rangeD 0 n).length ≤ 100000 := by rw [rangeD_len]; omega
  generalize placesD P = pd at *
  generalize ((minutes n).filter (isRise P)).map D.int = R at *
  simp [f_l_rises, fnM, m_l_rises, rg, hl, lc]
theorem l_falls (hn : n ≤ 1000) : f_l_falls [placesD P, .tup [.int 0, .int n]] S = .ok (.lst (((minutes n).filter (isFall P)).map .int)) S := by
  have rg : r2K2 (.int 0) (.int (n : Nat)) S = .ok (rangeD 0 n) S := by
    have := @range2_nat 0 n S (by omega) (by omega)
    simpa using this
  have lc : ∀ ρ : Q.Env, 2 < ρ.length → ρ[0]? = some (some (placesD P)) → lcL (mgN 2) (mAndT (mTB (mOp opIn (mVar 2) (mVar 0))) (mTB (mOp opNin (mOp opAdd (mVar 2) (mC (.int 1))) (mVar 0)))) (mVar 2) ρ (rangeD 0 n) S = .ok (((minutes n).filter (isFall P)).map .int) S := fun ρ hρ h => by
    rw [rangeD_minutes]
    refine lcL_filterx _ S fun x hx => ⟨ρ.set 2 (some (.int x)), rfl, ?_⟩
    have e0 : (ρ.set 2 (some (.int x)))[0]? = some (some (placesD P)) := by rw [List.getElem?_set_ne (by decide)]; exact h
    have e2 : (ρ.set 2 (some (.int x)))[2]? = some (some (.int x)) := List.getElem?_set_self hρ
    generalize ρ.set 2 (some (.int x)) = ρ1 at *
    generalize hp : placesD P = pd at *
    have i1 := fun m S => hp ▸ @in_places P m S
    have i2 := fun m S => hp ▸ @nin_places P m S
    constructor
    · by_cases c1 : x ∈ P <;> simp [c1, e0, e2, i1, i2, isFall]
    · simp [e2]
  have hl : (rangeD 0 n).length ≤ 100000 := by rw [rangeD_len]; omega
  generalize placesD P = pd at *
  generalize ((minutes n).filter (isFall P)).map D.int = R at *
  simp [f_l_falls, fnM, m_l_falls, rg, hl, lc]
end
theorem hills_ok {a b : Int} {n : Nat} {P : List Int} {S : Store} (hn : n ≤ 1000) : f_l_hills_log [.tup [.int a, .int b], .int n, placesD P] S = .ok (logD (hillsR a b n P)) S := by
  have hp : pureL [placesD P, .tup [.int 0, .int (n : Nat)]] = true := by simp [placesD, pure_ints]
  have r1 := fun S => fPure_ap S hp (l_rises (P := P) (n := n) (S := []) hn)
  have r2 := fun S => fPure_ap S hp (l_falls (P := P) (n := n) (S := []) hn)
  have lc : ∀ ρ : Q.Env, 6 < ρ.length → ρ[0]? = some (some (.tup [.int a, .int b])) → ρ[3]? = some (some (.lst (((minutes n).filter (isRise P)).map .int))) → ρ[4]? = some (some (.lst (((minutes n).filter (isFall P)).map .int))) → ρ[5]? = some (some (.int (b - a))) →
      lcL (mgN 6) mYes (mTup (mCons (mOp opMul (mCall fInt (mCons (mOp opIn (mVar 6) (mVar 4)) mNil)) (mVar 5)) (mCons (mOp opMul (mCall fInt (mCons (mOp opIn (mVar 6) (mVar 3)) mNil)) (mOp opIx (mVar 0) (mC (.int 0)))) mNil))) ρ (rangeD 0 n) S = .ok ((hillsR a b n P).map rowD) S := fun ρ hρ h0 h3 h4 h5 => by
    rw [rangeD_minutes]
    unfold hillsR
    rw [List.map_map]
    refine lcL_mapx _ S fun x hx => ⟨ρ.set 6 (some (.int x)), rfl, ?_⟩
    have e0 : (ρ.set 6 (some (.int x)))[0]? = some (some (.tup [.int a, .int b])) := by rw [List.getElem?_set_ne (by decide)]; exact h0
    have e3 : (ρ.set 6 (some (.int x)))[3]? = some (some (.lst (((minutes n).filter (isRise P)).map .int))) := by rw [List.getElem?_set_ne (by decide)]; exact h3
    have e4 : (ρ.set 6 (some (.int x)))[4]? = some (some (.lst (((minutes n).filter (isFall P)).map .int))) := by rw [List.getElem?_set_ne (by decide)]; exact h4
    have e5 : (ρ.set 6 (some (.int x)))[5]? = some (some (.int (b - a))) := by rw [List.getElem?_set_ne (by decide)]; exact h5
    have e6 : (ρ.set 6 (some (.int x)))[6]? = some (some (.int x)) := List.getElem?_set_self hρ
    have i1 := fun S => @in_ints ((minutes n).filter (isRise P)) x S
    have i2 := fun S => @in_ints ((minutes n).filter (isFall P)) x S
    rw [mem_filt hx] at i1 i2
    generalize ρ.set 6 (some (.int x)) = ρ1 at *
    generalize ((minutes n).filter (isRise P)).map D.int = U at *
    generalize ((minutes n).filter (isFall P)).map D.int = V at *
    have m : ∀ (q : Bool) (y : Int), mulOk (if q = true then 1 else 0) y = true := fun q y => mulOk_l (by cases q <;> decide)
    simp [e0, e3, e4, e5, e6, i1, i2, m, rowD]
    cases isFall P x <;> cases isRise P x <;> simp
  have hl : (rangeD 0 n).length ≤ 100000 := by rw [rangeD_len]; omega
  have hz : ((hillsR a b n P).map rowD).length ≤ 100000 := by rw [List.length_map, hills_len]; omega
  unfold logD
  generalize placesD P = pd at *
  generalize (hillsR a b n P).map rowD = R at *
  generalize ((minutes n).filter (isRise P)).map D.int = U at *
  generalize ((minutes n).filter (isFall P)).map D.int = V at *
  simp [f_l_hills_log, fnM, m_l_hills_log, r1, r2, r1K_nat n (by omega), hl, hz, lc]
theorem hillsP {a b : Int} {n : Nat} {P : List Int} {S : Store} (hn : n ≤ 1000) : fPure f_l_hills_log [.tup [.int a, .int b], .int n, placesD P] S = .ok (logD (hillsR a b n P)) S := fPure_ap S (by simp [placesD, pure_ints]) (hills_ok hn)
theorem seg_addR (rows more : List (Int × Int)) (s e : Nat) : seg (addR rows more) s e = addR (seg rows s e) (seg more s e) := by
  unfold seg addR
  rw [← List.map_drop, ← List.map_take]
  congr 1
  simp only [List.zip, List.drop_zipWith, List.take_zipWith]
theorem sum_addR : ∀ rows more : List (Int × Int), rows.length = more.length → ((addR rows more).map Prod.fst).sum = (rows.map Prod.fst).sum + (more.map Prod.fst).sum ∧ ((addR rows more).map Prod.snd).sum = (rows.map Prod.snd).sum + (more.map Prod.snd).sum
  | [], [], _ => by simp [addR]
  | r :: rows, s :: more, h => by
    have ih := sum_addR rows more (by simpa using h)
    have e : addR (r :: rows) (s :: more) = (r.1 + s.1, r.2 + s.2) :: addR rows more := rfl
    rw [e]
    simp only [List.map_cons, List.sum_cons, ih.1, ih.2]
    omega
  | [], _ :: _, h => by simp at h
  | _ :: _, [], h => by simp at h
theorem sg_addR {rows more : List (Int × Int)} (h : rows.length = more.length) (s e : Nat) : sg (addR rows more) s e = sg rows s e + sg more s e ∧ sf (addR rows more) s e = sf rows s e + sf more s e := by
  unfold sg sf
  rw [seg_addR]
  exact sum_addR _ _ (by unfold seg; simp [h])
theorem sum_timesR (t : Int) : ∀ rows : List (Int × Int), ((timesR t rows).map Prod.fst).sum = t * (rows.map Prod.fst).sum ∧ ((timesR t rows).map Prod.snd).sum = t * (rows.map Prod.snd).sum
  | [] => by simp [timesR]
  | r :: rows => by
    have ih := sum_timesR t rows
    have e : timesR t (r :: rows) = (t * r.1, t * r.2) :: timesR t rows := rfl
    rw [e]
    constructor <;> simp [ih.1, ih.2, Int.mul_add]
theorem sg_timesR (t : Int) (rows : List (Int × Int)) (s e : Nat) : sg (timesR t rows) s e = t * sg rows s e ∧ sf (timesR t rows) s e = t * sf rows s e := by
  have h : seg (timesR t rows) s e = timesR t (seg rows s e) := by
    unfold seg timesR
    rw [← List.map_drop, ← List.map_take]
  unfold sg sf
  rw [h]
  exact sum_timesR t _
theorem addR_len (rows more : List (Int × Int)) (h : rows.length = more.length) : (addR rows more).length = rows.length := by simp [addR, h]
theorem timesR_len (t : Int) (rows : List (Int × Int)) : (timesR t rows).length = rows.length := by simp [timesR]
theorem Quiet.add {a b : Int} {rows more ps : List (Int × Int)} (h : Quiet a b rows ps) (h' : Quiet a b more ps) (hl : rows.length = more.length) : Quiet a b (addR rows more) ps := fun p hp => by
  have x := h p hp
  have y := h' p hp
  rw [(sg_addR hl _ _).1, (sg_addR hl _ _).2, Int.mul_add, Int.mul_add]
  omega
theorem Quiet.times {a b t : Int} {rows ps : List (Int × Int)} (h : Quiet a b rows ps) (ht : 0 ≤ t) : Quiet a b (timesR t rows) ps := fun p hp => by
  have x := Int.mul_le_mul_of_nonneg_left (h p hp) ht
  rw [(sg_timesR t rows _ _).1, (sg_timesR t rows _ _).2, Int.mul_left_comm, Int.mul_left_comm a]
  exact x
theorem in_ref0 {F : List Int} {m : Int} : opIn (.int m) (.ref 0) [.lst (F.map .int)] = .ok (.bl (decide (m ∈ F))) [.lst (F.map .int)] := in_ints (S := [.lst (F.map .int)])
theorem nin_ref0 {F : List Int} {m : Int} : opNin (.int m) (.ref 0) [.lst (F.map .int)] = .ok (.bl (!decide (m ∈ F))) [.lst (F.map .int)] := nin_ints (S := [.lst (F.map .int)])
def mCl : MS := (mIf (mAndT (mTB (mOp opIn (mVar 3) (mVar 2))) (mTB (mOp opNin (mVar 4) (mVar 2)))) (mDrop (mApp (mVar 2) (mVar 4))) mSkip)
theorem cl_loop {A B : Option D} {v5 : Option D} : ∀ (L : List (Int × Int)) (F : List Int) (v3 v4 : Option D), F.length + L.length < 1000 →
    ∃ w3 w4, forL (mgTup 2 (mgCons (mgN 3) (mgCons (mgN 4) mgNil))) mCl (L.map pairD) [A, B, some (.ref 0), v3, v4, v5] [.lst (F.map .int)] = .ok (.nx [A, B, some (.ref 0), w3, w4, v5]) [.lst ((closeL L F).map .int)]
  | [], F, v3, v4, _ => ⟨v3, v4, rfl⟩
  | (e, s) :: L, F, v3, v4, h => by
    rw [List.length_cons] at h
    have i1 := @in_ref0 F e
    have i2 := @nin_ref0 F s
    have ap : appTo 0 (.int s) [.lst (F.map .int)] = .ok .non [.lst ((F ++ [s]).map .int)] := by
      rw [appTo_ok (xs := F.map .int) _ rfl (by simp; omega)]
      simp
    by_cases h1 : e ∈ F
    · by_cases h2 : s ∈ F
      · obtain ⟨w3, w4, ih⟩ := cl_loop (A := A) (B := B) (v5 := v5) L F (some (.int e)) (some (.int s)) (by omega)
        refine ⟨w3, w4, ?_⟩
        rw [show closeL ((e, s) :: L) F = closeL L F by simp [closeL, h2], List.map_cons, forL_cons]
        generalize (closeL L F).map D.int = R at *
        generalize hF : F.map D.int = Fd at *
        generalize hM : mCl = M at ih ⊢
        have hb : M [A, B, some (.ref 0), some (.int e), some (.int s), v5] [.lst Fd] = .ok (.nx [A, B, some (.ref 0), some (.int e), some (.int s), v5]) [.lst Fd] := by
          rw [← hM]
          simp [mCl, i1, i2, h1, h2]
        simp [pairD, hb]
        exact ih
      · obtain ⟨w3, w4, ih⟩ := cl_loop (A := A) (B := B) (v5 := v5) L (F ++ [s]) (some (.int e)) (some (.int s)) (by simp; omega)
        refine ⟨w3, w4, ?_⟩
        rw [show closeL ((e, s) :: L) F = closeL L (F ++ [s]) by simp [closeL, h1, h2], List.map_cons, forL_cons]
        generalize (closeL L (F ++ [s])).map D.int = R at *
        generalize (F ++ [s]).map D.int = Fd2 at *
        generalize hF : F.map D.int = Fd at *
        generalize hM : mCl = M at ih ⊢
        have hb : M [A, B, some (.ref 0), some (.int e), some (.int s), v5] [.lst Fd] = .ok (.nx [A, B, some (.ref 0), some (.int e), some (.int s), v5]) [.lst Fd2] := by
          rw [← hM]
          simp [mCl, i1, i2, h1, h2, ap]
        simp [pairD, hb]
        exact ih
    · obtain ⟨w3, w4, ih⟩ := cl_loop (A := A) (B := B) (v5 := v5) L F (some (.int e)) (some (.int s)) (by omega)
      refine ⟨w3, w4, ?_⟩
      rw [show closeL ((e, s) :: L) F = closeL L F by simp [closeL, h1], List.map_cons, forL_cons]
      generalize (closeL L F).map D.int = R at *
      generalize hF : F.map D.int = Fd at *
      generalize hM : mCl = M at ih ⊢
      have hb : M [A, B, some (.ref 0), some (.int e), some (.int s), v5] [.lst Fd] = .ok (.nx [A, B, some (.ref 0), some (.int e), some (.int s), v5]) [.lst Fd] := by
        rw [← hM]
        simp [mCl, i1, h1]
      simp [pairD, hb]
      exact ih
theorem closed_ok {ps : List (Int × Int)} {P : List Int} (hb : ∀ p ∈ ps, (0 ≤ p.1 ∧ p.1 < lim) ∧ 0 ≤ p.2 ∧ p.2 < lim) (hl : P.length + ps.length < 64) : f_l_closed [looksD ps, .lst (P.map .int)] [] = .ok (placesD (closedP ps P)) [] := by
  have lc : ∀ (ρ : Q.Env) (S : Store), 5 < ρ.length → lcL (mgN 5) mYes (mTup (mCons (mOp opIx (mVar 5) (mC (.int 1))) (mCons (mOp opIx (mVar 5) (mC (.int 0))) mNil))) ρ (ps.map pairD) S = .ok ((ps.map fun p => (p.2, p.1)).map pairD) S := fun ρ S hρ => by
    rw [List.map_map]
    refine lcL_mapx _ S fun p hp => ⟨ρ.set 5 (some (pairD p)), rfl, ?_⟩
    have e5 : (ρ.set 5 (some (pairD p)))[5]? = some (some (pairD p)) := List.getElem?_set_self hρ
    generalize ρ.set 5 (some (pairD p)) = ρ1 at *
    simp [e5, pairD]
  have sr : ∀ S, srK (.lst ((ps.map fun p => (p.2, p.1)).map pairD)) S = .ok (.lst ((sortD (ps.map fun p => (p.2, p.1))).map pairD)) S := fun S => srK_pairs fun q hq => by
    obtain ⟨r, hr, rfl⟩ := List.mem_map.mp hq
    have := hb r hr
    exact ⟨this.2, this.1⟩
  have len : (sortD (ps.map fun p => (p.2, p.1))).length = ps.length := by rw [(sortD_perm _).length_eq, List.length_map]
  obtain ⟨w3, w4, lp⟩ := cl_loop (A := some (looksD ps)) (B := some (.lst (P.map .int))) (v5 := none) (sortD (ps.map fun p => (p.2, p.1))) P none none (by omega)
  have cl := closeL_len (sortD (ps.map fun p => (p.2, p.1))) P
  have ss := fun S => ssK_ints (S := S) (ns := closeL (sortD (ps.map fun p => (p.2, p.1))) P) (by omega)
  have l2 : (ps.map pairD).length ≤ 100000 := by simp; omega
  have pd : pureD (.tup ((closedP ps P).map .int)) = true := pure_ints _
  show _ = Res.ok (D.tup ((closedP ps P).map D.int)) []
  have hS : (sortN (closeL (sortD (ps.map fun p => (p.2, p.1))) P)).map D.int = (closedP ps P).map .int := rfl
  rw [hS] at ss
  unfold looksD at *
  generalize (closeL (sortD (ps.map fun p => (p.2, p.1))) P).map D.int = C at *
  generalize (closedP ps P).map D.int = Z at *
  generalize (sortD (ps.map fun p => (p.2, p.1))).map pairD = SD at *
  generalize (ps.map fun p => (p.2, p.1)).map pairD = SW at *
  generalize ps.map pairD = PS at *
  generalize P.map D.int = Pd at *
  show fnM 6 2 (mSeq _ (mSeq (mFor _ _ mCl) _)) _ _ = _
  generalize mCl = M at *
  simp [fnM, l2, lc, sr, lp, fz, ss, fin_nil pd]
theorem closedFP {ps : List (Int × Int)} {P : List Int} {S : Store} (hb : ∀ p ∈ ps, (0 ≤ p.1 ∧ p.1 < lim) ∧ 0 ≤ p.2 ∧ p.2 < lim) (hl : P.length + ps.length < 64) : fPure f_l_closed [looksD ps, .lst (P.map .int)] S = .ok (placesD (closedP ps P)) S := fPure_ap S (by
  have : pureL (ps.map pairD) = true := pureL_map (fun _ => rfl) ps
  simp [looksD, this, pure_ints]) (closed_ok hb hl)
theorem lcL_drawF {g : MG} {t : MT} {m : ME} {ρ : Q.Env} {S0 : Store} {k c T : Nat} : ∀ (ds : List D) (N : Nat) (S : Store), BoxS S0 k N S → N + c * ds.length ≤ T →
    (∀ d ∈ ds, ∀ M S, BoxS S0 k M S → M + c ≤ T → ∃ ρ1, g d ρ S = .ok ρ1 S ∧ (t ρ1 S).Sat (fun _ S' => BoxS S0 k (M + c) S') ∧ ∀ S', m ρ1 S' = .ok d S') →
    (lcL g t m ρ ds S).Sat fun vs S' => vs.Sublist ds ∧ BoxS S0 k (N + c * ds.length) S'
  | [], N, S, h, _, _ => ⟨List.Sublist.refl _, by simpa using h⟩
  | d :: ds, N, S, h, hT, turn => by
    rw [List.length_cons, Nat.mul_succ] at hT ⊢
    obtain ⟨ρ1, h1, h2, h3⟩ := turn d (by simp) N S h (by omega)
    have ih := fun S1 (hS1 : BoxS S0 k (N + c) S1) => lcL_drawF (g := g) (t := t) (m := m) (ρ := ρ) ds (N + c) S1 hS1 (by omega) fun e he => turn e (by simp [he])
    unfold lcL
    rw [h1]
    simp only [bind_ok]
    refine sat_step h2 fun b S1 hS1 => ?_
    cases b with
    | true =>
      simp only [h3, bind_ok]
      refine sat_step (ih S1 hS1) fun vs S2 ⟨hv, hS2⟩ => ?_
      exact ⟨hv.cons₂ d, hS2.mono (by omega)⟩
    | false =>
      refine (ih S1 hS1).mono fun vs S2 ⟨hv, hS2⟩ => ?_
      exact ⟨hv.cons d, hS2.mono (by omega)⟩
theorem sub_ints : ∀ {ns : List Int} {vs : List D}, vs.Sublist (ns.map .int) → ∃ P : List Int, vs = P.map .int ∧ P.Sublist ns
  | ns, vs, h => by
    obtain ⟨P, hP, e⟩ := List.sublist_map_iff.mp h
    exact ⟨P, e, hP⟩
theorem hills_rows {a b : Int} {n : Nat} {P : List Int} (ha : 0 < a) (hab : a < b) (hb : b < 2 ^ 200) : RowsOk (2 ^ 200) (hillsR a b n P) := fun r hr => by
  obtain ⟨m, _, rfl⟩ := List.mem_map.mp hr
  cases isFall P m <;> cases isRise P m <;> simp <;> omega
theorem RowsOk.mono {B C : Int} {rows : List (Int × Int)} (h : RowsOk B rows) (hl : B ≤ C) : RowsOk C rows := fun r hr => by
  have := h r hr
  omega
def mQ : MS := (mSeq (mAsg (mLc (mRange1 (mOp opAdd (mVar 2) (mC (.int 1)))) (mgN 10) (mTB (mOp opEq (mCall (fCall f_l_take) (mCons (mVar 0) (mCons (mC (.int 3)) mNil))) (mC (.int 0)))) (mVar 10) [10]) (mgN 7))
  (mSeq (mAsg (mCall (fPure f_l_hills_log) (mCons (mVar 3) (mCons (mVar 2) (mCons (mCall (fPure f_l_closed) (mCons (mVar 4) (mCons (mVar 7) mNil))) mNil)))) (mgN 8))
  (mAsg (mCall (fPure f_l_added) (mCons (mVar 5) (mCons (mCall (fPure f_l_times) (mCons (mCall (fCall f_l_number) (mCons (mVar 0) mNil)) (mCons (mVar 8) mNil))) mNil))) (mgN 5))))
theorem turn_q {S0 S : Store} {k N n : Nat} {a b B : Int} {rows ps : List (Int × Int)} {v1 v6 v7 v8 v10 v11 v12 : Option D} (h : BoxS S0 k N S) (hN : N + n + 10 < 2 ^ 40) (hn : 0 < n) (hn2 : n < 20) (ha : 0 < a) (hab : a < b) (hb : b < 2 ^ 200) (hps : LooksOk n ps) (hpl : ps.length < 40) (hl : rows.length = n) (hr : RowsOk B rows) (hB : 10 ^ 30 * 2 ^ 200 ≤ B) (hq : Quiet a b rows ps) :
    (mQ [some (.ref k), v1, some (.int n), some (.tup [.int a, .int b]), some (looksD ps), some (logD rows), v6, v7, v8, none, v10, v11, v12] S).Sat fun f S' => ∃ rows' w7 w8, f = .nx [some (.ref k), v1, some (.int n), some (.tup [.int a, .int b]), some (looksD ps), some (logD rows'), v6, w7, w8, none, v10, v11, v12] ∧ rows'.length = n ∧ RowsOk (2 * B) rows' ∧ Quiet a b rows' ps ∧ BoxS S0 k (N + n + 3) S' := by
  have e1 : (n : Int) + 1 = ((n + 1 : Nat) : Int) := by omega
  have lc := fun (ρ : Q.Env) (hρ : 10 < ρ.length) (h0 : ∀ d, (ρ.set 10 d)[0]? = some (some (.ref k))) => lcL_drawF (g := mgN 10) (t := mTB (mOp opEq (mCall (fCall f_l_take) (mCons (mVar 0) (mCons (mC (.int 3)) mNil))) (mC (.int 0)))) (m := mVar 10) (ρ := ρ) (S0 := S0) (k := k) (c := 1) (T := N + (n + 1)) (rangeD 0 (n + 1)) N S h (by rw [rangeD_len]; omega) (fun d hd M S1 h1 hM => by
    have e10 : (ρ.set 10 (some d))[10]? = some (some d) := List.getElem?_set_self hρ
    have e0 := h0 (some d)
    refine ⟨ρ.set 10 (some d), rfl, ?_, fun S' => by simp only [ap_var, e10, varK_some]⟩
    generalize ρ.set 10 (some d) = ρ1 at *
    simp [e0]
    refine sat_step (take_s (n := 3) h1 (by omega) (by decide) (by decide)) ?_
    rintro _ S2 ⟨r, rfl, _, _, h2⟩
    simp
    exact h2)
  have lc2 := fun ρ hρ h0 => lc ρ hρ h0
  rw [rangeD_len, rangeD_minutes] at lc2
  have hb' : ∀ p ∈ ps, (0 ≤ p.1 ∧ p.1 < lim) ∧ 0 ≤ p.2 ∧ p.2 < lim := fun p hp => by
    have := hps.ok p hp
    unfold lim
    omega
  unfold mQ
  have hl3 : (rangeD 0 (n + 1)).length ≤ 100000 := by rw [rangeD_len]; omega
  simp
  rw [e1, r1K_nat (n + 1) (by omega)]
  simp [hl3]
  rw [rangeD_minutes]
  refine sat_step (lc2 _ (by simp) (fun d => rfl)) ?_
  rintro vs S1 ⟨hv, h1⟩
  obtain ⟨P, rfl, hP⟩ := sub_ints hv
  have hPl : P.length ≤ n + 1 := by have := hP.length_le; simpa [minutes] using this
  have cl := fun S => closedFP (S := S) hb' (show P.length + ps.length < 64 by omega)
  have hi := fun S => hillsP (S := S) (a := a) (b := b) (n := n) (P := closedP ps P) (by omega)
  simp [cl, hi]
  refine sat_step (number_s h1 (by omega)) ?_
  rintro _ S2 ⟨⟨t, rfl, t0, t1⟩, h2⟩
  have hh := hills_rows (n := n) (P := closedP ps P) ha hab hb
  have hhl := hills_len a b n (closedP ps P)
  have tm := fun S => timesP (S := S) t0 t1 (hh.mono (by decide)) (show (hillsR a b n (closedP ps P)).length < 1000 by omega)
  have ad := fun S => addedP (S := S) (rows := rows) (more := timesR t (hillsR a b n (closedP ps P))) (by omega)
  have hq2 := (hills_quiet (n := n) (P := closedP ps P) ha hab hps.ok (closedP_closed fun p hp => (hps.ok p hp).2.1)).times t0
  have el : rows.length = (timesR t (hillsR a b n (closedP ps P))).length := by rw [timesR_len, hhl, hl]
  simp [tm, ad]
  exact ⟨addR rows (timesR t (hillsR a b n (closedP ps P))), rfl, by rw [addR_len _ _ el, hl], rowsOk_add hr ((rowsOk_times hh t0 (Int.le_of_lt t1) (by decide)).mono hB), hq.add hq2 el, h2.mono (by omega)⟩
def mR : MS := (mSeq (mAsg (mCall (fCall f_l_of) (mCons (mVar 0) (mCons (mLst (mCons (mC (.int 0)) (mCons (mC (.int 0)) (mCons (mC (.int 1)) (mCons (mCall (fCall f_l_number) (mCons (mVar 0) mNil)) mNil))))) mNil))) (mgN 11))
  (mSeq (mAsg (mCall (fCall f_l_of) (mCons (mVar 0) (mCons (mLst (mCons (mC (.int 0)) (mCons (mC (.int 0)) (mCons (mC (.int 0)) (mCons (mCall (fCall f_l_number) (mCons (mVar 0) mNil)) mNil))))) mNil))) (mgN 12))
  (mDrop (mApp (mVar 9) (mTup (mCons (mOp opAdd (mOp opMul (mVar 11) (mOp opSubI (mOp opIx (mVar 3) (mC (.int 1))) (mOp opIx (mVar 3) (mC (.int 0))))) (mVar 12)) (mCons (mOp opMul (mVar 11) (mOp opIx (mVar 3) (mC (.int 0)))) mNil)))))))
theorem turn_r {S0 T : Store} {k M : Nat} {a b : Int} {xs : List (Int × Int)} {v1 v2 v4 v5 v6 v7 v8 v10 v11 v12 : Option D} (hk : k < S0.length) (h : BoxS (S0 ++ [.lst (xs.map rowD)]) k M T) (hN : M + 10 < 2 ^ 40) (ha : 0 < a) (hab : a < b) (hb : b < 2 ^ 200) (hx : xs.length < 1000) :
    (mR [some (.ref k), v1, v2, some (.tup [.int a, .int b]), v4, v5, v6, v7, v8, some (.ref S0.length), v10, v11, v12] T).Sat fun f T' => ∃ (r : Int × Int) (w11 w12 : Option D), f = .nx [some (.ref k), v1, v2, some (.tup [.int a, .int b]), v4, v5, v6, v7, v8, some (.ref S0.length), v10, w11, w12] ∧ ((0 ≤ r.1 ∧ r.1 ≤ 10 ^ 30 * 2 ^ 201) ∧ 0 ≤ r.2 ∧ r.2 ≤ 10 ^ 30 * 2 ^ 201) ∧ (b - a) * r.2 ≤ a * r.1 ∧ BoxS (S0 ++ [.lst ((xs ++ [r]).map rowD)]) k (M + 6) T' := by
  have pick : ∀ (x y : Int) (d : D), 0 ≤ x → x ≤ 1 → 0 ≤ y → y < 10 ^ 30 → d ∈ [D.int 0, .int 0, .int x, .int y] → ∃ z : Int, d = .int z ∧ 0 ≤ z ∧ z ≤ 10 ^ 30 := fun x y d h1 h2 h3 h4 hd => by
    simp at hd
    rcases hd with rfl | rfl | rfl
    · exact ⟨0, rfl, by omega, by omega⟩
    · exact ⟨_, rfl, by omega, by omega⟩
    · exact ⟨_, rfl, by omega, by omega⟩
  unfold mR
  simp
  refine sat_step (number_s h (by omega)) ?_
  rintro _ T1 ⟨⟨t, rfl, t0, t1⟩, h1⟩
  simp
  refine sat_step (of_s h1 (by omega) (by simp) (by simp)) ?_
  rintro _ T2 ⟨hd, h2⟩
  obtain ⟨e, rfl, e0, e1⟩ := pick 1 t _ (by decide) (by decide) t0 t1 hd
  simp
  refine sat_step (number_s h2 (by omega)) ?_
  rintro _ T3 ⟨⟨t', rfl, t0', t1'⟩, h3⟩
  simp
  refine sat_step (of_s h3 (by omega) (by simp) (by simp)) ?_
  rintro _ T4 ⟨hd', h4⟩
  obtain ⟨g, rfl, g0, g1⟩ := pick 0 t' _ (by decide) (by decide) t0' t1' hd'
  have m1 : mulOk e (b - a) = true := mulOk_big e0 (bigN (Int.le_trans e1 (by decide))) (by omega) (bigN (Int.le_trans (show b - a ≤ 2 ^ 200 by omega) (by decide)))
  have m2 : mulOk e a = true := mulOk_big e0 (bigN (Int.le_trans e1 (by decide))) (by omega) (bigN (Int.le_trans (show a ≤ 2 ^ 200 by omega) (by decide)))
  have put : appTo S0.length (.tup [.int (e * (b - a) + g), .int (e * a)]) T4 = .ok .non (T4.set S0.length (.lst ((xs ++ [(e * (b - a) + g, e * a)]).map rowD))) := by
    rw [appTo_ok _ (h4.last hk) (by simp; omega)]
    simp [rowD]
  have no : notOb T4 S0.length = true := notOb_lst (h4.last hk)
  simp [m1, m2, put, no]
  have q1 : 0 ≤ e * (b - a) := Int.mul_nonneg e0 (by omega)
  have q2 : 0 ≤ e * a := Int.mul_nonneg e0 (by omega)
  have q3 : e * (b - a) ≤ 10 ^ 30 * 2 ^ 200 := Int.mul_le_mul e1 (by omega) (by omega) (by decide)
  have q4 : e * a ≤ 10 ^ 30 * 2 ^ 200 := Int.mul_le_mul e1 (by omega) (by omega) (by decide)
  have q5 : (b - a) * (e * a) ≤ a * (e * (b - a) + g) := by
    have x1 : (b - a) * (e * a) = a * (e * (b - a)) := by simp only [Int.mul_assoc, Int.mul_comm, Int.mul_left_comm]
    have x2 : 0 ≤ a * g := Int.mul_nonneg (by omega) g0
    rw [Int.mul_add, x1]
    omega
  have z := (h4.setLast (.lst ((xs ++ [(e * (b - a) + g, e * a)]).map rowD)) hk).mono (show M + 2 + 1 + 2 + 1 ≤ M + 6 by omega)
  exact ⟨e * (b - a) + g, e * a, ⟨⟨by omega, by omega⟩, by omega, by omega⟩, q5, by simpa using z⟩
def bnd : Nat → Int
  | 0 => 8 * (10 ^ 30 * 2 ^ 200)
  | 1 => 4 * (10 ^ 30 * 2 ^ 200)
  | 2 => 2 * (10 ^ 30 * 2 ^ 200)
  | _ => 10 ^ 30 * 2 ^ 200
theorem loop_q {S0 S : Store} {k N n t : Nat} {a b : Int} {ps : List (Int × Int)} {v1 v10 v11 v12 : Option D} (h : BoxS S0 k N S) (hN : N + 200 < 2 ^ 40) (hn : 0 < n) (hn2 : n < 20) (ha : 0 < a) (hab : a < b) (hb : b < 2 ^ 200) (hps : LooksOk n ps) (hpl : ps.length < 40) (ht : t ≤ 3) :
    (forL (mgN 6) mQ (rangeD 0 t) [some (.ref k), v1, some (.int n), some (.tup [.int a, .int b]), some (looksD ps), some (logD (List.replicate n (0, 0))), none, none, none, none, v10, v11, v12] S).Sat fun f S' => ∃ rows w6 w7 w8, f = .nx [some (.ref k), v1, some (.int n), some (.tup [.int a, .int b]), some (looksD ps), some (logD rows), w6, w7, w8, none, v10, v11, v12] ∧ rows.length = n ∧ RowsOk (bnd 0) rows ∧ Quiet a b rows ps ∧ BoxS S0 k (N + 150) S' := by
  refine forL_sat (fun ds ρ S' => ∃ (rows : List (Int × Int)) (w6 w7 w8 : Option D) (M : Nat), ρ = [some (.ref k), v1, some (.int n), some (.tup [.int a, .int b]), some (looksD ps), some (logD rows), w6, w7, w8, none, v10, v11, v12] ∧ ds.length ≤ 3 ∧ rows.length = n ∧ RowsOk (bnd ds.length) rows ∧ Quiet a b rows ps ∧ BoxS S0 k M S' ∧ M + 43 * ds.length ≤ N + 150) ?_ ?_ _ _ _ ⟨_, none, none, none, N, rfl, by rw [rangeD_len]; exact ht, by simp, ?_, quiet_nil a b n ps, h, by rw [rangeD_len]; omega⟩
  · rintro d ds ρ S' ⟨rows, w6, w7, w8, M, rfl, hl, hr, hro, hq, hB, hM⟩
    rw [List.length_cons] at hl hro hM
    refine ⟨_, S', rfl, ?_⟩
    have hb1 : 10 ^ 30 * 2 ^ 200 ≤ bnd (ds.length + 1) := by
      rcases (show ds.length = 0 ∨ ds.length = 1 ∨ ds.length = 2 by omega) with e | e | e <;> rw [e] <;> decide
    have hb2 : 2 * bnd (ds.length + 1) = bnd ds.length := by
      rcases (show ds.length = 0 ∨ ds.length = 1 ∨ ds.length = 2 by omega) with e | e | e <;> rw [e] <;> decide
    refine (turn_q (v6 := some d) (v7 := w7) (v8 := w8) (v1 := v1) (v10 := v10) (v11 := v11) (v12 := v12) hB (by omega) hn hn2 ha hab hb hps hpl hr hro hb1 hq).mono ?_
    rintro _ T ⟨rows', w7', w8', rfl, hr', hro', hq', hB'⟩
    rw [hb2] at hro'
    exact ⟨rows', _, _, _, _, rfl, by omega, hr', hro', hq', hB', by omega⟩
  · rintro ρ S' ⟨rows, w6, w7, w8, M, rfl, _, hr, hro, hq, hB, hM⟩
    exact ⟨rows, w6, w7, w8, rfl, hr, hro, hq, hB.mono (by simpa using hM)⟩
  · rw [rangeD_len]
    intro r hm
    obtain ⟨_, rfl⟩ := List.mem_replicate.mp hm
    have : 0 ≤ bnd t := by
      rcases (show t = 0 ∨ t = 1 ∨ t = 2 ∨ t = 3 by omega) with e | e | e | e <;> rw [e] <;> decide
    exact ⟨⟨by decide, this⟩, by decide, this⟩
theorem loop_r {S0 T : Store} {k N n : Nat} {a b : Int} {v1 v2 v4 v5 v6 v7 v8 v10 v11 v12 : Option D} (hk : k < S0.length) (h : BoxS (S0 ++ [.lst []]) k N T) (hN : N + 6 * n + 20 < 2 ^ 40) (hn : n < 900) (ha : 0 < a) (hab : a < b) (hb : b < 2 ^ 200) :
    (forL (mgN 10) mR (rangeD 0 n) [some (.ref k), v1, v2, some (.tup [.int a, .int b]), v4, v5, v6, v7, v8, some (.ref S0.length), v10, v11, v12] T).Sat fun f S' => ∃ rows w10 w11 w12, f = .nx [some (.ref k), v1, v2, some (.tup [.int a, .int b]), v4, v5, v6, v7, v8, some (.ref S0.length), w10, w11, w12] ∧ rows.length = n ∧ RowsOk (10 ^ 30 * 2 ^ 201) rows ∧ (∀ r ∈ rows, (b - a) * r.2 ≤ a * r.1) ∧ BoxS (S0 ++ [.lst (rows.map rowD)]) k (N + 6 * n) S' := by
  refine forL_sat (fun ds ρ S' => ∃ (rows : List (Int × Int)) (w10 w11 w12 : Option D) (M : Nat), ρ = [some (.ref k), v1, v2, some (.tup [.int a, .int b]), v4, v5, v6, v7, v8, some (.ref S0.length), w10, w11, w12] ∧ rows.length + ds.length = n ∧ RowsOk (10 ^ 30 * 2 ^ 201) rows ∧ (∀ r ∈ rows, (b - a) * r.2 ≤ a * r.1) ∧ BoxS (S0 ++ [.lst (rows.map rowD)]) k M S' ∧ M + 6 * ds.length ≤ N + 6 * n) ?_ ?_ _ _ _ ⟨[], v10, v11, v12, N, rfl, by simp [rangeD_len], fun r hr => absurd hr (by simp), fun r hr => absurd hr (by simp), h, by rw [rangeD_len]; omega⟩
  · rintro d ds ρ S' ⟨rows, w10, w11, w12, M, rfl, hl, hro, hq, hB, hM⟩
    rw [List.length_cons] at hl hM
    refine ⟨_, S', rfl, ?_⟩
    refine (turn_r (v1 := v1) (v2 := v2) (v4 := v4) (v5 := v5) (v6 := v6) (v7 := v7) (v8 := v8) (v10 := some d) (v11 := w11) (v12 := w12) hk hB (by omega) ha hab hb (by omega)).mono ?_
    rintro _ T' ⟨r, x11, x12, rfl, hr, hq1, hB'⟩
    refine ⟨rows ++ [r], _, _, _, _, rfl, by simp; omega, fun q hm => ?_, fun q hm => ?_, hB', by omega⟩
    · rcases List.mem_append.mp hm with m | m
      · exact hro q m
      · simp at m
        subst m
        exact hr
    · rcases List.mem_append.mp hm with m | m
      · exact hq q m
      · simp at m
        subst m
        exact hq1
  · rintro ρ S' ⟨rows, w10, w11, w12, M, rfl, hl, hro, hq, hB, hM⟩
    exact ⟨rows, w10, w11, w12, rfl, by simpa using hl, hro, hq, hB.mono (by simpa using hM)⟩
theorem quiet_s {S0 S : Store} {k N n : Nat} {a b : Int} {ps : List (Int × Int)} (h : BoxS S0 k N S) (hp : S0.all Cell.pure = true) (hN : N + 1000 < 2 ^ 40) (hn : 0 < n) (hn2 : n < 20) (ha : 0 < a) (hab : a < b) (hb : b < 2 ^ 200) (hps : LooksOk n ps) (hpl : ps.length < 40) :
    (f_l_quiet_log [.ref k, bookD n a b ps] S).Sat fun d S' => ∃ rows, d = logD rows ∧ rows.length = n ∧ RowsOk (10 ^ 100) rows ∧ Quiet a b rows ps ∧ BoxS S0 k (N + 500) S' := by
  have hk := h.lt
  have rep : ∀ S, opMul (.lst [.tup [.int 0, .int 0]]) (.int (n : Nat)) S = .ok (.lst ((List.replicate n ((0 : Int), (0 : Int))).map rowD)) S := fun S => by
    unfold opMul opMulI fI opRep
    simp [lstOf, Res.orE, rowD, show (-100000 : Int) ≤ (n : Int) by omega, show (n : Int) ≤ 100000 by omega, show n ≤ 100000 by omega]
  have hz : ((List.replicate n ((0 : Int), (0 : Int))).map rowD).length ≤ 100000 := by simp; omega
  have e1 : ∀ r : Nat, (1 : Int) + (r : Int) = ((r + 1 : Nat) : Int) := fun r => by omega
  unfold f_l_quiet_log m_l_quiet_log bookD
  rw [fnM_2]
  show (endM S.length (mSeq _ (mSeq _ (mSeq (mFor _ _ mQ) (mSeq _ (mSeq (mFor _ _ mR) _)))) _ _)).Sat _
  have lq := @loop_q S0
  have lr := @loop_r S0
  generalize mQ = MQ at *
  generalize mR = MR at *
  generalize hR : (List.replicate n ((0 : Int), (0 : Int))).map rowD = R at *
  simp -implicitDefEqProofs [rep, hz]
  refine sat_step (take_s (n := 3) h (by omega) (by decide) (by decide)) ?_
  rintro _ S1 ⟨r, rfl, a1, b1, h1⟩
  obtain ⟨r, rfl⟩ := Int.eq_ofNat_of_zero_le a1
  simp -implicitDefEqProofs
  have hL : D.tup R = logD (List.replicate n (0, 0)) := by rw [← hR]; rfl
  rw [e1, r1K_nat (r + 1) (by omega), hL]
  simp -implicitDefEqProofs
  refine sat_step (lq h1 (by omega) hn hn2 ha hab hb hps hpl (by omega)) ?_
  rintro _ S2 ⟨rows, w6, w7, w8, rfl, hl, hro, hq, h2⟩
  have hl2 : S2.length = S0.length := h2.len
  simp -implicitDefEqProofs [r1K_nat n (show n < 2 ^ 60 by omega), hl2]
  refine sat_step (lr hk (h2.push (.lst [])) (by omega) (by omega) ha hab hb) ?_
  rintro _ S3 ⟨more, w10, w11, w12, rfl, hl3, hro3, hq3, h3⟩
  have ad := fun S => addedP (S := S) (rows := rows) (more := more) (by omega)
  have gt := h3.last hk
  have hz3 : (more.map rowD).length ≤ 100000 := by simp; omega
  have ft : fTuple [.ref S0.length] S3 = .ok (logD more) S3 := by
    unfold logD
    simp [fTuple, un1, gTuple, seqOf, rdL, lstOf, gt]
  have el : rows.length = more.length := by omega
  obtain ⟨S4, e4, hB4⟩ := fin_cut (d := logD (addR rows more)) h3 hk h.len hp (by simp)
  simp -implicitDefEqProofs [ft, ad, e4]
  exact ⟨addR rows more, rfl, by rw [addR_len _ _ el, hl], (rowsOk_add (hro.mono (show bnd 0 ≤ 10 ^ 95 by decide)) (hro3.mono (show (10 : Int) ^ 30 * 2 ^ 201 ≤ 10 ^ 95 by decide))).mono (by decide), hq.add (quiet_each hq3) el, hB4.mono (by omega)⟩
theorem BoxS.getAt {S0 S : Store} {cs : List Cell} {k N i : Nat} {c : Cell} (h : BoxS (S0 ++ cs) k N S) (hk : k < S0.length) (hc : cs[i]? = some c) : S[S0.length + i]? = some c := by
  obtain ⟨y, rfl, _, _⟩ := h
  rw [List.getElem?_set_ne (by omega), List.getElem?_append_right (by omega), Nat.add_sub_cancel_left]
  exact hc
theorem BoxS.setAt {S0 S : Store} {cs : List Cell} {k N : Nat} (i : Nat) (c' : Cell) (h : BoxS (S0 ++ cs) k N S) (hk : k < S0.length) : BoxS (S0 ++ cs.set i c') k N (S.set (S0.length + i) c') := by
  obtain ⟨y, rfl, hy, _⟩ := h
  refine ⟨y, ?_, hy, by simp; omega⟩
  rw [List.set_append_left _ _ hk, List.set_append_left _ _ hk]
  have e : (S0.set k y).length = S0.length := by simp
  rw [List.set_append_right _ _ (by omega), e, Nat.add_sub_cancel_left]
theorem erase_perm {β : Type} : ∀ (l : List β) (i : Nat) (h : i < l.length), (l[i] :: l.eraseIdx i).Perm l
  | [], i, h => absurd h (by simp)
  | x :: l, 0, _ => List.Perm.refl _
  | x :: l, i + 1, h => by
    have ih := erase_perm l i (by simpa using h)
    simp only [List.getElem_cons_succ, List.eraseIdx_cons_succ]
    exact (List.Perm.swap _ _ _).trans (ih.cons x)
theorem erase_map {β γ : Type} (f : β → γ) : ∀ (l : List β) (i : Nat), (l.map f).eraseIdx i = (l.eraseIdx i).map f
  | [], i => by simp
  | x :: l, 0 => rfl
  | x :: l, i + 1 => by
    rw [List.map_cons, List.eraseIdx_cons_succ, List.eraseIdx_cons_succ, List.map_cons, erase_map f l i]
def mPk : MS := (mDrop (mApp (mVar 4) (mPopAt (mVar 3) (mCall (fCall f_l_take) (mCons (mVar 0) (mCons (mCall fLen (mCons (mVar 3) mNil)) mNil))))))
theorem pick_turn {S0 T : Store} {k M : Nat} {R F : List (Int × Int)} {v1 v2 v5 : Option D} (hk : k < S0.length) (h : BoxS (S0 ++ [.lst (R.map pairD), .lst (F.map pairD)]) k M T) (hN : M + 10 < 2 ^ 40) (hR : R ≠ []) (hl : R.length + F.length < 2000) :
    (mPk [some (.ref k), v1, v2, some (.ref S0.length), some (.ref (S0.length + 1)), v5] T).Sat fun f T' => ∃ (R' : List (Int × Int)) (x : Int × Int), f = .nx [some (.ref k), v1, v2, some (.ref S0.length), some (.ref (S0.length + 1)), v5] ∧ (x :: R').Perm R ∧ BoxS (S0 ++ [.lst (R'.map pairD), .lst ((F ++ [x]).map pairD)]) k (M + 1) T' := by
  have hRl : 0 < R.length := List.length_pos_iff.mpr hR
  have ga := h.getAt (i := 0) (c := .lst (R.map pairD)) hk rfl
  rw [Nat.add_zero] at ga
  have ln : fLen [.ref S0.length] T = .ok (.int (R.length : Nat)) T := by
    simp [fLen, un1, gLen, seqOf, rdL, lstOf, ga]
  obtain ⟨Q, hQ⟩ : ∃ Q : Fl → Store → Prop, Q = fun f T' => ∃ (R' : List (Int × Int)) (x : Int × Int), f = .nx [some (.ref k), v1, v2, some (.ref S0.length), some (.ref (S0.length + 1)), v5] ∧ (x :: R').Perm R ∧ BoxS (S0 ++ [.lst (R'.map pairD), .lst ((F ++ [x]).map pairD)]) k (M + 1) T' := ⟨_, rfl⟩
  rw [← hQ]
  have gA := h.getAt (i := 1) (c := .lst (F.map pairD)) hk rfl
  have nA := notOb_lst ga
  have nB := notOb_lst gA
  unfold mPk
  simp -implicitDefEqProofs [ln, nA, nB]
  refine sat_step (take_s (n := (R.length : Int)) h (by omega) (by omega) (Int.lt_trans (show (R.length : Int) < 2000 by omega) (by decide))) ?_
  rintro _ T1 ⟨r, rfl, r0, r1, h1⟩
  have hi : r.toNat < R.length := by omega
  have gb := h1.getAt (i := 0) (c := .lst (R.map pairD)) hk rfl
  rw [Nat.add_zero] at gb
  have pa := popAt_ok (i := r) (x := pairD R[r.toNat]) gb ⟨r0, by omega⟩ (by rw [List.getElem?_map, List.getElem?_eq_getElem hi]; rfl)
  have h2 := h1.setAt 0 (.lst ((R.map pairD).eraseIdx r.toNat)) hk
  rw [Nat.add_zero] at h2
  have h3 : BoxS (S0 ++ [.lst ((R.map pairD).eraseIdx r.toNat), .lst (F.map pairD)]) k (M + 1) (T1.set S0.length (.lst ((R.map pairD).eraseIdx r.toNat))) := h2
  have gc := h3.getAt (i := 1) (c := .lst (F.map pairD)) hk rfl
  have nC := notOb_lst gb
  have nD := notOb_lst (h1.getAt (i := 1) (c := .lst (F.map pairD)) hk rfl)
  have nE := notOb_lst gc
  have put : appTo (S0.length + 1) (pairD R[r.toNat]) (T1.set S0.length (.lst ((R.map pairD).eraseIdx r.toNat))) = .ok .non ((T1.set S0.length (.lst ((R.map pairD).eraseIdx r.toNat))).set (S0.length + 1) (.lst ((F ++ [R[r.toNat]]).map pairD))) := by
    rw [appTo_ok _ gc (by simp; omega)]
    simp
  have h4 := h3.setAt 1 (.lst ((F ++ [R[r.toNat]]).map pairD)) hk
  have ee : (R.map pairD).eraseIdx r.toNat = (R.eraseIdx r.toNat).map pairD := erase_map _ _ _
  have pm := erase_perm R r.toNat hi
  generalize R[r.toNat] = x at *
  generalize pairD x = X at *
  generalize hZ : (F ++ [x]).map pairD = Z at *
  refine (?_ : Res.Sat _ (fun f T' => f = .nx [some (.ref k), v1, v2, some (.ref S0.length), some (.ref (S0.length + 1)), v5] ∧ T' = (T1.set S0.length (.lst ((R.map pairD).eraseIdx r.toNat))).set (S0.length + 1) (.lst Z))).mono ?_
  · simp -implicitDefEqProofs [pa, put, nC, nD, nE]
  · rintro _ _ ⟨rfl, rfl⟩
    have h5 : BoxS (S0 ++ [.lst ((R.eraseIdx r.toNat).map pairD), .lst Z]) k (M + 1) ((T1.set S0.length (.lst ((R.map pairD).eraseIdx r.toNat))).set (S0.length + 1) (.lst Z)) := by rw [← ee]; exact h4
    subst hZ
    rw [hQ]
    exact ⟨_, x, rfl, pm, h5⟩
theorem pick_s {S0 S : Store} {k N m : Nat} {xs : List (Int × Int)} (h : BoxS S0 k N S) (hp : S0.all Cell.pure = true) (hN : N + 2000 < 2 ^ 40) (hx : xs.length ≤ 1000) (hm : m ≤ 1000) :
    (f_l_pick [.ref k, .lst (xs.map pairD), .int m] S).Sat fun d S' => ∃ ys zs : List (Int × Int), d = .lst (ys.map pairD) ∧ ys.length ≤ m ∧ (ys ++ zs).Perm xs ∧ BoxS S0 k (N + m) S' := by
  have hk := h.lt
  have pt := @pick_turn S0
  have hS : S.length = S0.length := h.len
  have lc : fListC [.lst (xs.map pairD)] S = .ok (.ref S.length) (S ++ [.lst (xs.map pairD)]) := by rfl
  have h1 : BoxS (S0 ++ [.lst (xs.map pairD), .lst ([].map pairD)]) k N (S ++ [.lst (xs.map pairD)] ++ [.lst []]) := by
    have := h.pushes [.lst (xs.map pairD), .lst ([].map pairD)]
    simpa using this
  generalize hST : S ++ [.lst (xs.map pairD)] ++ [.lst []] = ST at h1
  have ga := h1.getAt (i := 0) (c := .lst (xs.map pairD)) hk rfl
  rw [Nat.add_zero] at ga
  have ln : fLen [.ref S0.length] ST = .ok (.int (xs.length : Nat)) ST := by
    simp [fLen, un1, gLen, seqOf, rdL, lstOf, ga]
  obtain ⟨q, hq, hq1, hq2⟩ : ∃ q : Nat, (if xs.length < m then ((xs.length : Nat) : Int) else (m : Int)) = (q : Int) ∧ q ≤ m ∧ q ≤ xs.length := by
    by_cases c : xs.length < m
    · exact ⟨xs.length, by rw [if_pos c], by omega, by omega⟩
    · exact ⟨m, by rw [if_neg c], by omega, by omega⟩
  unfold f_l_pick m_l_pick
  rw [fnM_3]
  show (endM S.length (mSeq _ (mSeq (mFor _ _ mPk) _) _ _)).Sat _
  generalize mPk = MP at *
  have lc2 : fListC [.lst (xs.map pairD)] S = .ok (.ref S0.length) (S ++ [.lst (xs.map pairD)]) := by rw [← hS]; rfl
  have hS1 : (S ++ [Cell.lst (xs.map pairD)]).length = S0.length + 1 := by simp [hS]
  generalize hXD : xs.map pairD = XD at *
  generalize hSA : S ++ [Cell.lst XD] = SA at *
  simp -implicitDefEqProofs [lc2, hS1, hST, ln, min2_ok, hq, r1K_nat q (show q < 2 ^ 60 by omega)]
  refine sat_step (forL_sat (P := fun f S' => ∃ (F R : List (Int × Int)) (w5 : Option D), f = .nx [some (.ref k), some (.lst XD), some (.int m), some (.ref S0.length), some (.ref (S0.length + 1)), w5] ∧ (F ++ R).Perm xs ∧ F.length ≤ m ∧ BoxS (S0 ++ [.lst (R.map pairD), .lst (F.map pairD)]) k (N + m) S')
    (fun ds ρ S' => ∃ (F R : List (Int × Int)) (w5 : Option D) (M : Nat), ρ = [some (.ref k), some (.lst XD), some (.int m), some (.ref S0.length), some (.ref (S0.length + 1)), w5] ∧ (F ++ R).Perm xs ∧ F.length + ds.length ≤ m ∧ ds.length ≤ R.length ∧ BoxS (S0 ++ [.lst (R.map pairD), .lst (F.map pairD)]) k M S' ∧ M + ds.length ≤ N + m) ?_ ?_ _ _ _ ⟨[], xs, none, N, rfl, List.Perm.refl _, by rw [rangeD_len]; simpa using hq1, by rw [rangeD_len]; exact hq2, ?_, by rw [rangeD_len]; omega⟩) ?_
  · rintro d ds ρ S' ⟨F, R, w5, M, rfl, hpm, hF, hRl, hB, hM⟩
    rw [List.length_cons] at hF hRl hM
    refine ⟨_, S', rfl, ?_⟩
    have ll := hpm.length_eq
    rw [List.length_append] at ll
    refine (pt (v1 := some (.lst XD)) (v2 := some (.int m)) (v5 := some d) hk hB (by omega) (by rintro rfl; simp at hRl) (by omega)).mono ?_
    rintro _ T ⟨R', x, rfl, hpx, hT⟩
    have lx := hpx.length_eq
    rw [List.length_cons] at lx
    refine ⟨F ++ [x], R', _, _, rfl, ?_, by simp; omega, by omega, hT, by omega⟩
    rw [List.append_assoc]
    exact (List.Perm.append_left F hpx).trans hpm
  · rintro ρ S' ⟨F, R, w5, M, rfl, hpm, hF, hRl, hB, hM⟩
    exact ⟨F, R, w5, rfl, hpm, by simpa using hF, hB.mono (by simpa using hM)⟩
  · rw [hXD]; exact h1
  · rintro _ S' ⟨F, R, w5, rfl, hpm, hF, hB⟩
    have gt := hB.getAt (i := 1) (c := .lst (F.map pairD)) hk rfl
    have fr := fz_ref gt
    have hB2 := hB.setAt 1 (.frz (F.map pairD)) hk
    have pd : pureD (.lst (F.map pairD)) = true := pure_pairs F
    obtain ⟨S3, e3, hB3⟩ := fin_cuts (d := .lst (F.map pairD)) hB2 hk rfl hp pd
    simp -implicitDefEqProofs [fr, hS, e3]
    exact ⟨F, rfl, hF, ⟨R, hpm⟩, hB3⟩
theorem til_calm {n : Nat} {A : BkD} {rows : List (Int × Int)} (hA : BkOk n A) (hq : Calm A rows) {k x : Int} (t : Til A.ps k x) (hk : 0 ≤ k) : x ≤ k ∧ (A.b - A.a) * sf rows x.toNat k.toNat ≤ A.a * sg rows x.toNat k.toNat := by
  induction t with
  | here => rw [sg_self, sf_self]; simp
  | look h t ih =>
    rename_i p
    have o := hA.st p h
    have q := hq p h
    have e1 := sg_app rows (s := p.1.toNat) (m := p.2.toNat) (e := k.toNat) (by omega) (by omega)
    have e2 := sf_app rows (s := p.1.toNat) (m := p.2.toNat) (e := k.toNat) (by omega) (by omega)
    rw [e1, e2, Int.mul_add, Int.mul_add]
    omega
section
variable {n : Nat} {A B : BkD} {rows : List (Int × Int)}
theorem Ali.calm (h : Ali n A B) (hA : BkOk n A) (hB : BkOk n B) (hc : Calm A rows) : Calm B rows := fun q hq => by
  have st := hB.st q hq
  have x := (til_calm hA hc (h.t1 q hq) (by omega)).2
  have ha := hA.ha
  have hb := hB.ha
  have M : B.a * (A.b - A.a) = A.a * (B.b - B.a) := by rw [Int.mul_sub, Int.mul_sub, h.ag, Int.mul_comm B.a A.a]
  generalize sf rows q.1.toNat q.2.toNat = F at *
  generalize sg rows q.1.toNat q.2.toNat = G at *
  have x2 : B.a * ((A.b - A.a) * F) ≤ B.a * (A.a * G) := Int.mul_le_mul_of_nonneg_left x (by omega)
  have x3 : B.a * ((A.b - A.a) * F) = A.a * ((B.b - B.a) * F) := by rw [← Int.mul_assoc, M, Int.mul_assoc]
  have x4 : B.a * (A.a * G) = A.a * (B.a * G) := by ac_rfl
  rw [x3, x4] at x2
  exact Int.le_of_mul_le_mul_left x2 ha
end
theorem pure_bkN (n a b : Int) (ps : List (Int × Int)) : pureD (bookD n a b ps) = true := by
  have := pure_pairs ps
  unfold bookD looksD
  simp [this]
theorem netR_len7 {n : Nat} (hn : n ≤ 7) : (netR n).length ≤ 100 := by
  rcases (show n = 0 ∨ n = 1 ∨ n = 2 ∨ n = 3 ∨ n = 4 ∨ n = 5 ∨ n = 6 ∨ n = 7 by omega) with rfl | rfl | rfl | rfl | rfl | rfl | rfl | rfl <;> decide
theorem net_s {S0 S : Store} {k N mm most : Nat} (hm : 0 < mm) (hm2 : mm ≤ 7) (hmost : most ≤ 60) (h : BoxS S0 k N S) (hp : S0.all Cell.pure = true) (hN : N + 5000 < 2 ^ 40) :
    (f_l_net [.ref k, .int (mm : Nat), .int (most : Nat)] S).Sat fun d S' => ∃ (many : Nat) (a b : Int) (ps : List (Int × Int)), d = bookD many a b ps ∧ (0 < many ∧ many ≤ mm) ∧ (0 < a ∧ a < b ∧ b < 2 ^ 67) ∧ LooksOk many ps ∧ ps.length ≤ most ∧ BoxS S0 k (N + 100) S' := by
  have nl := fun n hn S pre => @net_loop (some (.ref k)) (some (.int (mm : Nat))) (some (.int (most : Nat))) S n hn (minutes n) pre none
  unfold f_l_net m_l_net
  rw [fnM_3]
  show (endM S.length (mSeq _ (mSeq (mFor _ _ mNe) _) _ _)).Sat _
  generalize mNe = MN at *
  simp -implicitDefEqProofs
  refine sat_step (take_s (n := (mm : Int)) h (by omega) (by omega) (Int.lt_trans (show (mm : Int) < 100 by omega) (by decide))) ?_
  rintro _ S1 ⟨r, rfl, r0, r1, h1⟩
  obtain ⟨n, hn⟩ : ∃ n : Nat, 1 + r = (n : Int) := ⟨(1 + r).toNat, by omega⟩
  obtain ⟨w5, lp⟩ := nl n (by omega) S1 [] (fun k hk => mem_minutes.mp hk) (by unfold minutes; simp; omega)
  rw [List.nil_append] at lp
  have lp' : forL (mgN 5) MN ((minutes n).map .int) [some (.ref k), some (.int (mm : Nat)), some (.int (most : Nat)), some (.int n), some (.lst []), none, none] S1 = .ok (.nx [some (.ref k), some (.int (mm : Nat)), some (.int (most : Nat)), some (.int n), some (.lst ((netR n).map pairD)), w5, none]) S1 := lp
  rw [← rangeD_minutes] at lp'
  simp -implicitDefEqProofs [hn, r1K_nat n (show n < 2 ^ 60 by omega), lp']
  refine sat_step (limit_s h1 (by omega)) ?_
  rintro _ S2 ⟨⟨a, b, rfl, ha, hab, hb⟩, h2⟩
  simp -implicitDefEqProofs
  refine sat_step (take_s (n := (most : Int) + 1) h2 (by omega) (by omega) (Int.lt_trans (show (most : Int) + 1 < 100 by omega) (by decide))) ?_
  rintro _ S3 ⟨m, rfl, m0, m1, h3⟩
  obtain ⟨m, rfl⟩ := Int.eq_ofNat_of_zero_le m0
  simp -implicitDefEqProofs
  refine sat_step (pick_s (m := m) (xs := netR n) h3 hp (by omega) (by have := netR_len7 (show n ≤ 7 by omega); omega) (by omega)) ?_
  rintro _ S4 ⟨ys, zs, rfl, hl, hpm, h4⟩
  obtain ⟨hlo, hlen, _⟩ := picked_ok hpm (netR_nodup n) netR_ok
  have sk := fun S => skK_pairs (S := S) (d := .lst (ys.map pairD)) (ps := ys) rfl
  have pq := pure_pairs (sortP ys)
  have hz : ((sortP ys).map pairD).length ≤ 100000 := by simp; omega
  have e1 : D.tup [.int n, .tup [.int a, .int b], .tup ((sortP ys).map pairD)] = bookD n a b (sortP ys) := rfl
  have e2 := pure_bkN n a b (sortP ys)
  simp -implicitDefEqProofs [sk, hz, e1, e2, fin_len (h4.len.trans h.len.symm)]
  exact ⟨n, a, b, sortP ys, rfl, ⟨by omega, by omega⟩, ⟨ha, hab, hb⟩, hlo, by omega, h4.mono (by omega)⟩
theorem closed_z {ps : List (Int × Int)} {P : List Int} {z : D} (hz : z = .tup (ps.map pairD) ∨ z = .lst (ps.map pairD)) (hb : ∀ p ∈ ps, (0 ≤ p.1 ∧ p.1 < lim) ∧ 0 ≤ p.2 ∧ p.2 < lim) (hl : P.length + ps.length < 64) : f_l_closed [z, placesD P] [] = .ok (placesD (closedP ps P)) [] := by
  have lc : ∀ (ρ : Q.Env) (S : Store), 5 < ρ.length → lcL (mgN 5) mYes (mTup (mCons (mOp opIx (mVar 5) (mC (.int 1))) (mCons (mOp opIx (mVar 5) (mC (.int 0))) mNil))) ρ (ps.map pairD) S = .ok ((ps.map fun p => (p.2, p.1)).map pairD) S := fun ρ S hρ => by
    rw [List.map_map]
    refine lcL_mapx _ S fun p hp => ⟨ρ.set 5 (some (pairD p)), rfl, ?_⟩
    have e5 : (ρ.set 5 (some (pairD p)))[5]? = some (some (pairD p)) := List.getElem?_set_self hρ
    generalize ρ.set 5 (some (pairD p)) = ρ1 at *
    simp [e5, pairD]
  have sr : ∀ S, srK (.lst ((ps.map fun p => (p.2, p.1)).map pairD)) S = .ok (.lst ((sortD (ps.map fun p => (p.2, p.1))).map pairD)) S := fun S => srK_pairs fun q hq => by
    obtain ⟨r, hr, rfl⟩ := List.mem_map.mp hq
    have := hb r hr
    exact ⟨this.2, this.1⟩
  have len : (sortD (ps.map fun p => (p.2, p.1))).length = ps.length := by rw [(sortD_perm _).length_eq, List.length_map]
  obtain ⟨w3, w4, lp⟩ := cl_loop (A := some z) (B := some (.tup (P.map .int))) (v5 := none) (sortD (ps.map fun p => (p.2, p.1))) P none none (by omega)
  have cl := closeL_len (sortD (ps.map fun p => (p.2, p.1))) P
  have ss := fun S => ssK_ints (S := S) (ns := closeL (sortD (ps.map fun p => (p.2, p.1))) P) (by omega)
  have l2 : (ps.map pairD).length ≤ 100000 := by simp; omega
  have pd : pureD (.tup ((closedP ps P).map .int)) = true := pure_ints _
  show _ = Res.ok (D.tup ((closedP ps P).map D.int)) []
  have hS : (sortN (closeL (sortD (ps.map fun p => (p.2, p.1))) P)).map D.int = (closedP ps P).map .int := rfl
  rw [hS] at ss
  have lP : (P.map D.int).length ≤ 100000 := by simp; omega
  have it : ∀ S, itemsOf z S = .ok (ps.map pairD) S := fun S => by rcases hz with rfl | rfl <;> rfl
  unfold placesD
  generalize (closeL (sortD (ps.map fun p => (p.2, p.1))) P).map D.int = C at *
  generalize (closedP ps P).map D.int = Z at *
  generalize (sortD (ps.map fun p => (p.2, p.1))).map pairD = SD at *
  generalize (ps.map fun p => (p.2, p.1)).map pairD = SW at *
  generalize ps.map pairD = PS at *
  generalize P.map D.int = Pd at *
  show fnM 6 2 (mSeq _ (mSeq (mFor _ _ mCl) _)) _ _ = _
  generalize mCl = M at *
  simp [fnM, it, l2, lP, lc, sr, lp, fz, ss, fin_nil pd]
theorem tiled_z {ps : List (Int × Int)} {s e : Int} {z : D} (hz : z = .tup (ps.map pairD) ∨ z = .lst (ps.map pairD)) (hb : ∀ p ∈ ps, (0 ≤ p.1 ∧ p.1 < lim) ∧ 0 ≤ p.2 ∧ p.2 < lim) (hl : ps.length < 60) (S : Store) : fPure f_l_tiled [z, pairD (s, e)] S = .ok (.bl (decide (s ∈ closedP ps [e]))) S := by
  have pz : pureD z = true := by rcases hz with rfl | rfl <;> exact pure_pairs ps
  have ps' : pureD (pairD (s, e)) = true := rfl
  refine fPure_ap S (by simp only [pureL_cons, pz, ps', pureL_nil]; rfl) ?_
  have c := fun S => fPure_ap S (by have : pureD (placesD [e]) = true := rfl; simp only [pureL_cons, pz, this, pureL_nil]; rfl) (closed_z (P := [e]) hz hb (by simp only [List.length_cons, List.length_nil]; omega))
  have ep : placesD [e] = .tup [.int e] := rfl
  rw [ep] at c
  have i1 : ∀ m S, opIn (.int m) (placesD (closedP ps [e])) S = .ok (.bl (decide (m ∈ closedP ps [e]))) S := fun m S => in_places
  unfold f_l_tiled m_l_tiled
  rw [fnM_2]
  generalize placesD (closedP ps [e]) = Y at *
  simp [pairD, c, i1, fin_nil]
def lsD : Nat → D → D
  | n + 1, .tup xs => .lst (xs.map (lsD n))
  | n + 1, .lst xs => .lst (xs.map (lsD n))
  | _, d => d
theorem lists_ok : ∀ (k n : Nat) (d : D) (S : Store), okD n d = true → n < k → f_l_lists k [d] S = .ok (lsD n d) S
  | 0, n, d, S, _, hk => absurd hk (by omega)
  | k + 1, n, d, S, h, hk => by
    have seq : ∀ (m : Nat) (xs : List D), (∀ x ∈ xs, okD m x = true) → m < k → ∀ ρ : Q.Env, 1 < ρ.length → ∀ S, lcL (mgN 1) mYes (mCall (fPure (f_l_lists k)) (mCons (mVar 1) mNil)) ρ xs S = .ok (xs.map (lsD m)) S := fun m xs hx hm ρ hρ S => by
      refine lcL_map (f := lsD m) xs S fun x hxm => ⟨_, rfl, ?_⟩
      have p := okD_pure _ _ (hx x hxm)
      have e : (ρ.set 1 (some x))[1]? = some (some x) := List.getElem?_set_self hρ
      simp only [ap_call, ap_cons, ap_var, e, varK_some, bind_ok, consK_ap, ap_nil, consK2_ap]
      exact fPure_ap S (by simp [p]) (lists_ok k m x [] (hx x hxm) hm)
    cases d with
    | non => simp [f_l_lists, fnM, m_l_lists, isTy]; cases n <;> rfl
    | bl b => simp [f_l_lists, fnM, m_l_lists, isTy]; cases n <;> rfl
    | int b => simp [f_l_lists, fnM, m_l_lists, isTy]; cases n <;> rfl
    | str b => simp [f_l_lists, fnM, m_l_lists, isTy]; cases n <;> rfl
    | tup xs =>
      cases n with
      | zero => simp [okD] at h
      | succ n =>
        rw [okD_tup, Bool.and_eq_true, decide_eq_true_eq] at h
        have hs := fun ρ hρ S => seq n xs (fun x hx => List.all_eq_true.mp h.2 x hx) (by omega) ρ hρ S
        simp [f_l_lists, fnM, m_l_lists, isTy, h.1, hs, lsD]
    | lst xs =>
      cases n with
      | zero => simp [okD] at h
      | succ n =>
        rw [okD_lst, Bool.and_eq_true, decide_eq_true_eq] at h
        have hs := fun ρ hρ S => seq n xs (fun x hx => List.all_eq_true.mp h.2 x hx) (by omega) ρ hρ S
        simp [f_l_lists, fnM, m_l_lists, isTy, h.1, hs, lsD]
    | fro xs => cases n <;> simp [okD] at h
    | obj c xs => cases n <;> simp [okD] at h
    | exn c xs => cases n <;> simp [okD] at h
    | ref j => cases n <;> simp [okD] at h
theorem listsP {d : D} {n : Nat} (S : Store) (h : okD n d = true) (hn : n < 30) : fPure (f_l_lists 30) [d] S = .ok (lsD n d) S := fPure_ap S (by simp [okD_pure n d h]) (lists_ok 30 n d [] h hn)
theorem okD_up : ∀ (n m : Nat) (d : D), okD n d = true → n ≤ m → okD m d = true
  | n, m, .non, _, _ => okD_non m
  | n, m, .bl b, _, _ => okD_bl m b
  | n, m, .int b, _, _ => okD_int m b
  | n, m, .str b, _, _ => okD_str m b
  | 0, m, .tup xs, h, _ => by simp [okD] at h
  | 0, m, .lst xs, h, _ => by simp [okD] at h
  | n + 1, 0, .tup xs, _, hm => by omega
  | n + 1, 0, .lst xs, _, hm => by omega
  | n + 1, m + 1, .tup xs, h, hm => by
    rw [okD_tup, Bool.and_eq_true] at h ⊢
    exact ⟨h.1, List.all_eq_true.mpr fun d hd => okD_up n m d (List.all_eq_true.mp h.2 d hd) (by omega)⟩
  | n + 1, m + 1, .lst xs, h, hm => by
    rw [okD_lst, Bool.and_eq_true] at h ⊢
    exact ⟨h.1, List.all_eq_true.mpr fun d hd => okD_up n m d (List.all_eq_true.mp h.2 d hd) (by omega)⟩
  | n, m, .fro _, h, _ => by cases n <;> simp [okD] at h
  | n, m, .obj _ _, h, _ => by cases n <;> simp [okD] at h
  | n, m, .exn _ _, h, _ => by cases n <;> simp [okD] at h
  | n, m, .ref _, h, _ => by cases n <;> simp [okD] at h
def ChRow : Int → List (Int × Int) → Int → Prop
  | p, [], q => p = q
  | p, k :: r, q => k.1 = p ∧ ChRow k.2 r q
theorem ChRow.snoc : ∀ {r : List (Int × Int)} {p q : Int}, ChRow p r q → ∀ k : Int × Int, k.1 = q → ChRow p (r ++ [k]) k.2
  | [], p, q, h, k, e => ⟨e.trans h.symm, rfl⟩
  | x :: r, p, q, h, k, e => ⟨h.1, ChRow.snoc h.2 k e⟩
abbrev TK := List (Int × List (Int × Int))
def tkD (ks : TK) : List (Key × D) := ks.map fun x => (.inl x.1, .tup (x.2.map pairD))
def getT_m (ks : TK) (p : Int) : Option (List (Int × Int)) := (ks.find? fun x => decide (x.1 = p)).map (·.2)
theorem getT_cons_m (x : Int × List (Int × Int)) (ks : TK) (m : Int) : getT_m (x :: ks) m = if x.1 = m then some x.2 else getT_m ks m := by
  by_cases h : x.1 = m <;> simp [getT_m, List.find?_cons, h]
theorem valD_tk (ks : TK) (p : Int) : valD (tkD ks) (.inl p) = (getT_m ks p).map fun l => .tup (l.map pairD) := by
  induction ks with
  | nil => rfl
  | cons x ks ih =>
    show valD (((.inl x.1 : Key), D.tup (x.2.map pairD)) :: tkD ks) _ = _
    rw [valD_cons, getT_cons_m, ih]
    by_cases e : x.1 = p
    · subst e; simp
    · rw [if_neg e, if_neg fun z => e (Sum.inl.inj z)]
theorem getT_none_m {p : Int} : ∀ {ks : TK}, p ∉ ks.map (·.1) → getT_m ks p = none
  | [], _ => rfl
  | x :: ks, h => by
    rw [List.map_cons, List.mem_cons, not_or] at h
    rw [getT_cons_m, if_neg (fun e => h.1 e.symm), getT_none_m h.2]
theorem getT_key_m {p : Int} : ∀ {ks : TK}, p ∈ ks.map (·.1) → ∃ l, getT_m ks p = some l ∧ (p, l) ∈ ks
  | [], h => by simp at h
  | x :: ks, h => by
    rw [getT_cons_m]
    by_cases e : x.1 = p
    · subst e
      exact ⟨x.2, by simp, List.mem_cons_self ..⟩
    · rw [List.map_cons, List.mem_cons] at h
      obtain ⟨l, h1, h2⟩ := getT_key_m (h.resolve_left fun z => e z.symm)
      exact ⟨l, by rw [if_neg e]; exact h1, List.mem_cons_of_mem _ h2⟩
theorem getT_some {p : Int} {ks : TK} : (getT_m ks p).isSome = decide (p ∈ ks.map (·.1)) := by
  by_cases h : p ∈ ks.map (·.1)
  · obtain ⟨q, e, _⟩ := getT_key_m h
    rw [e, decide_eq_true h]; rfl
  · rw [getT_none_m h, decide_eq_false h]; rfl
theorem putD_tk {ks : TK} {p : Int} {l : List (Int × Int)} (h : p ∉ ks.map (·.1)) : putD (tkD ks) (.inl p) (.tup (l.map pairD)) = tkD (ks ++ [(p, l)]) := by
  have : ((tkD ks).any fun kv => decide (kv.1 = (Sum.inl p : Key))) = false := by
    rw [Bool.eq_false_iff]
    intro z
    rw [List.any_eq_true] at z
    obtain ⟨y, hy, e⟩ := z
    obtain ⟨x, hx, rfl⟩ := List.mem_map.mp hy
    simp at e
    exact h (by rw [← e]; exact List.mem_map.mpr ⟨x, hx, rfl⟩)
  unfold putD
  rw [if_neg (by rw [this]; simp)]
  unfold tkD
  simp
def stepT (ks : TK) (q : Int × Int) : TK := match getT_m ks q.1 with
  | some l => if (getT_m ks q.2).isSome then ks else ks ++ [(q.2, l ++ [q])]
  | none => ks
structure TI (ps : List (Int × Int)) (first : Int) (pre : List (Int × Int)) (ks : TK) : Prop where
  fst : first ∈ ks.map (·.1)
  til : ∀ x ∈ ks.map (·.1), Til ps x first
  cl : ∀ q ∈ pre, q.1 ∈ ks.map (·.1) → q.2 ∈ ks.map (·.1)
  len : ∀ x ∈ ks, x.2.length ≤ pre.length
  num : ks.length ≤ pre.length + 1
  row : ∀ x ∈ ks, ChRow first x.2 x.1 ∧ ∀ q ∈ x.2, q ∈ ps
theorem til_up {ps : List (Int × Int)} {q : Int × Int} {first : Int} (hq : q ∈ ps) (t : Til ps q.1 first) : Til ps q.2 first := (Til.one hq).trans t
theorem TI.step {ps pre : List (Int × Int)} {first : Int} {ks : TK} {q : Int × Int} (h : TI ps first pre ks) (hq : q ∈ ps) (hlt : q.1 < q.2) (hb : ∀ q' ∈ pre, q'.1 ≤ q.1) : TI ps first (pre ++ [q]) (stepT ks q) := by
  unfold stepT
  by_cases h1 : q.1 ∈ ks.map (·.1)
  · obtain ⟨l, e1, hm⟩ := getT_key_m h1
    rw [e1]
    simp only
    rw [getT_some]
    by_cases h2 : q.2 ∈ ks.map (·.1)
    · rw [if_pos (decide_eq_true h2)]
      refine ⟨h.fst, h.til, fun q' hq' h' => ?_, fun x hx => ?_, ?_, h.row⟩
      · rcases List.mem_append.mp hq' with m | m
        · exact h.cl q' m h'
        · simp at m; subst m; exact h2
      · have := h.len x hx; simp; omega
      · have := h.num; simp; omega
    · rw [if_neg (by rw [decide_eq_false h2]; simp)]
      have ke : (ks ++ [(q.2, l ++ [q])]).map (·.1) = ks.map (·.1) ++ [q.2] := by simp
      refine ⟨by rw [ke]; exact List.mem_append_left _ h.fst, fun x hx => ?_, fun q' hq' h' => ?_, fun x hx => ?_, ?_, fun x hx => ?_⟩
      · rw [ke, List.mem_append] at hx
        rcases hx with hx | hx
        · exact h.til x hx
        · simp at hx; subst hx
          exact til_up hq (h.til _ h1)
      · rw [ke] at h' ⊢
        rcases List.mem_append.mp hq' with m | m
        · rcases List.mem_append.mp h' with h' | h'
          · exact List.mem_append_left _ (h.cl q' m h')
          · simp at h'
            have := hb q' m
            omega
        · simp at m; subst m; simp
      · rcases List.mem_append.mp hx with m | m
        · have := h.len x m; simp; omega
        · simp at m
          subst m
          have := h.len _ hm
          simp at this ⊢
          omega
      · have := h.num; simp; omega
      · rcases List.mem_append.mp hx with m | m
        · exact h.row x m
        · simp at m
          subst m
          obtain ⟨r1, r2⟩ := h.row _ hm
          refine ⟨r1.snoc q rfl, fun y hy => ?_⟩
          rcases List.mem_append.mp hy with z | z
          · exact r2 y z
          · simp at z; subst z; exact hq
  · rw [getT_none_m h1]
    refine ⟨h.fst, h.til, fun q' hq' h' => ?_, fun x hx => ?_, ?_, h.row⟩
    · rcases List.mem_append.mp hq' with m | m
      · exact h.cl q' m h'
      · simp at m; subst m; exact absurd h' h1
    · have := h.len x hx; simp; omega
    · have := h.num; simp; omega
theorem TI.start (ps : List (Int × Int)) (first : Int) : TI ps first [] [(first, [])] := by
  refine ⟨by simp, fun x hx => ?_, fun q hq => (by cases hq), fun x hx => ?_, by simp, fun x hx => ?_⟩
  · simp at hx
    rw [hx]
    exact Til.here
  · simp at hx
    rw [hx]
    simp
  · simp at hx
    rw [hx]
    exact ⟨rfl, by simp⟩
theorem TI.done {ps : List (Int × Int)} {first : Int} {ks : TK} (h : TI ps first ps ks) {last : Int} : last ∈ ks.map (·.1) ↔ Til ps last first := by
  refine ⟨h.til last, fun t => ?_⟩
  have go : ∀ y, Til ps last y → y ∈ ks.map (·.1) → last ∈ ks.map (·.1) := fun y t => by
    induction t with
    | here => exact id
    | @look p hp _ ih => exact fun hy => ih (h.cl p hp hy)
  exact go first t h.fst
def mTl : MS := (mIf (mAndT (mTB (mDIn (mVar 5) (mVar 4))) (mTB (mDNin (mVar 6) (mVar 4)))) (mAsg (mTup (mStar (mDGet (mVar 4) (mVar 5)) (mCons (mTup (mCons (mVar 5) (mCons (mVar 6) mNil))) mNil))) (mgDSub (mVar 4) (mVar 6))) mSkip)
theorem tl_step {v0 v1 v2 v3 : Option D} {ks : TK} {q : Int × Int} (hn : ks.length ≤ 1000) (hl : ∀ x ∈ ks, x.2.length ≤ 1000) :
    mTl [v0, v1, v2, v3, some (.ref 0), some (.int q.1), some (.int q.2)] [.dk false (tkD ks)] = .ok (.nx [v0, v1, v2, v3, some (.ref 0), some (.int q.1), some (.int q.2)]) [.dk false (tkD (stepT ks q))] := by
  have g : ∀ p, dgetD [.dk false (tkD ks)] (.ref 0) (.int p) = some ((getT_m ks p).map fun l => .tup (l.map pairD)) := fun p => by rw [dgetD_k rfl, valD_tk]
  have di : ∀ p, dinK (.int p) (.ref 0) [.dk false (tkD ks)] = .ok (.bl (decide (p ∈ ks.map (·.1)))) [.dk false (tkD ks)] := fun p => by rw [dinK_of (g p), Option.isSome_map, getT_some]
  have dn : ∀ p, dninK (.int p) (.ref 0) [.dk false (tkD ks)] = .ok (.bl (!decide (p ∈ ks.map (·.1)))) [.dk false (tkD ks)] := fun p => by rw [dninK_of (g p), Option.isSome_map, getT_some]
  have d1 := di q.1
  have d2 := dn q.2
  unfold stepT
  by_cases h1 : q.1 ∈ ks.map (·.1)
  · obtain ⟨l, e1, hm⟩ := getT_key_m h1
    rw [e1]
    simp only
    rw [getT_some]
    rw [decide_eq_true h1] at d1
    by_cases h2 : q.2 ∈ ks.map (·.1)
    · rw [if_pos (decide_eq_true h2)]
      rw [decide_eq_true h2] at d2
      unfold mTl
      generalize tkD ks = kv at *
      simp [d1, d2]
    · rw [if_neg (by rw [decide_eq_false h2]; simp)]
      rw [decide_eq_false h2] at d2
      have gk : dgetK (.ref 0) (.int q.1) [.dk false (tkD ks)] = .ok (.tup (l.map pairD)) [.dk false (tkD ks)] := dgetK_of (by rw [g, e1]; rfl)
      have pt : dputD [.dk false (tkD ks)] (.ref 0) (.int q.2) (.tup ((l ++ [q]).map pairD)) = some [.dk false (tkD (ks ++ [(q.2, l ++ [q])]))] := by
        rw [Q.dputD_k rfl (by simp [tkD]; omega), putD_tk h2]
        rfl
      have ll := hl _ hm
      simp only at ll
      have e2 : (l ++ [q]).map pairD = l.map pairD ++ [.tup [.int q.1, .int q.2]] := by simp [pairD]
      have hz : (l.map pairD).length + 1 ≤ 100000 := by simp; omega
      rw [e2] at pt
      unfold mTl
      generalize l.map pairD = L at *
      generalize tkD (ks ++ [(q.2, l ++ [q])]) = kv2 at *
      generalize tkD ks = kv at *
      simp [d1, d2, gk, hz, gDSub_of pt]
  · rw [getT_none_m h1]
    rw [decide_eq_false h1] at d1
    unfold mTl
    generalize tkD ks = kv at *
    simp [d1]
theorem tl_loop {ps : List (Int × Int)} {first : Int} {v0 v1 v2 v3 : Option D} : ∀ (L pre : List (Int × Int)) (ks : TK) (v5 v6 : Option D), TI ps first pre ks → (pre ++ L).Pairwise plt → (∀ q ∈ L, q ∈ ps ∧ q.1 < q.2) → pre.length + L.length ≤ 900 →
    ∃ w5 w6, forL (mgTup 2 (mgCons (mgN 5) (mgCons (mgN 6) mgNil))) mTl (L.map pairD) [v0, v1, v2, v3, some (.ref 0), v5, v6] [.dk false (tkD ks)] = .ok (.nx [v0, v1, v2, v3, some (.ref 0), w5, w6]) [.dk false (tkD (L.foldl stepT ks))] ∧ TI ps first (pre ++ L) (L.foldl stepT ks)
  | [], pre, ks, v5, v6, h, _, _, _ => ⟨v5, v6, rfl, by rw [List.append_nil]; exact h⟩
  | q :: L, pre, ks, v5, v6, h, hp, hq, hl => by
    have hq0 := hq q (List.mem_cons_self ..)
    rw [List.length_cons] at hl
    have hb : ∀ q' ∈ pre, q'.1 ≤ q.1 := fun q' hq' => by
      have := (List.pairwise_append.mp hp).2.2 q' hq' q (List.mem_cons_self ..)
      unfold plt at this
      omega
    have e0 : pre ++ q :: L = (pre ++ [q]) ++ L := by simp
    have st := tl_step (v0 := v0) (v1 := v1) (v2 := v2) (v3 := v3) (q := q) (ks := ks) (by have := h.num; omega) (fun x hx => by have := h.len x hx; omega)
    obtain ⟨w5, w6, e, h'⟩ := tl_loop (v0 := v0) (v1 := v1) (v2 := v2) (v3 := v3) L (pre ++ [q]) (stepT ks q) (some (.int q.1)) (some (.int q.2)) (h.step hq0.1 hq0.2 hb) (by rw [← e0]; exact hp) (fun x hx => hq x (List.mem_cons_of_mem _ hx)) (by simp; omega)
    refine ⟨w5, w6, ?_, by rw [e0]; exact h'⟩
    rw [List.map_cons, forL_cons, List.foldl_cons]
    generalize tkD (L.foldl stepT (stepT ks q)) = kv3 at *
    generalize mTl = M at *
    generalize tkD (stepT ks q) = kv2 at *
    generalize tkD ks = kv at *
    simp [pairD, st, e]
def tilO (ps : List (Int × Int)) (s e : Int) : Option (List (Int × Int)) := getT_m (ps.foldl stepT [(s, [])]) e
def tilD (ps : List (Int × Int)) (s e : Int) : D := ((tilO ps s e).map fun l => .tup (l.map pairD)).getD .non
theorem till_z {B T : D} {many a b s e : Int} {ps : List (Int × Int)} (hB : IsBook B many a b ps) (hT : T = .tup [.int s, .int e] ∨ T = .lst [.int s, .int e]) (hl : ps.length < 64) (hlt : ∀ p ∈ ps, p.1 < p.2) (up : ps.Pairwise plt) (S : Store) :
    fPure f_p_tiling [B, T] S = .ok (tilD ps s e) S := by
  have pb := hB.pure
  have pT : pureD T = true := by rcases hT with rfl | rfl <;> rfl
  have tp := fun S => hB.tup S
  have i2 : ∀ S, opIx (bookD many a b ps) (.int 2) S = .ok (.tup (ps.map pairD)) S := fun S => rfl
  have hz : (ps.map pairD).length ≤ 100000 := by rw [List.length_map]; omega
  obtain ⟨w5, w6, lp, hI⟩ := tl_loop (ps := ps) (first := s) (v0 := some B) (v1 := some T) (v2 := some (.int s)) (v3 := some (.int e)) ps [] [(s, [])] none none (TI.start ps s) (by simpa using up) (fun q hq => ⟨hq, hlt q hq⟩) (by simp; omega)
  have k0 : tkD [(s, [])] = [(.inl s, .tup [])] := rfl
  rw [k0] at lp
  have gd : dgetD [.dk false (tkD (ps.foldl stepT [(s, [])]))] (.ref 0) (.int e) = some ((tilO ps s e).map fun l => .tup (l.map pairD)) := by rw [dgetD_k rfl, valD_tk]; rfl
  have g1 := dGet1K2_of gd
  have gk : ∀ (mi : ME) (ρ : Q.Env), dGet1K1 mi ρ (.ref 0) [.dk false (tkD (ps.foldl stepT [(s, [])]))] = (mi ρ [.dk false (tkD (ps.foldl stepT [(s, [])]))]).bind (dGet1K2 (.ref 0)) := fun mi ρ => dGet1K1_k rfl
  have pz : pureD (tilD ps s e) = true := by
    unfold tilD
    cases tilO ps s e with
    | none => rfl
    | some l => exact pureL_map (fun _ => rfl) l
  refine fPure_ap S (by simp only [pureL_cons, pb, pT, pureL_nil]; rfl) ?_
  unfold f_p_tiling m_p_tiling
  rw [fnM_2]
  unfold mTl at lp
  clear gd hB hI
  have g2 : dGet1K2 (.ref 0) (.int e) [.dk false (tkD (ps.foldl stepT [(s, [])]))] = .ok (tilD ps s e) [.dk false (tkD (ps.foldl stepT [(s, [])]))] := g1
  clear g1
  generalize tilD ps s e = R at *
  generalize tkD (ps.foldl stepT [(s, [])]) = kv at *
  generalize ps.map pairD = L at *
  generalize bookD many a b ps = bk at *
  rcases hT with rfl | rfl
  · simp [tp, i2, hz, lp, gk, g2, fin_nil, pz]
  · simp [tp, i2, hz, lp, gk, g2, fin_nil, pz]
theorem tilO_ti {ps : List (Int × Int)} {s : Int} (hl : ps.length < 64) (hlt : ∀ p ∈ ps, p.1 < p.2) (up : ps.Pairwise plt) : TI ps s ps (ps.foldl stepT [(s, [])]) := by
  obtain ⟨w5, w6, lp, hI⟩ := tl_loop (ps := ps) (first := s) (v0 := none) (v1 := none) (v2 := none) (v3 := none) ps [] [(s, [])] none none (TI.start ps s) (by simpa using up) (fun q hq => ⟨hq, hlt q hq⟩) (by simp; omega)
  simpa using hI
section
variable {S0 T T' : Store} {k N M i j l : Nat}
def InB (S0 : Store) (k N : Nat) (T : Store) : Prop := ∃ U : Store, BoxS (S0 ++ U) k N T ∧ k < S0.length
theorem InB.start (h : BoxS S0 k N T) : InB S0 k N T := ⟨[], by simpa using h, h.lt⟩
theorem InB.len (h : InB S0 k N T) : S0.length ≤ T.length := by
  obtain ⟨U, hb, _⟩ := h
  rw [hb.len]
  simp
theorem InB.lt (h : InB S0 k N T) : k < S0.length := by obtain ⟨U, _, hk⟩ := h; exact hk
theorem InB.mono (h : InB S0 k N T) (hM : N ≤ M) : InB S0 k M T := by obtain ⟨U, hb, hk⟩ := h; exact ⟨U, hb.mono hM, hk⟩
theorem InB.push (c : Cell) (h : InB S0 k N T) : InB S0 k N (T ++ [c]) := by
  obtain ⟨U, hb, hk⟩ := h
  exact ⟨U ++ [c], by rw [← List.append_assoc]; exact hb.push c, hk⟩
theorem InB.put {c : Cell} (h : InB S0 k N T) (hi : S0.length ≤ i) : InB S0 k N (T.set i c) := by
  obtain ⟨U, ⟨y, rfl, hy, _⟩, hk⟩ := h
  refine ⟨U.set (i - S0.length) c, ⟨y, ?_, hy, by simp; omega⟩, hk⟩
  rw [List.set_comm _ _ (show k ≠ i by omega), List.set_append_right _ _ hi]
theorem InB.box (h : InB S0 k N T) : BoxS T k N T := by
  obtain ⟨U, ⟨y, rfl, hy, hk2⟩, hk⟩ := h
  exact BoxS.start (x := y) (List.getElem?_set_self (by simp; omega)) hy
theorem InB.fin {d : D} (h : InB S0 k N T) (hp : S0.all Cell.pure = true) (hd : pureD d = true) : ∃ S', fin S0.length d T = .ok d S' ∧ BoxS S0 k N S' := by
  obtain ⟨U, ⟨y, rfl, hy, hk2⟩, hk⟩ := h
  have e : ((S0 ++ U).set k y).take S0.length = S0.set k y := by
    rw [List.set_append_left _ _ hk]
    exact List.take_left' (by simp)
  have hb : BoxS S0 k N (S0.set k y) := ⟨y, rfl, hy, hk⟩
  refine ⟨S0.set k y, ?_, hb⟩
  by_cases hl : S0.length < ((S0 ++ U).set k y).length
  · rw [fin_ok hl hd (by rw [e]; exact hb.pure hp), e]
  · have hU : U = [] := by
      simp at hl
      exact hl
    subst hU
    unfold Q.fin
    rw [if_pos (by simp)]
    simp
end
def pL32 (p : Int × Int) : D := .lst [.int p.1, .int p.2]
def bkL (n a b : Int) (ps : List (Int × Int)) : D := .lst [.int n, .lst [.int a, .int b], .lst (ps.map pL32)]
def IsB32 (X : D) (n a b : Int) (ps : List (Int × Int)) : Prop := X = bookD n a b ps ∨ X = bkL n a b ps
section
variable {n : Nat} {a b c d : Int} {ps qs : List (Int × Int)} {X Y : D} {S : Store}
theorem okD_bk (h : ps.length ≤ 1000) : okD 4 (bookD n a b ps) = true := by
  have e : (ps.map pairD).all (okD 2) = true := okD_map (fun x => rfl) ps
  have l : (ps.map pairD).length ≤ 100000 := by simp; omega
  unfold bookD looksD
  generalize ps.map pairD = P at *
  simp [okD_tup, e, l]
theorem okD_bkL (h : ps.length ≤ 1000) : okD 4 (bkL n a b ps) = true := by
  have e : (ps.map pL32).all (okD 2) = true := okD_map (fun x => rfl) ps
  have l : (ps.map pL32).length ≤ 100000 := by simp; omega
  unfold bkL
  generalize ps.map pL32 = P at *
  simp [okD_lst, e, l]
theorem tuD_bkL : tuD 4 (bkL n a b ps) = bookD n a b ps := by
  have e : (ps.map pL32).map (tuD 2) = ps.map pairD := tuD_map (fun x => rfl) ps
  unfold bookD looksD
  rw [← e]
  rfl
theorem lsD_bk : lsD 4 (bookD n a b ps) = bkL n a b ps := by
  have e : (ps.map pairD).map (lsD 2) = ps.map pL32 := by
    rw [List.map_map]
    exact List.map_congr_left fun x _ => rfl
  unfold bkL
  rw [← e]
  rfl
theorem lists_bk (h : ps.length ≤ 1000) (S : Store) : fPure (f_l_lists 30) [bookD n a b ps] S = .ok (bkL n a b ps) S := by
  rw [listsP S (okD_bk h) (by decide), lsD_bk]
theorem IsB32.ok (h : IsB32 X n a b ps) (hl : ps.length ≤ 1000) : okD 4 X = true := by
  rcases h with rfl | rfl
  · exact okD_bk hl
  · exact okD_bkL hl
theorem IsB32.book (h : IsB32 X n a b ps) (hl : ps.length ≤ 1000) : IsBook X n a b ps := by
  rcases h with rfl | rfl
  · exact isBook (by omega)
  · exact ⟨fun S => by rw [tupledP S (okD_bkL hl) (by decide), tuD_bkL], okD_pure 4 _ (okD_bkL hl)⟩
theorem IsB32.i0 (h : IsB32 X n a b ps) (S : Store) : opIx X (.int 0) S = .ok (.int n) S := by
  rcases h with rfl | rfl <;> rfl
theorem leastX (hX : IsB32 X n a b ps) (hb : LooksOk n ps) (hl : ps.length < 63) (hn : n < 1000) (S : Store) : fPure f_p_least [X] S = .ok (bookD n a b (leastR ps)) S := by
  have iB := hX.book (by omega)
  refine fPure_ap S (by simp only [pureL_cons, iB.pure, pureL_nil]; rfl) ?_
  have t := iB.tup
  obtain ⟨w5, w6, lp⟩ := least_loop (B := some X) (N := some (.int n)) (L := some (.tup [.int a, .int b])) hb hn hl ps [] none none (by simp; omega)
  rw [List.nil_append] at lp
  have lp' : forL (mgN 5) mLe (ps.map pairD) [some X, some (.int n), some (.tup [.int a, .int b]), some (looksD ps), some (.ref 0), none, none, none] [.lst []] = .ok (.nx [some X, some (.int n), some (.tup [.int a, .int b]), some (looksD ps), some (.ref 0), w5, w6, none]) [.lst ((leastR ps).map pairD)] := lp
  clear lp
  have pp := pure_pairs (leastR ps)
  have hz : (ps.map pairD).length ≤ 100000 := by simp; omega
  have hz2 : ((leastR ps).map pairD).length ≤ 100000 := by have := least_len ps; simp; omega
  have ft : fTuple [.ref 0] [.lst ((leastR ps).map pairD)] = .ok (.tup ((leastR ps).map pairD)) [.lst ((leastR ps).map pairD)] := by
    simp [fTuple, un1, gTuple, seqOf, rdL, lstOf]
  unfold f_p_least m_p_least
  rw [fnM_1]
  show endM 0 (mSeq _ (mSeq _ (mSeq (mFor _ _ mLe) _)) _ _) = _
  generalize mLe = mS at *
  unfold bookD at t ⊢
  unfold looksD at t lp' ⊢
  generalize (leastR ps).map pairD = SR at *
  generalize ps.map pairD = LK at *
  simp -implicitDefEqProofs [t, hz, lp', ft, fin_nil, pp]
theorem sureX (hX : IsB32 X n a b ps) (hb : LooksOk n ps) (hl : ps.length < 63) (hn : n < 100) (S : Store) : fPure f_p_sure [X] S = .ok (.lst ((sureR ps n).map pairD)) S := by
  have iB := hX.book (by omega)
  refine fPure_ap S (by simp only [pureL_cons, iB.pure, pureL_nil]; rfl) ?_
  have t := iB.tup
  have hb2 := lim_ok (show (n : Int) < lim by unfold lim; omega) hb
  obtain ⟨w5, lp⟩ := sure_loop (B := some X) (N := some (.int n)) (L := some (.tup [.int a, .int b])) (S := []) (j := 0) rfl hb2 hl hb.lt (endsR n) [] none (by simp [endsR]; omega)
  have r2 : ∀ T, r2K2 (.int 1) (.int ((n : Int) + 1)) T = .ok ((endsR n).map .int) T := fun T => by
    have := @range2_nat 1 (n + 1) T (by omega) (by omega)
    rw [show n + 1 - 1 = n by omega] at this
    rw [← rangeD_ends]
    simpa using this
  have sk : skK (.ref 0) [.lst ((sureL ps n).map pairD)] = .ok (.lst ((sureR ps n).map pairD)) [.lst ((sureL ps n).map pairD)] := skK_pairs (by simp [rdL, lstOf])
  have hs : (endsR n).flatMap (rowR ps) = sureL ps n := rfl
  have pp := pure_pairs (sureR ps n)
  rw [List.nil_append, hs] at lp
  simp only [List.map_nil, List.nil_append] at lp
  unfold f_p_sure m_p_sure
  rw [fnM_1]
  show endM 0 (mSeq _ (mSeq _ (mSeq (mFor _ _ mSu) _)) _ _) = _
  generalize mSu = mS at *
  generalize (sureL ps n).map pairD = SL at *
  generalize (sureR ps n).map pairD = SR at *
  unfold bookD at t
  generalize looksD ps = LK at *
  simp -implicitDefEqProofs [t, r2, lp, sk, fin_nil, pp]
theorem reachedX (hX : IsB32 X n a b ps) (hb : LooksOk n ps) (hl : ps.length < 63) (hn : n < 1000) (k : Int) (S : Store) : fPure f_p_reached [X, .int k] S = .ok (.lst ((closedP ps [k]).map .int)) S := by
  have iB := hX.book (by omega)
  refine fPure_ap S (by simp only [pureL_cons, iB.pure, pureL_nil]; rfl) ?_
  have t := iB.tup
  have i2 : ∀ S, opIx (bookD n a b ps) (.int 2) S = .ok (looksD ps) S := fun S => rfl
  have bl := fun S => belowP (S := S) (k := k) (lim_ok (show (n : Int) < lim by unfold lim; omega) hb) (show ps.length < 64 by omega)
  have pp : pureD (.lst ((closedP ps [k]).map .int)) = true := pure_ints _
  unfold f_p_reached m_p_reached
  rw [fnM_2]
  generalize D.lst ((closedP ps [k]).map .int) = CL at *
  generalize bookD n a b ps = BD at *
  generalize looksD ps = LK at *
  simp -implicitDefEqProofs [t, i2, bl, fin_nil, pp]
end
theorem repT32 {x : D} {k : Nat} (hk : k ≤ 1000) (S : Store) : opMul (.tup [x]) (.int (k : Nat)) S = .ok (.tup (List.replicate k x)) S := by
  unfold opMul opMulI fI opRep opRepT
  simp [lstOf, Res.orE, show (-100000 : Int) ≤ (k : Int) by omega, show (k : Int) ≤ 100000 by omega, show k ≤ 100000 by omega]
  omega
theorem okD_rep32 {x : D} {k m : Nat} (hk : k ≤ 1000) (h : okD m x = true) : okD (m + 1) (.tup (List.replicate k x)) = true := by
  rw [okD_tup, Bool.and_eq_true, decide_eq_true_eq, List.length_replicate]
  exact ⟨by omega, List.all_eq_true.mpr fun y hy => by rw [List.eq_of_mem_replicate hy]; exact h⟩
section
variable {n : Nat} {A B : BkD} {X Y : D}
theorem plimP (hn : n ≤ 100) (hA : BkOk n A) (hB : BkOk n B) : ∃ r, okD 4 r = true ∧ ∀ S, fPure f_p_parted_by_limit [A.d n, B.d n] S = .ok r S := by
  have p1 := hA.book.pure
  have p2 := hB.book.pure
  have pp : pureL [A.d n, B.d n] = true := by simp only [pureL_cons, p1, p2, pureL_nil]; rfl
  have i0 : ∀ S, opIx (A.d n) (.int 0) S = .ok (.int n) S := fun S => rfl
  have i1 : ∀ S, opIx (A.d n) (.int 1) S = .ok (.tup [.int A.a, .int A.b]) S := fun S => rfl
  have j1 : ∀ S, opIx (B.d n) (.int 1) S = .ok (.tup [.int B.a, .int B.b]) S := fun S => rfl
  have i2 : ∀ S, opIx (A.d n) (.int 2) S = .ok (looksD A.ps) S := fun S => rfl
  have j2 : ∀ S, opIx (B.d n) (.int 2) S = .ok (looksD B.ps) S := fun S => rfl
  have lA : ∀ S, fLen [looksD A.ps] S = .ok (.int (A.ps.length : Nat)) S := fun S => by
    have := hA.hl
    simp [looksD]
  have lB : ∀ S, fLen [looksD B.ps] S = .ok (.int (B.ps.length : Nat)) S := fun S => by
    have := hB.hl
    simp [looksD]
  have rp := fun (x : D) (S : Store) => repT32 (x := x) (k := n) (by omega) S
  by_cases hq : 0 < A.ps.length
  · refine ⟨.tup (List.replicate n (.tup [.int (A.b + B.b - A.a - B.a), .int (A.a + B.a)])), okD_rep32 (by omega) rfl, fun S => fPure_ap S pp ?_⟩
    have c : ((A.ps.length : Nat) : Int) > 0 ↔ True := ⟨fun _ => trivial, fun _ => by omega⟩
    have pr : pureD (.tup (List.replicate n (.tup [.int (A.b + B.b - A.a - B.a), .int (A.a + B.a)]))) = true := okD_pure 4 _ (okD_rep32 (by omega) rfl)
    unfold f_p_parted_by_limit m_p_parted_by_limit
    rw [fnM_2]
    generalize A.d n = Ad at *
    generalize B.d n = Bd at *
    generalize looksD A.ps = LA at *
    generalize looksD B.ps = LB at *
    generalize ((A.ps.length : Nat) : Int) = la at *
    simp -implicitDefEqProofs [i0, i1, j1, i2, j2, lA, lB, rp, c, fin_nil, pr]
  · have c : ((A.ps.length : Nat) : Int) = 0 := by omega
    by_cases hq2 : 0 < B.ps.length
    · refine ⟨.tup (List.replicate n (.tup [.int 0, .int 1])), okD_rep32 (by omega) rfl, fun S => fPure_ap S pp ?_⟩
      have pr : pureD (.tup (List.replicate n (.tup [.int 0, .int 1]))) = true := okD_pure 4 _ (okD_rep32 (by omega) rfl)
      have c2 : 0 < ((B.ps.length : Nat) : Int) ↔ True := ⟨fun _ => trivial, fun _ => by omega⟩
      rw [c] at lA
      unfold f_p_parted_by_limit m_p_parted_by_limit
      rw [fnM_2]
      generalize A.d n = Ad at *
      generalize B.d n = Bd at *
      generalize looksD A.ps = LA at *
      generalize looksD B.ps = LB at *
      generalize ((B.ps.length : Nat) : Int) = lb at *
      simp -implicitDefEqProofs [i0, i1, j1, i2, j2, lA, lB, rp, c2, fin_nil, pr]
    · have c2 : ((B.ps.length : Nat) : Int) = 0 := by omega
      refine ⟨.non, rfl, fun S => fPure_ap S pp ?_⟩
      rw [c] at lA
      rw [c2] at lB
      unfold f_p_parted_by_limit m_p_parted_by_limit
      rw [fnM_2]
      generalize A.d n = Ad at *
      generalize B.d n = Bd at *
      generalize looksD A.ps = LA at *
      generalize looksD B.ps = LB at *
      simp -implicitDefEqProofs [i0, i1, j1, i2, j2, lA, lB, rp, fin_nil]
theorem partX (hn : n ≤ 100) (hA : BkOk n A) (hB : BkOk n B) : ∃ r, okD 4 r = true ∧ ∀ X Y, IsB32 X n A.a A.b A.ps → IsB32 Y n B.a B.b B.ps → (∀ S, fPure f_p_parting [X, Y] S = .ok r S) ∧ ∀ S, fPure f_p_alike [X, Y] S = .ok (.bl (isNon r)) S := by
  have lA := hA.hl
  have lB := hB.hl
  have i0 : ∀ S, opIx (A.d n) (.int 0) S = .ok (.int n) S := fun S => rfl
  have i1 : ∀ S, opIx (A.d n) (.int 1) S = .ok (.tup [.int A.a, .int A.b]) S := fun S => rfl
  have j0 : ∀ S, opIx (B.d n) (.int 0) S = .ok (.int n) S := fun S => rfl
  have j1 : ∀ S, opIx (B.d n) (.int 1) S = .ok (.tup [.int B.a, .int B.b]) S := fun S => rfl
  have ne : ∀ S, opNe (.int n) (.int n) S = .ok (.bl false) S := fun S => by rw [ne_plain rfl rfl]; simp [deq]
  have nl : ∀ rows, isNon (logD rows) = false := fun _ => rfl
  have hl : ∀ (C : BkD) (q : Int × Int), (hillsR C.a C.b n (closedP C.ps [q.2])).length = n := fun C q => by simp [hillsR, minutes]
  have key : ∃ r, okD 4 r = true ∧ ∀ X Y, IsB32 X n A.a A.b A.ps → IsB32 Y n B.a B.b B.ps → ∀ S, fPure f_p_parting [X, Y] S = .ok r S := by
    have ag := agreeP hA hB
    by_cases he : A.a * B.b = B.a * A.b
    · rw [decide_eq_true he] at ag
      rcases partP hn hA hB with ⟨h1, e1⟩ | ⟨q, hq, h1, e1⟩
      · rcases partP hn hB hA with ⟨h2, e2⟩ | ⟨q, hq, h2, e2⟩
        · refine ⟨.non, rfl, fun X Y hX hY S => ?_⟩
          have t1 := (hX.book (by omega)).tup
          have t2 := (hY.book (by omega)).tup
          refine fPure_ap S (by simp only [pureL_cons, (hX.book (by omega)).pure, (hY.book (by omega)).pure, pureL_nil]; rfl) ?_
          change ∀ S, fPure (f_p_tupled 30) [X] S = .ok (A.d n) S at t1
          change ∀ S, fPure (f_p_tupled 30) [Y] S = .ok (B.d n) S at t2
          unfold f_p_parting m_p_parting
          rw [fnM_2]
          generalize A.d n = Ad at *
          generalize B.d n = Bd at *
          simp -implicitDefEqProofs [t1, t2, i0, i1, j0, j1, ne, ag, e1, e2, fin_nil]
        · refine ⟨_, ok_log (rows := hillsR B.a B.b n (closedP B.ps [q.2])) (by rw [hl]; omega), fun X Y hX hY S => ?_⟩
          have t1 := (hX.book (by omega)).tup
          have t2 := (hY.book (by omega)).tup
          refine fPure_ap S (by simp only [pureL_cons, (hX.book (by omega)).pure, (hY.book (by omega)).pure, pureL_nil]; rfl) ?_
          change ∀ S, fPure (f_p_tupled 30) [X] S = .ok (A.d n) S at t1
          change ∀ S, fPure (f_p_tupled 30) [Y] S = .ok (B.d n) S at t2
          have pl := pure_logD (hillsR B.a B.b n (closedP B.ps [q.2]))
          generalize logD (hillsR B.a B.b n (closedP B.ps [q.2])) = R at *
          unfold f_p_parting m_p_parting
          rw [fnM_2]
          generalize A.d n = Ad at *
          generalize B.d n = Bd at *
          simp -implicitDefEqProofs [t1, t2, i0, i1, j0, j1, ne, ag, e1, e2, fin_nil, pl]
      · refine ⟨_, ok_log (rows := hillsR A.a A.b n (closedP A.ps [q.2])) (by rw [hl]; omega), fun X Y hX hY S => ?_⟩
        have t1 := (hX.book (by omega)).tup
        have t2 := (hY.book (by omega)).tup
        refine fPure_ap S (by simp only [pureL_cons, (hX.book (by omega)).pure, (hY.book (by omega)).pure, pureL_nil]; rfl) ?_
        change ∀ S, fPure (f_p_tupled 30) [X] S = .ok (A.d n) S at t1
        change ∀ S, fPure (f_p_tupled 30) [Y] S = .ok (B.d n) S at t2
        have pl := pure_logD (hillsR A.a A.b n (closedP A.ps [q.2]))
        have nr := nl (hillsR A.a A.b n (closedP A.ps [q.2]))
        generalize logD (hillsR A.a A.b n (closedP A.ps [q.2])) = R at *
        unfold f_p_parting m_p_parting
        rw [fnM_2]
        generalize A.d n = Ad at *
        generalize B.d n = Bd at *
        simp -implicitDefEqProofs [t1, t2, i0, i1, j0, j1, ne, ag, e1, fin_nil, pl, nr]
    · rw [decide_eq_false he] at ag
      have hb : ∀ x : Int, x < 2 ^ 200 → x < big := fun x h => bigH (Int.le_trans (Int.le_of_lt h) (by decide))
      have a1 := hA.ha; have a2 := hA.hab; have a3 := hA.hb; have b1 := hB.ha; have b2 := hB.hab; have b3 := hB.hb
      have m1 : mulOk A.a B.b = true := mulOk_big (by omega) (hb _ (by omega)) (by omega) (hb _ b3)
      have m2 : mulOk B.a A.b = true := mulOk_big (by omega) (hb _ (by omega)) (by omega) (hb _ a3)
      obtain ⟨r1, o1, e1⟩ := plimP hn hA hB
      obtain ⟨r2, o2, e2⟩ := plimP hn hB hA
      have p1 := okD_pure 4 _ o1
      have p2 := okD_pure 4 _ o2
      by_cases lo : A.a * B.b < B.a * A.b
      · refine ⟨r1, o1, fun X Y hX hY S => ?_⟩
        have t1 := (hX.book (by omega)).tup
        have t2 := (hY.book (by omega)).tup
        refine fPure_ap S (by simp only [pureL_cons, (hX.book (by omega)).pure, (hY.book (by omega)).pure, pureL_nil]; rfl) ?_
        change ∀ S, fPure (f_p_tupled 30) [X] S = .ok (A.d n) S at t1
        change ∀ S, fPure (f_p_tupled 30) [Y] S = .ok (B.d n) S at t2
        unfold f_p_parting m_p_parting
        rw [fnM_2]
        generalize A.d n = Ad at *
        generalize B.d n = Bd at *
        simp -implicitDefEqProofs [t1, t2, i0, i1, j0, j1, ne, ag, m1, m2, lo, e1, fin_nil, p1]
      · refine ⟨r2, o2, fun X Y hX hY S => ?_⟩
        have t1 := (hX.book (by omega)).tup
        have t2 := (hY.book (by omega)).tup
        refine fPure_ap S (by simp only [pureL_cons, (hX.book (by omega)).pure, (hY.book (by omega)).pure, pureL_nil]; rfl) ?_
        change ∀ S, fPure (f_p_tupled 30) [X] S = .ok (A.d n) S at t1
        change ∀ S, fPure (f_p_tupled 30) [Y] S = .ok (B.d n) S at t2
        unfold f_p_parting m_p_parting
        rw [fnM_2]
        generalize A.d n = Ad at *
        generalize B.d n = Bd at *
        simp -implicitDefEqProofs [t1, t2, i0, i1, j0, j1, ne, ag, m1, m2, lo, e2, fin_nil, p2]
  obtain ⟨r, o, e⟩ := key
  refine ⟨r, o, fun X Y hX hY => ⟨e X Y hX hY, fun S => ?_⟩⟩
  have e := e X Y hX hY
  refine fPure_ap S (by simp only [pureL_cons, (hX.book (by omega)).pure, (hY.book (by omega)).pure, pureL_nil]; rfl) ?_
  unfold f_p_alike m_p_alike
  rw [fnM_2]
  simp -implicitDefEqProofs [e, fin_nil]
theorem cat32 {A B : List D} (h : A.length + B.length ≤ 100000) (S : Store) : opAdd (.lst A) (.lst B) S = .ok (.lst (A ++ B)) S := by
  show (opAddI (.lst A) (.lst B) S).orE (opCat (.lst A) (.lst B) S) = _
  have e1 : opAddI (.lst A) (.lst B) S = .no := rfl
  have e2 : opCat (.lst A) (.lst B) S = .ok (.lst (A ++ B)) S := by
    unfold opCat
    simp [lstOf, h]
  rw [e1, e2]
  rfl
theorem tilO_len {ps l : List (Int × Int)} {s e : Int} (hl : ps.length < 64) (hlt : ∀ p ∈ ps, p.1 < p.2) (up : ps.Pairwise plt) (h : tilO ps s e = some l) : l.length ≤ ps.length := by
  unfold tilO at h
  have hk : e ∈ (ps.foldl stepT [(s, [])]).map (·.1) := by
    have : (getT_m (ps.foldl stepT [(s, [])]) e).isSome = true := by rw [h]; rfl
    rw [getT_some, decide_eq_true_iff] at this
    exact this
  obtain ⟨l', e1, hm⟩ := getT_key_m hk
  rw [h] at e1
  injection e1 with e1
  subst e1
  exact (tilO_ti hl hlt up).len _ hm
theorem tilD_okD {ps : List (Int × Int)} {s e : Int} (hl : ps.length < 64) (hlt : ∀ p ∈ ps, p.1 < p.2) (up : ps.Pairwise plt) : okD 2 (tilD ps s e) = true := by
  unfold tilD
  cases h : tilO ps s e with
  | none => rfl
  | some l =>
    have ll := tilO_len hl hlt up h
    show okD 2 (.tup (l.map pairD)) = true
    rw [okD_tup, Bool.and_eq_true, decide_eq_true_eq, List.length_map]
    exact ⟨by omega, okD_map (fun _ => rfl) l⟩
theorem toldX (hn : n ≤ 12) (hA : BkOk n A) (hB : BkOk n B) : ∃ d, okD 20 d = true ∧ ∀ X Y, IsB32 X n A.a A.b A.ps → IsB32 Y n B.a B.b B.ps → ∀ S, fPure f_l_told [X, Y] S = .ok d S := by
  have lA := hA.hl
  have lB := hB.hl
  obtain ⟨r, o, e⟩ := partX (by omega) hA hB
  obtain ⟨r2, o2, e2⟩ := partX (by omega) hB hA
  have up := hA.hp.up
  have oT := tilD_okD (s := 0) (e := (n : Int)) (show A.ps.length < 64 by omega) hA.lt up
  have sl : (sureR A.ps n).length ≤ 1000 := Nat.le_trans (sureR_len A.ps n) (Nat.le_trans (Nat.mul_le_mul (show 1 + A.ps.length ≤ 40 by omega) hn) (by decide))
  have cl : (closedP A.ps [(n : Int)]).length ≤ 1000 := Nat.le_trans (closedP_len _ _) (by simp; omega)
  have ll := least_len A.ps
  refine ⟨.lst ([.lst ((sureR A.ps n).map pairD), bookD n A.a A.b (leastR A.ps), .lst ((closedP A.ps [(n : Int)]).map .int), tilD A.ps 0 n] ++ [.bl (isNon r), r2]), ?_, fun X Y hX hY S => ?_⟩
  · have q1 : okD 19 (.lst ((sureR A.ps n).map pairD)) = true := by
      rw [okD_lst, Bool.and_eq_true, decide_eq_true_eq, List.length_map]
      exact ⟨by omega, okD_map (fun _ => rfl) _⟩
    have q2 : okD 19 (bookD n A.a A.b (leastR A.ps)) = true := okD_up 4 19 _ (okD_bk (by omega)) (by decide)
    have q3 : okD 19 (.lst ((closedP A.ps [(n : Int)]).map .int)) = true := by
      rw [okD_lst, Bool.and_eq_true, decide_eq_true_eq, List.length_map]
      exact ⟨by omega, okD_map (fun _ => rfl) _⟩
    have q4 := okD_up 2 19 _ oT (by decide)
    have q5 := okD_up 4 19 _ o2 (by decide)
    generalize D.lst ((sureR A.ps n).map pairD) = z1 at *
    generalize bookD n A.a A.b (leastR A.ps) = z2 at *
    generalize D.lst ((closedP A.ps [(n : Int)]).map .int) = z3 at *
    generalize tilD A.ps 0 n = z4 at *
    rw [okD_lst]
    simp [q1, q2, q3, q4, q5]
  · have bX := hX.book (by omega)
    have bY := hY.book (by omega)
    have s1 := sureX hX hA.hp (by omega) (by omega)
    have s2 := leastX hX hA.hp (by omega) (by omega)
    have s3 := reachedX hX hA.hp (by omega) (by omega) (n : Int)
    have s4 := fun S => till_z bX (.inl rfl) (show A.ps.length < 64 by omega) hA.lt up (s := 0) (e := (n : Int)) S
    have s5 := (e X Y hX hY).2
    have s6 := (e2 Y X hY hX).1
    have i0 := hX.i0
    refine fPure_ap S (by simp only [pureL_cons, bX.pure, bY.pure, pureL_nil]; rfl) ?_
    have pz : pureL ([.lst ((sureR A.ps n).map pairD), bookD n A.a A.b (leastR A.ps), .lst ((closedP A.ps [(n : Int)]).map .int), tilD A.ps 0 n] ++ [.bl (isNon r), r2]) = true := by
      have q1 : pureD (.lst ((sureR A.ps n).map pairD)) = true := pure_pairs _
      have q2 : pureD (bookD n A.a A.b (leastR A.ps)) = true := pure_bkN _ _ _ _
      have q3 : pureD (.lst ((closedP A.ps [(n : Int)]).map .int)) = true := pure_ints _
      have q4 := okD_pure 2 _ oT
      have q5 := okD_pure 4 _ o2
      generalize D.lst ((sureR A.ps n).map pairD) = z1 at *
      generalize bookD n A.a A.b (leastR A.ps) = z2 at *
      generalize D.lst ((closedP A.ps [(n : Int)]).map .int) = z3 at *
      generalize tilD A.ps 0 n = z4 at *
      simp [pureL, q1, q2, q3, q4, q5]
    have ct := fun S => cat32 (A := [.lst ((sureR A.ps n).map pairD), bookD n A.a A.b (leastR A.ps), .lst ((closedP A.ps [(n : Int)]).map .int), tilD A.ps 0 n]) (B := [.bl (isNon r), r2]) (by simp) S
    have pz2 : pureD (.lst ([.lst ((sureR A.ps n).map pairD), bookD n A.a A.b (leastR A.ps), .lst ((closedP A.ps [(n : Int)]).map .int), tilD A.ps 0 n] ++ [.bl (isNon r), r2])) = true := pz
    unfold f_l_told m_l_told
    rw [fnM_2]
    generalize ([D.lst ((sureR A.ps n).map pairD), bookD n A.a A.b (leastR A.ps), .lst ((closedP A.ps [(n : Int)]).map .int), tilD A.ps 0 n] ++ [.bl (isNon r), r2]) = TT at *
    generalize D.lst ((sureR A.ps n).map pairD) = z1 at *
    generalize bookD n A.a A.b (leastR A.ps) = z2 at *
    generalize D.lst ((closedP A.ps [(n : Int)]).map .int) = z3 at *
    generalize tilD A.ps 0 n = z4 at *
    simp -implicitDefEqProofs [i0, s1, s2, s3, s4, s5, s6, ct, fin_nil, pz2]
end
mutual
def Own (T : Store) : D → D → List Nat → Prop
  | .int i, d, F => d = .int i ∧ F = []
  | .lst ts, d, F => ∃ (j : Nat) (ds : List D) (G : List Nat), d = .ref j ∧ T[j]? = some (.lst ds) ∧ OwnL T ts ds G ∧ F = j :: G
  | _, _, _ => False
def OwnL (T : Store) : List D → List D → List Nat → Prop
  | [], ds, F => ds = [] ∧ F = []
  | t :: ts, ds, F => ∃ (d : D) (ds' : List D) (F1 F2 : List Nat), ds = d :: ds' ∧ Own T t d F1 ∧ OwnL T ts ds' F2 ∧ F = F1 ++ F2
end
section
variable {T T' : Store}
mutual
theorem Own.keep : ∀ (t d : D) (F : List Nat), Own T t d F → (∀ i ∈ F, T'[i]? = T[i]?) → Own T' t d F
  | .int i, d, F, h, _ => by
    unfold Own at h ⊢
    exact h
  | .lst ts, d, F, h, hT => by
    unfold Own at h ⊢
    obtain ⟨j, ds, G, e, g, hl, rfl⟩ := h
    exact ⟨j, ds, G, e, by rw [hT j (by simp)]; exact g, OwnL.keep ts ds G hl fun i hi => hT i (List.mem_cons_of_mem _ hi), rfl⟩
  | .non, d, F, h, _ => by unfold Own at h; exact h.elim
  | .bl _, d, F, h, _ => by unfold Own at h; exact h.elim
  | .str _, d, F, h, _ => by unfold Own at h; exact h.elim
  | .tup _, d, F, h, _ => by unfold Own at h; exact h.elim
  | .fro _, d, F, h, _ => by unfold Own at h; exact h.elim
  | .obj _ _, d, F, h, _ => by unfold Own at h; exact h.elim
  | .exn _ _, d, F, h, _ => by unfold Own at h; exact h.elim
  | .ref _, d, F, h, _ => by unfold Own at h; exact h.elim
theorem OwnL.keep : ∀ (ts ds : List D) (F : List Nat), OwnL T ts ds F → (∀ i ∈ F, T'[i]? = T[i]?) → OwnL T' ts ds F
  | [], ds, F, h, _ => by
    unfold OwnL at h ⊢
    exact h
  | t :: ts, ds, F, h, hT => by
    unfold OwnL at h ⊢
    obtain ⟨d, ds', F1, F2, e, h1, h2, rfl⟩ := h
    exact ⟨d, ds', F1, F2, e, Own.keep t d F1 h1 fun i hi => hT i (List.mem_append_left _ hi), OwnL.keep ts ds' F2 h2 fun i hi => hT i (List.mem_append_right _ hi), rfl⟩
end
theorem OwnL.len : ∀ {ts ds : List D} {F : List Nat}, OwnL T ts ds F → ds.length = ts.length
  | [], ds, F, h => by
    unfold OwnL at h
    rw [h.1]
  | t :: ts, ds, F, h => by
    unfold OwnL at h
    obtain ⟨d, ds', F1, F2, rfl, _, h2, _⟩ := h
    rw [List.length_cons, List.length_cons, h2.len]
theorem OwnL.append : ∀ {ts ts' ds ds' : List D} {F F' : List Nat}, OwnL T ts ds F → OwnL T ts' ds' F' → OwnL T (ts ++ ts') (ds ++ ds') (F ++ F')
  | [], ts', ds, ds', F, F', h, h' => by
    unfold OwnL at h
    obtain ⟨rfl, rfl⟩ := h
    exact h'
  | t :: ts, ts', ds, ds', F, F', h, h' => by
    unfold OwnL at h
    obtain ⟨d, ds1, F1, F2, rfl, h1, h2, rfl⟩ := h
    show OwnL T (t :: (ts ++ ts')) _ _
    unfold OwnL
    exact ⟨d, ds1 ++ ds', F1, F2 ++ F', rfl, h1, h2.append h', by rw [List.append_assoc]⟩
theorem OwnL.one {t d : D} {F : List Nat} (h : Own T t d F) : OwnL T [t] [d] F := by
  unfold OwnL
  exact ⟨d, [], F, [], rfl, h, by unfold OwnL; exact ⟨rfl, rfl⟩, by simp⟩
theorem Own.isLst {t d : D} {F : List Nat} (h : Own T t d F) : isOk T d = true ∧ isTy .list d = isTy .list t := by
  cases t with
  | int i => unfold Own at h; rw [h.1]; exact ⟨rfl, rfl⟩
  | lst ts =>
    unfold Own at h
    obtain ⟨j, ds, G, rfl, g, _⟩ := h
    refine ⟨?_, rfl⟩
    show (lstOf T (.ref j)).isSome = true
    simp [lstOf, g]
  | _ => unfold Own at h; exact h.elim
theorem Own.lt : ∀ {t d : D} {F : List Nat}, Own T t d F → ∀ i ∈ F, i < T.length := by
  have key : ∀ (n : Nat), (∀ t d F, sizeOf t ≤ n → Own T t d F → ∀ i ∈ F, i < T.length) ∧ ∀ ts ds F, sizeOf ts ≤ n → OwnL T ts ds F → ∀ i ∈ F, i < T.length := fun n => by
    induction n with
    | zero =>
      refine ⟨fun t d F h => ?_, fun ts ds F h => ?_⟩
      · cases t <;> simp at h
      · cases ts <;> simp at h
    | succ n ih =>
      refine ⟨fun t d F hs h i hi => ?_, fun ts ds F hs h i hi => ?_⟩
      · cases t with
        | int v => unfold Own at h; rw [h.2] at hi; cases hi
        | lst ts =>
          unfold Own at h
          obtain ⟨j, ds, G, rfl, g, hl, rfl⟩ := h
          rcases List.mem_cons.mp hi with rfl | hi
          · exact (List.getElem?_eq_some_iff.mp g).1
          · exact ih.2 ts ds G (by simp at hs; omega) hl i hi
        | _ => unfold Own at h; exact h.elim
      · cases ts with
        | nil => unfold OwnL at h; rw [h.2] at hi; cases hi
        | cons t ts =>
          unfold OwnL at h
          obtain ⟨d, ds', F1, F2, rfl, h1, h2, rfl⟩ := h
          rcases List.mem_append.mp hi with hi | hi
          · exact ih.1 t d F1 (by simp at hs; omega) h1 i hi
          · exact ih.2 ts ds' F2 (by simp at hs; omega) h2 i hi
  intro t d F h
  exact (key (sizeOf t)).1 t d F (Nat.le_refl _) h
end
section
variable {T : Store}
theorem OwnL.lt : ∀ {ts ds : List D} {F : List Nat}, OwnL T ts ds F → ∀ i ∈ F, i < T.length := fun {ts} => by
  induction ts with
  | nil => intro ds F h i hi; unfold OwnL at h; rw [h.2] at hi; cases hi
  | cons t ts ih =>
    intro ds F h i hi
    unfold OwnL at h
    obtain ⟨d, ds', F1, F2, rfl, h1, h2, rfl⟩ := h
    rcases List.mem_append.mp hi with hi | hi
    · exact h1.lt i hi
    · exact ih h2 i hi
def dpI : Nat → D → Bool
  | _, .int _ => true
  | n + 1, .lst xs => xs.all (dpI n)
  | _, _ => false
def dpT : Nat → D → Bool
  | _, .int _ => true
  | n + 1, .tup xs => decide (xs.length ≤ 1000) && xs.all (dpT n)
  | _, _ => false
theorem Own.snap : ∀ (n : Nat) (t d : D) (F : List Nat), Own T t d F → dpI n t = true → Q.snap n T d = t
  | n, .int i, d, F, h, _ => by
    unfold Own at h
    rw [h.1]
    cases n <;> rfl
  | 0, .lst ts, d, F, _, hd => by simp [dpI] at hd
  | n + 1, .lst ts, d, F, h, hd => by
    unfold Own at h
    obtain ⟨j, ds, G, rfl, g, hl, rfl⟩ := h
    have hd : ts.all (dpI n) = true := hd
    have key : ∀ (ts ds : List D) (G : List Nat), OwnL T ts ds G → ts.all (dpI n) = true → ds.map (Q.snap n T) = ts := fun ts => by
      induction ts with
      | nil => intro ds G h _; unfold OwnL at h; rw [h.1]; rfl
      | cons t ts ih =>
        intro ds G h ha
        unfold OwnL at h
        obtain ⟨d, ds', F1, F2, rfl, h1, h2, rfl⟩ := h
        rw [List.all_cons, Bool.and_eq_true] at ha
        rw [List.map_cons, Own.snap n t d F1 h1 ha.1, ih ds' F2 h2 ha.2]
    unfold Q.snap
    rw [g]
    show D.lst (ds.map (Q.snap n T)) = _
    rw [key ts ds G hl hd]
  | n, .non, d, F, h, _ => by unfold Own at h; exact h.elim
  | n, .bl _, d, F, h, _ => by unfold Own at h; exact h.elim
  | n, .str _, d, F, h, _ => by unfold Own at h; exact h.elim
  | n, .tup _, d, F, h, _ => by unfold Own at h; exact h.elim
  | n, .fro _, d, F, h, _ => by unfold Own at h; exact h.elim
  | n, .obj _ _, d, F, h, _ => by unfold Own at h; exact h.elim
  | n, .exn _ _, d, F, h, _ => by unfold Own at h; exact h.elim
  | n, .ref _, d, F, h, _ => by unfold Own at h; exact h.elim
def Fresh (a b : Nat) (F : List Nat) : Prop := F.Nodup ∧ ∀ i ∈ F, a ≤ i ∧ i < b
theorem Fresh.append {a b c : Nat} {F G : List Nat} (h : Fresh a b F) (h' : Fresh b c G) (hab : a ≤ b) (hbc : b ≤ c) : Fresh a c (F ++ G) := by
  refine ⟨?_, fun i hi => ?_⟩
  · rw [List.nodup_append]
    exact ⟨h.1, h'.1, fun x hx y hy e => by have := h.2 x hx; have := h'.2 y hy; omega⟩
  · rcases List.mem_append.mp hi with hi | hi
    · have := h.2 i hi; omega
    · have := h'.2 i hi; omega
theorem lists_c : ∀ (k n : Nat) (d : D) (T : Store), dpT n d = true → n < k → ∃ v cs F, c_l_lists k [d] T = .ok v (T ++ cs) ∧ Own (T ++ cs) (lsD n d) v F ∧ Fresh T.length (T ++ cs).length F
  | 0, n, d, T, _, hk => absurd hk (by omega)
  | k + 1, n, .int i, T, _, _ => by
    refine ⟨.int i, [], [], ?_, ?_, by simp [Fresh]⟩
    · show endC (mC_l_lists (c_l_lists k) [some (.int i), none] T) = _
      unfold mC_l_lists
      generalize c_l_lists k = ff at *
      simp [isTy]
    · have : lsD n (.int i) = .int i := by cases n <;> rfl
      rw [this]
      unfold Own
      exact ⟨rfl, rfl⟩
  | k + 1, 0, .tup xs, T, h, _ => by simp [dpT] at h
  | k + 1, n + 1, .tup xs, T, h, hk => by
    have h : (decide (xs.length ≤ 1000) && xs.all (dpT n)) = true := h
    rw [Bool.and_eq_true, decide_eq_true_eq] at h
    have key : ∀ (ys : List D) (T : Store) (ρ : Q.Env), 1 < ρ.length → ys.all (dpT n) = true → ∃ vs cs F, lcL (mgN 1) mYes (mCall (fCall (c_l_lists k)) (mCons (mVar 1) mNil)) ρ ys T = .ok vs (T ++ cs) ∧ OwnL (T ++ cs) (ys.map (lsD n)) vs F ∧ Fresh T.length (T ++ cs).length F := fun ys => by
      induction ys with
      | nil =>
        intro T ρ _ _
        exact ⟨[], [], [], by rw [List.append_nil]; rfl, by show OwnL _ [] _ _; unfold OwnL; exact ⟨rfl, rfl⟩, by simp [Fresh]⟩
      | cons y ys ih =>
        intro T ρ hρ ha
        rw [List.all_cons, Bool.and_eq_true] at ha
        obtain ⟨v, cs, F, e1, o1, f1⟩ := lists_c k n y T ha.1 (by omega)
        obtain ⟨vs, cs', F', e2, o2, f2⟩ := ih (T ++ cs) ρ hρ ha.2
        rw [List.append_assoc] at e2 o2 f2
        refine ⟨v :: vs, cs ++ cs', F ++ F', ?_, ?_, ?_⟩
        · have g : (ρ.set 1 (some y))[1]? = some (some y) := List.getElem?_set_self hρ
          unfold lcL
          have e0 : mgN 1 y ρ T = .ok (ρ.set 1 (some y)) T := rfl
          rw [e0, bind_ok]
          have e3 : mCall (fCall (c_l_lists k)) (mCons (mVar 1) mNil) (ρ.set 1 (some y)) T = .ok v (T ++ cs) := by
            simp only [ap_call, ap_cons, ap_var, g, varK_some, bind_ok, consK_ap, ap_nil, consK2_ap, fCall_ap, e1, nox_ok]
          show (Res.ok true T).bind _ = _
          rw [bind_ok]
          show (mCall (fCall (c_l_lists k)) (mCons (mVar 1) mNil) (ρ.set 1 (some y)) T).bind _ = _
          rw [e3, bind_ok, e2, bind_ok]
        · show OwnL _ (lsD n y :: ys.map (lsD n)) _ _
          unfold OwnL
          refine ⟨v, vs, F, F', rfl, Own.keep _ _ _ o1 fun i hi => ?_, o2, rfl⟩
          rw [← List.append_assoc, List.getElem?_append_left (f1.2 i hi).2]
        · rw [← List.append_assoc] at f2 ⊢
          exact f1.append f2 (by simp) (by simp)
    obtain ⟨vs, cs, F, e, o, f⟩ := key xs T [some (.tup xs), none] (by simp) h.2
    refine ⟨.ref (T ++ cs).length, cs ++ [.lst vs], (T ++ cs).length :: F, ?_, ?_, ?_⟩
    · show endC (mC_l_lists (c_l_lists k) [some (.tup xs), none] T) = _
      have hl : xs.length ≤ 100000 := by omega
      unfold mC_l_lists
      generalize c_l_lists k = ff at *
      rw [← List.append_assoc]
      generalize T ++ cs = T1 at *
      simp [isTy, hl, e]
    · show Own _ (.lst (xs.map (lsD n))) _ _
      unfold Own
      rw [← List.append_assoc]
      exact ⟨(T ++ cs).length, vs, F, rfl, by simp, OwnL.keep _ _ _ o fun i hi => by rw [List.getElem?_append_left (f.2 i hi).2], rfl⟩
    · rw [← List.append_assoc]
      refine ⟨List.nodup_cons.mpr ⟨fun m => ?_, f.1⟩, fun i hi => ?_⟩
      · have := f.2 _ m; omega
      · rw [List.length_append (as := T ++ cs), List.length_singleton]
        rcases List.mem_cons.mp hi with rfl | hi
        · rw [List.length_append]; omega
        · have := f.2 i hi; omega
  | k + 1, n, .non, T, h, _ => by cases n <;> simp [dpT] at h
  | k + 1, n, .bl _, T, h, _ => by cases n <;> simp [dpT] at h
  | k + 1, n, .str _, T, h, _ => by cases n <;> simp [dpT] at h
  | k + 1, n, .lst _, T, h, _ => by cases n <;> simp [dpT] at h
  | k + 1, n, .fro _, T, h, _ => by cases n <;> simp [dpT] at h
  | k + 1, n, .obj _ _, T, h, _ => by cases n <;> simp [dpT] at h
  | k + 1, n, .exn _ _, T, h, _ => by cases n <;> simp [dpT] at h
  | k + 1, n, .ref _, T, h, _ => by cases n <;> simp [dpT] at h
end
def dpL : Nat → D → Bool
  | _, .int _ => true
  | n + 1, .lst xs => decide (xs.length ≤ 400) && xs.all (dpL n)
  | _, _ => false
def mFb (self : List D → Store → Res D) : MS := (mIf (mTB (mOp opEq (mVar 2) (mCall fLen (mCons (mVar 0) mNil)))) (mDrop (mApp (mVar 0) (mVar 3))) (mIf (mAndT (mTest (mIsi .list (mVar 3))) (mTest (mIsi .list (mOp opIx (mVar 0) (mVar 2))))) (mDrop (mCall (fCall self) (mCons (mOp opIx (mVar 0) (mVar 2)) (mCons (mVar 3) mNil)))) (mAsg (mVar 3) (mgSub (mVar 0) (mVar 2)))))
section
variable {T T' : Store} {j : Nat} {E e d : D} {ds1 ds2 : List D} {self : List D → Store → Res D} {v2 v3 : Option D}
theorem fb_new (g : T[j]? = some (.lst ds1)) (hl : ds1.length ≤ 1000) : mFb self [some (.ref j), some E, some (.int (ds1.length : Nat)), some e] T = .ok (.nx [some (.ref j), some E, some (.int (ds1.length : Nat)), some e]) (T.set j (.lst (ds1 ++ [e]))) := by
  have ln : fLen [.ref j] T = .ok (.int (ds1.length : Nat)) T := by simp [fLen, un1, gLen, seqOf, rdL, lstOf, g]
  have ap := appTo_ok e g (by omega)
  have nb := notOb_lst g
  unfold mFb
  generalize T.set j (.lst (ds1 ++ [e])) = T1 at *
  generalize ((ds1.length : Nat) : Int) = l at *
  simp -implicitDefEqProofs [ln, ap, nb]
theorem fb_in (g : T[j]? = some (.lst (ds1 ++ d :: ds2))) (hd : isOk T d = true ∧ isTy .list d = true) (he : isOk T e = true ∧ isTy .list e = true) {r : D} (h : self [d, e] T = .ok r T') : mFb self [some (.ref j), some E, some (.int (ds1.length : Nat)), some e] T = .ok (.nx [some (.ref j), some E, some (.int (ds1.length : Nat)), some e]) T' := by
  have ln : fLen [.ref j] T = .ok (.int ((ds1 ++ d :: ds2).length : Nat)) T := by simp [fLen, un1, gLen, seqOf, rdL, lstOf, g]
  have ix : opIx (.ref j) (.int (ds1.length : Nat)) T = .ok d T := by
    rw [ix_refD _ g, Q.atI_get (x := d) (by simp)]
    rfl
  have ne : ((ds1.length : Nat) : Int) = (((ds1 ++ d :: ds2).length : Nat) : Int) ↔ False := ⟨fun e => by rw [List.length_append, List.length_cons] at e; omega, False.elim⟩
  unfold mFb
  generalize ((ds1.length : Nat) : Int) = l at *
  generalize (((ds1 ++ d :: ds2).length : Nat) : Int) = l2 at *
  simp -implicitDefEqProofs [ln, ix, ne, hd.1, hd.2, he.1, he.2, h]
theorem fb_put (g : T[j]? = some (.lst (ds1 ++ d :: ds2))) (hl : ds1.length ≤ 1000) (hd : isOk T d = true) (he : isOk T e = true) (hn : isTy .list e = false ∨ isTy .list d = false) : mFb self [some (.ref j), some E, some (.int (ds1.length : Nat)), some e] T = .ok (.nx [some (.ref j), some E, some (.int (ds1.length : Nat)), some e]) (T.set j (.lst (ds1 ++ e :: ds2))) := by
  have ln : fLen [.ref j] T = .ok (.int ((ds1 ++ d :: ds2).length : Nat)) T := by simp [fLen, un1, gLen, seqOf, rdL, lstOf, g]
  have ix : opIx (.ref j) (.int (ds1.length : Nat)) T = .ok d T := by
    rw [ix_refD _ g, Q.atI_get (x := d) (by simp)]
    rfl
  have ne : ((ds1.length : Nat) : Int) = (((ds1 ++ d :: ds2).length : Nat) : Int) ↔ False := ⟨fun e => by rw [List.length_append, List.length_cons] at e; omega, False.elim⟩
  have st : setIx (.ref j) (.int (ds1.length : Nat)) e T = .ok () (T.set j (.lst (ds1 ++ e :: ds2))) := by
    have i : ixN (ds1 ++ d :: ds2).length ((ds1.length : Nat) : Int) = some ds1.length := by
      unfold ixN
      simp
      omega
    simp only [setIx, g, i]
    simp
  unfold mFb
  generalize T.set j (.lst (ds1 ++ e :: ds2)) = T1 at *
  generalize ((ds1.length : Nat) : Int) = l at *
  generalize (((ds1 ++ d :: ds2).length : Nat) : Int) = l2 at *
  rcases hn with hn | hn
  · simp -implicitDefEqProofs [ln, ix, ne, hd, he, hn, st]
  · cases c : isTy .list e with
    | false => simp -implicitDefEqProofs [ln, ix, ne, hd, he, c, st]
    | true => simp -implicitDefEqProofs [ln, ix, ne, hd, he, hn, c, st]
end
def AimP (T : Store) (e : D) (ts es : List D) (G : List Nat) : Prop := (e = .lst es ∧ OwnL T ts es G) ∨ ∃ (m : Nat) (G' : List Nat), e = .ref m ∧ T[m]? = some (.lst es) ∧ OwnL T ts es G' ∧ G = m :: G'
def FilledC (T T' : Store) (j : Nat) (F G : List Nat) (ts : List D) : Prop := ∃ (ds' : List D) (F' : List Nat), T'[j]? = some (.lst ds') ∧ OwnL T' ts ds' F' ∧ (j :: F').Nodup ∧ (∀ i ∈ F', i ∈ F ∨ i ∈ G) ∧ (∀ i, i ∉ j :: (F ++ G) → T'[i]? = T[i]?) ∧ T'.length = T.length
def FilledAt (self : List D → Store → Res D) (n : Nat) : Prop := ∀ (ss ts : List D) (T : Store) (j : Nat) (ds es : List D) (e : D) (F G : List Nat) (q : Nat), dpL n (.lst ts) = true → dpL q (.lst ss) = true → T[j]? = some (.lst ds) → OwnL T ss ds F → AimP T e ts es G → (j :: (F ++ G)).Nodup → ∃ T', self [.ref j, e] T = .ok .non T' ∧ FilledC T T' j F G ts
theorem for_go {g : MG} {b : MS} {z : D} {zs : List D} {ρ ρ1 ρ2 : Q.Env} {S S1 S2 : Store} (h1 : g z ρ S = .ok ρ1 S1) (h2 : b ρ1 S1 = .ok (.nx ρ2) S2) : forL g b (z :: zs) ρ S = forL g b zs ρ2 S2 := by
  rw [forL_cons, h1, bind_ok]
  show (b ρ1 S1).bind _ = _
  rw [h2, bind_ok]
  rfl
theorem wh_step32 {T : MT} {B : MS} {k : Nat} {ρ ρ1 : Q.Env} {S S1 : Store} (h1 : T ρ S = .ok true S) (h2 : B ρ S = .ok (.nx ρ1) S1) : whileF T B (k + 1) ρ S = whileF T B k ρ1 S1 := by
  show (T ρ S).bind _ = _
  rw [h1, bind_ok]
  show (B ρ S).bind _ = _
  rw [h2, bind_ok]
theorem wh_stop32 {T : MT} {B : MS} {k : Nat} {ρ : Q.Env} {S : Store} (h1 : T ρ S = .ok false S) : whileF T B (k + 1) ρ S = .ok (.nx ρ) S := by
  show (T ρ S).bind _ = _
  rw [h1, bind_ok]
section
variable {j : Nat} {E : D} {self : List D → Store → Res D} {n q : Nat}
theorem lt_cell {T : Store} {i : Nat} {c : Cell} (h : T[i]? = some c) : i < T.length := (List.getElem?_eq_some_iff.mp h).1
def mPop32 : MS := (mDrop (mPop0 (mVar 0)))
def mMore32 : MT := (mTB (mOp opGt (mCall fLen (mCons (mVar 0) mNil)) (mCall fLen (mCons (mVar 1) mNil))))
theorem pops32 {dsf : List D} {v2 v3 : Option D} : ∀ (m : Nat) (ds2 : List D) (k : Nat) (T : Store), ds2.length = m → m < k → T[j]? = some (.lst (dsf ++ ds2)) → (∀ T', (∀ i, i ≠ j → T'[i]? = T[i]?) → fLen [E] T' = .ok (.int (dsf.length : Nat)) T') →
    whileF mMore32 mPop32 k [some (.ref j), some E, v2, v3] T = .ok (.nx [some (.ref j), some E, v2, v3]) (T.set j (.lst dsf))
  | 0, ds2, 0, T, _, hk, _, _ => by omega
  | 0, ds2, k + 1, T, hl, _, g, hE => by
    have : ds2 = [] := List.length_eq_zero_iff.mp hl
    subst this
    rw [List.append_nil] at g
    have ln : fLen [.ref j] T = .ok (.int (dsf.length : Nat)) T := by simp [fLen, un1, gLen, seqOf, rdL, lstOf, g]
    have lE := hE T fun _ _ => rfl
    have e : T.set j (.lst dsf) = T := by
      refine List.ext_getElem? fun l => ?_
      by_cases e : j = l
      · subst e
        rw [List.getElem?_set_self (lt_cell g), g]
      · rw [List.getElem?_set_ne e]
    rw [e]
    refine wh_stop32 ?_
    unfold mMore32
    generalize ((dsf.length : Nat) : Int) = l at *
    simp -implicitDefEqProofs [ln, lE]
  | m + 1, ds2, 0, T, _, hk, _, _ => by omega
  | m + 1, ds2, k + 1, T, hl, hk, g, hE => by
    obtain ⟨d3, z, rfl⟩ : ∃ d3 z, ds2 = d3 ++ [z] := by
      rcases List.eq_nil_or_concat ds2 with e | ⟨d3, z, e⟩
      · subst e; simp at hl
      · exact ⟨d3, z, by rw [e, List.concat_eq_append]⟩
    have ln : fLen [.ref j] T = .ok (.int ((dsf ++ (d3 ++ [z])).length : Nat)) T := by simp [fLen, un1, gLen, seqOf, rdL, lstOf, g]
    have lE := hE T fun _ _ => rfl
    have g' := g
    rw [← List.append_assoc] at g'
    have pp := pop0K_ref g'
    have tt : mMore32 [some (.ref j), some E, v2, v3] T = .ok true T := by
      have c : (((dsf ++ (d3 ++ [z])).length : Nat) : Int) > ((dsf.length : Nat) : Int) ↔ True := ⟨fun _ => trivial, fun _ => by simp; omega⟩
      have c2 : ((dsf.length : Nat) : Int) < (((dsf ++ (d3 ++ [z])).length : Nat) : Int) ↔ True := ⟨fun _ => trivial, fun _ => by simp; omega⟩
      unfold mMore32
      generalize (((dsf ++ (d3 ++ [z])).length : Nat) : Int) = l2 at *
      generalize ((dsf.length : Nat) : Int) = l at *
      simp -implicitDefEqProofs [ln, lE, c, c2]
    have bd : mPop32 [some (.ref j), some E, v2, v3] T = .ok (.nx [some (.ref j), some E, v2, v3]) (T.set j (.lst (dsf ++ d3))) := by
      unfold mPop32
      generalize T.set j (.lst (dsf ++ d3)) = T2 at *
      simp -implicitDefEqProofs [pp]
    rw [wh_step32 tt bd, pops32 m d3 k (T.set j (.lst (dsf ++ d3))) (by simpa using hl) (by omega) (List.getElem?_set_self (lt_cell g)) fun T' h => hE T' fun i hi => by rw [h i hi, List.getElem?_set_ne (Ne.symm hi)], List.set_set]
end
section
variable {j : Nat} {E : D} {self : List D → Store → Res D} {n q : Nat}
theorem set_off {T : Store} {j i : Nat} {c : Cell} (h : i ≠ j) : (T.set j c)[i]? = T[i]? := List.getElem?_set_ne (Ne.symm h)
theorem nd_in {j j' m : Nat} {F1 Fd F2 Ge G2 Fc : List Nat} (nd : (j :: (F1 ++ ((j' :: Fd ++ F2) ++ (m :: Ge ++ G2)))).Nodup) (ndc : (j' :: Fc).Nodup) (sc : ∀ i ∈ Fc, i ∈ Fd ∨ i ∈ m :: Ge) : (j :: ((F1 ++ (j' :: Fc)) ++ (F2 ++ G2))).Nodup := by
  simp only [List.nodup_cons, List.nodup_append, List.mem_append, List.mem_cons, List.cons_append] at *
  grind
theorem nd_put {j : Nat} {F1 Fd F2 Ge G2 : List Nat} (nd : (j :: (F1 ++ ((Fd ++ F2) ++ (Ge ++ G2)))).Nodup) : (j :: ((F1 ++ Ge) ++ (F2 ++ G2))).Nodup := by
  simp only [List.nodup_cons, List.nodup_append, List.mem_append, List.mem_cons, List.cons_append] at *
  grind
theorem nd_aim {j m : Nat} {F G : List Nat} (nd : (j :: (F ++ m :: G)).Nodup) : (∀ i ∈ F, i ≠ m) ∧ (∀ i ∈ G, i ≠ m) ∧ j ≠ m ∧ (j :: (F ++ G)).Nodup := by
  simp only [List.nodup_cons, List.nodup_append, List.mem_append, List.mem_cons, List.cons_append] at *
  grind
theorem loop32 (hs : FilledAt self n) : ∀ (ts2 es2 : List D) (T : Store) (ts1 ds1 : List D) (F1 : List Nat) (ss2 ds2 : List D) (F2 G2 : List Nat) (v2 v3 : Option D), T[j]? = some (.lst (ds1 ++ ds2)) → OwnL T ts1 ds1 F1 → OwnL T ss2 ds2 F2 → OwnL T ts2 es2 G2 → (j :: (F1 ++ (F2 ++ G2))).Nodup → ts2.all (dpL n) = true → ss2.all (dpL q) = true → ts1.length + ts2.length ≤ 400 → ss2.length ≤ 400 →
    ∃ (T' : Store) (dsf ds2' : List D) (F1' : List Nat) (v2' v3' : Option D), forL (mgTup 2 (mgCons (mgN 2) (mgCons (mgN 3) mgNil))) (mFb self) (enumD ds1.length es2) [some (.ref j), some E, v2, v3] T = .ok (.nx [some (.ref j), some E, v2', v3']) T' ∧
      T'[j]? = some (.lst (dsf ++ ds2')) ∧ OwnL T' (ts1 ++ ts2) dsf F1' ∧ (j :: F1').Nodup ∧ (∀ i ∈ F1', i ∈ F1 ∨ i ∈ F2 ∨ i ∈ G2) ∧ (∀ i, i ∉ j :: (F1 ++ (F2 ++ G2)) → T'[i]? = T[i]?) ∧ T'.length = T.length ∧ ds2'.length ≤ 400
  | [], es2, T, ts1, ds1, F1, ss2, ds2, F2, G2, v2, v3, g, o1, o2, o3, nd, _, _, _, l2 => by
    unfold OwnL at o3
    obtain ⟨rfl, rfl⟩ := o3
    refine ⟨T, ds1, ds2, F1, v2, v3, rfl, g, by rw [List.append_nil]; exact o1, by grind, fun i hi => .inl hi, fun i _ => rfl, rfl, by rw [o2.len]; exact l2⟩
  | t :: ts2, es2, T, ts1, ds1, F1, ss2, ds2, F2, G2, v2, v3, g, o1, o2, o3, nd, dt, dsq, l1, l2 => by
    unfold OwnL at o3
    obtain ⟨e, es2', Ge, G2', rfl, oe, o3, rfl⟩ := o3
    rw [List.all_cons, Bool.and_eq_true] at dt
    rw [List.length_cons] at l1
    have le1 := o1.len
    have he := oe.isLst
    have gt : mgTup 2 (mgCons (mgN 2) (mgCons (mgN 3) mgNil)) (.tup [.int (ds1.length : Nat), e]) [some (.ref j), some E, v2, v3] T = .ok [some (.ref j), some E, some (.int (ds1.length : Nat)), some e] T := rfl
    have en : enumD ds1.length (e :: es2') = .tup [.int (ds1.length : Nat), e] :: enumD (ds1.length + 1) es2' := rfl
    -- what follows once this place is filled
    have next : ∀ (T1 : Store) (d1 : D) (Fn : List Nat) (ss2' ds2' : List D) (F2' : List Nat), mFb self [some (.ref j), some E, some (.int (ds1.length : Nat)), some e] T = .ok (.nx [some (.ref j), some E, some (.int (ds1.length : Nat)), some e]) T1 →
        T1[j]? = some (.lst ((ds1 ++ [d1]) ++ ds2')) → OwnL T1 (ts1 ++ [t]) (ds1 ++ [d1]) (F1 ++ Fn) → OwnL T1 ss2' ds2' F2' → OwnL T1 ts2 es2' G2' → (j :: ((F1 ++ Fn) ++ (F2' ++ G2'))).Nodup → ss2'.all (dpL q) = true → ss2'.length ≤ 400 →
        (∀ i ∈ Fn, i ∈ F2 ∨ i ∈ Ge) → (∀ i ∈ F2', i ∈ F2) → (∀ i, i ∉ j :: (F1 ++ (F2 ++ (Ge ++ G2'))) → T1[i]? = T[i]?) → T1.length = T.length →
        ∃ (T' : Store) (dsf ds2'' : List D) (F1' : List Nat) (v2' v3' : Option D), forL (mgTup 2 (mgCons (mgN 2) (mgCons (mgN 3) mgNil))) (mFb self) (enumD ds1.length (e :: es2')) [some (.ref j), some E, v2, v3] T = .ok (.nx [some (.ref j), some E, v2', v3']) T' ∧
          T'[j]? = some (.lst (dsf ++ ds2'')) ∧ OwnL T' (ts1 ++ t :: ts2) dsf F1' ∧ (j :: F1').Nodup ∧ (∀ i ∈ F1', i ∈ F1 ∨ i ∈ F2 ∨ i ∈ Ge ++ G2') ∧ (∀ i, i ∉ j :: (F1 ++ (F2 ++ (Ge ++ G2'))) → T'[i]? = T[i]?) ∧ T'.length = T.length ∧ ds2''.length ≤ 400 := by
      intro T1 d1 Fn ss2' ds2' F2' eb g1 p1 p2 p3 nd1 dq1 lq1 sFn sF2 fr ln
      obtain ⟨T', dsf, ds2'', F1', v2', v3', ef, g', p', nd', s', fr', ln', l'⟩ := loop32 hs ts2 es2' T1 (ts1 ++ [t]) (ds1 ++ [d1]) (F1 ++ Fn) ss2' ds2' F2' G2' (some (.int (ds1.length : Nat))) (some e) g1 p1 p2 p3 nd1 dt.2 dq1 (by rw [List.length_append]; simp; omega) lq1
      have ll : (ds1 ++ [d1]).length = ds1.length + 1 := by simp
      rw [ll] at ef
      refine ⟨T', dsf, ds2'', F1', v2', v3', ?_, g', by rw [List.append_assoc] at p'; exact p', nd', fun i hi => ?_, fun i hi => ?_, by omega, l'⟩
      · rw [en, for_go gt eb]
        exact ef
      · have := s' i hi
        grind
      · rw [fr' i (by grind), fr i hi]
    cases ss2 with
    | nil =>
      unfold OwnL at o2
      obtain ⟨rfl, rfl⟩ := o2
      rw [List.append_nil] at g
      have kp : ∀ i ∈ F1 ++ (Ge ++ G2'), (T.set j (.lst (ds1 ++ [e])))[i]? = T[i]? := fun i hi => set_off (by rintro rfl; grind)
      have oNil : OwnL (T.set j (.lst (ds1 ++ [e]))) [] [] [] := by unfold OwnL; exact ⟨rfl, rfl⟩
      exact next (T.set j (.lst (ds1 ++ [e]))) e Ge [] [] [] (fb_new g (by omega)) (by rw [List.getElem?_set_self (lt_cell g), List.append_nil]) ((OwnL.keep _ _ _ o1 fun i hi => kp i (by grind)).append (OwnL.one (Own.keep _ _ _ oe fun i hi => kp i (by grind)))) oNil (OwnL.keep _ _ _ o3 fun i hi => kp i (by grind)) (by grind) rfl (by simp) (fun i hi => .inr hi) (fun i hi => by cases hi) (fun i hi => set_off (by rintro rfl; grind)) (by simp)
    | cons s ss2 =>
      unfold OwnL at o2
      obtain ⟨d, ds2', Fd, F2', rfl, od, o2, rfl⟩ := o2
      rw [List.all_cons, Bool.and_eq_true] at dsq
      rw [List.length_cons] at l2
      have hd := od.isLst
      by_cases both : isTy .list e = true ∧ isTy .list d = true
      · -- both are lists: the one is filled with the other
        obtain ⟨b1, b2⟩ := both
        rw [he.2] at b1
        rw [hd.2] at b2
        obtain ⟨tt, rfl⟩ : ∃ tt, t = .lst tt := by
          cases t with
          | lst tt => exact ⟨tt, rfl⟩
          | int i => cases b1
          | _ => unfold Own at oe; exact oe.elim
        obtain ⟨sss, rfl⟩ : ∃ sss, s = .lst sss := by
          cases s with
          | lst tt => exact ⟨tt, rfl⟩
          | int i => cases b2
          | _ => unfold Own at od; exact od.elim
        unfold Own at oe od
        obtain ⟨m, ee, Ge', rfl, gm, oee, rfl⟩ := oe
        obtain ⟨j', dd, Fd', rfl, gj', odd, rfl⟩ := od
        have hd' := hd
        have he' := he
        rw [b2] at hd'
        rw [b1] at he'
        obtain ⟨T1, e1, dd', Fc, gc, oc, ndc, sc, frc, lnc⟩ := hs sss tt T j' dd ee (.ref m) Fd' (m :: Ge') q dt.1 dsq.1 gj' odd (.inr ⟨m, Ge', rfl, gm, oee, rfl⟩) (by grind)
        have kp : ∀ i, i ∈ F1 ∨ i ∈ F2' ∨ i ∈ G2' ∨ i = j → T1[i]? = T[i]? := fun i hi => frc i (by grind)
        have oj : Own T1 (.lst tt) (.ref j') (j' :: Fc) := by
          unfold Own
          exact ⟨j', dd', Fc, rfl, gc, oc, rfl⟩
        exact next T1 (.ref j') (j' :: Fc) ss2 ds2' F2' (fb_in g hd' he' e1) (by rw [kp j (.inr (.inr (.inr rfl))), g]; simp) ((OwnL.keep _ _ _ o1 fun i hi => kp i (.inl hi)).append (OwnL.one oj)) (OwnL.keep _ _ _ o2 fun i hi => kp i (.inr (.inl hi))) (OwnL.keep _ _ _ o3 fun i hi => kp i (.inr (.inr (.inl hi)))) (nd_in nd ndc sc) dsq.2 (by omega) (fun i hi => by grind) (fun i hi => by grind) (fun i hi => frc i (by grind)) lnc
      · have hn : isTy .list e = false ∨ isTy .list d = false := by
          cases c : isTy .list e with
          | false => exact .inl rfl
          | true =>
            refine .inr ?_
            cases c2 : isTy .list d with
            | false => rfl
            | true => exact absurd ⟨c, c2⟩ both
        have kp : ∀ i, i ∈ F1 ∨ i ∈ F2' ∨ i ∈ G2' ∨ i ∈ Ge → (T.set j (.lst (ds1 ++ e :: ds2')))[i]? = T[i]? := fun i hi => set_off (by rintro rfl; grind)
        exact next (T.set j (.lst (ds1 ++ e :: ds2'))) e Ge ss2 ds2' F2' (fb_put g (by omega) hd.1 he.1 hn) (by rw [List.getElem?_set_self (lt_cell g)]; simp) ((OwnL.keep _ _ _ o1 fun i hi => kp i (.inl hi)).append (OwnL.one (Own.keep _ _ _ oe fun i hi => kp i (.inr (.inr (.inr hi)))))) (OwnL.keep _ _ _ o2 fun i hi => kp i (.inr (.inl hi))) (OwnL.keep _ _ _ o3 fun i hi => kp i (.inr (.inr (.inl hi)))) (nd_put nd) dsq.2 (by omega) (fun i hi => .inr hi) (fun i hi => by grind) (fun i hi => set_off (by rintro rfl; grind)) (by simp)
theorem form_filled : m_l_filled self = (mSeq (mFor (mEnum (mFrz (mVar 1))) (mgTup 2 (mgCons (mgN 2) (mgCons (mgN 3) mgNil))) (mFb self)) (mWhile (fun _ _ => 1000) mMore32 mPop32)) := rfl
theorem enum_lst (es : List D) (S : Store) : enumK (.lst es) S = .ok (enumD 0 es) S := rfl
theorem filled_ok (n k : Nat) (hk : n < k) : FilledAt (f_l_filled k) n := by
  induction n generalizing k with
  | zero =>
    intro ss ts T j ds es e F G q d1
    simp [dpL] at d1
  | succ n ih =>
    obtain ⟨k, rfl⟩ : ∃ k', k = k' + 1 := ⟨k - 1, by omega⟩
    have hs := ih k (by omega)
    intro ss ts T j ds es e F G q d1 d2 g o a nd
    have d1 : (decide (ts.length ≤ 400) && ts.all (dpL n)) = true := d1
    rw [Bool.and_eq_true, decide_eq_true_eq] at d1
    obtain ⟨q, rfl⟩ : ∃ q', q = q' + 1 := by
      cases q with
      | zero => simp [dpL] at d2
      | succ q => exact ⟨q, rfl⟩
    have d2 : (decide (ss.length ≤ 400) && ss.all (dpL q)) = true := d2
    rw [Bool.and_eq_true, decide_eq_true_eq] at d2
    have oNil : ∀ T, OwnL T [] [] [] := fun T => by unfold OwnL; exact ⟨rfl, rfl⟩
    -- the aim, frozen
    obtain ⟨T0, G', ef, o0, oa, fr0, ln0, g0, hG, nd0, lE⟩ : ∃ (T0 : Store) (G' : List Nat), fz e T = .ok (.lst es) T0 ∧ OwnL T0 ss ds F ∧ OwnL T0 ts es G' ∧ (∀ i, i ∉ j :: (F ++ G) → T0[i]? = T[i]?) ∧ T0.length = T.length ∧ T0[j]? = some (.lst ds) ∧ (∀ i ∈ G', i ∈ G) ∧ (j :: (F ++ G')).Nodup ∧ ∀ T', (∀ i, i ∉ j :: (F ++ G') → T'[i]? = T0[i]?) → fLen [e] T' = .ok (.int (es.length : Nat)) T' := by
      rcases a with ⟨rfl, oa⟩ | ⟨m, G', rfl, gm, oa, rfl⟩
      · refine ⟨T, G, rfl, o, oa, fun _ _ => rfl, rfl, g, fun _ h => h, nd, fun T' _ => ?_⟩
        have := oa.len
        simp [fLen, un1, gLen, seqOf, rdL, lstOf]
      · obtain ⟨nF, nG, nj, nn⟩ := nd_aim nd
        have off : ∀ i, i ≠ m → (T.set m (.frz es))[i]? = T[i]? := fun i hi => set_off hi
        refine ⟨T.set m (.frz es), G', ?_, OwnL.keep _ _ _ o fun i hi => off i (nF i hi), OwnL.keep _ _ _ oa fun i hi => off i (nG i hi), fun i hi => off i (by rintro rfl; exact hi (by simp)), by simp, by rw [off j nj]; exact g, fun i hi => List.mem_cons_of_mem _ hi, nn, fun T' h => ?_⟩
        · unfold fz
          simp only [gm]
        · have gm' : T'[m]? = some (.frz es) := by
            rw [h m (by grind)]
            exact List.getElem?_set_self (lt_cell gm)
          simp [fLen, un1, gLen, seqOf, rdL, lstOf, gm']
    obtain ⟨T1, dsf, ds2, F1, v2, v3, el, g1, o1, nd1, s1, fr1, ln1, l1⟩ := loop32 (E := e) hs ts es T0 [] [] [] ss ds F G' none none g0 (oNil T0) o0 oa (by simpa using nd0) d1.2 d2.2 (by simp; omega) d2.1
    have le : es.length = ts.length := oa.len
    have lf : dsf.length = ts.length := by
      have := o1.len
      simpa using this
    have lE1 : ∀ T', (∀ i, i ≠ j → T'[i]? = T1[i]?) → fLen [e] T' = .ok (.int (dsf.length : Nat)) T' := fun T' h => by
      rw [lf, ← le]
      exact lE T' fun i hi => by rw [h i (by grind), fr1 i (by grind)]
    have pp := pops32 (E := e) (v2 := v2) (v3 := v3) ds2.length ds2 1000 T1 rfl (by omega) g1 lE1
    refine ⟨T1.set j (.lst dsf), ?_, dsf, F1, List.getElem?_set_self (lt_cell g1), OwnL.keep _ _ _ o1 fun i hi => set_off (by rintro rfl; grind), nd1, fun i hi => by have := s1 i hi; grind, fun i hi => ?_, by rw [List.length_set]; omega⟩
    · show fnM 4 2 (m_l_filled (f_l_filled k)) [.ref j, e] T = _
      have lnn : (T1.set j (.lst dsf)).length = T.length := by rw [List.length_set]; omega
      have el : forL (mgTup 2 (mgCons (mgN 2) (mgCons (mgN 3) mgNil))) (mFb (f_l_filled k)) (enumD 0 es) [some (.ref j), some e, none, none] T0 = _ := el
      rw [fnM_2, form_filled]
      generalize mFb (f_l_filled k) = FB at *
      generalize T1.set j (.lst dsf) = T2 at *
      generalize hM : mMore32 = MM at *
      generalize hP : mPop32 = PP at *
      generalize hn : enumD 0 es = EN at *
      have eq := enum_lst es
      rw [hn] at eq
      simp -implicitDefEqProofs [ef, eq, el, pp, fin_len lnn]
    · rw [set_off (by rintro rfl; grind), fr1 i (by grind), fr0 i hi]
end
section
variable {S0 T T' : Store} {k N M n s : Nat} {A B : BkD}
theorem InB.same (h : InB S0 k N T) (hl : S0.length ≤ T'.length) (hT : ∀ i, i < S0.length → T'[i]? = T[i]?) : InB S0 k N T' := by
  obtain ⟨U, ⟨y, rfl, hy, hk2⟩, hk⟩ := h
  refine ⟨T'.drop S0.length, ⟨y, ?_, hy, by simp; omega⟩, hk⟩
  refine List.ext_getElem? fun i => ?_
  by_cases hi : i < S0.length
  · rw [hT i hi]
    by_cases e : k = i
    · subst e
      rw [List.getElem?_set_self hk2, List.getElem?_set_self (by simp; omega)]
    · rw [List.getElem?_set_ne e, List.getElem?_set_ne e, List.getElem?_append_left hi, List.getElem?_append_left hi]
  · rw [List.getElem?_set_ne (by omega), List.getElem?_append_right (by omega), List.getElem?_drop]
    congr 1
    omega
def bkLB (n : Nat) (A : BkD) : D := bkL n A.a A.b A.ps
theorem dpL_bk (h : A.ps.length ≤ 400) : dpL 3 (bkLB n A) = true := by
  have e : (A.ps.map pL32).all (dpL 1) = true := List.all_eq_true.mpr fun y hy => by
    obtain ⟨x, _, rfl⟩ := List.mem_map.mp hy
    rfl
  have l : decide ((A.ps.map pL32).length ≤ 400) = true := by simp; omega
  have z : dpL 2 (.lst (A.ps.map pL32)) = true := by
    show (decide ((A.ps.map pL32).length ≤ 400) && (A.ps.map pL32).all (dpL 1)) = true
    rw [l, e]
    rfl
  show (decide (3 ≤ 400) && (dpL 2 (.int n) && (dpL 2 (.lst [.int A.a, .int A.b]) && (dpL 2 (.lst (A.ps.map pL32)) && true)))) = true
  rw [z]
  rfl
theorem dpI_bk : dpI 3 (bkLB n A) = true := by
  have e : (A.ps.map pL32).all (dpI 1) = true := List.all_eq_true.mpr fun y hy => by
    obtain ⟨x, _, rfl⟩ := List.mem_map.mp hy
    rfl
  show (dpI 2 (.int n) && (dpI 2 (.lst [.int A.a, .int A.b]) && ((A.ps.map pL32).all (dpI 1) && true))) = true
  rw [e]
  rfl
theorem dpI_up : ∀ (m : Nat) (t : D), dpI m t = true → dpI (m + 1) t = true
  | m, .int i, _ => by cases m <;> rfl
  | 0, .lst ts, h => by simp [dpI] at h
  | m + 1, .lst ts, h => by
    have h : ts.all (dpI m) = true := h
    show ts.all (dpI (m + 1)) = true
    exact List.all_eq_true.mpr fun y hy => dpI_up m y (List.all_eq_true.mp h y hy)
  | m, .non, h => by cases m <;> simp [dpI] at h
  | m, .bl _, h => by cases m <;> simp [dpI] at h
  | m, .str _, h => by cases m <;> simp [dpI] at h
  | m, .tup _, h => by cases m <;> simp [dpI] at h
  | m, .fro _, h => by cases m <;> simp [dpI] at h
  | m, .obj _ _, h => by cases m <;> simp [dpI] at h
  | m, .exn _ _, h => by cases m <;> simp [dpI] at h
  | m, .ref _, h => by cases m <;> simp [dpI] at h
theorem dpT_bk (h : A.ps.length ≤ 400) : dpT 4 (A.d n) = true := by
  have e : (A.ps.map pairD).all (dpT 2) = true := List.all_eq_true.mpr fun y hy => by
    obtain ⟨x, _, rfl⟩ := List.mem_map.mp hy
    rfl
  have l : decide ((A.ps.map pairD).length ≤ 1000) = true := by simp; omega
  have z : dpT 3 (.tup (A.ps.map pairD)) = true := by
    show (decide ((A.ps.map pairD).length ≤ 1000) && (A.ps.map pairD).all (dpT 2)) = true
    rw [l, e]
    rfl
  show (decide (3 ≤ 1000) && (dpT 3 (.int n) && (dpT 3 (.tup [.int A.a, .int A.b]) && (dpT 3 (.tup (A.ps.map pairD)) && true)))) = true
  rw [z]
  rfl
theorem mk32 (h : A.ps.length ≤ 400) (T : Store) : ∃ v cs F, c_l_lists 30 [A.d n] T = .ok v (T ++ cs) ∧ Own (T ++ cs) (bkLB n A) v F ∧ Fresh T.length (T ++ cs).length F := by
  obtain ⟨v, cs, F, e, o, f⟩ := lists_c 30 4 (A.d n) T (dpT_bk h) (by decide)
  have : lsD 4 (A.d n) = bkLB n A := lsD_bk
  rw [this] at o
  exact ⟨v, cs, F, e, o, f⟩
structure Sf32 (S0 : Store) (k N s n : Nat) (A B : BkD) (T : Store) : Prop where
  inb : InB S0 k N T
  at_ : ∃ ds F, T[s]? = some (.lst ds) ∧ OwnL T [bkLB n A, bkLB n B] ds F ∧ (s :: F).Nodup ∧ ∀ i ∈ s :: F, S0.length ≤ i
theorem two32 (hA : A.ps.length ≤ 400) (hB : B.ps.length ≤ 400) (T : Store) : ∃ v w cs cs' F, c_l_lists 30 [A.d n] T = .ok v (T ++ cs) ∧ c_l_lists 30 [B.d n] (T ++ cs) = .ok w (T ++ cs ++ cs') ∧ OwnL (T ++ cs ++ cs') [bkLB n A, bkLB n B] [v, w] F ∧ Fresh T.length (T ++ cs ++ cs').length F := by
  obtain ⟨v, cs, F, e1, o1, f1⟩ := mk32 (n := n) hA T
  obtain ⟨w, cs', F', e2, o2, f2⟩ := mk32 (n := n) hB (T ++ cs)
  refine ⟨v, w, cs, cs', F ++ F', e1, e2, ?_, f1.append f2 (by simp) (by simp)⟩
  have o1' : Own (T ++ cs ++ cs') (bkLB n A) v F := Own.keep _ _ _ o1 fun i hi => by rw [List.getElem?_append_left (f1.2 i hi).2]
  exact (OwnL.one o1').append (OwnL.one o2)
theorem start32 (h : InB S0 k N T) (hA : A.ps.length ≤ 400) (hB : B.ps.length ≤ 400) : ∃ T1 v T2 w, c_l_lists 30 [A.d n] T = .ok v T1 ∧ c_l_lists 30 [B.d n] T1 = .ok w T2 ∧ Sf32 S0 k N T2.length n A B (T2 ++ [.lst [v, w]]) := by
  obtain ⟨v, w, cs, cs', F, e1, e2, o, f⟩ := two32 (n := n) hA hB T
  have l0 := h.len
  refine ⟨_, v, _, w, e1, e2, ?_, [v, w], F, by simp, OwnL.keep _ _ _ o fun i hi => by rw [List.getElem?_append_left (f.2 i hi).2], ?_, fun i hi => ?_⟩
  · refine h.same (by simp; omega) fun i hi => ?_
    rw [List.append_assoc, List.append_assoc, List.getElem?_append_left (by omega)]
  · exact List.nodup_cons.mpr ⟨fun m => by have := f.2 _ m; omega, f.1⟩
  · rcases List.mem_cons.mp hi with rfl | hi
    · simp; omega
    · have := f.2 i hi; omega
theorem fill32 {A' B' : BkD} (h : Sf32 S0 k N s n A B T) (hA : A.ps.length ≤ 400) (hB : B.ps.length ≤ 400) (hA' : A'.ps.length ≤ 400) (hB' : B'.ps.length ≤ 400) : ∃ T1 v T2 w T3, c_l_lists 30 [A'.d n] T = .ok v T1 ∧ c_l_lists 30 [B'.d n] T1 = .ok w T2 ∧ f_l_filled 30 [.ref s, .lst [v, w]] T2 = .ok .non T3 ∧ Sf32 S0 k N s n A' B' T3 := by
  obtain ⟨hin, ds, F, g, o, nd, ge⟩ := h
  obtain ⟨v, w, cs, cs', G, e1, e2, o2, f⟩ := two32 (n := n) hA' hB' T
  have l0 := hin.len
  have lt : ∀ i ∈ F, i < T.length := o.lt
  have keep : ∀ i, i < T.length → (T ++ cs ++ cs')[i]? = T[i]? := fun i hi => by rw [List.append_assoc, List.getElem?_append_left hi]
  have dl : ∀ {A B : BkD}, A.ps.length ≤ 400 → B.ps.length ≤ 400 → dpL 4 (.lst [bkLB n A, bkLB n B]) = true := fun {A B} hA hB => by
    show (decide (2 ≤ 400) && (dpL 3 (bkLB n A) && (dpL 3 (bkLB n B) && true))) = true
    rw [dpL_bk hA, dpL_bk hB]
    rfl
  obtain ⟨T3, e3, ds', F', g', o', nd', sub, fr, ln⟩ := filled_ok 4 30 (by decide) [bkLB n A, bkLB n B] [bkLB n A', bkLB n B'] (T ++ cs ++ cs') s ds [v, w] (.lst [v, w]) F G 4 (dl hA' hB') (dl hA hB) (by rw [keep s (lt_cell g)]; exact g) (OwnL.keep _ _ _ o fun i hi => keep i (lt i hi)) (.inl ⟨rfl, o2⟩) (by
    have ls := lt_cell g
    have f1 := f.1
    have f2 := f.2
    have n1 : s ∉ F := (List.nodup_cons.mp nd).1
    have n2 : F.Nodup := (List.nodup_cons.mp nd).2
    refine List.nodup_cons.mpr ⟨fun m => ?_, List.nodup_append.mpr ⟨n2, f1, fun x hx y hy e => ?_⟩⟩
    · rcases List.mem_append.mp m with m | m
      · exact n1 m
      · have := f2 s m; omega
    · have := lt x hx; have := f2 y hy; omega)
  refine ⟨_, v, _, w, T3, e1, e2, e3, ?_, ds', F', g', o', nd', fun i hi => ?_⟩
  · refine hin.same (by rw [ln]; simp; omega) fun i hi => ?_
    rw [fr i ?_, keep i (by omega)]
    intro m
    rcases List.mem_cons.mp m with rfl | m
    · have := ge i (by simp); omega
    · rcases List.mem_append.mp m with m | m
      · have := ge i (List.mem_cons_of_mem _ m); omega
      · have := f.2 i m; omega
  · rcases List.mem_cons.mp hi with rfl | hi
    · exact ge i (by simp)
    · rcases sub i hi with m | m
      · exact ge i (List.mem_cons_of_mem _ m)
      · have := f.2 i m; omega
theorem Sf32.copy (h : Sf32 S0 k N s n A B T) : snapO6 T (some (.ref s)) = some (.lst [bkLB n A, bkLB n B]) := by
  obtain ⟨_, ds, F, g, o, _, _⟩ := h
  have ow : Own T (.lst [bkLB n A, bkLB n B]) (.ref s) (s :: F) := by
    unfold Own
    exact ⟨s, ds, F, rfl, g, o, rfl⟩
  have d4 : dpI 4 (.lst [bkLB n A, bkLB n B]) = true := by
    show (dpI 3 (bkLB n A) && (dpI 3 (bkLB n B) && true)) = true
    rw [dpI_bk, dpI_bk]
    rfl
  exact snapO6_is (Own.snap 6 _ _ _ ow (dpI_up 5 _ (dpI_up 4 _ d4))) (by
    have p1 : pureD (bkLB n A) = true := by
      have : ∀ (A : BkD), pureD (bkLB n A) = true := fun A => by
        have z : pureL (A.ps.map pL32) = true := pureL_map (fun _ => rfl) A.ps
        show pureL [.int n, .lst [.int A.a, .int A.b], .lst (A.ps.map pL32)] = true
        simp [pureL, pureD, z]
      exact this A
    have p2 : pureD (bkLB n B) = true := by
      have z : pureL (B.ps.map pL32) = true := pureL_map (fun _ => rfl) B.ps
      show pureL [.int n, .lst [.int B.a, .int B.b], .lst (B.ps.map pL32)] = true
      simp [pureL, pureD, z]
    show pureL [bkLB n A, bkLB n B] = true
    simp [pureL, p1, p2])
end
def mAf32 : MS := (mDrop (mCall (fCall (f_l_filled 30)) (mCons (mVar 4) (mCons (mLst (mCons (mCall (fCall (c_l_lists 30)) (mCons (mOp opIx (mVar 2) (mVar 5)) mNil)) (mCons (mCall (fCall (c_l_lists 30)) (mCons (mOp opIx (mVar 2) (mOp opSubI (mC (.int 1)) (mVar 5))) mNil)) mNil))) mNil))))
def mAt32 : MS := (mIf (mBorT6 (mNotT (mTest (mCall (fPure (f_l_same 30)) (mCons (mCall (fPure f_l_told) (mCons (mOp opIx (mVar 4) (mC (.int 0))) (mCons (mOp opIx (mVar 4) (mC (.int 1))) mNil))) (mCons (mOp opIx (mVar 3) (mVar 5)) mNil)))))) (mRet (mC (.bl false))) mSkip)
theorem form_again : m_l_again_right = (mSeq (mAsg (mOp opAdd (mC (.int 2)) (mCall (fCall f_l_take) (mCons (mVar 0) (mCons (mC (.int 6)) mNil)))) (mgN 1))
  (mSeq (mAsg (mLc (mRange1 (mC (.int 2))) (mgN 5) mYes (mTup (mCons (mVar 1) (mCons (mCall (fCall f_l_limit) (mCons (mVar 0) mNil)) (mCons (mCall (fCall f_l_looks) (mCons (mVar 0) (mCons (mVar 1) (mCons (mC (.int 8)) mNil)))) mNil)))) [5]) (mgN 2))
  (mSeq (mAsg (mLst (mCons (mCall (fPure f_l_told) (mCons (mOp opIx (mVar 2) (mC (.int 0))) (mCons (mOp opIx (mVar 2) (mC (.int 1))) mNil))) (mCons (mCall (fPure f_l_told) (mCons (mOp opIx (mVar 2) (mC (.int 1))) (mCons (mOp opIx (mVar 2) (mC (.int 0))) mNil))) mNil))) (mgN 3))
  (mSeq (mAsg (mCell (mCons (mCall (fCall (c_l_lists 30)) (mCons (mOp opIx (mVar 2) (mC (.int 0))) mNil)) (mCons (mCall (fCall (c_l_lists 30)) (mCons (mOp opIx (mVar 2) (mC (.int 1))) mNil)) mNil))) (mgN 4))
  (mSeq (mFor (mItems (mTup (mCons (mC (.int 1)) (mCons (mC (.int 0)) (mCons (mC (.int 1)) mNil))))) (mgN 5) (mSeq mAf32 mAt32))
  (mRet (mC (.bl true)))))))) := rfl
section
variable {S0 S T T' : Store} {k N M n s : Nat} {A B X Y : BkD} {c0 c1 d0 d1 dd : D} {t : Int}
def E32 (k n : Nat) (c0 c1 d0 d1 : D) (s : Nat) (v5 : Option D) : Q.Env := [some (.ref k), some (.int n), some (.lst [c0, c1]), some (.lst [d0, d1]), some (.ref s), v5]
theorem af32 (h : Sf32 S0 k N s n A B T) (hA : A.ps.length ≤ 400) (hB : B.ps.length ≤ 400) (hX : X.ps.length ≤ 400) (hY : Y.ps.length ≤ 400) (i0 : ∀ S, opIx (.lst [c0, c1]) (.int t) S = .ok (X.d n) S) (i1 : ∀ S, opIx (.lst [c0, c1]) (.int (1 - t)) S = .ok (Y.d n) S) : ∃ T3, mAf32 (E32 k n c0 c1 d0 d1 s (some (.int t))) T = .ok (.nx (E32 k n c0 c1 d0 d1 s (some (.int t)))) T3 ∧ Sf32 S0 k N s n X Y T3 := by
  obtain ⟨T1, v, T2, w, T3, e1, e2, e3, h3⟩ := fill32 h hA hB hX hY
  refine ⟨T3, ?_, h3⟩
  unfold mAf32 E32
  generalize c_l_lists 30 = cl at *
  generalize f_l_filled 30 = ff at *
  generalize X.d n = XD at *
  generalize Y.d n = YD at *
  simp -implicitDefEqProofs [i0, i1, e1, e2, e3]
theorem at32 (h : Sf32 S0 k N s n X Y T) (pc : pureD (.lst [c0, c1]) = true) (pd : pureD (.lst [d0, d1]) = true) (i0 : ∀ S, opIx (.lst [d0, d1]) (.int t) S = .ok dd S) (ht : ∀ S, fPure f_l_told [bkLB n X, bkLB n Y] S = .ok dd S) (ok : okD 20 dd = true) : mAt32 (E32 k n c0 c1 d0 d1 s (some (.int t))) T = .ok (.nx (E32 k n c0 c1 d0 d1 s (some (.int t)))) T := by
  have cp := h.copy
  have s2 : snapO6 T (some (.int n)) = some (.int n) := snapO6_pure rfl
  have s3 := snapO6_pure (S := T) pc
  have s4 := snapO6_pure (S := T) pd
  have s5 : snapO6 T (some (.int t)) = some (.int t) := snapO6_pure rfl
  have sm := fun S => sameP S ok
  have j0 : ∀ S, opIx (.lst [bkLB n X, bkLB n Y]) (.int 0) S = .ok (bkLB n X) S := fun S => rfl
  have j1 : ∀ S, opIx (.lst [bkLB n X, bkLB n Y]) (.int 1) S = .ok (bkLB n Y) S := fun S => rfl
  unfold mAt32 E32
  generalize snapO6 T (some (.ref k)) = sk at *
  generalize f_l_same 30 = fs at *
  generalize D.lst [bkLB n X, bkLB n Y] = LL at *
  generalize bkLB n X = XD at *
  generalize bkLB n Y = YD at *
  simp -implicitDefEqProofs [cp, s2, s3, s4, s5, j0, j1, ht, i0, sm]
theorem ag_turn (h : Sf32 S0 k N s n A B T) (hA : A.ps.length ≤ 400) (hB : B.ps.length ≤ 400) (hX : X.ps.length ≤ 400) (hY : Y.ps.length ≤ 400) (pc : pureD (.lst [c0, c1]) = true) (pd : pureD (.lst [d0, d1]) = true) (i0 : ∀ S, opIx (.lst [c0, c1]) (.int t) S = .ok (X.d n) S) (i1 : ∀ S, opIx (.lst [c0, c1]) (.int (1 - t)) S = .ok (Y.d n) S) (i2 : ∀ S, opIx (.lst [d0, d1]) (.int t) S = .ok dd S) (ht : ∀ S, fPure f_l_told [bkLB n X, bkLB n Y] S = .ok dd S) (ok : okD 20 dd = true) :
    ∃ T3, (mSeq mAf32 mAt32) (E32 k n c0 c1 d0 d1 s (some (.int t))) T = .ok (.nx (E32 k n c0 c1 d0 d1 s (some (.int t)))) T3 ∧ Sf32 S0 k N s n X Y T3 := by
  obtain ⟨T3, e, h3⟩ := af32 (d0 := d0) (d1 := d1) h hA hB hX hY i0 i1
  refine ⟨T3, ?_, h3⟩
  rw [ap_seq, e, bind_ok, seqK_nx]
  exact at32 h3 pc pd i2 ht ok
theorem again_s (h : BoxS S0 k N S) (hp : S0.all Cell.pure = true) (hN : N + 1000 < 2 ^ 40) : (f_l_again_right [.ref k] S).Sat fun d S' => d = .bl true ∧ BoxS S0 k (N + 100) S' := by
  have lS : S.length = S0.length := h.len
  unfold f_l_again_right
  rw [fnM_1, form_again]
  show (endM S.length (mSeq _ (mSeq _ (mSeq _ (mSeq _ (mSeq _ _)))) [some (.ref k), none, none, none, none, none] S)).Sat _
  generalize hAT : mSeq mAf32 mAt32 = AT at *
  generalize hcl : c_l_lists 30 = cl at *
  simp -implicitDefEqProofs
  refine sat_step (take_s (n := 6) h (by omega) (by decide) (by decide)) ?_
  rintro _ S1 ⟨r, rfl, r0, r1, h1⟩
  obtain ⟨n, en, n0, n8⟩ : ∃ n : Nat, 2 + r = (n : Int) ∧ 0 < n ∧ n ≤ 7 := ⟨(2 + r).toNat, by omega, by omega, by omega⟩
  have lc : (lcL (mgN 5) mYes (mTup (mCons (mVar 1) (mCons (mCall (fCall f_l_limit) (mCons (mVar 0) mNil)) (mCons (mCall (fCall f_l_looks) (mCons (mVar 0) (mCons (mVar 1) (mCons (mC (.int 8)) mNil)))) mNil)))) [some (.ref k), some (.int n), none, none, none, none] (rangeD 0 2) S1).Sat fun vs S' => vs.length = (rangeD 0 2).length ∧ (∀ v ∈ vs, ∃ A : BkD, v = A.d n ∧ BkOk n A ∧ A.ps.length ≤ 8) ∧ BoxS S0 k (N + 1 + 30 * (rangeD 0 2).length) S' :=
    lcL_draw (c := 30) (T := N + 100) (P := fun v => ∃ A : BkD, v = A.d n ∧ BkOk n A ∧ A.ps.length ≤ 8) _ (N + 1) S1 h1 (by rw [rangeD_len]; omega) fun d hd M S hS hM => by
      refine ⟨_, rfl, ?_⟩
      simp -implicitDefEqProofs
      refine sat_step (limit_s hS (by omega)) ?_
      rintro _ S2 ⟨⟨a, b, rfl, a0, ab, b2⟩, h2⟩
      simp -implicitDefEqProofs
      refine sat_step (looks_s (many := (n : Int)) (most := 8) h2 hp (by omega) (by omega) (Int.lt_of_le_of_lt (show (n : Int) ≤ 7 by omega) (by decide)) (by decide)) ?_
      rintro _ S3 ⟨ps, rfl, hps, lps, h3⟩
      simp -implicitDefEqProofs
      exact ⟨⟨⟨a, b, ps⟩, rfl, ⟨a0, ab, Int.lt_trans b2 (by decide), hps, by show ps.length < 40; omega⟩, lps⟩, h3.mono (by omega)⟩
  have r2 : ∀ S, r1K (.int 2) S = .ok (rangeD 0 2) S := fun S => r1K_nat 2 (by decide)
  have rl := rangeD_len 0 2
  generalize rangeD 0 2 = R at *
  have rz : R.length ≤ 100000 := by omega
  simp -implicitDefEqProofs [en, r2, rz]
  refine sat_step lc ?_
  rintro vs S2 ⟨hl, hv, h2⟩
  obtain ⟨c0, c1, rfl⟩ : ∃ c0 c1, vs = [c0, c1] := by
    rcases vs with _ | ⟨c0, _ | ⟨c1, _ | ⟨c2, vs⟩⟩⟩
    · simp at hl; omega
    · simp at hl; omega
    · exact ⟨c0, c1, rfl⟩
    · simp at hl; omega
  obtain ⟨A, rfl, hA, lA⟩ := hv c0 (by simp)
  obtain ⟨B, rfl, hB, lB⟩ := hv c1 (by simp)
  obtain ⟨d0, o0, t0⟩ := toldX (by omega) hA hB
  obtain ⟨d1, o1, t1⟩ := toldX (by omega) hB hA
  have u0 := t0 (A.d n) (B.d n) (.inl rfl) (.inl rfl)
  have u1 := t1 (B.d n) (A.d n) (.inl rfl) (.inl rfl)
  have w0 := t0 (bkLB n A) (bkLB n B) (.inr rfl) (.inr rfl)
  have w1 := t1 (bkLB n B) (bkLB n A) (.inr rfl) (.inr rfl)
  have h2' := h2.mono (show N + 1 + 30 * R.length ≤ N + 100 by omega)
  have in2 : InB S0 k (N + 100) S2 := InB.start h2'
  have i0 : ∀ S, opIx (.lst [A.d n, B.d n]) (.int 0) S = .ok (A.d n) S := fun S => rfl
  have i1 : ∀ S, opIx (.lst [A.d n, B.d n]) (.int 1) S = .ok (B.d n) S := fun S => rfl
  have j0 : ∀ S, opIx (.lst [d0, d1]) (.int 0) S = .ok d0 S := fun S => rfl
  have j1 : ∀ S, opIx (.lst [d0, d1]) (.int 1) S = .ok d1 S := fun S => rfl
  have pA := hA.book.pure
  have pB := hB.book.pure
  have pc : pureD (.lst [A.d n, B.d n]) = true := by
    show pureL [A.d n, B.d n] = true
    simp [pureL, pA, pB]
  have pd : pureD (.lst [d0, d1]) = true := by
    show pureL [d0, d1] = true
    simp [pureL, okD_pure 20 _ o0, okD_pure 20 _ o1]
  obtain ⟨T1, v, T2, w, e1, e2, s0⟩ := start32 in2 (show A.ps.length ≤ 400 by omega) (show B.ps.length ≤ 400 by omega)
  rw [hcl] at e1 e2
  obtain ⟨T3, e3, s3⟩ := ag_turn (t := 1) s0 (by omega) (by omega) (show B.ps.length ≤ 400 by omega) (show A.ps.length ≤ 400 by omega) pc pd i1 i0 j1 w1 o1
  obtain ⟨T4, e4, s4⟩ := ag_turn (t := 0) s3 (by omega) (by omega) (show A.ps.length ≤ 400 by omega) (show B.ps.length ≤ 400 by omega) pc pd i0 i1 j0 w0 o0
  obtain ⟨T5, e5, s5⟩ := ag_turn (t := 1) s4 (by omega) (by omega) (show B.ps.length ≤ 400 by omega) (show A.ps.length ≤ 400 by omega) pc pd i1 i0 j1 w1 o1
  rw [hAT] at e3 e4 e5
  have lp : forL (mgN 5) AT [.int 1, .int 0, .int 1] (E32 k n (A.d n) (B.d n) d0 d1 T2.length none) (T2 ++ [.lst [v, w]]) = .ok (.nx (E32 k n (A.d n) (B.d n) d0 d1 T2.length (some (.int 1)))) T5 := by
    have g : ∀ (z : D) (v5 : Option D) (T : Store), mgN 5 z (E32 k n (A.d n) (B.d n) d0 d1 T2.length v5) T = .ok (E32 k n (A.d n) (B.d n) d0 d1 T2.length (some z)) T := fun z v5 T => rfl
    rw [for_go (g _ _ _) e3, for_go (g _ _ _) e4, for_go (g _ _ _) e5]
    rfl
  obtain ⟨S', f1, f2⟩ := s5.inb.fin hp (d := .bl true) rfl
  rw [← lS] at f1
  have dz : ∀ S, opIx (.lst [A.d n, B.d n]) (.int 0) S = .ok (A.d n) S := i0
  unfold E32 at lp
  generalize A.d n = AD at *
  generalize B.d n = BD at *
  simp -implicitDefEqProofs [i0, i1, u0, u1, e1, e2, lp, f1]
  exact f2
end
section
variable {n : Nat} {a b : Int} {ps qs ys : List (Int × Int)}
theorem mul3 (d : D) (S : Store) : opMul (.lst [d]) (.int 3) S = .ok (.lst [d, d, d]) S := rfl
theorem lleastP (hb : LooksOk n ps) (hl : ps.length < 50) (hn : n < 1000) (S : Store) : fPure f_l_least [bookD n a b ps] S = .ok (bookD n a b (leastR ps)) S := by
  have p1 : pureD (bookD n a b ps) = true := pure_bkW _ _ _ _
  refine fPure_ap S (by simp only [pureL_cons, p1, pureL_nil]; rfl) ?_
  have i0 : ∀ S, opIx (bookD n a b ps) (.int 0) S = .ok (.int n) S := fun S => rfl
  have i1 : ∀ S, opIx (bookD n a b ps) (.int 1) S = .ok (.tup [.int a, .int b]) S := fun S => rfl
  have i2 : ∀ S, opIx (bookD n a b ps) (.int 2) S = .ok (looksD ps) S := fun S => rfl
  have it : ∀ S, itemsOf (looksD ps) S = .ok (ps.map pairD) S := fun S => rfl
  have z1 : (ps.map pairD).length ≤ 100000 := by rw [List.length_map]; omega
  have hlim := lim_ok (show (n : Int) < lim by unfold lim; omega) hb
  have lc : ∀ S, lcL (mgN 2) (mNotT (mTest (mCall (fPure f_l_tiled) (mCons (mLc (mItems (mOp opIx (mVar 0) (mC (.int 2)))) (mgN 3) (mTB (mOp opNe (mVar 3) (mVar 2))) (mVar 3) [3]) (mCons (mVar 2) mNil))))) (mVar 2) [some (bookD n a b ps), none, none, none] (ps.map pairD) S = .ok ((leastR ps).map pairD) S := fun S =>
    lcL_filterb (u := pairD) ps S fun p hp => ⟨[some (bookD n a b ps), none, some (pairD p), none], rfl, by
      have ot : lcL (mgN 3) (mTB (mOp opNe (mVar 3) (mVar 2))) (mVar 3) [some (bookD n a b ps), none, some (pairD p), none] (ps.map pairD) S = .ok ((ps.filter fun q => decide (q ≠ p)).map pairD) S :=
        lcL_filterb (u := pairD) ps S fun q hq => ⟨[some (bookD n a b ps), none, some (pairD p), some (pairD q)], rfl, by
          have e := ne_pair (p := p) (q := q) S
          generalize decide (q ≠ p) = B at *
          generalize pairD q = Y at *
          generalize pairD p = X at *
          generalize bookD n a b ps = BD at *
          simp -implicitDefEqProofs [e], by generalize pairD q = Y; generalize pairD p = X; generalize bookD n a b ps = BD; simp⟩
      have fl : (ps.filter fun q => decide (q ≠ p)).length ≤ ps.length := List.length_filter_le _ _
      have z2 : ((ps.filter fun q => decide (q ≠ p)).map pairD).length ≤ 100000 := by rw [List.length_map]; omega
      have ti := fun S => tiled_z (s := p.1) (e := p.2) (z := .lst ((ps.filter fun q => decide (q ≠ p)).map pairD)) (.inr rfl) (fun q hq => hlim q (List.mem_filter.mp hq).1) (show (ps.filter fun q => decide (q ≠ p)).length < 60 by omega) S
      have ep : pairD (p.1, p.2) = pairD p := rfl
      rw [ep] at ti
      have e3 : (!decide (p.1 ∈ closedP (ps.filter fun q => decide (q ≠ p)) [p.2])) = decide (p.1 ∉ closedP (ps.filter fun q => decide (q ≠ p)) [p.2]) := by simp
      rw [← e3]
      generalize decide (p.1 ∈ closedP (ps.filter fun q => decide (q ≠ p)) [p.2]) = B at *
      generalize (ps.filter fun q => decide (q ≠ p)).map pairD = OT at *
      generalize bookD n a b ps = BD at *
      generalize ps.map pairD = PD at *
      generalize looksD ps = LD at *
      generalize pairD p = X at *
      simp -implicitDefEqProofs [i2, it, z1, ot, ti], by generalize pairD p = X; generalize bookD n a b ps = BD; simp⟩
  have ll := least_len ps
  have z3 : ((leastR ps).map pairD).length ≤ 100000 := by rw [List.length_map]; omega
  have e : D.tup [.int n, .tup [.int a, .int b], .tup ((leastR ps).map pairD)] = bookD n a b (leastR ps) := rfl
  have pe : pureD (bookD n a b (leastR ps)) = true := pure_bkW _ _ _ _
  rw [← e] at pe ⊢
  unfold f_l_least m_l_least
  rw [fnM_1]
  generalize (leastR ps).map pairD = LR at *
  generalize bookD n a b ps = BD at *
  generalize ps.map pairD = PD at *
  generalize looksD ps = LD at *
  generalize f_l_tiled = ft at *
  simp -implicitDefEqProofs [i0, i1, i2, it, z1, lc, z3, fin_nil pe]
theorem sure_til (h : ∀ p ∈ ps, p.1 < p.2) {p : Int × Int} (hp : p ∈ sureR ps n) : Til ps p.2 p.1 := closed_til _ (mem_sureR.mp hp).2.1
theorem least_with (hb : LooksOk n ps) (hy : ∀ p ∈ ys, p ∈ sureR ps n) (hw : LooksOk n (sortU (ps ++ ys))) : leastR (sortU (ps ++ ys)) = leastR ps := by
  have lt : ∀ p ∈ ps, p.1 < p.2 := fun p hp => (hb.ok p hp).2.1
  refine least_congr hw hb fun k x => ⟨fun t => til_all t fun q hq => ?_, fun t => til_all t fun q hq => Til.one (mem_sortU.mpr (List.mem_append_left _ hq))⟩
  rcases List.mem_append.mp (mem_sortU.mp hq) with m | m
  · exact Til.one m
  · exact sure_til lt (hy q m)
theorem least_less (hb : LooksOk n ps) (hq : ∀ p ∈ qs, p ∉ leastR ps) : leastR (ps.filter fun p => decide (p ∉ qs)) = leastR ps := by
  have lt : ∀ p ∈ ps, p.1 < p.2 := fun p hp => (hb.ok p hp).2.1
  have sub : ∀ q ∈ leastR ps, q ∈ ps.filter fun p => decide (p ∉ qs) := fun q m => List.mem_filter.mpr ⟨least_sub q m, decide_eq_true fun z => hq q z m⟩
  refine least_congr ⟨hb.up.filter _, fun p hp => hb.ok p (List.mem_filter.mp hp).1⟩ hb fun k x => ⟨fun t => til_all t fun q hq => Til.one (List.mem_filter.mp hq).1, fun t => ?_⟩
  exact til_all ((least_til lt).mpr t) fun q hq => Til.one (sub q hq)
theorem least_twice (hb : LooksOk n ps) : leastR (leastR ps) = leastR ps :=
  least_congr (least_ok hb) hb fun k x => least_til fun p hp => (hb.ok p hp).2.1
theorem calm_least {rows : List (Int × Int)} (hA : BkOk n ⟨a, b, ps⟩) (hL : BkOk n ⟨a, b, leastR ps⟩) (h : Quiet a b rows (leastR ps)) : Quiet a b rows ps := fun p hp => by
  have st := hA.st p hp
  have t : Til (leastR ps) p.2 p.1 := (least_til hA.lt).mpr (Til.one hp)
  exact (til_calm hL (A := ⟨a, b, leastR ps⟩) h t (by omega)).2
theorem calm_with {rows : List (Int × Int)} (hA : BkOk n ⟨a, b, ps⟩) (hy : ∀ p ∈ ys, p ∈ sureR ps n) (h : Quiet a b rows ps) : Quiet a b rows (sortU (ps ++ ys)) := fun p hp => by
  rcases List.mem_append.mp (mem_sortU.mp hp) with m | m
  · exact h p m
  · have st := (mem_sureR.mp (hy p m)).1
    exact (til_calm hA (A := ⟨a, b, ps⟩) h (sure_til hA.lt (hy p m)) (by omega)).2
theorem lcL_drawP {g : MG} {t : MT} {m : ME} {ρ : Q.Env} {S0 : Store} {k c T : Nat} {P : D → Prop} : ∀ (ds : List D) (N : Nat) (S : Store), BoxS S0 k N S → N + c * ds.length ≤ T →
    (∀ d ∈ ds, ∀ M S, BoxS S0 k M S → M + c ≤ T → ∃ ρ1, g d ρ S = .ok ρ1 S ∧ (t ρ1 S).Sat (fun q S' => (q = true → P d) ∧ BoxS S0 k (M + c) S') ∧ ∀ S', m ρ1 S' = .ok d S') →
    (lcL g t m ρ ds S).Sat fun vs S' => (vs.Sublist ds ∧ ∀ v ∈ vs, P v) ∧ BoxS S0 k (N + c * ds.length) S'
  | [], N, S, h, _, _ => ⟨⟨List.Sublist.refl _, fun v hv => by cases hv⟩, by simpa using h⟩
  | d :: ds, N, S, h, hT, turn => by
    rw [List.length_cons, Nat.mul_succ] at hT ⊢
    obtain ⟨ρ1, h1, h2, h3⟩ := turn d (by simp) N S h (by omega)
    have ih := fun S1 (hS1 : BoxS S0 k (N + c) S1) => lcL_drawP (g := g) (t := t) (m := m) (ρ := ρ) ds (N + c) S1 hS1 (by omega) fun e he => turn e (by simp [he])
    unfold lcL
    rw [h1]
    simp only [bind_ok]
    refine sat_step h2 ?_
    rintro q S1 ⟨hP, hS1⟩
    cases q with
    | true =>
      dsimp only
      rw [h3 S1, bind_ok]
      refine sat_step (ih S1 hS1) ?_
      rintro vs S2 ⟨⟨hs, hv⟩, hS2⟩
      refine ⟨⟨hs.cons₂ d, fun v hm => ?_⟩, hS2.mono (by omega)⟩
      rcases List.mem_cons.mp hm with rfl | hm
      · exact hP rfl
      · exact hv v hm
    | false =>
      dsimp only
      refine (ih S1 hS1).mono ?_
      rintro vs S2 ⟨⟨hs, hv⟩, hS2⟩
      exact ⟨⟨hs.cons d, hv⟩, hS2.mono (by omega)⟩
end
def mR1 : MS := (mAsg (mIfE (mTB (mOp opEq (mCall (fCall f_l_take) (mCons (mVar 0) (mCons (mC (.int 2)) mNil))) (mC (.int 0)))) (mCall (fCall f_l_book) (mCons (mVar 0) (mCons (mC (.int 12)) (mCons (mC (.int 10)) mNil)))) (mCall (fCall f_l_net) (mCons (mVar 0) (mCons (mC (.int 7)) (mCons (mC (.int 14)) mNil))))) (mgN 1))
def mR2 : MS := (mAsg (mTup (mCons (mCall (fPure f_l_least) (mCons (mVar 1) mNil)) (mCons (mCall (fPure (f_l_lists 30)) (mCons (mVar 1) mNil)) mNil))) (mgTup 2 (mgCons (mgN 2) (mgCons (mgN 3) mgNil))))
def mR3 : MS := (mIf (mOrT (mNotT (mTest (mCall (fPure (f_l_same 30)) (mCons (mLst (mCons (mCall (fPure f_p_least) (mCons (mVar 1) mNil)) (mCons (mCallK (fPure f_p_least) 0 1 [0] mNil (mCons (mVar 3) mNil)) (mCons (mCall (fPure f_p_least) (mCons (mVar 2) mNil)) mNil)))) (mCons (mOp opMul (mLst (mCons (mVar 2) mNil)) (mC (.int 3))) mNil))))) (mTB (mOp opNe (mVar 3) (mCall (fPure (f_l_lists 30)) (mCons (mVar 1) mNil))))) (mRet (mC (.bl false))) mSkip)
def mR4 : MS := (mAsg (mCall (fPure f_l_with) (mCons (mVar 1) (mCons (mCall (fCall f_l_pick) (mCons (mVar 0) (mCons (mCall (fPure f_p_sure) (mCons (mVar 1) mNil)) (mCons (mC (.int 10)) mNil)))) mNil))) (mgN 4))
def mR5 : MS := (mAsg (mCall (fPure f_l_without) (mCons (mVar 1) (mCons (mLc (mItems (mOp opIx (mVar 1) (mC (.int 2)))) (mgN 9) (mAndT (mTB (mOp opNin (mVar 9) (mOp opIx (mVar 2) (mC (.int 2))))) (mTB (mOp opEq (mCall (fCall f_l_take) (mCons (mVar 0) (mCons (mC (.int 2)) mNil))) (mC (.int 0))))) (mVar 9) [9]) mNil))) (mgN 5))
def mR6 : MS := (mIf (mNotT (mTest (mCall (fPure (f_l_same 30)) (mCons (mLst (mCons (mCall (fPure f_p_least) (mCons (mVar 4) mNil)) (mCons (mCall (fPure f_p_least) (mCons (mVar 5) mNil)) mNil))) (mCons (mLst (mCons (mVar 2) (mCons (mVar 2) mNil))) mNil))))) (mRet (mC (.bl false))) mSkip)
def mRq : MS := (mSeq (mPar 7 8 (mCons (mCall (fCall f_l_quiet_log) (mCons (mVar 0) (mCons (mVar 2) mNil))) (mCons (mCall (fCall f_l_quiet_log) (mCons (mVar 0) (mCons (mVar 4) mNil))) mNil)))
  (mIf (mOrT (mNotT (mTest (mCall (fPure f_l_is_quiet) (mCons (mVar 1) (mCons (mVar 7) mNil))))) (mOrT (mNotT (mTest (mCall (fPure f_p_is_quiet) (mCons (mVar 4) (mCons (mVar 7) mNil))))) (mNotT (mTest (mCall (fPure f_p_is_quiet) (mCons (mVar 2) (mCons (mVar 8) mNil))))))) (mRet (mC (.bl false))) mSkip))
theorem form_R32 : m_l_right = mSeq mR1 (mSeq mR2 (mSeq mR3 (mSeq mR4 (mSeq mR5 (mSeq mR6 (mSeq (mFor (mRange1 (mC (.int 2))) (mgN 6) mRq) (mRet (mC (.bl true)))))))))  := rfl
def R32 (k : Nat) (v1 v2 v3 v4 v5 v6 v7 v8 : Option D) : Q.Env := [some (.ref k), v1, v2, v3, v4, v5, v6, v7, v8, none]
section
variable {S0 S T : Store} {k N M n : Nat} {a b : Int} {ps qs ys : List (Int × Int)} {v1 v2 v3 v4 v5 v6 v7 v8 : Option D}
theorem seq_go32 {m m' : MS} {E E' : Q.Env} {S S' : Store} (h : m E S = .ok (.nx E') S') : mSeq m m' E S = m' E' S' := by rw [ap_seq, h, bind_ok, seqK_nx]
def PR1 (S0 : Store) (k M : Nat) (f : Fl) (T : Store) : Prop := ∃ (n : Nat) (a b : Int) (ps : List (Int × Int)), f = .nx (R32 k (some (bookD n a b ps)) none none none none none none none) ∧ (0 < n ∧ n ≤ 12) ∧ BkOk n ⟨a, b, ps⟩ ∧ ps.length ≤ 14 ∧ b < 2 ^ 67 ∧ BoxS S0 k M T
theorem pr1 (h : BoxS S0 k N S) (hp : S0.all Cell.pure = true) (hN : N + 6000 < 2 ^ 40) : (mR1 (R32 k none none none none none none none none) S).Sat (PR1 S0 k (N + 101)) := by
  have fin : ∀ (n : Nat) (a b : Int) (ps : List (Int × Int)) (T : Store), (0 < n ∧ n ≤ 12) → (0 < a ∧ a < b ∧ b < 2 ^ 67) → LooksOk n ps → ps.length ≤ 14 → BoxS S0 k (N + 101) T → PR1 S0 k (N + 101) (.nx (R32 k (some (bookD n a b ps)) none none none none none none none)) T := fun n a b ps T h1 h2 h3 h4 h5 => ⟨n, a, b, ps, rfl, h1, ⟨h2.1, h2.2.1, Int.lt_trans h2.2.2 (by decide), h3, by show ps.length < 40; omega⟩, h4, h2.2.2, h5⟩
  generalize PR1 S0 k (N + 101) = Q at *
  unfold mR1
  unfold R32 at *
  simp -implicitDefEqProofs
  refine sat_step (take_s (n := 2) h (by omega) (by decide) (by decide)) ?_
  rintro _ S1 ⟨r, rfl, r0, r1, h1⟩
  by_cases c : r = 0
  · subst c
    simp -implicitDefEqProofs
    refine sat_step (book_s (mm := 12) (most := 10) h1 hp (by omega) (by decide) (by decide) (by decide)) ?_
    rintro _ S2 ⟨n, a, b, ps, rfl, hn, hab, hps, hl, h2⟩
    have f := fin n a b ps S2 hn hab hps (by omega) (h2.mono (by omega))
    generalize bookD n a b ps = BD at *
    simp -implicitDefEqProofs
    exact f
  · simp -implicitDefEqProofs [c]
    refine sat_step (net_s (mm := 7) (most := 14) (by decide) (by decide) (by decide) h1 hp (by omega)) ?_
    rintro _ S2 ⟨n, a, b, ps, rfl, hn, hab, hps, hl, h2⟩
    have f := fin n a b ps S2 (by omega) hab hps hl (h2.mono (by omega))
    generalize bookD n a b ps = BD at *
    simp -implicitDefEqProofs
    exact f
theorem okD_2 {d e : D} (h : okD 4 d = true) (h' : okD 4 e = true) : okD 20 (.lst [d, e]) = true := by
  have e1 := okD_up 4 19 _ h (by decide)
  have e2 := okD_up 4 19 _ h' (by decide)
  rw [okD_lst]
  simp [e1, e2]
theorem okD_3 {d : D} (h : okD 4 d = true) : okD 20 (.lst [d, d, d]) = true := by
  have e1 := okD_up 4 19 _ h (by decide)
  rw [okD_lst]
  simp [e1]
theorem pr2 (hA : BkOk n ⟨a, b, ps⟩) (hn : n ≤ 12) (hl : ps.length ≤ 14) : mR2 (R32 k (some (bookD n a b ps)) v2 v3 v4 v5 v6 v7 v8) T = .ok (.nx (R32 k (some (bookD n a b ps)) (some (bookD n a b (leastR ps))) (some (bkL n a b ps)) v4 v5 v6 v7 v8)) T := by
  have e1 := lleastP (a := a) (b := b) hA.hp (show ps.length < 50 by omega) (show n < 1000 by omega)
  have e2 := lists_bk (n := n) (a := a) (b := b) (ps := ps) (by omega)
  unfold mR2 R32
  generalize bookD n a b ps = BD at *
  generalize bookD n a b (leastR ps) = LD at *
  generalize bkL n a b ps = BL at *
  generalize f_l_lists 30 = fl at *
  simp -implicitDefEqProofs [e1, e2]
theorem shal_bkL : shal 20 (bkL n a b ps) = true := by
  have e : shal 19 (.lst (ps.map pL32)) = true := by
    rw [shal_lst]
    exact List.all_eq_true.mpr fun y hy => by
      obtain ⟨z, _, rfl⟩ := List.mem_map.mp hy
      rfl
  unfold bkL
  rw [shal_lst]
  simp only [List.all_cons, List.all_nil, e]
  rfl
theorem pr3 (hA : BkOk n ⟨a, b, ps⟩) (hn : n ≤ 12) (hl : ps.length ≤ 14) : mR3 (R32 k (some (bookD n a b ps)) (some (bookD n a b (leastR ps))) (some (bkL n a b ps)) v4 v5 v6 v7 v8) T = .ok (.nx (R32 k (some (bookD n a b ps)) (some (bookD n a b (leastR ps))) (some (bkL n a b ps)) v4 v5 v6 v7 v8)) T := by
  have ll := least_len ps
  have e1 := leastX (X := bookD n a b ps) (.inl rfl) hA.hp (show ps.length < 63 by omega) (show n < 1000 by omega)
  have e2 := leastX (X := bkL n a b ps) (.inr rfl) hA.hp (show ps.length < 63 by omega) (show n < 1000 by omega)
  have e3 := leastX (X := bookD n a b (leastR ps)) (.inl rfl) (least_ok hA.hp) (show (leastR ps).length < 63 by omega) (show n < 1000 by omega)
  rw [least_twice hA.hp] at e3
  have e4 := lists_bk (n := n) (a := a) (b := b) (ps := ps) (by omega)
  have ne : ∀ S, opNe (bkL n a b ps) (bkL n a b ps) S = .ok (.bl false) S := fun S => ne_selfD shal_bkL
  have m3 := mul3 (bookD n a b (leastR ps))
  have sm := fun S => sameP S (okD_3 (okD_bk (n := n) (a := a) (b := b) (ps := leastR ps) (by omega)))
  have pl : ∀ x : D, place [0] [x] = [x] := fun x => rfl
  unfold mR3 R32
  generalize bookD n a b ps = BD at *
  generalize bookD n a b (leastR ps) = LD at *
  generalize bkL n a b ps = BL at *
  generalize f_l_lists 30 = fl at *
  generalize f_l_same 30 = fs at *
  simp -implicitDefEqProofs [e1, e2, e3, e4, ne, m3, sm, ckK, ckK2, pl]
end
section
variable {S0 S T : Store} {k N M n : Nat} {a b : Int} {ps qs ys : List (Int × Int)} {v1 v2 v3 v4 v5 v6 v7 v8 : Option D}
def PR4 (S0 : Store) (k M n : Nat) (a b : Int) (ps : List (Int × Int)) (v2 v3 v5 v6 v7 v8 : Option D) (f : Fl) (T : Store) : Prop := ∃ ys : List (Int × Int), f = .nx (R32 k (some (bookD n a b ps)) v2 v3 (some ((withB a b ps ys).d n)) v5 v6 v7 v8) ∧ (∀ p ∈ ys, p ∈ sureR ps n) ∧ BkOk n (withB a b ps ys) ∧ BoxS S0 k M T
theorem pr4 (h : BoxS S0 k N S) (hp : S0.all Cell.pure = true) (hN : N + 6000 < 2 ^ 40) (hA : BkOk n ⟨a, b, ps⟩) (hn : n ≤ 12) (hl : ps.length ≤ 14) : (mR4 (R32 k (some (bookD n a b ps)) v2 v3 v4 v5 v6 v7 v8) S).Sat (PR4 S0 k (N + 10) n a b ps v2 v3 v5 v6 v7 v8) := by
  have st : ∀ p ∈ ps, InS n p := hA.hp.ok
  have fin : ∀ (ys : List (Int × Int)) (T : Store), (∀ p ∈ ys, p ∈ sureR ps n) → ys.length ≤ 10 → BoxS S0 k (N + 10) T → (∀ S, fPure f_l_with [bookD n a b ps, .lst (ys.map pairD)] S = .ok ((withB a b ps ys).d n) S) ∧ PR4 S0 k (N + 10) n a b ps v2 v3 v5 v6 v7 v8 (.nx (R32 k (some (bookD n a b ps)) v2 v3 (some ((withB a b ps ys).d n)) v5 v6 v7 v8)) T := fun ys T h1 h2 h3 => by
    have hy : ∀ p ∈ ys, InS n p := fun p m => sure_ge hA.hp (h1 p m)
    exact ⟨fun S => withP (by omega) st hy (by omega) S, ys, rfl, h1, with_bk hA.ha hA.hab hA.hb st hy (by omega), h3⟩
  have su := sureX (X := bookD n a b ps) (.inl rfl) hA.hp (show ps.length < 63 by omega) (show n < 100 by omega)
  have sl : (sureR ps n).length ≤ 1000 := Nat.le_trans (sureR_len ps n) (Nat.le_trans (Nat.mul_le_mul (show 1 + ps.length ≤ 15 by omega) hn) (by decide))
  generalize PR4 S0 k (N + 10) n a b ps v2 v3 v5 v6 v7 v8 = Q at *
  unfold mR4
  unfold R32 at *
  generalize bookD n a b ps = BD at *
  have pk := pick_s (m := 10) (xs := sureR ps n) h hp (by omega) sl (by decide)
  generalize hSR : D.lst ((sureR ps n).map pairD) = SR at *
  change (f_l_pick [.ref k, SR, .int 10] S).Sat _ at pk
  simp -implicitDefEqProofs [su]
  refine sat_step pk ?_
  rintro _ S1 ⟨ys, zs, rfl, ly, hpm, h1⟩
  obtain ⟨w, f⟩ := fin ys S1 (fun p m => hpm.subset (List.mem_append_left _ m)) ly h1
  generalize D.lst (ys.map pairD) = YD at *
  simp -implicitDefEqProofs [w]
  exact f
def PR5 (S0 : Store) (k M n : Nat) (a b : Int) (ps : List (Int × Int)) (v2 v3 v4 v6 v7 v8 : Option D) (f : Fl) (T : Store) : Prop := ∃ qs : List (Int × Int), f = .nx (R32 k (some (bookD n a b ps)) v2 v3 v4 (some ((lessB a b ps qs).d n)) v6 v7 v8) ∧ (∀ p ∈ qs, p ∉ leastR ps) ∧ BoxS S0 k M T
theorem pairs_of {ds : List D} {ps : List (Int × Int)} {P : D → Prop} (hs : ds.Sublist (ps.map pairD)) (hP : ∀ d ∈ ds, P d) : ∃ qs : List (Int × Int), ds = qs.map pairD ∧ ∀ p ∈ qs, P (pairD p) := by
  obtain ⟨qs, _, rfl⟩ := List.sublist_map_iff.mp hs
  exact ⟨qs, rfl, fun p hp => hP _ (List.mem_map.mpr ⟨p, hp, rfl⟩)⟩
theorem nin_looks {xs : List (Int × Int)} {p : Int × Int} (S : Store) : opNin (pairD p) (looksD xs) S = .ok (.bl (!decide (p ∈ xs))) S := by
  have sh : shal 20 (looksD xs) = true := by
    unfold looksD
    rw [shal_tup]
    exact List.all_eq_true.mpr fun y hy => by
      obtain ⟨z, _, rfl⟩ := List.mem_map.mp hy
      rfl
  have e : inD (xs.map pairD) (pairD p) = decide (p ∈ xs) := inD_pairs
  show opNin (pairD p) (.tup (xs.map pairD)) S = _
  rw [nin_tup (a := pairD p) rfl sh, e]
theorem pr5 (h : BoxS S0 k N S) (hN : N + 6000 < 2 ^ 40) (hA : BkOk n ⟨a, b, ps⟩) (hl : ps.length ≤ 14) : (mR5 (R32 k (some (bookD n a b ps)) (some (bookD n a b (leastR ps))) v3 v4 v5 v6 v7 v8) S).Sat (PR5 S0 k (N + 14) n a b ps (some (bookD n a b (leastR ps))) v3 v4 v6 v7 v8) := by
  have i2 : ∀ S, opIx (bookD n a b ps) (.int 2) S = .ok (looksD ps) S := fun S => rfl
  have j2 : ∀ S, opIx (bookD n a b (leastR ps)) (.int 2) S = .ok (looksD (leastR ps)) S := fun S => rfl
  have it : ∀ S, itemsOf (looksD ps) S = .ok (ps.map pairD) S := fun S => rfl
  have z1 : (ps.map pairD).length ≤ 100000 := by rw [List.length_map]; omega
  have fin : ∀ (qs : List (Int × Int)) (T : Store), (∀ p ∈ qs, p ∉ leastR ps) → BoxS S0 k (N + 14) T → PR5 S0 k (N + 14) n a b ps (some (bookD n a b (leastR ps))) v3 v4 v6 v7 v8 (.nx (R32 k (some (bookD n a b ps)) (some (bookD n a b (leastR ps))) v3 v4 (some ((lessB a b ps qs).d n)) v6 v7 v8)) T := fun qs T h1 h2 => ⟨qs, rfl, h1, h2⟩
  have lc : (lcL (mgN 9) (mAndT (mTB (mOp opNin (mVar 9) (mOp opIx (mVar 2) (mC (.int 2))))) (mTB (mOp opEq (mCall (fCall f_l_take) (mCons (mVar 0) (mCons (mC (.int 2)) mNil))) (mC (.int 0))))) (mVar 9) (R32 k (some (bookD n a b ps)) (some (bookD n a b (leastR ps))) v3 v4 v5 v6 v7 v8) (ps.map pairD) S).Sat fun vs S' => (vs.Sublist (ps.map pairD) ∧ ∀ v ∈ vs, ∃ p, v = pairD p ∧ p ∉ leastR ps) ∧ BoxS S0 k (N + 1 * (ps.map pairD).length) S' :=
    lcL_drawP (c := 1) (T := N + 14) (P := fun v => ∃ p, v = pairD p ∧ p ∉ leastR ps) _ N S h (by rw [List.length_map]; omega) fun d hd M S hS hM => by
      obtain ⟨p, hp, rfl⟩ := List.mem_map.mp hd
      refine ⟨(R32 k (some (bookD n a b ps)) (some (bookD n a b (leastR ps))) v3 v4 v5 v6 v7 v8).set 9 (some (pairD p)), rfl, ?_, fun S' => by unfold R32; simp⟩
      have ni := nin_looks (xs := leastR ps) (p := p)
      have same : pairD p = pairD p := rfl
      by_cases c : p ∈ leastR ps
      · rw [decide_eq_true c] at ni
        unfold R32
        generalize bookD n a b ps = BD at *
        generalize bookD n a b (leastR ps) = LD at *
        generalize looksD (leastR ps) = LL at *
        generalize pairD p = X at *
        simp -implicitDefEqProofs [j2, ni]
        exact hS.mono (by omega)
      · rw [decide_eq_false c] at ni
        have fz0 : ∃ q, pairD p = pairD q ∧ q ∉ leastR ps := ⟨p, rfl, c⟩
        clear fin
        unfold R32
        generalize hQ : (∃ q, pairD p = pairD q ∧ q ∉ leastR ps) = Q at *
        generalize bookD n a b ps = BD at *
        generalize bookD n a b (leastR ps) = LD at *
        generalize looksD (leastR ps) = LL at *
        generalize pairD p = X at *
        simp -implicitDefEqProofs [j2, ni]
        refine sat_step (take_s (n := 2) hS (by omega) (by decide) (by decide)) ?_
        rintro _ S1 ⟨r, rfl, r0, r1, h1⟩
        simp -implicitDefEqProofs
        exact ⟨fun _ => fz0, h1⟩
  generalize PR5 S0 k (N + 14) n a b ps (some (bookD n a b (leastR ps))) v3 v4 v6 v7 v8 = Q at *
  have lw := fun qs S => lessP (n := n) (a := a) (b := b) (ps := ps) (qs := qs) (by omega) S
  have ln : (ps.map pairD).length = ps.length := List.length_map _
  unfold mR5
  unfold R32 at *
  generalize bookD n a b ps = BD at *
  generalize hPD : ps.map pairD = PD at *
  generalize looksD ps = LP at *
  simp -implicitDefEqProofs [i2, it, z1]
  refine sat_step lc ?_
  rintro vs S' ⟨⟨hs, hv⟩, hB⟩
  rw [← hPD] at hs
  obtain ⟨qs, rfl, hq⟩ := pairs_of hs hv
  have hq' : ∀ p ∈ qs, p ∉ leastR ps := fun p m => by
    obtain ⟨q, e, h⟩ := hq p m
    have : p = q := by
      cases p; cases q
      simp only [pairD] at e
      injection e with e
      injection e with e1 e2
      injection e2 with e2 _
      injection e1 with e1
      injection e2 with e2
      rw [e1, e2]
    rw [this]; exact h
  have f := fin qs S' hq' (hB.mono (by omega))
  have lq : (qs.map pairD).length ≤ 100000 := by
    have := hs.length_le
    rw [List.length_map] at this ⊢
    rw [List.length_map] at this
    omega
  have lw' := lw qs
  generalize qs.map pairD = QD at *
  simp -implicitDefEqProofs [lq, lw']
  exact f
theorem pr6 (hA : BkOk n ⟨a, b, ps⟩) (hn : n ≤ 12) (hl : ps.length ≤ 14) (hW : BkOk n (withB a b ps ys)) (hy : ∀ p ∈ ys, p ∈ sureR ps n) (hq : ∀ p ∈ qs, p ∉ leastR ps) : mR6 (R32 k v1 (some (bookD n a b (leastR ps))) v3 (some ((withB a b ps ys).d n)) (some ((lessB a b ps qs).d n)) v6 v7 v8) T = .ok (.nx (R32 k v1 (some (bookD n a b (leastR ps))) v3 (some ((withB a b ps ys).d n)) (some ((lessB a b ps qs).d n)) v6 v7 v8)) T := by
  have ll := least_len ps
  have hL := less_bk (qs := qs) hA
  have l1 := hW.hl
  have l2 := hL.hl
  have e1 := leastX (X := (withB a b ps ys).d n) (.inl rfl) hW.hp (show (withB a b ps ys).ps.length < 63 by omega) (show n < 1000 by omega)
  have e2 := leastX (X := (lessB a b ps qs).d n) (.inl rfl) hL.hp (show (lessB a b ps qs).ps.length < 63 by omega) (show n < 1000 by omega)
  have q1 : leastR (withB a b ps ys).ps = leastR ps := least_with hA.hp hy hW.hp
  have q2 : leastR (lessB a b ps qs).ps = leastR ps := least_less hA.hp hq
  rw [q1] at e1
  rw [q2] at e2
  change ∀ S, fPure f_p_least [(withB a b ps ys).d n] S = .ok (bookD n a b (leastR ps)) S at e1
  change ∀ S, fPure f_p_least [(lessB a b ps qs).d n] S = .ok (bookD n a b (leastR ps)) S at e2
  have sm := fun S => sameP S (okD_2 (okD_bk (n := n) (a := a) (b := b) (ps := leastR ps) (by omega)) (okD_bk (n := n) (a := a) (b := b) (ps := leastR ps) (by omega)))
  unfold mR6 R32
  generalize (withB a b ps ys).d n = WD at *
  generalize (lessB a b ps qs).d n = SD at *
  generalize bookD n a b (leastR ps) = LD at *
  generalize f_l_same 30 = fs at *
  simp -implicitDefEqProofs [e1, e2, sm]
end
section
variable {S0 S T : Store} {k N M n : Nat} {a b : Int} {ps qs ys : List (Int × Int)} {v1 v2 v3 v4 v5 v6 v7 v8 : Option D}
theorem least_bk32 (h : BkOk n ⟨a, b, ps⟩) : BkOk n ⟨a, b, leastR ps⟩ := ⟨h.ha, h.hab, h.hb, least_ok h.hp, by have := h.hl; have := least_len ps; show (leastR ps).length < 40; change ps.length < 40 at *; omega⟩
def PRq (S0 : Store) (k M : Nat) (v1 v2 v3 v4 v5 v6 : Option D) (f : Fl) (T : Store) : Prop := ∃ w7 w8, f = .nx (R32 k v1 v2 v3 v4 v5 v6 w7 w8) ∧ BoxS S0 k M T
theorem prq (h : BoxS S0 k N S) (hp : S0.all Cell.pure = true) (hN : N + 6000 < 2 ^ 40) (hA : BkOk n ⟨a, b, ps⟩) (hn : 0 < n ∧ n ≤ 12) (hW : BkOk n (withB a b ps ys)) (hy : ∀ p ∈ ys, p ∈ sureR ps n) :
    (mRq (R32 k (some (bookD n a b ps)) (some (bookD n a b (leastR ps))) v3 (some ((withB a b ps ys).d n)) v5 v6 v7 v8) S).Sat (PRq S0 k (N + 1000) (some (bookD n a b ps)) (some (bookD n a b (leastR ps))) v3 (some ((withB a b ps ys).d n)) v5 v6) := by
  have hL := least_bk32 hA
  have lL : (leastR ps).length < 40 := hL.hl
  have qd := quiet_s (a := a) (b := b) (ps := leastR ps) h hp (by omega) hn.1 (by omega) hA.ha hA.hab hA.hb hL.hp lL
  have qw := fun (S1 : Store) (h1 : BoxS S0 k (N + 500) S1) => quiet_s (a := a) (b := b) (ps := sortU (ps ++ ys)) h1 hp (by omega) hn.1 (by omega) hA.ha hA.hab hA.hb hW.hp hW.hl
  change ∀ S1, BoxS S0 k (N + 500) S1 → (f_l_quiet_log [.ref k, (withB a b ps ys).d n] S1).Sat _ at qw
  have c1 : ∀ rows : List (Int × Int), rows.length = n → RowsOk (10 ^ 100) rows → Quiet a b rows (leastR ps) → (∀ S, fPure f_l_is_quiet [bookD n a b ps, logD rows] S = .ok (.bl true) S) ∧ ∀ S, fPure f_p_is_quiet [(withB a b ps ys).d n, logD rows] S = .ok (.bl true) S := fun rows hl hr hq => by
    have q1 := calm_least hA hL hq
    have q2 : Calm (withB a b ps ys) rows := calm_with hA hy q1
    refine ⟨fun S => lquietP hA (by omega) hl hr q1 S, fun S => ?_⟩
    have z := calmP hn.1 (by omega) hW hl hr S
    simpa [q2] using z
  have c2 : ∀ rows : List (Int × Int), rows.length = n → RowsOk (10 ^ 100) rows → Quiet a b rows (sortU (ps ++ ys)) → ∀ S, fPure f_p_is_quiet [bookD n a b (leastR ps), logD rows] S = .ok (.bl true) S := fun rows hl hr hq S => by
    have q : Calm ⟨a, b, leastR ps⟩ rows := fun p m => hq p (mem_sortU.mpr (List.mem_append_left _ (least_sub p m)))
    have := calmP hn.1 (by omega) hL hl hr S
    have z : fPure f_p_is_quiet [BkD.d n ⟨a, b, leastR ps⟩, logD rows] S = .ok (.bl true) S := by simpa [q] using this
    exact z
  have fin : ∀ (w7 w8 : Option D) (T : Store), BoxS S0 k (N + 1000) T → PRq S0 k (N + 1000) (some (bookD n a b ps)) (some (bookD n a b (leastR ps))) v3 (some ((withB a b ps ys).d n)) v5 v6 (.nx (R32 k (some (bookD n a b ps)) (some (bookD n a b (leastR ps))) v3 (some ((withB a b ps ys).d n)) v5 v6 w7 w8)) T := fun w7 w8 T h => ⟨w7, w8, rfl, h⟩
  generalize PRq S0 k (N + 1000) (some (bookD n a b ps)) (some (bookD n a b (leastR ps))) v3 (some ((withB a b ps ys).d n)) v5 v6 = Q at *
  unfold mRq
  unfold R32 at *
  generalize bookD n a b ps = BD at *
  generalize bookD n a b (leastR ps) = LD at *
  generalize (withB a b ps ys).d n = WD at *
  simp -implicitDefEqProofs
  refine sat_step qd ?_
  rintro _ S1 ⟨rows, rfl, l1, r1, q1, h1⟩
  obtain ⟨d1, d2⟩ := c1 rows l1 r1 q1
  generalize logD rows = RD at *
  simp -implicitDefEqProofs
  refine sat_step (qw S1 h1) ?_
  rintro _ S2 ⟨rows2, rfl, l2, r2, q2, h2⟩
  have d3 := c2 rows2 l2 r2 q2
  generalize logD rows2 = RD2 at *
  have f := fin (some RD) (some RD2) S2 h2
  simp -implicitDefEqProofs [d1, d2, d3]
  exact f
theorem right32 (h : BoxS S0 k N S) (hp : S0.all Cell.pure = true) (hN : N + 20000 < 2 ^ 40) : (f_l_right [.ref k] S).Sat fun d S' => d = .bl true ∧ BoxS S0 k (N + 4000) S' := by
  have lS : S.length = S0.length := h.len
  unfold f_l_right
  rw [fnM_1, form_R32]
  show (endM S.length ((mSeq mR1 _) (R32 k none none none none none none none none) S)).Sat _
  have st : ((mSeq mR1 (mSeq mR2 (mSeq mR3 (mSeq mR4 (mSeq mR5 (mSeq mR6 (mSeq (mFor (mRange1 (mC (.int 2))) (mgN 6) mRq) (mRet (mC (.bl true)))))))))) (R32 k none none none none none none none none) S).Sat fun f T => f = .rt (.bl true) ∧ BoxS S0 k (N + 4000) T := by
    rw [ap_seq]
    refine sat_step (pr1 h hp (by omega)) ?_
    rintro _ S1 ⟨n, a, b, ps, rfl, hn, hA, hl, hb, h1⟩
    rw [seqK_nx, seq_go32 (pr2 hA hn.2 hl), seq_go32 (pr3 hA hn.2 hl), ap_seq]
    refine sat_step (pr4 h1 hp (by omega) hA hn.2 hl) ?_
    rintro _ S2 ⟨ys, rfl, hy, hW, h2⟩
    rw [seqK_nx, ap_seq]
    refine sat_step (pr5 h2 (by omega) hA hl) ?_
    rintro _ S3 ⟨qs, rfl, hq, h3⟩
    rw [seqK_nx, seq_go32 (pr6 hA hn.2 hl hW hy hq)]
    have r2 : ∀ S, r1K (.int 2) S = .ok (rangeD 0 2) S := fun S => r1K_nat 2 (by decide)
    have rl := rangeD_len 0 2
    have lp : (forL (mgN 6) mRq (rangeD 0 2) (R32 k (some (bookD n a b ps)) (some (bookD n a b (leastR ps))) (some (bkL n a b ps)) (some ((withB a b ps ys).d n)) (some ((lessB a b ps qs).d n)) none none none) S3).Sat fun f T => (∃ ρ, f = .nx ρ) ∧ BoxS S0 k (N + 4000) T := by
      refine forL_sat (P := fun f T => (∃ ρ, f = .nx ρ) ∧ BoxS S0 k (N + 4000) T) (fun ds ρ T => (∃ v6 v7 v8, ρ = R32 k (some (bookD n a b ps)) (some (bookD n a b (leastR ps))) (some (bkL n a b ps)) (some ((withB a b ps ys).d n)) (some ((lessB a b ps qs).d n)) v6 v7 v8) ∧ ∃ M, BoxS S0 k M T ∧ M + 1000 * ds.length ≤ N + 3000) ?_ ?_ _ _ _ ⟨⟨_, _, _, rfl⟩, _, h3, by rw [rl]; omega⟩
      · rintro d ds ρ T ⟨⟨v6, v7, v8, rfl⟩, M, hB, hM⟩
        rw [List.length_cons] at hM
        refine ⟨R32 k (some (bookD n a b ps)) (some (bookD n a b (leastR ps))) (some (bkL n a b ps)) (some ((withB a b ps ys).d n)) (some ((lessB a b ps qs).d n)) (some d) v7 v8, T, rfl, ?_⟩
        refine (prq hB hp (by omega) hA hn hW hy).mono ?_
        rintro _ T2 ⟨w7, w8, rfl, h4⟩
        exact ⟨⟨_, _, _, rfl⟩, _, h4, by omega⟩
      · rintro ρ T ⟨_, M, hB, hM⟩
        exact ⟨⟨ρ, rfl⟩, hB.mono (by simp at hM; omega)⟩
    generalize R32 k (some (bookD n a b ps)) (some (bookD n a b (leastR ps))) (some (bkL n a b ps)) (some ((withB a b ps ys).d n)) (some ((lessB a b ps qs).d n)) none none none = E0 at *
    generalize mRq = MQ at *
    generalize hR : rangeD 0 2 = R at *
    simp -implicitDefEqProofs [r2]
    refine sat_step lp ?_
    rintro _ T ⟨⟨ρ, rfl⟩, hB⟩
    simp -implicitDefEqProofs
    exact hB
  obtain ⟨f, T, e, rfl, hT⟩ := sat_eq st
  rw [e]
  have fl : fin S.length (.bl true) T = .ok (.bl true) T := fin_len (hT.len.trans lS.symm)
  exact sat_of (show endM S.length (.ok (.rt (.bl true)) T) = .ok (.bl true) T from fl) ⟨rfl, hT⟩
end
theorem bools_true : ∀ t, boolsD (List.replicate t (D.bl true)) = some (List.replicate t true)
  | 0 => rfl
  | t + 1 => by rw [List.replicate_succ, boolsD, bools_true t]; rfl
theorem all_trues {xs : List D} {S : Store} (h : ∀ d ∈ xs, d = .bl true) : fAll [.lst xs] S = .ok (.bl true) S := by
  rw [List.eq_replicate_iff.mpr ⟨rfl, h⟩, all_lst (bools_true _)]
  simp
def RightS (W : Nat) : Prop := ∀ (S0 S : Store) (k N : Nat), BoxS S0 k N S → N + W < 1000000000000 → (f_l_right [.ref k] S).Sat fun d S' => d = .bl true ∧ BoxS S0 k (N + W) S'
def RightP (W : Nat) : Prop := ∀ (S0 S : Store) (k N : Nat), S0.all Cell.pure = true → BoxS S0 k N S → N + W < 1000000000000 → (f_l_right [.ref k] S).Sat fun d S' => d = .bl true ∧ BoxS S0 k (N + W) S'
theorem RightS.p {W : Nat} (h : RightS W) : RightP W := fun S0 S k N _ hb hN => h S0 S k N hb hN
theorem rights_s {t W k N v vb : Nat} {S0 S : Store} {ρ : Q.Env} (ht : t ≤ 1000) (hW : W ≤ 100000000) (hr : RightP W) (hpu : S0.all Cell.pure = true) (h : BoxS S0 k N S) (hN : N ≤ 1000000) (hv : ∀ d, (ρ.set v d)[vb]? = some (some (.ref k))) :
    (lcL (mgN v) mYes (mCall (fCall f_l_right) (mCons (mVar vb) mNil)) ρ (rangeD 0 t) S).Sat fun vs S' => vs.length = t ∧ (∀ d ∈ vs, d = .bl true) ∧ BoxS S0 k (N + W * t) S' := by
  have hb := Nat.mul_le_mul hW ht
  have hl := lcL_draw (g := mgN v) (m := mCall (fCall f_l_right) (mCons (mVar vb) mNil)) (ρ := ρ) (S0 := S0) (k := k) (c := W) (T := N + W * t) (P := fun d => d = .bl true) (rangeD 0 t) N S h (by rw [rangeD_len]; exact Nat.le_refl _) (fun d hd M S1 h1 hM => by
    refine ⟨_, rfl, ?_⟩
    simp only [ap_call, ap_cons, ap_var, hv, varK_some, bind_ok, consK_ap, ap_nil, consK2_ap, fCall_ap, nox_sat]
    exact hr S0 S1 k M hpu h1 (by omega))
  rw [rangeD_len] at hl
  exact hl
theorem box_p {S : Store} {cs : List Int} {k : Nat} (hb : BoxOk) (hk : k < cs.length) (hk2 : k < 100) (hp : S.all Cell.pure = true) : (f_l_box [.lst (cs.map .int), .int (k : Nat)] S).Sat fun d S' => d = .ref S.length ∧ S.length + 1 = S'.length ∧ BoxS S' S.length 0 S' ∧ S'.all Cell.pure = true := by
  obtain ⟨x, hx, e⟩ := hb S cs k hk hk2
  exact sat_of e ⟨rfl, by simp, BoxS.start (x := x) (by simp) hx, by rw [List.all_append, hp]; simp [hx.pure]⟩
def mTurn32 (bh ag : List D → Store → Res D) : MS := (mSeq (mAsg (mCall (fCall f_l_box) (mCons (mVar 1) (mCons (mVar 2) mNil))) (mgN 3))
  (mIf (mOrT (mNotT (mTest (mCall bh mNil))) (mOrT (mNotT (mTest (mCall fAll (mCons (mLc (mRange1 (mC (.int 4))) (mgN 4) mYes (mCall (fCall f_l_right) (mCons (mVar 3) mNil)) [4]) mNil)))) (mNotT (mTest (mCall (fCall ag) (mCons (mVar 3) mNil)))))) (mRet (mC (.bl false))) mSkip))
theorem rightP32 : RightP 4000 := fun S0 S k N hp h hN => right32 h hp (by omega)
def AgainG (ag : List D → Store → Res D) : Prop := ∀ (S0 S : Store) (k N : Nat), S0.all Cell.pure = true → BoxS S0 k N S → N + 1000 < 1000000000000 → (ag [.ref k] S).Sat fun d S' => d = .bl true ∧ BoxS S0 k (N + 100) S'
theorem turn32 {bh ag : List D → Store → Res D} {k : Nat} (hb : BoxOk) (hbh : ∀ S, bh [] S = .ok (.bl true) S) (hag : AgainG ag) {cs : List Int} {v0 : D} {v3 v4 : Option D} (hk : k < cs.length) (hk2 : k < 100) (S : Store) (hpu : S.all Cell.pure = true) :
    (mTurn32 bh ag [some v0, some (.lst (cs.map .int)), some (.int (k : Nat)), v3, v4] S).Sat fun f S' => S'.all Cell.pure = true ∧ ∃ w3, f = .nx [some v0, some (.lst (cs.map .int)), some (.int (k : Nat)), w3, v4] := by
  have hbs := @box_p S cs k hb hk hk2 hpu
  generalize cs.map D.int = L at *
  unfold mTurn32
  simp -implicitDefEqProofs
  refine sat_step hbs ?_
  rintro _ S1 ⟨rfl, hl1, h1, hp1⟩
  have r4 : ∀ S, r1K (.int 4) S = .ok (rangeD 0 4) S := fun S => r1K_nat 4 (by decide)
  have rl := rangeD_len 0 4
  simp -implicitDefEqProofs [hbh, r4, rl]
  refine sat_step (rights_s (v := 4) (vb := 3) (t := 4) (by decide) (by decide) rightP32 hp1 h1 (by omega) (fun d => rfl)) ?_
  rintro vs S2 ⟨hvl, hvs, h2⟩
  simp -implicitDefEqProofs [all_trues hvs]
  refine sat_step (hag S1 S2 S.length _ hp1 h2 (by omega)) ?_
  rintro _ S3 ⟨rfl, h3⟩
  simp -implicitDefEqProofs
  exact List.all_eq_true.mp (h3.pure hp1)
theorem law32 (bh ag : List D → Store → Res D) (hb : BoxOk) (hbh : ∀ S, bh [] S = .ok (.bl true) S) (hag : AgainG ag) (M : MS)
    (hl : M = (mSeq (mAsg (mCall (fPure f_l_cells) (mCons (mVar 0) (mCons (mC (.int (3 : Nat))) mNil))) (mgN 1)) (mSeq (mFor (mRange1 (mCall fLen (mCons (mVar 1) mNil))) (mgN 2) (mTurn32 bh ag)) (mRet (mC (.bl true))))))
    (ns : List Int) (hn : ns.length ≤ 63) : ∃ S, fnM 5 1 M [scriptD ns] [] = .ok (.bl true) S := by
  obtain ⟨cs, h0, h1, hcs⟩ := cells_ok ns hn 3 (by decide) (by decide)
  have hp : pureL [scriptD ns, .int (3 : Nat)] = true := by simp only [pureL_cons, scriptD, pureD_fro, pure_ints, pureD_int, pureL_nil, Bool.and_self]
  have hc := fPure_ap (S := []) hp hcs
  change fPure f_l_cells [scriptD ns, .int 3] [] = _ at hc
  suffices h : (fnM 5 1 M [scriptD ns] []).Sat fun d _ => d = .bl true by
    obtain ⟨d, S, e, rfl⟩ := sat_eq h
    exact ⟨S, e⟩
  have hts := fun k v3 v4 S (hk : k < cs.length) hpu => @turn32 bh ag k hb hbh hag cs (scriptD ns) v3 v4 hk (by omega) S hpu
  have hlen : (cs.map D.int).length = cs.length := List.length_map _
  generalize hL : cs.map D.int = L at *
  generalize scriptD ns = sc at *
  generalize hT : mTurn32 bh ag = T at *
  rw [hl, fnM_1]
  simp [hc, hlen, r1K_nat cs.length (show cs.length < 2 ^ 60 by omega)]
  refine sat_step (forL_sat (P := fun f S => ∃ v2 v3 v4, f = .nx [some sc, some (.lst L), v2, v3, v4]) (fun ds ρ S' => S'.all Cell.pure = true ∧ (∀ d ∈ ds, ∃ k : Nat, d = .int (k : Nat) ∧ k < cs.length) ∧ ∃ v2 v3 v4, ρ = [some sc, some (.lst L), v2, v3, v4]) ?_ ?_ _ _ _ ⟨rfl, fun d hd => ?_, _, _, _, rfl⟩) ?_
  · rintro d ds ρ S ⟨hpu, hd, v2, v3, v4, rfl⟩
    obtain ⟨k, rfl, hk⟩ := hd d (List.mem_cons_self ..)
    refine ⟨_, S, rfl, (hts k v3 v4 S hk hpu).mono ?_⟩
    rintro _ S2 ⟨hp2, w3, rfl⟩
    exact ⟨hp2, fun e he => hd e (List.mem_cons_of_mem _ he), _, _, _, rfl⟩
  · rintro ρ S ⟨_, _, v2, v3, v4, rfl⟩
    exact ⟨_, _, _, rfl⟩
  · obtain ⟨i, hi, e⟩ := List.getElem_of_mem hd
    obtain ⟨hi2, e2⟩ := rangeD_get (show (rangeD 0 cs.length)[i]? = some d by rw [← e]; exact List.getElem?_eq_getElem hi)
    exact ⟨i, by rw [e2, Int.zero_add], hi2⟩
  · rintro _ S ⟨v2, v3, v4, rfl⟩
    simp [fin_nil (show pureD (.bl true) = true from rfl)]
theorem hl32 : m_l_law = (mSeq (mAsg (mCall (fPure f_l_cells) (mCons (mVar 0) (mCons (mC (.int (3 : Nat))) mNil))) (mgN 1)) (mSeq (mFor (mRange1 (mCall fLen (mCons (mVar 1) mNil))) (mgN 2) (mTurn32 (fPure f_l_by_hand_right) f_l_again_right)) (mRet (mC (.bl true))))) := rfl
theorem handP32 : ∀ S, fPure f_l_by_hand_right [] S = .ok (.bl true) S := fun S => fPure_ap S rfl (isT_ok hand_is)
theorem again32 : AgainG f_l_again_right := fun S0 S k N hp h hN => again_s h hp (by omega)
theorem holds : ∀ ns : List Int, ns.length ≤ 63 → ∃ S, f_l_law [scriptD ns] [] = .ok (.bl true) S := fun ns hn => law32 (fPure f_l_by_hand_right) f_l_again_right (fun S cs k h h2 => box_ok S cs k 832 h h2 (by decide) rfl) handP32 again32 m_l_law hl32 ns hn
end Lw
namespace Lw
open PySem L2 Q
abbrev N_l_cells : List Str := ["_law_script", "_law_most_so", "_law_cells_here", "_law_k", "_law_cell", "_law_at_so"]
theorem sc_l_cells : FnScope N_l_cells ["_law_script", "_law_most_so"] (defScope s_l_cells) := ⟨rfl, rfl, rfl, by decide +kernel, rfl, by decide +kernel, by decide +kernel⟩
abbrev N_l_box : List Str := ["_law_script", "_law_k", "_law_cell"]
theorem sc_l_box : FnScope N_l_box ["_law_script", "_law_k"] (defScope s_l_box) := ⟨rfl, rfl, rfl, by decide +kernel, rfl, by decide +kernel, by decide +kernel⟩
abbrev N_l_same : List Str := ["_law_got", "_law_due", "_law_mine", "_law_its"]
theorem sc_l_same : FnScope N_l_same ["_law_got", "_law_due"] (defScope s_l_same) := ⟨rfl, rfl, rfl, by decide +kernel, rfl, by decide +kernel, by decide +kernel⟩
abbrev N_p_tupled : List Str := ["thing", "part"]
theorem sc_p_tupled : FnScope N_p_tupled ["thing"] (defScope s_p_tupled) := ⟨rfl, rfl, rfl, by decide +kernel, rfl, by decide +kernel, by decide +kernel⟩
abbrev N_p_places_below : List Str := ["looks", "place", "found", "end", "start", "own"]
theorem sc_p_places_below : FnScope N_p_places_below ["looks", "place"] (defScope s_p_places_below) := ⟨rfl, rfl, rfl, by decide +kernel, rfl, by decide +kernel, by decide +kernel⟩
abbrev N_p_least : List Str := ["book", "minutes", "limit", "looks", "own", "look", "others", "other"]
theorem sc_p_least : FnScope N_p_least ["book"] (defScope s_p_least) := ⟨rfl, rfl, rfl, by decide +kernel, rfl, by decide +kernel, by decide +kernel⟩
abbrev N_l_by_hand_right : List Str := ["_law_five", "_law_some", "_law_heard", "_law_due", "_law_singles", "_law_long", "_law_near", "_law_own", "_law_k"]
theorem sc_l_by_hand_right : FnScope N_l_by_hand_right [] (defScope s_l_by_hand_right) := ⟨rfl, rfl, rfl, by decide +kernel, rfl, by decide +kernel, by decide +kernel⟩
abbrev N_l_take : List Str := ["_law_box_here", "_law_below", "_law_drawn", "_law_once", "_law_far", "_law_twice"]
theorem sc_l_take : FnScope N_l_take ["_law_box_here", "_law_below"] (defScope s_l_take) := ⟨rfl, rfl, rfl, by decide +kernel, rfl, by decide +kernel, by decide +kernel⟩
abbrev N_p_sure : List Str := ["book", "minutes", "limit", "looks", "found", "end", "start"]
theorem sc_p_sure : FnScope N_p_sure ["book"] (defScope s_p_sure) := ⟨rfl, rfl, rfl, by decide +kernel, rfl, by decide +kernel, by decide +kernel⟩
abbrev N_p_reached : List Str := ["book", "place"]
theorem sc_p_reached : FnScope N_p_reached ["book", "place"] (defScope s_p_reached) := ⟨rfl, rfl, rfl, by decide +kernel, rfl, by decide +kernel, by decide +kernel⟩
abbrev N_p_tiling : List Str := ["book", "stretch", "first", "last", "found", "start", "end"]
theorem sc_p_tiling : FnScope N_p_tiling ["book", "stretch"] (defScope s_p_tiling) := ⟨rfl, rfl, rfl, by decide +kernel, rfl, by decide +kernel, by decide +kernel⟩
abbrev N_p_agree : List Str := ["limit", "other"]
theorem sc_p_agree : FnScope N_p_agree ["limit", "other"] (defScope s_p_agree) := ⟨rfl, rfl, rfl, by decide +kernel, rfl, by decide +kernel, by decide +kernel⟩
abbrev N_p_rises : List Str := ["stretch", "places", "first", "last", "minute"]
theorem sc_p_rises : FnScope N_p_rises ["stretch", "places"] (defScope s_p_rises) := ⟨rfl, rfl, rfl, by decide +kernel, rfl, by decide +kernel, by decide +kernel⟩
abbrev N_p_falls : List Str := ["stretch", "places", "first", "last", "minute"]
theorem sc_p_falls : FnScope N_p_falls ["stretch", "places"] (defScope s_p_falls) := ⟨rfl, rfl, rfl, by decide +kernel, rfl, by decide +kernel, by decide +kernel⟩
abbrev N_p_log_of : List Str := ["limit", "many", "places", "p", "q", "up", "down", "minute"]
theorem sc_p_log_of : FnScope N_p_log_of ["limit", "many", "places"] (defScope s_p_log_of) := ⟨rfl, rfl, rfl, by decide +kernel, rfl, by decide +kernel, by decide +kernel⟩
abbrev N_p_parted_by_look : List Str := ["book", "other", "minutes", "limit", "looks", "start", "end", "places"]
theorem sc_p_parted_by_look : FnScope N_p_parted_by_look ["book", "other"] (defScope s_p_parted_by_look) := ⟨rfl, rfl, rfl, by decide +kernel, rfl, by decide +kernel, by decide +kernel⟩
abbrev N_p_parted_by_limit : List Str := ["low", "high", "p", "q", "r", "s"]
theorem sc_p_parted_by_limit : FnScope N_p_parted_by_limit ["low", "high"] (defScope s_p_parted_by_limit) := ⟨rfl, rfl, rfl, by decide +kernel, rfl, by decide +kernel, by decide +kernel⟩
abbrev N_p_parting : List Str := ["book", "other", "mine", "its", "found", "is_low"]
theorem sc_p_parting : FnScope N_p_parting ["book", "other"] (defScope s_p_parting) := ⟨rfl, rfl, rfl, by decide +kernel, rfl, by decide +kernel, by decide +kernel⟩
abbrev N_p_alike : List Str := ["book", "other"]
theorem sc_p_alike : FnScope N_p_alike ["book", "other"] (defScope s_p_alike) := ⟨rfl, rfl, rfl, by decide +kernel, rfl, by decide +kernel, by decide +kernel⟩
abbrev N_l_told : List Str := ["_law_book_so", "_law_its", "_law_got"]
theorem sc_l_told : FnScope N_l_told ["_law_book_so", "_law_its"] (defScope s_l_told) := ⟨rfl, rfl, rfl, by decide +kernel, rfl, by decide +kernel, by decide +kernel⟩
abbrev N_l_lists : List Str := ["_law_matter", "_law_bit"]
theorem sc_l_lists : FnScope N_l_lists ["_law_matter"] (defScope s_l_lists) := ⟨rfl, rfl, rfl, by decide +kernel, rfl, by decide +kernel, by decide +kernel⟩
abbrev N_l_filled : List Str := ["_law_spot", "_law_aim", "_law_k", "_law_bit"]
theorem sc_l_filled : FnScope N_l_filled ["_law_spot", "_law_aim"] (defScope s_l_filled) := ⟨rfl, rfl, rfl, by decide +kernel, rfl, by decide +kernel, by decide +kernel⟩
abbrev N_l_of : List Str := ["_law_box_here", "_law_some"]
theorem sc_l_of : FnScope N_l_of ["_law_box_here", "_law_some"] (defScope s_l_of) := ⟨rfl, rfl, rfl, by decide +kernel, rfl, by decide +kernel, by decide +kernel⟩
abbrev N_l_limit : List Str := ["_law_box_here", "_law_way_so"]
theorem sc_l_limit : FnScope N_l_limit ["_law_box_here"] (defScope s_l_limit) := ⟨rfl, rfl, rfl, by decide +kernel, rfl, by decide +kernel, by decide +kernel⟩
abbrev N_l_looks : List Str := ["_law_box_here", "_law_many", "_law_most_so", "_law_way_so", "_law_found", "_law_wide", "_law_turn", "_law_start"]
theorem sc_l_looks : FnScope N_l_looks ["_law_box_here", "_law_many", "_law_most_so"] (defScope s_l_looks) := ⟨rfl, rfl, rfl, by decide +kernel, rfl, by decide +kernel, by decide +kernel⟩
abbrev N_l_again_right : List Str := ["_law_box_here", "_law_many", "_law_cases", "_law_dues", "_law_soft", "_law_turn"]
theorem sc_l_again_right : FnScope N_l_again_right ["_law_box_here"] (defScope s_l_again_right) := ⟨rfl, rfl, rfl, by decide +kernel, rfl, by decide +kernel, by decide +kernel⟩
abbrev N_l_with : List Str := ["_law_book_so", "_law_more"]
theorem sc_l_with : FnScope N_l_with ["_law_book_so", "_law_more"] (defScope s_l_with) := ⟨rfl, rfl, rfl, by decide +kernel, rfl, by decide +kernel, by decide +kernel⟩
abbrev N_l_without : List Str := ["_law_book_so", "_law_gone", "_law_own"]
theorem sc_l_without : FnScope N_l_without ["_law_book_so", "_law_gone"] (defScope s_l_without) := ⟨rfl, rfl, rfl, by decide +kernel, rfl, by decide +kernel, by decide +kernel⟩
abbrev N_l_book : List Str := ["_law_box_here", "_law_most_minutes", "_law_most_looks", "_law_many"]
theorem sc_l_book : FnScope N_l_book ["_law_box_here", "_law_most_minutes", "_law_most_looks"] (defScope s_l_book) := ⟨rfl, rfl, rfl, by decide +kernel, rfl, by decide +kernel, by decide +kernel⟩
abbrev N_l_pick : List Str := ["_law_box_here", "_law_some", "_law_many", "_law_rest", "_law_found", "_law_turn"]
theorem sc_l_pick : FnScope N_l_pick ["_law_box_here", "_law_some", "_law_many"] (defScope s_l_pick) := ⟨rfl, rfl, rfl, by decide +kernel, rfl, by decide +kernel, by decide +kernel⟩
abbrev N_l_net : List Str := ["_law_box_here", "_law_most_so", "_law_wide_so", "_law_many", "_law_pairs", "_law_start", "_law_k"]
theorem sc_l_net : FnScope N_l_net ["_law_box_here", "_law_most_so", "_law_wide_so"] (defScope s_l_net) := ⟨rfl, rfl, rfl, by decide +kernel, rfl, by decide +kernel, by decide +kernel⟩
abbrev N_l_closed : List Str := ["_law_looks_so", "_law_places_so", "_law_found", "_law_end", "_law_start", "_law_look"]
theorem sc_l_closed : FnScope N_l_closed ["_law_looks_so", "_law_places_so"] (defScope s_l_closed) := ⟨rfl, rfl, rfl, by decide +kernel, rfl, by decide +kernel, by decide +kernel⟩
abbrev N_l_tiled : List Str := ["_law_looks_so", "_law_span"]
theorem sc_l_tiled : FnScope N_l_tiled ["_law_looks_so", "_law_span"] (defScope s_l_tiled) := ⟨rfl, rfl, rfl, by decide +kernel, rfl, by decide +kernel, by decide +kernel⟩
abbrev N_l_least : List Str := ["_law_book_so", "_law_some", "_law_own", "_law_look"]
theorem sc_l_least : FnScope N_l_least ["_law_book_so"] (defScope s_l_least) := ⟨rfl, rfl, rfl, by decide +kernel, rfl, by decide +kernel, by decide +kernel⟩
abbrev N_l_added : List Str := ["_law_one_so", "_law_other_so", "_law_mine", "_law_its"]
theorem sc_l_added : FnScope N_l_added ["_law_one_so", "_law_other_so"] (defScope s_l_added) := ⟨rfl, rfl, rfl, by decide +kernel, rfl, by decide +kernel, by decide +kernel⟩
abbrev N_l_rises : List Str := ["_law_places_so", "_law_span", "_law_m"]
theorem sc_l_rises : FnScope N_l_rises ["_law_places_so", "_law_span"] (defScope s_l_rises) := ⟨rfl, rfl, rfl, by decide +kernel, rfl, by decide +kernel, by decide +kernel⟩
abbrev N_l_falls : List Str := ["_law_places_so", "_law_span", "_law_m"]
theorem sc_l_falls : FnScope N_l_falls ["_law_places_so", "_law_span"] (defScope s_l_falls) := ⟨rfl, rfl, rfl, by decide +kernel, rfl, by decide +kernel, by decide +kernel⟩
abbrev N_l_hills_log : List Str := ["_law_limit_so", "_law_many", "_law_places_so", "_law_ups_so", "_law_downs_so", "_law_gap_so", "_law_m"]
theorem sc_l_hills_log : FnScope N_l_hills_log ["_law_limit_so", "_law_many", "_law_places_so"] (defScope s_l_hills_log) := ⟨rfl, rfl, rfl, by decide +kernel, rfl, by decide +kernel, by decide +kernel⟩
abbrev N_l_times : List Str := ["_law_times_so", "_law_log_so", "_law_minute"]
theorem sc_l_times : FnScope N_l_times ["_law_times_so", "_law_log_so"] (defScope s_l_times) := ⟨rfl, rfl, rfl, by decide +kernel, rfl, by decide +kernel, by decide +kernel⟩
abbrev N_l_number : List Str := ["_law_box_here", "_law_way_so"]
theorem sc_l_number : FnScope N_l_number ["_law_box_here"] (defScope s_l_number) := ⟨rfl, rfl, rfl, by decide +kernel, rfl, by decide +kernel, by decide +kernel⟩
abbrev N_l_quiet_log : List Str := ["_law_box_here", "_law_book_so", "_law_many", "_law_limit_so", "_law_looks_so", "_law_log_so", "_law_turn", "_law_some", "_law_hills_so", "_law_more", "_law_m", "_law_even_so", "_law_good_so"]
theorem sc_l_quiet_log : FnScope N_l_quiet_log ["_law_box_here", "_law_book_so"] (defScope s_l_quiet_log) := ⟨rfl, rfl, rfl, by decide +kernel, rfl, by decide +kernel, by decide +kernel⟩
abbrev N_l_above : List Str := ["_law_limit_so", "_law_minute"]
theorem sc_l_above : FnScope N_l_above ["_law_limit_so", "_law_minute"] (defScope s_l_above) := ⟨rfl, rfl, rfl, by decide +kernel, rfl, by decide +kernel, by decide +kernel⟩
abbrev N_l_calls : List Str := ["_law_log_so", "_law_span", "_law_own", "_law_minute"]
theorem sc_l_calls : FnScope N_l_calls ["_law_log_so", "_law_span"] (defScope s_l_calls) := ⟨rfl, rfl, rfl, by decide +kernel, rfl, by decide +kernel, by decide +kernel⟩
abbrev N_l_is_quiet : List Str := ["_law_book_so", "_law_log_so", "_law_look"]
theorem sc_l_is_quiet : FnScope N_l_is_quiet ["_law_book_so", "_law_log_so"] (defScope s_l_is_quiet) := ⟨rfl, rfl, rfl, by decide +kernel, rfl, by decide +kernel, by decide +kernel⟩
abbrev N_p_is_above : List Str := ["limit", "minute", "good", "failed"]
theorem sc_p_is_above : FnScope N_p_is_above ["limit", "minute"] (defScope s_p_is_above) := ⟨rfl, rfl, rfl, by decide +kernel, rfl, by decide +kernel, by decide +kernel⟩
abbrev N_p_calls : List Str := ["log", "stretch", "start", "end", "rows", "good", "failed"]
theorem sc_p_calls : FnScope N_p_calls ["log", "stretch"] (defScope s_p_calls) := ⟨rfl, rfl, rfl, by decide +kernel, rfl, by decide +kernel, by decide +kernel⟩
abbrev N_p_loud : List Str := ["book", "log", "minutes", "limit", "looks", "own", "look"]
theorem sc_p_loud : FnScope N_p_loud ["book", "log"] (defScope s_p_loud) := ⟨rfl, rfl, rfl, by decide +kernel, rfl, by decide +kernel, by decide +kernel⟩
abbrev N_p_is_quiet : List Str := ["book", "log"]
theorem sc_p_is_quiet : FnScope N_p_is_quiet ["book", "log"] (defScope s_p_is_quiet) := ⟨rfl, rfl, rfl, by decide +kernel, rfl, by decide +kernel, by decide +kernel⟩
abbrev N_l_right : List Str := ["_law_box_here", "_law_book_so", "_law_due", "_law_soft", "_law_more", "_law_fewer", "_law_turn", "_law_log_so", "_law_late_so", "_law_own"]
theorem sc_l_right : FnScope N_l_right ["_law_box_here"] (defScope s_l_right) := ⟨rfl, rfl, rfl, by decide +kernel, rfl, by decide +kernel, by decide +kernel⟩
abbrev N_l_law : List Str := ["_law_script", "_law_cells_here", "_law_k", "_law_box_here", "_law_turn"]
theorem sc_l_law : FnScope N_l_law ["_law_script"] (defScope s_l_law) := ⟨rfl, rfl, rfl, by decide +kernel, rfl, by decide +kernel, by decide +kernel⟩
structure Txt (P : Program) (K : PySem.W.Frag) (mg : Str → Option Value) (cl : Nat → Addr) (sp_ : Nat → Str → Addr) (a : Nat → Addr) (d : Nat → FuncData) : Prop where
  F_l_cells : Fun K "_law_cells" "_law_cells" s_l_cells (a 0) (d 0)
  F_l_box : Fun K "_law_box" "_law_box" s_l_box (a 1) (d 1)
  F_l_same : Fun K "_law_same" "_law_same" s_l_same (a 2) (d 2)
  F_p_tupled : Fun K "tupled" "tupled" s_p_tupled (a 3) (d 3)
  F_p_places_below : Fun K "places_below" "places_below" s_p_places_below (a 4) (d 4)
  F_p_least : Fun K "least" "least" s_p_least (a 5) (d 5)
  F_l_by_hand_right : Fun K "_law_by_hand_right" "_law_by_hand_right" s_l_by_hand_right (a 6) (d 6)
  F_l_take : Fun K "_law_take" "_law_take" s_l_take (a 7) (d 7)
  F_p_sure : Fun K "sure" "sure" s_p_sure (a 8) (d 8)
  F_p_reached : Fun K "reached" "reached" s_p_reached (a 9) (d 9)
  F_p_tiling : Fun K "tiling" "tiling" s_p_tiling (a 10) (d 10)
  F_p_agree : Fun K "agree" "agree" s_p_agree (a 11) (d 11)
  F_p_rises : Fun K "rises" "rises" s_p_rises (a 12) (d 12)
  F_p_falls : Fun K "falls" "falls" s_p_falls (a 13) (d 13)
  F_p_log_of : Fun K "log_of" "log_of" s_p_log_of (a 14) (d 14)
  F_p_parted_by_look : Fun K "parted_by_look" "parted_by_look" s_p_parted_by_look (a 15) (d 15)
  F_p_parted_by_limit : Fun K "parted_by_limit" "parted_by_limit" s_p_parted_by_limit (a 16) (d 16)
  F_p_parting : Fun K "parting" "parting" s_p_parting (a 17) (d 17)
  F_p_alike : Fun K "alike" "alike" s_p_alike (a 18) (d 18)
  F_l_told : Fun K "_law_told" "_law_told" s_l_told (a 19) (d 19)
  F_l_lists : Fun K "_law_lists" "_law_lists" s_l_lists (a 20) (d 20)
  F_l_filled : Fun K "_law_filled" "_law_filled" s_l_filled (a 21) (d 21)
  F_l_of : Fun K "_law_of" "_law_of" s_l_of (a 22) (d 22)
  F_l_limit : Fun K "_law_limit" "_law_limit" s_l_limit (a 23) (d 23)
  F_l_looks : Fun K "_law_looks" "_law_looks" s_l_looks (a 24) (d 24)
  F_l_again_right : Fun K "_law_again_right" "_law_again_right" s_l_again_right (a 25) (d 25)
  F_l_with : Fun K "_law_with" "_law_with" s_l_with (a 26) (d 26)
  F_l_without : Fun K "_law_without" "_law_without" s_l_without (a 27) (d 27)
  F_l_book : Fun K "_law_book" "_law_book" s_l_book (a 28) (d 28)
  F_l_pick : Fun K "_law_pick" "_law_pick" s_l_pick (a 29) (d 29)
  F_l_net : Fun K "_law_net" "_law_net" s_l_net (a 30) (d 30)
  F_l_closed : Fun K "_law_closed" "_law_closed" s_l_closed (a 31) (d 31)
  F_l_tiled : Fun K "_law_tiled" "_law_tiled" s_l_tiled (a 32) (d 32)
  F_l_least : Fun K "_law_least" "_law_least" s_l_least (a 33) (d 33)
  F_l_added : Fun K "_law_added" "_law_added" s_l_added (a 34) (d 34)
  F_l_rises : Fun K "_law_rises" "_law_rises" s_l_rises (a 35) (d 35)
  F_l_falls : Fun K "_law_falls" "_law_falls" s_l_falls (a 36) (d 36)
  F_l_hills_log : Fun K "_law_hills_log" "_law_hills_log" s_l_hills_log (a 37) (d 37)
  F_l_times : Fun K "_law_times" "_law_times" s_l_times (a 38) (d 38)
  F_l_number : Fun K "_law_number" "_law_number" s_l_number (a 39) (d 39)
  F_l_quiet_log : Fun K "_law_quiet_log" "_law_quiet_log" s_l_quiet_log (a 40) (d 40)
  F_l_above : Fun K "_law_above" "_law_above" s_l_above (a 41) (d 41)
  F_l_calls : Fun K "_law_calls" "_law_calls" s_l_calls (a 42) (d 42)
  F_l_is_quiet : Fun K "_law_is_quiet" "_law_is_quiet" s_l_is_quiet (a 43) (d 43)
  F_p_is_above : Fun K "is_above" "is_above" s_p_is_above (a 44) (d 44)
  F_p_calls : Fun K "calls" "calls" s_p_calls (a 45) (d 45)
  F_p_loud : Fun K "loud" "loud" s_p_loud (a 46) (d 46)
  F_p_is_quiet : Fun K "is_quiet" "is_quiet" s_p_is_quiet (a 47) (d 47)
  F_l_right : Fun K "_law_right" "_law_right" s_l_right (a 48) (d 48)
  F_l_law : Fun K "law" "law" s_l_law (a 49) (d 49)
  g_l_cells : mg "_law_cells" = some (.ref (a 0))
  g_l_box : mg "_law_box" = some (.ref (a 1))
  g_l_same : mg "_law_same" = some (.ref (a 2))
  g_p_tupled : mg "tupled" = some (.ref (a 3))
  g_p_places_below : mg "places_below" = some (.ref (a 4))
  g_p_least : mg "least" = some (.ref (a 5))
  g_l_by_hand_right : mg "_law_by_hand_right" = some (.ref (a 6))
  g_l_take : mg "_law_take" = some (.ref (a 7))
  g_p_sure : mg "sure" = some (.ref (a 8))
  g_p_reached : mg "reached" = some (.ref (a 9))
  g_p_tiling : mg "tiling" = some (.ref (a 10))
  g_p_agree : mg "agree" = some (.ref (a 11))
  g_p_rises : mg "rises" = some (.ref (a 12))
  g_p_falls : mg "falls" = some (.ref (a 13))
  g_p_log_of : mg "log_of" = some (.ref (a 14))
  g_p_parted_by_look : mg "parted_by_look" = some (.ref (a 15))
  g_p_parted_by_limit : mg "parted_by_limit" = some (.ref (a 16))
  g_p_parting : mg "parting" = some (.ref (a 17))
  g_p_alike : mg "alike" = some (.ref (a 18))
  g_l_told : mg "_law_told" = some (.ref (a 19))
  g_l_lists : mg "_law_lists" = some (.ref (a 20))
  g_l_filled : mg "_law_filled" = some (.ref (a 21))
  g_l_of : mg "_law_of" = some (.ref (a 22))
  g_l_limit : mg "_law_limit" = some (.ref (a 23))
  g_l_looks : mg "_law_looks" = some (.ref (a 24))
  g_l_again_right : mg "_law_again_right" = some (.ref (a 25))
  g_l_with : mg "_law_with" = some (.ref (a 26))
  g_l_without : mg "_law_without" = some (.ref (a 27))
  g_l_book : mg "_law_book" = some (.ref (a 28))
  g_l_pick : mg "_law_pick" = some (.ref (a 29))
  g_l_net : mg "_law_net" = some (.ref (a 30))
  g_l_closed : mg "_law_closed" = some (.ref (a 31))
  g_l_tiled : mg "_law_tiled" = some (.ref (a 32))
  g_l_least : mg "_law_least" = some (.ref (a 33))
  g_l_added : mg "_law_added" = some (.ref (a 34))
  g_l_rises : mg "_law_rises" = some (.ref (a 35))
  g_l_falls : mg "_law_falls" = some (.ref (a 36))
  g_l_hills_log : mg "_law_hills_log" = some (.ref (a 37))
  g_l_times : mg "_law_times" = some (.ref (a 38))
  g_l_number : mg "_law_number" = some (.ref (a 39))
  g_l_quiet_log : mg "_law_quiet_log" = some (.ref (a 40))
  g_l_above : mg "_law_above" = some (.ref (a 41))
  g_l_calls : mg "_law_calls" = some (.ref (a 42))
  g_l_is_quiet : mg "_law_is_quiet" = some (.ref (a 43))
  g_p_is_above : mg "is_above" = some (.ref (a 44))
  g_p_calls : mg "calls" = some (.ref (a 45))
  g_p_loud : mg "loud" = some (.ref (a 46))
  g_p_is_quiet : mg "is_quiet" = some (.ref (a 47))
  g_l_right : mg "_law_right" = some (.ref (a 48))
  g_l_law : mg "law" = some (.ref (a 49))
  n_abs : mg "abs" = none
  n_all : mg "all" = none
  n_any : mg "any" = none
  n_bool : mg "bool" = none
  n_enumerate : mg "enumerate" = none
  n_int : mg "int" = none
  n_isinstance : mg "isinstance" = none
  n_len : mg "len" = none
  n_list : mg "list" = none
  n_min : mg "min" = none
  n_range : mg "range" = none
  n_set : mg "set" = none
  n_sorted : mg "sorted" = none
  n_str : mg "str" = none
  n_sum : mg "sum" = none
  n_tuple : mg "tuple" = none
  n_zip : mg "zip" = none
section
variable {P : Program} {w : World} {K : PySem.W.Frag} {mg : Str → Option Value} {base : Heap} {cl : Nat → Addr} {sp_ : Nat → Str → Addr} {a : Nat → Addr} {d : Nat → FuncData}
theorem b_l_cells (T : Txt P K mg cl sp_ a d) : Binds K (d 0) ["_law_script", "_law_most_so"] [] := T.F_l_cells.binds (ps := ["_law_script", "_law_most_so"]) fun _ _ _ _ _ _ us hl => match us, hl with | [_, _], _ => rfl
theorem ok_l_cells (T : Txt P K mg cl sp_ a d) : FnOk P w K mg base CX0 1 (a 0) (d 0) ["_law_script", "_law_most_so"] (spM ⟨K, cl⟩ f_l_cells) :=
  fn_ok 6 2 (k := 0) T.F_l_cells sc_l_cells fun cdv A outer s H E hr =>
      (qss_cons (qs_set 2 (q_orV (q_callTy listCQ (by rfl) T.n_list (by decide +kernel) (q_cons (q_sl (q_var 0) q_noO (q_soO (q_var 1))) q_nil)) (q_oneV (q_cell (q_cons q_int q_nil)))) sc_l_cells.nd)
      (qss_cons (qs_for (qi_enum (q_sl (q_var 0) (q_soO (q_var 1)) (q_soO q_int)) (by rfl) T.n_enumerate) (qg_tup 2 (qgs_cons (qg_name 3 sc_l_cells.nd) (qgs_cons (qg_name 4 sc_l_cells.nd) qgs_nil))) (qss_cons (qs_set 5 (q_op modI (q_callTy intQ (by rfl) T.n_int (by decide +kernel) (q_cons (q_var 3) q_nil)) (q_var 1)) sc_l_cells.nd)
      (qss_one (qs_asg (q_op addQ (q_ix (q_var 2) (q_var 5)) (q_op mulQ (q_var 4) (q_op addQ (q_var 3) q_int))) (qg_sub (q_var 2) (q_var 5))))))
      (qss_one (qs_ret (q_frz (q_var 2))))))
theorem b_l_box (T : Txt P K mg cl sp_ a d) : Binds K (d 1) ["_law_script", "_law_k"] [] := T.F_l_box.binds (ps := ["_law_script", "_law_k"]) fun _ _ _ _ _ _ us hl => match us, hl with | [_, _], _ => rfl
theorem ok_l_box (T : Txt P K mg cl sp_ a d) : FnOk P w K mg base CX0 1 (a 1) (d 1) ["_law_script", "_law_k"] (spM ⟨K, cl⟩ f_l_box) :=
  fn_okC 3 2 (k := 0) T.F_l_box sc_l_box fun cdv A outer s H E hr =>
      (qss_cons (qs_set 2 (q_ifE (q_tcmp ltI (q_var 1) (q_callB lenQ (by rfl) T.n_len (by decide +kernel) (q_cons (q_var 0) q_nil))) (q_ix (q_var 0) (q_var 1)) q_int) sc_l_box.nd)
      (qss_one (qs_ret (q_cell (q_cons (q_op mulQ (q_callB absQ (by rfl) T.n_abs (by decide +kernel) (q_cons (q_var 2) q_nil)) (q_callTy intQ (by rfl) T.n_int (by decide +kernel) (q_cons (q_cmp geI (q_callB absQ (by rfl) T.n_abs (by decide +kernel) (q_cons (q_var 2) q_nil)) (q_op powI q_int q_int)) q_nil))) (q_cons (q_op addQ (q_op addQ (q_op modI (q_callTy intQ (by rfl) T.n_int (by decide +kernel) (q_cons (q_var 2) q_nil)) q_int) (q_op mulQ q_int (q_var 1))) q_int) (q_cons q_int q_nil)))))))
theorem b_l_same (T : Txt P K mg cl sp_ a d) : Binds K (d 2) ["_law_got", "_law_due"] [] := T.F_l_same.binds (ps := ["_law_got", "_law_due"]) fun _ _ _ _ _ _ us hl => match us, hl with | [_, _], _ => rfl
theorem ok_l_same (T : Txt P K mg cl sp_ a d) (k : Nat) : FnOk P w K mg base CX0 (0 + k) (a 2) (d 2) ["_law_got", "_law_due"] (spM ⟨K, cl⟩ (f_l_same k)) := by
  induction k with
  | zero => exact fn_none
  | succ k ih =>
    exact fn_ok 4 2 (k := 0 + k) T.F_l_same sc_l_same fun cdv A outer s H E hr =>
      (qss_cons (qs_if (q_test (q_isi2 .list .tuple (q_var 1) (by rfl) T.n_isinstance (by rfl) T.n_list (by decide +kernel) (by rfl) T.n_tuple (by decide +kernel))) (qss_cons (qs_if (q_w (q_or (q_tcmp (neQ hr) (q_isi .list (q_var 0) (by rfl) T.n_isinstance (by rfl) T.n_list (by decide +kernel)) (q_isi .list (q_var 1) (by rfl) T.n_isinstance (by rfl) T.n_list (by decide +kernel))) (q_or1 (q_tcmp (neQ hr) (q_isi .tuple (q_var 0) (by rfl) T.n_isinstance (by rfl) T.n_tuple (by decide +kernel)) (q_isi .tuple (q_var 1) (by rfl) T.n_isinstance (by rfl) T.n_tuple (by decide +kernel)))))) (qss_one (qs_ret q_bl)) qss_nil)
      (qss_one (qs_ret (q_andV (q_cmp (eqQ hr) (q_callB lenQ (by rfl) T.n_len (by decide +kernel) (q_cons (q_var 0) q_nil)) (q_callB lenQ (by rfl) T.n_len (by decide +kernel) (q_cons (q_var 1) q_nil))) (q_oneV (q_callB allQ (by rfl) T.n_all (by decide +kernel) (q_cons (q_lc [("_law_mine", 2), ("_law_its", 3)] (qi_zip (q_cons (q_var 0) (q_cons (q_var 1) q_nil)) (by rfl) T.n_zip) sc_l_same.nd (blkOk_by (N := N_l_same) (sc := defScope s_l_same) (by decide +kernel)) (fun _ _ _ _ _ => (qg_tup 2 (qgs_cons (qg_name 2 sc_l_same.nd) (qgs_cons (qg_name 3 sc_l_same.nd) qgs_nil)))) (fun _ _ _ _ _ => (q_call ih (hr.mono (by omega)) (by rfl) T.g_l_same T.F_l_same.kp (b_l_same T) (q_cons (q_var 2) (q_cons (q_var 3) q_nil)) sp_pure))) q_nil))))))) qss_nil)
      (qss_cons (qs_if (q_w (q_or (q_tisN (q_var 1)) (q_or1 (q_test (q_isi2 .bool .str (q_var 1) (by rfl) T.n_isinstance (by rfl) T.n_bool (by decide +kernel) (by rfl) T.n_str (by decide +kernel)))))) (qss_one (qs_ret (q_andV (q_cmp (eqQ hr) (q_var 0) (q_var 1)) (q_andV (q_cmp (eqQ hr) (q_isi .bool (q_var 0) (by rfl) T.n_isinstance (by rfl) T.n_bool (by decide +kernel)) (q_isi .bool (q_var 1) (by rfl) T.n_isinstance (by rfl) T.n_bool (by decide +kernel))) (q_oneV (q_cmp (eqQ hr) (q_isN (q_var 0)) (q_isN (q_var 1)))))))) qss_nil)
      (qss_one (qs_ret (q_andV (q_isi .int (q_var 0) (by rfl) T.n_isinstance (by rfl) T.n_int (by decide +kernel)) (q_andV (q_notV (q_isi .bool (q_var 0) (by rfl) T.n_isinstance (by rfl) T.n_bool (by decide +kernel))) (q_oneV (q_cmp (eqQ hr) (q_var 0) (q_var 1)))))))))
theorem b_p_tupled (T : Txt P K mg cl sp_ a d) : Binds K (d 3) ["thing"] [] := T.F_p_tupled.binds (ps := ["thing"]) fun _ _ _ _ _ _ us hl => match us, hl with | [_], _ => rfl
theorem ok_p_tupled (T : Txt P K mg cl sp_ a d) (k : Nat) : FnOk P w K mg base CX0 (0 + k) (a 3) (d 3) ["thing"] (spM ⟨K, cl⟩ (f_p_tupled k)) := by
  induction k with
  | zero => exact fn_none
  | succ k ih =>
    exact fn_ok 2 1 (k := 0 + k) T.F_p_tupled sc_p_tupled fun cdv A outer s H E hr =>
      (qss_one (qs_ret (q_ifE (q_test (q_isi2 .list .tuple (q_var 0) (by rfl) T.n_isinstance (by rfl) T.n_list (by decide +kernel) (by rfl) T.n_tuple (by decide +kernel))) (q_callTy tupleQ (by rfl) T.n_tuple (by decide +kernel) (q_cons (q_lc [("part", 1)] (qi_items (q_var 0)) sc_p_tupled.nd (blkOk_by (N := N_p_tupled) (sc := defScope s_p_tupled) (by decide +kernel)) (fun _ _ _ _ _ => (qg_name 1 sc_p_tupled.nd)) (fun _ _ _ _ _ => (q_call ih (hr.mono (by omega)) (by rfl) T.g_p_tupled T.F_p_tupled.kp (b_p_tupled T) (q_cons (q_var 1) q_nil) sp_pure))) q_nil)) (q_var 0))))
theorem b_p_places_below (T : Txt P K mg cl sp_ a d) : Binds K (d 4) ["looks", "place"] [] := T.F_p_places_below.binds (ps := ["looks", "place"]) fun _ _ _ _ _ _ us hl => match us, hl with | [_, _], _ => rfl
theorem ok_p_places_below (T : Txt P K mg cl sp_ a d) : FnOk P w K mg base CX0 1 (a 4) (d 4) ["looks", "place"] (spM ⟨K, cl⟩ f_p_places_below) :=
  fn_ok 6 2 (k := 0) T.F_p_places_below sc_p_places_below fun cdv A outer s H E hr =>
      (qss_places (ip := 1) (ifd := 2) (ie := 3) (is_ := 4) (io := 5) (b := 5) (xo := "own") (pe_var (i := 1) rfl (by first | exact Or.inl rfl | exact Or.inr (Or.inl rfl) | exact Or.inr (Or.inr rfl)) (by decide) (by decide)) (fun _ h => ps_set sc_p_places_below.nd rfl (by first | exact Or.inl rfl | exact Or.inr rfl) h) (q_sortrev (q_lc [("start", 4), ("end", 3)] (qi_items (q_var 0)) sc_p_places_below.nd (blkOk_by (N := N_p_places_below) (sc := defScope s_p_places_below) (by decide +kernel)) (fun _ _ _ _ _ => (qg_tup 2 (qgs_cons (qg_name 4 sc_p_places_below.nd) (qgs_cons (qg_name 3 sc_p_places_below.nd) qgs_nil)))) (fun _ _ _ _ _ => (q_tup (q_cons (q_var 3) (q_cons (q_var 4) q_nil))))) q_bl (by rfl) T.n_sorted) (by intro _; rfl) (pg_tup rfl (pgs_cons (pg_name (i := 3) sc_p_places_below.nd rfl (by first | exact Or.inl rfl | exact Or.inr rfl) (by first | exact Or.inl rfl | exact Or.inr rfl)) (pgs_cons (pg_name (i := 4) sc_p_places_below.nd rfl (by first | exact Or.inl rfl | exact Or.inr rfl) (by first | exact Or.inl rfl | exact Or.inr rfl)) pgs_nil))) (pe_var (i := 3) rfl (by first | exact Or.inl rfl | exact Or.inr (Or.inl rfl) | exact Or.inr (Or.inr rfl)) (by decide) (by decide)) (pe_var (i := 4) rfl (by first | exact Or.inl rfl | exact Or.inr (Or.inl rfl) | exact Or.inr (Or.inr rfl)) (by decide) (by decide)) (pe_var (i := 2) rfl (by first | exact Or.inl rfl | exact Or.inr (Or.inl rfl) | exact Or.inr (Or.inr rfl)) (by decide) (by decide)) (pe_var (i := 2) rfl (by first | exact Or.inl rfl | exact Or.inr (Or.inl rfl) | exact Or.inr (Or.inr rfl)) (by decide) (by decide)) (pe_var (i := 2) rfl (by first | exact Or.inl rfl | exact Or.inr (Or.inl rfl) | exact Or.inr (Or.inr rfl)) (by decide) (by decide)) sc_p_places_below.nd (blkOk_by (N := N_p_places_below) (sc := defScope s_p_places_below) (by decide +kernel)) (fun _ _ _ _ _ => (pg_name (i := 5) sc_p_places_below.nd rfl (by first | exact Or.inl rfl | exact Or.inr rfl) (by first | exact Or.inl rfl | exact Or.inr rfl))) (fun _ _ _ _ _ => (pe_var (i := 5) rfl (by first | exact Or.inl rfl | exact Or.inr (Or.inl rfl) | exact Or.inr (Or.inr rfl)) (by decide) (by decide))) (by rfl) T.n_sorted (hu_of hr) (by decide) (by decide))
theorem b_p_least (T : Txt P K mg cl sp_ a d) : Binds K (d 5) ["book"] [] := T.F_p_least.binds (ps := ["book"]) fun _ _ _ _ _ _ us hl => match us, hl with | [_], _ => rfl
theorem ok_p_least (T : Txt P K mg cl sp_ a d) : FnOk P w K mg base CX0 32 (a 5) (d 5) ["book"] (spM ⟨K, cl⟩ f_p_least) :=
  fn_ok 8 1 (k := 31) T.F_p_least sc_p_least fun cdv A outer s H E hr =>
      (qss_cons (qs_asg (q_call (ok_p_tupled T 30) (hr.mono (by omega)) (by rfl) T.g_p_tupled T.F_p_tupled.kp (b_p_tupled T) (q_cons (q_var 0) q_nil) sp_pure) (qg_tup 3 (qgs_cons (qg_name 1 sc_p_least.nd) (qgs_cons (qg_name 2 sc_p_least.nd) (qgs_cons (qg_name 3 sc_p_least.nd) qgs_nil)))))
      (qss_cons (qs_set 4 (q_cell q_nil) sc_p_least.nd)
      (qss_cons (qs_for (qi_items (q_var 3)) (qg_name 5 sc_p_least.nd) (qss_cons (qs_setLc 6 [("other", 7)] false (qi_items (q_var 3)) sc_p_least.nd (blkOk_by (N := N_p_least) (sc := defScope s_p_least) (by decide +kernel)) (fun _ _ _ _ _ => (qg_name 7 sc_p_least.nd)) (fun _ _ _ _ _ => (ts_one (q_tcmp (neQ hr) (q_var 7) (q_var 5)))) (fun _ _ _ _ _ => (q_var 7)))
      (qss_one (qs_if (q_tcmp (ninQ hr) (q_ix (q_var 5) q_int) (q_call (ok_p_places_below T) (hr.mono (by omega)) (by rfl) T.g_p_places_below T.F_p_places_below.kp (b_p_places_below T) (q_cons (q_var 6) (q_cons (q_ix (q_var 5) q_int) q_nil)) sp_pure)) (qss_one (qs_expr (q_app (q_var 4) (q_var 5)))) qss_nil))))
      (qss_one (qs_ret (q_tup (q_cons (q_var 1) (q_cons (q_var 2) (q_cons (q_callTy tupleQ (by rfl) T.n_tuple (by decide +kernel) (q_cons (q_var 4) q_nil)) q_nil)))))))))
theorem b_l_by_hand_right (T : Txt P K mg cl sp_ a d) : Binds K (d 6) [] [] := T.F_l_by_hand_right.binds (ps := []) fun _ _ _ _ _ _ us hl => match us, hl with | [], _ => rfl
theorem ok_l_by_hand_right (T : Txt P K mg cl sp_ a d) : FnOk P w K mg base CX0 33 (a 6) (d 6) [] (spM ⟨K, cl⟩ f_l_by_hand_right) :=
  fn_ok 9 0 (k := 32) T.F_l_by_hand_right sc_l_by_hand_right fun cdv A outer s H E hr =>
      (qss_cons (qs_set 0 (q_tup (q_cons (q_tup (q_cons q_int (q_cons q_int q_nil))) (q_cons (q_tup (q_cons q_int (q_cons q_int q_nil))) (q_cons (q_tup (q_cons q_int (q_cons q_int q_nil))) (q_cons (q_tup (q_cons q_int (q_cons q_int q_nil))) q_nil))))) sc_l_by_hand_right.nd)
      (qss_cons (qs_set 1 (q_lst (q_cons (q_tup (q_cons q_int (q_cons (q_tup (q_cons q_int (q_cons q_int q_nil))) (q_cons (q_tup (q_cons (q_tup (q_cons q_int (q_cons q_int q_nil))) (q_cons (q_tup (q_cons q_int (q_cons q_int q_nil))) (q_cons (q_tup (q_cons q_int (q_cons q_int q_nil))) (q_cons (q_tup (q_cons q_int (q_cons q_int q_nil))) (q_cons (q_tup (q_cons q_int (q_cons q_int q_nil))) q_nil)))))) q_nil)))) (q_cons (q_tup (q_cons q_int (q_cons (q_tup (q_cons q_int (q_cons q_int q_nil))) (q_cons (q_var 0) q_nil)))) (q_cons (q_tup (q_cons q_int (q_cons (q_tup (q_cons q_int (q_cons q_int q_nil))) (q_cons (q_tup q_nil) q_nil)))) q_nil)))) sc_l_by_hand_right.nd)
      (qss_cons (qs_set 1 (q_op addQ (q_var 1) (q_lst (q_cons (q_tup (q_cons q_int (q_cons (q_tup (q_cons q_int (q_cons q_int q_nil))) (q_cons (q_tup (q_cons (q_tup (q_cons q_int (q_cons q_int q_nil))) (q_cons (q_tup (q_cons q_int (q_cons q_int q_nil))) (q_cons (q_tup (q_cons q_int (q_cons q_int q_nil))) (q_cons (q_tup (q_cons q_int (q_cons q_int q_nil))) (q_cons (q_tup (q_cons q_int (q_cons q_int q_nil))) (q_cons (q_tup (q_cons q_int (q_cons q_int q_nil))) (q_cons (q_tup (q_cons q_int (q_cons q_int q_nil))) (q_cons (q_tup (q_cons q_int (q_cons q_int q_nil))) (q_cons (q_tup (q_cons q_int (q_cons q_int q_nil))) q_nil)))))))))) q_nil)))) q_nil))) sc_l_by_hand_right.nd)
      (qss_cons (qs_setLc 2 [("_law_own", 7)] false (qi_items (q_var 1)) sc_l_by_hand_right.nd (blkOk_by (N := N_l_by_hand_right) (sc := defScope s_l_by_hand_right) (by decide +kernel)) (fun _ _ _ _ _ => (qg_name 7 sc_l_by_hand_right.nd)) (fun _ _ _ _ _ => ts_nil) (fun _ _ _ _ _ => (q_call (ok_p_least T) (hr.mono (by omega)) (by rfl) T.g_p_least T.F_p_least.kp (b_p_least T) (q_cons (q_var 7) q_nil) sp_pure)))
      (qss_cons (qs_set 3 (q_lst (q_cons (q_tup (q_cons q_int (q_cons (q_tup (q_cons q_int (q_cons q_int q_nil))) (q_cons (q_var 0) q_nil)))) (q_cons (q_tup (q_cons q_int (q_cons (q_tup (q_cons q_int (q_cons q_int q_nil))) (q_cons (q_var 0) q_nil)))) (q_cons (q_tup (q_cons q_int (q_cons (q_tup (q_cons q_int (q_cons q_int q_nil))) (q_cons (q_tup q_nil) q_nil)))) (q_cons (q_tup (q_cons q_int (q_cons (q_tup (q_cons q_int (q_cons q_int q_nil))) (q_cons (q_tup (q_cons (q_tup (q_cons q_int (q_cons q_int q_nil))) (q_cons (q_tup (q_cons q_int (q_cons q_int q_nil))) (q_cons (q_tup (q_cons q_int (q_cons q_int q_nil))) (q_cons (q_tup (q_cons q_int (q_cons q_int q_nil))) q_nil))))) q_nil)))) q_nil))))) sc_l_by_hand_right.nd)
      (qss_cons (qs_setLc 4 [("_law_k", 8)] false (qi_range1 q_int (by rfl) T.n_range) sc_l_by_hand_right.nd (blkOk_by (N := N_l_by_hand_right) (sc := defScope s_l_by_hand_right) (by decide +kernel)) (fun _ _ _ _ _ => (qg_name 8 sc_l_by_hand_right.nd)) (fun _ _ _ _ _ => ts_nil) (fun _ _ _ _ _ => (q_tup (q_cons (q_var 8) (q_cons (q_op addQ (q_var 8) q_int) q_nil)))))
      (qss_cons (qs_set 5 (q_tup (q_cons q_int (q_cons (q_tup (q_cons q_int (q_cons q_int q_nil))) (q_cons (q_callTy tupleQ (by rfl) T.n_tuple (by decide +kernel) (q_cons (q_sortL (q_op addQ (q_op addQ (q_var 4) (q_lc [("_law_k", 8)] (qi_range1 q_int (by rfl) T.n_range) sc_l_by_hand_right.nd (blkOk_by (N := N_l_by_hand_right) (sc := defScope s_l_by_hand_right) (by decide +kernel)) (fun _ _ _ _ _ => (qg_name 8 sc_l_by_hand_right.nd)) (fun _ _ _ _ _ => (q_tup (q_cons (q_var 8) (q_cons (q_op addQ (q_var 8) q_int) q_nil)))))) (q_lst (q_cons (q_tup (q_cons q_int (q_cons q_int q_nil))) q_nil))) (by rfl) T.n_sorted) q_nil)) q_nil)))) sc_l_by_hand_right.nd)
      (qss_cons (qs_set 6 (q_tup (q_cons q_int (q_cons (q_tup (q_cons q_int (q_cons q_int q_nil))) (q_cons (q_tup (q_cons (q_tup (q_cons q_int (q_cons q_int q_nil))) (q_cons (q_tup (q_cons q_int (q_cons q_int q_nil))) (q_cons (q_tup (q_cons q_int (q_cons q_int q_nil))) (q_cons (q_tup (q_cons q_int (q_cons q_int q_nil))) q_nil))))) q_nil)))) sc_l_by_hand_right.nd)
      (qss_one (qs_ret (q_call (ok_l_same T 30) (hr.mono (by omega)) (by rfl) T.g_l_same T.F_l_same.kp (b_l_same T) (q_cons (q_op addQ (q_var 2) (q_lst (q_cons (q_call (ok_p_least T) (hr.mono (by omega)) (by rfl) T.g_p_least T.F_p_least.kp (b_p_least T) (q_cons (q_var 5) q_nil) sp_pure) (q_cons (q_call (ok_p_least T) (hr.mono (by omega)) (by rfl) T.g_p_least T.F_p_least.kp (b_p_least T) (q_cons (q_var 6) q_nil) sp_pure) q_nil)))) (q_cons (q_op addQ (q_var 3) (q_lst (q_cons (q_tup (q_cons q_int (q_cons (q_tup (q_cons q_int (q_cons q_int q_nil))) (q_cons (q_callTy tupleQ (by rfl) T.n_tuple (by decide +kernel) (q_cons (q_var 4) q_nil)) q_nil)))) (q_cons (q_var 6) q_nil)))) q_nil)) sp_pure)))))))))))
theorem b_l_take (T : Txt P K mg cl sp_ a d) : Binds K (d 7) ["_law_box_here", "_law_below"] [] := T.F_l_take.binds (ps := ["_law_box_here", "_law_below"]) fun _ _ _ _ _ _ us hl => match us, hl with | [_, _], _ => rfl
theorem ok_l_take (T : Txt P K mg cl sp_ a d) : FnOk P w K mg base CX0 1 (a 7) (d 7) ["_law_box_here", "_law_below"] (spM ⟨K, cl⟩ f_l_take) :=
  fn_ok 6 2 (k := 0) T.F_l_take sc_l_take fun cdv A outer s H E hr =>
      (qss_cons (qs_if (q_tcmp gtI (q_ix (q_var 0) q_int) q_int) (qss_cons (qs_set 2 (q_op modI (q_callTy intQ (by rfl) T.n_int (by decide +kernel) (q_cons (q_ix (q_var 0) q_int) q_nil)) (q_var 1)) sc_l_take.nd)
      (qss_cons (qs_asg (q_op divI (q_ix (q_var 0) q_int) (q_var 1)) (qg_sub (q_var 0) q_int))
      (qss_one (qs_ret (q_var 2))))) qss_nil)
      (qss_cons (qs_asg (q_op addQ (q_ix (q_var 0) q_int) q_int) (qg_sub (q_var 0) q_int))
      (qss_cons (qs_set 3 (q_op modI (q_callTy intQ (by rfl) T.n_int (by decide +kernel) (q_cons (q_op mulQ (q_op addQ (q_ix (q_var 0) q_int) (q_op mulQ q_int (q_ix (q_var 0) q_int))) (q_op addQ q_int (q_ix (q_var 0) q_int))) q_nil)) q_int) sc_l_take.nd)
      (qss_cons (qs_set 4 (q_op addQ (q_op modI (q_callTy intQ (by rfl) T.n_int (by decide +kernel) (q_cons (q_var 3) q_nil)) q_int) q_int) sc_l_take.nd)
      (qss_cons (qs_set 5 (q_op modI (q_callTy intQ (by rfl) T.n_int (by decide +kernel) (q_cons (q_op mulQ (q_op addQ (q_op addQ (q_var 3) (q_ix (q_var 0) q_int)) (q_op divI (q_ix (q_var 0) q_int) q_int)) (q_var 4)) q_nil)) q_int) sc_l_take.nd)
      (qss_one (qs_ret (q_op modI (q_callTy intQ (by rfl) T.n_int (by decide +kernel) (q_cons (q_op divI (q_op modI (q_callTy intQ (by rfl) T.n_int (by decide +kernel) (q_cons (q_op addQ (q_op mulQ (q_var 5) q_int) (q_var 3)) q_nil)) q_int) q_int) q_nil)) (q_var 1)))))))))
theorem b_p_sure (T : Txt P K mg cl sp_ a d) : Binds K (d 8) ["book"] [] := T.F_p_sure.binds (ps := ["book"]) fun _ _ _ _ _ _ us hl => match us, hl with | [_], _ => rfl
theorem ok_p_sure (T : Txt P K mg cl sp_ a d) : FnOk P w K mg base CX0 32 (a 8) (d 8) ["book"] (spM ⟨K, cl⟩ f_p_sure) :=
  fn_ok 7 1 (k := 31) T.F_p_sure sc_p_sure fun cdv A outer s H E hr =>
      (qss_cons (qs_asg (q_call (ok_p_tupled T 30) (hr.mono (by omega)) (by rfl) T.g_p_tupled T.F_p_tupled.kp (b_p_tupled T) (q_cons (q_var 0) q_nil) sp_pure) (qg_tup 3 (qgs_cons (qg_name 1 sc_p_sure.nd) (qgs_cons (qg_name 2 sc_p_sure.nd) (qgs_cons (qg_name 3 sc_p_sure.nd) qgs_nil)))))
      (qss_cons (qs_set 4 (q_cell q_nil) sc_p_sure.nd)
      (qss_cons (qs_for (qi_range2 q_int (q_op addQ (q_var 1) q_int) (by rfl) T.n_range) (qg_name 5 sc_p_sure.nd) (qss_one (qs_expr (q_ext (q_var 4) (q_lcIf [("start", 6)] (qi_items (q_call (ok_p_places_below T) (hr.mono (by omega)) (by rfl) T.g_p_places_below T.F_p_places_below.kp (b_p_places_below T) (q_cons (q_var 3) (q_cons (q_var 5) q_nil)) sp_pure)) sc_p_sure.nd (blkOk_by (N := N_p_sure) (sc := defScope s_p_sure) (by decide +kernel)) (fun _ _ _ _ _ => (qg_name 6 sc_p_sure.nd)) (fun _ _ _ _ _ => (q_tcmp (neQ hr) (q_var 6) (q_var 5))) (fun _ _ _ _ _ => (q_tup (q_cons (q_var 6) (q_cons (q_var 5) q_nil)))))))))
      (qss_one (qs_ret (q_sortL (q_var 4) (by rfl) T.n_sorted))))))
theorem b_p_reached (T : Txt P K mg cl sp_ a d) : Binds K (d 9) ["book", "place"] [] := T.F_p_reached.binds (ps := ["book", "place"]) fun _ _ _ _ _ _ us hl => match us, hl with | [_, _], _ => rfl
theorem ok_p_reached (T : Txt P K mg cl sp_ a d) : FnOk P w K mg base CX0 32 (a 9) (d 9) ["book", "place"] (spM ⟨K, cl⟩ f_p_reached) :=
  fn_ok 2 2 (k := 31) T.F_p_reached sc_p_reached fun cdv A outer s H E hr =>
      (qss_one (qs_ret (q_call (ok_p_places_below T) (hr.mono (by omega)) (by rfl) T.g_p_places_below T.F_p_places_below.kp (b_p_places_below T) (q_cons (q_ix (q_call (ok_p_tupled T 30) (hr.mono (by omega)) (by rfl) T.g_p_tupled T.F_p_tupled.kp (b_p_tupled T) (q_cons (q_var 0) q_nil) sp_pure) q_int) (q_cons (q_var 1) q_nil)) sp_pure)))
theorem b_p_tiling (T : Txt P K mg cl sp_ a d) : Binds K (d 10) ["book", "stretch"] [] := T.F_p_tiling.binds (ps := ["book", "stretch"]) fun _ _ _ _ _ _ us hl => match us, hl with | [_, _], _ => rfl
theorem ok_p_tiling (T : Txt P K mg cl sp_ a d) : FnOk P w K mg base CX0 32 (a 10) (d 10) ["book", "stretch"] (spM ⟨K, cl⟩ f_p_tiling) :=
  fn_ok 7 2 (k := 31) T.F_p_tiling sc_p_tiling fun cdv A outer s H E hr =>
      (qss_cons (qs_asg (q_var 1) (qg_tup 2 (qgs_cons (qg_name 2 sc_p_tiling.nd) (qgs_cons (qg_name 3 sc_p_tiling.nd) qgs_nil))))
      (qss_cons (qs_set 4 (q_ddisp1 (q_var 2) (q_tup q_nil)) sc_p_tiling.nd)
      (qss_cons (qs_for (qi_items (q_ix (q_call (ok_p_tupled T 30) (hr.mono (by omega)) (by rfl) T.g_p_tupled T.F_p_tupled.kp (b_p_tupled T) (q_cons (q_var 0) q_nil) sp_pure) q_int)) (qg_tup 2 (qgs_cons (qg_name 5 sc_p_tiling.nd) (qgs_cons (qg_name 6 sc_p_tiling.nd) qgs_nil))) (qss_one (qs_if (q_w (q_and (q_tdin (hu_of hr) (q_var 5) (q_var 4)) (q_and1 (q_tdnin (hu_of hr) (q_var 6) (q_var 4))))) (qss_one (qs_asg (q_tup (q_star (q_dget (hu_of hr) (q_var 4) (q_var 5)) (q_cons (q_tup (q_cons (q_var 5) (q_cons (q_var 6) q_nil))) q_nil))) (qg_dsub (hu_of hr) (q_var 4) (q_var 6)))) qss_nil)))
      (qss_one (qs_ret (q_dget1 (hu_of hr) (q_var 4) (q_var 3)))))))
theorem b_p_agree (T : Txt P K mg cl sp_ a d) : Binds K (d 11) ["limit", "other"] [] := T.F_p_agree.binds (ps := ["limit", "other"]) fun _ _ _ _ _ _ us hl => match us, hl with | [_, _], _ => rfl
theorem ok_p_agree (T : Txt P K mg cl sp_ a d) : FnOk P w K mg base CX0 1 (a 11) (d 11) ["limit", "other"] (spM ⟨K, cl⟩ f_p_agree) :=
  fn_ok 2 2 (k := 0) T.F_p_agree sc_p_agree fun cdv A outer s H E hr =>
      (qss_one (qs_ret (q_cmp (eqQ hr) (q_op mulQ (q_ix (q_var 0) q_int) (q_ix (q_var 1) q_int)) (q_op mulQ (q_ix (q_var 1) q_int) (q_ix (q_var 0) q_int)))))
theorem b_p_rises (T : Txt P K mg cl sp_ a d) : Binds K (d 12) ["stretch", "places"] [] := T.F_p_rises.binds (ps := ["stretch", "places"]) fun _ _ _ _ _ _ us hl => match us, hl with | [_, _], _ => rfl
theorem ok_p_rises (T : Txt P K mg cl sp_ a d) : FnOk P w K mg base CX0 1 (a 12) (d 12) ["stretch", "places"] (spM ⟨K, cl⟩ f_p_rises) :=
  fn_ok 5 2 (k := 0) T.F_p_rises sc_p_rises fun cdv A outer s H E hr =>
      (qss_cons (qs_asg (q_var 0) (qg_tup 2 (qgs_cons (qg_name 2 sc_p_rises.nd) (qgs_cons (qg_name 3 sc_p_rises.nd) qgs_nil))))
      (qss_one (qs_ret (q_lcIf [("minute", 4)] (qi_range2 (q_var 2) (q_var 3) (by rfl) T.n_range) sc_p_rises.nd (blkOk_by (N := N_p_rises) (sc := defScope s_p_rises) (by decide +kernel)) (fun _ _ _ _ _ => (qg_name 4 sc_p_rises.nd)) (fun _ _ _ _ _ => (q_w (q_and (q_tcmp (ninQ hr) (q_var 4) (q_var 1)) (q_and1 (q_tcmp (inQ hr) (q_op addQ (q_var 4) q_int) (q_var 1)))))) (fun _ _ _ _ _ => (q_var 4))))))
theorem b_p_falls (T : Txt P K mg cl sp_ a d) : Binds K (d 13) ["stretch", "places"] [] := T.F_p_falls.binds (ps := ["stretch", "places"]) fun _ _ _ _ _ _ us hl => match us, hl with | [_, _], _ => rfl
theorem ok_p_falls (T : Txt P K mg cl sp_ a d) : FnOk P w K mg base CX0 1 (a 13) (d 13) ["stretch", "places"] (spM ⟨K, cl⟩ f_p_falls) :=
  fn_ok 5 2 (k := 0) T.F_p_falls sc_p_falls fun cdv A outer s H E hr =>
      (qss_cons (qs_asg (q_var 0) (qg_tup 2 (qgs_cons (qg_name 2 sc_p_falls.nd) (qgs_cons (qg_name 3 sc_p_falls.nd) qgs_nil))))
      (qss_one (qs_ret (q_lcIf [("minute", 4)] (qi_range2 (q_var 2) (q_var 3) (by rfl) T.n_range) sc_p_falls.nd (blkOk_by (N := N_p_falls) (sc := defScope s_p_falls) (by decide +kernel)) (fun _ _ _ _ _ => (qg_name 4 sc_p_falls.nd)) (fun _ _ _ _ _ => (q_w (q_and (q_tcmp (inQ hr) (q_var 4) (q_var 1)) (q_and1 (q_tcmp (ninQ hr) (q_op addQ (q_var 4) q_int) (q_var 1)))))) (fun _ _ _ _ _ => (q_var 4))))))
theorem b_p_log_of (T : Txt P K mg cl sp_ a d) : Binds K (d 14) ["limit", "many", "places"] [] := T.F_p_log_of.binds (ps := ["limit", "many", "places"]) fun _ _ _ _ _ _ us hl => match us, hl with | [_, _, _], _ => rfl
theorem ok_p_log_of (T : Txt P K mg cl sp_ a d) : FnOk P w K mg base CX0 2 (a 14) (d 14) ["limit", "many", "places"] (spM ⟨K, cl⟩ f_p_log_of) :=
  fn_ok 8 3 (k := 1) T.F_p_log_of sc_p_log_of fun cdv A outer s H E hr =>
      (qss_cons (qs_asg (q_var 0) (qg_tup 2 (qgs_cons (qg_name 3 sc_p_log_of.nd) (qgs_cons (qg_name 4 sc_p_log_of.nd) qgs_nil))))
      (qss_cons (qs_asg (q_tup (q_cons (q_call (ok_p_rises T) (hr.mono (by omega)) (by rfl) T.g_p_rises T.F_p_rises.kp (b_p_rises T) (q_cons (q_tup (q_cons q_int (q_cons (q_var 1) q_nil))) (q_cons (q_var 2) q_nil)) sp_pure) (q_cons (q_call (ok_p_falls T) (hr.mono (by omega)) (by rfl) T.g_p_falls T.F_p_falls.kp (b_p_falls T) (q_cons (q_tup (q_cons q_int (q_cons (q_var 1) q_nil))) (q_cons (q_var 2) q_nil)) sp_pure) q_nil))) (qg_tup 2 (qgs_cons (qg_name 5 sc_p_log_of.nd) (qgs_cons (qg_name 6 sc_p_log_of.nd) qgs_nil))))
      (qss_one (qs_ret (q_callTy tupleQ (by rfl) T.n_tuple (by decide +kernel) (q_cons (q_lc [("minute", 7)] (qi_range1 (q_var 1) (by rfl) T.n_range) sc_p_log_of.nd (blkOk_by (N := N_p_log_of) (sc := defScope s_p_log_of) (by decide +kernel)) (fun _ _ _ _ _ => (qg_name 7 sc_p_log_of.nd)) (fun _ _ _ _ _ => (q_tup (q_cons (q_ifE (q_tcmp (inQ hr) (q_var 7) (q_var 6)) (q_op subI (q_var 4) (q_var 3)) q_int) (q_cons (q_ifE (q_tcmp (inQ hr) (q_var 7) (q_var 5)) (q_var 3) q_int) q_nil))))) q_nil))))))
theorem b_p_parted_by_look (T : Txt P K mg cl sp_ a d) : Binds K (d 15) ["book", "other"] [] := T.F_p_parted_by_look.binds (ps := ["book", "other"]) fun _ _ _ _ _ _ us hl => match us, hl with | [_, _], _ => rfl
theorem ok_p_parted_by_look (T : Txt P K mg cl sp_ a d) : FnOk P w K mg base CX0 3 (a 15) (d 15) ["book", "other"] (spM ⟨K, cl⟩ f_p_parted_by_look) :=
  fn_ok 8 2 (k := 2) T.F_p_parted_by_look sc_p_parted_by_look fun cdv A outer s H E hr =>
      (qss_cons (qs_asg (q_var 0) (qg_tup 3 (qgs_cons (qg_name 2 sc_p_parted_by_look.nd) (qgs_cons (qg_name 3 sc_p_parted_by_look.nd) (qgs_cons (qg_name 4 sc_p_parted_by_look.nd) qgs_nil)))))
      (qss_cons (qs_for (qi_items (q_ix (q_var 1) q_int)) (qg_tup 2 (qgs_cons (qg_name 5 sc_p_parted_by_look.nd) (qgs_cons (qg_name 6 sc_p_parted_by_look.nd) qgs_nil))) (qss_cons (qs_set 7 (q_call (ok_p_places_below T) (hr.mono (by omega)) (by rfl) T.g_p_places_below T.F_p_places_below.kp (b_p_places_below T) (q_cons (q_var 4) (q_cons (q_var 6) q_nil)) sp_pure) sc_p_parted_by_look.nd)
      (qss_one (qs_if (q_tcmp (ninQ hr) (q_var 5) (q_var 7)) (qss_one (qs_ret (q_call (ok_p_log_of T) (hr.mono (by omega)) (by rfl) T.g_p_log_of T.F_p_log_of.kp (b_p_log_of T) (q_cons (q_var 3) (q_cons (q_var 2) (q_cons (q_callTy tupleQ (by rfl) T.n_tuple (by decide +kernel) (q_cons (q_var 7) q_nil)) q_nil))) sp_pure))) qss_nil))))
      (qss_one (qs_ret q_non))))
theorem b_p_parted_by_limit (T : Txt P K mg cl sp_ a d) : Binds K (d 16) ["low", "high"] [] := T.F_p_parted_by_limit.binds (ps := ["low", "high"]) fun _ _ _ _ _ _ us hl => match us, hl with | [_, _], _ => rfl
theorem ok_p_parted_by_limit (T : Txt P K mg cl sp_ a d) : FnOk P w K mg base CX0 1 (a 16) (d 16) ["low", "high"] (spM ⟨K, cl⟩ f_p_parted_by_limit) :=
  fn_ok 6 2 (k := 0) T.F_p_parted_by_limit sc_p_parted_by_limit fun cdv A outer s H E hr =>
      (qss_cons (qs_asg (q_ix (q_var 0) q_int) (qg_tup 2 (qgs_cons (qg_name 2 sc_p_parted_by_limit.nd) (qgs_cons (qg_name 3 sc_p_parted_by_limit.nd) qgs_nil))))
      (qss_cons (qs_asg (q_ix (q_var 1) q_int) (qg_tup 2 (qgs_cons (qg_name 4 sc_p_parted_by_limit.nd) (qgs_cons (qg_name 5 sc_p_parted_by_limit.nd) qgs_nil))))
      (qss_cons (qs_if (q_tcmp gtI (q_callB lenQ (by rfl) T.n_len (by decide +kernel) (q_cons (q_ix (q_var 0) q_int) q_nil)) q_int) (qss_one (qs_ret (q_op mulQ (q_tup (q_cons (q_tup (q_cons (q_op subI (q_op subI (q_op addQ (q_var 3) (q_var 5)) (q_var 2)) (q_var 4)) (q_cons (q_op addQ (q_var 2) (q_var 4)) q_nil))) q_nil)) (q_ix (q_var 0) q_int)))) qss_nil)
      (qss_one (qs_ret (q_ifE (q_tcmp gtI (q_callB lenQ (by rfl) T.n_len (by decide +kernel) (q_cons (q_ix (q_var 1) q_int) q_nil)) q_int) (q_op mulQ (q_tup (q_cons (q_tup (q_cons q_int (q_cons q_int q_nil))) q_nil)) (q_ix (q_var 0) q_int)) q_non))))))
theorem b_p_parting (T : Txt P K mg cl sp_ a d) : Binds K (d 17) ["book", "other"] [] := T.F_p_parting.binds (ps := ["book", "other"]) fun _ _ _ _ _ _ us hl => match us, hl with | [_, _], _ => rfl
theorem ok_p_parting (T : Txt P K mg cl sp_ a d) : FnOk P w K mg base CX0 32 (a 17) (d 17) ["book", "other"] (spM ⟨K, cl⟩ f_p_parting) :=
  fn_ok 6 2 (k := 31) T.F_p_parting sc_p_parting fun cdv A outer s H E hr =>
      (qss_cons (qs_par 2 3 sc_p_parting.nd (q_cons (q_call (ok_p_tupled T 30) (hr.mono (by omega)) (by rfl) T.g_p_tupled T.F_p_tupled.kp (b_p_tupled T) (q_cons (q_var 0) q_nil) sp_pure) (q_cons (q_call (ok_p_tupled T 30) (hr.mono (by omega)) (by rfl) T.g_p_tupled T.F_p_tupled.kp (b_p_tupled T) (q_cons (q_var 1) q_nil) sp_pure) q_nil)))
      (qss_cons (qs_if (q_tcmp (neQ hr) (q_ix (q_var 2) q_int) (q_ix (q_var 3) q_int)) (qss_one qs_none) qss_nil)
      (qss_cons (qs_if (q_test (q_call (ok_p_agree T) (hr.mono (by omega)) (by rfl) T.g_p_agree T.F_p_agree.kp (b_p_agree T) (q_cons (q_ix (q_var 2) q_int) (q_cons (q_ix (q_var 3) q_int) q_nil)) sp_pure)) (qss_cons (qs_set 4 (q_call (ok_p_parted_by_look T) (hr.mono (by omega)) (by rfl) T.g_p_parted_by_look T.F_p_parted_by_look.kp (b_p_parted_by_look T) (q_cons (q_var 2) (q_cons (q_var 3) q_nil)) sp_pure) sc_p_parting.nd)
      (qss_one (qs_ret (q_ifE (q_tisN (q_var 4)) (q_call (ok_p_parted_by_look T) (hr.mono (by omega)) (by rfl) T.g_p_parted_by_look T.F_p_parted_by_look.kp (b_p_parted_by_look T) (q_cons (q_var 3) (q_cons (q_var 2) q_nil)) sp_pure) (q_var 4))))) qss_nil)
      (qss_cons (qs_set 5 (q_cmp ltI (q_op mulQ (q_ix (q_ix (q_var 2) q_int) q_int) (q_ix (q_ix (q_var 3) q_int) q_int)) (q_op mulQ (q_ix (q_ix (q_var 3) q_int) q_int) (q_ix (q_ix (q_var 2) q_int) q_int))) sc_p_parting.nd)
      (qss_one (qs_ret (q_ifE (q_test (q_var 5)) (q_call (ok_p_parted_by_limit T) (hr.mono (by omega)) (by rfl) T.g_p_parted_by_limit T.F_p_parted_by_limit.kp (b_p_parted_by_limit T) (q_cons (q_var 2) (q_cons (q_var 3) q_nil)) sp_pure) (q_call (ok_p_parted_by_limit T) (hr.mono (by omega)) (by rfl) T.g_p_parted_by_limit T.F_p_parted_by_limit.kp (b_p_parted_by_limit T) (q_cons (q_var 3) (q_cons (q_var 2) q_nil)) sp_pure))))))))
theorem b_p_alike (T : Txt P K mg cl sp_ a d) : Binds K (d 18) ["book", "other"] [] := T.F_p_alike.binds (ps := ["book", "other"]) fun _ _ _ _ _ _ us hl => match us, hl with | [_, _], _ => rfl
theorem ok_p_alike (T : Txt P K mg cl sp_ a d) : FnOk P w K mg base CX0 33 (a 18) (d 18) ["book", "other"] (spM ⟨K, cl⟩ f_p_alike) :=
  fn_ok 2 2 (k := 32) T.F_p_alike sc_p_alike fun cdv A outer s H E hr =>
      (qss_one (qs_ret (q_isN (q_call (ok_p_parting T) (hr.mono (by omega)) (by rfl) T.g_p_parting T.F_p_parting.kp (b_p_parting T) (q_cons (q_var 0) (q_cons (q_var 1) q_nil)) sp_pure))))
theorem b_l_told (T : Txt P K mg cl sp_ a d) : Binds K (d 19) ["_law_book_so", "_law_its"] [] := T.F_l_told.binds (ps := ["_law_book_so", "_law_its"]) fun _ _ _ _ _ _ us hl => match us, hl with | [_, _], _ => rfl
theorem ok_l_told (T : Txt P K mg cl sp_ a d) : FnOk P w K mg base CX0 34 (a 19) (d 19) ["_law_book_so", "_law_its"] (spM ⟨K, cl⟩ f_l_told) :=
  fn_ok 3 2 (k := 33) T.F_l_told sc_l_told fun cdv A outer s H E hr =>
      (qss_cons (qs_set 2 (q_lst (q_cons (q_call (ok_p_sure T) (hr.mono (by omega)) (by rfl) T.g_p_sure T.F_p_sure.kp (b_p_sure T) (q_cons (q_var 0) q_nil) sp_pure) (q_cons (q_call (ok_p_least T) (hr.mono (by omega)) (by rfl) T.g_p_least T.F_p_least.kp (b_p_least T) (q_cons (q_var 0) q_nil) sp_pure) (q_cons (q_call (ok_p_reached T) (hr.mono (by omega)) (by rfl) T.g_p_reached T.F_p_reached.kp (b_p_reached T) (q_cons (q_var 0) (q_cons (q_ix (q_var 0) q_int) q_nil)) sp_pure) (q_cons (q_call (ok_p_tiling T) (hr.mono (by omega)) (by rfl) T.g_p_tiling T.F_p_tiling.kp (b_p_tiling T) (q_cons (q_var 0) (q_cons (q_tup (q_cons q_int (q_cons (q_ix (q_var 0) q_int) q_nil))) q_nil)) sp_pure) q_nil))))) sc_l_told.nd)
      (qss_one (qs_ret (q_op addQ (q_var 2) (q_lst (q_cons (q_call (ok_p_alike T) (hr.mono (by omega)) (by rfl) T.g_p_alike T.F_p_alike.kp (b_p_alike T) (q_cons (q_var 0) (q_cons (q_var 1) q_nil)) sp_pure) (q_cons (q_call (ok_p_parting T) (hr.mono (by omega)) (by rfl) T.g_p_parting T.F_p_parting.kp (b_p_parting T) (q_cons (q_var 1) (q_cons (q_var 0) q_nil)) sp_pure) q_nil)))))))
theorem b_l_lists (T : Txt P K mg cl sp_ a d) : Binds K (d 20) ["_law_matter"] [] := T.F_l_lists.binds (ps := ["_law_matter"]) fun _ _ _ _ _ _ us hl => match us, hl with | [_], _ => rfl
theorem ok_l_lists (T : Txt P K mg cl sp_ a d) (k : Nat) : FnOk P w K mg base CX0 (0 + k) (a 20) (d 20) ["_law_matter"] (spM ⟨K, cl⟩ (f_l_lists k)) := by
  induction k with
  | zero => exact fn_none
  | succ k ih =>
    exact fn_ok 2 1 (k := 0 + k) T.F_l_lists sc_l_lists fun cdv A outer s H E hr =>
      (qss_one (qs_ret (q_ifE (q_test (q_isi2 .list .tuple (q_var 0) (by rfl) T.n_isinstance (by rfl) T.n_list (by decide +kernel) (by rfl) T.n_tuple (by decide +kernel))) (q_lc [("_law_bit", 1)] (qi_items (q_var 0)) sc_l_lists.nd (blkOk_by (N := N_l_lists) (sc := defScope s_l_lists) (by decide +kernel)) (fun _ _ _ _ _ => (qg_name 1 sc_l_lists.nd)) (fun _ _ _ _ _ => (q_call ih (hr.mono (by omega)) (by rfl) T.g_l_lists T.F_l_lists.kp (b_l_lists T) (q_cons (q_var 1) q_nil) sp_pure))) (q_var 0))))
theorem okC_l_lists (T : Txt P K mg cl sp_ a d) (k : Nat) : FnOk P w K mg base CX0 (0 + k) (a 20) (d 20) ["_law_matter"] (spM ⟨K, cl⟩ (c_l_lists k)) := by
  induction k with
  | zero => exact fn_none
  | succ k ih =>
    exact fn_okC 2 1 (k := 0 + k) T.F_l_lists sc_l_lists fun cdv A outer s H E hr =>
      (qss_one (qs_ret (q_ifE (q_test (q_isi2 .list .tuple (q_var 0) (by rfl) T.n_isinstance (by rfl) T.n_list (by decide +kernel) (by rfl) T.n_tuple (by decide +kernel))) (q_lcC [("_law_bit", 1)] (qi_items (q_var 0)) sc_l_lists.nd (blkOk_by (N := N_l_lists) (sc := defScope s_l_lists) (by decide +kernel)) (fun _ _ _ _ _ => (qg_name 1 sc_l_lists.nd)) (fun _ _ _ _ _ => (q_call ih (hr.mono (by omega)) (by rfl) T.g_l_lists T.F_l_lists.kp (b_l_lists T) (q_cons (q_var 1) q_nil) sp_call))) (q_var 0))))
theorem b_l_filled (T : Txt P K mg cl sp_ a d) : Binds K (d 21) ["_law_spot", "_law_aim"] [] := T.F_l_filled.binds (ps := ["_law_spot", "_law_aim"]) fun _ _ _ _ _ _ us hl => match us, hl with | [_, _], _ => rfl
theorem ok_l_filled (T : Txt P K mg cl sp_ a d) (k : Nat) : FnOk P w K mg base CX0 (0 + k) (a 21) (d 21) ["_law_spot", "_law_aim"] (spM ⟨K, cl⟩ (f_l_filled k)) := by
  induction k with
  | zero => exact fn_none
  | succ k ih =>
    exact fn_ok 4 2 (k := 0 + k) T.F_l_filled sc_l_filled fun cdv A outer s H E hr =>
      (qss_cons (qs_for (qi_enum (q_frz (q_var 1)) (by rfl) T.n_enumerate) (qg_tup 2 (qgs_cons (qg_name 2 sc_l_filled.nd) (qgs_cons (qg_name 3 sc_l_filled.nd) qgs_nil))) (qss_one (qs_if (q_tcmp (eqQ hr) (q_var 2) (q_callB lenQ (by rfl) T.n_len (by decide +kernel) (q_cons (q_var 0) q_nil))) (qss_one (qs_expr (q_app (q_var 0) (q_var 3)))) (qss_one (qs_if (q_w (q_and (q_test (q_isi .list (q_var 3) (by rfl) T.n_isinstance (by rfl) T.n_list (by decide +kernel))) (q_and1 (q_test (q_isi .list (q_ix (q_var 0) (q_var 2)) (by rfl) T.n_isinstance (by rfl) T.n_list (by decide +kernel)))))) (qss_one (qs_expr (q_call ih (hr.mono (by omega)) (by rfl) T.g_l_filled T.F_l_filled.kp (b_l_filled T) (q_cons (q_ix (q_var 0) (q_var 2)) (q_cons (q_var 3) q_nil)) sp_call))) (qss_one (qs_asg (q_var 3) (qg_sub (q_var 0) (q_var 2)))))))))
      (qss_one (qs_while (fun _ _ => 1000) (q_tcmp gtI (q_callB lenQ (by rfl) T.n_len (by decide +kernel) (q_cons (q_var 0) q_nil)) (q_callB lenQ (by rfl) T.n_len (by decide +kernel) (q_cons (q_var 1) q_nil))) (qss_one (qs_expr (q_pop0 (q_var 0)))))))
theorem b_l_of (T : Txt P K mg cl sp_ a d) : Binds K (d 22) ["_law_box_here", "_law_some"] [] := T.F_l_of.binds (ps := ["_law_box_here", "_law_some"]) fun _ _ _ _ _ _ us hl => match us, hl with | [_, _], _ => rfl
theorem ok_l_of (T : Txt P K mg cl sp_ a d) : FnOk P w K mg base CX0 2 (a 22) (d 22) ["_law_box_here", "_law_some"] (spM ⟨K, cl⟩ f_l_of) :=
  fn_ok 2 2 (k := 1) T.F_l_of sc_l_of fun cdv A outer s H E hr =>
      (qss_one (qs_ret (q_ix (q_var 1) (q_call (ok_l_take T) (hr.mono (by omega)) (by rfl) T.g_l_take T.F_l_take.kp (b_l_take T) (q_cons (q_var 0) (q_cons (q_callB lenQ (by rfl) T.n_len (by decide +kernel) (q_cons (q_var 1) q_nil)) q_nil)) sp_call))))
theorem b_l_limit (T : Txt P K mg cl sp_ a d) : Binds K (d 23) ["_law_box_here"] [] := T.F_l_limit.binds (ps := ["_law_box_here"]) fun _ _ _ _ _ _ us hl => match us, hl with | [_], _ => rfl
theorem ok_l_limit (T : Txt P K mg cl sp_ a d) : FnOk P w K mg base CX0 3 (a 23) (d 23) ["_law_box_here"] (spM ⟨K, cl⟩ f_l_limit) :=
  fn_ok 2 1 (k := 2) T.F_l_limit sc_l_limit fun cdv A outer s H E hr =>
      (qss_cons (qs_set 1 (q_call (ok_l_take T) (hr.mono (by omega)) (by rfl) T.g_l_take T.F_l_take.kp (b_l_take T) (q_cons (q_var 0) (q_cons q_int q_nil)) sp_call) sc_l_limit.nd)
      (qss_cons (qs_if (q_tcmp (eqQ hr) (q_var 1) q_int) (qss_one (qs_ret (q_tup (q_cons (q_op addQ q_int (q_call (ok_l_take T) (hr.mono (by omega)) (by rfl) T.g_l_take T.F_l_take.kp (b_l_take T) (q_cons (q_var 0) (q_cons (q_op powI q_int q_int) q_nil)) sp_call)) (q_cons (q_op addQ (q_op addQ (q_op powI q_int q_int) q_int) (q_call (ok_l_take T) (hr.mono (by omega)) (by rfl) T.g_l_take T.F_l_take.kp (b_l_take T) (q_cons (q_var 0) (q_cons (q_op powI q_int q_int) q_nil)) sp_call)) q_nil))))) qss_nil)
      (qss_cons (qs_if (q_tcmp (eqQ hr) (q_var 1) q_int) (qss_one (qs_ret (q_tup (q_cons (q_op addQ q_int (q_op mulQ (q_call (ok_l_take T) (hr.mono (by omega)) (by rfl) T.g_l_take T.F_l_take.kp (b_l_take T) (q_cons (q_var 0) (q_cons q_int q_nil)) sp_call) q_int)) (q_cons q_int q_nil))))) qss_nil)
      (qss_one (qs_ret (q_call (ok_l_of T) (hr.mono (by omega)) (by rfl) T.g_l_of T.F_l_of.kp (b_l_of T) (q_cons (q_var 0) (q_cons (q_lst (q_cons (q_tup (q_cons q_int (q_cons q_int q_nil))) (q_cons (q_tup (q_cons q_int (q_cons q_int q_nil))) (q_cons (q_tup (q_cons q_int (q_cons q_int q_nil))) (q_cons (q_tup (q_cons q_int (q_cons q_int q_nil))) (q_cons (q_tup (q_cons q_int (q_cons q_int q_nil))) (q_cons (q_tup (q_cons q_int (q_cons q_int q_nil))) q_nil))))))) q_nil)) sp_call))))))
theorem b_l_looks (T : Txt P K mg cl sp_ a d) : Binds K (d 24) ["_law_box_here", "_law_many", "_law_most_so"] [] := T.F_l_looks.binds (ps := ["_law_box_here", "_law_many", "_law_most_so"]) fun _ _ _ _ _ _ us hl => match us, hl with | [_, _, _], _ => rfl
theorem ok_l_looks (T : Txt P K mg cl sp_ a d) : FnOk P w K mg base CX0 2 (a 24) (d 24) ["_law_box_here", "_law_many", "_law_most_so"] (spM ⟨K, cl⟩ f_l_looks) :=
  fn_ok 8 3 (k := 1) T.F_l_looks sc_l_looks fun cdv A outer s H E hr =>
      (qss_cons (qs_par 3 4 sc_l_looks.nd (q_cons (q_call (ok_l_take T) (hr.mono (by omega)) (by rfl) T.g_l_take T.F_l_take.kp (b_l_take T) (q_cons (q_var 0) (q_cons q_int q_nil)) sp_call) (q_cons (q_cell q_nil) q_nil)))
      (qss_cons (qs_set 5 (q_op addQ q_int (q_call (ok_l_take T) (hr.mono (by omega)) (by rfl) T.g_l_take T.F_l_take.kp (b_l_take T) (q_cons (q_var 0) (q_cons (q_callB min2Q (by rfl) T.n_min (by decide +kernel) (q_cons (q_var 1) (q_cons q_int q_nil))) q_nil)) sp_call)) sc_l_looks.nd)
      (qss_cons (qs_for (qi_range1 (q_call (ok_l_take T) (hr.mono (by omega)) (by rfl) T.g_l_take T.F_l_take.kp (b_l_take T) (q_cons (q_var 0) (q_cons (q_op addQ (q_var 2) q_int) q_nil)) sp_call) (by rfl) T.n_range) (qg_name 6 sc_l_looks.nd) (qss_cons (qs_set 7 (q_call (ok_l_take T) (hr.mono (by omega)) (by rfl) T.g_l_take T.F_l_take.kp (b_l_take T) (q_cons (q_var 0) (q_cons (q_var 1) q_nil)) sp_call) sc_l_looks.nd)
      (qss_one (qs_if (q_tcmp (eqQ hr) (q_var 3) q_int) (qss_one (qs_expr (q_app (q_var 4) (q_tup (q_cons (q_var 7) (q_cons (q_op addQ (q_op addQ (q_var 7) q_int) (q_call (ok_l_take T) (hr.mono (by omega)) (by rfl) T.g_l_take T.F_l_take.kp (b_l_take T) (q_cons (q_var 0) (q_cons (q_op subI (q_var 1) (q_var 7)) q_nil)) sp_call)) q_nil)))))) (qss_one (qs_if (q_tcmp (eqQ hr) (q_var 3) q_int) (qss_one (qs_expr (q_app (q_var 4) (q_tup (q_cons (q_var 7) (q_cons (q_callB min2Q (by rfl) T.n_min (by decide +kernel) (q_cons (q_var 1) (q_cons (q_op addQ (q_var 7) (q_var 5)) q_nil))) q_nil)))))) (qss_one (qs_expr (q_app (q_var 4) (q_tup (q_cons (q_var 7) (q_cons (q_callB min2Q (by rfl) T.n_min (by decide +kernel) (q_cons (q_var 1) (q_cons (q_op addQ (q_op addQ (q_var 7) q_int) (q_call (ok_l_take T) (hr.mono (by omega)) (by rfl) T.g_l_take T.F_l_take.kp (b_l_take T) (q_cons (q_var 0) (q_cons q_int q_nil)) sp_call)) q_nil))) q_nil))))))))))))
      (qss_one (qs_ret (q_callTy tupleQ (by rfl) T.n_tuple (by decide +kernel) (q_cons (q_sortset hr (q_frz (q_var 4)) (by rfl) T.n_sorted (by rfl) T.n_set) q_nil)))))))
theorem b_l_again_right (T : Txt P K mg cl sp_ a d) : Binds K (d 25) ["_law_box_here"] [] := T.F_l_again_right.binds (ps := ["_law_box_here"]) fun _ _ _ _ _ _ us hl => match us, hl with | [_], _ => rfl
theorem ok_l_again_right (T : Txt P K mg cl sp_ a d) : FnOk P w K mg base CX0 35 (a 25) (d 25) ["_law_box_here"] (spM ⟨K, cl⟩ f_l_again_right) :=
  fn_ok 6 1 (k := 34) T.F_l_again_right sc_l_again_right fun cdv A outer s H E hr =>
      (qss_cons (qs_set 1 (q_op addQ q_int (q_call (ok_l_take T) (hr.mono (by omega)) (by rfl) T.g_l_take T.F_l_take.kp (b_l_take T) (q_cons (q_var 0) (q_cons q_int q_nil)) sp_call)) sc_l_again_right.nd)
      (qss_cons (qs_setLc 2 [("_law_turn", 5)] false (qi_range1 q_int (by rfl) T.n_range) sc_l_again_right.nd (blkOk_by (N := N_l_again_right) (sc := defScope s_l_again_right) (by decide +kernel)) (fun _ _ _ _ _ => (qg_name 5 sc_l_again_right.nd)) (fun _ _ _ _ _ => ts_nil) (fun _ _ _ _ _ => (q_tup (q_cons (q_var 1) (q_cons (q_call (ok_l_limit T) (hr.mono (by omega)) (by rfl) T.g_l_limit T.F_l_limit.kp (b_l_limit T) (q_cons (q_var 0) q_nil) sp_call) (q_cons (q_call (ok_l_looks T) (hr.mono (by omega)) (by rfl) T.g_l_looks T.F_l_looks.kp (b_l_looks T) (q_cons (q_var 0) (q_cons (q_var 1) (q_cons q_int q_nil))) sp_call) q_nil))))))
      (qss_cons (qs_set 3 (q_lst (q_cons (q_call (ok_l_told T) (hr.mono (by omega)) (by rfl) T.g_l_told T.F_l_told.kp (b_l_told T) (q_cons (q_ix (q_var 2) q_int) (q_cons (q_ix (q_var 2) q_int) q_nil)) sp_pure) (q_cons (q_call (ok_l_told T) (hr.mono (by omega)) (by rfl) T.g_l_told T.F_l_told.kp (b_l_told T) (q_cons (q_ix (q_var 2) q_int) (q_cons (q_ix (q_var 2) q_int) q_nil)) sp_pure) q_nil))) sc_l_again_right.nd)
      (qss_cons (qs_set 4 (q_cell (q_cons (q_call (okC_l_lists T 30) (hr.mono (by omega)) (by rfl) T.g_l_lists T.F_l_lists.kp (b_l_lists T) (q_cons (q_ix (q_var 2) q_int) q_nil) sp_call) (q_cons (q_call (okC_l_lists T 30) (hr.mono (by omega)) (by rfl) T.g_l_lists T.F_l_lists.kp (b_l_lists T) (q_cons (q_ix (q_var 2) q_int) q_nil) sp_call) q_nil))) sc_l_again_right.nd)
      (qss_cons (qs_for (qi_items (q_tup (q_cons q_int (q_cons q_int (q_cons q_int q_nil))))) (qg_name 5 sc_l_again_right.nd) (qss_cons (qs_expr (q_call (ok_l_filled T 30) (hr.mono (by omega)) (by rfl) T.g_l_filled T.F_l_filled.kp (b_l_filled T) (q_cons (q_var 4) (q_cons (q_lst (q_cons (q_call (okC_l_lists T 30) (hr.mono (by omega)) (by rfl) T.g_l_lists T.F_l_lists.kp (b_l_lists T) (q_cons (q_ix (q_var 2) (q_var 5)) q_nil) sp_call) (q_cons (q_call (okC_l_lists T 30) (hr.mono (by omega)) (by rfl) T.g_l_lists T.F_l_lists.kp (b_l_lists T) (q_cons (q_ix (q_var 2) (q_op subI q_int (q_var 5))) q_nil) sp_call) q_nil))) q_nil)) sp_call))
      (qss_one (qs_if (q_borT6 (q_not (q_test (q_call (ok_l_same T 30) (hr.mono (by omega)) (by rfl) T.g_l_same T.F_l_same.kp (b_l_same T) (q_cons (q_call (ok_l_told T) (hr.mono (by omega)) (by rfl) T.g_l_told T.F_l_told.kp (b_l_told T) (q_cons (q_ix (q_var 4) q_int) (q_cons (q_ix (q_var 4) q_int) q_nil)) sp_pure) (q_cons (q_ix (q_var 3) (q_var 5)) q_nil)) sp_pure)))) (qss_one (qs_ret q_bl)) qss_nil))))
      (qss_one (qs_ret q_bl)))))))
theorem b_l_with (T : Txt P K mg cl sp_ a d) : Binds K (d 26) ["_law_book_so", "_law_more"] [] := T.F_l_with.binds (ps := ["_law_book_so", "_law_more"]) fun _ _ _ _ _ _ us hl => match us, hl with | [_, _], _ => rfl
theorem ok_l_with (T : Txt P K mg cl sp_ a d) : FnOk P w K mg base CX0 1 (a 26) (d 26) ["_law_book_so", "_law_more"] (spM ⟨K, cl⟩ f_l_with) :=
  fn_ok 2 2 (k := 0) T.F_l_with sc_l_with fun cdv A outer s H E hr =>
      (qss_one (qs_ret (q_tup (q_cons (q_ix (q_var 0) q_int) (q_cons (q_ix (q_var 0) q_int) (q_cons (q_callTy tupleQ (by rfl) T.n_tuple (by decide +kernel) (q_cons (q_sortset hr (q_op addQ (q_callTy listQ (by rfl) T.n_list (by decide +kernel) (q_cons (q_ix (q_var 0) q_int) q_nil)) (q_callTy listQ (by rfl) T.n_list (by decide +kernel) (q_cons (q_var 1) q_nil))) (by rfl) T.n_sorted (by rfl) T.n_set) q_nil)) q_nil))))))
theorem b_l_without (T : Txt P K mg cl sp_ a d) : Binds K (d 27) ["_law_book_so", "_law_gone"] [] := T.F_l_without.binds (ps := ["_law_book_so", "_law_gone"]) fun _ _ _ _ _ _ us hl => match us, hl with | [_, _], _ => rfl
theorem ok_l_without (T : Txt P K mg cl sp_ a d) : FnOk P w K mg base CX0 1 (a 27) (d 27) ["_law_book_so", "_law_gone"] (spM ⟨K, cl⟩ f_l_without) :=
  fn_ok 3 2 (k := 0) T.F_l_without sc_l_without fun cdv A outer s H E hr =>
      (qss_one (qs_ret (q_tup (q_cons (q_ix (q_var 0) q_int) (q_cons (q_ix (q_var 0) q_int) (q_cons (q_callTy tupleQ (by rfl) T.n_tuple (by decide +kernel) (q_cons (q_lcIf [("_law_own", 2)] (qi_items (q_ix (q_var 0) q_int)) sc_l_without.nd (blkOk_by (N := N_l_without) (sc := defScope s_l_without) (by decide +kernel)) (fun _ _ _ _ _ => (qg_name 2 sc_l_without.nd)) (fun _ _ _ _ _ => (q_tcmp (ninQ hr) (q_var 2) (q_var 1))) (fun _ _ _ _ _ => (q_var 2))) q_nil)) q_nil))))))
theorem b_l_book (T : Txt P K mg cl sp_ a d) : Binds K (d 28) ["_law_box_here", "_law_most_minutes", "_law_most_looks"] [] := T.F_l_book.binds (ps := ["_law_box_here", "_law_most_minutes", "_law_most_looks"]) fun _ _ _ _ _ _ us hl => match us, hl with | [_, _, _], _ => rfl
theorem ok_l_book (T : Txt P K mg cl sp_ a d) : FnOk P w K mg base CX0 4 (a 28) (d 28) ["_law_box_here", "_law_most_minutes", "_law_most_looks"] (spM ⟨K, cl⟩ f_l_book) :=
  fn_ok 4 3 (k := 3) T.F_l_book sc_l_book fun cdv A outer s H E hr =>
      (qss_cons (qs_set 3 (q_op addQ q_int (q_call (ok_l_take T) (hr.mono (by omega)) (by rfl) T.g_l_take T.F_l_take.kp (b_l_take T) (q_cons (q_var 0) (q_cons (q_var 1) q_nil)) sp_call)) sc_l_book.nd)
      (qss_one (qs_ret (q_tup (q_cons (q_var 3) (q_cons (q_call (ok_l_limit T) (hr.mono (by omega)) (by rfl) T.g_l_limit T.F_l_limit.kp (b_l_limit T) (q_cons (q_var 0) q_nil) sp_call) (q_cons (q_call (ok_l_looks T) (hr.mono (by omega)) (by rfl) T.g_l_looks T.F_l_looks.kp (b_l_looks T) (q_cons (q_var 0) (q_cons (q_var 3) (q_cons (q_var 2) q_nil))) sp_call) q_nil)))))))
theorem b_l_pick (T : Txt P K mg cl sp_ a d) : Binds K (d 29) ["_law_box_here", "_law_some", "_law_many"] [] := T.F_l_pick.binds (ps := ["_law_box_here", "_law_some", "_law_many"]) fun _ _ _ _ _ _ us hl => match us, hl with | [_, _, _], _ => rfl
theorem ok_l_pick (T : Txt P K mg cl sp_ a d) : FnOk P w K mg base CX0 2 (a 29) (d 29) ["_law_box_here", "_law_some", "_law_many"] (spM ⟨K, cl⟩ f_l_pick) :=
  fn_ok 6 3 (k := 1) T.F_l_pick sc_l_pick fun cdv A outer s H E hr =>
      (qss_cons (qs_par 3 4 sc_l_pick.nd (q_cons (q_callTy listCQ (by rfl) T.n_list (by decide +kernel) (q_cons (q_var 1) q_nil)) (q_cons (q_cell q_nil) q_nil)))
      (qss_cons (qs_for (qi_range1 (q_callB min2Q (by rfl) T.n_min (by decide +kernel) (q_cons (q_var 2) (q_cons (q_callB lenQ (by rfl) T.n_len (by decide +kernel) (q_cons (q_var 3) q_nil)) q_nil))) (by rfl) T.n_range) (qg_name 5 sc_l_pick.nd) (qss_one (qs_expr (q_app (q_var 4) (q_popAt (q_var 3) (q_call (ok_l_take T) (hr.mono (by omega)) (by rfl) T.g_l_take T.F_l_take.kp (b_l_take T) (q_cons (q_var 0) (q_cons (q_callB lenQ (by rfl) T.n_len (by decide +kernel) (q_cons (q_var 3) q_nil)) q_nil)) sp_call))))))
      (qss_one (qs_ret (q_frz (q_var 4))))))
theorem b_l_net (T : Txt P K mg cl sp_ a d) : Binds K (d 30) ["_law_box_here", "_law_most_so", "_law_wide_so"] [] := T.F_l_net.binds (ps := ["_law_box_here", "_law_most_so", "_law_wide_so"]) fun _ _ _ _ _ _ us hl => match us, hl with | [_, _, _], _ => rfl
theorem ok_l_net (T : Txt P K mg cl sp_ a d) : FnOk P w K mg base CX0 4 (a 30) (d 30) ["_law_box_here", "_law_most_so", "_law_wide_so"] (spM ⟨K, cl⟩ f_l_net) :=
  fn_ok 7 3 (k := 3) T.F_l_net sc_l_net fun cdv A outer s H E hr =>
      (qss_cons (qs_par 3 4 sc_l_net.nd (q_cons (q_op addQ q_int (q_call (ok_l_take T) (hr.mono (by omega)) (by rfl) T.g_l_take T.F_l_take.kp (b_l_take T) (q_cons (q_var 0) (q_cons (q_var 1) q_nil)) sp_call)) (q_cons (q_lst q_nil) q_nil)))
      (qss_cons (qs_for (qi_range1 (q_var 3) (by rfl) T.n_range) (qg_name 5 sc_l_net.nd) (qss_one (qs_set 4 (q_op addQ (q_var 4) (q_lc [("_law_k", 6)] (qi_range1 (q_op subI (q_var 3) (q_var 5)) (by rfl) T.n_range) sc_l_net.nd (blkOk_by (N := N_l_net) (sc := defScope s_l_net) (by decide +kernel)) (fun _ _ _ _ _ => (qg_name 6 sc_l_net.nd)) (fun _ _ _ _ _ => (q_tup (q_cons (q_var 5) (q_cons (q_op addQ (q_op addQ (q_var 5) q_int) (q_var 6)) q_nil)))))) sc_l_net.nd)))
      (qss_one (qs_ret (q_tup (q_cons (q_var 3) (q_cons (q_call (ok_l_limit T) (hr.mono (by omega)) (by rfl) T.g_l_limit T.F_l_limit.kp (b_l_limit T) (q_cons (q_var 0) q_nil) sp_call) (q_cons (q_callTy tupleQ (by rfl) T.n_tuple (by decide +kernel) (q_cons (q_sortL (q_call (ok_l_pick T) (hr.mono (by omega)) (by rfl) T.g_l_pick T.F_l_pick.kp (b_l_pick T) (q_cons (q_var 0) (q_cons (q_var 4) (q_cons (q_call (ok_l_take T) (hr.mono (by omega)) (by rfl) T.g_l_take T.F_l_take.kp (b_l_take T) (q_cons (q_var 0) (q_cons (q_op addQ (q_var 2) q_int) q_nil)) sp_call) q_nil))) sp_call) (by rfl) T.n_sorted) q_nil)) q_nil))))))))
theorem b_l_closed (T : Txt P K mg cl sp_ a d) : Binds K (d 31) ["_law_looks_so", "_law_places_so"] [] := T.F_l_closed.binds (ps := ["_law_looks_so", "_law_places_so"]) fun _ _ _ _ _ _ us hl => match us, hl with | [_, _], _ => rfl
theorem ok_l_closed (T : Txt P K mg cl sp_ a d) : FnOk P w K mg base CX0 1 (a 31) (d 31) ["_law_looks_so", "_law_places_so"] (spM ⟨K, cl⟩ f_l_closed) :=
  fn_ok 6 2 (k := 0) T.F_l_closed sc_l_closed fun cdv A outer s H E hr =>
      (qss_cons (qs_set 2 (q_callTy listCQ (by rfl) T.n_list (by decide +kernel) (q_cons (q_var 1) q_nil)) sc_l_closed.nd)
      (qss_cons (qs_for (qi_items (q_sortrev (q_lc [("_law_look", 5)] (qi_items (q_var 0)) sc_l_closed.nd (blkOk_by (N := N_l_closed) (sc := defScope s_l_closed) (by decide +kernel)) (fun _ _ _ _ _ => (qg_name 5 sc_l_closed.nd)) (fun _ _ _ _ _ => (q_tup (q_cons (q_ix (q_var 5) q_int) (q_cons (q_ix (q_var 5) q_int) q_nil))))) q_bl (by rfl) T.n_sorted)) (qg_tup 2 (qgs_cons (qg_name 3 sc_l_closed.nd) (qgs_cons (qg_name 4 sc_l_closed.nd) qgs_nil))) (qss_one (qs_if (q_w (q_and (q_tcmp (inQ hr) (q_var 3) (q_var 2)) (q_and1 (q_tcmp (ninQ hr) (q_var 4) (q_var 2))))) (qss_one (qs_expr (q_app (q_var 2) (q_var 4)))) qss_nil)))
      (qss_one (qs_ret (q_callTy tupleQ (by rfl) T.n_tuple (by decide +kernel) (q_cons (q_sortset hr (q_frz (q_var 2)) (by rfl) T.n_sorted (by rfl) T.n_set) q_nil))))))
theorem b_l_tiled (T : Txt P K mg cl sp_ a d) : Binds K (d 32) ["_law_looks_so", "_law_span"] [] := T.F_l_tiled.binds (ps := ["_law_looks_so", "_law_span"]) fun _ _ _ _ _ _ us hl => match us, hl with | [_, _], _ => rfl
theorem ok_l_tiled (T : Txt P K mg cl sp_ a d) : FnOk P w K mg base CX0 2 (a 32) (d 32) ["_law_looks_so", "_law_span"] (spM ⟨K, cl⟩ f_l_tiled) :=
  fn_ok 2 2 (k := 1) T.F_l_tiled sc_l_tiled fun cdv A outer s H E hr =>
      (qss_one (qs_ret (q_cmp (inQ hr) (q_ix (q_var 1) q_int) (q_call (ok_l_closed T) (hr.mono (by omega)) (by rfl) T.g_l_closed T.F_l_closed.kp (b_l_closed T) (q_cons (q_var 0) (q_cons (q_tup (q_cons (q_ix (q_var 1) q_int) q_nil)) q_nil)) sp_pure))))
theorem b_l_least (T : Txt P K mg cl sp_ a d) : Binds K (d 33) ["_law_book_so"] [] := T.F_l_least.binds (ps := ["_law_book_so"]) fun _ _ _ _ _ _ us hl => match us, hl with | [_], _ => rfl
theorem ok_l_least (T : Txt P K mg cl sp_ a d) : FnOk P w K mg base CX0 3 (a 33) (d 33) ["_law_book_so"] (spM ⟨K, cl⟩ f_l_least) :=
  fn_ok 4 1 (k := 2) T.F_l_least sc_l_least fun cdv A outer s H E hr =>
      (qss_cons (qs_setLc 1 [("_law_own", 2)] false (qi_items (q_ix (q_var 0) q_int)) sc_l_least.nd (blkOk_by (N := N_l_least) (sc := defScope s_l_least) (by decide +kernel)) (fun _ _ _ _ _ => (qg_name 2 sc_l_least.nd)) (fun _ _ _ _ _ => (ts_one (q_not (q_test (q_call (ok_l_tiled T) (hr.mono (by omega)) (by rfl) T.g_l_tiled T.F_l_tiled.kp (b_l_tiled T) (q_cons (q_lcIf [("_law_look", 3)] (qi_items (q_ix (q_var 0) q_int)) sc_l_least.nd (blkOk_by (by rfl)) (fun _ _ _ _ _ => (qg_name 3 sc_l_least.nd)) (fun _ _ _ _ _ => (q_tcmp (neQ hr) (q_var 3) (q_var 2))) (fun _ _ _ _ _ => (q_var 3))) (q_cons (q_var 2) q_nil)) sp_pure))))) (fun _ _ _ _ _ => (q_var 2)))
      (qss_one (qs_ret (q_tup (q_cons (q_ix (q_var 0) q_int) (q_cons (q_ix (q_var 0) q_int) (q_cons (q_callTy tupleQ (by rfl) T.n_tuple (by decide +kernel) (q_cons (q_var 1) q_nil)) q_nil)))))))
theorem b_l_added (T : Txt P K mg cl sp_ a d) : Binds K (d 34) ["_law_one_so", "_law_other_so"] [] := T.F_l_added.binds (ps := ["_law_one_so", "_law_other_so"]) fun _ _ _ _ _ _ us hl => match us, hl with | [_, _], _ => rfl
theorem ok_l_added (T : Txt P K mg cl sp_ a d) : FnOk P w K mg base CX0 1 (a 34) (d 34) ["_law_one_so", "_law_other_so"] (spM ⟨K, cl⟩ f_l_added) :=
  fn_ok 4 2 (k := 0) T.F_l_added sc_l_added fun cdv A outer s H E hr =>
      (qss_one (qs_ret (q_callTy tupleQ (by rfl) T.n_tuple (by decide +kernel) (q_cons (q_lc [("_law_mine", 2), ("_law_its", 3)] (qi_zip (q_cons (q_var 0) (q_cons (q_var 1) q_nil)) (by rfl) T.n_zip) sc_l_added.nd (blkOk_by (N := N_l_added) (sc := defScope s_l_added) (by decide +kernel)) (fun _ _ _ _ _ => (qg_tup 2 (qgs_cons (qg_name 2 sc_l_added.nd) (qgs_cons (qg_name 3 sc_l_added.nd) qgs_nil)))) (fun _ _ _ _ _ => (q_tup (q_cons (q_op addQ (q_ix (q_var 2) q_int) (q_ix (q_var 3) q_int)) (q_cons (q_op addQ (q_ix (q_var 2) q_int) (q_ix (q_var 3) q_int)) q_nil))))) q_nil))))
theorem b_l_rises (T : Txt P K mg cl sp_ a d) : Binds K (d 35) ["_law_places_so", "_law_span"] [] := T.F_l_rises.binds (ps := ["_law_places_so", "_law_span"]) fun _ _ _ _ _ _ us hl => match us, hl with | [_, _], _ => rfl
theorem ok_l_rises (T : Txt P K mg cl sp_ a d) : FnOk P w K mg base CX0 1 (a 35) (d 35) ["_law_places_so", "_law_span"] (spM ⟨K, cl⟩ f_l_rises) :=
  fn_ok 3 2 (k := 0) T.F_l_rises sc_l_rises fun cdv A outer s H E hr =>
      (qss_one (qs_ret (q_lcIf [("_law_m", 2)] (qi_range2 (q_ix (q_var 1) q_int) (q_ix (q_var 1) q_int) (by rfl) T.n_range) sc_l_rises.nd (blkOk_by (N := N_l_rises) (sc := defScope s_l_rises) (by decide +kernel)) (fun _ _ _ _ _ => (qg_name 2 sc_l_rises.nd)) (fun _ _ _ _ _ => (q_w (q_and (q_tcmp (inQ hr) (q_op addQ (q_var 2) q_int) (q_var 0)) (q_and1 (q_tcmp (ninQ hr) (q_var 2) (q_var 0)))))) (fun _ _ _ _ _ => (q_var 2)))))
theorem b_l_falls (T : Txt P K mg cl sp_ a d) : Binds K (d 36) ["_law_places_so", "_law_span"] [] := T.F_l_falls.binds (ps := ["_law_places_so", "_law_span"]) fun _ _ _ _ _ _ us hl => match us, hl with | [_, _], _ => rfl
theorem ok_l_falls (T : Txt P K mg cl sp_ a d) : FnOk P w K mg base CX0 1 (a 36) (d 36) ["_law_places_so", "_law_span"] (spM ⟨K, cl⟩ f_l_falls) :=
  fn_ok 3 2 (k := 0) T.F_l_falls sc_l_falls fun cdv A outer s H E hr =>
      (qss_one (qs_ret (q_lcIf [("_law_m", 2)] (qi_range2 (q_ix (q_var 1) q_int) (q_ix (q_var 1) q_int) (by rfl) T.n_range) sc_l_falls.nd (blkOk_by (N := N_l_falls) (sc := defScope s_l_falls) (by decide +kernel)) (fun _ _ _ _ _ => (qg_name 2 sc_l_falls.nd)) (fun _ _ _ _ _ => (q_w (q_and (q_tcmp (inQ hr) (q_var 2) (q_var 0)) (q_and1 (q_tcmp (ninQ hr) (q_op addQ (q_var 2) q_int) (q_var 0)))))) (fun _ _ _ _ _ => (q_var 2)))))
theorem b_l_hills_log (T : Txt P K mg cl sp_ a d) : Binds K (d 37) ["_law_limit_so", "_law_many", "_law_places_so"] [] := T.F_l_hills_log.binds (ps := ["_law_limit_so", "_law_many", "_law_places_so"]) fun _ _ _ _ _ _ us hl => match us, hl with | [_, _, _], _ => rfl
theorem ok_l_hills_log (T : Txt P K mg cl sp_ a d) : FnOk P w K mg base CX0 2 (a 37) (d 37) ["_law_limit_so", "_law_many", "_law_places_so"] (spM ⟨K, cl⟩ f_l_hills_log) :=
  fn_ok 7 3 (k := 1) T.F_l_hills_log sc_l_hills_log fun cdv A outer s H E hr =>
      (qss_cons (qs_asg (q_tup (q_cons (q_call (ok_l_rises T) (hr.mono (by omega)) (by rfl) T.g_l_rises T.F_l_rises.kp (b_l_rises T) (q_cons (q_var 2) (q_cons (q_tup (q_cons q_int (q_cons (q_var 1) q_nil))) q_nil)) sp_pure) (q_cons (q_call (ok_l_falls T) (hr.mono (by omega)) (by rfl) T.g_l_falls T.F_l_falls.kp (b_l_falls T) (q_cons (q_var 2) (q_cons (q_tup (q_cons q_int (q_cons (q_var 1) q_nil))) q_nil)) sp_pure) q_nil))) (qg_tup 2 (qgs_cons (qg_name 3 sc_l_hills_log.nd) (qgs_cons (qg_name 4 sc_l_hills_log.nd) qgs_nil))))
      (qss_cons (qs_set 5 (q_op subI (q_ix (q_var 0) q_int) (q_ix (q_var 0) q_int)) sc_l_hills_log.nd)
      (qss_one (qs_ret (q_callTy tupleQ (by rfl) T.n_tuple (by decide +kernel) (q_cons (q_lc [("_law_m", 6)] (qi_range1 (q_var 1) (by rfl) T.n_range) sc_l_hills_log.nd (blkOk_by (N := N_l_hills_log) (sc := defScope s_l_hills_log) (by decide +kernel)) (fun _ _ _ _ _ => (qg_name 6 sc_l_hills_log.nd)) (fun _ _ _ _ _ => (q_tup (q_cons (q_op mulQ (q_callTy intQ (by rfl) T.n_int (by decide +kernel) (q_cons (q_cmp (inQ hr) (q_var 6) (q_var 4)) q_nil)) (q_var 5)) (q_cons (q_op mulQ (q_callTy intQ (by rfl) T.n_int (by decide +kernel) (q_cons (q_cmp (inQ hr) (q_var 6) (q_var 3)) q_nil)) (q_ix (q_var 0) q_int)) q_nil))))) q_nil))))))
theorem b_l_times (T : Txt P K mg cl sp_ a d) : Binds K (d 38) ["_law_times_so", "_law_log_so"] [] := T.F_l_times.binds (ps := ["_law_times_so", "_law_log_so"]) fun _ _ _ _ _ _ us hl => match us, hl with | [_, _], _ => rfl
theorem ok_l_times (T : Txt P K mg cl sp_ a d) : FnOk P w K mg base CX0 1 (a 38) (d 38) ["_law_times_so", "_law_log_so"] (spM ⟨K, cl⟩ f_l_times) :=
  fn_ok 3 2 (k := 0) T.F_l_times sc_l_times fun cdv A outer s H E hr =>
      (qss_one (qs_ret (q_callTy tupleQ (by rfl) T.n_tuple (by decide +kernel) (q_cons (q_lc [("_law_minute", 2)] (qi_items (q_var 1)) sc_l_times.nd (blkOk_by (N := N_l_times) (sc := defScope s_l_times) (by decide +kernel)) (fun _ _ _ _ _ => (qg_name 2 sc_l_times.nd)) (fun _ _ _ _ _ => (q_tup (q_cons (q_op mulQ (q_var 0) (q_ix (q_var 2) q_int)) (q_cons (q_op mulQ (q_var 0) (q_ix (q_var 2) q_int)) q_nil))))) q_nil))))
theorem b_l_number (T : Txt P K mg cl sp_ a d) : Binds K (d 39) ["_law_box_here"] [] := T.F_l_number.binds (ps := ["_law_box_here"]) fun _ _ _ _ _ _ us hl => match us, hl with | [_], _ => rfl
theorem ok_l_number (T : Txt P K mg cl sp_ a d) : FnOk P w K mg base CX0 2 (a 39) (d 39) ["_law_box_here"] (spM ⟨K, cl⟩ f_l_number) :=
  fn_ok 2 1 (k := 1) T.F_l_number sc_l_number fun cdv A outer s H E hr =>
      (qss_cons (qs_set 1 (q_call (ok_l_take T) (hr.mono (by omega)) (by rfl) T.g_l_take T.F_l_take.kp (b_l_take T) (q_cons (q_var 0) (q_cons q_int q_nil)) sp_call) sc_l_number.nd)
      (qss_cons (qs_if (q_tcmp ltI (q_var 1) q_int) (qss_one (qs_ret q_int)) qss_nil)
      (qss_cons (qs_if (q_tcmp ltI (q_var 1) q_int) (qss_one (qs_ret (q_op addQ q_int (q_call (ok_l_take T) (hr.mono (by omega)) (by rfl) T.g_l_take T.F_l_take.kp (b_l_take T) (q_cons (q_var 0) (q_cons q_int q_nil)) sp_call)))) qss_nil)
      (qss_one (qs_ret (q_ifE (q_tcmp (eqQ hr) (q_var 1) q_int) (q_call (ok_l_take T) (hr.mono (by omega)) (by rfl) T.g_l_take T.F_l_take.kp (b_l_take T) (q_cons (q_var 0) (q_cons q_int q_nil)) sp_call) (q_call (ok_l_take T) (hr.mono (by omega)) (by rfl) T.g_l_take T.F_l_take.kp (b_l_take T) (q_cons (q_var 0) (q_cons (q_op powI q_int q_int) q_nil)) sp_call)))))))
theorem b_l_quiet_log (T : Txt P K mg cl sp_ a d) : Binds K (d 40) ["_law_box_here", "_law_book_so"] [] := T.F_l_quiet_log.binds (ps := ["_law_box_here", "_law_book_so"]) fun _ _ _ _ _ _ us hl => match us, hl with | [_, _], _ => rfl
theorem ok_l_quiet_log (T : Txt P K mg cl sp_ a d) : FnOk P w K mg base CX0 3 (a 40) (d 40) ["_law_box_here", "_law_book_so"] (spM ⟨K, cl⟩ f_l_quiet_log) :=
  fn_ok 13 2 (k := 2) T.F_l_quiet_log sc_l_quiet_log fun cdv A outer s H E hr =>
      (qss_cons (qs_asg (q_var 1) (qg_tup 3 (qgs_cons (qg_name 2 sc_l_quiet_log.nd) (qgs_cons (qg_name 3 sc_l_quiet_log.nd) (qgs_cons (qg_name 4 sc_l_quiet_log.nd) qgs_nil)))))
      (qss_cons (qs_set 5 (q_callTy tupleQ (by rfl) T.n_tuple (by decide +kernel) (q_cons (q_op mulQ (q_lst (q_cons (q_tup (q_cons q_int (q_cons q_int q_nil))) q_nil)) (q_var 2)) q_nil)) sc_l_quiet_log.nd)
      (qss_cons (qs_for (qi_range1 (q_op addQ q_int (q_call (ok_l_take T) (hr.mono (by omega)) (by rfl) T.g_l_take T.F_l_take.kp (b_l_take T) (q_cons (q_var 0) (q_cons q_int q_nil)) sp_call)) (by rfl) T.n_range) (qg_name 6 sc_l_quiet_log.nd) (qss_cons (qs_setLc 7 [("_law_m", 10)] false (qi_range1 (q_op addQ (q_var 2) q_int) (by rfl) T.n_range) sc_l_quiet_log.nd (blkOk_by (N := N_l_quiet_log) (sc := defScope s_l_quiet_log) (by decide +kernel)) (fun _ _ _ _ _ => (qg_name 10 sc_l_quiet_log.nd)) (fun _ _ _ _ _ => (ts_one (q_tcmp (eqQ hr) (q_call (ok_l_take T) (hr.mono (by omega)) (by rfl) T.g_l_take T.F_l_take.kp (b_l_take T) (q_cons (q_var 0) (q_cons q_int q_nil)) sp_call) q_int))) (fun _ _ _ _ _ => (q_var 10)))
      (qss_cons (qs_set 8 (q_call (ok_l_hills_log T) (hr.mono (by omega)) (by rfl) T.g_l_hills_log T.F_l_hills_log.kp (b_l_hills_log T) (q_cons (q_var 3) (q_cons (q_var 2) (q_cons (q_call (ok_l_closed T) (hr.mono (by omega)) (by rfl) T.g_l_closed T.F_l_closed.kp (b_l_closed T) (q_cons (q_var 4) (q_cons (q_var 7) q_nil)) sp_pure) q_nil))) sp_pure) sc_l_quiet_log.nd)
      (qss_one (qs_set 5 (q_call (ok_l_added T) (hr.mono (by omega)) (by rfl) T.g_l_added T.F_l_added.kp (b_l_added T) (q_cons (q_var 5) (q_cons (q_call (ok_l_times T) (hr.mono (by omega)) (by rfl) T.g_l_times T.F_l_times.kp (b_l_times T) (q_cons (q_call (ok_l_number T) (hr.mono (by omega)) (by rfl) T.g_l_number T.F_l_number.kp (b_l_number T) (q_cons (q_var 0) q_nil) sp_call) (q_cons (q_var 8) q_nil)) sp_pure) q_nil)) sp_pure) sc_l_quiet_log.nd)))))
      (qss_cons (qs_set 9 (q_cell q_nil) sc_l_quiet_log.nd)
      (qss_cons (qs_for (qi_range1 (q_var 2) (by rfl) T.n_range) (qg_name 10 sc_l_quiet_log.nd) (qss_cons (qs_set 11 (q_call (ok_l_of T) (hr.mono (by omega)) (by rfl) T.g_l_of T.F_l_of.kp (b_l_of T) (q_cons (q_var 0) (q_cons (q_lst (q_cons q_int (q_cons q_int (q_cons q_int (q_cons (q_call (ok_l_number T) (hr.mono (by omega)) (by rfl) T.g_l_number T.F_l_number.kp (b_l_number T) (q_cons (q_var 0) q_nil) sp_call) q_nil))))) q_nil)) sp_call) sc_l_quiet_log.nd)
      (qss_cons (qs_set 12 (q_call (ok_l_of T) (hr.mono (by omega)) (by rfl) T.g_l_of T.F_l_of.kp (b_l_of T) (q_cons (q_var 0) (q_cons (q_lst (q_cons q_int (q_cons q_int (q_cons q_int (q_cons (q_call (ok_l_number T) (hr.mono (by omega)) (by rfl) T.g_l_number T.F_l_number.kp (b_l_number T) (q_cons (q_var 0) q_nil) sp_call) q_nil))))) q_nil)) sp_call) sc_l_quiet_log.nd)
      (qss_one (qs_expr (q_app (q_var 9) (q_tup (q_cons (q_op addQ (q_op mulQ (q_var 11) (q_op subI (q_ix (q_var 3) q_int) (q_ix (q_var 3) q_int))) (q_var 12)) (q_cons (q_op mulQ (q_var 11) (q_ix (q_var 3) q_int)) q_nil)))))))))
      (qss_one (qs_ret (q_call (ok_l_added T) (hr.mono (by omega)) (by rfl) T.g_l_added T.F_l_added.kp (b_l_added T) (q_cons (q_var 5) (q_cons (q_callTy tupleQ (by rfl) T.n_tuple (by decide +kernel) (q_cons (q_var 9) q_nil)) q_nil)) sp_pure))))))))
theorem b_l_above (T : Txt P K mg cl sp_ a d) : Binds K (d 41) ["_law_limit_so", "_law_minute"] [] := T.F_l_above.binds (ps := ["_law_limit_so", "_law_minute"]) fun _ _ _ _ _ _ us hl => match us, hl with | [_, _], _ => rfl
theorem ok_l_above (T : Txt P K mg cl sp_ a d) : FnOk P w K mg base CX0 1 (a 41) (d 41) ["_law_limit_so", "_law_minute"] (spM ⟨K, cl⟩ f_l_above) :=
  fn_ok 2 2 (k := 0) T.F_l_above sc_l_above fun cdv A outer s H E hr =>
      (qss_one (qs_ret (q_cmp gtI (q_op mulQ (q_ix (q_var 0) q_int) (q_ix (q_var 1) q_int)) (q_op mulQ (q_ix (q_var 0) q_int) (q_op addQ (q_ix (q_var 1) q_int) (q_ix (q_var 1) q_int))))))
theorem b_l_calls (T : Txt P K mg cl sp_ a d) : Binds K (d 42) ["_law_log_so", "_law_span"] [] := T.F_l_calls.binds (ps := ["_law_log_so", "_law_span"]) fun _ _ _ _ _ _ us hl => match us, hl with | [_, _], _ => rfl
theorem ok_l_calls (T : Txt P K mg cl sp_ a d) : FnOk P w K mg base CX0 1 (a 42) (d 42) ["_law_log_so", "_law_span"] (spM ⟨K, cl⟩ f_l_calls) :=
  fn_ok 4 2 (k := 0) T.F_l_calls sc_l_calls fun cdv A outer s H E hr =>
      (qss_cons (qs_set 2 (q_sl (q_var 0) (q_soO (q_ix (q_var 1) q_int)) (q_soO (q_ix (q_var 1) q_int))) sc_l_calls.nd)
      (qss_one (qs_ret (q_tup (q_cons (q_callB sumQ (by rfl) T.n_sum (by decide +kernel) (q_cons (q_lc [("_law_minute", 3)] (qi_items (q_var 2)) sc_l_calls.nd (blkOk_by (N := N_l_calls) (sc := defScope s_l_calls) (by decide +kernel)) (fun _ _ _ _ _ => (qg_name 3 sc_l_calls.nd)) (fun _ _ _ _ _ => (q_ix (q_var 3) q_int))) q_nil)) (q_cons (q_callB sumQ (by rfl) T.n_sum (by decide +kernel) (q_cons (q_lc [("_law_minute", 3)] (qi_items (q_var 2)) sc_l_calls.nd (blkOk_by (N := N_l_calls) (sc := defScope s_l_calls) (by decide +kernel)) (fun _ _ _ _ _ => (qg_name 3 sc_l_calls.nd)) (fun _ _ _ _ _ => (q_ix (q_var 3) q_int))) q_nil)) q_nil))))))
theorem b_l_is_quiet (T : Txt P K mg cl sp_ a d) : Binds K (d 43) ["_law_book_so", "_law_log_so"] [] := T.F_l_is_quiet.binds (ps := ["_law_book_so", "_law_log_so"]) fun _ _ _ _ _ _ us hl => match us, hl with | [_, _], _ => rfl
theorem ok_l_is_quiet (T : Txt P K mg cl sp_ a d) : FnOk P w K mg base CX0 2 (a 43) (d 43) ["_law_book_so", "_law_log_so"] (spM ⟨K, cl⟩ f_l_is_quiet) :=
  fn_ok 3 2 (k := 1) T.F_l_is_quiet sc_l_is_quiet fun cdv A outer s H E hr =>
      (qss_one (qs_ret (q_notV (q_callB anyQ (by rfl) T.n_any (by decide +kernel) (q_cons (q_lc [("_law_look", 2)] (qi_items (q_ix (q_var 0) q_int)) sc_l_is_quiet.nd (blkOk_by (N := N_l_is_quiet) (sc := defScope s_l_is_quiet) (by decide +kernel)) (fun _ _ _ _ _ => (qg_name 2 sc_l_is_quiet.nd)) (fun _ _ _ _ _ => (q_call (ok_l_above T) (hr.mono (by omega)) (by rfl) T.g_l_above T.F_l_above.kp (b_l_above T) (q_cons (q_ix (q_var 0) q_int) (q_cons (q_call (ok_l_calls T) (hr.mono (by omega)) (by rfl) T.g_l_calls T.F_l_calls.kp (b_l_calls T) (q_cons (q_var 1) (q_cons (q_var 2) q_nil)) sp_pure) q_nil)) sp_pure))) q_nil)))))
theorem b_p_is_above (T : Txt P K mg cl sp_ a d) : Binds K (d 44) ["limit", "minute"] [] := T.F_p_is_above.binds (ps := ["limit", "minute"]) fun _ _ _ _ _ _ us hl => match us, hl with | [_, _], _ => rfl
theorem ok_p_is_above (T : Txt P K mg cl sp_ a d) : FnOk P w K mg base CX0 1 (a 44) (d 44) ["limit", "minute"] (spM ⟨K, cl⟩ f_p_is_above) :=
  fn_ok 4 2 (k := 0) T.F_p_is_above sc_p_is_above fun cdv A outer s H E hr =>
      (qss_cons (qs_asg (q_var 1) (qg_tup 2 (qgs_cons (qg_name 2 sc_p_is_above.nd) (qgs_cons (qg_name 3 sc_p_is_above.nd) qgs_nil))))
      (qss_one (qs_ret (q_cmp gtI (q_op mulQ (q_ix (q_var 0) q_int) (q_var 3)) (q_op mulQ (q_ix (q_var 0) q_int) (q_op addQ (q_var 2) (q_var 3)))))))
theorem b_p_calls (T : Txt P K mg cl sp_ a d) : Binds K (d 45) ["log", "stretch"] [] := T.F_p_calls.binds (ps := ["log", "stretch"]) fun _ _ _ _ _ _ us hl => match us, hl with | [_, _], _ => rfl
theorem ok_p_calls (T : Txt P K mg cl sp_ a d) : FnOk P w K mg base CX0 1 (a 45) (d 45) ["log", "stretch"] (spM ⟨K, cl⟩ f_p_calls) :=
  fn_ok 7 2 (k := 0) T.F_p_calls sc_p_calls fun cdv A outer s H E hr =>
      (qss_cons (qs_asg (q_var 1) (qg_tup 2 (qgs_cons (qg_name 2 sc_p_calls.nd) (qgs_cons (qg_name 3 sc_p_calls.nd) qgs_nil))))
      (qss_cons (qs_set 4 (q_sl (q_var 0) (q_soO (q_var 2)) (q_soO (q_var 3))) sc_p_calls.nd)
      (qss_one (qs_ret (q_tup (q_cons (q_callB sumQ (by rfl) T.n_sum (by decide +kernel) (q_cons (q_lc [("good", 5), ("failed", 6)] (qi_items (q_var 4)) sc_p_calls.nd (blkOk_by (N := N_p_calls) (sc := defScope s_p_calls) (by decide +kernel)) (fun _ _ _ _ _ => (qg_tup 2 (qgs_cons (qg_name 5 sc_p_calls.nd) (qgs_cons (qg_name 6 sc_p_calls.nd) qgs_nil)))) (fun _ _ _ _ _ => (q_var 5))) q_nil)) (q_cons (q_callB sumQ (by rfl) T.n_sum (by decide +kernel) (q_cons (q_lc [("good", 5), ("failed", 6)] (qi_items (q_var 4)) sc_p_calls.nd (blkOk_by (N := N_p_calls) (sc := defScope s_p_calls) (by decide +kernel)) (fun _ _ _ _ _ => (qg_tup 2 (qgs_cons (qg_name 5 sc_p_calls.nd) (qgs_cons (qg_name 6 sc_p_calls.nd) qgs_nil)))) (fun _ _ _ _ _ => (q_var 6))) q_nil)) q_nil)))))))
theorem b_p_loud (T : Txt P K mg cl sp_ a d) : Binds K (d 46) ["book", "log"] [] := T.F_p_loud.binds (ps := ["book", "log"]) fun _ _ _ _ _ _ us hl => match us, hl with | [_, _], _ => rfl
theorem ok_p_loud (T : Txt P K mg cl sp_ a d) : FnOk P w K mg base CX0 32 (a 46) (d 46) ["book", "log"] (spM ⟨K, cl⟩ f_p_loud) :=
  fn_ok 7 2 (k := 31) T.F_p_loud sc_p_loud fun cdv A outer s H E hr =>
      (qss_cons (qs_asg (q_call (ok_p_tupled T 30) (hr.mono (by omega)) (by rfl) T.g_p_tupled T.F_p_tupled.kp (b_p_tupled T) (q_cons (q_var 0) q_nil) sp_pure) (qg_tup 3 (qgs_cons (qg_name 2 sc_p_loud.nd) (qgs_cons (qg_name 3 sc_p_loud.nd) (qgs_cons (qg_name 4 sc_p_loud.nd) qgs_nil)))))
      (qss_cons (qs_set 5 (q_call (ok_p_tupled T 30) (hr.mono (by omega)) (by rfl) T.g_p_tupled T.F_p_tupled.kp (b_p_tupled T) (q_cons (q_var 1) q_nil) sp_pure) sc_p_loud.nd)
      (qss_one (qs_ret (q_lcIf [("look", 6)] (qi_items (q_var 4)) sc_p_loud.nd (blkOk_by (N := N_p_loud) (sc := defScope s_p_loud) (by decide +kernel)) (fun _ _ _ _ _ => (qg_name 6 sc_p_loud.nd)) (fun _ _ _ _ _ => (q_test (q_call (ok_p_is_above T) (hr.mono (by omega)) (by rfl) T.g_p_is_above T.F_p_is_above.kp (b_p_is_above T) (q_cons (q_var 3) (q_cons (q_call (ok_p_calls T) (hr.mono (by omega)) (by rfl) T.g_p_calls T.F_p_calls.kp (b_p_calls T) (q_cons (q_var 5) (q_cons (q_var 6) q_nil)) sp_pure) q_nil)) sp_pure))) (fun _ _ _ _ _ => (q_var 6)))))))
theorem b_p_is_quiet (T : Txt P K mg cl sp_ a d) : Binds K (d 47) ["book", "log"] [] := T.F_p_is_quiet.binds (ps := ["book", "log"]) fun _ _ _ _ _ _ us hl => match us, hl with | [_, _], _ => rfl
theorem ok_p_is_quiet (T : Txt P K mg cl sp_ a d) : FnOk P w K mg base CX0 33 (a 47) (d 47) ["book", "log"] (spM ⟨K, cl⟩ f_p_is_quiet) :=
  fn_ok 2 2 (k := 32) T.F_p_is_quiet sc_p_is_quiet fun cdv A outer s H E hr =>
      (qss_one (qs_ret (q_cmp (eqQ hr) (q_callB lenQ (by rfl) T.n_len (by decide +kernel) (q_cons (q_call (ok_p_loud T) (hr.mono (by omega)) (by rfl) T.g_p_loud T.F_p_loud.kp (b_p_loud T) (q_cons (q_var 0) (q_cons (q_var 1) q_nil)) sp_pure) q_nil)) q_int)))
theorem b_l_right (T : Txt P K mg cl sp_ a d) : Binds K (d 48) ["_law_box_here"] [] := T.F_l_right.binds (ps := ["_law_box_here"]) fun _ _ _ _ _ _ us hl => match us, hl with | [_], _ => rfl
theorem ok_l_right (T : Txt P K mg cl sp_ a d) : FnOk P w K mg base CX0 34 (a 48) (d 48) ["_law_box_here"] (spM ⟨K, cl⟩ f_l_right) :=
  fn_ok 10 1 (k := 33) T.F_l_right sc_l_right fun cdv A outer s H E hr =>
      (qss_cons (qs_set 1 (q_ifE (q_tcmp (eqQ hr) (q_call (ok_l_take T) (hr.mono (by omega)) (by rfl) T.g_l_take T.F_l_take.kp (b_l_take T) (q_cons (q_var 0) (q_cons q_int q_nil)) sp_call) q_int) (q_call (ok_l_book T) (hr.mono (by omega)) (by rfl) T.g_l_book T.F_l_book.kp (b_l_book T) (q_cons (q_var 0) (q_cons q_int (q_cons q_int q_nil))) sp_call) (q_call (ok_l_net T) (hr.mono (by omega)) (by rfl) T.g_l_net T.F_l_net.kp (b_l_net T) (q_cons (q_var 0) (q_cons q_int (q_cons q_int q_nil))) sp_call)) sc_l_right.nd)
      (qss_cons (qs_asg (q_tup (q_cons (q_call (ok_l_least T) (hr.mono (by omega)) (by rfl) T.g_l_least T.F_l_least.kp (b_l_least T) (q_cons (q_var 1) q_nil) sp_pure) (q_cons (q_call (ok_l_lists T 30) (hr.mono (by omega)) (by rfl) T.g_l_lists T.F_l_lists.kp (b_l_lists T) (q_cons (q_var 1) q_nil) sp_pure) q_nil))) (qg_tup 2 (qgs_cons (qg_name 2 sc_l_right.nd) (qgs_cons (qg_name 3 sc_l_right.nd) qgs_nil))))
      (qss_cons (qs_if (q_w (q_or (q_not (q_test (q_call (ok_l_same T 30) (hr.mono (by omega)) (by rfl) T.g_l_same T.F_l_same.kp (b_l_same T) (q_cons (q_lst (q_cons (q_call (ok_p_least T) (hr.mono (by omega)) (by rfl) T.g_p_least T.F_p_least.kp (b_p_least T) (q_cons (q_var 1) q_nil) sp_pure) (q_cons (q_callK0 (ok_p_least T) (hr.mono (by omega)) (by rfl) T.g_p_least T.F_p_least.kp (kbn T.F_p_least 0 [0] (ks := ["book"]) (ps := ["book"]) fun _ _ _ _ _ _ us ws h1 h2 => match us, ws, h1, h2 with | [], [_], _, _ => rfl) (qk_cons (q_var 3) qk_nil) sp_pure) (q_cons (q_call (ok_p_least T) (hr.mono (by omega)) (by rfl) T.g_p_least T.F_p_least.kp (b_p_least T) (q_cons (q_var 2) q_nil) sp_pure) q_nil)))) (q_cons (q_op mulQ (q_lst (q_cons (q_var 2) q_nil)) q_int) q_nil)) sp_pure))) (q_or1 (q_tcmp (neQ hr) (q_var 3) (q_call (ok_l_lists T 30) (hr.mono (by omega)) (by rfl) T.g_l_lists T.F_l_lists.kp (b_l_lists T) (q_cons (q_var 1) q_nil) sp_pure))))) (qss_one (qs_ret q_bl)) qss_nil)
      (qss_cons (qs_set 4 (q_call (ok_l_with T) (hr.mono (by omega)) (by rfl) T.g_l_with T.F_l_with.kp (b_l_with T) (q_cons (q_var 1) (q_cons (q_call (ok_l_pick T) (hr.mono (by omega)) (by rfl) T.g_l_pick T.F_l_pick.kp (b_l_pick T) (q_cons (q_var 0) (q_cons (q_call (ok_p_sure T) (hr.mono (by omega)) (by rfl) T.g_p_sure T.F_p_sure.kp (b_p_sure T) (q_cons (q_var 1) q_nil) sp_pure) (q_cons q_int q_nil))) sp_call) q_nil)) sp_pure) sc_l_right.nd)
      (qss_cons (qs_set 5 (q_call (ok_l_without T) (hr.mono (by omega)) (by rfl) T.g_l_without T.F_l_without.kp (b_l_without T) (q_cons (q_var 1) (q_cons (q_lcIf [("_law_own", 9)] (qi_items (q_ix (q_var 1) q_int)) sc_l_right.nd (blkOk_by (N := N_l_right) (sc := defScope s_l_right) (by decide +kernel)) (fun _ _ _ _ _ => (qg_name 9 sc_l_right.nd)) (fun _ _ _ _ _ => (q_w (q_and (q_tcmp (ninQ hr) (q_var 9) (q_ix (q_var 2) q_int)) (q_and1 (q_tcmp (eqQ hr) (q_call (ok_l_take T) (hr.mono (by omega)) (by rfl) T.g_l_take T.F_l_take.kp (b_l_take T) (q_cons (q_var 0) (q_cons q_int q_nil)) sp_call) q_int))))) (fun _ _ _ _ _ => (q_var 9))) q_nil)) sp_pure) sc_l_right.nd)
      (qss_cons (qs_if (q_not (q_test (q_call (ok_l_same T 30) (hr.mono (by omega)) (by rfl) T.g_l_same T.F_l_same.kp (b_l_same T) (q_cons (q_lst (q_cons (q_call (ok_p_least T) (hr.mono (by omega)) (by rfl) T.g_p_least T.F_p_least.kp (b_p_least T) (q_cons (q_var 4) q_nil) sp_pure) (q_cons (q_call (ok_p_least T) (hr.mono (by omega)) (by rfl) T.g_p_least T.F_p_least.kp (b_p_least T) (q_cons (q_var 5) q_nil) sp_pure) q_nil))) (q_cons (q_lst (q_cons (q_var 2) (q_cons (q_var 2) q_nil))) q_nil)) sp_pure))) (qss_one (qs_ret q_bl)) qss_nil)
      (qss_cons (qs_for (qi_range1 q_int (by rfl) T.n_range) (qg_name 6 sc_l_right.nd) (qss_cons (qs_par 7 8 sc_l_right.nd (q_cons (q_call (ok_l_quiet_log T) (hr.mono (by omega)) (by rfl) T.g_l_quiet_log T.F_l_quiet_log.kp (b_l_quiet_log T) (q_cons (q_var 0) (q_cons (q_var 2) q_nil)) sp_call) (q_cons (q_call (ok_l_quiet_log T) (hr.mono (by omega)) (by rfl) T.g_l_quiet_log T.F_l_quiet_log.kp (b_l_quiet_log T) (q_cons (q_var 0) (q_cons (q_var 4) q_nil)) sp_call) q_nil)))
      (qss_one (qs_if (q_w (q_or (q_not (q_test (q_call (ok_l_is_quiet T) (hr.mono (by omega)) (by rfl) T.g_l_is_quiet T.F_l_is_quiet.kp (b_l_is_quiet T) (q_cons (q_var 1) (q_cons (q_var 7) q_nil)) sp_pure))) (q_or (q_not (q_test (q_call (ok_p_is_quiet T) (hr.mono (by omega)) (by rfl) T.g_p_is_quiet T.F_p_is_quiet.kp (b_p_is_quiet T) (q_cons (q_var 4) (q_cons (q_var 7) q_nil)) sp_pure))) (q_or1 (q_not (q_test (q_call (ok_p_is_quiet T) (hr.mono (by omega)) (by rfl) T.g_p_is_quiet T.F_p_is_quiet.kp (b_p_is_quiet T) (q_cons (q_var 2) (q_cons (q_var 8) q_nil)) sp_pure))))))) (qss_one (qs_ret q_bl)) qss_nil))))
      (qss_one (qs_ret q_bl)))))))))
theorem ok_l_law (T : Txt P K mg cl sp_ a d) : FnOk P w K mg base CX0 36 (a 49) (d 49) ["_law_script"] (spM ⟨K, cl⟩ f_l_law) :=
  fn_ok 5 1 (k := 35) T.F_l_law sc_l_law fun cdv A outer s H E hr =>
      (qss_cons (qs_set 1 (q_call (ok_l_cells T) (hr.mono (by omega)) (by rfl) T.g_l_cells T.F_l_cells.kp (b_l_cells T) (q_cons (q_var 0) (q_cons q_int q_nil)) sp_pure) sc_l_law.nd)
      (qss_cons (qs_for (qi_range1 (q_callB lenQ (by rfl) T.n_len (by decide +kernel) (q_cons (q_var 1) q_nil)) (by rfl) T.n_range) (qg_name 2 sc_l_law.nd) (qss_cons (qs_set 3 (q_call (ok_l_box T) (hr.mono (by omega)) (by rfl) T.g_l_box T.F_l_box.kp (b_l_box T) (q_cons (q_var 1) (q_cons (q_var 2) q_nil)) sp_call) sc_l_law.nd)
      (qss_one (qs_if (q_w (q_or (q_not (q_test (q_call0 (ok_l_by_hand_right T) (hr.mono (by omega)) (by rfl) T.g_l_by_hand_right T.F_l_by_hand_right.kp (b_l_by_hand_right T) sp_pure))) (q_or (q_not (q_test (q_callB allQ (by rfl) T.n_all (by decide +kernel) (q_cons (q_lc [("_law_turn", 4)] (qi_range1 q_int (by rfl) T.n_range) sc_l_law.nd (blkOk_by (N := N_l_law) (sc := defScope s_l_law) (by decide +kernel)) (fun _ _ _ _ _ => (qg_name 4 sc_l_law.nd)) (fun _ _ _ _ _ => (q_call (ok_l_right T) (hr.mono (by omega)) (by rfl) T.g_l_right T.F_l_right.kp (b_l_right T) (q_cons (q_var 3) q_nil) sp_call))) q_nil)))) (q_or1 (q_not (q_test (q_call (ok_l_again_right T) (hr.mono (by omega)) (by rfl) T.g_l_again_right T.F_l_again_right.kp (b_l_again_right T) (q_cons (q_var 3) q_nil) sp_call))))))) (qss_one (qs_ret q_bl)) qss_nil))))
      (qss_one (qs_ret q_bl))))
end
theorem factsR {P : Program} {w : World} {K : PySem.W.Frag} {h : Heap} {mg : Str → Option Value} {f : Addr} (X : K.In h) (G : h.Ns PySem.mainGlobals mg) (hfa : mg ("law" : Str) = some (.ref f)) (c : SaysQ fas fns K) :
    ∃ fd : FuncData, (∀ (s : Shared) (v : Value), BindsTo s fd ⟨[v], []⟩ [("_law_script", v)]) ∧ ∀ base : Heap, K.In base → base.Ns PySem.mainGlobals mg → FnOk P w K mg base CX0 36 f fd ["_law_script"] (spLaw K) := by
  obtain ⟨fd0, F0⟩ := c.def_ 0 (d := ⟨.glo "_law_cells", "_law_cells", "_law_cells", s_l_cells⟩) rfl
  obtain ⟨fd1, F1⟩ := c.def_ 1 (d := ⟨.glo "_law_box", "_law_box", "_law_box", s_l_box⟩) rfl
  obtain ⟨fd2, F2⟩ := c.def_ 2 (d := ⟨.glo "_law_same", "_law_same", "_law_same", s_l_same⟩) rfl
  obtain ⟨fd3, F3⟩ := c.def_ 3 (d := ⟨.glo "tupled", "tupled", "tupled", s_p_tupled⟩) rfl
  obtain ⟨fd4, F4⟩ := c.def_ 4 (d := ⟨.glo "places_below", "places_below", "places_below", s_p_places_below⟩) rfl
  obtain ⟨fd5, F5⟩ := c.def_ 5 (d := ⟨.glo "least", "least", "least", s_p_least⟩) rfl
  obtain ⟨fd6, F6⟩ := c.def_ 6 (d := ⟨.glo "_law_by_hand_right", "_law_by_hand_right", "_law_by_hand_right", s_l_by_hand_right⟩) rfl
  obtain ⟨fd7, F7⟩ := c.def_ 7 (d := ⟨.glo "_law_take", "_law_take", "_law_take", s_l_take⟩) rfl
  obtain ⟨fd8, F8⟩ := c.def_ 8 (d := ⟨.glo "sure", "sure", "sure", s_p_sure⟩) rfl
  obtain ⟨fd9, F9⟩ := c.def_ 9 (d := ⟨.glo "reached", "reached", "reached", s_p_reached⟩) rfl
  obtain ⟨fd10, F10⟩ := c.def_ 10 (d := ⟨.glo "tiling", "tiling", "tiling", s_p_tiling⟩) rfl
  obtain ⟨fd11, F11⟩ := c.def_ 11 (d := ⟨.glo "agree", "agree", "agree", s_p_agree⟩) rfl
  obtain ⟨fd12, F12⟩ := c.def_ 12 (d := ⟨.glo "rises", "rises", "rises", s_p_rises⟩) rfl
  obtain ⟨fd13, F13⟩ := c.def_ 13 (d := ⟨.glo "falls", "falls", "falls", s_p_falls⟩) rfl
  obtain ⟨fd14, F14⟩ := c.def_ 14 (d := ⟨.glo "log_of", "log_of", "log_of", s_p_log_of⟩) rfl
  obtain ⟨fd15, F15⟩ := c.def_ 15 (d := ⟨.glo "parted_by_look", "parted_by_look", "parted_by_look", s_p_parted_by_look⟩) rfl
  obtain ⟨fd16, F16⟩ := c.def_ 16 (d := ⟨.glo "parted_by_limit", "parted_by_limit", "parted_by_limit", s_p_parted_by_limit⟩) rfl
  obtain ⟨fd17, F17⟩ := c.def_ 17 (d := ⟨.glo "parting", "parting", "parting", s_p_parting⟩) rfl
  obtain ⟨fd18, F18⟩ := c.def_ 18 (d := ⟨.glo "alike", "alike", "alike", s_p_alike⟩) rfl
  obtain ⟨fd19, F19⟩ := c.def_ 19 (d := ⟨.glo "_law_told", "_law_told", "_law_told", s_l_told⟩) rfl
  obtain ⟨fd20, F20⟩ := c.def_ 20 (d := ⟨.glo "_law_lists", "_law_lists", "_law_lists", s_l_lists⟩) rfl
  obtain ⟨fd21, F21⟩ := c.def_ 21 (d := ⟨.glo "_law_filled", "_law_filled", "_law_filled", s_l_filled⟩) rfl
  obtain ⟨fd22, F22⟩ := c.def_ 22 (d := ⟨.glo "_law_of", "_law_of", "_law_of", s_l_of⟩) rfl
  obtain ⟨fd23, F23⟩ := c.def_ 23 (d := ⟨.glo "_law_limit", "_law_limit", "_law_limit", s_l_limit⟩) rfl
  obtain ⟨fd24, F24⟩ := c.def_ 24 (d := ⟨.glo "_law_looks", "_law_looks", "_law_looks", s_l_looks⟩) rfl
  obtain ⟨fd25, F25⟩ := c.def_ 25 (d := ⟨.glo "_law_again_right", "_law_again_right", "_law_again_right", s_l_again_right⟩) rfl
  obtain ⟨fd26, F26⟩ := c.def_ 26 (d := ⟨.glo "_law_with", "_law_with", "_law_with", s_l_with⟩) rfl
  obtain ⟨fd27, F27⟩ := c.def_ 27 (d := ⟨.glo "_law_without", "_law_without", "_law_without", s_l_without⟩) rfl
  obtain ⟨fd28, F28⟩ := c.def_ 28 (d := ⟨.glo "_law_book", "_law_book", "_law_book", s_l_book⟩) rfl
  obtain ⟨fd29, F29⟩ := c.def_ 29 (d := ⟨.glo "_law_pick", "_law_pick", "_law_pick", s_l_pick⟩) rfl
  obtain ⟨fd30, F30⟩ := c.def_ 30 (d := ⟨.glo "_law_net", "_law_net", "_law_net", s_l_net⟩) rfl
  obtain ⟨fd31, F31⟩ := c.def_ 31 (d := ⟨.glo "_law_closed", "_law_closed", "_law_closed", s_l_closed⟩) rfl
  obtain ⟨fd32, F32⟩ := c.def_ 32 (d := ⟨.glo "_law_tiled", "_law_tiled", "_law_tiled", s_l_tiled⟩) rfl
  obtain ⟨fd33, F33⟩ := c.def_ 33 (d := ⟨.glo "_law_least", "_law_least", "_law_least", s_l_least⟩) rfl
  obtain ⟨fd34, F34⟩ := c.def_ 34 (d := ⟨.glo "_law_added", "_law_added", "_law_added", s_l_added⟩) rfl
  obtain ⟨fd35, F35⟩ := c.def_ 35 (d := ⟨.glo "_law_rises", "_law_rises", "_law_rises", s_l_rises⟩) rfl
  obtain ⟨fd36, F36⟩ := c.def_ 36 (d := ⟨.glo "_law_falls", "_law_falls", "_law_falls", s_l_falls⟩) rfl
  obtain ⟨fd37, F37⟩ := c.def_ 37 (d := ⟨.glo "_law_hills_log", "_law_hills_log", "_law_hills_log", s_l_hills_log⟩) rfl
  obtain ⟨fd38, F38⟩ := c.def_ 38 (d := ⟨.glo "_law_times", "_law_times", "_law_times", s_l_times⟩) rfl
  obtain ⟨fd39, F39⟩ := c.def_ 39 (d := ⟨.glo "_law_number", "_law_number", "_law_number", s_l_number⟩) rfl
  obtain ⟨fd40, F40⟩ := c.def_ 40 (d := ⟨.glo "_law_quiet_log", "_law_quiet_log", "_law_quiet_log", s_l_quiet_log⟩) rfl
  obtain ⟨fd41, F41⟩ := c.def_ 41 (d := ⟨.glo "_law_above", "_law_above", "_law_above", s_l_above⟩) rfl
  obtain ⟨fd42, F42⟩ := c.def_ 42 (d := ⟨.glo "_law_calls", "_law_calls", "_law_calls", s_l_calls⟩) rfl
  obtain ⟨fd43, F43⟩ := c.def_ 43 (d := ⟨.glo "_law_is_quiet", "_law_is_quiet", "_law_is_quiet", s_l_is_quiet⟩) rfl
  obtain ⟨fd44, F44⟩ := c.def_ 44 (d := ⟨.glo "is_above", "is_above", "is_above", s_p_is_above⟩) rfl
  obtain ⟨fd45, F45⟩ := c.def_ 45 (d := ⟨.glo "calls", "calls", "calls", s_p_calls⟩) rfl
  obtain ⟨fd46, F46⟩ := c.def_ 46 (d := ⟨.glo "loud", "loud", "loud", s_p_loud⟩) rfl
  obtain ⟨fd47, F47⟩ := c.def_ 47 (d := ⟨.glo "is_quiet", "is_quiet", "is_quiet", s_p_is_quiet⟩) rfl
  obtain ⟨fd48, F48⟩ := c.def_ 48 (d := ⟨.glo "_law_right", "_law_right", "_law_right", s_l_right⟩) rfl
  obtain ⟨fd49, F49⟩ := c.def_ 49 (d := ⟨.glo "law", "law", "law", s_l_law⟩) rfl
  have e := hfa.symm.trans (qf_glo X G (c.fact 49 (f := .glo "law") rfl))
  cases e
  let aa : Nat → Addr := fun i => match i with | 0 => Dat.ad K (.glo "_law_cells") | 1 => Dat.ad K (.glo "_law_box") | 2 => Dat.ad K (.glo "_law_same") | 3 => Dat.ad K (.glo "tupled") | 4 => Dat.ad K (.glo "places_below") | 5 => Dat.ad K (.glo "least") | 6 => Dat.ad K (.glo "_law_by_hand_right") | 7 => Dat.ad K (.glo "_law_take") | 8 => Dat.ad K (.glo "sure") | 9 => Dat.ad K (.glo "reached") | 10 => Dat.ad K (.glo "tiling") | 11 => Dat.ad K (.glo "agree") | 12 => Dat.ad K (.glo "rises") | 13 => Dat.ad K (.glo "falls") | 14 => Dat.ad K (.glo "log_of") | 15 => Dat.ad K (.glo "parted_by_look") | 16 => Dat.ad K (.glo "parted_by_limit") | 17 => Dat.ad K (.glo "parting") | 18 => Dat.ad K (.glo "alike") | 19 => Dat.ad K (.glo "_law_told") | 20 => Dat.ad K (.glo "_law_lists") | 21 => Dat.ad K (.glo "_law_filled") | 22 => Dat.ad K (.glo "_law_of") | 23 => Dat.ad K (.glo "_law_limit") | 24 => Dat.ad K (.glo "_law_looks") | 25 => Dat.ad K (.glo "_law_again_right") | 26 => Dat.ad K (.glo "_law_with") | 27 => Dat.ad K (.glo "_law_without") | 28 => Dat.ad K (.glo "_law_book") | 29 => Dat.ad K (.glo "_law_pick") | 30 => Dat.ad K (.glo "_law_net") | 31 => Dat.ad K (.glo "_law_closed") | 32 => Dat.ad K (.glo "_law_tiled") | 33 => Dat.ad K (.glo "_law_least") | 34 => Dat.ad K (.glo "_law_added") | 35 => Dat.ad K (.glo "_law_rises") | 36 => Dat.ad K (.glo "_law_falls") | 37 => Dat.ad K (.glo "_law_hills_log") | 38 => Dat.ad K (.glo "_law_times") | 39 => Dat.ad K (.glo "_law_number") | 40 => Dat.ad K (.glo "_law_quiet_log") | 41 => Dat.ad K (.glo "_law_above") | 42 => Dat.ad K (.glo "_law_calls") | 43 => Dat.ad K (.glo "_law_is_quiet") | 44 => Dat.ad K (.glo "is_above") | 45 => Dat.ad K (.glo "calls") | 46 => Dat.ad K (.glo "loud") | 47 => Dat.ad K (.glo "is_quiet") | 48 => Dat.ad K (.glo "_law_right") | 49 => Dat.ad K (.glo "law") | _ => 0
  let dd : Nat → FuncData := fun i => match i with | 0 => fd0 | 1 => fd1 | 2 => fd2 | 3 => fd3 | 4 => fd4 | 5 => fd5 | 6 => fd6 | 7 => fd7 | 8 => fd8 | 9 => fd9 | 10 => fd10 | 11 => fd11 | 12 => fd12 | 13 => fd13 | 14 => fd14 | 15 => fd15 | 16 => fd16 | 17 => fd17 | 18 => fd18 | 19 => fd19 | 20 => fd20 | 21 => fd21 | 22 => fd22 | 23 => fd23 | 24 => fd24 | 25 => fd25 | 26 => fd26 | 27 => fd27 | 28 => fd28 | 29 => fd29 | 30 => fd30 | 31 => fd31 | 32 => fd32 | 33 => fd33 | 34 => fd34 | 35 => fd35 | 36 => fd36 | 37 => fd37 | 38 => fd38 | 39 => fd39 | 40 => fd40 | 41 => fd41 | 42 => fd42 | 43 => fd43 | 44 => fd44 | 45 => fd45 | 46 => fd46 | 47 => fd47 | 48 => fd48 | 49 => fd49 | _ => fd0
  have T : Txt P K mg (clK K) (fun c f => He.ma K (clK K c) f) aa dd := {
    F_l_cells := F0
    F_l_box := F1
    F_l_same := F2
    F_p_tupled := F3
    F_p_places_below := F4
    F_p_least := F5
    F_l_by_hand_right := F6
    F_l_take := F7
    F_p_sure := F8
    F_p_reached := F9
    F_p_tiling := F10
    F_p_agree := F11
    F_p_rises := F12
    F_p_falls := F13
    F_p_log_of := F14
    F_p_parted_by_look := F15
    F_p_parted_by_limit := F16
    F_p_parting := F17
    F_p_alike := F18
    F_l_told := F19
    F_l_lists := F20
    F_l_filled := F21
    F_l_of := F22
    F_l_limit := F23
    F_l_looks := F24
    F_l_again_right := F25
    F_l_with := F26
    F_l_without := F27
    F_l_book := F28
    F_l_pick := F29
    F_l_net := F30
    F_l_closed := F31
    F_l_tiled := F32
    F_l_least := F33
    F_l_added := F34
    F_l_rises := F35
    F_l_falls := F36
    F_l_hills_log := F37
    F_l_times := F38
    F_l_number := F39
    F_l_quiet_log := F40
    F_l_above := F41
    F_l_calls := F42
    F_l_is_quiet := F43
    F_p_is_above := F44
    F_p_calls := F45
    F_p_loud := F46
    F_p_is_quiet := F47
    F_l_right := F48
    F_l_law := F49
    g_l_cells := qf_glo X G (c.fact 0 (f := .glo "_law_cells") rfl)
    g_l_box := qf_glo X G (c.fact 1 (f := .glo "_law_box") rfl)
    g_l_same := qf_glo X G (c.fact 2 (f := .glo "_law_same") rfl)
    g_p_tupled := qf_glo X G (c.fact 3 (f := .glo "tupled") rfl)
    g_p_places_below := qf_glo X G (c.fact 4 (f := .glo "places_below") rfl)
    g_p_least := qf_glo X G (c.fact 5 (f := .glo "least") rfl)
    g_l_by_hand_right := qf_glo X G (c.fact 6 (f := .glo "_law_by_hand_right") rfl)
    g_l_take := qf_glo X G (c.fact 7 (f := .glo "_law_take") rfl)
    g_p_sure := qf_glo X G (c.fact 8 (f := .glo "sure") rfl)
    g_p_reached := qf_glo X G (c.fact 9 (f := .glo "reached") rfl)
    g_p_tiling := qf_glo X G (c.fact 10 (f := .glo "tiling") rfl)
    g_p_agree := qf_glo X G (c.fact 11 (f := .glo "agree") rfl)
    g_p_rises := qf_glo X G (c.fact 12 (f := .glo "rises") rfl)
    g_p_falls := qf_glo X G (c.fact 13 (f := .glo "falls") rfl)
    g_p_log_of := qf_glo X G (c.fact 14 (f := .glo "log_of") rfl)
    g_p_parted_by_look := qf_glo X G (c.fact 15 (f := .glo "parted_by_look") rfl)
    g_p_parted_by_limit := qf_glo X G (c.fact 16 (f := .glo "parted_by_limit") rfl)
    g_p_parting := qf_glo X G (c.fact 17 (f := .glo "parting") rfl)
    g_p_alike := qf_glo X G (c.fact 18 (f := .glo "alike") rfl)
    g_l_told := qf_glo X G (c.fact 19 (f := .glo "_law_told") rfl)
    g_l_lists := qf_glo X G (c.fact 20 (f := .glo "_law_lists") rfl)
    g_l_filled := qf_glo X G (c.fact 21 (f := .glo "_law_filled") rfl)
    g_l_of := qf_glo X G (c.fact 22 (f := .glo "_law_of") rfl)
    g_l_limit := qf_glo X G (c.fact 23 (f := .glo "_law_limit") rfl)
    g_l_looks := qf_glo X G (c.fact 24 (f := .glo "_law_looks") rfl)
    g_l_again_right := qf_glo X G (c.fact 25 (f := .glo "_law_again_right") rfl)
    g_l_with := qf_glo X G (c.fact 26 (f := .glo "_law_with") rfl)
    g_l_without := qf_glo X G (c.fact 27 (f := .glo "_law_without") rfl)
    g_l_book := qf_glo X G (c.fact 28 (f := .glo "_law_book") rfl)
    g_l_pick := qf_glo X G (c.fact 29 (f := .glo "_law_pick") rfl)
    g_l_net := qf_glo X G (c.fact 30 (f := .glo "_law_net") rfl)
    g_l_closed := qf_glo X G (c.fact 31 (f := .glo "_law_closed") rfl)
    g_l_tiled := qf_glo X G (c.fact 32 (f := .glo "_law_tiled") rfl)
    g_l_least := qf_glo X G (c.fact 33 (f := .glo "_law_least") rfl)
    g_l_added := qf_glo X G (c.fact 34 (f := .glo "_law_added") rfl)
    g_l_rises := qf_glo X G (c.fact 35 (f := .glo "_law_rises") rfl)
    g_l_falls := qf_glo X G (c.fact 36 (f := .glo "_law_falls") rfl)
    g_l_hills_log := qf_glo X G (c.fact 37 (f := .glo "_law_hills_log") rfl)
    g_l_times := qf_glo X G (c.fact 38 (f := .glo "_law_times") rfl)
    g_l_number := qf_glo X G (c.fact 39 (f := .glo "_law_number") rfl)
    g_l_quiet_log := qf_glo X G (c.fact 40 (f := .glo "_law_quiet_log") rfl)
    g_l_above := qf_glo X G (c.fact 41 (f := .glo "_law_above") rfl)
    g_l_calls := qf_glo X G (c.fact 42 (f := .glo "_law_calls") rfl)
    g_l_is_quiet := qf_glo X G (c.fact 43 (f := .glo "_law_is_quiet") rfl)
    g_p_is_above := qf_glo X G (c.fact 44 (f := .glo "is_above") rfl)
    g_p_calls := qf_glo X G (c.fact 45 (f := .glo "calls") rfl)
    g_p_loud := qf_glo X G (c.fact 46 (f := .glo "loud") rfl)
    g_p_is_quiet := qf_glo X G (c.fact 47 (f := .glo "is_quiet") rfl)
    g_l_right := qf_glo X G (c.fact 48 (f := .glo "_law_right") rfl)
    g_l_law := qf_glo X G (c.fact 49 (f := .glo "law") rfl)
    n_abs := qf_free X G (c.fact 50 (f := .free "abs") rfl)
    n_all := qf_free X G (c.fact 51 (f := .free "all") rfl)
    n_any := qf_free X G (c.fact 52 (f := .free "any") rfl)
    n_bool := qf_free X G (c.fact 53 (f := .free "bool") rfl)
    n_enumerate := qf_free X G (c.fact 54 (f := .free "enumerate") rfl)
    n_int := qf_free X G (c.fact 55 (f := .free "int") rfl)
    n_isinstance := qf_free X G (c.fact 56 (f := .free "isinstance") rfl)
    n_len := qf_free X G (c.fact 57 (f := .free "len") rfl)
    n_list := qf_free X G (c.fact 58 (f := .free "list") rfl)
    n_min := qf_free X G (c.fact 59 (f := .free "min") rfl)
    n_range := qf_free X G (c.fact 60 (f := .free "range") rfl)
    n_set := qf_free X G (c.fact 61 (f := .free "set") rfl)
    n_sorted := qf_free X G (c.fact 62 (f := .free "sorted") rfl)
    n_str := qf_free X G (c.fact 63 (f := .free "str") rfl)
    n_sum := qf_free X G (c.fact 64 (f := .free "sum") rfl)
    n_tuple := qf_free X G (c.fact 65 (f := .free "tuple") rfl)
    n_zip := qf_free X G (c.fact 66 (f := .free "zip") rfl)
    }
  exact ⟨fd49, fun s v => bindsA0 F49 (fun _ _ _ _ _ _ => rfl) s, fun base _ _ => law_ok (ok_l_law T) holds⟩
end Lw
open PySem PySem.W PySem.Calls PyProof.Rows
set_option maxRecDepth 100000 in
set_option maxHeartbeats 0 in
theorem PySem.Challenge.cw_quietshare_k32_the_least_book_holds : PySem.Challenge.rw_quietshare_k32_the_least_book.Holds := by
  w_on; o_law
  refine HandSHeadRun.head_any (r := OpenLaw.row PySem.Challenge.rw_quietshare_k32_the_least_book) (q := view (OpenLaw.row PySem.Challenge.rw_quietshare_k32_the_least_book).prog [57]) (H := Lw.hkR) (ob := Lw.obR) (M := 8000) (loose := Lw.loose) (d := HandSHeadRun.topDef (OpenLaw.row PySem.Challenge.rw_quietshare_k32_the_least_book).prog 57) (kwd := []) Lw.obR_eq
    (by kernel_rfl) (fun s => by kernel_rfl) Lw.runR (by kernel_rfl) (by kernel_rfl) (by kernel_rfl) (by rfl) (by first | assumption | decide +kernel) (by decide +kernel) ⟨rfl, rfl, rfl, rfl, rfl, by decide +kernel⟩ ?hw ?hc
  case hw => w_witness2
  case hc =>
    refine L2.walk_ofE (l := PySem.Challenge.rw_quietshare_k32_the_least_book) (n := 63) (k := 36) (x := "_law_script") (CX := L2.CX0) rfl (by decide) (by kernel_rfl) ⟨rfl, by decide, by decide⟩ ?F (fun _ _ _ _ z => z)
    intro w mg fa h Y G hmg0
    obtain ⟨K, KX, c⟩ := Y
    have hmg : mg ("law" : PySem.Str) = some (.ref fa) := by
      have e : (HandSHeadRun.topDef (OpenLaw.row PySem.Challenge.rw_quietshare_k32_the_least_book).prog 57).name = ("law" : PySem.Str) := by kernel_rfl
      rw [← e]
      exact hmg0
    obtain ⟨fd, hb, hF⟩ := Lw.factsR (P := (PySem.Challenge.rw_quietshare_k32_the_least_book).prog) (w := w) KX G hmg c
    exact ⟨K, fd, Q.spLaw K, KX, hb, fun H a ns hl _ hS => ⟨a, ns, rfl, hS, hl, fun _ => rfl⟩, hF⟩
