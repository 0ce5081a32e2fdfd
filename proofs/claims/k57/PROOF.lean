import PyProof.Rows.All
import Wide.All
import OpenK.AllK
import Wide.FinOn
import HandS.ForMost
import HandS.Defaults
import KE.KSuper
import HandS.Head0
import HandS.Head1
import HandS.Head2
import HandS.HeadEnd
import HandS.HeadHook1
import HandS.HeadHook2
import HandS.HeadHook3
import HandS.IsInst
import HandS.Evl
import HandS.Wide
import HandS.WideBits
import HandS.Style
import HandS.SortInts
import HandS.SortRule
import HandS.Zip
import HandS.OwnEq
import HandS.ClsMeth
import HandS.Conv
import HandS.Walk
import HandS.Nested
import KE.GoesMore
import PyProof.TupleOfSeq
import PySem.Challenge.RW_huefall_k57_whole_worth_of_every_rule
set_option Elab.async false
set_option linter.all false
set_option maxRecDepth 100000
set_option maxHeartbeats 0
/-! The head: what the top leaves, told by names. -/
namespace K57
open PySem PySem.Spec PyProof.Rows L2 He
/-- the top's statement at a place -/
def topS (i : Nat) : Stmt := PySem.Challenge.pw_huefall_k57_whole_worth_of_every_rule.main.body.getD i (.Pass ⟨0, 0, 0, 0⟩)
/-- a def with the cell __class__: where it stands, its names, its text, the class that it is written in -/
structure SupD where
  at_ : Str × Option Str
  name : Str
  qual : Str
  st : Stmt
  cls : Str
abbrev FnC : Type := Option (Str × Str × Arguments × FuncBody × Scope × Addr × Addr)
def fnC (K : PySem.W.Frag) (p : Str × Option Str) : FnC := match K.lookup (fAd K p) with
  | some ⟨_, _, .func fd, _⟩ => some (fd.name, fd.qualname, fd.params, fd.body, fd.scope, fd.globals, fd.builtins)
  | _ => none
def SupD.val (d : SupD) : FnC := some (d.name, d.qual, defArgs d.st, .stmts (defBody d.st), defScope d.st, mainGlobals, builtinsNs)
def fileB (f0 : Str) (K : PySem.W.Frag) (cda : Addr) : Bool := match K.lookup cda with
  | some ⟨_, _, .fields vs, _⟩ => (match (vs[2]? : Option Value) with
    | some (.str file _) => f0 == file
    | _ => false)
  | _ => false
def cellB (K : PySem.W.Frag) (cc D : Addr) : Bool := match K.lookup cc with
  | some ⟨_, _, .cell (some (.ref E)), _⟩ => decide (E = D)
  | _ => false
def supFd (f0 : Str) (K : PySem.W.Frag) (qual : Str) (D : Addr) (fd : FuncData) : Bool := match fd.closure with
  | [(n, cc)] => (match fd.code with
    | .ref cda => (match fd.defaults with
      | .none => n == "__class__" && (PySem.W.codeIn K (.ref cda) qual && (fileB f0 K cda && cellB K cc D))
      | _ => false)
    | _ => false)
  | _ => false
def SupD.ok (f0 : Str) (K : PySem.W.Frag) (d : SupD) : Bool := match K.lookup (fAd K d.at_) with
  | some ⟨_, _, .func fd, _⟩ => supFd f0 K d.qual (ga K d.cls) fd
  | _ => false
abbrev AlK : Type := Bool × List FnW × List FnC
def obsK (f0 : Str) (fa : List Fa) (ex : List (PySem.W.Frag → Bool)) (fn : List DefD) (fs : List SupD) (K : PySem.W.Frag) : AlK :=
  (((fa.all fun f => f.ok K) && ex.all fun g => g K) && ((fn.all fun d => d.ok K) && fs.all fun d => d.ok f0 K), fn.map fun d => fnW K d.at_, fs.map fun d => fnC K d.at_)
def valK (fn : List DefD) (fs : List SupD) : AlK := (true, fn.map DefD.val, fs.map SupD.val)
def SaysK (f0 : Str) (fa : List Fa) (ex : List (PySem.W.Frag → Bool)) (fn : List DefD) (fs : List SupD) (K : PySem.W.Frag) : Prop := obsK f0 fa ex fn fs K = valK fn fs
/-- what is looked at: the module's names, their code, defaults, cells; the classes' names, and theirs -/
def nsRefs (g : Addr → Option Obj) (a : Addr) : List Addr := match g a with
  | some ⟨_, _, .dict es _, _⟩ => es.toList.flatMap fun e => refV e.val
  | _ => []
def fnRefs (g : Addr → Option Obj) (a : Addr) : List Addr := match g a with
  | some ⟨_, _, .func fd, _⟩ => refV fd.code ++ (refV fd.defaults ++ (refV fd.kwdefaults ++ fd.closure.map (·.2)))
  | some ⟨_, _, .cls cd, _⟩ => [cd.ns]
  | _ => []
def clRefs (g : Addr → Option Obj) (a : Addr) : List Addr := match g a with
  | some ⟨_, _, .cls cd, _⟩ => (nsRefs g cd.ns).flatMap fun f => f :: fnRefs g f
  | _ => []
def asK (g : Addr → Option Obj) (_ : Nat) : List Addr := mainGlobals :: cStatics :: (nsRefs g mainGlobals).flatMap fun a => a :: (fnRefs g a ++ clRefs g a)
def obsKG (n : Nat) (f0 : Str) (fa : List Fa) (ex : List (PySem.W.Frag → Bool)) (fn : List DefD) (fs : List SupD) (g : Addr → Option Obj) : AlK := obsK f0 fa ex fn fs (frG g (asK g n))
def hookK (n : Nat) (f0 : Str) (fa : List Fa) (ex : List (PySem.W.Frag → Bool)) (fn : List DefD) (fs : List SupD) : PySem.W.Hook where
  α := AlK
  obs := fun s => obsKG n f0 fa ex fn fs s.heap.get?
  val := fun _ => valK fn fs
  says := fun _ h => ∃ K : PySem.W.Frag, K.In h ∧ SaysK f0 fa ex fn fs K
  of := fun _ _ e => ⟨_, frG_in, e⟩
  keeps := fun _ _ _ ⟨K, hK, c⟩ k => ⟨K, PySem.W.Frag.In.keeps hK k, c⟩
theorem obsKG_eq {n : Nat} {f0 : Str} {fa : List Fa} {ex : List (PySem.W.Frag → Bool)} {fn : List DefD} {fs : List SupD} {g : Addr → Option Obj} {s : Shared} (h : ∀ a, g a = s.heap.get? a) : obsKG n f0 fa ex fn fs g = (hookK n f0 fa ex fn fs).obs s := by
  have e : g = s.heap.get? := funext h
  rw [e] <;> rfl
/-! ### facts as Bools -/
def methB (X m Y : Str) (K : PySem.W.Frag) : Bool := eqO (PySem.W.findIn K (.ref (ga K X)) m) (some (some (.ref (fAd K (Y, some m))))) && (PySem.W.isFn K (.ref (fAd K (Y, some m))) && PySem.W.keepIn K (.ref (fAd K (Y, some m))))
def mkB (X Y : Str) (K : PySem.W.Frag) : Bool := PySem.W.makesIn K (ga K X) && (eqO (PySem.W.findIn K (.ref (ga K X)) "__init__") (some (some (.ref (fAd K (Y, some "__init__"))))) && (PySem.W.isFn K (.ref (fAd K (Y, some "__init__"))) && PySem.W.keepIn K (.ref (ga K X))))
def supMB (X D m Y : Str) (K : PySem.W.Frag) : Bool := decide (PySem.W.mroIn K (ga K X) (.ref (ga K D)) = some true) && (eqO (PySem.W.ks_superIn K (ga K X) (ga K D) m) (some (some (.ref (fAd K (Y, some m))))) && (decide (PySem.W.typeIn K (.ref (fAd K (Y, some m))) = some (.type "function")) && PySem.W.fnIn K (fAd K (Y, some m))))
def clsB (X : Str) (K : PySem.W.Frag) : Bool := (PySem.W.clsIn K (ga K X)).isSome
def opqB (K : PySem.W.Frag) : Bool := eqO (PySem.W.nsIn K cStatics "thirdparty.any") (some none)
def hisB (X : Str) (K : PySem.W.Frag) : Bool := eqO (PySem.W.findIn K (.ref (ga K X)) "__class__") (some (some (.builtin "object.__class__"))) && (eqO (PySem.W.specialIn K (.builtin "object.__class__") "__get__") (some (some (.builtin "getset_descriptor.__get__"))) &&
  (decide (PySem.W.takesIn K (.builtin "object.__class__") = some true) && (decide (PySem.W.mroIn K (ga K X) (.type "object") = some true) && decide (PySem.W.kitOne K (.ref (ga K X)) (.ref (ga K X)) = some true))))
def creadB (X : Str) (K : PySem.W.Frag) : Bool := PySem.W.readsIn K (ga K X) (.type "type") && eqO (PySem.W.specialIn K (.ref (ga K X)) "__getattribute__") (some (some (.builtin "type.__getattribute__")))
def cvalB (X f : Str) (i : Int) (K : PySem.W.Frag) : Bool := match PySem.W.findCls K (.ref (ga K X)) (.type "type") f with
  | some (.val (.int j _)) => decide (i = j)
  | _ => false

def fa_0 : List (Fa) := [.glo "is_integer", .glo "is_lamp", .glo "bits", .glo "_check_lamp", .glo "_is_wire", .glo "_join_wires", .glo "_turn_round", .glo "_order_list", .glo "is_state_states", .glo "need_lamp", .glo "_law_is_integer", .glo "_law_is_truth", .glo "_law_same", .glo "_law_is_list", .glo "_law_is_tuple", .glo "_law_start", .glo "_law_draw", .glo "_law_lamp_order", .glo "_law_wires", .glo "_law_passed", .glo "_law_direct", .glo "_law_beneath", .glo "_law_order", .glo "_law_rule", .glo "_law_numbers", .glo "_law_hues_at", .glo "_law_hit", .glo "_law_moved", .glo "_law_next_allowed", .glo "_law_heavy"]
def fa_1 : List (Fa) := [.glo "_law_greatest", .glo "_law_worth_fits", .glo "_law_run_fits", .glo "_law_sum_fits", .glo "_law_walk_fits", .glo "_law_table_fits", .glo "_law_rule_fits", .glo "law", .glo "House", .glo "Kin", .glo "CarefulKin", .glo "WiredKin", .glo "CarefulWiredKin", .glo "GainKin", .glo "CoinKin", .glo "MixedKin", .free "isinstance", .free "int", .free "bool", .free "list", .free "tuple", .free "len", .free "range", .free "sum", .free "min", .free "sorted", .free "enumerate", .free "zip", .free "reversed", .free "all"]
def fa_2 : List (Fa) := [.free "super", .int "_LEAST_SIZE" 2, .int "_MOST_SIZE" 10, .cls "House", .cls "Kin", .cls "CarefulKin", .cls "WiredKin", .cls "CarefulWiredKin", .cls "GainKin", .cls "CoinKin", .cls "MixedKin", .noat "House" "count", .noat "House" "hues", .noat "House" "_below", .noat "House" "_direct", .noat "House" "_order", .noat "House" "wires", .noat "House" "_below_masks", .noat "House" "_above_masks", .noat "House" "_above", .noat "Kin" "house", .noat "Kin" "gain", .noat "Kin" "sizes", .noat "CarefulKin" "house", .noat "CarefulKin" "gain", .noat "CarefulKin" "sizes", .noat "WiredKin" "house", .noat "WiredKin" "gain", .noat "WiredKin" "sizes", .noat "CarefulWiredKin" "house"]
def fa_3 : List (Fa) := [.noat "CarefulWiredKin" "gain", .noat "CarefulWiredKin" "sizes", .noat "GainKin" "house", .noat "GainKin" "gain", .noat "GainKin" "sizes", .noat "CoinKin" "house", .noat "CoinKin" "gain", .noat "CoinKin" "sizes", .noat "MixedKin" "house", .noat "MixedKin" "gain", .noat "MixedKin" "sizes"]
def fa_ : List (Fa) := fa_0 ++ fa_1 ++ fa_2 ++ fa_3
def ex_0 : List (PySem.W.Frag → Bool) := [methB "House" "beneath" "House", methB "House" "direct" "House", methB "House" "order" "House", methB "House" "__eq__" "House", mkB "House" "House", methB "Kin" "turned" "Kin", methB "Kin" "factor" "Kin", methB "Kin" "is_state" "Kin", methB "Kin" "allowed" "Kin", methB "Kin" "_own" "Kin", methB "Kin" "_hit" "Kin", methB "Kin" "_refuse" "Kin", methB "Kin" "_build" "Kin", methB "Kin" "after" "Kin", methB "Kin" "greatest" "Kin", methB "Kin" "reaches" "Kin", methB "Kin" "worth" "Kin", methB "Kin" "run" "Kin", methB "Kin" "_need_state" "Kin", methB "Kin" "_need_lamp" "Kin", methB "Kin" "_turners" "Kin", methB "Kin" "_lit_turned" "Kin", methB "Kin" "_moved" "Kin", methB "Kin" "_with_lamp" "Kin", methB "Kin" "_weights" "Kin", mkB "Kin" "Kin", methB "CarefulKin" "turned" "Kin", methB "CarefulKin" "factor" "Kin", methB "CarefulKin" "is_state" "Kin", methB "CarefulKin" "allowed" "CarefulKin"]
def ex_1 : List (PySem.W.Frag → Bool) := [methB "CarefulKin" "_own" "Kin", methB "CarefulKin" "_hit" "Kin", methB "CarefulKin" "_refuse" "CarefulKin", methB "CarefulKin" "_build" "CarefulKin", methB "CarefulKin" "after" "Kin", methB "CarefulKin" "greatest" "Kin", methB "CarefulKin" "reaches" "Kin", methB "CarefulKin" "worth" "Kin", methB "CarefulKin" "run" "Kin", methB "CarefulKin" "_need_state" "Kin", methB "CarefulKin" "_need_lamp" "Kin", methB "CarefulKin" "_turners" "Kin", methB "CarefulKin" "_lit_turned" "Kin", methB "CarefulKin" "_moved" "Kin", methB "CarefulKin" "_with_lamp" "Kin", methB "CarefulKin" "_weights" "Kin", mkB "CarefulKin" "Kin", methB "WiredKin" "turned" "WiredKin", methB "WiredKin" "factor" "Kin", methB "WiredKin" "is_state" "Kin", methB "WiredKin" "allowed" "Kin", methB "WiredKin" "_own" "Kin", methB "WiredKin" "_hit" "Kin", methB "WiredKin" "_refuse" "Kin", methB "WiredKin" "_build" "Kin", methB "WiredKin" "after" "Kin", methB "WiredKin" "greatest" "Kin", methB "WiredKin" "reaches" "Kin", methB "WiredKin" "worth" "Kin", methB "WiredKin" "run" "Kin"]
def ex_2 : List (PySem.W.Frag → Bool) := [methB "WiredKin" "_need_state" "Kin", methB "WiredKin" "_need_lamp" "Kin", methB "WiredKin" "_turners" "Kin", methB "WiredKin" "_lit_turned" "Kin", methB "WiredKin" "_moved" "Kin", methB "WiredKin" "_with_lamp" "Kin", methB "WiredKin" "_weights" "Kin", mkB "WiredKin" "Kin", methB "CarefulWiredKin" "turned" "WiredKin", methB "CarefulWiredKin" "factor" "Kin", methB "CarefulWiredKin" "is_state" "Kin", methB "CarefulWiredKin" "allowed" "CarefulKin", methB "CarefulWiredKin" "_own" "Kin", methB "CarefulWiredKin" "_hit" "Kin", methB "CarefulWiredKin" "_refuse" "CarefulKin", methB "CarefulWiredKin" "_build" "CarefulKin", methB "CarefulWiredKin" "after" "Kin", methB "CarefulWiredKin" "greatest" "Kin", methB "CarefulWiredKin" "reaches" "Kin", methB "CarefulWiredKin" "worth" "Kin", methB "CarefulWiredKin" "run" "Kin", methB "CarefulWiredKin" "_need_state" "Kin", methB "CarefulWiredKin" "_need_lamp" "Kin", methB "CarefulWiredKin" "_turners" "Kin", methB "CarefulWiredKin" "_lit_turned" "Kin", methB "CarefulWiredKin" "_moved" "Kin", methB "CarefulWiredKin" "_with_lamp" "Kin", methB "CarefulWiredKin" "_weights" "Kin", mkB "CarefulWiredKin" "Kin", methB "GainKin" "turned" "Kin"]
def ex_3 : List (PySem.W.Frag → Bool) := [methB "GainKin" "factor" "GainKin", methB "GainKin" "is_state" "Kin", methB "GainKin" "allowed" "Kin", methB "GainKin" "_own" "Kin", methB "GainKin" "_hit" "GainKin", methB "GainKin" "_refuse" "Kin", methB "GainKin" "_build" "Kin", methB "GainKin" "after" "Kin", methB "GainKin" "greatest" "Kin", methB "GainKin" "reaches" "Kin", methB "GainKin" "worth" "Kin", methB "GainKin" "run" "Kin", methB "GainKin" "_need_state" "Kin", methB "GainKin" "_need_lamp" "Kin", methB "GainKin" "_turners" "Kin", methB "GainKin" "_lit_turned" "Kin", methB "GainKin" "_moved" "Kin", methB "GainKin" "_with_lamp" "Kin", methB "GainKin" "_weights" "Kin", mkB "GainKin" "GainKin", methB "CoinKin" "turned" "Kin", methB "CoinKin" "factor" "Kin", methB "CoinKin" "is_state" "CoinKin", methB "CoinKin" "allowed" "Kin", methB "CoinKin" "_own" "Kin", methB "CoinKin" "_hit" "CoinKin", methB "CoinKin" "_refuse" "Kin", methB "CoinKin" "_build" "Kin", methB "CoinKin" "after" "Kin", methB "CoinKin" "greatest" "Kin"]
def ex_4 : List (PySem.W.Frag → Bool) := [methB "CoinKin" "reaches" "Kin", methB "CoinKin" "worth" "Kin", methB "CoinKin" "run" "Kin", methB "CoinKin" "_need_state" "Kin", methB "CoinKin" "_need_lamp" "Kin", methB "CoinKin" "_turners" "Kin", methB "CoinKin" "_lit_turned" "Kin", methB "CoinKin" "_moved" "Kin", methB "CoinKin" "_with_lamp" "Kin", methB "CoinKin" "_weights" "Kin", mkB "CoinKin" "Kin", methB "MixedKin" "turned" "Kin", methB "MixedKin" "factor" "MixedKin", methB "MixedKin" "is_state" "MixedKin", methB "MixedKin" "allowed" "Kin", methB "MixedKin" "_own" "Kin", methB "MixedKin" "_hit" "MixedKin", methB "MixedKin" "_refuse" "Kin", methB "MixedKin" "_build" "Kin", methB "MixedKin" "after" "Kin", methB "MixedKin" "greatest" "Kin", methB "MixedKin" "reaches" "Kin", methB "MixedKin" "worth" "Kin", methB "MixedKin" "run" "Kin", methB "MixedKin" "_need_state" "Kin", methB "MixedKin" "_need_lamp" "Kin", methB "MixedKin" "_turners" "Kin", methB "MixedKin" "_lit_turned" "Kin", methB "MixedKin" "_moved" "Kin", methB "MixedKin" "_with_lamp" "Kin"]
def ex_5 : List (PySem.W.Frag → Bool) := [methB "MixedKin" "_weights" "Kin", mkB "MixedKin" "MixedKin", fun K => conB K "Kin" "LABEL" (.str "free"), fun K => conB K "CarefulKin" "LABEL" (.str "careful"), fun K => conB K "WiredKin" "LABEL" (.str "wired"), fun K => conB K "CarefulWiredKin" "LABEL" (.str "careful wired"), fun K => conB K "GainKin" "LABEL" (.str "gain"), fun K => conB K "CoinKin" "LABEL" (.str "coin"), fun K => conB K "MixedKin" "LABEL" (.str "mixed"), supMB "CarefulKin" "CarefulKin" "allowed" "Kin", supMB "CarefulKin" "CarefulKin" "_refuse" "Kin", supMB "CarefulWiredKin" "CarefulKin" "allowed" "Kin", supMB "CarefulWiredKin" "CarefulKin" "_refuse" "Kin", supMB "GainKin" "GainKin" "__init__" "Kin", supMB "MixedKin" "MixedKin" "__init__" "Kin", clsB "CarefulKin", clsB "GainKin", clsB "MixedKin", opqB, hisB "House", creadB "House", cvalB "House" "MOST_LAMPS" 16, cvalB "House" "MOST_HUES" 10]
def ex_ : List (PySem.W.Frag → Bool) := ex_0 ++ ex_1 ++ ex_2 ++ ex_3 ++ ex_4 ++ ex_5
def fn_0 : List (DefD) := [⟨("is_integer", none), "is_integer", "is_integer", defArgs (topS 13), defBody (topS 13), defScope (topS 13), [], []⟩, ⟨("is_lamp", none), "is_lamp", "is_lamp", defArgs (topS 14), defBody (topS 14), defScope (topS 14), [], []⟩, ⟨("bits", none), "bits", "bits", defArgs (topS 15), defBody (topS 15), defScope (topS 15), [], []⟩, ⟨("_check_lamp", none), "_check_lamp", "_check_lamp", defArgs (topS 16), defBody (topS 16), defScope (topS 16), [], []⟩, ⟨("_is_wire", none), "_is_wire", "_is_wire", defArgs (topS 17), defBody (topS 17), defScope (topS 17), [], []⟩, ⟨("_join_wires", none), "_join_wires", "_join_wires", defArgs (topS 18), defBody (topS 18), defScope (topS 18), [], []⟩, ⟨("_turn_round", none), "_turn_round", "_turn_round", defArgs (topS 19), defBody (topS 19), defScope (topS 19), [], []⟩, ⟨("_order_list", none), "_order_list", "_order_list", defArgs (topS 20), defBody (topS 20), defScope (topS 20), [], []⟩, ⟨("is_state_states", none), "is_state", "is_state", defArgs (topS 23), defBody (topS 23), defScope (topS 23), [], []⟩, ⟨("need_lamp", none), "need_lamp", "need_lamp", defArgs (topS 26), defBody (topS 26), defScope (topS 26), [], []⟩, ⟨("_law_is_integer", none), "_law_is_integer", "_law_is_integer", defArgs (topS 40), defBody (topS 40), defScope (topS 40), [], []⟩, ⟨("_law_is_truth", none), "_law_is_truth", "_law_is_truth", defArgs (topS 41), defBody (topS 41), defScope (topS 41), [], []⟩, ⟨("_law_same", none), "_law_same", "_law_same", defArgs (topS 42), defBody (topS 42), defScope (topS 42), [], []⟩, ⟨("_law_is_list", none), "_law_is_list", "_law_is_list", defArgs (topS 43), defBody (topS 43), defScope (topS 43), [], []⟩, ⟨("_law_is_tuple", none), "_law_is_tuple", "_law_is_tuple", defArgs (topS 44), defBody (topS 44), defScope (topS 44), [], []⟩, ⟨("_law_start", none), "_law_start", "_law_start", defArgs (topS 45), defBody (topS 45), defScope (topS 45), [], []⟩, ⟨("_law_draw", none), "_law_draw", "_law_draw", defArgs (topS 46), defBody (topS 46), defScope (topS 46), [], []⟩, ⟨("_law_lamp_order", none), "_law_lamp_order", "_law_lamp_order", defArgs (topS 47), defBody (topS 47), defScope (topS 47), [], []⟩, ⟨("_law_wires", none), "_law_wires", "_law_wires", defArgs (topS 48), defBody (topS 48), defScope (topS 48), [], []⟩, ⟨("_law_passed", none), "_law_passed", "_law_passed", defArgs (topS 49), defBody (topS 49), defScope (topS 49), [], []⟩]
def fn_1 : List (DefD) := [⟨("_law_direct", none), "_law_direct", "_law_direct", defArgs (topS 50), defBody (topS 50), defScope (topS 50), [], []⟩, ⟨("_law_beneath", none), "_law_beneath", "_law_beneath", defArgs (topS 51), defBody (topS 51), defScope (topS 51), [], []⟩, ⟨("_law_order", none), "_law_order", "_law_order", defArgs (topS 52), defBody (topS 52), defScope (topS 52), [], []⟩, ⟨("_law_rule", none), "_law_rule", "_law_rule", defArgs (topS 53), defBody (topS 53), defScope (topS 53), [], []⟩, ⟨("_law_numbers", none), "_law_numbers", "_law_numbers", defArgs (topS 54), defBody (topS 54), defScope (topS 54), [], []⟩, ⟨("_law_hues_at", none), "_law_hues_at", "_law_hues_at", defArgs (topS 55), defBody (topS 55), defScope (topS 55), [], []⟩, ⟨("_law_hit", none), "_law_hit", "_law_hit", defArgs (topS 56), defBody (topS 56), defScope (topS 56), [], []⟩, ⟨("_law_moved", none), "_law_moved", "_law_moved", defArgs (topS 57), defBody (topS 57), defScope (topS 57), [], []⟩, ⟨("_law_next_allowed", none), "_law_next_allowed", "_law_next_allowed", defArgs (topS 58), defBody (topS 58), defScope (topS 58), [], []⟩, ⟨("_law_heavy", none), "_law_heavy", "_law_heavy", defArgs (topS 59), defBody (topS 59), defScope (topS 59), [], []⟩, ⟨("_law_greatest", none), "_law_greatest", "_law_greatest", defArgs (topS 60), defBody (topS 60), defScope (topS 60), [], []⟩, ⟨("_law_worth_fits", none), "_law_worth_fits", "_law_worth_fits", defArgs (topS 61), defBody (topS 61), defScope (topS 61), [], []⟩, ⟨("_law_run_fits", none), "_law_run_fits", "_law_run_fits", defArgs (topS 62), defBody (topS 62), defScope (topS 62), [], []⟩, ⟨("_law_sum_fits", none), "_law_sum_fits", "_law_sum_fits", defArgs (topS 63), defBody (topS 63), defScope (topS 63), [], []⟩, ⟨("_law_walk_fits", none), "_law_walk_fits", "_law_walk_fits", defArgs (topS 64), defBody (topS 64), defScope (topS 64), [], []⟩, ⟨("_law_table_fits", none), "_law_table_fits", "_law_table_fits", defArgs (topS 65), defBody (topS 65), defScope (topS 65), [], []⟩, ⟨("_law_rule_fits", none), "_law_rule_fits", "_law_rule_fits", defArgs (topS 66), defBody (topS 66), defScope (topS 66), [], []⟩, ⟨("law", none), "law", "law", defArgs (topS 67), defBody (topS 67), defScope (topS 67), [], []⟩, ⟨("House", some "__init__"), "__init__", "House.__init__", defArgs (inClass (topS 21) 2), defBody (inClass (topS 21) 2), defScope (inClass (topS 21) 2), [.adr (dflAt ("House", some "__init__") 0)], []⟩, ⟨("House", some "__eq__"), "__eq__", "House.__eq__", defArgs (inClass (topS 21) 3), defBody (inClass (topS 21) 3), defScope (inClass (topS 21) 3), [], []⟩]
def fn_2 : List (DefD) := [⟨("House", some "beneath"), "beneath", "House.beneath", defArgs (inClass (topS 21) 5), defBody (inClass (topS 21) 5), defScope (inClass (topS 21) 5), [], []⟩, ⟨("House", some "direct"), "direct", "House.direct", defArgs (inClass (topS 21) 7), defBody (inClass (topS 21) 7), defScope (inClass (topS 21) 7), [], []⟩, ⟨("House", some "order"), "order", "House.order", defArgs (inClass (topS 21) 10), defBody (inClass (topS 21) 10), defScope (inClass (topS 21) 10), [], []⟩, ⟨("Kin", some "__init__"), "__init__", "Kin.__init__", defArgs (inClass (topS 29) 1), defBody (inClass (topS 29) 1), defScope (inClass (topS 29) 1), [], []⟩, ⟨("Kin", some "turned"), "turned", "Kin.turned", defArgs (inClass (topS 29) 2), defBody (inClass (topS 29) 2), defScope (inClass (topS 29) 2), [], []⟩, ⟨("Kin", some "factor"), "factor", "Kin.factor", defArgs (inClass (topS 29) 3), defBody (inClass (topS 29) 3), defScope (inClass (topS 29) 3), [], []⟩, ⟨("Kin", some "is_state"), "is_state", "Kin.is_state", defArgs (inClass (topS 29) 4), defBody (inClass (topS 29) 4), defScope (inClass (topS 29) 4), [], []⟩, ⟨("Kin", some "allowed"), "allowed", "Kin.allowed", defArgs (inClass (topS 29) 5), defBody (inClass (topS 29) 5), defScope (inClass (topS 29) 5), [], []⟩, ⟨("Kin", some "_own"), "_own", "Kin._own", defArgs (inClass (topS 29) 6), defBody (inClass (topS 29) 6), defScope (inClass (topS 29) 6), [], []⟩, ⟨("Kin", some "_hit"), "_hit", "Kin._hit", defArgs (inClass (topS 29) 7), defBody (inClass (topS 29) 7), defScope (inClass (topS 29) 7), [], []⟩, ⟨("Kin", some "_refuse"), "_refuse", "Kin._refuse", defArgs (inClass (topS 29) 8), defBody (inClass (topS 29) 8), defScope (inClass (topS 29) 8), [], []⟩, ⟨("Kin", some "_build"), "_build", "Kin._build", defArgs (inClass (topS 29) 9), defBody (inClass (topS 29) 9), defScope (inClass (topS 29) 9), [], []⟩, ⟨("Kin", some "after"), "after", "Kin.after", defArgs (inClass (topS 29) 10), defBody (inClass (topS 29) 10), defScope (inClass (topS 29) 10), [], []⟩, ⟨("Kin", some "greatest"), "greatest", "Kin.greatest", defArgs (inClass (topS 29) 11), defBody (inClass (topS 29) 11), defScope (inClass (topS 29) 11), [], []⟩, ⟨("Kin", some "reaches"), "reaches", "Kin.reaches", defArgs (inClass (topS 29) 12), defBody (inClass (topS 29) 12), defScope (inClass (topS 29) 12), [], []⟩, ⟨("Kin", some "worth"), "worth", "Kin.worth", defArgs (inClass (topS 29) 13), defBody (inClass (topS 29) 13), defScope (inClass (topS 29) 13), [], []⟩, ⟨("Kin", some "run"), "run", "Kin.run", defArgs (inClass (topS 29) 14), defBody (inClass (topS 29) 14), defScope (inClass (topS 29) 14), [], [("limit", .int 1000)]⟩, ⟨("Kin", some "_need_state"), "_need_state", "Kin._need_state", defArgs (inClass (topS 29) 15), defBody (inClass (topS 29) 15), defScope (inClass (topS 29) 15), [], []⟩, ⟨("Kin", some "_need_lamp"), "_need_lamp", "Kin._need_lamp", defArgs (inClass (topS 29) 16), defBody (inClass (topS 29) 16), defScope (inClass (topS 29) 16), [], []⟩, ⟨("Kin", some "_turners"), "_turners", "Kin._turners", defArgs (inClass (topS 29) 17), defBody (inClass (topS 29) 17), defScope (inClass (topS 29) 17), [], []⟩]
def fn_3 : List (DefD) := [⟨("Kin", some "_lit_turned"), "_lit_turned", "Kin._lit_turned", defArgs (inClass (topS 29) 18), defBody (inClass (topS 29) 18), defScope (inClass (topS 29) 18), [], []⟩, ⟨("Kin", some "_moved"), "_moved", "Kin._moved", defArgs (inClass (topS 29) 19), defBody (inClass (topS 29) 19), defScope (inClass (topS 29) 19), [], []⟩, ⟨("Kin", some "_with_lamp"), "_with_lamp", "Kin._with_lamp", defArgs (inClass (topS 29) 20), defBody (inClass (topS 29) 20), defScope (inClass (topS 29) 20), [], []⟩, ⟨("Kin", some "_weights"), "_weights", "Kin._weights", defArgs (inClass (topS 29) 21), defBody (inClass (topS 29) 21), defScope (inClass (topS 29) 21), [], []⟩, ⟨("CarefulKin", some "_build"), "_build", "CarefulKin._build", defArgs (inClass (topS 30) 3), defBody (inClass (topS 30) 3), defScope (inClass (topS 30) 3), [], []⟩, ⟨("WiredKin", some "turned"), "turned", "WiredKin.turned", defArgs (inClass (topS 31) 1), defBody (inClass (topS 31) 1), defScope (inClass (topS 31) 1), [], []⟩, ⟨("GainKin", some "factor"), "factor", "GainKin.factor", defArgs (inClass (topS 36) 2), defBody (inClass (topS 36) 2), defScope (inClass (topS 36) 2), [], []⟩, ⟨("GainKin", some "_hit"), "_hit", "GainKin._hit", defArgs (inClass (topS 36) 3), defBody (inClass (topS 36) 3), defScope (inClass (topS 36) 3), [], []⟩, ⟨("CoinKin", some "is_state"), "is_state", "CoinKin.is_state", defArgs (inClass (topS 37) 1), defBody (inClass (topS 37) 1), defScope (inClass (topS 37) 1), [], []⟩, ⟨("CoinKin", some "_hit"), "_hit", "CoinKin._hit", defArgs (inClass (topS 37) 2), defBody (inClass (topS 37) 2), defScope (inClass (topS 37) 2), [], []⟩, ⟨("MixedKin", some "factor"), "factor", "MixedKin.factor", defArgs (inClass (topS 38) 2), defBody (inClass (topS 38) 2), defScope (inClass (topS 38) 2), [], []⟩, ⟨("MixedKin", some "is_state"), "is_state", "MixedKin.is_state", defArgs (inClass (topS 38) 3), defBody (inClass (topS 38) 3), defScope (inClass (topS 38) 3), [], []⟩, ⟨("MixedKin", some "_hit"), "_hit", "MixedKin._hit", defArgs (inClass (topS 38) 4), defBody (inClass (topS 38) 4), defScope (inClass (topS 38) 4), [], []⟩]
def fn_ : List (DefD) := fn_0 ++ fn_1 ++ fn_2 ++ fn_3
def fs_0 : List (SupD) := [⟨("CarefulKin", some "allowed"), "allowed", "CarefulKin.allowed", inClass (topS 30) 1, "CarefulKin"⟩, ⟨("CarefulKin", some "_refuse"), "_refuse", "CarefulKin._refuse", inClass (topS 30) 2, "CarefulKin"⟩, ⟨("GainKin", some "__init__"), "__init__", "GainKin.__init__", inClass (topS 36) 1, "GainKin"⟩, ⟨("MixedKin", some "__init__"), "__init__", "MixedKin.__init__", inClass (topS 38) 1, "MixedKin"⟩]
def fs_ : List (SupD) := fs_0
def loose_ : List PySem.Str := (["_wall", "__name__", "HuefallError", "InvalidHouse", "InvalidLamp", "InvalidState", "InvalidNumber", "RefusedMove", "DarkLamp", "LitBeneath", "NotReachable", "TooLong", "is_integer", "is_lamp", "bits", "_check_lamp", "_is_wire", "_join_wires", "_turn_round", "_order_list", "House", "is_state", "is_state_states", "need_lamp", "MOST_MOVES", "Kin", "CarefulKin", "WiredKin", "CarefulWiredKin", "_LEAST_SIZE"] : List PySem.Str) ++ (["_MOST_SIZE", "GainKin", "CoinKin", "MixedKin", "_law_is_integer", "_law_is_truth", "_law_same", "_law_is_list", "_law_is_tuple", "_law_start", "_law_draw", "_law_lamp_order", "_law_wires", "_law_passed", "_law_direct", "_law_beneath", "_law_order", "_law_rule", "_law_numbers", "_law_hues_at", "_law_hit", "_law_moved", "_law_next_allowed", "_law_heavy", "_law_greatest", "_law_worth_fits", "_law_run_fits", "_law_sum_fits", "_law_walk_fits", "_law_table_fits", "_law_rule_fits"] : List PySem.Str)
abbrev Rw57 : PySem.W.OpenRow := PySem.W.OpenLaw.row PySem.Challenge.rw_huefall_k57_whole_worth_of_every_rule
def file0 : Str := PySem.Challenge.pw_huefall_k57_whole_worth_of_every_rule.main.file
abbrev hk_ : PySem.W.Hook := hookK 4 file0 fa_ ex_ fn_ fs_
def ob_ (s : PySem.W.SharedT) : AlK := obsKG 4 file0 fa_ ex_ fn_ fs_ (HandSHeadRun.getT s)
theorem ob_eq (s : PySem.W.SharedT) : ob_ s = hk_.obs s.abs := obsKG_eq (HandSHeadRun.getT_eq s)
theorem run_ (w : World) : HandSHeadRun.RunEq Rw57 (PySem.W.view Rw57.prog [67]) hk_ ob_ 8000 loose_ w := by
  intro os
  kernel_rfl
end K57
/-! Plain mathematics of the law, 1: sums over a range, weights, greatest counts, worths. -/
namespace M57

/-- an entry, 0 beyond the end -/
def nth (l : List Int) (i : Nat) : Int := l.getD i 0
def row (T : List (List Nat)) (i : Nat) : List Nat := T.getD i []

/-- the sum of f over 0 .. n - 1 -/
def S : Nat → (Nat → Int) → Int
  | 0, _ => 0
  | n + 1, f => S n f + f n

theorem S_congr {n : Nat} {f g : Nat → Int} (h : ∀ i, i < n → f i = g i) : S n f = S n g := by
  induction n with
  | zero => rfl
  | succ n ih => simp only [S]; rw [ih fun i hi => h i (by omega), h n (by omega)]
theorem S_zero {n : Nat} {f : Nat → Int} (h : ∀ i, i < n → f i = 0) : S n f = 0 := by
  induction n with
  | zero => rfl
  | succ n ih => simp only [S]; rw [ih fun i hi => h i (by omega), h n (by omega)]; rfl
theorem S_add {n : Nat} {f g : Nat → Int} : S n (fun i => f i + g i) = S n f + S n g := by
  induction n with
  | zero => rfl
  | succ n ih => simp only [S]; rw [ih]; omega
theorem S_sub {n : Nat} {f g : Nat → Int} : S n (fun i => f i - g i) = S n f - S n g := by
  induction n with
  | zero => rfl
  | succ n ih => simp only [S]; rw [ih]; omega
theorem S_mul {n : Nat} {f : Nat → Int} {c : Int} : S n (fun i => c * f i) = c * S n f := by
  induction n with
  | zero => simp [S]
  | succ n ih => simp only [S]; rw [ih, Int.mul_add]
theorem S_swap {n m : Nat} {f : Nat → Nat → Int} : S n (fun i => S m (fun j => f i j)) = S m (fun j => S n (fun i => f i j)) := by
  induction n with
  | zero => simp only [S]; exact (S_zero fun _ _ => rfl).symm
  | succ n ih => simp only [S]; rw [ih, ← S_add]
theorem S_le {n : Nat} {f g : Nat → Int} (h : ∀ i, i < n → f i ≤ g i) : S n f ≤ S n g := by
  induction n with
  | zero => exact Int.le_refl _
  | succ n ih => simp only [S]; have := ih fun i hi => h i (by omega); have := h n (by omega); omega
theorem S_nonneg {n : Nat} {f : Nat → Int} (h : ∀ i, i < n → 0 ≤ f i) : 0 ≤ S n f := by
  have := S_le (n := n) (f := fun _ => 0) (g := f) h
  rw [S_zero fun _ _ => rfl] at this; exact this
theorem S_single {n : Nat} {f : Nat → Int} {k : Nat} (hk : k < n) (h : ∀ i, i < n → i ≠ k → f i = 0) : S n f = f k := by
  induction n with
  | zero => omega
  | succ n ih =>
    simp only [S]
    by_cases e : k = n
    · subst e; rw [S_zero fun i hi => h i (by omega) (by omega)]; omega
    · rw [ih (by omega) fun i hi hne => h i (by omega) hne, h n (by omega) (by omega)]; omega
theorem S_ge_one {n : Nat} {f : Nat → Int} {k : Nat} (hk : k < n) (h : ∀ i, i < n → 0 ≤ f i) : f k ≤ S n f := by
  have e := S_single (n := n) (f := fun i => if i = k then f k else 0) hk fun i _ hne => if_neg hne
  have l := S_le (n := n) (f := fun i => if i = k then f k else 0) (g := f) fun i hi => by
    by_cases q : i = k
    · subst q; simp
    · simp only [q, if_false]; exact h i hi
  rw [e] at l; simpa using l
theorem sum_range {n : Nat} {f : Nat → Int} : ((List.range n).map f).sum = S n f := by
  induction n with
  | zero => rfl
  | succ n ih => rw [List.range_succ, List.map_append, List.sum_append, ih]; simp [S]
theorem sum_perm {l m : List Int} (h : l.Perm m) : l.sum = m.sum := by
  induction h with
  | nil => rfl
  | cons x _ ih => simp only [List.sum_cons, ih]
  | swap x y l => simp only [List.sum_cons]; omega
  | trans _ _ a b => exact a.trans b
theorem sum_S {l : List Int} : l.sum = S l.length (nth l) := by
  rw [← sum_range]
  congr 1
  refine List.ext_getElem (by simp) fun i h1 h2 => ?_
  simp [nth, List.getD_eq_getElem?_getD, List.getElem?_eq_getElem h1]
/-- the sum over a list of different places below n, as a sum over all -/
theorem sum_mem {n : Nat} {f : Nat → Int} : ∀ {l : List Nat}, l.Nodup → (∀ x ∈ l, x < n) → (l.map f).sum = S n (fun i => if i ∈ l then f i else 0)
  | [], _, _ => by rw [S_zero fun i _ => by simp]; rfl
  | a :: l, hd, hl => by
    obtain ⟨h1, h2⟩ := List.nodup_cons.mp hd
    have ih := sum_mem (f := f) h2 fun x hx => hl x (List.mem_cons_of_mem _ hx)
    have e : S n (fun i => if i ∈ a :: l then f i else 0) = S n (fun i => (if i = a then f i else 0) + (if i ∈ l then f i else 0)) := S_congr fun i _ => by
      by_cases e : i = a
      · subst e; simp [h1]
      · simp [e]
    rw [e, S_add, ← ih, S_single (hl a List.mem_cons_self) fun i _ hne => if_neg hne]
    simp
theorem sum_filter {n : Nat} {f : Nat → Int} {p : Nat → Bool} {l : List Nat} (hp : l.Perm (List.range n)) : ((l.filter p).map f).sum = S n (fun i => if p i = true then f i else 0) := by
  have e1 : ((l.filter p).map f).sum = (((List.range n).filter p).map f).sum := sum_perm ((hp.filter p).map f)
  rw [e1]
  have nd : ((List.range n).filter p).Nodup := List.Nodup.sublist List.filter_sublist List.nodup_range
  rw [sum_mem nd fun x hx => List.mem_range.mp (List.mem_filter.mp hx).1]
  refine S_congr fun i hi => ?_
  by_cases q : p i = true
  · simp [q, hi]
  · simp [q]

theorem nth_set {l : List Int} {i j : Nat} {v : Int} (h : i < l.length) : nth (l.set i v) j = if j = i then v else nth l j := by
  unfold nth
  simp only [List.getD_eq_getElem?_getD]
  by_cases e : j = i
  · subst e; simp [h]
  · rw [List.getElem?_set_ne (by omega), if_neg e]
theorem nth_eq {l m : List Int} {n : Nat} (hl : l.length = n) (hm : m.length = n) (h : ∀ i, i < n → nth l i = nth m i) : l = m := by
  refine List.ext_getElem (by omega) fun i h1 h2 => ?_
  have := h i (by omega)
  unfold nth at this
  simpa [List.getD_eq_getElem?_getD, List.getElem?_eq_getElem h1, List.getElem?_eq_getElem h2] using this
theorem nth_rep {n j : Nat} : nth (List.replicate n 0) j = 0 := by
  unfold nth
  by_cases h : j < n
  · simp [List.getD_eq_getElem?_getD, h]
  · simp [List.getD_eq_getElem?_getD, h]
theorem nth_out {l : List Int} {i : Nat} (h : l.length ≤ i) : nth l i = 0 := by
  unfold nth; simp [List.getD_eq_getElem?_getD, List.getElem?_eq_none h]

/-! ### the turned lamps and their orders -/
/-- rows of n lamps each, ascending, none of itself by Topo -/
structure Rows (n : Nat) (T : List (List Nat)) : Prop where
  len : T.length = n
  lt : ∀ u, ∀ v ∈ row T u, v < n
  asc : ∀ u, (row T u).Pairwise (· < ·)
theorem Rows.nd {n : Nat} {T : List (List Nat)} (R : Rows n T) (u : Nat) : (row T u).Nodup := (R.asc u).imp fun h => Nat.ne_of_lt h
theorem row_out {n : Nat} {T : List (List Nat)} (R : Rows n T) {u : Nat} (h : n ≤ u) : row T u = [] := by
  unfold row; simp [List.getD_eq_getElem?_getD, List.getElem?_eq_none (by rw [R.len]; exact h : T.length ≤ u)]
/-- O lists every lamp once, each behind those that turn it -/
structure Topo (n : Nat) (T : List (List Nat)) (O : List Nat) : Prop where
  nd : O.Nodup
  mem : ∀ x, x ∈ O ↔ x < n
  ord : ∀ pre v post, O = pre ++ v :: post → ∀ u, u < n → v ∈ row T u → u ∈ pre
theorem Topo.perm {n : Nat} {T : List (List Nat)} {O : List Nat} (t : Topo n T O) : O.Perm (List.range n) :=
  (List.perm_ext_iff_of_nodup t.nd List.nodup_range).mpr fun x => by rw [t.mem, List.mem_range]
theorem Topo.length {n : Nat} {T : List (List Nat)} {O : List Nat} (t : Topo n T O) : O.length = n := by
  have := t.perm.length_eq; rwa [List.length_range] at this
theorem split_of_mem {v : Nat} : ∀ {O : List Nat}, v ∈ O → ∃ pre post, O = pre ++ v :: post := fun h => List.append_of_mem h
/-- induction from the top: a fact that holds of a lamp if it holds of all that turn it -/
theorem Topo.down {n : Nat} {T : List (List Nat)} {O : List Nat} (t : Topo n T O) {p : Nat → Prop} (h : ∀ v, v < n → (∀ u, u < n → v ∈ row T u → p u) → p v) : ∀ v, v < n → p v := by
  have key : ∀ k pre v post, O = pre ++ v :: post → pre.length ≤ k → p v := by
    intro k
    induction k with
    | zero =>
      intro pre v post e hk
      have ep : pre = [] := List.length_eq_zero_iff.mp (by omega)
      subst ep
      refine h v ((t.mem v).mp (by rw [e]; simp)) fun u hu hv => ?_
      exact absurd (t.ord _ _ _ e u hu hv) (by simp)
    | succ k ih =>
      intro pre v post e hk
      refine h v ((t.mem v).mp (by rw [e]; simp)) fun u hu hv => ?_
      obtain ⟨p1, p2, e2⟩ := split_of_mem (t.ord _ _ _ e u hu hv)
      refine ih p1 u (p2 ++ v :: post) (by rw [e, e2]; simp) ?_
      rw [e2] at hk; simp at hk; omega
  intro v hv
  obtain ⟨pre, post, e⟩ := split_of_mem ((t.mem v).mpr hv)
  exact key _ _ _ _ e (Nat.le_refl _)
/-- .. from the bottom -/
theorem Topo.up {n : Nat} {T : List (List Nat)} {O : List Nat} (R : Rows n T) (t : Topo n T O) {p : Nat → Prop} (h : ∀ v, v < n → (∀ w, w ∈ row T v → p w) → p v) : ∀ v, v < n → p v := by
  have key : ∀ k pre v post, O = pre ++ v :: post → post.length ≤ k → p v := by
    intro k
    induction k with
    | zero =>
      intro pre v post e hk
      have ep : post = [] := List.length_eq_zero_iff.mp (by omega)
      subst ep
      refine h v ((t.mem v).mp (by rw [e]; simp)) fun w hw => ?_
      obtain ⟨p1, p2, e2⟩ := split_of_mem ((t.mem w).mpr (R.lt _ _ hw))
      have hv : v ∈ p1 := t.ord _ _ _ e2 v ((t.mem v).mp (by rw [e]; simp)) hw
      have nd := t.nd
      exfalso
      have hl : O.getLast? = some v := by rw [e]; simp
      rw [e2] at hl nd
      have hv2 : v ∈ w :: p2 := by
        rw [List.getLast?_append] at hl
        have : (w :: p2).getLast? = some v := by
          cases q : (w :: p2).getLast? with
          | none => simp at q
          | some z => rw [q] at hl; simpa using hl
        exact List.mem_of_getLast? this
      exact (List.nodup_append.mp nd).2.2 v hv v hv2 rfl
    | succ k ih =>
      intro pre v post e hk
      refine h v ((t.mem v).mp (by rw [e]; simp)) fun w hw => ?_
      obtain ⟨p1, p2, e2⟩ := split_of_mem ((t.mem w).mpr (R.lt _ _ hw))
      have hv : v ∈ p1 := t.ord _ _ _ e2 v ((t.mem v).mp (by rw [e]; simp)) hw
      obtain ⟨q1, q2, e3⟩ := split_of_mem hv
      have e4 : O = q1 ++ v :: (q2 ++ w :: p2) := by rw [e2, e3]; simp
      have nd := t.nd
      -- the same split
      have hp : post = q2 ++ w :: p2 := by
        have e5 : pre ++ v :: post = q1 ++ v :: (q2 ++ w :: p2) := e.symm.trans e4
        rw [e] at nd
        have n1 : v ∉ pre := fun z => (List.nodup_append.mp nd).2.2 v z v List.mem_cons_self rfl
        have n2 : v ∉ q1 := fun z => by
          rw [← e, e4] at nd
          exact (List.nodup_append.mp nd).2.2 v z v List.mem_cons_self rfl
        have aux : ∀ (a b c d : List Nat), a ++ v :: b = c ++ v :: d → v ∉ a → v ∉ c → b = d := by
          intro a
          induction a with
          | nil =>
            intro b c d e na nc
            cases c with
            | nil => simpa using e
            | cons x c => simp at e; exact absurd (e.1 ▸ List.mem_cons_self) nc
          | cons x a ih =>
            intro b c d e na nc
            cases c with
            | nil => simp at e; exact absurd (e.1 ▸ List.mem_cons_self) na
            | cons y c =>
              simp at e
              exact ih b c d e.2 (fun z => na (List.mem_cons_of_mem _ z)) fun z => nc (List.mem_cons_of_mem _ z)
        exact aux _ _ _ _ e5 n1 n2
      refine ih (q1 ++ v :: q2) w p2 (by rw [e4]; simp) ?_
      rw [hp] at hk; simp at hk; omega
  intro v hv
  obtain ⟨pre, post, e⟩ := split_of_mem ((t.mem v).mpr hv)
  exact key _ _ _ _ e (Nat.le_refl _)
theorem Topo.irrefl {n : Nat} {T : List (List Nat)} {O : List Nat} (t : Topo n T O) {v : Nat} (hv : v < n) : v ∉ row T v := fun h => by
  obtain ⟨pre, post, e⟩ := split_of_mem ((t.mem v).mpr hv)
  have nd := t.nd
  rw [e] at nd
  exact (List.nodup_append.mp nd).2.2 v (t.ord _ _ _ e v hv h) v List.mem_cons_self rfl

/-! ### greatest counts -/
/-- the sum of the counts of all lamps that turn v -/
def load (n : Nat) (T : List (List Nat)) (c : List Int) (v : Nat) : Int := S n fun u => if v ∈ row T u then nth c u else 0
structure IsGreat (n : Nat) (T : List (List Nat)) (N s t c : List Int) : Prop where
  len : c.length = n
  eq : ∀ v, v < n → nth c v = nth s v - nth t v + nth N v * load n T c v
theorem IsGreat.uniq {n : Nat} {T : List (List Nat)} {O : List Nat} {N s t c c' : List Int} (tp : Topo n T O) (h : IsGreat n T N s t c) (h' : IsGreat n T N s t c') : c = c' :=
  nth_eq h.len h'.len (tp.down fun v hv ih => by
    rw [h.eq v hv, h'.eq v hv]
    have e : load n T c v = load n T c' v := S_congr fun u hu => by
      by_cases q : v ∈ row T u
      · simp only [q, if_true]; exact ih u hu q
      · simp only [q, if_false]
    rw [e])
theorem snoc_ind {α : Type} {p : List α → Prop} (h0 : p []) (h1 : ∀ l a, p l → p (l ++ [a])) : ∀ l, p l := fun l => by
  have key : ∀ m : List α, p m.reverse := fun m => by
    induction m with
    | nil => exact h0
    | cons a m ih => rw [List.reverse_cons]; exact h1 _ _ ih
  have := key l.reverse
  rwa [List.reverse_reverse] at this
/-- as both the program and the law build them: us is any listing of all lamps -/
def greatStep (T : List (List Nat)) (N s t : List Int) (us : List Nat) (c : List Int) (v : Nat) : List Int :=
  c.set v (nth s v - nth t v + nth N v * ((us.filter fun u => decide (v ∈ row T u)).map (nth c)).sum)
def greatL (n : Nat) (T : List (List Nat)) (N s t : List Int) (us O : List Nat) : List Int := O.foldl (greatStep T N s t us) (List.replicate n 0)
theorem greatStep_len {T : List (List Nat)} {N s t c : List Int} {us : List Nat} {v : Nat} : (greatStep T N s t us c v).length = c.length := List.length_set
theorem foldl_great_len {T : List (List Nat)} {N s t : List Int} {us : List Nat} : ∀ (O : List Nat) (c : List Int), (O.foldl (greatStep T N s t us) c).length = c.length
  | [], _ => rfl
  | v :: O, c => by rw [List.foldl_cons, foldl_great_len O, greatStep_len]
theorem greatL_is {n : Nat} {T : List (List Nat)} {O us : List Nat} {N s t : List Int} (tp : Topo n T O) (hu : us.Perm (List.range n)) : IsGreat n T N s t (greatL n T N s t us O) := by
  have key : ∀ (pre post : List Nat), O = pre ++ post → (∀ v, v ∈ pre → nth (pre.foldl (greatStep T N s t us) (List.replicate n 0)) v = nth s v - nth t v + nth N v * load n T (pre.foldl (greatStep T N s t us) (List.replicate n 0)) v) := by
    intro pre
    induction pre using snoc_ind with
    | h0 => intro _ _ v hv; simp at hv
    | h1 pre w ih =>
      intro post e v hv
      rw [List.foldl_append, List.foldl_cons, List.foldl_nil]
      have ih' := ih (w :: post) (by rw [e]; simp)
      generalize hc : pre.foldl (greatStep T N s t us) (List.replicate n 0) = c at ih'
      have lc : c.length = n := by rw [← hc, foldl_great_len]; simp
      have hw : w < n := (tp.mem w).mp (by rw [e]; simp)
      have e2 : O = pre ++ w :: post := by rw [e]; simp
      have nd := tp.nd
      rw [e2] at nd
      have nw : w ∉ pre := fun z => (List.nodup_append.mp nd).2.2 w z w List.mem_cons_self rfl
      have loadEq : ∀ x, x ∈ pre ++ [w] → load n T (greatStep T N s t us c w) x = load n T c x := fun x hx => S_congr fun u hu' => by
        by_cases q : x ∈ row T u
        · simp only [q, if_true]
          unfold greatStep
          rw [nth_set (by omega)]
          have hne : u ≠ w := by
            rintro rfl
            rcases List.mem_append.mp hx with hx | hx
            · obtain ⟨p1, p2, e3⟩ := split_of_mem hx
              have := tp.ord p1 x (p2 ++ u :: post) (by rw [e2, e3]; simp) u hu' q
              exact nw (by rw [e3]; simp [this])
            · have hxw : x = u := by simpa using hx
              subst hxw
              exact nw (tp.ord _ _ _ e2 x hu' q)
          rw [if_neg hne]
        · simp only [q, if_false]
      by_cases hvw : v = w
      · subst hvw
        rw [loadEq v (by simp)]
        unfold greatStep
        rw [nth_set (by omega), if_pos rfl, sum_filter hu]
        simp only [load, decide_eq_true_eq]
      · have hvp : v ∈ pre := by
          rcases List.mem_append.mp hv with z | z
          · exact z
          · exact absurd (by simpa using z) hvw
        rw [loadEq v (by simp [hvp])]
        unfold greatStep
        rw [nth_set (by omega), if_neg hvw]
        exact ih' v hvp
  refine ⟨by unfold greatL; rw [foldl_great_len]; simp, fun v hv => ?_⟩
  exact key O [] (by simp) v ((tp.mem v).mpr hv)

/-! ### weights -/
structure IsHeavy (n : Nat) (T : List (List Nat)) (N h : List Int) : Prop where
  len : h.length = n
  eq : ∀ v, v < n → nth h v = 1 + ((row T v).map fun w => nth N w * nth h w).sum
theorem map_congr_sum {l : List Nat} {f g : Nat → Int} (h : ∀ x ∈ l, f x = g x) : (l.map f).sum = (l.map g).sum := by
  rw [List.map_congr_left h]
theorem IsHeavy.uniq {n : Nat} {T : List (List Nat)} {O : List Nat} {N h h' : List Int} (R : Rows n T) (tp : Topo n T O) (a : IsHeavy n T N h) (b : IsHeavy n T N h') : h = h' :=
  nth_eq a.len b.len (tp.up R fun v hv ih => by
    rw [a.eq v hv, b.eq v hv]
    rw [map_congr_sum fun w hw => by rw [ih w hw]])
def heavyStep (T : List (List Nat)) (N : List Int) (h : List Int) (v : Nat) : List Int :=
  h.set v (1 + ((row T v).map fun w => nth N w * nth h w).sum)
def heavyL (n : Nat) (T : List (List Nat)) (N : List Int) (O : List Nat) : List Int := O.reverse.foldl (heavyStep T N) (List.replicate n 0)
theorem foldl_heavy_len {T : List (List Nat)} {N : List Int} : ∀ (O : List Nat) (c : List Int), (O.foldl (heavyStep T N) c).length = c.length
  | [], _ => rfl
  | v :: O, c => by rw [List.foldl_cons, foldl_heavy_len O]; exact List.length_set
theorem heavyL_is {n : Nat} {T : List (List Nat)} {O : List Nat} {N : List Int} (R : Rows n T) (tp : Topo n T O) : IsHeavy n T N (heavyL n T N O) := by
  have key : ∀ (post pre : List Nat), O = pre ++ post → (∀ v, v ∈ post → nth (post.reverse.foldl (heavyStep T N) (List.replicate n 0)) v = 1 + ((row T v).map fun w => nth N w * nth (post.reverse.foldl (heavyStep T N) (List.replicate n 0)) w).sum) := by
    intro post
    induction post with
    | nil => intro _ _ v hv; simp at hv
    | cons x post ih =>
      intro pre e v hv
      rw [List.reverse_cons, List.foldl_append, List.foldl_cons, List.foldl_nil]
      have ih' := ih (pre ++ [x]) (by rw [e]; simp)
      generalize hc : post.reverse.foldl (heavyStep T N) (List.replicate n 0) = c at ih'
      have lc : c.length = n := by rw [← hc, foldl_heavy_len]; simp
      have hx : x < n := (tp.mem x).mp (by rw [e]; simp)
      have nd := tp.nd
      rw [e] at nd
      have nx : x ∉ post := (List.nodup_cons.mp (List.nodup_append.mp nd).2.1).1
      have npre : x ∉ pre := fun z => (List.nodup_append.mp nd).2.2 x z x List.mem_cons_self rfl
      have same : ∀ y, y ∈ x :: post → ∀ w ∈ row T y, nth (heavyStep T N c x) w = nth c w := fun y hy w hw => by
        unfold heavyStep
        rw [nth_set (by omega)]
        have hne : w ≠ x := by
          rintro rfl
          have hyn : y < n := (tp.mem y).mp (by rw [e]; exact List.mem_append_right _ hy)
          have := tp.ord _ _ _ e y hyn hw
          exact (List.nodup_append.mp nd).2.2 y this y hy rfl
        rw [if_neg hne]
      rw [map_congr_sum fun w hw => by rw [same v hv w hw]]
      by_cases hvx : v = x
      · subst hvx
        show nth (heavyStep T N c v) v = _
        unfold heavyStep
        rw [nth_set (by omega), if_pos rfl]
      · have hvp : v ∈ post := by
          rcases List.mem_cons.mp hv with z | z
          · exact absurd z hvx
          · exact z
        have : nth (heavyStep T N c x) v = nth c v := by
          unfold heavyStep
          rw [nth_set (by omega), if_neg hvx]
        rw [this]
        exact ih' v hvp
  refine ⟨by unfold heavyL; rw [foldl_heavy_len]; simp, fun v hv => ?_⟩
  exact key O [] (by simp) v ((tp.mem v).mpr hv)
def worth (n : Nat) (h s : List Int) : Int := S n fun v => nth s v * nth h v
/-- the sum of the greatest counts is the difference of the worths -/
theorem great_sum {n : Nat} {T : List (List Nat)} {N h s t c : List Int} (R : Rows n T) (a : IsHeavy n T N h) (g : IsGreat n T N s t c) : c.sum = worth n h s - worth n h t := by
  rw [sum_S, g.len]
  have e1 : S n (nth c) = S n (fun v => nth c v * nth h v) - S n (fun v => S n fun w => if w ∈ row T v then nth c v * (nth N w * nth h w) else 0) := by
    rw [← S_sub]
    refine S_congr fun v hv => ?_
    have hv' := a.eq v hv
    rw [sum_mem (R.nd v) (R.lt v)] at hv'
    have e2 : (S n fun w => if w ∈ row T v then nth c v * (nth N w * nth h w) else 0) = nth c v * S n (fun w => if w ∈ row T v then nth N w * nth h w else 0) := by
      rw [← S_mul]
      refine S_congr fun w _ => ?_
      by_cases q : w ∈ row T v
      · simp only [q, if_true]
      · simp only [q, if_false, Int.mul_zero]
    rw [e2]
    generalize S n (fun w => if w ∈ row T v then nth N w * nth h w else 0) = z at hv'
    rw [hv', Int.mul_add, Int.mul_one]
    omega
  rw [e1, S_swap, ← S_sub]
  unfold worth
  rw [← S_sub]
  refine S_congr fun w hw => ?_
  have e3 : (S n fun v => if w ∈ row T v then nth c v * (nth N w * nth h w) else 0) = (nth N w * nth h w) * load n T c w := by
    unfold load
    rw [← S_mul]
    refine S_congr fun v _ => ?_
    by_cases q : w ∈ row T v
    · simp only [q, if_true]; exact Int.mul_comm _ _
    · simp only [q, if_false, Int.mul_zero]
  rw [e3, g.eq w hw]
  generalize load n T c w = L
  rw [Int.add_mul, Int.sub_mul]
  have : nth N w * nth h w * L = nth N w * L * nth h w := by
    rw [Int.mul_assoc, Int.mul_comm (nth h w) L, ← Int.mul_assoc]
  omega
/-- bounds of the weights: 1 ≤ h, and below 2 ^ 64 for at most 16 lamps and numbers at most 9 -/
theorem heavy_pos {n : Nat} {T : List (List Nat)} {O : List Nat} {N h : List Int} (R : Rows n T) (tp : Topo n T O) (a : IsHeavy n T N h) (hN : ∀ v, v < n → 0 ≤ nth N v) : ∀ v, v < n → 1 ≤ nth h v :=
  tp.up R fun v hv ih => by
    rw [a.eq v hv, sum_mem (R.nd v) (R.lt v)]
    have := S_nonneg (n := n) (f := fun i => if i ∈ row T v then nth N i * nth h i else 0) fun i hi => by
      by_cases q : i ∈ row T v
      · simp only [q, if_true]
        exact Int.mul_nonneg (hN i hi) (by have := ih i q; omega)
      · simp only [q, if_false]; exact Int.le_refl _
    omega
theorem heavy_lt {n : Nat} {T : List (List Nat)} {O : List Nat} {N h : List Int} (R : Rows n T) (tp : Topo n T O) (hn : n ≤ 16) (a : IsHeavy n T N h) (hN : ∀ v, v < n → 0 ≤ nth N v ∧ nth N v ≤ 9) : ∀ v, v < n → nth h v < 2 ^ 64 := by
  have pos := heavy_pos R tp a fun v hv => (hN v hv).1
  -- the weights of the last k lamps together are below 10 ^ k
  have key : ∀ (post pre : List Nat), O = pre ++ post → S n (fun i => if i ∈ post then nth h i else 0) < 10 ^ post.length := by
    intro post
    induction post with
    | nil => intro pre _; rw [S_zero fun i _ => by simp]; decide
    | cons x post ih =>
      intro pre e
      have ih' := ih (pre ++ [x]) (by rw [e]; simp)
      have hx : x < n := (tp.mem x).mp (by rw [e]; simp)
      have nd := tp.nd
      rw [e] at nd
      have nx : x ∉ post := (List.nodup_cons.mp (List.nodup_append.mp nd).2.1).1
      have e1 : S n (fun i => if i ∈ x :: post then nth h i else 0) = nth h x + S n (fun i => if i ∈ post then nth h i else 0) := by
        have e2 : S n (fun i => if i ∈ x :: post then nth h i else 0) = S n (fun i => (if i = x then nth h i else 0) + (if i ∈ post then nth h i else 0)) := S_congr fun i _ => by
          by_cases q : i = x
          · subst q; simp [nx]
          · simp [q]
        rw [e2, S_add, S_single hx fun i _ hne => if_neg hne]
        simp
      have e3 : nth h x ≤ 1 + 9 * S n (fun i => if i ∈ post then nth h i else 0) := by
        rw [a.eq x hx, sum_mem (R.nd x) (R.lt x), ← S_mul]
        have := S_le (n := n) (f := fun i => if i ∈ row T x then nth N i * nth h i else 0) (g := fun i => 9 * (if i ∈ post then nth h i else 0)) fun i hi => by
          by_cases q : i ∈ row T x
          · simp only [q, if_true]
            have hip : i ∈ post := by
              have hO := (tp.mem i).mpr hi
              rw [e] at hO
              rcases List.mem_append.mp hO with z | z
              · obtain ⟨p1, p2, e4⟩ := split_of_mem z
                have hxp := tp.ord p1 i (p2 ++ x :: post) (by rw [e, e4]; simp) x hx q
                exact absurd rfl ((List.nodup_append.mp nd).2.2 x (by rw [e4]; simp [hxp]) x List.mem_cons_self)
              · rcases List.mem_cons.mp z with z | z
                · subst z; exact absurd q (tp.irrefl hx)
                · exact z
            simp only [hip, if_true]
            exact Int.mul_le_mul_of_nonneg_right (hN i hi).2 (by have := pos i hi; omega)
          · simp only [q, if_false]
            by_cases z : i ∈ post
            · simp only [z, if_true]; have := pos i hi; omega
            · simp [z]
        omega
      rw [e1, List.length_cons, Int.pow_succ]
      generalize S n (fun i => if i ∈ post then nth h i else 0) = z at *
      generalize (10 : Int) ^ post.length = y at *
      omega
  intro v hv
  have k := key O [] rfl
  have e : S n (fun i => if i ∈ O then nth h i else 0) = S n (nth h) := S_congr fun i hi => by simp [(tp.mem i).mpr hi]
  rw [e, tp.length] at k
  have g := S_ge_one (n := n) (f := nth h) hv fun i hi => by have := pos i hi; omega
  have b : (10 : Int) ^ n ≤ 10 ^ 16 := by
    have := Nat.pow_le_pow_right (n := 10) (by decide) hn
    exact_mod_cast this
  have c : (10 : Int) ^ 16 < 2 ^ 64 := by decide
  omega
end M57

/-! Plain mathematics of the law, 2: moves, the fall of the worth, runs. -/
namespace M57

/-- the hue of a turned lamp; num: its factor (hues - 1, the gain, its size - 1) -/
def hit (way : Nat) (hues num x : Int) : Int :=
  if way = 4 then (x + num) % hues else if way = 5 then x + num else if way = 6 then (x - 1) % (num + 1) else (x - 1) % hues
/-- a hue of a lamp -/
def Val (way : Nat) (hues num x : Int) : Prop := 0 ≤ x ∧ (way = 5 ∨ (if way = 6 then x ≤ num else x < hues))
/-- the factor that goes with the rule -/
def NumOk (way : Nat) (hues num : Int) : Prop := 1 ≤ num ∧ num ≤ 9 ∧ (if way = 4 then num < hues else if way = 6 then True else num = hues - 1)
section
variable {way : Nat} {hues num x y : Int}
theorem neg_one_mod {m : Int} (h : 0 < m) : (0 - 1 : Int) % m = m - 1 := by
  rw [← Int.add_emod_right, Int.emod_eq_of_lt (by omega) (by omega)]; omega
theorem hit_zero (k : NumOk way hues num) : hit way hues num 0 = num := by
  obtain ⟨h1, h2, h3⟩ := k
  unfold hit
  by_cases e4 : way = 4
  · simp only [e4, if_true] at h3 ⊢
    rw [Int.emod_eq_of_lt (by omega) (by omega)]; omega
  · by_cases e5 : way = 5
    · simp [e5]
    · by_cases e6 : way = 6
      · subst e6
        simp only [if_true]
        show (if (6 : Nat) = 4 then _ else if (6 : Nat) = 5 then _ else (0 - 1 : Int) % (num + 1)) = num
        rw [if_neg (by decide), if_neg (by decide), neg_one_mod (by omega)]
        omega
      · simp only [e4, e5, e6, if_false] at h3 ⊢
        subst h3
        refine neg_one_mod (by omega)
theorem hit_val (k : NumOk way hues num) (v : Val way hues num x) : Val way hues num (hit way hues num x) := by
  obtain ⟨h1, h2, h3⟩ := k
  obtain ⟨v1, v2⟩ := v
  unfold hit Val
  by_cases e4 : way = 4
  · subst e4
    simp at h3 v2 ⊢
    exact ⟨Int.emod_nonneg _ (by omega), Int.emod_lt_of_pos _ (by omega)⟩
  · by_cases e5 : way = 5
    · subst e5; simp; omega
    · by_cases e6 : way = 6
      · subst e6
        simp at v2 ⊢
        exact ⟨Int.emod_nonneg _ (by omega), by have := Int.emod_lt_of_pos (x - 1) (show 0 < num + 1 by omega); omega⟩
      · simp only [e4, e5, e6, if_false, false_or] at h3 v2 ⊢
        exact ⟨Int.emod_nonneg _ (by omega), Int.emod_lt_of_pos _ (by omega)⟩
theorem hit_le (k : NumOk way hues num) (v : Val way hues num x) : hit way hues num x ≤ x + num := by
  obtain ⟨h1, h2, h3⟩ := k
  obtain ⟨v1, v2⟩ := v
  unfold hit
  by_cases e4 : way = 4
  · subst e4
    simp at h3 v2 ⊢
    have a := Int.mul_ediv_add_emod (x + num) hues
    have b : 0 ≤ hues * ((x + num) / hues) := Int.mul_nonneg (by omega) (Int.ediv_nonneg (by omega) (by omega))
    omega
  · by_cases e5 : way = 5
    · subst e5; simp
    · by_cases e6 : way = 6
      · subst e6
        simp at v2 ⊢
        have b := Int.emod_lt_of_pos (x - 1) (show 0 < num + 1 by omega)
        omega
      · simp only [e4, e5, e6, if_false, false_or] at h3 v2 ⊢
        have b := Int.emod_lt_of_pos (x - 1) (show 0 < hues by omega)
        omega
/-- where a lamp has no moves left, its turns add up -/
theorem hit_add (k : NumOk way hues num) (hx : 0 ≤ x) (v : Val way hues num y) (h : x + num ≤ y) : hit way hues num x = x + num := by
  by_cases e0 : x = 0
  · subst e0; rw [hit_zero k]; omega
  · obtain ⟨h1, h2, h3⟩ := k
    obtain ⟨v1, v2⟩ := v
    unfold hit
    by_cases e4 : way = 4
    · subst e4
      simp at h3 v2 ⊢
      exact Int.emod_eq_of_lt (by omega) (by omega)
    · by_cases e5 : way = 5
      · subst e5; simp
      · by_cases e6 : way = 6
        · subst e6; simp at v2; omega
        · simp only [e4, e5, e6, if_false, false_or] at h3 v2 ⊢; omega
theorem val_pred (v : Val way hues num x) (h : 0 < x) : Val way hues num (x - 1) := by
  obtain ⟨v1, v2⟩ := v
  refine ⟨by omega, ?_⟩
  rcases v2 with v2 | v2
  · exact .inl v2
  · right
    by_cases e6 : way = 6
    · simp only [e6, if_true] at v2 ⊢; omega
    · simp only [e6, if_false] at v2 ⊢; omega
end

/-! ### the state of the rule -/
/-- a rule: the way (0 free, 1 careful, 2 wired, 3 careful wired, 4 gain, 5 coin, 6 mixed), the hues, the turned lamps, the factors -/
structure Sys where
  n : Nat
  way : Nat
  hues : Int
  T : List (List Nat)
  N : List Int
  O : List Nat
structure Sys.Ok (Y : Sys) : Prop where
  n1 : 1 ≤ Y.n
  n16 : Y.n ≤ 16
  w6 : Y.way ≤ 6
  h2 : 2 ≤ Y.hues
  h10 : Y.hues ≤ 10
  rows : Rows Y.n Y.T
  topo : Topo Y.n Y.T Y.O
  nlen : Y.N.length = Y.n
  num : ∀ v, v < Y.n → NumOk Y.way Y.hues (nth Y.N v)
/-- a state -/
structure IsSt (Y : Sys) (s : List Int) : Prop where
  len : s.length = Y.n
  val : ∀ v, v < Y.n → Val Y.way Y.hues (nth Y.N v) (nth s v)
def careful (way : Nat) : Bool := way == 1 || way == 3
/-- a move is allowed -/
def Allow (Y : Sys) (s : List Int) (v : Nat) : Prop := 0 < nth s v ∧ (careful Y.way = true → ∀ w ∈ row Y.T v, ¬ 0 < nth s w)
/-- the state behind a move -/
def hitAll (Y : Sys) (ws : List Nat) (s : List Int) : List Int := ws.foldl (fun r w => r.set w (hit Y.way Y.hues (nth Y.N w) (nth r w))) s
def moved (Y : Sys) (s : List Int) (v : Nat) : List Int := hitAll Y (row Y.T v) (s.set v (nth s v - 1))
section
variable {Y : Sys} {s t : List Int} {v : Nat}
theorem hitAll_len : ∀ (ws : List Nat) (s : List Int), (hitAll Y ws s).length = s.length
  | [], _ => rfl
  | w :: ws, s => by unfold hitAll; rw [List.foldl_cons]; exact (hitAll_len ws _).trans List.length_set
theorem moved_len : (moved Y s v).length = s.length := by unfold moved; rw [hitAll_len, List.length_set]
theorem hitAll_nth : ∀ (ws : List Nat) (s : List Int) (x : Nat), ws.Nodup → (∀ w ∈ ws, w < s.length) →
    nth (hitAll Y ws s) x = if x ∈ ws then hit Y.way Y.hues (nth Y.N x) (nth s x) else nth s x
  | [], _, _, _, _ => by simp [hitAll]
  | w :: ws, s, x, nd, hl => by
    obtain ⟨n1, n2⟩ := List.nodup_cons.mp nd
    have e : hitAll Y (w :: ws) s = hitAll Y ws (s.set w (hit Y.way Y.hues (nth Y.N w) (nth s w))) := rfl
    rw [e, hitAll_nth ws _ x n2 (fun z hz => by rw [List.length_set]; exact hl z (List.mem_cons_of_mem _ hz)), nth_set (hl w List.mem_cons_self)]
    by_cases q : x = w
    · subst q; simp [n1]
    · simp [q]
theorem moved_nth (ok : Y.Ok) (hs : s.length = Y.n) (hv : v < Y.n) (x : Nat) :
    nth (moved Y s v) x = if x = v then nth s v - 1 else if x ∈ row Y.T v then hit Y.way Y.hues (nth Y.N x) (nth s x) else nth s x := by
  unfold moved
  rw [hitAll_nth _ _ _ (ok.rows.nd v) fun w hw => by rw [List.length_set, hs]; exact ok.rows.lt v w hw]
  have hvv : v ∉ row Y.T v := ok.topo.irrefl hv
  rw [nth_set (by omega)]
  by_cases q : x = v
  · subst q; simp [hvv]
  · simp [q]
theorem moved_st (ok : Y.Ok) (hs : IsSt Y s) (hv : v < Y.n) (h : 0 < nth s v) : IsSt Y (moved Y s v) := by
  refine ⟨moved_len.trans hs.len, fun x hx => ?_⟩
  rw [moved_nth ok hs.len hv]
  by_cases q : x = v
  · subst q; rw [if_pos rfl]; exact val_pred (hs.val x hx) h
  · rw [if_neg q]
    by_cases r : x ∈ row Y.T v
    · rw [if_pos r]; exact hit_val (ok.num x hx) (hs.val x hx)
    · rw [if_neg r]; exact hs.val x hx
/-- the fall of the worth at a move -/
theorem worth_fall {h : List Int} (ok : Y.Ok) (hh : IsHeavy Y.n Y.T Y.N h) (hs : IsSt Y s) (hv : v < Y.n) (a : Allow Y s v) :
    1 ≤ worth Y.n h s - worth Y.n h (moved Y s v) ∧ (careful Y.way = true ∨ Y.way = 5 → worth Y.n h s - worth Y.n h (moved Y s v) = 1) := by
  have pos := heavy_pos ok.rows ok.topo hh fun v hv => Int.le_trans (by decide) (ok.num v hv).1
  have e : worth Y.n h s - worth Y.n h (moved Y s v) = nth h v - S Y.n fun x => if x ∈ row Y.T v then (hit Y.way Y.hues (nth Y.N x) (nth s x) - nth s x) * nth h x else 0 := by
    unfold worth
    rw [← S_sub]
    have e1 : S Y.n (fun x => if x = v then nth h v else 0) = nth h v := by
      rw [S_single hv fun i _ hne => if_neg hne, if_pos rfl]
    rw [← e1, ← S_sub]
    refine S_congr fun x hx => ?_
    rw [moved_nth ok hs.len hv]
    by_cases q : x = v
    · subst q
      have hvv : x ∉ row Y.T x := ok.topo.irrefl hv
      simp only [hvv, if_true, if_false, Int.sub_mul, Int.one_mul]; omega
    · by_cases r : x ∈ row Y.T v
      · simp only [q, r, if_true, if_false, Int.sub_mul]; omega
      · simp only [q, r, if_false]; omega
  have eh := hh.eq v hv
  rw [sum_mem (ok.rows.nd v) (ok.rows.lt v)] at eh
  have le : (S Y.n fun x => if x ∈ row Y.T v then (hit Y.way Y.hues (nth Y.N x) (nth s x) - nth s x) * nth h x else 0) ≤ S Y.n fun x => if x ∈ row Y.T v then nth Y.N x * nth h x else 0 := S_le fun x hx => by
    by_cases r : x ∈ row Y.T v
    · simp only [r, if_true]
      exact Int.mul_le_mul_of_nonneg_right (by have := hit_le (ok.num x hx) (hs.val x hx); omega) (by have := pos x hx; omega)
    · simp only [r, if_false]; exact Int.le_refl _
  refine ⟨by omega, fun hc => ?_⟩
  have eq : (S Y.n fun x => if x ∈ row Y.T v then (hit Y.way Y.hues (nth Y.N x) (nth s x) - nth s x) * nth h x else 0) = S Y.n fun x => if x ∈ row Y.T v then nth Y.N x * nth h x else 0 := S_congr fun x hx => by
    by_cases r : x ∈ row Y.T v
    · simp only [r, if_true]
      congr 1
      rcases hc with hc | hc
      · have z : nth s x = 0 := by
          have := a.2 hc x r
          have := (hs.val x hx).1
          omega
        rw [z, hit_zero (ok.num x hx)]; omega
      · unfold hit; rw [hc]; simp; omega
    · simp only [r, if_false]
  omega
end

/-! ### a run that plays -/
inductive Plays (Y : Sys) : List Int → List Nat → List Int → Prop
  | nil (s : List Int) : Plays Y s [] s
  | cons {s : List Int} {v : Nat} {r : List Nat} {t : List Int} : v < Y.n → Allow Y s v → Plays Y (moved Y s v) r t → Plays Y s (v :: r) t
theorem Plays.append {Y : Sys} {s t u : List Int} {a b : List Nat} (h : Plays Y s a t) (g : Plays Y t b u) : Plays Y s (a ++ b) u := by
  induction h with
  | nil => exact g
  | cons h1 h2 _ ih => exact .cons h1 h2 (ih g)
theorem Plays.st {Y : Sys} {s t : List Int} {a : List Nat} (ok : Y.Ok) (h : Plays Y s a t) (hs : IsSt Y s) : IsSt Y t := by
  induction h with
  | nil => exact hs
  | cons h1 h2 _ ih => exact ih (moved_st ok hs h1 h2.1)
theorem Plays.lt {Y : Sys} {s t : List Int} {a : List Nat} (h : Plays Y s a t) : ∀ x ∈ a, x < Y.n := by
  induction h with
  | nil => intro x hx; simp at hx
  | cons h1 h2 _ ih =>
    intro x hx
    rcases List.mem_cons.mp hx with rfl | hx
    · exact h1
    · exact ih x hx
theorem count_sum {n : Nat} : ∀ {l : List Nat}, (∀ x ∈ l, x < n) → S n (fun v => ((l.count v : Nat) : Int)) = l.length
  | [], _ => by rw [S_zero fun i _ => by simp]; rfl
  | a :: l, h => by
    have ih := count_sum (l := l) fun x hx => h x (List.mem_cons_of_mem _ hx)
    have e : S n (fun v => (((a :: l).count v : Nat) : Int)) = S n (fun v => ((l.count v : Nat) : Int) + if v = a then 1 else 0) := S_congr fun i _ => by
      rw [List.count_cons]
      by_cases q : i = a
      · subst q; simp
      · have q' : ¬ a = i := fun z => q z.symm
        simp [q, q']
    rw [e, S_add, ih, S_single (h a List.mem_cons_self) fun i _ hne => if_neg hne]
    simp
/-- how often the moves of a run turn w -/
theorem count_turn {n : Nat} {p : Nat → Bool} : ∀ {l : List Nat}, (∀ x ∈ l, x < n) → S n (fun u => if p u = true then ((l.count u : Nat) : Int) else 0) = (l.countP p : Nat)
  | [], _ => by rw [S_zero fun i _ => by simp]; rfl
  | a :: l, h => by
    have ih := count_turn (p := p) (l := l) fun x hx => h x (List.mem_cons_of_mem _ hx)
    have e : S n (fun u => if p u = true then (((a :: l).count u : Nat) : Int) else 0) = S n (fun u => (if p u = true then ((l.count u : Nat) : Int) else 0) + if u = a then (if p a = true then 1 else 0) else 0) := S_congr fun i _ => by
      rw [List.count_cons]
      by_cases q : i = a
      · subst q; by_cases z : p i = true <;> simp [z]
      · have q' : ¬ a = i := fun z => q z.symm
        simp [q, q']
    rw [e, S_add, ih, S_single (h a List.mem_cons_self) fun i _ hne => if_neg hne, List.countP_cons]
    by_cases z : p a = true <;> simp [z]

/-! ### the careful run -/
/-- what a careful run keeps: the counts that are left are the greatest counts from here -/
structure Left (Y : Sys) (s t c : List Int) : Prop where
  st : IsSt Y s
  great : IsGreat Y.n Y.T Y.N s t c
  nn : ∀ v, v < Y.n → 0 ≤ nth c v
def readyB (Y : Sys) (s c : List Int) (v : Nat) : Bool := decide (0 < nth c v) && decide (0 < nth s v) && (row Y.T v).all fun w => decide (¬ 0 < nth s w)
section
variable {Y : Sys} {s t c : List Int} {v : Nat}
theorem hue_le (hc : careful Y.way = true) (ok : Y.Ok) (ht : IsSt Y t) (hv : v < Y.n) : nth t v ≤ nth Y.N v := by
  obtain ⟨_, _, k⟩ := ok.num v hv
  obtain ⟨_, q⟩ := ht.val v hv
  have e : Y.way = 1 ∨ Y.way = 3 := by simpa [careful] using hc
  rcases e with e | e <;> (rw [e] at k q; simp at k q; omega)
theorem Left.ready (hc : careful Y.way = true) (ok : Y.Ok) (ht : IsSt Y t) (L : Left Y s t c) (hp : 0 < c.sum) : ∃ v, v < Y.n ∧ readyB Y s c v = true := by
  -- some lamp has moves left
  have ex : ∃ v, v < Y.n ∧ 0 < nth c v := by
    refine Classical.byContradiction fun hn => ?_
    have z : c.sum = 0 := by
      rw [sum_S, L.great.len]
      exact S_zero fun i hi => by
        have := L.nn i hi
        have : ¬ 0 < nth c i := fun q => hn ⟨i, hi, q⟩
        omega
    omega
  -- some such lamp is lit
  have lit : ∃ v, v < Y.n ∧ 0 < nth c v ∧ 0 < nth s v := by
    refine Classical.byContradiction fun hn => ?_
    have all : ∀ v, v < Y.n → ¬ 0 < nth c v := ok.topo.down fun v hv ih hcv => by
      have l0 : load Y.n Y.T c v = 0 := S_zero fun u hu => by
        by_cases q : v ∈ row Y.T u
        · rw [if_pos q]
          have := ih u hu q
          have := L.nn u hu
          omega
        · rw [if_neg q]
      have e := L.great.eq v hv
      rw [l0, Int.mul_zero] at e
      have := (ht.val v hv).1
      exact hn ⟨v, hv, hcv, by omega⟩
    obtain ⟨v, hv, q⟩ := ex
    exact all v hv q
  -- the lowest of them is ready
  have low : ∀ v, v < Y.n → (0 < nth c v ∧ 0 < nth s v) → ∃ w, w < Y.n ∧ readyB Y s c w = true := ok.topo.up ok.rows fun v hv ih ⟨h1, h2⟩ => by
    by_cases q : ∃ w, w ∈ row Y.T v ∧ 0 < nth s w
    · obtain ⟨w, hw, hsw⟩ := q
      have hwn := ok.rows.lt v w hw
      by_cases z : 0 < nth c w
      · exact ih w hw ⟨z, hsw⟩
      · exfalso
        have c0 : nth c w = 0 := by have := L.nn w hwn; omega
        have e := L.great.eq w hwn
        rw [c0] at e
        have l1 : 1 ≤ load Y.n Y.T c w := by
          have g := S_ge_one (n := Y.n) (f := fun u => if w ∈ row Y.T u then nth c u else 0) hv fun i hi => by
            by_cases r : w ∈ row Y.T i
            · simp only [r, if_true]; exact L.nn i hi
            · simp only [r, if_false]; exact Int.le_refl _
          simp only [hw, if_true] at g
          unfold load; omega
        have tl := hue_le hc ok ht hwn
        have n1 := (ok.num w hwn).1
        have m : nth Y.N w * 1 ≤ nth Y.N w * load Y.n Y.T c w := Int.mul_le_mul_of_nonneg_left l1 (by omega)
        omega
    · refine ⟨v, hv, ?_⟩
      unfold readyB
      simp only [Bool.and_eq_true, decide_eq_true_eq, List.all_eq_true]
      exact ⟨⟨h1, h2⟩, fun w hw z => q ⟨w, hw, z⟩⟩
  obtain ⟨v, hv, q⟩ := lit
  exact low v hv q
theorem readyB_iff : readyB Y s c v = true ↔ 0 < nth c v ∧ 0 < nth s v ∧ ∀ w ∈ row Y.T v, ¬ 0 < nth s w := by
  unfold readyB
  simp only [Bool.and_eq_true, decide_eq_true_eq, List.all_eq_true, and_assoc]
theorem Left.next (ok : Y.Ok) (L : Left Y s t c) (hv : v < Y.n) (r : readyB Y s c v = true) : Left Y (moved Y s v) t (c.set v (nth c v - 1)) := by
  obtain ⟨r1, r2, r3⟩ := readyB_iff.mp r
  have lc := L.great.len
  refine ⟨moved_st ok L.st hv r2, ⟨by rw [List.length_set]; exact lc, fun x hx => ?_⟩, fun x hx => ?_⟩
  · have el : load Y.n Y.T (c.set v (nth c v - 1)) x = load Y.n Y.T c x - if x ∈ row Y.T v then 1 else 0 := by
      unfold load
      have e1 : S Y.n (fun u => if u = v then (if x ∈ row Y.T v then (1 : Int) else 0) else 0) = if x ∈ row Y.T v then 1 else 0 := by
        rw [S_single hv fun i _ hne => if_neg hne, if_pos rfl]
      rw [← e1, ← S_sub]
      refine S_congr fun u hu => ?_
      rw [nth_set (by omega)]
      by_cases q : u = v
      · subst q
        by_cases z : x ∈ row Y.T u <;> simp [z]
      · by_cases z : x ∈ row Y.T u <;> simp [z, q]
    rw [el, nth_set (by omega), moved_nth ok L.st.len hv]
    have e := L.great.eq x hx
    by_cases q : x = v
    · subst q
      have hvv : x ∉ row Y.T x := ok.topo.irrefl hv
      simp only [hvv, if_true, if_false, Int.sub_zero]; omega
    · by_cases z : x ∈ row Y.T v
      · simp only [q, z, if_true, if_false]
        have s0 : nth s x = 0 := by
          have := r3 x z
          have := (L.st.val x hx).1
          omega
        rw [s0, hit_zero (ok.num x hx), Int.mul_sub, Int.mul_one]
        rw [s0] at e
        omega
      · simp only [q, z, if_false, Int.sub_zero]; exact e
  · rw [nth_set (by omega)]
    by_cases q : x = v
    · subst q; rw [if_pos rfl]; omega
    · rw [if_neg q]; exact L.nn x hx
theorem Left.sum_next (L : Left Y s t c) (hv : v < Y.n) : (c.set v (nth c v - 1)).sum = c.sum - 1 := by
  rw [sum_S, sum_S, List.length_set, L.great.len]
  have e1 : S Y.n (fun u => if u = v then (1 : Int) else 0) = 1 := by
    rw [S_single hv fun i _ hne => if_neg hne, if_pos rfl]
  have e2 : S Y.n (nth (c.set v (nth c v - 1))) = S Y.n (fun u => nth c u - if u = v then 1 else 0) := S_congr fun u _ => by
    rw [nth_set (by rw [L.great.len]; exact hv)]
    by_cases q : u = v
    · subst q; simp
    · simp [q]
  rw [e2, S_sub, e1]
theorem Left.done (ok : Y.Ok) (ht : IsSt Y t) (L : Left Y s t c) (h0 : c.sum = 0) : s = t := by
  have z : ∀ v, v < Y.n → nth c v = 0 := fun v hv => by
    rw [sum_S, L.great.len] at h0
    have := S_ge_one (n := Y.n) (f := nth c) hv fun i hi => L.nn i hi
    have := L.nn v hv
    omega
  refine nth_eq L.st.len ht.len fun v hv => ?_
  have e := L.great.eq v hv
  have l0 : load Y.n Y.T c v = 0 := S_zero fun u hu => by
    by_cases q : v ∈ row Y.T u
    · rw [if_pos q]; exact z u hu
    · rw [if_neg q]
  rw [z v hv, l0, Int.mul_zero] at e
  omega
end

/-! ### the normal run: one lamp after the other, each move as early as the hue permits -/
/-- the moves at lamp v put in ahead of the next move of the run: min of hue and moves left -/
abbrev outs (h m : Int) : Nat := (min h m).toNat
/-- state: the longer run so far, the hue, the moves left -/
def putStep (v : Nat) (turn : Nat → Bool) (f : Int → Int) (a : List Nat × Int × Int) (x : Nat) : List Nat × Int × Int :=
  let k := outs a.2.1 a.2.2
  (a.1 ++ List.replicate k v ++ [x], (if turn x = true then f (a.2.1 - k) else a.2.1 - k), a.2.2 - k)
def putAll (v : Nat) (turn : Nat → Bool) (f : Int → Int) (h m : Int) (built : List Nat) : List Nat × Int × Int := built.foldl (putStep v turn f) ([], h, m)
def putRun (v : Nat) (turn : Nat → Bool) (f : Int → Int) (h m : Int) (built : List Nat) : List Nat :=
  let a := putAll v turn f h m built
  a.1 ++ List.replicate (outs a.2.1 a.2.2) v
/-- the hue of lamp v along a run, none where a move at it is not allowed -/
def sim (T : List (List Nat)) (f : Int → Int) (v : Nat) : Int → List Nat → Option Int
  | h, [] => some h
  | h, x :: r => if x = v then (if 0 < h then sim T f v (h - 1) r else none) else if v ∈ row T x then sim T f v (f h) r else sim T f v h r
section
variable {T : List (List Nat)} {f : Int → Int} {v : Nat}
theorem sim_append : ∀ (a b : List Nat) (h : Int), sim T f v h (a ++ b) = (sim T f v h a).bind fun k => sim T f v k b
  | [], b, h => rfl
  | x :: a, b, h => by
    simp only [List.cons_append, sim]
    by_cases e : x = v
    · simp only [e, if_true]
      by_cases q : 0 < h
      · simp only [q, if_true]; exact sim_append a b _
      · simp only [q, if_false]; rfl
    · simp only [e, if_false]
      by_cases q : v ∈ row T x
      · simp only [q, if_true]; exact sim_append a b _
      · simp only [q, if_false]; exact sim_append a b _
theorem sim_rep : ∀ (k : Nat) (h : Int), (k : Int) ≤ h → sim T f v h (List.replicate k v) = some (h - k)
  | 0, h, _ => by simp [sim]
  | k + 1, h, hk => by
    have q : 0 < h := by omega
    simp only [List.replicate_succ, sim, if_true, q]
    rw [sim_rep k (h - 1) (by omega)]
    congr 1; omega
/-- moves at another lamp that doesn't turn v may be left out -/
theorem sim_filter {w : Nat} (hw : w ≠ v) (hn : v ∉ row T w) : ∀ (l : List Nat) (h : Int), sim T f v h l = sim T f v h (l.filter fun x => decide (x ≠ w))
  | [], h => rfl
  | x :: l, h => by
    by_cases e : x = w
    · subst e
      have e2 : (x :: l).filter (fun y => decide (y ≠ x)) = l.filter fun y => decide (y ≠ x) := by simp
      rw [e2, ← sim_filter hw hn l h]
      simp [sim, hw, hn]
    · have e2 : (x :: l).filter (fun y => decide (y ≠ w)) = x :: l.filter fun y => decide (y ≠ w) := by simp [e]
      rw [e2]
      simp only [sim]
      by_cases z : x = v
      · simp only [z, if_true]
        by_cases q : 0 < h
        · simp only [q, if_true]; exact sim_filter hw hn l _
        · simp only [q, if_false]
      · simp only [z, if_false]
        by_cases q : v ∈ row T x
        · simp only [q, if_true]; exact sim_filter hw hn l _
        · simp only [q, if_false]; exact sim_filter hw hn l _
end
section
variable {Y : Sys} {s t c : List Int}
/-- one lamp put in -/
theorem put_ok {way : Nat} {hues num : Int} {T : List (List Nat)} {v : Nat} {h0 m0 tv : Int} {turn : Nat → Bool} {built : List Nat} (k : NumOk way hues num) (hturn : ∀ x ∈ built, turn x = decide (v ∈ row T x)) (hb : ∀ x ∈ built, x ≠ v)
    (v0 : Val way hues num h0) (vt : Val way hues num tv) (m0n : 0 ≤ m0) (e0 : m0 = h0 - tv + num * (built.countP turn : Nat)) :
    let l := putRun v turn (hit way hues num) h0 m0 built
    sim T (hit way hues num) v h0 l = some tv ∧ ((l.count v : Nat) : Int) = m0 ∧ l.filter (fun x => decide (x ≠ v)) = built := by
  have key : ∀ (pre post : List Nat), built = pre ++ post →
      let a := putAll v turn (hit way hues num) h0 m0 pre
      sim T (hit way hues num) v h0 a.1 = some a.2.1 ∧ Val way hues num a.2.1 ∧ 0 ≤ a.2.2 ∧ a.2.2 = a.2.1 - tv + num * (post.countP turn : Nat) ∧ ((a.1.count v : Nat) : Int) = m0 - a.2.2 ∧ a.1.filter (fun x => decide (x ≠ v)) = pre := by
    intro pre
    induction pre using snoc_ind with
    | h0 =>
      intro post e
      have ep : post = built := by simpa using e.symm
      subst ep
      exact ⟨rfl, v0, m0n, e0, by show ((0 : Nat) : Int) = _; show (0 : Int) = m0 - m0; omega, rfl⟩
    | h1 pre x ih =>
      intro post e
      obtain ⟨i1, i2, i3, i4, i5, i6⟩ := ih (x :: post) (by rw [e]; simp)
      have ea : putAll v turn (hit way hues num) h0 m0 (pre ++ [x]) = putStep v turn (hit way hues num) (putAll v turn (hit way hues num) h0 m0 pre) x := by
        unfold putAll; rw [List.foldl_append]; rfl
      rw [ea]
      generalize putAll v turn (hit way hues num) h0 m0 pre = a at i1 i2 i3 i4 i5 i6
      obtain ⟨l, h, m⟩ := a
      simp only at i1 i2 i3 i4 i5 i6
      have hxb : x ∈ built := by rw [e]; simp
      have hxv : x ≠ v := hb x hxb
      have ht := hturn x hxb
      have hpos := i2.1
      generalize hk : outs h m = kk
      have hkk : (kk : Int) = min h m := by rw [← hk]; show ((min h m).toNat : Int) = _; omega
      have vk : Val way hues num (h - kk) := by
        obtain ⟨v1, v2⟩ := i2
        refine ⟨by omega, ?_⟩
        rcases v2 with v2 | v2
        · exact .inl v2
        · right
          by_cases e6 : way = 6
          · simp only [e6, if_true] at v2 ⊢; omega
          · simp only [e6, if_false] at v2 ⊢; omega
      simp only [putStep, hk]
      have s1 : sim T (hit way hues num) v h0 (l ++ List.replicate kk v) = some (h - kk) := by
        rw [sim_append, i1]
        show sim T (hit way hues num) v h (List.replicate kk v) = _
        exact sim_rep kk h (by omega)
      have cnt : (((l ++ List.replicate kk v ++ [x]).count v : Nat) : Int) = m0 - (m - kk) := by
        rw [List.count_append, List.count_append, List.count_replicate_self, List.count_singleton]
        simp only [beq_iff_eq, hxv, if_false]
        omega
      have fil : (l ++ List.replicate kk v ++ [x]).filter (fun y => decide (y ≠ v)) = pre ++ [x] := by
        rw [List.filter_append, List.filter_append, i6]
        have : (List.replicate kk v).filter (fun y => decide (y ≠ v)) = [] := by
          rw [List.filter_eq_nil_iff]
          intro y hy
          have := List.eq_of_mem_replicate hy
          simp [this]
        rw [this]; simp [hxv]
      rw [List.countP_cons] at i4
      by_cases q : v ∈ row T x
      · have tx : turn x = true := by rw [ht]; simp [q]
        simp only [tx, if_true] at i4 ⊢
        refine ⟨?_, hit_val k vk, by omega, ?_, cnt, fil⟩
        · rw [sim_append, s1]
          show sim T (hit way hues num) v (h - kk) [x] = _
          simp only [sim, hxv, q, if_true, if_false]
        · have hm : hit way hues num (h - kk) = (h - kk) + num := by
            by_cases z : h ≤ m
            · have : h - kk = 0 := by omega
              rw [this, hit_zero k]; omega
            · have hm0 : m - kk = 0 := by omega
              refine hit_add k vk.1 vt ?_
              have i4' : m = h - tv + num * (((post.countP turn : Nat) : Int) + 1) := by simpa using i4
              rw [Int.mul_add, Int.mul_one] at i4'
              have nn : 0 ≤ num * ((post.countP turn : Nat) : Int) := Int.mul_nonneg (by have := k.1; omega) (by omega)
              omega
          rw [hm]
          have i4' : m = h - tv + num * (((post.countP turn : Nat) : Int) + 1) := by simpa using i4
          rw [Int.mul_add, Int.mul_one] at i4'
          omega
      · have tx : turn x = false := by rw [ht]; simp [q]
        rw [tx] at i4 ⊢
        have i4' : m = h - tv + num * ((post.countP turn : Nat) : Int) := i4
        simp only [Bool.false_eq_true, if_false]
        refine ⟨?_, vk, by omega, by omega, cnt, fil⟩
        rw [sim_append, s1]
        show sim T (hit way hues num) v (h - kk) [x] = _
        simp only [sim, hxv, q, if_false]
  obtain ⟨i1, i2, i3, i4, i5, i6⟩ := key built [] (by simp)
  unfold putRun
  generalize putAll v turn (hit way hues num) h0 m0 built = a at i1 i2 i3 i4 i5 i6
  obtain ⟨l, h, m⟩ := a
  simp only at i1 i2 i3 i4 i5 i6 ⊢
  have hpos := i2.1
  have tpos := vt.1
  have i4' : m = h - tv := by simpa using i4
  generalize hk : outs h m = kk
  have hkk : (kk : Int) = min h m := by rw [← hk]; show ((min h m).toNat : Int) = _; omega
  refine ⟨?_, ?_, ?_⟩
  · rw [sim_append, i1]
    show sim T (hit way hues num) v h (List.replicate kk v) = _
    rw [sim_rep kk h (by omega)]
    congr 1; omega
  · rw [List.count_append, List.count_replicate_self]; omega
  · rw [List.filter_append, i6]
    have : (List.replicate kk v).filter (fun y => decide (y ≠ v)) = [] := by
      rw [List.filter_eq_nil_iff]
      intro y hy
      have := List.eq_of_mem_replicate hy
      simp [this]
    rw [this]; simp
/-- what holds of the run behind the lamps of pre -/
structure Put (Y : Sys) (s t c : List Int) (pre l : List Nat) : Prop where
  mem : ∀ x ∈ l, x ∈ pre
  sim : ∀ v, v ∈ pre → M57.sim Y.T (hit Y.way Y.hues (nth Y.N v)) v (nth s v) l = some (nth t v)
  cnt : ∀ v, v ∈ pre → ((l.count v : Nat) : Int) = nth c v
def turnB (T : List (List Nat)) (v x : Nat) : Bool := decide (v ∈ row T x)
theorem Put.nil : Put Y s t c [] [] := ⟨fun _ h => h, fun _ h => by simp at h, fun _ h => by simp at h⟩
theorem Put.next (ok : Y.Ok) (hs : IsSt Y s) (ht : IsSt Y t) (g : IsGreat Y.n Y.T Y.N s t c) (nn : ∀ v, v < Y.n → 0 ≤ nth c v) {pre post l : List Nat} {v : Nat} (eO : Y.O = pre ++ v :: post) (p : Put Y s t c pre l) :
    Put Y s t c (pre ++ [v]) (putRun v (turnB Y.T v) (hit Y.way Y.hues (nth Y.N v)) (nth s v) (nth c v) l) := by
  have tp := ok.topo
  have hv : v < Y.n := (tp.mem v).mp (by rw [eO]; simp)
  have nd := tp.nd
  rw [eO] at nd
  have nv : v ∉ pre := fun z => (List.nodup_append.mp nd).2.2 v z v List.mem_cons_self rfl
  have lt : ∀ x ∈ l, x < Y.n := fun x hx => (tp.mem x).mp (by rw [eO]; exact List.mem_append_left _ (p.mem x hx))
  have el : load Y.n Y.T c v = (l.countP (turnB Y.T v) : Nat) := by
    rw [← count_turn (n := Y.n) lt]
    refine S_congr fun u hu => ?_
    by_cases q : v ∈ row Y.T u
    · simp only [turnB, q, decide_true, if_true]
      exact (p.cnt u (tp.ord _ _ _ eO u hu q)).symm
    · simp [turnB, q]
  obtain ⟨a1, a2, a3⟩ := put_ok (T := Y.T) (turn := turnB Y.T v) (built := l) (v := v) (h0 := nth s v) (m0 := nth c v) (tv := nth t v) (ok.num v hv) (fun x _ => rfl) (fun x hx e => nv (e ▸ p.mem x hx)) (hs.val v hv) (ht.val v hv) (nn v hv) (by
    rw [← el]; exact g.eq v hv)
  generalize putRun v (turnB Y.T v) (hit Y.way Y.hues (nth Y.N v)) (nth s v) (nth c v) l = l' at a1 a2 a3
  refine ⟨fun x hx => ?_, fun u hu => ?_, fun u hu => ?_⟩
  · by_cases e : x = v
    · simp [e]
    · have : x ∈ l := by rw [← a3]; exact List.mem_filter.mpr ⟨hx, by simp [e]⟩
      simp [p.mem x this]
  · by_cases e : u = v
    · subst e; exact a1
    · have hup : u ∈ pre := by
        rcases List.mem_append.mp hu with z | z
        · exact z
        · exact absurd (by simpa using z) e
      have hun : u < Y.n := (tp.mem u).mp (by rw [eO]; simp [hup])
      have nt : u ∉ row Y.T v := fun z => by
        obtain ⟨p1, p2, e2⟩ := split_of_mem hup
        have := tp.ord p1 u (p2 ++ v :: post) (by rw [eO, e2]; simp) v hv z
        exact nv (by rw [e2]; simp [this])
      rw [sim_filter (fun z => e z.symm) nt, a3]
      exact p.sim u hup
  · by_cases e : u = v
    · subst e; exact a2
    · have hup : u ∈ pre := by
        rcases List.mem_append.mp hu with z | z
        · exact z
        · exact absurd (by simpa using z) e
      rw [← p.cnt u hup, ← a3, List.count_filter (by simp [e])]
/-- such a run of all lamps plays -/
theorem sim_plays (ok : Y.Ok) (hc : careful Y.way = false) : ∀ (l : List Nat) (s t : List Int), IsSt Y s → t.length = Y.n → (∀ x ∈ l, x < Y.n) → (∀ v, v < Y.n → sim Y.T (hit Y.way Y.hues (nth Y.N v)) v (nth s v) l = some (nth t v)) → Plays Y s l t
  | [], s, t, hs, ht, _, h => by
    have e : s = t := nth_eq hs.len ht fun v hv => by
      have := h v hv
      simpa [sim] using this
    subst e
    exact .nil s
  | x :: l, s, t, hs, ht, hl, h => by
    have hx := hl x List.mem_cons_self
    have hx0 : 0 < nth s x := by
      refine Classical.byContradiction fun q => ?_
      have := h x hx
      simp [sim, q] at this
    refine .cons hx ⟨hx0, fun z => by rw [hc] at z; cases z⟩ (sim_plays ok hc l _ _ (moved_st ok hs hx hx0) ht (fun y hy => hl y (List.mem_cons_of_mem _ hy)) fun v hv => ?_)
    have e := h v hv
    rw [moved_nth ok hs.len hx]
    by_cases q : v = x
    · subst q
      simp only [sim, if_true, hx0] at e
      rw [if_pos rfl]; exact e
    · have q' : ¬ x = v := fun z => q z.symm
      rw [if_neg q]
      simp only [sim, q', if_false] at e
      by_cases r : v ∈ row Y.T x
      · simp only [r, if_true] at e ⊢; exact e
      · simp only [r, if_false] at e ⊢; exact e
theorem Put.plays (ok : Y.Ok) (hc : careful Y.way = false) (hs : IsSt Y s) (ht : IsSt Y t) {l : List Nat} (p : Put Y s t c Y.O l) : Plays Y s l t :=
  sim_plays ok hc l s t hs ht.len (fun x hx => (ok.topo.mem x).mp (p.mem x hx)) fun v hv => p.sim v ((ok.topo.mem v).mpr hv)
end
end M57

set_option Elab.async false
set_option linter.all false
set_option maxRecDepth 100000
set_option maxHeartbeats 4000000
/-! The walk, 0: the text by places, defs and methods as bundles, the built-in names. -/
namespace K57
open PySem PySem.Spec PyProof.Rows L2 Evl

section
variable {P : Program} {w : World} {K : PySem.W.Frag} {mg : Str → Option Value} {base : Heap}
/-- the module's name y stands for the def st, written as x -/
structure DefIs (K : PySem.W.Frag) (mg : Str → Option Value) (y x : Str) (st : Stmt) (ps : List Str) : Prop where
  ex : ∃ f fd, mg y = some (.ref f) ∧ FunD K x x (defArgs st) (defBody st) (defScope st) [] [] f fd ∧ Binds K fd ps []
/-- .. which keeps the promise sp -/
structure DefOk (P : Program) (w : World) (K : PySem.W.Frag) (mg : Str → Option Value) (base : Heap) (y : Str) (k : Nat) (ps : List Str) (sp : Sp) : Prop where
  ex : ∃ f fd, mg y = some (.ref f) ∧ PySem.W.keepIn K (.ref f) = true ∧ Binds K fd ps [] ∧ FnOk P w K mg base CX0 k f fd ps sp
theorem DefIs.ok {y x : Str} {st : Stmt} {N ps : List Str} {k : Nat} {sp : Sp} (I : DefIs K mg y x st ps) (S : FnScope N ps (defScope st)) (len : ∀ vs H Q E, sp vs H Q E → vs.length = ps.length)
    (hbody : ∀ (f : Addr) (cdv : Value) (A : Around) (outer : List Env) (s : Shared) (H : Hp) (vs : List V) (Q : VK) (E : XK), Room k (A.deeper (envOfC x (defScope st) s.heap.objs.size f cdv)) → sp vs H Q E →
      ∃ t, PSs (cxOf CX0 P w K mg base N x (defScope st) f cdv A outer s H E).nox (defBody st) t ∧ t { nx := fun _ H' => Q .non H', rt := Q } (start N vs) H) : DefOk P w K mg base y (k + 1) ps sp := by
  obtain ⟨f, fd, m, F, b⟩ := I.ex
  refine ⟨f, fd, m, F.kp, b, F.ok S len fun cdv A outer s H vs Q E hr h => ?_⟩
  obtain ⟨t, h1, h2⟩ := hbody f cdv A outer s H vs Q E hr h
  exact ⟨t, h1.nox, h2⟩
theorem DefOk.mono {y : Str} {j k : Nat} {ps : List Str} {sp : Sp} (D : DefOk P w K mg base y j ps sp) (h : j ≤ k) : DefOk P w K mg base y k ps sp := by
  obtain ⟨f, fd, a, b, c, d⟩ := D.ex
  exact ⟨f, fd, a, b, c, d.mono h⟩
theorem DefOk.imp {y : Str} {k : Nat} {ps : List Str} {sp sp' : Sp} (D : DefOk P w K mg base y k ps sp) (h : ∀ vs H Q E, sp' vs H Q E → sp vs H Q E) : DefOk P w K mg base y k ps sp' := by
  obtain ⟨f, fd, a, b, c, d⟩ := D.ex
  exact ⟨f, fd, a, b, c, d.imp h⟩
/-- the method m of the class at C: the def st, written as x in the class qual names -/
structure MethIs (K : PySem.W.Frag) (C : Addr) (m x qual : Str) (st : Stmt) (ps : List Str) : Prop where
  ex : ∃ f fd, Meth K C m f ∧ FunD K x qual (defArgs st) (defBody st) (defScope st) [] [] f fd ∧ Binds K fd ps []
structure MethOk (P : Program) (w : World) (K : PySem.W.Frag) (mg : Str → Option Value) (base : Heap) (C : Addr) (m : Str) (k : Nat) (ps : List Str) (dvs : List V) (sp : Sp) : Prop where
  ex : ∃ f fd ds, Meth K C m f ∧ Binds K fd ps ds ∧ Vals dvs ds ∧ FnOk P w K mg base CX0 k f fd ps sp
theorem MethIs.ok {C : Addr} {m x qual : Str} {st : Stmt} {N ps : List Str} {k : Nat} {sp : Sp} (I : MethIs K C m x qual st ps) (S : FnScope N ps (defScope st)) (len : ∀ vs H Q E, sp vs H Q E → vs.length = ps.length)
    (hbody : ∀ (f : Addr) (cdv : Value) (A : Around) (outer : List Env) (s : Shared) (H : Hp) (vs : List V) (Q : VK) (E : XK), Room k (A.deeper (envOfC qual (defScope st) s.heap.objs.size f cdv)) → sp vs H Q E →
      ∃ t, PSs (cxOf CX0 P w K mg base N qual (defScope st) f cdv A outer s H E).nox (defBody st) t ∧ t { nx := fun _ H' => Q .non H', rt := Q } (start N vs) H) : MethOk P w K mg base C m (k + 1) ps [] sp := by
  obtain ⟨f, fd, hm, F, b⟩ := I.ex
  refine ⟨f, fd, [], hm, b, .nil, F.ok S len fun cdv A outer s H vs Q E hr h => ?_⟩
  obtain ⟨t, h1, h2⟩ := hbody f cdv A outer s H vs Q E hr h
  exact ⟨t, h1.nox, h2⟩
theorem MethOk.mono {C : Addr} {m : Str} {j k : Nat} {ps : List Str} {dvs : List V} {sp : Sp} (D : MethOk P w K mg base C m j ps dvs sp) (h : j ≤ k) : MethOk P w K mg base C m k ps dvs sp := by
  obtain ⟨f, fd, ds, a, b, c, d⟩ := D.ex
  exact ⟨f, fd, ds, a, b, c, d.mono h⟩
end
section
variable {X : Cx} {x : Str} {k : Nat} {ps : List Str} {sp : Sp} {e : Expr} {es : List Expr} {t : TA} {ta : TE} {pos p apos : Pos} {o : Expr} {m : Str} {C : Addr} {dvs : List V}
theorem pe_callD (D : DefOk X.prog X.w X.K X.mg X.base x k ps sp) (hr : Room k X.A) (ha : PA X (e :: es) t) (hg : Gl X x := by rfl) (hdb : (x == ("__debug__" : Str)) = false := by decide)
    (he : starEach (e :: es) X.env = (false, eval e X.env) :: starEach es X.env := by rfl) (hpl : (backTo pos (starEach es X.env)).any (·.1) = false := by rfl) :
    PE X (.Call (.Name x p) (e :: es) [] pos) (tCall sp [] E0 t) := by
  obtain ⟨f, fd, a, b, c, d⟩ := D.ex
  exact pe_call d hr hg a b c .nil pass0 ha hdb he hpl
theorem pe_methD {pl : Sem Bool} (D : MethOk X.prog X.w X.K X.mg X.base C m k ps dvs sp) (c : Cls X.K C) (hr : Room k X.A) (he : PE X o ta) (ha : PA X (e :: es) t)
    (hst : starEach (e :: es) X.env = (false, eval e X.env) :: starEach es X.env := by rfl) (hpl : (backTo pos (starEach es X.env)).any (·.1) = false := by rfl)
    (ht : eval (.Call (.Attribute o m apos) (e :: es) [] pos) X.env = (do
      let ov ← eval o X.env
      standAt apos.atName
      let (f, first) ← holding [ov] (getMethod ov m pl)
      callWith pos f first (backTo pos (starEach (e :: es) X.env)) (backToKw pos (keywordEach [] X.env))) := by rfl) :
    PE X (.Call (.Attribute o m apos) (e :: es) [] pos) (tMeth C m sp dvs E0 ta t) := by
  obtain ⟨f, fd, ds, a, b, v, d⟩ := D.ex
  exact pe_meth (pl := pl) he c a d hr b v pass0 ha hst hpl ht
theorem pe_methD0 {pl : Sem Bool} (D : MethOk X.prog X.w X.K X.mg X.base C m k ps dvs sp) (c : Cls X.K C) (hr : Room k X.A) (he : PE X o ta)
    (ht : eval (.Call (.Attribute o m apos) [] [] pos) X.env = (do
      let ov ← eval o X.env
      standAt apos.atName
      let (f, first) ← holding [ov] (getMethod ov m pl)
      callWith pos f first (backTo pos (starEach [] X.env)) (backToKw pos (keywordEach [] X.env))) := by rfl) :
    PE X (.Call (.Attribute o m apos) [] [] pos) (tMeth C m sp dvs E0 ta tNil) := by
  obtain ⟨f, fd, ds, a, b, v, d⟩ := D.ex
  exact pe_meth0 (pl := pl) he c a d hr b v pass0 ht
end

/-- the built-in names that the text uses -/
structure Bi (mg : Str → Option Value) : Prop where
  isinstance : mg "isinstance" = none
  int : mg "int" = none
  bool : mg "bool" = none
  list : mg "list" = none
  tuple : mg "tuple" = none
  len : mg "len" = none
  range : mg "range" = none
  sum : mg "sum" = none
  min : mg "min" = none
  sorted : mg "sorted" = none
  enumerate : mg "enumerate" = none
  zip : mg "zip" = none
  reversed : mg "reversed" = none
  all : mg "all" = none
  super : mg "super" = none

/-! ### lists of numbers as values -/
abbrev vi (l : List Int) : List V := l.map V.int
abbrev vn (l : List Nat) : List V := l.map fun k : Nat => V.int (k : Int)
end K57

set_option Elab.async false
set_option linter.all false
set_option maxRecDepth 100000
set_option maxHeartbeats 4000000
namespace K57
open PySem PySem.Spec PyProof.Rows L2 Evl M57
section
variable {P : Program} {w : World} {K : PySem.W.Frag} {mg : Str → Option Value} {base : Heap}
/-- a list or a tuple -/
def SqA (H : Hp) (a : Addr) (xs : List V) : Prop := H a = some (.lst xs) ∨ H a = some (.tup xs)
theorem SqA.mono {H H' : Hp} {a : Addr} {xs : List V} (e : Ex H H') (h : SqA H a xs) : SqA H' a xs := h.imp (e _ _) (e _ _)
theorem ixA {H : Hp} {a : Addr} {xs : List V} {i : Nat} {v : V} {Q : VK} (h : SqA H a xs) (hi : xs[i]? = some v) (q : Q v H) : rIx K (.ref a) (.int (i : Int)) H Q := by
  rcases h with h | h
  · exact .inl ⟨a, xs, _, v, rfl, rfl, SqL.of h, atI_nat hi, q⟩
  · exact .inr (.inl ⟨a, xs, _, v, rfl, rfl, SqT.of h, atI_nat hi, q⟩)

theorem vi_nth {xs : List Int} {i : Nat} (h : i < xs.length) : (vi xs)[i]? = some (.int (nth xs i)) := by
  unfold vi nth
  rw [List.getElem?_map, List.getElem?_eq_getElem h, List.getD_eq_getElem?_getD, List.getElem?_eq_getElem h]
  rfl
abbrev s__law_is_integer : Stmt := topS 40
theorem sc__law_is_integer : FnScope ["_law_value"] ["_law_value"] (defScope s__law_is_integer) := ⟨rfl, rfl, rfl, by decide +kernel, rfl, by decide +kernel, by decide +kernel⟩
def sp_isint : Sp := fun vs H Q _ => ∃ i : Int, vs = [.int i] ∧ ∀ H', Ex H H' → Q (.bl true) H'
theorem d_isint (B : Bi mg) (I : DefIs K mg "_law_is_integer" "_law_is_integer" s__law_is_integer ["_law_value"]) : DefOk P w K mg base "_law_is_integer" 1 ["_law_value"] sp_isint := by
  refine I.ok sc__law_is_integer (fun vs H Q E h => ?_) (fun f cdv A outer s H vs Q E hr h => ?_)
  · obtain ⟨i, rfl, _⟩ := h; rfl
  · obtain ⟨i, rfl, k⟩ := h
    refine ⟨_, (pss_one (ps_ret (pe_and (pe_callB call_isi (by rfl) B.isinstance boot_isinstance (pa_cons (pv 0) (pa_cons (pe_bltn (v := .ty "int") (by rfl) B.int boot_int rfl) pa_nil))) (pe_one (pe_not (pe_callB call_isi (by rfl) B.isinstance boot_isinstance (pa_cons (pv 0) (pa_cons (pe_bltn (v := .ty "bool") (by rfl) B.bool boot_bool rfl) pa_nil)))))))), ?_⟩
    refine ⟨_, rfl, _, _, _, _, true, rfl, .ty _, .base (.int _), kit_ty (by decide +kernel), true, rfl, iteT ?_⟩
    refine ⟨_, rfl, _, _, _, _, false, rfl, .ty _, .base (.int _), kit_ty (by decide +kernel), false, rfl, ?_⟩
    exact k H (Ex.refl H)

abbrev s__law_is_truth : Stmt := topS 41
theorem sc__law_is_truth : FnScope ["_law_value", "_law_due"] ["_law_value", "_law_due"] (defScope s__law_is_truth) := ⟨rfl, rfl, rfl, by decide +kernel, rfl, by decide +kernel, by decide +kernel⟩
def sp_istruth : Sp := fun vs H Q _ => ∃ b : Bool, vs = [.bl b, .bl b] ∧ ∀ H', Ex H H' → Q (.bl true) H'
theorem d_istruth (B : Bi mg) (I : DefIs K mg "_law_is_truth" "_law_is_truth" s__law_is_truth ["_law_value", "_law_due"]) : DefOk P w K mg base "_law_is_truth" 1 ["_law_value", "_law_due"] sp_istruth := by
  refine I.ok sc__law_is_truth (fun vs H Q E h => ?_) (fun f cdv A outer s H vs Q E hr h => ?_)
  · obtain ⟨i, rfl, _⟩ := h; rfl
  · obtain ⟨b, rfl, k⟩ := h
    refine ⟨_, (pss_one (ps_ret (pe_and (pe_callB call_isi (by rfl) B.isinstance boot_isinstance (pa_cons (pv 0) (pa_cons (pe_bltn (v := .ty "bool") (by rfl) B.bool boot_bool rfl) pa_nil))) (pe_one (pe_cmpR op_eq (pv 0) (pv 1) (nomark _)))))), ?_⟩
    refine ⟨_, rfl, _, _, _, _, true, rfl, .ty _, .base (.bl _), kit_ty (by decide +kernel), true, rfl, iteT ?_⟩
    refine ⟨_, rfl, _, rfl, rfl, ?_⟩
    rw [decide_eq_true rfl]
    exact k H (Ex.refl H)

abbrev s__law_same : Stmt := topS 42
theorem sc__law_same : FnScope ["_law_value", "_law_due", "_law_k"] ["_law_value", "_law_due"] (defScope s__law_same) := ⟨rfl, rfl, rfl, by decide +kernel, rfl, by decide +kernel, by decide +kernel⟩
def sp_same : Sp := fun vs H Q _ => ∃ (a b : Addr) (xs : List Int), vs = [.ref a, .ref b] ∧ xs.length ≤ 1000 ∧ SqA H a (vi xs) ∧ SqA H b (vi xs) ∧ ∀ H', Ex H H' → Q (.bl true) H'
theorem lenA {H : Hp} {a : Addr} {xs : List V} (h : SqA H a xs) : LenV K (.ref a) H xs.length := by
  rcases h with h | h
  · exact .inl ⟨_, SqL.of h, rfl⟩
  · exact .inr ⟨_, SqT.of h, rfl⟩
theorem d_same (B : Bi mg) (D__law_is_integer : DefOk P w K mg base "_law_is_integer" 1 ["_law_value"] sp_isint) (I : DefIs K mg "_law_same" "_law_same" s__law_same ["_law_value", "_law_due"]) : DefOk P w K mg base "_law_same" 2 ["_law_value", "_law_due"] sp_same := by
  refine I.ok sc__law_same (fun vs H Q E h => ?_) (fun f cdv A outer s H vs Q E hr h => ?_)
  · obtain ⟨_, _, _, rfl, _⟩ := h; rfl
  · obtain ⟨a, b, xs, rfl, hl, ha, hb, k⟩ := h
    refine ⟨_, (pss_cons (ps_if (pt_cmpR op_ne (pe_callB call_len (by rfl) B.len PySem.boot_len (pa_cons (pv 0) pa_nil)) (pe_callB call_len (by rfl) B.len PySem.boot_len (pa_cons (pv 1) pa_nil)) (nomark _))
      (pss_one (ps_ret pe_bl))
      pss_nil)
      (pss_cons (ps_for PassesOwn.never rfl (pi_range1 rfl B.range (pa_cons (pe_callB call_len (by rfl) B.len PySem.boot_len (pa_cons (pv 1) pa_nil)) pa_nil)) (pg_name (i := 2) sc__law_same.nd rfl (Or.inl rfl))
      (pss_one (ps_if (PW.pt (pw_or (pt_not (pt_val (pe_callD D__law_is_integer (hr.mono (by decide)) (pa_cons (pe_ix ix_seq (pv 0) (pv 2) (fun _ _ => rfl)) pa_nil)))) (pw_or1 (pt_cmpR op_ne (pe_ix ix_seq (pv 0) (pv 2) (fun _ _ => rfl)) (pe_ix ix_seq (pv 1) (pv 2) (fun _ _ => rfl)) (nomark _)))))
        (pss_one (ps_ret pe_bl))
        pss_nil)))
      (pss_one (ps_ret pe_bl)))), ?_⟩
    refine ⟨_, rfl, _, _, rfl, lenA ha, _, rfl, _, _, rfl, lenA hb, rfl, _, rfl, ?_⟩
    refine iteNS rfl ?_
    have hl' : (vi xs).length = xs.length := List.length_map ..
    refine ⟨_, rfl, _, _, rfl, lenA hb, _, rfl, by omega, by omega, ?_⟩
    rw [hl']
    refine for_range (n := xs.length) (lo := 0) (fun i σ H' => Ex H H' ∧ ∃ v, σ = [some (.ref a), some (.ref b), v]) ⟨Ex.refl H, _, rfl⟩ ?_ ?_
    · rintro i σ H' hi ⟨e, v, rfl⟩
      rw [Int.zero_add]
      have hx : (vi xs)[i]? = some (.int (nth xs i)) := vi_nth hi
      refine ⟨_, rfl, _, rfl, ixA (ha.mono e) hx ⟨_, rfl, fun H2 e2 => ⟨_, rfl, iteF ?_⟩⟩⟩
      refine ⟨_, rfl, _, rfl, ixA ((ha.mono e).mono e2) hx ⟨_, rfl, _, rfl, ixA ((hb.mono e).mono e2) hx ⟨rfl, _, rfl, ?_⟩⟩⟩
      refine iteNS rfl ?_
      exact ⟨e.trans e2, _, rfl⟩
    · rintro σ H' ⟨e, v, rfl⟩
      exact k H' e
abbrev s__law_is_list : Stmt := topS 43
theorem sc__law_is_list : FnScope ["_law_value", "_law_due"] ["_law_value", "_law_due"] (defScope s__law_is_list) := ⟨rfl, rfl, rfl, by decide +kernel, rfl, by decide +kernel, by decide +kernel⟩
def sp_islist : Sp := fun vs H Q _ => ∃ (a b : Addr) (xs : List Int), vs = [.ref a, .ref b] ∧ xs.length ≤ 1000 ∧ H a = some (.lst (vi xs)) ∧ H b = some (.lst (vi xs)) ∧ ∀ H', Ex H H' → Q (.bl true) H'
theorem d_islist (B : Bi mg) (D__law_same : DefOk P w K mg base "_law_same" 2 ["_law_value", "_law_due"] sp_same) (I : DefIs K mg "_law_is_list" "_law_is_list" s__law_is_list ["_law_value", "_law_due"]) : DefOk P w K mg base "_law_is_list" 3 ["_law_value", "_law_due"] sp_islist := by
  refine I.ok sc__law_is_list (fun vs H Q E h => ?_) (fun f cdv A outer s H vs Q E hr h => ?_)
  · obtain ⟨_, _, _, rfl, _⟩ := h; rfl
  · obtain ⟨a, b, xs, rfl, hl, ha, hb, k⟩ := h
    refine ⟨_, (pss_one (ps_ret (pe_and (pe_callB call_isi (by rfl) B.isinstance boot_isinstance (pa_cons (pv 0) (pa_cons (pe_bltn (v := .ty "list") (by rfl) B.list boot_list rfl) pa_nil))) (pe_one (pe_callD D__law_same (hr.mono (by decide)) (pa_cons (pv 0) (pa_cons (pv 1) pa_nil))))))), ?_⟩
    refine ⟨_, rfl, _, _, _, _, true, rfl, .ty _, .base (.lst ha), kit_ty (by decide +kernel), true, rfl, iteT ?_⟩
    refine ⟨_, rfl, _, rfl, a, b, xs, rfl, hl, .inl ha, .inl hb, k⟩
abbrev s__law_is_tuple : Stmt := topS 44
theorem sc__law_is_tuple : FnScope ["_law_value", "_law_due"] ["_law_value", "_law_due"] (defScope s__law_is_tuple) := ⟨rfl, rfl, rfl, by decide +kernel, rfl, by decide +kernel, by decide +kernel⟩
def sp_istuple : Sp := fun vs H Q _ => ∃ (a b : Addr) (xs : List Int), vs = [.ref a, .ref b] ∧ xs.length ≤ 1000 ∧ H a = some (.tup (vi xs)) ∧ H b = some (.tup (vi xs)) ∧ ∀ H', Ex H H' → Q (.bl true) H'
theorem d_istuple (B : Bi mg) (D__law_same : DefOk P w K mg base "_law_same" 2 ["_law_value", "_law_due"] sp_same) (I : DefIs K mg "_law_is_tuple" "_law_is_tuple" s__law_is_tuple ["_law_value", "_law_due"]) : DefOk P w K mg base "_law_is_tuple" 3 ["_law_value", "_law_due"] sp_istuple := by
  refine I.ok sc__law_is_tuple (fun vs H Q E h => ?_) (fun f cdv A outer s H vs Q E hr h => ?_)
  · obtain ⟨_, _, _, rfl, _⟩ := h; rfl
  · obtain ⟨a, b, xs, rfl, hl, ha, hb, k⟩ := h
    refine ⟨_, (pss_one (ps_ret (pe_and (pe_callB call_isi (by rfl) B.isinstance boot_isinstance (pa_cons (pv 0) (pa_cons (pe_bltn (v := .ty "tuple") (by rfl) B.tuple boot_tuple rfl) pa_nil))) (pe_one (pe_callD D__law_same (hr.mono (by decide)) (pa_cons (pv 0) (pa_cons (pv 1) pa_nil))))))), ?_⟩
    refine ⟨_, rfl, _, _, _, _, true, rfl, .ty _, .base (.tup ha), kit_ty (by decide +kernel), true, rfl, iteT ?_⟩
    refine ⟨_, rfl, _, rfl, a, b, xs, rfl, hl, .inr ha, .inr hb, k⟩
end
end K57

set_option Elab.async false
set_option linter.all false
set_option maxRecDepth 100000
set_option maxHeartbeats 4000000
namespace K57
open PySem PySem.Spec PyProof.Rows L2 Evl M57
section
variable {P : Program} {w : World} {K : PySem.W.Frag} {mg : Str → Option Value} {base : Heap}
/-! ### the box of the draws -/
def hid (b : Addr) (H : Hp) : Hp := fun a => if a = b then none else H a
theorem hid_ne {a b : Addr} {H : Hp} (h : a ≠ b) : hid b H a = H a := if_neg h
theorem hid_same {b : Addr} {H : Hp} : hid b H b = none := if_pos rfl
theorem exh {b : Addr} {H H' : Hp} (e : Ex (hid b H) H') : Ex (hid b H) (hid b H') := fun a o h => by
  by_cases q : a = b
  · subst q; rw [hid_same] at h; cases h
  · rw [hid_ne q]; exact e a o h
theorem hid_le {b : Addr} {H : Hp} : Ex (hid b H) H := fun a o h => by
  by_cases q : a = b
  · subst q; rw [hid_same] at h; cases h
  · rw [hid_ne q] at h; exact h
theorem hid_mono {b : Addr} {H H' : Hp} (e : Ex H H') : Ex (hid b H) (hid b H') := fun a o h => by
  by_cases q : a = b
  · subst q; rw [hid_same] at h; cases h
  · rw [hid_ne q] at h ⊢; exact e a o h
theorem hid_upd {b : Addr} {H : Hp} {o : HO} : Ex (hid b H) (upd H b o) := fun a u h => by
  by_cases q : a = b
  · subst q; rw [hid_same] at h; cases h
  · rw [hid_ne q] at h; rw [upd_ne q]; exact h
def boxL (c : Addr) (k z x y : Int) : List V := [.ref c, .int k, .int z, .int x, .int y]
structure BoxAt (H : Hp) (b c : Addr) (cells : List Int) (k z x y : Int) : Prop where
  bx : H b = some (.lst (boxL c k z x y))
  ce : H c = some (.lst (vi cells))
  ne : c ≠ b
  k0 : 0 ≤ k
theorem BoxAt.upd {H : Hp} {b c : Addr} {cells : List Int} {k z x y k' z' x' y' : Int} (h : BoxAt H b c cells k z x y) (h0 : 0 ≤ k') : BoxAt (upd H b (.lst (boxL c k' z' x' y'))) b c cells k' z' x' y' :=
  ⟨upd_same, by rw [upd_ne h.ne]; exact h.ce, h.ne, h0⟩
theorem BoxAt.mono {H H' : Hp} {b c : Addr} {cells : List Int} {k z x y : Int} (e : Ex H H') (h : BoxAt H b c cells k z x y) : BoxAt H' b c cells k z x y := ⟨e _ _ h.bx, e _ _ h.ce, h.ne, h.k0⟩
def Box (H : Hp) (b c : Addr) : Prop := ∃ cells k z x y, BoxAt H b c cells k z x y
theorem Box.put {H : Hp} {b c p : Addr} {o : HO} (h : Box H b c) (h1 : p ≠ b) (h2 : p ≠ c) : Box (L2.upd H p o) b c := let ⟨cells, k, z, x, y, q⟩ := h; ⟨cells, k, z, x, y, by rw [upd_ne h1.symm]; exact q.bx, by rw [upd_ne h2.symm]; exact q.ce, q.ne, q.k0⟩
theorem Box.ne {H : Hp} {b c p : Addr} (h : Box H b c) (hp : H p = none) : p ≠ b ∧ p ≠ c := let ⟨_, _, _, _, _, q⟩ := h; ⟨(ne_of_none q.bx hp).symm, (ne_of_none q.ce hp).symm⟩
theorem Box.mono {H H' : Hp} {b c : Addr} (e : Ex H H') (h : Box H b c) : Box H' b c := let ⟨cells, k, z, x, y, q⟩ := h; ⟨cells, k, z, x, y, q.mono e⟩
abbrev s__law_start : Stmt := topS 45
theorem sc__law_start : FnScope ["_law_script", "_law_cell"] ["_law_script"] (defScope s__law_start) := ⟨rfl, rfl, rfl, by decide +kernel, rfl, by decide +kernel, by decide +kernel⟩
def sp_start (K : PySem.W.Frag) : Sp := fun vs H Q _ => ∃ (a : Addr) (ns : List Int), vs = [.ref a] ∧ SqL K H a (vi ns) ∧ ns.length ≤ 63 ∧ ∀ b c H', H b = none → Ex H H' → Box H' b c → Q (.ref b) H'
theorem d_start (B : Bi mg) (I : DefIs K mg "_law_start" "_law_start" s__law_start ["_law_script"]) : DefOk P w K mg base "_law_start" 1 ["_law_script"] (sp_start K) := by
  refine I.ok sc__law_start (fun vs H Q E h => ?_) (fun f cdv A outer s H vs Q E hr h => ?_)
  · obtain ⟨_, _, rfl, _⟩ := h; rfl
  · obtain ⟨a, ns, rfl, hS, hl, k⟩ := h
    refine ⟨_, (pss_one (ps_ret (pe_lst (pa_cons (pe_lc (own := [("_law_cell", 1)]) (g := gName 1) (tt := tYes) rfl sc__law_start.nd (pi_list (pe_slice sl_list (pv 0) po_none (po_some pe_int))) (blkOk_by (own := [("_law_cell", 1)]) (N := ["_law_script", "_law_cell"]) (sc := defScope s__law_start) (by decide +kernel)) (fun _ _ _ _ _ => (pg_name (i := 1) sc__law_start.nd rfl (Or.inl rfl))) (fun _ _ _ _ _ => pts_nil) (fun _ _ _ _ _ => (pe_callTy call_int1 (by rfl) B.int boot_int (pa_cons (pv 1) pa_nil)))) (pa_cons pe_int (pa_cons pe_int (pa_cons pe_int (pa_cons pe_int pa_nil)))))))), ?_⟩
    -- script[:63]
    refine ⟨_, rfl, 63, rfl, a, _, rfl, hS, fun p np => ⟨p, rfl, ⟨_, SqL.of upd_same⟩, fun D nD => ?_⟩⟩
    have hn : (cutV (vi ns) none (some 63)) = vi ns := by
      have hl' : (vi ns).length ≤ 63 := by rw [List.length_map]; exact hl
      unfold cutV
      rw [show HT.sIx (vi ns).length 0 none = 0 from rfl, List.drop_zero]
      refine List.take_of_length_le ?_
      show (vi ns).length ≤ HT.sIx (vi ns).length (vi ns).length (some 63) - 0
      simp [HT.sIx]
      simp at hl'
      omega
    rw [hn] at nD ⊢
    have npD : p ≠ D := ne_of_none upd_same nD
    refine lc_list (K := K) (a := p) (xs := vi ns) (fun i H' => Ex (upd H p (.lst (vi ns))) H' ∧ H' D = some (.lst (vi (ns.take i)))) ⟨Ex.new nD, by rw [upd_same]; rfl⟩ (fun i H' hi h => SqL.of (h.1 _ _ upd_same)) ?_ ?_
    · rintro i x H' hi ⟨e, hD⟩
      have hi2 : i < ns.length := by
        have := (List.getElem?_eq_some_iff.mp hi).1
        rwa [List.length_map] at this
      rw [vi_nth hi2] at hi
      cases hi
      refine ⟨rfl, _, rfl, .inl ⟨_, rfl, _, hD, ?_, ?_⟩⟩
      · rw [List.length_map, List.length_take]; exact small1000 (by omega)
      · refine ⟨fun b o h => ?_, ?_⟩
        · rw [upd_ne (ne_of_none h nD)]; exact e b o h
        · rw [upd_same]
          have : vi (ns.take (i + 1)) = vi (ns.take i) ++ [.int (nth ns i)] := by
            rw [vi, List.take_add_one, List.map_append, List.getElem?_eq_getElem hi2]
            simp [nth, List.getD_eq_getElem?_getD, List.getElem?_eq_getElem hi2]
          rw [this]
    · rintro H' ⟨e, hD⟩
      rw [List.length_map, List.take_length] at hD
      refine ⟨by show 5 ≤ sizeLine; decide, fun b hb => ?_⟩
      have e0 : Ex H H' := (Ex.new np).trans e
      refine k b D _ (fresh_back e0 hb) (e0.trans (Ex.new hb)) ⟨ns, 0, 0, 1, 0, upd_same, ?_, ne_of_none hD hb, by decide⟩
      rw [upd_ne (ne_of_none hD hb)]; exact hD
abbrev s__law_draw : Stmt := topS 46
theorem sc__law_draw : FnScope ["_law_box", "_law_size", "_law_cell", "_law_digit", "_law_number"] ["_law_box", "_law_size"] (defScope s__law_draw) := ⟨rfl, rfl, rfl, by decide +kernel, rfl, by decide +kernel, by decide +kernel⟩
def sp_draw : Sp := fun vs H Q _ => ∃ (b c : Addr) (size : Int), vs = [.ref b, .int size] ∧ Box H b c ∧ 1 ≤ size ∧ size ≤ 10 ^ 31 ∧ ∀ r H', 0 ≤ r → r < size → Box H' b c → Ex (hid b H) H' → Q (.int r) H'
theorem d_draw (B : Bi mg) (I : DefIs K mg "_law_draw" "_law_draw" s__law_draw ["_law_box", "_law_size"]) : DefOk P w K mg base "_law_draw" 1 ["_law_box", "_law_size"] sp_draw := by
  refine I.ok sc__law_draw (fun vs H Q E h => ?_) (fun f cdv A outer s H vs Q E hr h => ?_)
  · obtain ⟨_, _, _, rfl, _⟩ := h; rfl
  · obtain ⟨b, c, size, rfl, ⟨cells, k, z, x, y, bx⟩, s1, s2, kk⟩ := h
    refine ⟨_, (pss_cons (ps_asg (pe_op op_add (pe_ix ix_list (pv 0) pe_int (fun _ _ => rfl)) pe_int) (pg_sub (pv 0) pe_int set_list))
      (Evl.pss_cut (ps_if (PW.pt (pw_and (pt_cmpR op_lt (pe_ix ix_list (pv 0) pe_int (fun _ _ => rfl)) pe_int (nomark _)) (pw_and1 (pt_cmpR op_lt (pe_ix ix_list (pv 0) pe_int (fun _ _ => rfl)) (pe_callB call_len (by rfl) B.len PySem.boot_len (pa_cons (pe_ix ix_list (pv 0) pe_int (fun _ _ => rfl)) pa_nil)) (nomark _)))))
      (pss_cons (ps_set (i := 2) sc__law_draw.nd rfl (Or.inl rfl) (pe_ix ix_list (pe_ix ix_list (pv 0) pe_int (fun _ _ => rfl)) (pe_ix ix_list (pv 0) pe_int (fun _ _ => rfl)) (fun _ _ => rfl)))
        (pss_cons (ps_asg (pe_op op_add (pe_ix ix_list (pv 0) pe_int (fun _ _ => rfl)) pe_int) (pg_sub (pv 0) pe_int set_list))
        (pss_cons (ps_asg (pe_op op_mod (pe_callTy call_int1 (by rfl) B.int boot_int (pa_cons (pe_op op_add (pe_op op_add (pe_op op_mul (pe_ix ix_list (pv 0) pe_int (fun _ _ => rfl)) pe_int) (pe_op op_mul (pv 2) pe_int)) pe_int) pa_nil)) pe_int) (pg_sub (pv 0) pe_int set_list))
        (pss_one (ps_if (pt_cmpR op_ge (pv 2) (pe_op op_pow pe_int pe_int) (nomark _))
        (pss_one (ps_asg (pv 2) (pg_sub (pv 0) pe_int set_list)))
        pss_nil)))))
      pss_nil)
      (pss_cons (ps_if (pt_cmpR op_gt (pe_ix ix_list (pv 0) pe_int (fun _ _ => rfl)) pe_int (nomark _))
      (pss_cons (ps_set (i := 3) sc__law_draw.nd rfl (Or.inl rfl) (pe_op op_mod (pe_callTy call_int1 (by rfl) B.int boot_int (pa_cons (pe_ix ix_list (pv 0) pe_int (fun _ _ => rfl)) pa_nil)) (pv 1)))
        (pss_cons (ps_asg (pe_op op_fdivW (pe_ix ix_list (pv 0) pe_int (fun _ _ => rfl)) (pv 1)) (pg_sub (pv 0) pe_int set_list))
        (pss_one (ps_ret (pv 3)))))
      pss_nil)
      (pss_cons (ps_set (i := 4) sc__law_draw.nd rfl (Or.inl rfl) (pe_op op_mod (pe_callTy call_int1 (by rfl) B.int boot_int (pa_cons (pe_op op_add (pe_op op_add (pe_op op_mul (pe_ix ix_list (pv 0) pe_int (fun _ _ => rfl)) pe_int) (pe_op op_mul (pe_ix ix_list (pv 0) pe_int (fun _ _ => rfl)) pe_int)) pe_int) pa_nil)) pe_int))
      (pss_cons (ps_set (i := 4) sc__law_draw.nd rfl (Or.inl rfl) (pe_op op_mod (pe_callTy call_int1 (by rfl) B.int boot_int (pa_cons (pe_op op_add (pe_op op_add (pe_op op_mul (pv 4) (pv 4)) (pe_op op_mul (pe_ix ix_list (pv 0) pe_int (fun _ _ => rfl)) pe_int)) (pe_ix ix_list (pv 0) pe_int (fun _ _ => rfl))) pa_nil)) pe_int))
      (pss_cons (ps_set (i := 4) sc__law_draw.nd rfl (Or.inl rfl) (pe_op op_mod (pe_callTy call_int1 (by rfl) B.int boot_int (pa_cons (pe_op op_add (pe_op op_mul (pv 4) pe_int) (pe_op op_fdivW (pv 4) pe_int)) pa_nil)) pe_int))
      (pss_one (ps_ret (pe_op op_mod (pe_op op_fdivW (pv 4) pe_int) (pv 1)))))))))), ?_⟩
    have hcd : 0 < size ∧ size.natAbs.log2 < 9000 := ⟨by omega, by
      refine Nat.lt_of_lt_of_le (PySem.Flt.log2_lt_of (k := 110) (by decide) ?_) (by decide)
      have : (10 : Int) ^ 31 < 2 ^ 110 := by decide
      have : ((2 ^ 110 : Nat) : Int) = 2 ^ 110 := by decide
      omega⟩
    refine ⟨_, rfl, _, _, _, _, rfl, rfl, SqL.of bx.bx, rfl, _, _, rfl, rfl, _, rfl, _, _, _, _, rfl, rfl, bx.bx, rfl, ?_⟩
    have b1 : BoxAt (upd H b (.lst (boxL c k z x (y + 1)))) b c cells k z x (y + 1) := bx.upd bx.k0
    have e1 : Ex (hid b H) (upd H b (.lst (boxL c k z x (y + 1)))) := hid_upd
    change tCut _ _ _ _ (upd H b (.lst (boxL c k z x (y + 1))))
    generalize upd H b (.lst (boxL c k z x (y + 1))) = H1 at b1 e1 ⊢
    refine ⟨fun σ H' => Box H' b c ∧ Ex (hid b H) H' ∧ ∃ v, σ = [some (.ref b), some (.int size), v, none, none], ?_, ?_⟩
    · refine ⟨_, rfl, _, _, _, _, rfl, rfl, SqL.of b1.bx, rfl, _, _, rfl, rfl, _, rfl, ?_⟩
      refine ite2 (fun h1 => ?_) (fun h1 => ?_)
      · refine ⟨_, rfl, _, _, _, _, rfl, rfl, SqL.of b1.bx, rfl, _, rfl, _, _, _, _, rfl, rfl, SqL.of b1.bx, rfl, _, _, rfl, .inl ⟨_, SqL.of b1.ce, rfl⟩, _, _, rfl, rfl, _, rfl, ?_⟩
        refine ite2 (fun h2 => ?_) (fun h2 => ?_)
        · have h3 : k < (vi cells).length := of_decide_eq_true h2
          have hk0 := bx.k0
          rw [List.length_map] at h3
          have h4 : k.toNat < cells.length := by omega
          have ek : k = (k.toNat : Int) := by omega
          refine ⟨_, rfl, _, _, _, _, rfl, rfl, SqL.of b1.bx, rfl, _, rfl, _, _, _, _, rfl, rfl, SqL.of b1.bx, rfl, _, _, _, _, rfl, rfl, SqL.of b1.ce, at_of ek (vi_nth h4), ?_⟩
          refine ⟨_, rfl, _, _, _, _, rfl, rfl, SqL.of b1.bx, rfl, _, _, rfl, rfl, _, rfl, _, _, _, _, rfl, rfl, b1.bx, rfl, ?_⟩
          have b2 : BoxAt (upd H1 b (.lst (boxL c (k + 1) z x (y + 1)))) b c cells (k + 1) z x (y + 1) := b1.upd (by omega)
          have e2 : Ex (hid b H) (upd H1 b (.lst (boxL c (k + 1) z x (y + 1)))) := (exh e1).trans hid_upd
          change tSeq _ _ _ _ (upd H1 b (.lst (boxL c (k + 1) z x (y + 1))))
          generalize upd H1 b (.lst (boxL c (k + 1) z x (y + 1))) = H2 at b2 e2 ⊢
          generalize nth cells k.toNat = cell
          refine ⟨_, rfl, _, _, _, _, rfl, rfl, SqL.of b2.bx, rfl, _, _, rfl, rfl, .inr ⟨by decide, by decide⟩, _, rfl, _, _, rfl, rfl, .inr ⟨by decide, by decide⟩, _, _, rfl, rfl, _, _, rfl, rfl, .inl ⟨_, rfl, _, _, rfl, rfl, (show (0 : Int) < 2147483647 by decide), _, rfl, _, _, _, _, rfl, rfl, b2.bx, rfl, ?_⟩⟩
          have b3 : BoxAt (upd H2 b (.lst (boxL c (k + 1) z ((x * 48271 + cell * 69621 + 11) % 2147483647) (y + 1)))) b c cells (k + 1) z ((x * 48271 + cell * 69621 + 11) % 2147483647) (y + 1) := b2.upd (by omega)
          have e3 : Ex (hid b H) (upd H2 b (.lst (boxL c (k + 1) z ((x * 48271 + cell * 69621 + 11) % 2147483647) (y + 1)))) := (exh e2).trans hid_upd
          have eH : (upd H2 b (.lst ((boxL c (k + 1) z x (y + 1)).set (Int.toNat 3) (V.int ((x * 48271 + cell * 69621 + 11) % 2147483647))))) = upd H2 b (.lst (boxL c (k + 1) z ((x * 48271 + cell * 69621 + 11) % 2147483647) (y + 1))) := rfl
          dsimp only
          rw [show (boxL c (k + 1) z x (y + 1)).set (Int.toNat 3) (V.int ((x * 48271 + cell * 69621 + 11) % 2147483647)) = boxL c (k + 1) z ((x * 48271 + cell * 69621 + 11) % 2147483647) (y + 1) from rfl]
          generalize upd H2 b (.lst (boxL c (k + 1) z ((x * 48271 + cell * 69621 + 11) % 2147483647) (y + 1))) = H3 at b3 e3 ⊢
          refine ⟨_, rfl, _, _, rfl, rfl, ⟨by decide, by decide, by decide⟩, _, _, rfl, rfl, _, rfl, ?_⟩
          refine ite2 (fun h5 => ?_) (fun h5 => ?_)
          · refine ⟨_, rfl, _, rfl, _, _, _, _, rfl, rfl, b3.bx, rfl, ?_⟩
            exact ⟨⟨cells, k + 1, cell, _, y + 1, b3.upd (by omega)⟩, (exh e3).trans hid_upd, _, rfl⟩
          · exact ⟨⟨cells, k + 1, z, _, y + 1, b3⟩, e3, _, rfl⟩
        · exact ⟨⟨cells, k, z, x, y + 1, b1⟩, e1, _, rfl⟩
      · exact ⟨⟨cells, k, z, x, y + 1, b1⟩, e1, _, rfl⟩
    · rintro σ H2 ⟨⟨cells, k, z, x, y, b2⟩, e2, v, rfl⟩
      refine ⟨_, rfl, _, _, _, _, rfl, rfl, SqL.of b2.bx, rfl, _, _, rfl, rfl, _, rfl, ?_⟩
      refine ite2 (fun h1 => ?_) (fun h1 => ?_)
      · refine ⟨_, rfl, _, _, _, _, rfl, rfl, SqL.of b2.bx, rfl, .inl ⟨_, rfl, _, rfl, _, _, rfl, rfl, (show 0 < size by omega), ?_⟩⟩
        refine ⟨_, rfl, _, _, _, _, rfl, rfl, SqL.of b2.bx, rfl, _, rfl, _, _, rfl, rfl, hcd, _, rfl, _, _, _, _, rfl, rfl, b2.bx, rfl, ?_⟩
        exact ⟨_, rfl, kk _ _ (Int.emod_nonneg _ (by omega)) (Int.emod_lt_of_pos _ (by omega)) ⟨cells, k, z / size, x, y, b2.upd b2.k0⟩ ((exh e2).trans hid_upd)⟩
      · refine ⟨_, rfl, _, _, _, _, rfl, rfl, SqL.of b2.bx, rfl, _, _, rfl, rfl, .inr ⟨by decide, by decide⟩, _, rfl, _, _, _, _, rfl, rfl, SqL.of b2.bx, rfl, _, _, rfl, rfl, .inr ⟨by decide, by decide⟩, _, _, rfl, rfl, _, _, rfl, rfl, .inl ⟨_, rfl, _, _, rfl, rfl, (show (0 : Int) < 2147483399 by decide), ?_⟩⟩
        change tSeq _ _ _ (List.set _ 4 (some (V.int ((x * 40692 + y * 1299709 + 2482) % 2147483399)))) _
        have n1 := Int.emod_nonneg (x * 40692 + y * 1299709 + 2482) (show (2147483399 : Int) ≠ 0 by decide)
        have n2 := Int.emod_lt_of_pos (x * 40692 + y * 1299709 + 2482) (show (0 : Int) < 2147483399 by decide)
        generalize (x * 40692 + y * 1299709 + 2482) % 2147483399 = u at n1 n2 ⊢
        refine ⟨_, rfl, _, rfl, _, _, rfl, rfl, .inr ⟨by omega, by omega⟩, _, rfl, _, _, _, _, rfl, rfl, SqL.of b2.bx, rfl, _, _, rfl, rfl, .inr ⟨by decide, by decide⟩, _, _, rfl, rfl, _, rfl, _, _, _, _, rfl, rfl, SqL.of b2.bx, rfl, _, _, rfl, rfl, .inl ⟨_, rfl, _, _, rfl, rfl, (show (0 : Int) < 2147483647 by decide), ?_⟩⟩
        change tSeq _ _ _ (List.set _ 4 (some (V.int ((u * u + y * 69621 + x) % 2147483647)))) _
        generalize (u * u + y * 69621 + x) % 2147483647 = u2
        refine ⟨_, rfl, _, _, rfl, rfl, .inr ⟨by decide, by decide⟩, _, rfl, _, _, rfl, rfl, ⟨by decide, by decide⟩, _, _, rfl, rfl, .inl ⟨_, rfl, _, _, rfl, rfl, (show (0 : Int) < 2147483629 by decide), ?_⟩⟩
        refine ⟨_, rfl, _, _, rfl, rfl, ⟨by decide, by decide⟩, _, rfl, _, _, rfl, rfl, (show 0 < size by omega), ?_⟩
        exact kk _ _ (Int.emod_nonneg _ (by omega)) (Int.emod_lt_of_pos _ (by omega)) ⟨cells, k, z, x, y, b2⟩ e2
end
end K57

set_option Elab.async false
set_option linter.all false
set_option maxRecDepth 100000
set_option maxHeartbeats 4000000
namespace K57
open PySem PySem.Spec PyProof.Rows L2 Evl M57
section
variable {P : Program} {w : World} {K : PySem.W.Frag} {mg : Str → Option Value} {base : Heap}
theorem vn_get {xs : List Nat} {i : Nat} (h : i < xs.length) : (vn xs)[i]? = some (.int ((xs.getD i 0 : Nat) : Int)) := by
  unfold vn
  rw [List.getElem?_map, List.getElem?_eq_getElem h, List.getD_eq_getElem?_getD, List.getElem?_eq_getElem h]
  rfl
theorem seqIx {n k : Nat} (h : k < n) : seqIndex? (k : Int) n = some k := by
  unfold seqIndex?
  simp [show ¬ (k : Int) < 0 by omega, h]
theorem erase_map {α β : Type} (f : α → β) : ∀ (l : List α) (k : Nat), (l.map f).eraseIdx k = (l.eraseIdx k).map f
  | [], _ => rfl
  | a :: l, 0 => rfl
  | a :: l, k + 1 => by simp [erase_map f l k]
theorem vn_erase {xs : List Nat} {k : Nat} : (vn xs).eraseIdx k = vn (xs.eraseIdx k) := erase_map _ _ _
theorem vn_app {xs ys : List Nat} : vn (xs ++ ys) = vn xs ++ vn ys := List.map_append
theorem perm_erase : ∀ (l : List Nat) (k : Nat) (h : k < l.length), (l[k] :: l.eraseIdx k).Perm l
  | a :: l, 0, h => .refl _
  | a :: l, k + 1, h => by
    have ih := perm_erase l k (by simpa using h)
    simp only [List.getElem_cons_succ, List.eraseIdx_cons_succ]
    exact (List.Perm.swap _ _ _).trans (ih.cons a)
abbrev s__law_lamp_order : Stmt := topS 47
theorem sc__law_lamp_order : FnScope ["_law_box", "_law_count", "_law_rest", "_law_lamps", "_law_k"] ["_law_box", "_law_count"] (defScope s__law_lamp_order) := ⟨rfl, rfl, rfl, by decide +kernel, rfl, by decide +kernel, by decide +kernel⟩
def sp_lamps : Sp := fun vs H Q _ => ∃ (b c : Addr) (n : Nat), vs = [.ref b, .int n] ∧ Box H b c ∧ n ≤ 16 ∧ ∀ p lamps H', H p = none → Box H' b c → Ex (hid b H) H' → H' p = some (.lst (vn lamps)) → lamps.Perm (List.range n) → Q (.ref p) H'
theorem d_lamps (B : Bi mg) (D__law_draw : DefOk P w K mg base "_law_draw" 1 ["_law_box", "_law_size"] sp_draw) (I : DefIs K mg "_law_lamp_order" "_law_lamp_order" s__law_lamp_order ["_law_box", "_law_count"]) :
    DefOk P w K mg base "_law_lamp_order" 2 ["_law_box", "_law_count"] sp_lamps := by
  refine I.ok sc__law_lamp_order (fun vs H Q E h => ?_) (fun f cdv A outer s H vs Q E hr h => ?_)
  · obtain ⟨_, _, _, rfl, _⟩ := h; rfl
  · obtain ⟨b, c, n, rfl, bx, hn, kk⟩ := h
    refine ⟨_, (pss_cons (ps_set (i := 2) sc__law_lamp_order.nd rfl (Or.inl rfl) (pe_listRg rfl rfl B.list (prg_1 rfl B.range (pv 1))))
      (pss_cons (ps_set (i := 3) sc__law_lamp_order.nd rfl (Or.inl rfl) (pe_lst pa_nil))
      (pss_cons (ps_for PassesOwn.never rfl (pi_range1 rfl B.range (pa_cons (pv 1) pa_nil)) (pg_name (i := 4) sc__law_lamp_order.nd rfl (Or.inl rfl))
      (pss_one (ps_expr (pe_bm PySem.F.plainAttrs_list PySem.F.slot_list_append PySem.F.type_list_append mt_append (pv 3) (pa_cons (pe_bm PySem.F.plainAttrs_list PySem.F.slot_list_pop PySem.F.type_list_pop mt_popAt (pv 2) (pa_cons (pe_callD D__law_draw (hr.mono (by decide)) (pa_cons (pv 0) (pa_cons (pe_callB call_len (by rfl) B.len PySem.boot_len (pa_cons (pv 2) pa_nil)) pa_nil))) pa_nil)) pa_nil)))))
      (pss_one (ps_ret (pv 3)))))), ?_⟩
    refine ⟨_, rfl, _, rfl, RgOk.of_le (by omega) (by omega) (by omega) (by omega), fun r nr => ?_⟩
    have hrg : rgV 0 (n : Int) = vn (List.range n) := by
      unfold rgV vn
      rw [show ((n : Int) - 0).toNat = n by omega]
      refine List.map_congr_left fun i _ => ?_
      rw [Int.zero_add]
    rw [hrg]
    refine ⟨Nat.zero_le _, fun l nl => ?_⟩
    have nrl : r ≠ l := ne_of_none upd_same nl
    obtain ⟨nrb, nrc⟩ := bx.ne nr
    have nl0 : H l = none := by rw [upd_ne nrl.symm] at nl; exact nl
    obtain ⟨nlb, nlc⟩ := bx.ne nl0
    refine ⟨_, rfl, _, rfl, by omega, by omega, ?_⟩
    rw [show ((n : Int)).toNat = n by omega]
    refine for_range (n := n) (lo := 0) (fun i σ H' => ∃ (rest lamps : List Nat) (v : Option V), σ = [some (.ref b), some (.int n), some (.ref r), some (.ref l), v] ∧ Box H' b c ∧ Ex (hid b H) H' ∧ H' r = some (.lst (vn rest)) ∧ H' l = some (.lst (vn lamps)) ∧ lamps.length = i ∧ (lamps ++ rest).Perm (List.range n)) ?_ ?_ ?_
    · refine ⟨List.range n, [], none, rfl, (bx.put nrb nrc).put nlb nlc, (hid_le.trans (Ex.new nr)).trans (Ex.new nl), by rw [upd_ne nrl, upd_same], upd_same, rfl, .refl _⟩
    · rintro i σ H1 hi ⟨rest, lamps, v, rfl, b1, e1, hr1, hl1, hlen, hp⟩
      have hlr : lamps.length + rest.length = n := by
        have := hp.length_eq
        rw [List.length_append, List.length_range] at this
        exact this
      refine ⟨_, rfl, .inl ⟨rfl, _, SqL.of hl1⟩, _, rfl, .inl ⟨rfl, _, SqL.of hr1⟩, _, rfl, _, rfl, _, _, rfl, .inl ⟨_, SqL.of hr1, rfl⟩, b, c, _, rfl, b1, ?_, ?_, fun z H2 z0 z1 b2 e2 => ?_⟩
      · rw [List.length_map]; omega
      · have : (vn rest).length ≤ 16 := by rw [List.length_map]; omega
        have : (16 : Int) ≤ 10 ^ 31 := by decide
        omega
      rw [List.length_map] at z1
      obtain ⟨k, rfl⟩ : ∃ k : Nat, z = k := ⟨z.toNat, by omega⟩
      have hk : k < rest.length := by omega
      have hr2 : H2 r = some (.lst (vn rest)) := e2 r _ (by rw [hid_ne nrb]; exact hr1)
      have hl2 : H2 l = some (.lst (vn lamps)) := e2 l _ (by rw [hid_ne nlb]; exact hl1)
      refine ⟨_, _, _, k, _, rfl, rfl, hr2, by omega, by omega, seqIx (by rw [List.length_map]; exact hk), vn_get hk, ?_⟩
      refine ⟨_, _, _, rfl, rfl, by rw [upd_ne nrl.symm]; exact hl2, by rw [List.length_map]; exact small1000 (by omega), ?_⟩
      refine ⟨rest.eraseIdx k, lamps ++ [rest.getD k 0], _, rfl, (b2.put nrb nrc).put nlb nlc, ?_, ?_, ?_, by simp [hlen], ?_⟩
      · intro a o ha
        have h1 := e2 a o (exh (b := b) (H := H) e1 a o ha)
        rw [upd_ne, upd_ne]
        · exact h1
        · rintro rfl; rw [hid_ne nrb, nr] at ha; cases ha
        · rintro rfl; rw [hid_ne nlb, nl0] at ha; cases ha
      · rw [upd_ne nrl, upd_same, vn_erase]
      · rw [upd_same, vn_app]; rfl
      · have h1 : (rest.getD k 0 :: rest.eraseIdx k).Perm rest := by
          rw [List.getD_eq_getElem?_getD, List.getElem?_eq_getElem hk]
          exact perm_erase rest k hk
        refine List.Perm.trans ?_ hp
        rw [List.append_assoc]
        exact List.Perm.append_left _ h1
    · rintro σ H1 ⟨rest, lamps, v, rfl, b1, e1, hr1, hl1, hlen, hp⟩
      refine ⟨_, rfl, kk l lamps H1 nl0 b1 e1 hl1 ?_⟩
      have hlr : lamps.length + rest.length = n := by
        have := hp.length_eq
        rw [List.length_append, List.length_range] at this
        exact this
      have : rest = [] := List.length_eq_zero_iff.mp (by omega)
      subst this
      rw [List.append_nil] at hp
      exact hp
abbrev s__law_passed : Stmt := topS 49
theorem sc__law_passed : FnScope ["_law_box", "_law_wires_here", "_law_way"] ["_law_box", "_law_wires_here"] (defScope s__law_passed) := ⟨rfl, rfl, rfl, by decide +kernel, rfl, by decide +kernel, by decide +kernel⟩
/-- the very list, or turned round, as a list or a tuple -/
def sp_passed : Sp := fun vs H Q _ => ∃ (b c l : Addr) (xs : List V), vs = [.ref b, .ref l] ∧ Box H b c ∧ l ≠ b ∧ H l = some (.lst xs) ∧ ∀ p ys H', H p = none → Box H' b c → Ex (hid b H) H' → SqA H' p ys → (ys = xs ∨ ys = xs.reverse) → Q (.ref p) H'
theorem d_passed (B : Bi mg) (D__law_draw : DefOk P w K mg base "_law_draw" 1 ["_law_box", "_law_size"] sp_draw) (I : DefIs K mg "_law_passed" "_law_passed" s__law_passed ["_law_box", "_law_wires_here"]) :
    DefOk P w K mg base "_law_passed" 2 ["_law_box", "_law_wires_here"] sp_passed := by
  refine I.ok sc__law_passed (fun vs H Q E h => ?_) (fun f cdv A outer s H vs Q E hr h => ?_)
  · obtain ⟨_, _, _, _, rfl, _⟩ := h; rfl
  · obtain ⟨b, c, l, xs, rfl, bx, nlb, hl, kk⟩ := h
    refine ⟨_, (pss_cons (ps_set (i := 2) sc__law_passed.nd rfl (Or.inl rfl) (pe_callD D__law_draw (hr.mono (by decide)) (pa_cons (pv 0) (pa_cons pe_int pa_nil))))
      (pss_cons (ps_if (pt_cmpR op_eq (pv 2) pe_int (nomark _))
      (pss_one (ps_ret (pe_callTy call_list_of (by rfl) B.list (by decide +kernel) (pa_cons (pv 1) pa_nil))))
      pss_nil)
      (pss_cons (ps_if (pt_cmpR op_eq (pv 2) pe_int (nomark _))
      (pss_one (ps_ret (pe_callTy call_tuple_of (by rfl) B.tuple (by decide +kernel) (pa_cons (pv 1) pa_nil))))
      pss_nil)
      (pss_cons (ps_if (pt_cmpR op_eq (pv 2) pe_int (nomark _))
      (pss_one (ps_ret (pe_revL (pv 1))))
      pss_nil)
      (pss_one (ps_ret (pe_callTy call_tuple_of (by rfl) B.tuple (by decide +kernel) (pa_cons (pe_revL (pv 1)) pa_nil)))))))), ?_⟩
    refine ⟨_, rfl, b, c, _, rfl, bx, by decide, by decide, fun z H1 z0 z1 b1 e1 => ?_⟩
    have hl1 : H1 l = some (.lst xs) := e1 l _ (by rw [hid_ne nlb]; exact hl)
    have back : ∀ p, H1 p = none → H p = none := fun p hp => by
      have h1 := fresh_back e1 hp
      have hb := (b1.ne hp).1
      rwa [hid_ne hb] at h1
    have fin : ∀ p o, H1 p = none → Box (upd H1 p o) b c ∧ Ex (hid b H) (upd H1 p o) := fun p o hp =>
      ⟨b1.put (b1.ne hp).1 (b1.ne hp).2, e1.trans (Ex.new hp)⟩
    refine ⟨_, rfl, rfl, _, rfl, ite2 (fun h1 => ?_) (fun h1 => ?_)⟩
    · refine ⟨_, rfl, _, _, rfl, .inl (SqL.of hl1), fun p hp => ?_⟩
      exact kk p xs _ (back p hp) (fin p _ hp).1 (fin p _ hp).2 (.inl upd_same) (.inl rfl)
    refine ⟨_, rfl, rfl, _, rfl, ite2 (fun h2 => ?_) (fun h2 => ?_)⟩
    · refine ⟨_, rfl, _, _, rfl, .inl ⟨SqL.of hl1, fun p hp => ?_⟩⟩
      exact kk p xs _ (back p hp) (fin p _ hp).1 (fin p _ hp).2 (.inr upd_same) (.inl rfl)
    refine ⟨_, rfl, rfl, _, rfl, ite2 (fun h3 => ?_) (fun h3 => ?_)⟩
    · refine ⟨_, rfl, _, _, rfl, SqL.of hl1, fun p hp => ?_⟩
      exact kk p _ _ (back p hp) (fin p _ hp).1 (fin p _ hp).2 (.inl upd_same) (.inr rfl)
    · refine ⟨_, rfl, _, _, rfl, SqL.of hl1, fun p hp => ?_⟩
      refine ⟨_, _, rfl, .inl ⟨SqL.of upd_same, fun q hq => ?_⟩⟩
      have b2 : Box (upd H1 p (.lst xs.reverse)) b c := (fin p _ hp).1
      exact kk q _ _ (back q (fresh_back (Ex.new hp) hq)) (b2.put (b2.ne hq).1 (b2.ne hq).2) ((fin p _ hp).2.trans (Ex.new hq)) (.inr upd_same) (.inr rfl)
abbrev s__law_hues_at : Stmt := topS 55
theorem sc__law_hues_at : FnScope ["_law_box", "_law_way", "_law_hues", "_law_size"] ["_law_box", "_law_way", "_law_hues", "_law_size"] (defScope s__law_hues_at) := ⟨rfl, rfl, rfl, by decide +kernel, rfl, by decide +kernel, by decide +kernel⟩
def sp_huesat : Sp := fun vs H Q _ => ∃ (b c : Addr) (way : Nat) (hues size : Int), vs = [.ref b, .int way, .int hues, .int size] ∧ Box H b c ∧ 2 ≤ hues ∧ hues ≤ 10 ∧ 2 ≤ size ∧ size ≤ 10 ∧
  ∀ r H', 0 ≤ r → (way = 5 ∨ (if way = 6 then r < size else r < hues)) → Box H' b c → Ex (hid b H) H' → Q (.int r) H'
theorem d_huesat (B : Bi mg) (D__law_draw : DefOk P w K mg base "_law_draw" 1 ["_law_box", "_law_size"] sp_draw) (I : DefIs K mg "_law_hues_at" "_law_hues_at" s__law_hues_at ["_law_box", "_law_way", "_law_hues", "_law_size"]) :
    DefOk P w K mg base "_law_hues_at" 2 ["_law_box", "_law_way", "_law_hues", "_law_size"] sp_huesat := by
  refine I.ok sc__law_hues_at (fun vs H Q E h => ?_) (fun f cdv A outer s H vs Q E hr h => ?_)
  · obtain ⟨_, _, _, _, _, rfl, _⟩ := h; rfl
  · obtain ⟨b, c, way, hues, size, rfl, bx, hu1, hu2, s1, s2, kk⟩ := h
    refine ⟨_, (pss_cons (ps_if (pt_cmpR op_eq (pv 1) pe_int (nomark _))
      (pss_cons (ps_if (pt_cmpR op_eq (pe_callD D__law_draw (hr.mono (by decide)) (pa_cons (pv 0) (pa_cons pe_int pa_nil))) pe_int (nomark _))
        (pss_one (ps_ret (pe_callD D__law_draw (hr.mono (by decide)) (pa_cons (pv 0) (pa_cons (pe_op op_add (pe_op op_pow pe_int pe_int) pe_int) pa_nil)))))
        pss_nil)
        (pss_one (ps_ret (pe_callD D__law_draw (hr.mono (by decide)) (pa_cons (pv 0) (pa_cons pe_int pa_nil))))))
      pss_nil)
      (pss_cons (ps_if (pt_cmpR op_eq (pv 1) pe_int (nomark _))
      (pss_one (ps_ret (pe_callD D__law_draw (hr.mono (by decide)) (pa_cons (pv 0) (pa_cons (pv 3) pa_nil)))))
      pss_nil)
      (pss_one (ps_ret (pe_callD D__law_draw (hr.mono (by decide)) (pa_cons (pv 0) (pa_cons (pv 2) pa_nil))))))), ?_⟩
    have big : (10 : Int) ≤ 10 ^ 31 := by decide
    refine ⟨_, rfl, rfl, _, rfl, ite2 (fun h1 => ?_) (fun h1 => ?_)⟩
    · have w5 : way = 5 := by
        have := V.int.inj (of_decide_eq_true h1)
        omega
      refine ⟨_, rfl, b, c, _, rfl, bx, by decide, by decide, fun z H1 z0 z1 b1 e1 => ⟨rfl, _, rfl, ite2 (fun h2 => ?_) (fun h2 => ?_)⟩⟩
      · refine ⟨_, rfl, _, _, rfl, rfl, ⟨by decide, by decide, by decide⟩, _, _, rfl, rfl, b, c, _, rfl, b1, by decide, by decide, fun z H2 z0 z1 b2 e2 => ?_⟩
        exact kk z H2 z0 (.inl w5) b2 ((exh e1).trans e2)
      · refine ⟨_, rfl, b, c, _, rfl, b1, by decide, by decide, fun z H2 z0 z1 b2 e2 => ?_⟩
        exact kk z H2 z0 (.inl w5) b2 ((exh e1).trans e2)
    refine ⟨_, rfl, rfl, _, rfl, ite2 (fun h2 => ?_) (fun h2 => ?_)⟩
    · have w6 : way = 6 := by
        have := V.int.inj (of_decide_eq_true h2)
        omega
      refine ⟨_, rfl, _, rfl, b, c, _, rfl, bx, by omega, by omega, fun z H2 z0 z1 b2 e2 => ?_⟩
      exact kk z H2 z0 (.inr (by rw [if_pos w6]; exact z1)) b2 e2
    · have w6 : way ≠ 6 := fun z => h2 (by subst z; rfl)
      refine ⟨_, rfl, _, rfl, b, c, _, rfl, bx, by omega, by omega, fun z H2 z0 z1 b2 e2 => ?_⟩
      exact kk z H2 z0 (.inr (by rw [if_neg w6]; exact z1)) b2 e2
end
end K57

set_option Elab.async false
set_option linter.all false
set_option maxRecDepth 100000
set_option maxHeartbeats 4000000
namespace K57
open PySem PySem.Spec PyProof.Rows L2 Evl M57
section
variable {P : Program} {w : World} {K : PySem.W.Frag} {mg : Str → Option Value} {base : Heap}
/-- tuples of two lamps stand at rs -/
structure WPrs (H : Hp) (rs : List Addr) (ps : List (Nat × Nat)) : Prop where
  len : rs.length = ps.length
  at_ : ∀ (k : Nat) (r : Addr) (q : Nat × Nat), rs[k]? = some r → ps[k]? = some q → H r = some (.tup [.int (q.1 : Int), .int (q.2 : Int)])
theorem WPrs.mono {H H' : Hp} {rs : List Addr} {ps : List (Nat × Nat)} (e : Ex H H') (h : WPrs H rs ps) : WPrs H' rs ps := ⟨h.len, fun k r q a b => e _ _ (h.at_ k r q a b)⟩
theorem WPrs.monoB {H H' : Hp} {b : Addr} {rs : List Addr} {ps : List (Nat × Nat)} {xs : List V} (e : Ex (hid b H) H') (hb : H b = some (.lst xs)) (h : WPrs H rs ps) : WPrs H' rs ps := ⟨h.len, fun k r q a c => by
  have h1 := h.at_ k r q a c
  refine e _ _ ?_
  rw [hid_ne]
  · exact h1
  · rintro rfl; rw [hb] at h1; cases h1⟩
theorem WPrs.put {H : Hp} {l : Addr} {xs ys : List V} {rs : List Addr} {ps : List (Nat × Nat)} (hl : H l = some (.lst xs)) (h : WPrs H rs ps) : WPrs (upd H l (.lst ys)) rs ps := ⟨h.len, fun k r q a c => by
  have h1 := h.at_ k r q a c
  rw [upd_ne]
  · exact h1
  · rintro rfl; rw [hl] at h1; cases h1⟩
theorem WPrs.snoc {H : Hp} {rs : List Addr} {ps : List (Nat × Nat)} {r : Addr} {q : Nat × Nat} (h : WPrs H rs ps) (hr : H r = some (.tup [.int (q.1 : Int), .int (q.2 : Int)])) : WPrs H (rs ++ [r]) (ps ++ [q]) := by
  refine ⟨by simp [h.len], fun k r' q' a c => ?_⟩
  by_cases hk : k < rs.length
  · rw [List.getElem?_append_left hk] at a
    rw [List.getElem?_append_left (by rw [← h.len]; exact hk)] at c
    exact h.at_ k r' q' a c
  · have hk2 := (List.getElem?_eq_some_iff.mp a).1
    rw [List.length_append, List.length_singleton] at hk2
    have e : k = rs.length := by omega
    subst e
    rw [List.getElem?_append_right (Nat.le_refl _)] at a
    rw [h.len, List.getElem?_append_right (Nat.le_refl _)] at c
    simp at a c
    subst a c
    exact hr
/-- the wires that the law draws: between two places of the drawn order, downwards, none twice -/
structure WiresOk (lamps : List Nat) (ps : List (Nat × Nat)) : Prop where
  nd : ps.Nodup
  dn : ∀ q ∈ ps, ∃ i j : Nat, i < j ∧ lamps[i]? = some q.1 ∧ lamps[j]? = some q.2
theorem wires_of {lamps : List Nat} {ixs : List (Nat × Nat)} (hl : lamps.Nodup) (nd : ixs.Nodup) (h : ∀ q : Nat × Nat, q ∈ ixs → q.1 < q.2 ∧ q.2 < lamps.length) : WiresOk lamps (ixs.map fun q => (lamps.getD q.1 0, lamps.getD q.2 0)) := by
  refine ⟨?_, fun q hq => ?_⟩
  · unfold List.Nodup
    rw [List.pairwise_map]
    refine List.Pairwise.imp_of_mem (fun {a b} ha hb hab e => ?_) nd
    obtain ⟨a1, a2⟩ := h a ha
    obtain ⟨b1, b2⟩ := h b hb
    obtain ⟨e1, e2⟩ := Prod.mk.inj e
    simp only [List.getD_eq_getElem?_getD, List.getElem?_eq_getElem a2, List.getElem?_eq_getElem b2, List.getElem?_eq_getElem (show a.1 < lamps.length by omega), List.getElem?_eq_getElem (show b.1 < lamps.length by omega), Option.getD_some] at e1 e2
    exact hab (Prod.ext ((List.getElem_inj hl).mp e1) ((List.getElem_inj hl).mp e2))
  · obtain ⟨a, ha, rfl⟩ := List.mem_map.mp hq
    obtain ⟨a1, a2⟩ := h a ha
    refine ⟨a.1, a.2, a1, ?_, ?_⟩
    · simp [List.getD_eq_getElem?_getD, List.getElem?_eq_getElem (show a.1 < lamps.length by omega)]
    · simp [List.getD_eq_getElem?_getD, List.getElem?_eq_getElem a2]
abbrev s__law_wires : Stmt := topS 48
theorem sc__law_wires : FnScope ["_law_box", "_law_lamps", "_law_density", "_law_wires_here", "_law_i", "_law_j", "_law_kept"] ["_law_box", "_law_lamps"] (defScope s__law_wires) := ⟨rfl, rfl, rfl, by decide +kernel, rfl, by decide +kernel, by decide +kernel⟩
def sp_wires : Sp := fun vs H Q _ => ∃ (b c a : Addr) (lamps : List Nat), vs = [.ref b, .ref a] ∧ Box H b c ∧ a ≠ b ∧ H a = some (.lst (vn lamps)) ∧ lamps.Nodup ∧ lamps.length ≤ 16 ∧
  ∀ (l : Addr) (rs : List Addr) (ps : List (Nat × Nat)) (H' : Hp), H l = none → Box H' b c → Ex (hid b H) H' → H' l = some (.lst (rs.map V.ref)) → WPrs H' rs ps → rs.length ≤ 300 → WiresOk lamps ps → Q (.ref l) H'
theorem d_wires (B : Bi mg) (D__law_draw : DefOk P w K mg base "_law_draw" 1 ["_law_box", "_law_size"] sp_draw) (I : DefIs K mg "_law_wires" "_law_wires" s__law_wires ["_law_box", "_law_lamps"]) :
    DefOk P w K mg base "_law_wires" 2 ["_law_box", "_law_lamps"] sp_wires := by
  refine I.ok sc__law_wires (fun vs H Q E h => ?_) (fun f cdv A outer s H vs Q E hr h => ?_)
  · obtain ⟨_, _, _, _, rfl, _⟩ := h; rfl
  · obtain ⟨b, c, a, lamps, rfl, bx, nab, ha, hnd, hn, kk⟩ := h
    refine ⟨_, (pss_cons (ps_set (i := 2) sc__law_wires.nd rfl (Or.inl rfl) (pe_callD D__law_draw (hr.mono (by decide)) (pa_cons (pv 0) (pa_cons pe_int pa_nil))))
      (pss_cons (ps_set (i := 3) sc__law_wires.nd rfl (Or.inl rfl) (pe_lst pa_nil))
      (pss_cons (ps_for PassesOwn.never rfl (pi_range1 rfl B.range (pa_cons (pe_callB call_len (by rfl) B.len PySem.boot_len (pa_cons (pv 1) pa_nil)) pa_nil)) (pg_name (i := 4) sc__law_wires.nd rfl (Or.inl rfl))
      (pss_one (ps_for PassesOwn.never rfl (pi_range2 rfl B.range (pa_cons (pe_op op_add (pv 4) pe_int) (pa_cons (pe_callB call_len (by rfl) B.len PySem.boot_len (pa_cons (pv 1) pa_nil)) pa_nil))) (pg_name (i := 5) sc__law_wires.nd rfl (Or.inl rfl))
        (Evl.pss_cut (ps_if (pt_cmpR op_eq (pv 2) pe_int (nomark _))
          (pss_one (ps_set (i := 6) sc__law_wires.nd rfl (Or.inl rfl) (pe_cmpR op_eq (pv 5) (pe_op op_add (pv 4) pe_int) (nomark _))))
          (pss_one (ps_set (i := 6) sc__law_wires.nd rfl (Or.inl rfl) (pe_cmpR op_lt (pe_callD D__law_draw (hr.mono (by decide)) (pa_cons (pv 0) (pa_cons pe_int pa_nil))) (pv 2) (nomark _)))))
          (pss_one (ps_if (pt_val (pv 6))
          (pss_one (ps_expr (pe_bm PySem.F.plainAttrs_list PySem.F.slot_list_append PySem.F.type_list_append mt_append (pv 3) (pa_cons (pe_tup (pa_cons (pe_ix ix_list (pv 1) (pv 4) (fun _ _ => rfl)) (pa_cons (pe_ix ix_list (pv 1) (pv 5) (fun _ _ => rfl)) pa_nil))) pa_nil))))
          pss_nil))))))
      (pss_one (ps_ret (pv 3)))))), ?_⟩
    refine ⟨_, rfl, b, c, _, rfl, bx, by decide, by decide, fun dens H1 _ _ b1 e1 => ⟨Nat.zero_le _, fun l nl => ?_⟩⟩
    obtain ⟨nlb, nlc⟩ := b1.ne nl
    have nl0 : H l = none := by
      have h1 := fresh_back e1 nl
      rwa [hid_ne nlb] at h1
    have ha1 : H1 a = some (.lst (vn lamps)) := e1 a _ (by rw [hid_ne nab]; exact ha)
    have ha2 : upd H1 l (.lst []) a = some (.lst (vn lamps)) := Ex.new nl _ _ ha1
    have nal : a ≠ l := ne_of_none ha1 nl
    refine ⟨_, rfl, _, _, rfl, .inl ⟨_, SqL.of ha2, rfl⟩, ?_⟩
    have hvl : (vn lamps).length = lamps.length := List.length_map ..
    refine ⟨_, rfl, by omega, by omega, ?_⟩
    rw [show (((vn lamps).length : Nat) : Int).toNat = lamps.length by omega]
    generalize hn' : lamps.length = n at *
    let W : Nat → Nat → Nat → Hp → Prop := fun i j m H' => ∃ (rs : List Addr) (ixs : List (Nat × Nat)), Box H' b c ∧ Ex (hid b H) H' ∧ H' l = some (.lst (rs.map V.ref)) ∧ WPrs H' rs (ixs.map fun q => (lamps.getD q.1 0, lamps.getD q.2 0)) ∧ ixs.Nodup ∧ (∀ q ∈ ixs, q.1 < q.2 ∧ q.2 < n ∧ (q.1 < i ∨ (q.1 = i ∧ q.2 < j))) ∧ rs.length ≤ m
    have aAt : ∀ {H' : Hp}, Ex (hid b H) H' → H' a = some (.lst (vn lamps)) := fun e => e a _ (by rw [hid_ne nab]; exact ha)
    refine for_range (n := n) (lo := 0) (fun i σ H' => ∃ v1 v2 v3, σ = [some (.ref b), some (.ref a), some (.int dens), some (.ref l), v1, v2, v3] ∧ W i 0 (16 * i) H') ?_ ?_ ?_
    · refine ⟨none, none, none, rfl, [], [], b1.put nlb nlc, e1.trans (Ex.new nl), upd_same, ⟨rfl, fun k r q a => by simp at a⟩, List.nodup_nil, fun q hq => by simp at hq, Nat.zero_le _⟩
    · rintro i σ H2 hi ⟨v1, v2, v3, rfl, w2⟩
      have aa : H2 a = some (.lst (vn lamps)) := by obtain ⟨_, _, _, e2, _⟩ := w2; exact aAt e2
      refine ⟨_, rfl, _, _, rfl, rfl, _, rfl, _, _, rfl, .inl ⟨_, SqL.of aa, rfl⟩, ?_⟩
      refine ⟨_, _, rfl, by omega, ?_⟩
      rw [show (((vn lamps).length : Nat) : Int) - ((0 + (i : Int)) + 1) = ((n - (i + 1) : Nat) : Int) by omega, Int.toNat_natCast]
      refine for_range (n := n - (i + 1)) (lo := 0 + (i : Int) + 1) (fun t σ H' => ∃ v2 v3, σ = [some (.ref b), some (.ref a), some (.int dens), some (.ref l), some (.int (0 + (i : Int))), v2, v3] ∧ W i (i + 1 + t) (16 * i + t) H') ?_ ?_ ?_
      · obtain ⟨rs, ixs, h1, h2, h3, h4, h5, h6, h7⟩ := w2
        exact ⟨v2, v3, rfl, rs, ixs, h1, h2, h3, h4, h5, fun q hq => ⟨(h6 q hq).1, (h6 q hq).2.1, by have := (h6 q hq).2.2; omega⟩, h7⟩
      · rintro t σ H3 ht ⟨v2, v3, rfl, w3⟩
        refine ⟨fun σ H' => ∃ kept : Bool, σ = [some (.ref b), some (.ref a), some (.int dens), some (.ref l), some (.int (0 + (i : Int))), some (.int (0 + (i : Int) + 1 + (t : Int))), some (.bl kept)] ∧ W i (i + 1 + t) (16 * i + t) H', ?_, ?_⟩
        · refine ⟨_, rfl, rfl, _, rfl, ite2 (fun h1 => ?_) (fun h1 => ?_)⟩
          · refine ⟨_, rfl, _, rfl, _, _, rfl, rfl, rfl, ?_⟩
            exact ⟨_, rfl, w3⟩
          · obtain ⟨rs, ixs, h1, h2, h3, h4, h5, h6, h7⟩ := w3
            refine ⟨_, rfl, b, c, _, rfl, h1, by decide, by decide, fun z H4 _ _ b4 e4 => ?_⟩
            refine ⟨_, rfl, _, _, rfl, rfl, ?_⟩
            obtain ⟨_, _, _, _, _, q1⟩ := h1
            refine ⟨_, rfl, rs, ixs, b4, (exh h2).trans e4, e4 _ _ (by rw [hid_ne nlb]; exact h3), h4.monoB e4 q1.bx, h5, h6, h7⟩
        · rintro σ H4 ⟨kept, rfl, w4⟩
          refine ⟨_, rfl, kept, rfl, ite2 (fun h1 => ?_) (fun h1 => ?_)⟩
          · obtain ⟨rs, ixs, h1, h2, h3, h4, h5, h6, h7⟩ := w4
            have a4 := aAt h2
            have ei : (0 + (i : Int)) = ((i : Nat) : Int) := by omega
            have ej : (0 + (i : Int) + 1 + (t : Int)) = ((i + 1 + t : Nat) : Int) := by omega
            have gi := vn_get (xs := lamps) (i := i) (by omega)
            have gj := vn_get (xs := lamps) (i := i + 1 + t) (by omega)
            refine ⟨_, rfl, .inl ⟨rfl, _, SqL.of h3⟩, _, rfl, _, rfl, _, _, _, _, rfl, rfl, SqL.of a4, at_of ei gi, _, rfl, _, rfl, _, _, _, _, rfl, rfl, SqL.of a4, at_of ej gj, by show 2 ≤ sizeLine; decide, fun T nT => ?_⟩
            have nTl : T ≠ l := (ne_of_none h3 nT).symm
            obtain ⟨nTb, nTc⟩ := h1.ne nT
            have l5 : upd H4 T (.tup [.int ((lamps.getD i 0 : Nat) : Int), .int ((lamps.getD (i + 1 + t) 0 : Nat) : Int)]) l = some (.lst (rs.map V.ref)) := by rw [upd_ne nTl.symm]; exact h3
            refine ⟨_, _, _, rfl, rfl, l5, ?_, ?_⟩
            · rw [List.length_map]; exact small1000 (by omega)
            · refine ⟨_, _, rfl, rs ++ [T], ixs ++ [(i, i + 1 + t)], (h1.put nTb nTc).put nlb nlc, ?_, ?_, ?_, ?_, ?_, ?_⟩
              · intro x o hx
                rw [upd_ne, upd_ne]
                · exact h2 x o hx
                · rintro rfl
                  have := h2 x o hx
                  rw [nT] at this; cases this
                · rintro rfl
                  rw [hid_ne nlb, nl0] at hx; cases hx
              · rw [upd_same, List.map_append]; rfl
              · rw [List.map_append]
                refine (WPrs.snoc (q := (lamps.getD i 0, lamps.getD (i + 1 + t) 0)) (h4.mono (Ex.new nT)) upd_same).put l5
              · refine List.nodup_append.mpr ⟨h5, by simp, fun x hx y hy => ?_⟩
                have : y = (i, i + 1 + t) := by simpa using hy
                subst this
                rintro rfl
                have := (h6 _ hx).2.2
                simp at this
              · intro q hq
                rcases List.mem_append.mp hq with hq | hq
                · obtain ⟨x1, x2, x3⟩ := h6 q hq
                  exact ⟨x1, x2, by omega⟩
                · have : q = (i, i + 1 + t) := by simpa using hq
                  subst this
                  exact ⟨by show i < i + 1 + t; omega, by show i + 1 + t < n; omega, .inr ⟨rfl, by show i + 1 + t < i + 1 + (t + 1); omega⟩⟩
              · rw [List.length_append, List.length_singleton]; omega
          · obtain ⟨rs, ixs, h1, h2, h3, h4, h5, h6, h7⟩ := w4
            exact ⟨_, _, rfl, rs, ixs, h1, h2, h3, h4, h5, fun q hq => ⟨(h6 q hq).1, (h6 q hq).2.1, by have := (h6 q hq).2.2; omega⟩, by omega⟩
      · rintro σ H3 ⟨v2, v3, rfl, rs, ixs, h1, h2, h3, h4, h5, h6, h7⟩
        exact ⟨_, _, _, rfl, rs, ixs, h1, h2, h3, h4, h5, fun q hq => ⟨(h6 q hq).1, (h6 q hq).2.1, by have := (h6 q hq).2.2; omega⟩, by omega⟩
    · rintro σ H2 ⟨v1, v2, v3, rfl, rs, ixs, h1, h2, h3, h4, h5, h6, h7⟩
      refine ⟨_, rfl, kk l rs _ H2 nl0 h1 h2 h3 h4 (by omega) (wires_of hnd h5 fun q hq => ⟨(h6 q hq).1, by rw [hn']; exact (h6 q hq).2.1⟩)⟩
end
end K57

set_option Elab.async false
set_option linter.all false
set_option maxRecDepth 100000
set_option maxHeartbeats 4000000
namespace K57
open PySem PySem.Spec PyProof.Rows L2 Evl M57
section
variable {P : Program} {w : World} {K : PySem.W.Frag} {mg : Str → Option Value} {base : Heap}
theorem iteD {c A B : Prop} [Decidable c] (h : c) (q : A) : if decide c = true then A else B := by
  rw [if_pos (decide_eq_true h)]; exact q
theorem iteN {c A B : Prop} [Decidable c] (h : ¬ c) (q : B) : if decide c = true then A else B := by
  rw [if_neg (by rw [decide_eq_false h]; decide)]; exact q
theorem qT {Q : VK} {H : Hp} {c : Prop} [Decidable c] (h : c) (q : Q (.bl true) H) : Q (.bl (decide c)) H := by rw [decide_eq_true h]; exact q
theorem qF {Q : VK} {H : Hp} {c : Prop} [Decidable c] (h : ¬ c) (q : Q (.bl false) H) : Q (.bl (decide c)) H := by rw [decide_eq_false h]; exact q
/-! ### rules that name K (within a comprehension the context is another) -/
section
variable {X : Cx} {K : PySem.W.Frag} {e : Expr} {ta : TE} {f : Str} {pos : Pos}
theorem pe_fldK (he : PE X e ta) (hb : attributeBase e f X.env (eval e X.env) = eval e X.env) (hK : X.K = K := by rfl) : PE X (.Attribute e f pos) (tFld K ta f) := hK ▸ pe_fld he hb
theorem ix_listK (hK : X.K = K := by rfl) : IxR X (rIxL K) := hK ▸ ix_list
theorem ix_tupK (hK : X.K = K := by rfl) : IxR X (rIxT K) := hK ▸ ix_tup
theorem ix_seqK (hK : X.K = K := by rfl) : IxR X (rIx K) := hK ▸ ix_seq
theorem op_in_seqK (hK : X.K = K := by rfl) : OpR X (compareOp .In) (rIn K false) := hK ▸ op_in_seq
theorem op_notIn_seqK (hK : X.K = K := by rfl) : OpR X (compareOp .NotIn) (rIn K true) := hK ▸ op_notIn_seq
theorem call_lenK (hK : X.K = K := by rfl) : CallR X (.builtin "len") (fun xs H Q => ∃ x n, xs = [x] ∧ LenV K x H n ∧ Q (.int n) H) := hK ▸ call_len
end
/-! ### comprehensions, once more -/
theorem given_all {n : Nat} {v : Nat → V} : given n (fun _ => true) v = (List.range n).map v := by
  unfold given; rw [List.filter_eq_self.mpr (by simp)]
theorem et_yes {σ : L2.St} {H : Hp} : EvT tYes σ H true := fun H1 _ Q q => q H1 (Ex.refl H1)
theorem el_lcT {σ : L2.St} {H : Hp} {t : TT} {te : TE} {a : Addr} {xs : List V} {tl : TE} {j : Nat} {vs : List Nat} (f : Nat → Bool) (v : Nat → V) (h : Ev tl σ H (.ref a)) (hx : SqT K H a xs) (hz : xs.length ≤ 40000) (hw : ∀ x, wipe ((wipe σ vs).set j (some x)) vs = wipe σ vs)
    (ht : ∀ (i : Nat) (x : V) H1, Ex H H1 → xs[i]? = some x → EvT t ((wipe σ vs).set j (some x)) H1 (f i)) (he : ∀ (i : Nat) (x : V) H1, Ex H H1 → xs[i]? = some x → f i = true → Ev te ((wipe σ vs).set j (some x)) H1 (v i)) :
    EvL (tLc (iTup K tl) (gName j) t te vs) σ H (given xs.length f v) := fun H0 e Q q => h H0 e _ fun H1 e1 => ⟨a, rfl, ⟨xs, ex_t (e.trans e1) hx⟩, fun Dl hD =>
  lc_tup (xs := xs) (Cw H1 f v Dl) ⟨hD, Ex.new hD, upd_same⟩ (fun i H' _ p => ex_t ((e.trans e1).trans p.2.1) hx) (fun i x H' hi p => ⟨hw x, cw_turn p (by have := (List.getElem?_eq_some_iff.mp hi).1; omega) (ht i x H1 (e.trans e1) hi) (fun hf => he i x H1 (e.trans e1) hi hf)⟩)
    (fun H' p => q Dl H' (fresh_back e1 p.1) (e1.trans p.2.1) p.2.2)⟩
theorem ev_meth {σ : L2.St} {H : Hp} {C : Addr} {m : Str} {sp : Sp} {dvs vs : List V} {ta : TE} {t : TA} {a dx : Addr} {fs : List (Str × V)} {z : V} (h : Ev ta σ H (.ref a)) (ho : H a = some (.ins C dx fs)) (hl : fs.lookup m = none) (ha : EvA t σ H vs) (hs : SpV sp (.ref a :: (vs ++ dvs)) H z) :
    Ev (tMeth C m sp dvs E0 ta t) σ H z := fun H1 e Q q => h H1 e _ fun H2 e2 => ⟨a, dx, fs, rfl, e2 _ _ (e _ _ ho), hl, ha H2 (e.trans e2) _ fun H3 e3 => hs H3 ((e.trans e2).trans e3) Q (fun H4 e4 => q H4 ((e2.trans e3).trans e4)) E0⟩
theorem el_meth {σ : L2.St} {H : Hp} {C : Addr} {m : Str} {sp : Sp} {dvs vs xs : List V} {ta : TE} {t : TA} {a dx : Addr} {fs : List (Str × V)} (h : Ev ta σ H (.ref a)) (ho : H a = some (.ins C dx fs)) (hl : fs.lookup m = none) (ha : EvA t σ H vs) (hs : SpL sp (.ref a :: (vs ++ dvs)) H xs) :
    EvL (tMeth C m sp dvs E0 ta t) σ H xs := fun H1 e Q q => h H1 e _ fun H2 e2 => ⟨a, dx, fs, rfl, e2 _ _ (e _ _ ho), hl, ha H2 (e.trans e2) _ fun H3 e3 => hs H3 ((e.trans e2).trans e3) Q (fun p H4 hp e4 h4 => q p H4 (fresh_back (e2.trans e3) hp) ((e2.trans e3).trans e4) h4) E0⟩
theorem ev_fld {σ : L2.St} {H : Hp} {C dx a : Addr} {fs : List (Str × V)} {ta : TE} {f : Str} {v : V} (h : Ev ta σ H (.ref a)) (ho : H a = some (.ins C dx fs)) (c : Cls K C) (n : NoAttr K C f) (hl : fs.lookup f = some v) : Ev (tFld K ta f) σ H v :=
  fun H1 e Q q => h H1 e _ fun H2 e2 => ⟨a, C, dx, fs, v, rfl, e2 _ _ (e _ _ ho), c, n, hl, q H2 e2⟩
/-! ### the house -/
/-- a list of lists of lamps -/
def LL (H : Hp) (a : Addr) (B : List (List Nat)) : Prop := ∃ rs : List Addr, H a = some (.lst (rs.map V.ref)) ∧ rs.length = B.length ∧ ∀ (i : Nat) (r : Addr), rs[i]? = some r → H r = some (.lst (vn (row B i)))
theorem LL.mono {H H' : Hp} {a : Addr} {B : List (List Nat)} (e : Ex H H') (h : LL H a B) : LL H' a B := let ⟨rs, h1, h2, h3⟩ := h; ⟨rs, e _ _ h1, h2, fun i r hi => e _ _ (h3 i r hi)⟩
theorem LL.at_ {H : Hp} {a : Addr} {B : List (List Nat)} (h : LL H a B) {i : Nat} (hi : i < B.length) : ∃ rs r, H a = some (.lst rs) ∧ rs[i]? = some (V.ref r) ∧ H r = some (.lst (vn (row B i))) := by
  obtain ⟨rs, h1, h2, h3⟩ := h
  have hi' : i < rs.length := by omega
  exact ⟨_, rs[i], h1, by rw [List.getElem?_map, List.getElem?_eq_getElem hi']; rfl, h3 i _ (List.getElem?_eq_getElem hi')⟩
def hseNames : List Str := ["_below_masks", "_above_masks", "_below", "_above", "_order", "count", "hues", "wires", "_direct"]
structure Hse (CH : Addr) (H : Hp) (h : Addr) (n : Nat) (hues : Int) (B D : List (List Nat)) (O : List Nat) : Prop where
  ex : ∃ (dx : Addr) (fs : List (Str × V)) (a1 a2 a3 a4 : Addr) (rs : List Addr) (ps : List (Nat × Nat)), H h = some (.ins CH dx fs) ∧ fs.lookup ("count" : Str) = some (.int n) ∧ fs.lookup ("hues" : Str) = some (.int hues) ∧ fs.lookup ("_below" : Str) = some (.ref a1) ∧ LL H a1 B ∧
    fs.lookup ("_direct" : Str) = some (.ref a2) ∧ LL H a2 D ∧ fs.lookup ("_order" : Str) = some (.ref a3) ∧ H a3 = some (.lst (vn O)) ∧ fs.lookup ("wires" : Str) = some (.ref a4) ∧ H a4 = some (.tup (rs.map V.ref)) ∧ WPrs H rs ps ∧ rs.length ≤ 300 ∧ ∀ m : Str, m ∉ hseNames → fs.lookup m = none
  n1 : 1 ≤ n
  n16 : n ≤ 16
  lB : B.length = n
  lD : D.length = n
  lO : O.length = n
  rB : ∀ i, (row B i).length ≤ 16
  rD : ∀ i, (row D i).length ≤ 16
theorem Hse.mono {CH : Addr} {H H' : Hp} {h : Addr} {n : Nat} {hues : Int} {B D : List (List Nat)} {O : List Nat} (e : Ex H H') (x : Hse CH H h n hues B D O) : Hse CH H' h n hues B D O := by
  obtain ⟨dx, fs, a1, a2, a3, a4, rs, ps, h1, h2, h3, h4, h5, h6, h7, h8, h9, h10, h11, h12, h13, h14⟩ := x.ex
  exact ⟨⟨dx, fs, a1, a2, a3, a4, rs, ps, e _ _ h1, h2, h3, h4, h5.mono e, h6, h7.mono e, h8, e _ _ h9, h10, e _ _ h11, h12.mono e, h13, h14⟩, x.n1, x.n16, x.lB, x.lD, x.lO, x.rB, x.rD⟩
/-- what of the class House the walk asks -/
structure HTxt (K : PySem.W.Frag) (CH : Addr) : Prop where
  cl : Cls K CH
  count : NoAttr K CH "count"
  hues : NoAttr K CH "hues"
  below : NoAttr K CH "_below"
  direct : NoAttr K CH "_direct"
  order : NoAttr K CH "_order"
  wires : NoAttr K CH "wires"
  bm : NoAttr K CH "_below_masks"
  am : NoAttr K CH "_above_masks"
  above : NoAttr K CH "_above"
abbrev s_is_integer : Stmt := topS 13
theorem sc_is_integer : FnScope ["value"] ["value"] (defScope s_is_integer) := ⟨rfl, rfl, rfl, by decide +kernel, rfl, by decide +kernel, by decide +kernel⟩
theorem d_is_integer (B : Bi mg) (I : DefIs K mg "is_integer" "is_integer" s_is_integer ["value"]) : DefOk P w K mg base "is_integer" 1 ["value"] sp_isint := by
  refine I.ok sc_is_integer (fun vs H Q E h => ?_) (fun f cdv A outer s H vs Q E hr h => ?_)
  · obtain ⟨i, rfl, _⟩ := h; rfl
  · obtain ⟨i, rfl, k⟩ := h
    refine ⟨_, (pss_one (ps_ret (pe_and (pe_callB call_isi (by rfl) B.isinstance boot_isinstance (pa_cons (pv 0) (pa_cons (pe_bltn (v := .ty "int") (by rfl) B.int boot_int rfl) pa_nil))) (pe_one (pe_not (pe_callB call_isi (by rfl) B.isinstance boot_isinstance (pa_cons (pv 0) (pa_cons (pe_bltn (v := .ty "bool") (by rfl) B.bool boot_bool rfl) pa_nil)))))))), ?_⟩
    refine ⟨_, rfl, _, _, _, _, true, rfl, .ty _, .base (.int _), kit_ty (by decide +kernel), true, rfl, iteT ?_⟩
    refine ⟨_, rfl, _, _, _, _, false, rfl, .ty _, .base (.int _), kit_ty (by decide +kernel), false, rfl, ?_⟩
    exact k H (Ex.refl H)
abbrev s_is_lamp : Stmt := topS 14
theorem sc_is_lamp : FnScope ["house", "value"] ["house", "value"] (defScope s_is_lamp) := ⟨rfl, rfl, rfl, by decide +kernel, rfl, by decide +kernel, by decide +kernel⟩
def sp_islamp (CH : Addr) : Sp := fun vs H Q _ => ∃ (h : Addr) (n v : Nat) (hues : Int) (B D : List (List Nat)) (O : List Nat), vs = [.ref h, .int v] ∧ Hse CH H h n hues B D O ∧ v < n ∧ ∀ H', Ex H H' → Q (.bl true) H'
theorem d_is_lamp {CH : Addr} (T : HTxt K CH) (D_is_integer : DefOk P w K mg base "is_integer" 1 ["value"] sp_isint) (I : DefIs K mg "is_lamp" "is_lamp" s_is_lamp ["house", "value"]) : DefOk P w K mg base "is_lamp" 2 ["house", "value"] (sp_islamp CH) := by
  refine I.ok sc_is_lamp (fun vs H Q E h => ?_) (fun f cdv A outer s H vs Q E hr h => ?_)
  · obtain ⟨_, _, _, _, _, _, _, rfl, _⟩ := h; rfl
  · obtain ⟨h, n, v, hues, B, D, O, rfl, hh, hv, k⟩ := h
    refine ⟨_, (pss_one (ps_ret (pe_and (pe_callD D_is_integer (hr.mono (by decide)) (pa_cons (pv 1) pa_nil)) (pe_one (pe_chain op_le op_lt pe_int (pv 1) (pe_fld (pv 0) rfl)))))), ?_⟩
    refine ⟨_, rfl, _, rfl, fun H1 e1 => ⟨true, rfl, iteT ?_⟩⟩
    obtain ⟨dx, fs, a1, a2, a3, a4, rs, ps, h1, h2, h3, h4⟩ := (hh.mono e1).ex
    refine ⟨_, rfl, _, _, rfl, rfl, _, rfl, iteD (by omega) ?_⟩
    refine ⟨_, rfl, h, CH, dx, fs, _, rfl, h1, T.cl, T.count, h2, _, _, rfl, rfl, ?_⟩
    exact qT (by omega) (k H1 e1)
def sp_chk (CH : Addr) : Sp := fun vs H Q _ => ∃ (h : Addr) (n v : Nat) (hues : Int) (B D : List (List Nat)) (O : List Nat), vs = [.ref h, .int v] ∧ Hse CH H h n hues B D O ∧ v < n ∧ ∀ H', Ex H H' → Q .non H'
abbrev s__check_lamp : Stmt := topS 16
theorem sc__check_lamp : FnScope ["house", "value"] ["house", "value"] (defScope s__check_lamp) := ⟨rfl, rfl, rfl, by decide +kernel, rfl, by decide +kernel, by decide +kernel⟩
theorem d__check_lamp {CH : Addr} (D_is_lamp : DefOk P w K mg base "is_lamp" 2 ["house", "value"] (sp_islamp CH)) (I : DefIs K mg "_check_lamp" "_check_lamp" s__check_lamp ["house", "value"]) : DefOk P w K mg base "_check_lamp" 3 ["house", "value"] (sp_chk CH) := by
  refine I.ok sc__check_lamp (fun vs H Q E h => ?_) (fun f cdv A outer s H vs Q E hr h => ?_)
  · obtain ⟨_, _, _, _, _, _, _, rfl, _⟩ := h; rfl
  · obtain ⟨h, n, v, hues, B, D, O, rfl, hh, hv, k⟩ := h
    refine ⟨_, (pss_one (ps_if (pt_not (pt_val (pe_callD D_is_lamp (hr.mono (by decide)) (pa_cons (pv 0) (pa_cons (pv 1) pa_nil)))))
      pss_never
      pss_nil)), ?_⟩
    exact ⟨_, rfl, _, rfl, h, n, v, hues, B, D, O, rfl, hh, hv, fun H1 e1 => ⟨_, rfl, iteF (k H1 e1)⟩⟩
abbrev s_need_lamp : Stmt := topS 26
theorem sc_need_lamp : FnScope ["house", "value"] ["house", "value"] (defScope s_need_lamp) := ⟨rfl, rfl, rfl, by decide +kernel, rfl, by decide +kernel, by decide +kernel⟩
theorem d_need_lamp {CH : Addr} (D_is_lamp : DefOk P w K mg base "is_lamp" 2 ["house", "value"] (sp_islamp CH)) (I : DefIs K mg "need_lamp" "need_lamp" s_need_lamp ["house", "value"]) : DefOk P w K mg base "need_lamp" 3 ["house", "value"] (sp_chk CH) := by
  refine I.ok sc_need_lamp (fun vs H Q E h => ?_) (fun f cdv A outer s H vs Q E hr h => ?_)
  · obtain ⟨_, _, _, _, _, _, _, rfl, _⟩ := h; rfl
  · obtain ⟨h, n, v, hues, B, D, O, rfl, hh, hv, k⟩ := h
    refine ⟨_, (pss_one (ps_if (pt_not (pt_val (pe_callD D_is_lamp (hr.mono (by decide)) (pa_cons (pv 0) (pa_cons (pv 1) pa_nil)))))
      pss_never
      pss_nil)), ?_⟩
    exact ⟨_, rfl, _, rfl, h, n, v, hues, B, D, O, rfl, hh, hv, fun H1 e1 => ⟨_, rfl, iteF (k H1 e1)⟩⟩
abbrev s_is_state : Stmt := topS 23
theorem sc_is_state : FnScope ["house", "value", "hue"] ["house", "value"] (defScope s_is_state) := ⟨rfl, rfl, rfl, by decide +kernel, rfl, by decide +kernel, by decide +kernel⟩
def sp_isstate (CH : Addr) : Sp := fun vs H Q _ => ∃ (h t : Addr) (n : Nat) (hues : Int) (B D : List (List Nat)) (O : List Nat) (s : List Int), vs = [.ref h, .ref t] ∧ Hse CH H h n hues B D O ∧ H t = some (.tup (vi s)) ∧ s.length = n ∧ (∀ i, i < n → 0 ≤ nth s i ∧ nth s i < hues) ∧ ∀ H', Ex H H' → Q (.bl true) H'
theorem d_is_state {CH : Addr} (B : Bi mg) (T : HTxt K CH) (D_is_integer : DefOk P w K mg base "is_integer" 1 ["value"] sp_isint) (I : DefIs K mg "is_state_states" "is_state" s_is_state ["house", "value"]) : DefOk P w K mg base "is_state_states" 2 ["house", "value"] (sp_isstate CH) := by
  refine I.ok sc_is_state (fun vs H Q E h => ?_) (fun f cdv A outer s H vs Q E hr h => ?_)
  · obtain ⟨_, _, _, _, _, _, _, _, rfl, _⟩ := h; rfl
  · obtain ⟨h, t, n, hues, B', D, O, s, rfl, hh, ht, hs, hv, k⟩ := h
    refine ⟨_, (pss_cons (ps_if (PW.pt (pw_or (pt_not (pt_val (pe_callB call_isi (by rfl) B.isinstance boot_isinstance (pa_cons (pv 1) (pa_cons (pe_bltn (v := .ty "tuple") (by rfl) B.tuple boot_tuple rfl) pa_nil))))) (pw_or1 (pt_cmpR op_ne (pe_callB call_len (by rfl) B.len PySem.boot_len (pa_cons (pv 1) pa_nil)) (pe_fld (pv 0) rfl) (nomark _)))))
      (pss_one (ps_ret pe_bl))
      pss_nil)
      (pss_one (ps_ret (pe_callB (cr_all rfl) (by rfl) B.all (by decide +kernel) (pa_cons (pe_lc (own := [("hue", 2)]) (g := gName 2) (tt := tYes) rfl sc_is_state.nd (pi_tup (pv 1)) (blkOk_by (own := [("hue", 2)]) (N := ["house", "value", "hue"]) (sc := defScope s_is_state) (by decide +kernel)) (fun _ _ _ _ _ => (pg_name (i := 2) sc_is_state.nd rfl (Or.inl rfl))) (fun _ _ _ _ _ => by exact pts_nil) (fun _ _ _ _ _ => by exact (pe_and (pe_callD D_is_integer (hr.mono (by decide)) (pa_cons (pv 2) pa_nil)) (pe_one (pe_chain op_le op_lt pe_int (pv 2) (pe_fldK (K := K) (pv 0) rfl)))))) pa_nil))))), ?_⟩
    obtain ⟨dx, fs, a1, a2, a3, a4, rs, ps, h1, h2, h3, h4⟩ := hh.ex
    have hn := hh.n16
    have hvl : (vi s).length = s.length := List.length_map ..
    refine ⟨_, rfl, _, _, _, _, true, rfl, .ty _, .base (.tup ht), kit_ty (by decide +kernel), _, rfl, iteF ?_⟩
    refine ⟨_, rfl, _, _, rfl, .inr ⟨_, SqT.of ht, rfl⟩, _, rfl, h, CH, dx, fs, _, rfl, h1, T.cl, T.count, h2, rfl, _, rfl, ?_⟩
    refine iteNS (by rw [hvl, hs]) ?_
    have key := el_lcT (K := K) (σ := [some (.ref h), some (.ref t), none]) (H := H) (t := tYes) (te := tAndV (tCall sp_isint [] E0 (tCons (tVar 2) tNil)) (tChain (rI0 fun i j => .bl (decide (i ≤ j))) (rI0 fun i j => .bl (decide (i < j))) (tC (.int 0)) (tVar 2) (tFld K (tVar 0) "hues"))) (a := t) (xs := vi s) (tl := tVar 1) (j := 2) (vs := [2]) (fun _ => true) (fun _ => .bl true)
      (ev_var rfl) (SqT.of ht) (by omega) (fun _ => rfl) (fun i x H1 e1 hi => et_yes) (fun i x H1 e1 hi _ => ?_)
    · dsimp only [tNext, tRet, tCB, tCons, tNil]
      refine key H (Ex.refl H) _ fun p H1 np e1 hp => ?_
      rw [given_all] at hp
      refine ⟨p, List.replicate (vi s).length true, rfl, SqL.of (by rw [hp]; congr 2; rw [List.map_replicate]; exact (List.map_const' ..).trans (by rw [List.length_range])), ?_⟩
      have : (List.replicate (vi s).length true).all id = true := by simp [List.all_replicate]
      rw [this]
      exact k H1 e1
    · have hi2 : i < s.length := by
        have := (List.getElem?_eq_some_iff.mp hi).1
        omega
      rw [vi_nth hi2] at hi
      cases hi
      obtain ⟨v1, v2⟩ := hv i (by omega)
      refine fun H2 e2 Q2 q2 => ⟨_, rfl, _, rfl, fun H3 e3 => ⟨true, rfl, iteT ?_⟩⟩
      refine ⟨_, rfl, _, _, rfl, rfl, _, rfl, iteD v1 ?_⟩
      refine ⟨_, rfl, h, CH, dx, fs, _, rfl, e3 _ _ (e2 _ _ (e1 _ _ h1)), T.cl, T.hues, h3, _, _, rfl, rfl, ?_⟩
      exact qT v2 (q2 H3 e3)
def sp_row (CH : Addr) (direct : Bool) : Sp := fun vs H Q _ => ∃ (h : Addr) (n v : Nat) (hues : Int) (B D : List (List Nat)) (O : List Nat), vs = [.ref h, .int v] ∧ Hse CH H h n hues B D O ∧ v < n ∧ ∀ p H', H p = none → Ex H H' → H' p = some (.lst (vn (row (if direct then D else B) v))) → Q (.ref p) H'
abbrev s_House_beneath : Stmt := inClass (topS 21) 5
theorem sc_House_beneath : FnScope ["self", "lamp"] ["self", "lamp"] (defScope s_House_beneath) := ⟨rfl, rfl, rfl, by decide +kernel, rfl, by decide +kernel, by decide +kernel⟩
theorem m_beneath {CH : Addr} (B : Bi mg) (T : HTxt K CH) (D__check_lamp : DefOk P w K mg base "_check_lamp" 3 ["house", "value"] (sp_chk CH)) (I : MethIs K CH "beneath" "beneath" "House.beneath" s_House_beneath ["self", "lamp"]) : MethOk P w K mg base CH "beneath" 4 ["self", "lamp"] [] (sp_row CH false) := by
  refine I.ok sc_House_beneath (fun vs H Q E h => ?_) (fun f cdv A outer s H vs Q E hr h => ?_)
  · obtain ⟨_, _, _, _, _, _, _, rfl, _⟩ := h; rfl
  · obtain ⟨h, n, v, hues, B', D, O, rfl, hh, hv, k⟩ := h
    refine ⟨_, (pss_cons (ps_expr (pe_callD D__check_lamp (hr.mono (by decide)) (pa_cons (pv 0) (pa_cons (pv 1) pa_nil))))
      (pss_one (ps_ret (pe_callTy call_list_of (by rfl) B.list (by decide +kernel) (pa_cons (pe_ix ix_list (pe_fld (pv 0) rfl) (pv 1) (fun _ _ => rfl)) pa_nil))))), ?_⟩
    refine ⟨_, rfl, _, rfl, h, n, v, hues, B', D, O, rfl, hh, hv, fun H1 e1 => ?_⟩
    obtain ⟨dx, fs, a1, a2, a3, a4, rs, ps, h1, h2, h3, h4, h5, h6⟩ := (hh.mono e1).ex
    obtain ⟨us, r, l1, l2, l3⟩ := h5.at_ (i := v) (by rw [hh.lB]; exact hv)
    refine ⟨_, rfl, h, CH, dx, fs, _, rfl, h1, T.cl, T.below, h4, _, rfl, _, _, _, _, rfl, rfl, SqL.of l1, atI_nat l2, _, _, rfl, .inl (SqL.of l3), fun p np => ?_⟩
    exact k p _ (fresh_back e1 np) (e1.trans (Ex.new np)) upd_same
abbrev s_House_direct : Stmt := inClass (topS 21) 7
theorem sc_House_direct : FnScope ["self", "lamp"] ["self", "lamp"] (defScope s_House_direct) := ⟨rfl, rfl, rfl, by decide +kernel, rfl, by decide +kernel, by decide +kernel⟩
theorem m_direct {CH : Addr} (B : Bi mg) (T : HTxt K CH) (D__check_lamp : DefOk P w K mg base "_check_lamp" 3 ["house", "value"] (sp_chk CH)) (I : MethIs K CH "direct" "direct" "House.direct" s_House_direct ["self", "lamp"]) : MethOk P w K mg base CH "direct" 4 ["self", "lamp"] [] (sp_row CH true) := by
  refine I.ok sc_House_direct (fun vs H Q E h => ?_) (fun f cdv A outer s H vs Q E hr h => ?_)
  · obtain ⟨_, _, _, _, _, _, _, rfl, _⟩ := h; rfl
  · obtain ⟨h, n, v, hues, B', D, O, rfl, hh, hv, k⟩ := h
    refine ⟨_, (pss_cons (ps_expr (pe_callD D__check_lamp (hr.mono (by decide)) (pa_cons (pv 0) (pa_cons (pv 1) pa_nil))))
      (pss_one (ps_ret (pe_callTy call_list_of (by rfl) B.list (by decide +kernel) (pa_cons (pe_ix ix_list (pe_fld (pv 0) rfl) (pv 1) (fun _ _ => rfl)) pa_nil))))), ?_⟩
    refine ⟨_, rfl, _, rfl, h, n, v, hues, B', D, O, rfl, hh, hv, fun H1 e1 => ?_⟩
    obtain ⟨dx, fs, a1, a2, a3, a4, rs, ps, h1, h2, h3, h4, h5, h6, h7, h8⟩ := (hh.mono e1).ex
    obtain ⟨us, r, l1, l2, l3⟩ := h7.at_ (i := v) (by rw [hh.lD]; exact hv)
    refine ⟨_, rfl, h, CH, dx, fs, _, rfl, h1, T.cl, T.direct, h6, _, rfl, _, _, _, _, rfl, rfl, SqL.of l1, atI_nat l2, _, _, rfl, .inl (SqL.of l3), fun p np => ?_⟩
    exact k p _ (fresh_back e1 np) (e1.trans (Ex.new np)) upd_same
abbrev s_House_order : Stmt := inClass (topS 21) 10
theorem sc_House_order : FnScope ["self"] ["self"] (defScope s_House_order) := ⟨rfl, rfl, rfl, by decide +kernel, rfl, by decide +kernel, by decide +kernel⟩
def sp_order (CH : Addr) : Sp := fun vs H Q _ => ∃ (h : Addr) (n : Nat) (hues : Int) (B D : List (List Nat)) (O : List Nat), vs = [.ref h] ∧ Hse CH H h n hues B D O ∧ ∀ p H', H p = none → Ex H H' → H' p = some (.lst (vn O)) → Q (.ref p) H'
theorem m_order {CH : Addr} (B : Bi mg) (T : HTxt K CH) (I : MethIs K CH "order" "order" "House.order" s_House_order ["self"]) : MethOk P w K mg base CH "order" 1 ["self"] [] (sp_order CH) := by
  refine I.ok sc_House_order (fun vs H Q E h => ?_) (fun f cdv A outer s H vs Q E hr h => ?_)
  · obtain ⟨_, _, _, _, _, _, rfl, _⟩ := h; rfl
  · obtain ⟨h, n, hues, B', D, O, rfl, hh, k⟩ := h
    refine ⟨_, (pss_one (ps_ret (pe_callTy call_list_of (by rfl) B.list (by decide +kernel) (pa_cons (pe_fld (pv 0) rfl) pa_nil)))), ?_⟩
    obtain ⟨dx, fs, a1, a2, a3, a4, rs, ps, h1, h2, h3, h4, h5, h6, h7, h8, h9, h10⟩ := hh.ex
    refine ⟨_, rfl, h, CH, dx, fs, _, rfl, h1, T.cl, T.order, h8, _, _, rfl, .inl (SqL.of h9), fun p np => ?_⟩
    exact k p _ np (Ex.new np) upd_same
end
end K57

set_option Elab.async false
set_option linter.all false
set_option maxRecDepth 100000
set_option maxHeartbeats 4000000
namespace K57
open PySem PySem.Spec PyProof.Rows L2 Evl M57
section
variable {P : Program} {w : World} {K : PySem.W.Frag} {mg : Str → Option Value} {base : Heap} {CH C : Addr} {way : Nat}
def kinNames : List Str := ["house", "gain", "sizes"]
/-- a rule object of the class at C stands at k; Y tells house, turned lamps, factors, order -/
structure KinAt (CH C : Addr) (Y : Sys) (H : Hp) (k : Addr) : Prop where
  ex : ∃ (dx : Addr) (fs : List (Str × V)) (h : Addr) (B D : List (List Nat)), H k = some (.ins C dx fs) ∧ fs.lookup ("house" : Str) = some (.ref h) ∧ Hse CH H h Y.n Y.hues B D Y.O ∧ Y.T = (if Y.way = 2 ∨ Y.way = 3 then D else B) ∧ (∀ m : Str, m ∉ kinNames → fs.lookup m = none) ∧
    (Y.way = 4 → ∃ g : Int, fs.lookup ("gain" : Str) = some (.int g) ∧ ∀ v, v < Y.n → nth Y.N v = g) ∧ (Y.way = 6 → ∃ (a : Addr) (sz : List Int), fs.lookup ("sizes" : Str) = some (.ref a) ∧ H a = some (.tup (vi sz)) ∧ sz.length = Y.n ∧ ∀ v, v < Y.n → nth Y.N v = nth sz v - 1) ∧
    (Y.way ≠ 4 → Y.way ≠ 6 → ∀ v, v < Y.n → nth Y.N v = Y.hues - 1)
  ok : Y.Ok
theorem KinAt.mono {Y : Sys} {H H' : Hp} {k : Addr} (e : Ex H H') (x : KinAt CH C Y H k) : KinAt CH C Y H' k := by
  obtain ⟨dx, fs, h, B, D, h1, h2, h3, h4, h5, h6, h7, h8⟩ := x.ex
  exact ⟨⟨dx, fs, h, B, D, e _ _ h1, h2, h3.mono e, h4, h5, h6, fun q => let ⟨a, sz, z1, z2, z3⟩ := h7 q; ⟨a, sz, z1, e _ _ z2, z3⟩, h8⟩, x.ok⟩
/-- what of the class the walk asks -/
structure KTxt (K : PySem.W.Frag) (C : Addr) : Prop where
  cl : Cls K C
  house : NoAttr K C "house"
  gain : NoAttr K C "gain"
  sizes : NoAttr K C "sizes"
/-- a hue that a move may meet -/
def sp_turned (CH C : Addr) (way : Nat) : Sp := fun vs H Q _ => ∃ (Y : Sys) (k : Addr) (v : Nat), vs = [.ref k, .int v] ∧ Y.way = way ∧ KinAt CH C Y H k ∧ v < Y.n ∧ ∀ p H', H p = none → Ex H H' → H' p = some (.lst (vn (row Y.T v))) → Q (.ref p) H'
def sp_factor (CH C : Addr) (way : Nat) : Sp := fun vs H Q _ => ∃ (Y : Sys) (k : Addr) (v : Nat), vs = [.ref k, .int v] ∧ Y.way = way ∧ KinAt CH C Y H k ∧ v < Y.n ∧ ∀ H', Ex H H' → Q (.int (nth Y.N v)) H'
def sp_kst (CH C : Addr) (way : Nat) : Sp := fun vs H Q _ => ∃ (Y : Sys) (k t : Addr) (s : List Int), vs = [.ref k, .ref t] ∧ Y.way = way ∧ KinAt CH C Y H k ∧ H t = some (.tup (vi s)) ∧ IsSt Y s ∧ ∀ H', Ex H H' → Q (.bl true) H'
def sp_nst (CH C : Addr) (way : Nat) : Sp := fun vs H Q _ => ∃ (Y : Sys) (k t : Addr) (s : List Int), vs = [.ref k, .ref t] ∧ Y.way = way ∧ KinAt CH C Y H k ∧ H t = some (.tup (vi s)) ∧ IsSt Y s ∧ ∀ H', Ex H H' → Q .non H'
def sp_nl (CH C : Addr) (way : Nat) : Sp := fun vs H Q _ => ∃ (Y : Sys) (k : Addr) (v : Nat), vs = [.ref k, .int v] ∧ Y.way = way ∧ KinAt CH C Y H k ∧ v < Y.n ∧ ∀ H', Ex H H' → Q .non H'
def sp_own : Sp := fun vs H Q _ => ∃ (a : V) (x : Int), vs = [a, .int x] ∧ ∀ H', Ex H H' → Q (.int (x - 1)) H'
def sp_hit (CH C : Addr) (way : Nat) : Sp := fun vs H Q _ => ∃ (Y : Sys) (k : Addr) (v : Nat) (x : Int), vs = [.ref k, .int v, .int x] ∧ Y.way = way ∧ KinAt CH C Y H k ∧ v < Y.n ∧ Val way Y.hues (nth Y.N v) x ∧ ∀ H', Ex H H' → Q (.int (hit way Y.hues (nth Y.N v) x)) H'
abbrev s_Kin_turned : Stmt := inClass (topS 29) 2
theorem sc_Kin_turned : FnScope ["self", "lamp"] ["self", "lamp"] (defScope s_Kin_turned) := ⟨rfl, rfl, rfl, by decide +kernel, rfl, by decide +kernel, by decide +kernel⟩
theorem m_turned (TH : HTxt K CH) (T : KTxt K C) (hw : way ≠ 2 ∧ way ≠ 3) (MH_beneath : MethOk P w K mg base CH "beneath" 4 ["self", "lamp"] [] (sp_row CH false)) (I : MethIs K C "turned" "turned" "Kin.turned" s_Kin_turned ["self", "lamp"]) :
    MethOk P w K mg base C "turned" 5 ["self", "lamp"] [] (sp_turned CH C way) := by
  have cl := T.cl
  have clH := TH.cl
  refine I.ok sc_Kin_turned (fun vs H Q E h => ?_) (fun f cdv A outer s H vs Q E hr h => ?_)
  · obtain ⟨_, _, _, rfl, _⟩ := h; rfl
  · obtain ⟨Y, k, v, rfl, rfl, hk, hv, kk⟩ := h
    refine ⟨_, (pss_one (ps_ret (pe_methD MH_beneath clH (hr.mono (by decide)) (pe_fld (pv 0) rfl) (pa_cons (pv 1) pa_nil)))), ?_⟩
    obtain ⟨dx, fs, h, B, D, h1, h2, h3, h4, h5, h6⟩ := hk.ex
    obtain ⟨dy, gs, a1, a2, a3, a4, rs, ps, g1, g2, g3, g4, g5, g6, g7, g8, g9, g10, g11, g12, g13, g14⟩ := h3.ex
    refine ⟨_, rfl, k, C, dx, fs, _, rfl, h1, cl, T.house, h2, h, dy, gs, rfl, g1, g14 _ (by decide +kernel), _, rfl, h, Y.n, v, Y.hues, B, D, Y.O, rfl, h3, hv, fun p H1 np e1 hp => ?_⟩
    refine kk p H1 np e1 ?_
    rw [h4, if_neg (fun z => z.elim hw.1 hw.2)]
    exact hp
abbrev s_WiredKin_turned : Stmt := inClass (topS 31) 1
theorem sc_WiredKin_turned : FnScope ["self", "lamp"] ["self", "lamp"] (defScope s_WiredKin_turned) := ⟨rfl, rfl, rfl, by decide +kernel, rfl, by decide +kernel, by decide +kernel⟩
theorem m_turnedW (TH : HTxt K CH) (T : KTxt K C) (hw : way = 2 ∨ way = 3) (MH_direct : MethOk P w K mg base CH "direct" 4 ["self", "lamp"] [] (sp_row CH true)) (I : MethIs K C "turned" "turned" "WiredKin.turned" s_WiredKin_turned ["self", "lamp"]) :
    MethOk P w K mg base C "turned" 5 ["self", "lamp"] [] (sp_turned CH C way) := by
  have cl := T.cl
  have clH := TH.cl
  refine I.ok sc_WiredKin_turned (fun vs H Q E h => ?_) (fun f cdv A outer s H vs Q E hr h => ?_)
  · obtain ⟨_, _, _, rfl, _⟩ := h; rfl
  · obtain ⟨Y, k, v, rfl, rfl, hk, hv, kk⟩ := h
    refine ⟨_, (pss_one (ps_ret (pe_methD MH_direct clH (hr.mono (by decide)) (pe_fld (pv 0) rfl) (pa_cons (pv 1) pa_nil)))), ?_⟩
    obtain ⟨dx, fs, h, B, D, h1, h2, h3, h4, h5, h6⟩ := hk.ex
    obtain ⟨dy, gs, a1, a2, a3, a4, rs, ps, g1, g2, g3, g4, g5, g6, g7, g8, g9, g10, g11, g12, g13, g14⟩ := h3.ex
    refine ⟨_, rfl, k, C, dx, fs, _, rfl, h1, cl, T.house, h2, h, dy, gs, rfl, g1, g14 _ (by decide +kernel), _, rfl, h, Y.n, v, Y.hues, B, D, Y.O, rfl, h3, hv, fun p H1 np e1 hp => ?_⟩
    refine kk p H1 np e1 ?_
    rw [h4, if_pos hw]
    exact hp
abbrev s_Kin__need_lamp : Stmt := inClass (topS 29) 16
theorem sc_Kin__need_lamp : FnScope ["self", "lamp"] ["self", "lamp"] (defScope s_Kin__need_lamp) := ⟨rfl, rfl, rfl, by decide +kernel, rfl, by decide +kernel, by decide +kernel⟩
theorem m_need_lamp (T : KTxt K C) (D_need_lamp : DefOk P w K mg base "need_lamp" 3 ["house", "value"] (sp_chk CH)) (I : MethIs K C "_need_lamp" "_need_lamp" "Kin._need_lamp" s_Kin__need_lamp ["self", "lamp"]) :
    MethOk P w K mg base C "_need_lamp" 4 ["self", "lamp"] [] (sp_nl CH C way) := by
  refine I.ok sc_Kin__need_lamp (fun vs H Q E h => ?_) (fun f cdv A outer s H vs Q E hr h => ?_)
  · obtain ⟨_, _, _, rfl, _⟩ := h; rfl
  · obtain ⟨Y, k, v, rfl, rfl, hk, hv, kk⟩ := h
    refine ⟨_, (pss_one (ps_expr (pe_callD D_need_lamp (hr.mono (by decide)) (pa_cons (pe_fld (pv 0) rfl) (pa_cons (pv 1) pa_nil))))), ?_⟩
    obtain ⟨dx, fs, h, B, D, h1, h2, h3, h4, h5, h6⟩ := hk.ex
    exact ⟨_, rfl, k, C, dx, fs, _, rfl, h1, T.cl, T.house, h2, _, rfl, h, Y.n, v, Y.hues, B, D, Y.O, rfl, h3, hv, kk⟩
abbrev s_Kin__need_state : Stmt := inClass (topS 29) 15
theorem sc_Kin__need_state : FnScope ["self", "state"] ["self", "state"] (defScope s_Kin__need_state) := ⟨rfl, rfl, rfl, by decide +kernel, rfl, by decide +kernel, by decide +kernel⟩
theorem m_need_state (T : KTxt K C) (M_is_state : MethOk P w K mg base C "is_state" 3 ["self", "value"] [] (sp_kst CH C way)) (I : MethIs K C "_need_state" "_need_state" "Kin._need_state" s_Kin__need_state ["self", "state"]) :
    MethOk P w K mg base C "_need_state" 4 ["self", "state"] [] (sp_nst CH C way) := by
  have cl := T.cl
  refine I.ok sc_Kin__need_state (fun vs H Q E h => ?_) (fun f cdv A outer s H vs Q E hr h => ?_)
  · obtain ⟨_, _, _, _, rfl, _⟩ := h; rfl
  · obtain ⟨Y, k, t, s, rfl, rfl, hk, ht, hs, kk⟩ := h
    refine ⟨_, (pss_one (ps_if (pt_not (pt_val (pe_methD M_is_state cl (hr.mono (by decide)) (pv 0) (pa_cons (pv 1) pa_nil))))
      pss_never
      pss_nil)), ?_⟩
    obtain ⟨dx, fs, h, B, D, h1, h2, h3, h4, h5, h6⟩ := hk.ex
    exact ⟨_, rfl, k, dx, fs, rfl, h1, h5 _ (by decide +kernel), _, rfl, Y, k, t, s, rfl, rfl, hk, ht, hs, fun H1 e1 => ⟨_, rfl, iteF (kk H1 e1)⟩⟩
abbrev s_Kin__own : Stmt := inClass (topS 29) 6
theorem sc_Kin__own : FnScope ["self", "hue"] ["self", "hue"] (defScope s_Kin__own) := ⟨rfl, rfl, rfl, by decide +kernel, rfl, by decide +kernel, by decide +kernel⟩
theorem m_own (I : MethIs K C "_own" "_own" "Kin._own" s_Kin__own ["self", "hue"]) : MethOk P w K mg base C "_own" 1 ["self", "hue"] [] sp_own := by
  refine I.ok sc_Kin__own (fun vs H Q E h => ?_) (fun f cdv A outer s H vs Q E hr h => ?_)
  · obtain ⟨_, _, rfl, _⟩ := h; rfl
  · obtain ⟨a, x, rfl, kk⟩ := h
    refine ⟨_, (pss_one (ps_ret (pe_op op_sub (pv 1) pe_int))), ?_⟩
    exact ⟨_, rfl, _, _, rfl, rfl, kk H (Ex.refl H)⟩
abbrev s_Kin_factor : Stmt := inClass (topS 29) 3
theorem sc_Kin_factor : FnScope ["self", "lamp"] ["self", "lamp"] (defScope s_Kin_factor) := ⟨rfl, rfl, rfl, by decide +kernel, rfl, by decide +kernel, by decide +kernel⟩
theorem m_factor (TH : HTxt K CH) (T : KTxt K C) (hw : way ≠ 4 ∧ way ≠ 6) (M__need_lamp : MethOk P w K mg base C "_need_lamp" 4 ["self", "lamp"] [] (sp_nl CH C way)) (I : MethIs K C "factor" "factor" "Kin.factor" s_Kin_factor ["self", "lamp"]) :
    MethOk P w K mg base C "factor" 5 ["self", "lamp"] [] (sp_factor CH C way) := by
  have cl := T.cl
  refine I.ok sc_Kin_factor (fun vs H Q E h => ?_) (fun f cdv A outer s H vs Q E hr h => ?_)
  · obtain ⟨_, _, _, rfl, _⟩ := h; rfl
  · obtain ⟨Y, k, v, rfl, rfl, hk, hv, kk⟩ := h
    refine ⟨_, (pss_cons (ps_expr (pe_methD M__need_lamp cl (hr.mono (by decide)) (pv 0) (pa_cons (pv 1) pa_nil)))
      (pss_one (ps_ret (pe_op op_sub (pe_fld (pe_fld (pv 0) rfl) rfl) pe_int)))), ?_⟩
    obtain ⟨dx, fs, h, B, D, h1, h2, h3, h4, h5, h6⟩ := hk.ex
    refine ⟨_, rfl, k, dx, fs, rfl, h1, h5 _ (by decide +kernel), _, rfl, Y, k, v, rfl, rfl, hk, hv, fun H1 e1 => ?_⟩
    obtain ⟨dx, fs, h, B, D, h1, h2, h3, h4, h5, h6, h7, h8⟩ := (hk.mono e1).ex
    obtain ⟨dy, gs, a1, a2, a3, a4, rs, ps, g1, g2, g3, g4⟩ := h3.ex
    refine ⟨_, rfl, k, C, dx, fs, _, rfl, h1, cl, T.house, h2, h, CH, dy, gs, _, rfl, g1, TH.cl, TH.hues, g3, _, _, rfl, rfl, ?_⟩
    have q := kk H1 e1
    rw [h8 hw.1 hw.2 v hv] at q
    exact q
abbrev s_GainKin_factor : Stmt := inClass (topS 36) 2
theorem sc_GainKin_factor : FnScope ["self", "lamp"] ["self", "lamp"] (defScope s_GainKin_factor) := ⟨rfl, rfl, rfl, by decide +kernel, rfl, by decide +kernel, by decide +kernel⟩
theorem m_factorG (T : KTxt K C) (hw : way = 4) (M__need_lamp : MethOk P w K mg base C "_need_lamp" 4 ["self", "lamp"] [] (sp_nl CH C way)) (I : MethIs K C "factor" "factor" "GainKin.factor" s_GainKin_factor ["self", "lamp"]) :
    MethOk P w K mg base C "factor" 5 ["self", "lamp"] [] (sp_factor CH C way) := by
  have cl := T.cl
  refine I.ok sc_GainKin_factor (fun vs H Q E h => ?_) (fun f cdv A outer s H vs Q E hr h => ?_)
  · obtain ⟨_, _, _, rfl, _⟩ := h; rfl
  · obtain ⟨Y, k, v, rfl, rfl, hk, hv, kk⟩ := h
    refine ⟨_, (pss_cons (ps_expr (pe_methD M__need_lamp cl (hr.mono (by decide)) (pv 0) (pa_cons (pv 1) pa_nil)))
      (pss_one (ps_ret (pe_fld (pv 0) rfl)))), ?_⟩
    obtain ⟨dx, fs, h, B, D, h1, h2, h3, h4, h5, h6⟩ := hk.ex
    refine ⟨_, rfl, k, dx, fs, rfl, h1, h5 _ (by decide +kernel), _, rfl, Y, k, v, rfl, rfl, hk, hv, fun H1 e1 => ?_⟩
    obtain ⟨dx, fs, h, B, D, h1, h2, h3, h4, h5, h6, h7, h8⟩ := (hk.mono e1).ex
    obtain ⟨g, g1, g2⟩ := h6 hw
    refine ⟨_, rfl, k, C, dx, fs, _, rfl, h1, cl, T.gain, g1, ?_⟩
    have q := kk H1 e1
    rw [g2 v hv] at q
    exact q
abbrev s_MixedKin_factor : Stmt := inClass (topS 38) 2
theorem sc_MixedKin_factor : FnScope ["self", "lamp"] ["self", "lamp"] (defScope s_MixedKin_factor) := ⟨rfl, rfl, rfl, by decide +kernel, rfl, by decide +kernel, by decide +kernel⟩
theorem m_factorM (T : KTxt K C) (hw : way = 6) (M__need_lamp : MethOk P w K mg base C "_need_lamp" 4 ["self", "lamp"] [] (sp_nl CH C way)) (I : MethIs K C "factor" "factor" "MixedKin.factor" s_MixedKin_factor ["self", "lamp"]) :
    MethOk P w K mg base C "factor" 5 ["self", "lamp"] [] (sp_factor CH C way) := by
  have cl := T.cl
  refine I.ok sc_MixedKin_factor (fun vs H Q E h => ?_) (fun f cdv A outer s H vs Q E hr h => ?_)
  · obtain ⟨_, _, _, rfl, _⟩ := h; rfl
  · obtain ⟨Y, k, v, rfl, rfl, hk, hv, kk⟩ := h
    refine ⟨_, (pss_cons (ps_expr (pe_methD M__need_lamp cl (hr.mono (by decide)) (pv 0) (pa_cons (pv 1) pa_nil)))
      (pss_one (ps_ret (pe_op op_sub (pe_ix ix_tup (pe_fld (pv 0) rfl) (pv 1) (fun _ _ => rfl)) pe_int)))), ?_⟩
    obtain ⟨dx, fs, h, B, D, h1, h2, h3, h4, h5, h6⟩ := hk.ex
    refine ⟨_, rfl, k, dx, fs, rfl, h1, h5 _ (by decide +kernel), _, rfl, Y, k, v, rfl, rfl, hk, hv, fun H1 e1 => ?_⟩
    obtain ⟨dx, fs, h, B, D, h1, h2, h3, h4, h5, h6, h7, h8⟩ := (hk.mono e1).ex
    obtain ⟨a, sz, g1, g2, g3, g4⟩ := h7 hw
    refine ⟨_, rfl, k, C, dx, fs, _, rfl, h1, cl, T.sizes, g1, _, rfl, _, _, _, _, rfl, rfl, SqT.of g2, atI_nat (vi_nth (by omega)), _, _, rfl, rfl, ?_⟩
    have q := kk H1 e1
    rw [g4 v hv] at q
    exact q
abbrev s_Kin__hit : Stmt := inClass (topS 29) 7
theorem sc_Kin__hit : FnScope ["self", "lamp", "hue"] ["self", "lamp", "hue"] (defScope s_Kin__hit) := ⟨rfl, rfl, rfl, by decide +kernel, rfl, by decide +kernel, by decide +kernel⟩
theorem hit_free {way : Nat} {hues num x : Int} (h4 : way ≠ 4) (h5 : way ≠ 5) (h6 : way ≠ 6) (h2 : 2 ≤ hues) (v : Val way hues num x) : hit way hues num x = if 0 < x then x - 1 else hues - 1 := by
  obtain ⟨v1, v2⟩ := v
  simp only [h5, h6, if_false, false_or] at v2
  unfold hit
  rw [if_neg h4, if_neg h5, if_neg h6]
  by_cases q : 0 < x
  · rw [if_pos q, Int.emod_eq_of_lt (by omega) (by omega)]
  · rw [if_neg q]
    have : x = 0 := by omega
    subst this
    exact neg_one_mod (by omega)
theorem m_hit (TH : HTxt K CH) (T : KTxt K C) (hw : way ≠ 4 ∧ way ≠ 5 ∧ way ≠ 6) (I : MethIs K C "_hit" "_hit" "Kin._hit" s_Kin__hit ["self", "lamp", "hue"]) :
    MethOk P w K mg base C "_hit" 1 ["self", "lamp", "hue"] [] (sp_hit CH C way) := by
  refine I.ok sc_Kin__hit (fun vs H Q E h => ?_) (fun f cdv A outer s H vs Q E hr h => ?_)
  · obtain ⟨_, _, _, _, rfl, _⟩ := h; rfl
  · obtain ⟨Y, k, v, x, rfl, rfl, hk, hv, hx, kk⟩ := h
    refine ⟨_, (pss_cons (ps_if (pt_cmpR op_gt (pv 2) pe_int (nomark _))
      (pss_one (ps_ret (pe_op op_sub (pv 2) pe_int)))
      pss_nil)
      (pss_one (ps_ret (pe_op op_sub (pe_fld (pe_fld (pv 0) rfl) rfl) pe_int)))), ?_⟩
    obtain ⟨dx, fs, h, B, D, h1, h2, h3, h4, h5, h6⟩ := hk.ex
    obtain ⟨dy, gs, a1, a2, a3, a4, rs, ps, g1, g2, g3, g4⟩ := h3.ex
    have q := kk H (Ex.refl H)
    rw [hit_free hw.1 hw.2.1 hw.2.2 hk.ok.h2 hx] at q
    refine ⟨_, rfl, _, _, rfl, rfl, _, rfl, ite2 (fun z => ?_) (fun z => ?_)⟩
    · have z' : 0 < x := of_decide_eq_true z
      rw [if_pos z'] at q
      exact ⟨_, rfl, _, _, rfl, rfl, q⟩
    · have z' : ¬ 0 < x := fun y => z (decide_eq_true y)
      rw [if_neg z'] at q
      exact ⟨_, rfl, k, C, dx, fs, _, rfl, h1, T.cl, T.house, h2, h, CH, dy, gs, _, rfl, g1, TH.cl, TH.hues, g3, _, _, rfl, rfl, q⟩
abbrev s_GainKin__hit : Stmt := inClass (topS 36) 3
theorem sc_GainKin__hit : FnScope ["self", "lamp", "hue"] ["self", "lamp", "hue"] (defScope s_GainKin__hit) := ⟨rfl, rfl, rfl, by decide +kernel, rfl, by decide +kernel, by decide +kernel⟩
theorem m_hitG (TH : HTxt K CH) (T : KTxt K C) (hw : way = 4) (I : MethIs K C "_hit" "_hit" "GainKin._hit" s_GainKin__hit ["self", "lamp", "hue"]) :
    MethOk P w K mg base C "_hit" 1 ["self", "lamp", "hue"] [] (sp_hit CH C way) := by
  refine I.ok sc_GainKin__hit (fun vs H Q E h => ?_) (fun f cdv A outer s H vs Q E hr h => ?_)
  · obtain ⟨_, _, _, _, rfl, _⟩ := h; rfl
  · obtain ⟨Y, k, v, x, rfl, rfl, hk, hv, hx, kk⟩ := h
    refine ⟨_, (pss_one (ps_ret (pe_op op_mod (pe_op op_add (pv 2) (pe_fld (pv 0) rfl)) (pe_fld (pe_fld (pv 0) rfl) rfl)))), ?_⟩
    obtain ⟨dx, fs, h, B, D, h1, h2, h3, h4, h5, h6, h7, h8⟩ := hk.ex
    obtain ⟨dy, gs, a1, a2, a3, a4, rs, ps, g1, g2, g3, g4⟩ := h3.ex
    obtain ⟨g, q1, q2⟩ := h6 hw
    have q := kk H (Ex.refl H)
    unfold hit at q
    rw [if_pos hw, q2 v hv] at q
    have := hk.ok.h2
    exact ⟨_, rfl, _, rfl, k, C, dx, fs, _, rfl, h1, T.cl, T.gain, q1, _, _, rfl, rfl, _, rfl, k, C, dx, fs, _, rfl, h1, T.cl, T.house, h2, h, CH, dy, gs, _, rfl, g1, TH.cl, TH.hues, g3, _, _, rfl, rfl, (show 0 < Y.hues by omega), q⟩
abbrev s_CoinKin__hit : Stmt := inClass (topS 37) 2
theorem sc_CoinKin__hit : FnScope ["self", "lamp", "hue"] ["self", "lamp", "hue"] (defScope s_CoinKin__hit) := ⟨rfl, rfl, rfl, by decide +kernel, rfl, by decide +kernel, by decide +kernel⟩
theorem m_hitC (TH : HTxt K CH) (T : KTxt K C) (hw : way = 5) (I : MethIs K C "_hit" "_hit" "CoinKin._hit" s_CoinKin__hit ["self", "lamp", "hue"]) :
    MethOk P w K mg base C "_hit" 1 ["self", "lamp", "hue"] [] (sp_hit CH C way) := by
  refine I.ok sc_CoinKin__hit (fun vs H Q E h => ?_) (fun f cdv A outer s H vs Q E hr h => ?_)
  · obtain ⟨_, _, _, _, rfl, _⟩ := h; rfl
  · obtain ⟨Y, k, v, x, rfl, rfl, hk, hv, hx, kk⟩ := h
    refine ⟨_, (pss_one (ps_ret (pe_op op_sub (pe_op op_add (pv 2) (pe_fld (pe_fld (pv 0) rfl) rfl)) pe_int))), ?_⟩
    obtain ⟨dx, fs, h, B, D, h1, h2, h3, h4, h5, h6, h7, h8⟩ := hk.ex
    obtain ⟨dy, gs, a1, a2, a3, a4, rs, ps, g1, g2, g3, g4⟩ := h3.ex
    have q := kk H (Ex.refl H)
    have e : hit Y.way Y.hues (nth Y.N v) x = x + Y.hues - 1 := by
      unfold hit
      rw [if_neg (by omega), if_pos hw, h8 (by omega) (by omega) v hv]; omega
    rw [e] at q
    exact ⟨_, rfl, _, rfl, k, C, dx, fs, _, rfl, h1, T.cl, T.house, h2, h, CH, dy, gs, _, rfl, g1, TH.cl, TH.hues, g3, _, _, rfl, rfl, _, _, rfl, rfl, q⟩
abbrev s_MixedKin__hit : Stmt := inClass (topS 38) 4
theorem sc_MixedKin__hit : FnScope ["self", "lamp", "hue"] ["self", "lamp", "hue"] (defScope s_MixedKin__hit) := ⟨rfl, rfl, rfl, by decide +kernel, rfl, by decide +kernel, by decide +kernel⟩
theorem m_hitM (T : KTxt K C) (hw : way = 6) (I : MethIs K C "_hit" "_hit" "MixedKin._hit" s_MixedKin__hit ["self", "lamp", "hue"]) :
    MethOk P w K mg base C "_hit" 1 ["self", "lamp", "hue"] [] (sp_hit CH C way) := by
  refine I.ok sc_MixedKin__hit (fun vs H Q E h => ?_) (fun f cdv A outer s H vs Q E hr h => ?_)
  · obtain ⟨_, _, _, _, rfl, _⟩ := h; rfl
  · obtain ⟨Y, k, v, x, rfl, rfl, hk, hv, hx, kk⟩ := h
    refine ⟨_, (pss_cons (ps_if (pt_cmpR op_gt (pv 2) pe_int (nomark _))
      (pss_one (ps_ret (pe_op op_sub (pv 2) pe_int)))
      pss_nil)
      (pss_one (ps_ret (pe_op op_sub (pe_ix ix_tup (pe_fld (pv 0) rfl) (pv 1) (fun _ _ => rfl)) pe_int)))), ?_⟩
    obtain ⟨dx, fs, h, B, D, h1, h2, h3, h4, h5, h6, h7, h8⟩ := hk.ex
    obtain ⟨a, sz, g1, g2, g3, g4⟩ := h7 hw
    have q := kk H (Ex.refl H)
    have nk := hk.ok.num v hv
    have e : hit Y.way Y.hues (nth Y.N v) x = if 0 < x then x - 1 else nth sz v - 1 := by
      obtain ⟨v1, v2⟩ := hx
      rw [hw] at v2
      simp at v2
      have n1 := nk.1
      rw [← g4 v hv]
      unfold hit
      rw [if_neg (by omega), if_neg (by omega), if_pos hw]
      by_cases z : 0 < x
      · rw [if_pos z, Int.emod_eq_of_lt (by omega) (by omega)]
      · rw [if_neg z]
        have : x = 0 := by omega
        subst this
        rw [neg_one_mod (by omega)]; omega
    rw [e] at q
    refine ⟨_, rfl, _, _, rfl, rfl, _, rfl, ite2 (fun z => ?_) (fun z => ?_)⟩
    · have z' : 0 < x := of_decide_eq_true z
      rw [if_pos z'] at q
      exact ⟨_, rfl, _, _, rfl, rfl, q⟩
    · have z' : ¬ 0 < x := fun y => z (decide_eq_true y)
      rw [if_neg z'] at q
      exact ⟨_, rfl, k, C, dx, fs, _, rfl, h1, T.cl, T.sizes, g1, _, rfl, _, _, _, _, rfl, rfl, SqT.of g2, atI_nat (vi_nth (by omega)), _, _, rfl, rfl, q⟩
abbrev s_Kin_is_state : Stmt := inClass (topS 29) 4
theorem sc_Kin_is_state : FnScope ["self", "value"] ["self", "value"] (defScope s_Kin_is_state) := ⟨rfl, rfl, rfl, by decide +kernel, rfl, by decide +kernel, by decide +kernel⟩
theorem m_is_state (T : KTxt K C) (hw : way ≠ 5 ∧ way ≠ 6) (D_is_state_states : DefOk P w K mg base "is_state_states" 2 ["house", "value"] (sp_isstate CH)) (I : MethIs K C "is_state" "is_state" "Kin.is_state" s_Kin_is_state ["self", "value"]) :
    MethOk P w K mg base C "is_state" 3 ["self", "value"] [] (sp_kst CH C way) := by
  refine I.ok sc_Kin_is_state (fun vs H Q E h => ?_) (fun f cdv A outer s H vs Q E hr h => ?_)
  · obtain ⟨_, _, _, _, rfl, _⟩ := h; rfl
  · obtain ⟨Y, k, t, s, rfl, rfl, hk, ht, hs, kk⟩ := h
    refine ⟨_, (pss_one (ps_ret (pe_callD D_is_state_states (hr.mono (by decide)) (pa_cons (pe_fld (pv 0) rfl) (pa_cons (pv 1) pa_nil))))), ?_⟩
    obtain ⟨dx, fs, h, B, D, h1, h2, h3, h4, h5, h6⟩ := hk.ex
    refine ⟨_, rfl, k, C, dx, fs, _, rfl, h1, T.cl, T.house, h2, _, rfl, h, t, Y.n, Y.hues, B, D, Y.O, s, rfl, h3, ht, hs.len, fun i hi => ?_, kk⟩
    obtain ⟨v1, v2⟩ := hs.val i hi
    simp only [hw.1, hw.2, if_false, false_or] at v2
    exact ⟨v1, v2⟩
end
end K57

set_option Elab.async false
set_option linter.all false
set_option maxRecDepth 100000
set_option maxHeartbeats 4000000
namespace K57
open PySem PySem.Spec PyProof.Rows L2 Evl M57
/-! ### what evaluates to what, once more -/
section
variable {K : PySem.W.Frag} {σ : L2.St} {H : Hp} {ta tb te : TE} {a : Addr} {i : Nat}
theorem ev_ixT {s : List Int} (h1 : Ev ta σ H (.ref a)) (h2 : Ev tb σ H (.int (i : Int))) (hs : H a = some (.tup (vi s))) (hi : i < s.length) : Ev (tOp (rIxT K) ta tb) σ H (.int (nth s i)) := ev_op h1 h2 (rv_ixT (SqT.of hs) (atI_nat (vi_nth hi)))
theorem ev_ixL {s : List Int} (h1 : Ev ta σ H (.ref a)) (h2 : Ev tb σ H (.int (i : Int))) (hs : H a = some (.lst (vi s))) (hi : i < s.length) : Ev (tOp (rIxL K) ta tb) σ H (.int (nth s i)) := ev_op h1 h2 (rv_ixL (SqL.of hs) (atI_nat (vi_nth hi)))
theorem ev_sum {ns : List Int} (h : EvL te σ H (vi ns)) : Ev (tCB (rSum K) (tCons te tNil)) σ H (.int ns.sum) := fun H1 e Q q => h H1 e _ fun p H2 hp e2 h2 => ⟨p, ns, rfl, SqL.of h2, q H2 e2⟩
theorem ev_sumV {ns : List Int} (h : Ev te σ H (.ref a)) (ha : H a = some (.lst (vi ns))) : Ev (tCB (rSum K) (tCons te tNil)) σ H (.int ns.sum) := fun H1 e Q q => h H1 e _ fun H2 e2 => ⟨a, ns, rfl, SqL.of (e2 _ _ (e _ _ ha)), q H2 e2⟩
theorem rep0 {n : Nat} : (List.replicate n [V.int 0]).flatten = vi (List.replicate n 0) := by
  induction n with
  | zero => rfl
  | succ n ih => rw [List.replicate_succ, List.flatten_cons, ih]; rfl
theorem el_rep0 {n : Nat} (hn : n ≤ 1000) (h : Ev tb σ H (.int (n : Int))) : EvL (tOp rRep (tLst (tCons (tC (.int 0)) tNil)) tb) σ H (vi (List.replicate n 0)) := fun H1 e Q q =>
  ⟨by show 1 ≤ sizeLine; decide, fun l nl => h (upd H1 l _) (e.trans (Ex.new nl)) _ fun H2 e2 => ⟨l, (n : Int), [.int 0], rfl, rfl, e2 _ _ upd_same, by omega, by omega, by show 1 * (n : Int).toNat ≤ sizeLine; rw [Int.toNat_natCast, Nat.one_mul]; exact Nat.le_of_lt (small1000 hn), fun p np => by
    rw [Int.toNat_natCast, rep0]
    exact q p _ (fresh_back ((Ex.new nl).trans e2) np) (((Ex.new nl).trans e2).trans (Ex.new np)) upd_same⟩⟩
theorem inV_vn {x : Nat} {xs : List Nat} : inV (.int (x : Int)) (vn xs) = decide (x ∈ xs) := by
  unfold inV vn
  induction xs with
  | nil => simp
  | cons y ys ih =>
    rw [List.map_cons, List.any_cons, ih]
    by_cases q : x = y
    · subst q; simp [eqV]
    · have : ¬ (y : Int) = (x : Int) := by omega
      simp [eqV, q, this]
theorem vn_flat {xs : List Nat} : (vn xs).all flatV = true := by
  rw [List.all_eq_true]
  intro x hx
  obtain ⟨y, _, rfl⟩ := List.mem_map.mp hx
  rfl
theorem vi_set {xs : List Int} {i : Nat} {v : Int} : (vi xs).set i (.int v) = vi (xs.set i v) := by unfold vi; rw [List.map_set]
theorem given_filter {n : Nat} {f : Nat → Bool} : given n f (fun i => .int (i : Int)) = vn ((List.range n).filter f) := rfl
end
section
variable {P : Program} {w : World} {K : PySem.W.Frag} {mg : Str → Option Value} {base : Heap} {CH C : Addr} {way : Nat}
theorem spl_turned {Y : Sys} {H : Hp} {k : Addr} {v : Nat} (hk : KinAt CH C Y H k) (hv : v < Y.n) : SpL (sp_turned CH C Y.way) [.ref k, .int v] H (vn (row Y.T v)) := fun H1 e Q q E => ⟨Y, k, v, rfl, rfl, hk.mono e, hv, q⟩
theorem spv_factor {Y : Sys} {H : Hp} {k : Addr} {v : Nat} (hk : KinAt CH C Y H k) (hv : v < Y.n) : SpV (sp_factor CH C Y.way) [.ref k, .int v] H (.int (nth Y.N v)) := fun H1 e Q q E => ⟨Y, k, v, rfl, rfl, hk.mono e, hv, q⟩
theorem spv_nst {Y : Sys} {H : Hp} {k t : Addr} {s : List Int} (hk : KinAt CH C Y H k) (ht : H t = some (.tup (vi s))) (hs : IsSt Y s) : SpV (sp_nst CH C Y.way) [.ref k, .ref t] H .non := fun H1 e Q q E => ⟨Y, k, t, s, rfl, rfl, hk.mono e, e _ _ ht, hs, q⟩
theorem spv_hit {Y : Sys} {H : Hp} {k : Addr} {v : Nat} {x : Int} (hk : KinAt CH C Y H k) (hv : v < Y.n) (hx : Val Y.way Y.hues (nth Y.N v) x) : SpV (sp_hit CH C Y.way) [.ref k, .int v, .int x] H (.int (hit Y.way Y.hues (nth Y.N v) x)) := fun H1 e Q q E => ⟨Y, k, v, x, rfl, rfl, hk.mono e, hv, hx, q⟩
theorem spv_own {H : Hp} {a : V} {x : Int} : SpV sp_own [a, .int x] H (.int (x - 1)) := fun H1 e Q q E => ⟨a, x, rfl, q⟩
theorem ev_count {Y : Sys} {H : Hp} {k : Addr} {σ : L2.St} {ta : TE} (TH : HTxt K CH) (T : KTxt K C) (hk : KinAt CH C Y H k) (h : Ev ta σ H (.ref k)) : Ev (tFld K (tFld K ta "house") "count") σ H (.int (Y.n : Int)) := by
  obtain ⟨dx, fs, h', B, D, h1, h2, h3, h4, h5, h6⟩ := hk.ex
  obtain ⟨dy, gs, a1, a2, a3, a4, rs, ps, g1, g2, g3, g4⟩ := h3.ex
  exact ev_fld (ev_fld h h1 T.cl T.house h2) g1 TH.cl TH.count g2
theorem el_order {Y : Sys} {H : Hp} {k : Addr} {σ : L2.St} {ta : TE} (T : KTxt K C) (hk : KinAt CH C Y H k) (h : Ev ta σ H (.ref k)) : EvL (tMeth CH "order" (sp_order CH) [] E0 (tFld K ta "house") tNil) σ H (vn Y.O) := by
  obtain ⟨dx, fs, h', B, D, h1, h2, h3, h4, h5, h6⟩ := hk.ex
  obtain ⟨dy, gs, a1, a2, a3, a4, rs, ps, g1, g2, g3, g4, g5, g6, g7, g8, g9, g10, g11, g12, g13, g14⟩ := h3.ex
  exact el_meth (ev_fld h h1 T.cl T.house h2) g1 (g14 _ (by decide +kernel)) ea_nil fun H1 e Q q E => ⟨h', Y.n, Y.hues, B, D, Y.O, rfl, h3.mono e, q⟩
theorem KinAt.no {Y : Sys} {H : Hp} {k : Addr} (hk : KinAt CH C Y H k) : ∃ dx fs, H k = some (.ins C dx fs) ∧ ∀ m : Str, m ∉ kinNames → fs.lookup m = none :=
  let ⟨dx, fs, _, _, _, h1, _, _, _, h5, _⟩ := hk.ex; ⟨dx, fs, h1, h5⟩
abbrev s_Kin__turners : Stmt := inClass (topS 29) 17
theorem sc_Kin__turners : FnScope ["self", "lamp", "other"] ["self", "lamp"] (defScope s_Kin__turners) := ⟨rfl, rfl, rfl, by decide +kernel, rfl, by decide +kernel, by decide +kernel⟩
def sp_turners (CH C : Addr) (way : Nat) : Sp := fun vs H Q _ => ∃ (Y : Sys) (k : Addr) (v : Nat), vs = [.ref k, .int v] ∧ Y.way = way ∧ KinAt CH C Y H k ∧ v < Y.n ∧ ∀ p H', H p = none → Ex H H' → H' p = some (.lst (vn ((List.range Y.n).filter fun u => decide (v ∈ row Y.T u)))) → Q (.ref p) H'
theorem m_turners (B : Bi mg) (TH : HTxt K CH) (T : KTxt K C) (M_turned : MethOk P w K mg base C "turned" 5 ["self", "lamp"] [] (sp_turned CH C way)) (I : MethIs K C "_turners" "_turners" "Kin._turners" s_Kin__turners ["self", "lamp"]) :
    MethOk P w K mg base C "_turners" 6 ["self", "lamp"] [] (sp_turners CH C way) := by
  have cl := T.cl
  refine I.ok sc_Kin__turners (fun vs H Q E h => ?_) (fun f cdv A outer s H vs Q E hr h => ?_)
  · obtain ⟨_, _, _, rfl, _⟩ := h; rfl
  · obtain ⟨Y, k, v, rfl, rfl, hk, hv, kk⟩ := h
    refine ⟨_, (pss_one (ps_ret (pe_lc (own := [("other", 2)]) (g := gName 2) rfl sc_Kin__turners.nd (pi_range1 rfl B.range (pa_cons (pe_fld (pe_fld (pv 0) rfl) rfl) pa_nil)) (blkOk_by (own := [("other", 2)]) (N := ["self", "lamp", "other"]) (sc := defScope s_Kin__turners) (by decide +kernel)) (fun _ _ _ _ _ => (pg_name (i := 2) sc_Kin__turners.nd rfl (Or.inl rfl))) (fun _ _ _ _ _ => by exact (pts_one (pt_cmpR (op_in_seqK (K := K)) (pv 1) (pe_methD M_turned cl (hr.mono (by decide)) (pv 0) (pa_cons (pv 2) pa_nil)) (by first | exact nomark _ | rfl)))) (fun _ _ _ _ _ => by exact (pv 2))))), ?_⟩
    have hn := hk.ok.n16
    have key := el_lcR1 (σ := [some (.ref k), some (.int v), none]) (H := H) (ta := tCons (tFld K (tFld K (tVar 0) "house") "count") tNil) (j := 2) (vs := [2]) (n := (Y.n : Int)) (t := tTest (tOp (rIn K false) (tVar 1) (tMeth C "turned" (sp_turned CH C Y.way) [] E0 (tVar 0) (tCons (tVar 2) tNil)))) (te := tVar 2)
      (fun u => decide (v ∈ row Y.T u)) (fun u => .int (u : Int)) (ea_cons (ev_count TH T hk (ev_var rfl)) ea_nil) (by omega) (fun _ => rfl) (fun u H1 e1 hu => ?_) (fun u H1 e1 hu _ => ev_var rfl)
    · refine key H (Ex.refl H) _ fun p H1 np e1 hp => ?_
      rw [Int.toNat_natCast] at hp
      exact kk p H1 np e1 hp
    · obtain ⟨dx, fs, h1, h5⟩ := hk.no
      refine et_test (ev_is (ev_opL (ev_var rfl) (el_meth (ev_var rfl) (e1 _ _ h1) (h5 _ (by decide +kernel)) (ea_cons (ev_var rfl) ea_nil) (spl_turned (hk.mono e1) (by omega))) fun p H2 hp e2 => rv_isL (SqL.of hp) rfl vn_flat) ?_)
      rw [inV_vn]
abbrev s_Kin__lit_turned : Stmt := inClass (topS 29) 18
theorem sc_Kin__lit_turned : FnScope ["self", "state", "lamp", "other"] ["self", "state", "lamp"] (defScope s_Kin__lit_turned) := ⟨rfl, rfl, rfl, by decide +kernel, rfl, by decide +kernel, by decide +kernel⟩
def sp_lit (CH C : Addr) (way : Nat) : Sp := fun vs H Q _ => ∃ (Y : Sys) (k t : Addr) (s : List Int) (v : Nat), vs = [.ref k, .ref t, .int v] ∧ Y.way = way ∧ KinAt CH C Y H k ∧ H t = some (.tup (vi s)) ∧ s.length = Y.n ∧ v < Y.n ∧
  ((∀ u ∈ row Y.T v, ¬ 0 < nth s u) → ∀ H', Ex H H' → Q .non H') ∧ (∀ u : Nat, u ∈ row Y.T v → 0 < nth s u → ∀ H', Ex H H' → Q (.int u) H')
theorem m_lit (T : KTxt K C) (M_turned : MethOk P w K mg base C "turned" 5 ["self", "lamp"] [] (sp_turned CH C way)) (I : MethIs K C "_lit_turned" "_lit_turned" "Kin._lit_turned" s_Kin__lit_turned ["self", "state", "lamp"]) :
    MethOk P w K mg base C "_lit_turned" 6 ["self", "state", "lamp"] [] (sp_lit CH C way) := by
  have cl := T.cl
  refine I.ok sc_Kin__lit_turned (fun vs H Q E h => ?_) (fun f cdv A outer s H vs Q E hr h => ?_)
  · obtain ⟨_, _, _, _, _, rfl, _⟩ := h; rfl
  · obtain ⟨Y, k, t, s, v, rfl, rfl, hk, ht, hs, hv, k1, k2⟩ := h
    refine ⟨_, (pss_cons (ps_for PassesOwn.never rfl (pi_list (pe_methD M_turned cl (hr.mono (by decide)) (pv 0) (pa_cons (pv 2) pa_nil))) (pg_name (i := 3) sc_Kin__lit_turned.nd rfl (Or.inl rfl))
      (pss_one (ps_if (pt_cmpR op_gt (pe_ix ix_tup (pv 1) (pv 3) (fun _ _ => rfl)) pe_int (nomark _))
        (pss_one (ps_ret (pv 3)))
        pss_nil)))
      (pss_one (ps_ret pe_non))), ?_⟩
    obtain ⟨dx, fs, h1, h5⟩ := hk.no
    refine s_forNL (K := K) (el_meth (ev_var rfl) h1 (h5 _ (by decide +kernel)) (ea_cons (ev_var rfl) ea_nil) (spl_turned hk hv)) (fun p i σ H' => Ex H H' ∧ H' p = some (.lst (vn (row Y.T v))) ∧ (∃ x, σ = [some (.ref k), some (.ref t), some (.int v), x]) ∧ ∀ u ∈ (row Y.T v).take i, ¬ 0 < nth s u) (fun p H1 np e1 hp => ⟨e1, hp, ⟨_, rfl⟩, by simp⟩) (fun p i σ H' _ q => SqL.of q.2.1) ?_ ?_
    · rintro p i x σ H1 hi ⟨e1, hp, ⟨y, rfl⟩, hall⟩
      have hi2 : i < (row Y.T v).length := by
        have := (List.getElem?_eq_some_iff.mp hi).1
        rwa [List.length_map] at this
      rw [vn_get hi2] at hi
      cases hi
      have hm : (row Y.T v).getD i 0 ∈ row Y.T v := by
        rw [List.getD_eq_getElem?_getD, List.getElem?_eq_getElem hi2]; exact List.getElem_mem hi2
      have hlt := hk.ok.rows.lt v _ hm
      refine ⟨_, rfl, _, rfl, _, _, _, _, rfl, rfl, SqT.of (e1 _ _ ht), atI_nat (vi_nth (by omega)), _, _, rfl, rfl, _, rfl, ite2 (fun z => ?_) (fun z => ?_)⟩
      · exact ⟨_, rfl, k2 _ hm (of_decide_eq_true z) H1 e1⟩
      · refine ⟨e1, hp, ⟨_, rfl⟩, fun u hu => ?_⟩
        rw [List.take_add_one, List.getElem?_eq_getElem hi2] at hu
        rcases List.mem_append.mp hu with hu | hu
        · exact hall u hu
        · have : u = (row Y.T v).getD i 0 := by
            rw [List.getD_eq_getElem?_getD, List.getElem?_eq_getElem hi2]; simpa using hu
          subst this
          exact fun y => z (decide_eq_true y)
    · rintro p σ H1 ⟨e1, hp, ⟨y, rfl⟩, hall⟩
      refine k1 (fun u hu => hall u ?_) H1 e1
      rw [List.length_map, List.take_length]; exact hu
end
end K57

set_option Elab.async false
set_option linter.all false
set_option maxRecDepth 100000
set_option maxHeartbeats 4000000
namespace K57
open PySem PySem.Spec PyProof.Rows L2 Evl M57
section
variable {P : Program} {w : World} {K : PySem.W.Frag} {mg : Str → Option Value} {base : Heap} {CH C : Addr} {way : Nat}
theorem getD_mem {l : List Nat} {i : Nat} (h : i < l.length) : l.getD i 0 ∈ l := by
  rw [List.getD_eq_getElem?_getD, List.getElem?_eq_getElem h]; exact List.getElem_mem h
theorem getD_at {l : List Nat} {i : Nat} (h : i < l.length) : l[i]? = some (l.getD i 0) := by
  rw [List.getD_eq_getElem?_getD, List.getElem?_eq_getElem h]; rfl
theorem take_succ_getD {l : List Nat} {i : Nat} (h : i < l.length) : l.take (i + 1) = l.take i ++ [l.getD i 0] := by
  rw [List.take_add_one, getD_at h]; rfl
theorem not_mem_take {l : List Nat} (nd : l.Nodup) {i : Nat} (h : i < l.length) : l.getD i 0 ∉ l.take i := fun hm => by
  have e : l = l.take i ++ l.getD i 0 :: l.drop (i + 1) := by
    have h1 := List.take_append_drop i l
    rw [List.drop_eq_getElem_cons h] at h1
    rw [List.getD_eq_getElem?_getD, List.getElem?_eq_getElem h]
    exact h1.symm
  rw [e] at nd
  exact (List.nodup_append.mp nd).2.2 _ hm _ List.mem_cons_self rfl
theorem given_map {r : List Nat} {f : Nat → Int} : (List.range r.length).map (fun j => V.int (f (r.getD j 0))) = vi (r.map f) := by
  unfold vi
  rw [List.map_map]
  refine List.ext_getElem (by simp) fun i h1 h2 => ?_
  simp only [List.length_map, List.length_range] at h1
  simp [List.getD_eq_getElem?_getD, List.getElem?_eq_getElem h1]
theorem _root_.M57.Rows.len_le {n : Nat} {T : List (List Nat)} (R : Rows n T) (u : Nat) : (row T u).length ≤ n := by
  have h := sum_mem (f := fun _ => (1 : Int)) (R.nd u) (R.lt u)
  have e : ∀ l : List Nat, (l.map fun _ => (1 : Int)).sum = l.length := fun l => by
    induction l with
    | nil => rfl
    | cons a l ih => rw [List.map_cons, List.sum_cons, ih, List.length_cons]; omega
  have e2 : ∀ n : Nat, S n (fun _ => (1 : Int)) = n := fun n => by
    induction n with
    | zero => rfl
    | succ n ih => simp only [S]; rw [ih]; omega
  have le := S_le (n := n) (f := fun i => if i ∈ row T u then (1 : Int) else 0) (g := fun _ => 1) fun i _ => by
    by_cases q : i ∈ row T u
    · simp only [q, if_true]; exact Int.le_refl _
    · simp only [q, if_false]; decide
  rw [e] at h
  rw [e2] at le
  omega
theorem vn_len {l : List Nat} : (vn l).length = l.length := List.length_map ..
theorem vi_len {l : List Int} : (vi l).length = l.length := List.length_map ..
abbrev s_Kin__moved : Stmt := inClass (topS 29) 19
theorem sc_Kin__moved : FnScope ["self", "state", "lamp", "hues", "other"] ["self", "state", "lamp"] (defScope s_Kin__moved) := ⟨rfl, rfl, rfl, by decide +kernel, rfl, by decide +kernel, by decide +kernel⟩
def sp_moved (CH C : Addr) (way : Nat) : Sp := fun vs H Q _ => ∃ (Y : Sys) (k t : Addr) (s : List Int) (v : Nat), vs = [.ref k, .ref t, .int v] ∧ Y.way = way ∧ KinAt CH C Y H k ∧ H t = some (.tup (vi s)) ∧ IsSt Y s ∧ v < Y.n ∧
  ∀ p H', H p = none → Ex H H' → H' p = some (.tup (vi (moved Y s v))) → Q (.ref p) H'
theorem m_moved (B : Bi mg) (T : KTxt K C) (M_turned : MethOk P w K mg base C "turned" 5 ["self", "lamp"] [] (sp_turned CH C way)) (M__own : MethOk P w K mg base C "_own" 1 ["self", "hue"] [] sp_own)
    (M__hit : MethOk P w K mg base C "_hit" 1 ["self", "lamp", "hue"] [] (sp_hit CH C way)) (I : MethIs K C "_moved" "_moved" "Kin._moved" s_Kin__moved ["self", "state", "lamp"]) :
    MethOk P w K mg base C "_moved" 6 ["self", "state", "lamp"] [] (sp_moved CH C way) := by
  have cl := T.cl
  refine I.ok sc_Kin__moved (fun vs H Q E h => ?_) (fun f cdv A outer s H vs Q E hr h => ?_)
  · obtain ⟨_, _, _, _, _, rfl, _⟩ := h; rfl
  · obtain ⟨Y, k, t, s, v, rfl, rfl, hk, ht, hs, hv, kk⟩ := h
    refine ⟨_, (pss_cons (ps_set (i := 3) sc_Kin__moved.nd rfl (Or.inl rfl) (pe_callTy call_list_of (by rfl) B.list (by decide +kernel) (pa_cons (pv 1) pa_nil)))
      (pss_cons (ps_asg (pe_methD M__own cl (hr.mono (by decide)) (pv 0) (pa_cons (pe_ix ix_list (pv 3) (pv 2) (fun _ _ => rfl)) pa_nil)) (pg_sub (pv 3) (pv 2) set_list))
      (pss_cons (ps_for PassesOwn.never rfl (pi_list (pe_methD M_turned cl (hr.mono (by decide)) (pv 0) (pa_cons (pv 2) pa_nil))) (pg_name (i := 4) sc_Kin__moved.nd rfl (Or.inl rfl))
      (pss_one (ps_asg (pe_methD M__hit cl (hr.mono (by decide)) (pv 0) (pa_cons (pv 4) (pa_cons (pe_ix ix_list (pv 3) (pv 4) (fun _ _ => rfl)) pa_nil))) (pg_sub (pv 3) (pv 4) set_list))))
      (pss_one (ps_ret (pe_callTy call_tuple_of (by rfl) B.tuple (by decide +kernel) (pa_cons (pv 3) pa_nil))))))), ?_⟩
    have ok := hk.ok
    have hn := ok.n16
    refine ⟨_, rfl, _, _, rfl, .inr (SqT.of ht), fun l nl => ?_⟩
    obtain ⟨dx, fs, h1, h5⟩ := hk.no
    have e0 : Ex H (upd H l (.lst (vi s))) := Ex.new nl
    have hkl : k ≠ l := ne_of_none h1 nl
    refine q_setL (l := l) (xs := vi s) (j := v) upd_same (ev_meth (ev_var rfl) (e0 _ _ h1) (h5 _ (by decide +kernel)) (ea_cons (ev_ixL (ev_var rfl) (ev_var rfl) upd_same (by rw [hs.len]; exact hv)) ea_nil) spv_own) (ev_var rfl) (ev_var rfl) (by rw [vi_len, hs.len]; exact hv) fun H1 e1 => ?_
    rw [vi_set]
    have e2 : Ex H (upd H1 l (.lst (vi (s.set v (nth s v - 1))))) := Ex.mut (e0.trans e1) nl
    refine q_forNLn (K := K) (el_meth (ev_var rfl) (e2 _ _ h1) (h5 _ (by decide +kernel)) (ea_cons (ev_var rfl) ea_nil) (spl_turned (hk.mono e2) hv))
      (fun p i σ H' => Ex H H' ∧ p ≠ l ∧ H' p = some (.lst (vn (row Y.T v))) ∧ H' l = some (.lst (vi (hitAll Y ((row Y.T v).take i) (s.set v (nth s v - 1))))) ∧ ∃ x, σ = [some (.ref k), some (.ref t), some (.int v), some (.ref l), x])
      (fun p H2 np e3 hp => ⟨e2.trans e3, (ne_of_none upd_same np).symm, hp, by rw [List.take_zero]; exact e3 _ _ upd_same, _, rfl⟩) (fun p i σ H' _ q => SqL.of q.2.2.1) ?_ ?_
    · rintro p i x σ H2 hi ⟨e3, npl, hp, hl, y, rfl⟩
      have hi2 : i < (row Y.T v).length := by
        have := (List.getElem?_eq_some_iff.mp hi).1
        rwa [vn_len] at this
      rw [vn_get hi2] at hi
      cases hi
      have hm := getD_mem hi2
      have hlt := ok.rows.lt v _ hm
      generalize hu : (row Y.T v).getD i 0 = u at hm hlt
      have huv : u ≠ v := fun z => ok.topo.irrefl hv (z ▸ hm)
      have hcur : nth (hitAll Y ((row Y.T v).take i) (s.set v (nth s v - 1))) u = nth s u := by
        rw [hitAll_nth _ _ _ ((ok.rows.nd v).sublist (List.take_sublist _ _)) (fun w hw => by rw [List.length_set, hs.len]; exact ok.rows.lt v w (List.mem_of_mem_take hw))]
        rw [if_neg (by rw [← hu]; exact not_mem_take (ok.rows.nd v) hi2), nth_set (by rw [hs.len]; exact hv), if_neg huv]
      have hlen : (hitAll Y ((row Y.T v).take i) (s.set v (nth s v - 1))).length = Y.n := by rw [hitAll_len, List.length_set, hs.len]
      refine s_setL (l := l) (j := u) hl (ev_meth (ev_var rfl) (e3 _ _ h1) (h5 _ (by decide +kernel)) (ea_cons (ev_var rfl) (ea_cons (ev_ixL (ev_var rfl) (ev_var rfl) hl (by rw [hlen]; exact hlt)) ea_nil)) (spv_hit (hk.mono e3) hlt (by rw [hcur]; exact hs.val u hlt))) (ev_var rfl) (ev_var rfl) (by rw [vi_len, hlen]; exact hlt) fun H3 e4 => ?_
      refine ⟨Ex.mut (e3.trans e4) nl, npl, by rw [upd_ne npl]; exact e4 _ _ hp, ?_, _, rfl⟩
      rw [upd_same, vi_set, take_succ_getD hi2, hu]
      unfold hitAll
      rw [List.foldl_append]
      rfl
    · rintro p σ H2 ⟨e3, npl, hp, hl, y, rfl⟩
      rw [vn_len, List.take_length] at hl
      refine ⟨_, rfl, _, _, rfl, .inl ⟨SqL.of hl, fun q nq => ?_⟩⟩
      exact kk q _ (fresh_back e3 nq) (e3.trans (Ex.new nq)) upd_same
abbrev s_Kin__weights : Stmt := inClass (topS 29) 21
theorem sc_Kin__weights : FnScope ["self", "heavy", "lamp", "parts", "other"] ["self"] (defScope s_Kin__weights) := ⟨rfl, rfl, rfl, by decide +kernel, rfl, by decide +kernel, by decide +kernel⟩
def sp_weights (CH C : Addr) (way : Nat) : Sp := fun vs H Q _ => ∃ (Y : Sys) (k : Addr), vs = [.ref k] ∧ Y.way = way ∧ KinAt CH C Y H k ∧ ∀ p H', H p = none → Ex H H' → H' p = some (.lst (vi (heavyL Y.n Y.T Y.N Y.O))) → Q (.ref p) H'
theorem m_weights (B : Bi mg) (TH : HTxt K CH) (T : KTxt K C) (MH_order : MethOk P w K mg base CH "order" 1 ["self"] [] (sp_order CH)) (M_turned : MethOk P w K mg base C "turned" 5 ["self", "lamp"] [] (sp_turned CH C way))
    (M_factor : MethOk P w K mg base C "factor" 5 ["self", "lamp"] [] (sp_factor CH C way)) (I : MethIs K C "_weights" "_weights" "Kin._weights" s_Kin__weights ["self"]) :
    MethOk P w K mg base C "_weights" 6 ["self"] [] (sp_weights CH C way) := by
  have cl := T.cl
  have clH := TH.cl
  refine I.ok sc_Kin__weights (fun vs H Q E h => ?_) (fun f cdv A outer s H vs Q E hr h => ?_)
  · obtain ⟨_, _, rfl, _⟩ := h; rfl
  · obtain ⟨Y, k, rfl, rfl, hk, kk⟩ := h
    refine ⟨_, (pss_cons (ps_set (i := 1) sc_Kin__weights.nd rfl (Or.inr rfl) (pe_op op_rep (pe_lst (pa_cons pe_int pa_nil)) (pe_fld (pe_fld (pv 0) rfl) rfl)))
      (pss_cons (ps_for PassesOwn.never rfl (pi_reversed rfl B.reversed (pa_cons (pe_methD0 MH_order clH (hr.mono (by decide)) (pe_fld (pv 0) rfl)) pa_nil)) (pg_name (i := 2) sc_Kin__weights.nd rfl (Or.inl rfl))
      (pss_cons (ps_setLc (i := 3) (own := [("other", 4)]) (g := gName 4) (tt := tYes) rfl sc_Kin__weights.nd rfl rfl (sw_true rfl rfl rfl (by decide +kernel)) (pi_list (pe_methD M_turned cl (hr.mono (by decide)) (pv 0) (pa_cons (pv 2) pa_nil))) (blkOk_by (own := [("other", 4)]) (N := ["self", "heavy", "lamp", "parts", "other"]) (sc := defScope s_Kin__weights) (by decide +kernel)) (fun _ _ _ _ _ => (pg_name (i := 4) sc_Kin__weights.nd rfl (Or.inl rfl))) (fun _ _ _ _ _ => by exact pts_nil) (fun _ _ _ _ _ => by exact (pe_op op_mul (pe_methD M_factor cl (hr.mono (by decide)) (pv 0) (pa_cons (pv 4) pa_nil)) (pe_ix (ix_listK (K := K)) (pv 1) (pv 4) (fun _ _ => rfl)))))
        (pss_one (ps_asg (pe_op op_add pe_int (pe_callB (cr_sum rfl) (by rfl) B.sum (by decide +kernel) (pa_cons (pv 3) pa_nil))) (pg_sub (pv 1) (pv 2) set_list)))))
      (pss_one (ps_ret (pv 1))))), ?_⟩
    have ok := hk.ok
    have hn := ok.n16
    have lO := ok.topo.length
    obtain ⟨dx, fs, h1, h5⟩ := hk.no
    refine q_asgL (el_rep0 (n := Y.n) (by omega) (ev_count TH T hk (ev_var rfl))) fun l H1 nl e1 hl1 => ?_
    refine el_order T (hk.mono e1) (ev_var rfl) H1 (Ex.refl H1) _ fun p H2 np e2 hp => ⟨p, _, rfl, SqL.of hp, ?_⟩
    have nlp : l ≠ p := ne_of_none hl1 np
    refine for_it (walk_rev (K := K) (a := p) (xs := vn Y.O)) (fun i σ H' => Ex H H' ∧ H' p = some (.lst (vn Y.O)) ∧ H' l = some (.lst (vi ((Y.O.reverse.take i).foldl (heavyStep Y.T Y.N) (List.replicate Y.n 0)))) ∧ ∃ x y, σ = [some (.ref k), some (.ref l), x, y, none])
      ⟨e1.trans e2, hp, by rw [List.take_zero]; exact e2 _ _ hl1, _, _, rfl⟩ (fun i σ H' _ q => SqL.of q.2.1) ?_ ?_
    · rintro i x σ H3 H4 hi ⟨e3, hp3, hl3, y, z, rfl⟩ ⟨rfl, hx⟩
      rw [vn_len] at hi hx
      have hj : Y.O.length - 1 - i < Y.O.length := by omega
      rw [vn_get hj] at hx
      cases hx
      have hrev : Y.O.reverse[i]? = some (Y.O.getD (Y.O.length - 1 - i) 0) := by
        rw [List.getElem?_reverse hi, getD_at hj]
      have hvm := getD_mem hj
      generalize hv' : Y.O.getD (Y.O.length - 1 - i) 0 = v at hrev hvm
      have hv : v < Y.n := (ok.topo.mem v).mp hvm
      generalize hh : (Y.O.reverse.take i).foldl (heavyStep Y.T Y.N) (List.replicate Y.n 0) = hv0 at hl3
      have hlen : hv0.length = Y.n := by rw [← hh, foldl_heavy_len]; simp
      have key := el_lcNL (K := K) (σ := [some (.ref k), some (.ref l), some (.int v), z, none]) (H := H4) (t := tYes) (te := tOp (rI CMul fun i j => .int (i * j)) (tMeth C "factor" (sp_factor CH C Y.way) [] E0 (tVar 0) (tCons (tVar 4) tNil)) (tOp (rIxL K) (tVar 1) (tVar 4)))
        (xs := vn (row Y.T v)) (tl := tMeth C "turned" (sp_turned CH C Y.way) [] E0 (tVar 0) (tCons (tVar 2) tNil)) (j := 4) (vs := [4]) (fun _ => true) (fun i => .int (nth Y.N ((row Y.T v).getD i 0) * nth hv0 ((row Y.T v).getD i 0)))
        (el_meth (ev_var rfl) (e3 _ _ h1) (h5 _ (by decide +kernel)) (ea_cons (ev_var rfl) ea_nil) (spl_turned (hk.mono e3) hv)) (by rw [vn_len]; have := ok.rows.len_le v; omega) (fun _ => rfl) (fun i x H1 e1 hi => et_yes) (fun i x H1 e1' hi _ => ?_)
      · refine q_asgL key fun q H5 nq e5 hq => ?_
        rw [given_all, vn_len, given_map (f := fun w => nth Y.N w * nth hv0 w)] at hq
        refine s_setL (l := l) (j := v) (e5 _ _ hl3) (ev_op ev_c (ev_sumV (ev_var rfl) hq) rv_I0) (ev_var rfl) (ev_var rfl) (by rw [vi_len, hlen]; exact hv) fun H6 e6 => ?_
        have nl0 : H l = none := nl
        refine ⟨Ex.mut ((e3.trans e5).trans e6) nl0, by rw [upd_ne nlp.symm]; exact e6 _ _ (e5 _ _ hp3), ?_, _, _, rfl⟩
        rw [upd_same, vi_set, List.take_add_one, hrev]
        rw [List.foldl_append, hh]
        rfl
      · have hi2 : i < (row Y.T v).length := by
          have := (List.getElem?_eq_some_iff.mp hi).1
          rwa [vn_len] at this
        rw [vn_get hi2] at hi
        cases hi
        have hlt := ok.rows.lt v _ (getD_mem hi2)
        refine ev_op (ev_meth (ev_var rfl) (e1' _ _ (e3 _ _ h1)) (h5 _ (by decide +kernel)) (ea_cons (ev_var rfl) ea_nil) (spv_factor (hk.mono (e3.trans e1')) hlt)) (ev_ixL (ev_var rfl) (ev_var rfl) (e1' _ _ hl3) (by rw [hlen]; exact hlt)) (rv_I (.inl ?_))
        have := ok.num _ hlt
        exact ⟨by have := this.1; omega, by have := this.2.1; omega⟩
    · rintro σ H3 ⟨e3, hp3, hl3, y, z, rfl⟩
      rw [vn_len, show Y.O.length = Y.O.reverse.length by simp, List.take_length] at hl3
      exact ⟨_, rfl, kk l H3 nl e3 hl3⟩
end
end K57

set_option Elab.async false
set_option linter.all false
set_option maxRecDepth 100000
set_option maxHeartbeats 4000000
/-! Own rules: a method that says super().m(..). -/
namespace K57
open PySem PySem.Spec PyProof.Rows L2 Evl NdefX ClX PySem.W
section
/-- an expression, a statement, a block where the running code is known -/
structure PEA (X : Cx) (body : List Stmt) (e : Expr) (t : TE) : Prop where
  run : ∀ (pins : List (Addr × Obj)) (s : Shared) (σ : L2.St) (H : Hp) (Q : VK), Inv X pins σ H s → t σ H Q → _root_.PySem.wpAt (model X.prog X.w) X.A (.func body X.env) (eval e X.env) (EP X pins σ Q) X.xe s
structure PSA (X : Cx) (body : List Stmt) (st : Stmt) (t : TS) : Prop where
  run : ∀ (pins : List (Addr × Obj)) (s : Shared) (σ : L2.St) (H : Hp) (D : Ends), Inv X pins σ H s → t D σ H → _root_.PySem.wpAt (model X.prog X.w) X.A (.func body X.env) (exec st X.env) (SP X pins D) X.xe s
structure PSsA (X : Cx) (body : List Stmt) (sts : List Stmt) (t : TS) : Prop where
  run : ∀ (pins : List (Addr × Obj)) (s : Shared) (σ : L2.St) (H : Hp) (D : Ends), Inv X pins σ H s → t D σ H → _root_.PySem.wpAt (model X.prog X.w) X.A (.func body X.env) (execs sts X.env) (SP X pins D) X.xe s
variable {X : Cx} {body : List Stmt} {e : Expr} {te : TE} {pos : Pos} {st : Stmt} {rest : List Stmt} {t u : TS}
theorem pssA_cons (h1 : PSA X body st t) (h2 : PSs X rest u) : PSsA X body (st :: rest) (tSeq t u) := by
  refine ⟨fun pins s σ H D I h => ks_wpAt_execs_cons (ks_wpAt_mono (h1.run pins s σ H _ I h) (fun f s1 h => ?_) fun _ _ x => x)⟩
  cases f with
  | next =>
    obtain ⟨σ', H', I', q⟩ := h
    exact _root_.PySem.wpAt_of_wpAny (h2.run pins s1 σ' H' D I' q)
  | brk => exact h
  | cont => exact h
  | ret u => exact h
theorem psA_expr (he : PEA X body e te) (hs : swapsWith e none pos.line X.env = pure false := by rfl) : PSA X body (.Expr e pos) (tDrop te) := by
  refine ⟨fun pins s σ H D I h => ks_wpAt_Expr_any (ks_wpAt_mono (he.run pins s σ H _ I h) (fun v s1 h => ?_) fun _ _ x => x) I.quiet hs⟩
  obtain ⟨x, H1, I1, _, q⟩ := h
  exact ⟨σ, H1, I1, q⟩
theorem psA_ifnot {p1 : Pos} {a b : List Stmt} (he : PEA X body e te) (ha : PSs X a t) (hb : PSs X b u) (hh : ∀ whole, isTrue e X.env whole = (do let v ← whole; standAt e.pos; holding [v] (truthy v)) := by intro _; rfl) :
    PSA X body (.If (.UnaryOp .Not e p1) a b pos) (tIfS (tNot (tB te)) t u) := by
  refine ⟨fun pins s σ H D I h => ks_wpAt_If ?_⟩
  rw [arm_isTrue_UnaryOp]
  refine _root_.PySem.wpAt_bind (ks_wpAt_mono (Q := fun b s1 => ∃ H1, Inv X pins σ H1 s1 ∧ (if (!b) = true then t D σ H1 else u D σ H1)) ?_ (fun b s1 h => ?_) fun _ _ x => x)
  · rw [hh]
    refine _root_.PySem.wpAt_bind (ks_wpAt_mono (he.run pins s σ H _ I h) (fun v s1 h => ?_) fun _ _ x => x)
    obtain ⟨x, H1, I1, r1, c, rfl, q⟩ := h
    cases r1
    exact _root_.PySem.wpAt_of_wpAny (wpAny_bind (wpAny_standAt (wpAny_holding (wpAny_truthy_bool ⟨H1, I1, q⟩))))
  · obtain ⟨H1, I1, q⟩ := h
    refine _root_.PySem.wpAt_of_wpAny (wpAny_pure ?_)
    cases b with
    | true => exact _root_.PySem.wpAt_of_wpAny (hb.run pins s1 σ H1 D I1 q)
    | false => exact _root_.PySem.wpAt_of_wpAny (ha.run pins s1 σ H1 D I1 q)

/-! ### super().m(e, ..) -/
def tSup (C : Addr) (sp : Sp) (t : TA) : TE := fun σ H Q => ∃ a dx fs, σ[0]? = some (some (.ref a)) ∧ H a = some (.ins C dx fs) ∧ t σ H fun vs H1 => sp (.ref a :: vs) H1 Q E0
/-- what stands of the running method: its function, its code, its cell for __class__ (D) -/
structure SupX (X : Cx) (D : Addr) : Prop where
  ex : ∃ (f cda cc : Addr) (oc ccl cl : Value) (od cdd cld : Option Addr) (osl ccs csl : Array (Option Value)) (fd : FuncData) (vs : Array Value) (file : Str) (tf : Tok) (ar : Arg),
    X.env.func = some f ∧ X.env.code = .ref cda ∧ X.env.cells.lookup ("__class__" : Str) = some cc ∧ X.K.lookup f = some ⟨oc, od, .func fd, osl⟩ ∧ (fd.params.posonlyargs ++ fd.params.args).head? = some ar ∧ X.N[0]? = some ar.arg ∧ X.env.scope.names.lookup ar.arg = some .local ∧
    X.K.lookup cda = some ⟨ccl, cdd, .fields vs, ccs⟩ ∧ vs[2]? = some (.str file tf) ∧ ((X.prog.main.file : Str) == file) = true ∧ X.K.lookup cc = some ⟨cl, cld, .cell (some (.ref D)), csl⟩
  ks : X.env.scope.names.lookup ("super" : Str) = some .globalImplicit
  kc : X.env.scope.names.lookup ("__class__" : Str) = some .free
  cls : ∃ cdD, clsIn X.K D = some cdD
  mg : X.mg "super" = none
  top : (X.prog.main.scope.names.lookup ("super" : Str)).isSome = false
  opq : nsIn X.K cStatics "thirdparty.any" = some none
/-- what super() finds for instances of C -/
structure SupM (K : Frag) (C D : Addr) (m : Str) (f2 : Addr) : Prop where
  sub : mroIn K C (.ref D) = some true
  at_ : ks_superIn K C D m = some (some (.ref f2))
  ty : typeIn K (.ref f2) = some (.type "function")
  fn : fnIn K f2 = true
variable {C D f2 : Addr} {m : Str} {k : Nat} {fd2 : FuncData} {ps : List Str} {sp : Sp} {es : List Expr} {ta : TA} {apos p0 p1 : Pos}
theorem peA_super {pl : Sem Bool} (Z : SupX X D) (c : Cls X.K C) (M : SupM X.K C D m f2) (F : FnOk X.prog X.w X.K X.mg X.base CX0 k f2 fd2 ps sp) (hr : Room k X.A) (hb : Binds X.K fd2 ps []) (ha : PA X (e :: es) ta) (hat : (m == ("__class__" : Str)) = false := by decide)
    (he : starEach (e :: es) X.env = (false, eval e X.env) :: starEach es X.env := by rfl) (hpl : (backTo pos (starEach es X.env)).any (·.1) = false := by rfl)
    (ht : eval (.Call (.Attribute (.Call (.Name "super" p0) [] [] p1) m apos) (e :: es) [] pos) X.env = (do
      let ov ← attributeBase (.Call (.Name "super" p0) [] [] p1) m X.env (eval (.Call (.Name "super" p0) [] [] p1) X.env)
      standAt apos.atName
      let (f, first) ← holding [ov] (getMethod ov m pl)
      callWith pos f first (backTo pos (starEach (e :: es) X.env)) []) := by rfl) :
    PEA X body (.Call (.Attribute (.Call (.Name "super" p0) [] [] p1) m apos) (e :: es) [] pos) (tSup C sp ta) := by
  refine ⟨fun pins s σ H Q I h => ?_⟩
  obtain ⟨a, dx, fs, h0, hi, h⟩ := h
  obtain ⟨f, cda, cc, oc, ccl, cl, od, cdd, cld, osl, ccs, csl, fd, vs, file, tf, ar, hfu, hco, hcl, lf, hp, hN, hka, lc, hvs, hfile, lcc⟩ := Z.ex
  obtain ⟨cdD, hD⟩ := Z.cls
  have KX := I.kIn
  obtain ⟨mA, O, _⟩ := ins_get I.hok hi
  obtain ⟨od1, J, _⟩ := O.look
  obtain ⟨oD, hD1, hD2⟩ : ∃ oD, s.heap.get? D = some oD ∧ oD.data = .cls cdD := by
    unfold clsIn at hD
    split at hD
    · rename_i c d cd' sl ho
      cases hD
      exact ⟨_, KX _ _ ho, rfl⟩
    · cases hD
  obtain ⟨m0, hns, hloc⟩ := I.loc
  obtain ⟨u0, r0, lk0⟩ := hloc 0 _ _ hN h0 (.inl hka)
  cases r0
  have hm0 : m0 ar.arg = some (.ref a) := by
    rcases lk0 with ⟨_, z⟩ | ⟨z, _⟩
    · exact z
    · have hk : X.env.kindOf ar.arg = some .local := hka
      rw [hk] at z
      rcases z with z | z <;> cases z
  refine ks_wpAt_MethodCall (pl := pl) ?_ ht
  refine ks_wpAt_super_base Z.ks Z.kc hat hfu (KX _ _ lf) rfl hp hco (KX _ _ lc) rfl hvs hfile Z.top ?_
  obtain ⟨mb, hb1, hb2⟩ := I.mod.blt
  refine ks_loadName_global I.ok.kind Z.ks (Calls.loadGlobal_builtin (by rw [I.ok.glob]; exact I.mod.glob.keeps I.bk) Z.mg (by rw [I.ok.blt]; exact hb1.keeps I.bk) ((hb2 "super" (by decide)).trans (by decide +kernel)) ⟨rfl, ?_⟩)
  refine wpAny_loadName_free I.ok.kind Z.kc hcl ⟨_, KX _ _ lcc, rfl⟩ ?_
  refine wpAny_loadName_local I.ok.kind hka hns hm0 ?_
  refine ks_wpAny_isType_cls hD1 hD2 ⟨rfl, ?_⟩
  obtain ⟨cdC, hC⟩ : ∃ cdC, clsIn X.K C = some cdC := by
    have q := M.at_
    unfold ks_superIn at q
    cases z : clsIn X.K C with
    | none => rw [z] at q; cases q
    | some cd => exact ⟨cd, rfl⟩
  have hal : alongIn X.K m ((cdC.mro.dropWhile (· != .ref D)).drop 1) = some (some (.ref f2)) := by
    have q := M.at_
    unfold ks_superIn at q
    rw [hC] at q
    exact q
  have hxC : a ≠ C := ks_ne KX J hC
  obtain ⟨of, lof, hofc⟩ : ∃ of, X.K.lookup f2 = some of ∧ of.cls = .type "function" := by
    have q : (X.K.lookup f2).map (·.cls) = some (.type "function") := M.ty
    cases z : X.K.lookup f2 with
    | none => rw [z] at q; cases q
    | some of => rw [z] at q; exact ⟨of, rfl, Option.some.inj q⟩
  obtain ⟨hh, g, d, t, os⟩ := s
  refine ks_wpAny_call_super hD1 hD2 J.at_ J.cls (fun c e => ?_) (looks_mroIn KX M.sub) (fun h' e k => ?_)
  · have q := J.no
    unfold notCls at q
    rw [e] at q
    exact Bool.noConfusion q
  have I1 : Inv X ((hh.objs.size, ks_superObj D a C) :: pins) σ H ⟨h', g, d, t, os⟩ := pin_new I k (Nat.le_refl _) e (fun v z => nomatch z)
  refine ks_wpAny_getMethod_super (pin_at I1) (looks_opaque I1.kIn Z.opq) (l₀ := cdC.mro) ?_ rfl I1.kIn hal (I1.kIn _ _ lof) hofc hxC hat ?_
  · exact fun A Q E s k q => wpAny_bind ((looks_clsIn I1.kIn hC) A _ E s k (wpAny_pure q))
  have I2 := met_new (g := f2) (C := a) I1
  refine callwith_cm I2 (base_none I1 (Nat.le_refl _)) M.fn (thn (ha.run pos _ _ σ H _ I2 h) fun us s1 ⟨vs, H1, I3, r, q⟩ => ⟨⟨pin_at I3, I3.kIn⟩, ?_⟩) he hpl
  have hl : (Value.ref a :: us).length = ps.length := by
    have := F.len _ _ _ _ q
    rw [List.length_cons] at this ⊢
    rw [← r.length]; exact this
  have z : wpAny (model X.prog X.w) X.A (call (.ref h'.objs.size) us) (EP X ((h'.objs.size, methodObj (.ref f2) (.ref a)) :: (hh.objs.size, ks_superObj D a C) :: pins) σ Q) X.xe s1 := by
    refine wpAny_call (PySem.W.method_call (pin_at I3) (codeAny_mono (F.run X.A X.stack s1 H1 ⟨.ref a :: us, []⟩ (.ref a :: us) (.ref a :: vs) Q E0 hr I3.env0 ?_ (.cons rfl r) q) fun r' s' hq => ?_))
    · have := hb s1 (.ref a :: us) I3.kIn (by rw [List.append_nil]; exact hl)
      rwa [List.append_nil] at this
    · cases r' with
      | error e => exact False.elim hq
      | ok fl =>
        cases fl with
        | ret u => exact I3.after hq
        | next => exact False.elim hq
        | brk => exact False.elim hq
        | cont => exact False.elim hq
  exact thn z fun _ _ y => unpinE (unpinE y)

theorem PSsA.nox {X : Cx} {body sts : List Stmt} {t : TS} (h : PSsA X.nox body sts t) : PSsA X body sts t := ⟨fun pins s σ H D I hw =>
  ks_wpAt_mono (h.run pins s σ H D (I.wish _) hw) (fun _ _ q => SP.unwish q) fun _ _ z => z.elim⟩
/-- a def that is found as R tells (a method of a class, a class's maker, what super() finds) -/
structure FnAt (R : Addr → Prop) (K : Frag) (x qual : Str) (st : Stmt) (ps : List Str) : Prop where
  ex : ∃ f fd dvs kws, R f ∧ L2.FunD K x qual (defArgs st) (defBody st) (defScope st) dvs kws f fd ∧ L2.Binds K fd ps []
structure FnAtOk (R : Addr → Prop) (P : Program) (w : World) (K : Frag) (mg : Str → Option Value) (base : Heap) (k : Nat) (ps : List Str) (sp : L2.Sp) : Prop where
  ex : ∃ f fd, R f ∧ L2.Binds K fd ps [] ∧ L2.FnOk P w K mg base CX0 k f fd ps sp
section
variable {P : Program} {w : World} {K : Frag} {mg : Str → Option Value} {base : Heap} {R : Addr → Prop}
theorem FnAt.ok {x qual : Str} {st : Stmt} {N ps : List Str} {k : Nat} {sp : L2.Sp} (I : FnAt R K x qual st ps) (S : L2.FnScope N ps (defScope st)) (len : ∀ vs H Q E, sp vs H Q E → vs.length = ps.length)
    (hbody : ∀ (f : Addr) (cdv : Value) (A : Around) (outer : List Env) (s : Shared) (H : L2.Hp) (vs : List L2.V) (Q : L2.VK) (E : L2.XK), L2.Room k (A.deeper (envOfC qual (defScope st) s.heap.objs.size f cdv)) → sp vs H Q E →
      ∃ t, L2.PSs (L2.cxOf CX0 P w K mg base N qual (defScope st) f cdv A outer s H E).nox (defBody st) t ∧ t { nx := fun _ H' => Q .non H', rt := Q } (L2.start N vs) H) : FnAtOk R P w K mg base (k + 1) ps sp := by
  obtain ⟨f, fd, _, _, m, F, b⟩ := I.ex
  refine ⟨f, fd, m, b, F.ok S len fun cdv A outer s H vs Q E hr h => ?_⟩
  obtain ⟨t, h1, h2⟩ := hbody f cdv A outer s H vs Q E hr h
  exact ⟨t, h1.nox, h2⟩
theorem FnAtOk.mono {j k : Nat} {ps : List Str} {sp : L2.Sp} (D : FnAtOk R P w K mg base j ps sp) (h : j ≤ k) : FnAtOk R P w K mg base k ps sp := by
  obtain ⟨f, fd, a, b, d⟩ := D.ex
  exact ⟨f, fd, a, b, d.mono h⟩
theorem FnAtOk.meth {C : Addr} {m : Str} {k : Nat} {ps : List Str} {sp : L2.Sp} (D : FnAtOk (L2.Meth K C m) P w K mg base k ps sp) : MethOk P w K mg base C m k ps [] sp := by
  obtain ⟨f, fd, a, b, d⟩ := D.ex
  exact ⟨f, fd, [], a, b, .nil, d⟩
end
section
variable {X : Cx} {k : Nat} {ps : List Str} {sp : L2.Sp} {e : Expr} {es : List Expr} {ta : TA} {pos p p0 p1 apos : Pos} {C D : Addr} {x m : Str} {body : List Stmt}
theorem peA_supD {pl : Sem Bool} (Z : SupX X D) (c : L2.Cls X.K C) (S : FnAtOk (SupM X.K C D m) X.prog X.w X.K X.mg X.base k ps sp) (hr : L2.Room k X.A) (ha : L2.PA X (e :: es) ta) (hat : (m == ("__class__" : Str)) = false := by decide)
    (he : starEach (e :: es) X.env = (false, eval e X.env) :: starEach es X.env := by rfl) (hpl : (backTo pos (starEach es X.env)).any (·.1) = false := by rfl)
    (ht : eval (.Call (.Attribute (.Call (.Name "super" p0) [] [] p1) m apos) (e :: es) [] pos) X.env = (do
      let ov ← attributeBase (.Call (.Name "super" p0) [] [] p1) m X.env (eval (.Call (.Name "super" p0) [] [] p1) X.env)
      standAt apos.atName
      let (f, first) ← holding [ov] (getMethod ov m pl)
      callWith pos f first (backTo pos (starEach (e :: es) X.env)) []) := by rfl) :
    PEA X body (.Call (.Attribute (.Call (.Name "super" p0) [] [] p1) m apos) (e :: es) [] pos) (tSup C sp ta) := by
  obtain ⟨f, fd, M, b, F⟩ := S.ex
  exact peA_super Z c M F hr b ha hat he hpl ht
theorem pe_mkD (S : FnAtOk (L2.Mk X.K C) X.prog X.w X.K X.mg X.base k ps sp) (hr : L2.Room (k + 1) X.A) (hm : X.mg x = some (.ref C)) (ha : L2.PA X (e :: es) ta) (hg : L2.Gl X x := by rfl) (hdb : (x == ("__debug__" : Str)) = false := by decide)
    (he : starEach (e :: es) X.env = (false, eval e X.env) :: starEach es X.env := by rfl) (hpl : (backTo pos (starEach es X.env)).any (·.1) = false := by rfl) :
    L2.PE X (.Call (.Name x p) (e :: es) [] pos) (L2.tMake C sp [] E0 ta) := by
  obtain ⟨f, fd, M, b, F⟩ := S.ex
  exact L2.pe_make M F hr hg hm b .nil L2.pass0 ha hdb he hpl
end
/-- the def at f, found as R tells, written in the class at D with a super() call -/
structure SupIs (R : Addr → Prop) (P : Program) (K : Frag) (mg : Str → Option Value) (D : Addr) (x qual : Str) (st : Stmt) (ps : List Str) : Prop where
  ex : ∃ (f cda cc : Addr) (oc ccl cl : Value) (od cdd cld : Option Addr) (osl ccs csl : Array (Option Value)) (kV doc pm ct : Value) (an : Option Addr) (vs : Array Value) (file : Str) (tf : Tok),
    R f ∧ L2.Binds K (fnX x qual (defArgs st) (defBody st) (defScope st) [("__class__", cc)] .none kV doc pm an (.ref cda) ct) ps [] ∧
    K.lookup f = some ⟨oc, od, .func (fnX x qual (defArgs st) (defBody st) (defScope st) [("__class__", cc)] .none kV doc pm an (.ref cda) ct), osl⟩ ∧ codeIn K (.ref cda) qual = true ∧
    K.lookup cda = some ⟨ccl, cdd, .fields vs, ccs⟩ ∧ vs[2]? = some (.str file tf) ∧ ((P.main.file : Str) == file) = true ∧ K.lookup cc = some ⟨cl, cld, .cell (some (.ref D)), csl⟩
  cls : ∃ cdD, clsIn K D = some cdD
  mg_ : mg "super" = none
  top : (P.main.scope.names.lookup ("super" : Str)).isSome = false
  opq : nsIn K cStatics "thirdparty.any" = some none
  ks : (defScope st).names.lookup ("super" : Str) = some .globalImplicit
  a0 : ∃ ar, ((defArgs st).posonlyargs ++ (defArgs st).args).head? = some ar ∧ ps[0]? = some ar.arg
section
variable {P : Program} {w : World} {K : Frag} {mg : Str → Option Value} {base : Heap}
theorem SupIs.ok {R : Addr → Prop} {D : Addr} {x qual : Str} {st : Stmt} {N ps : List Str} {k : Nat} {sp : Sp} (I : SupIs R P K mg D x qual st ps) (S : NScope N ps ["__class__"] (defScope st)) (len : ∀ vs H Q E, sp vs H Q E → vs.length = ps.length)
    (hbody : ∀ (F : NF) (f : Addr) (A : Around) (outer : List Env) (s : Shared) (H : Hp) (vs : List V) (Q : VK) (E : XK), F.scope = defScope st → F.qual = qual → Room k (A.deeper (envF F f s.heap.objs.size)) → SupX (ncx CX0 P w K mg base N F f A outer s H E).nox D → sp vs H Q E →
      ∃ t, PSsA (ncx CX0 P w K mg base N F f A outer s H E).nox (defBody st) (defBody st) t ∧ t { nx := fun _ H' => Q .non H', rt := Q } (startF N vs [none]) H) : FnAtOk R P w K mg base (k + 1) ps sp := by
  obtain ⟨f, cda, cc, oc, ccl, cl, od, cdd, cld, osl, ccs, csl, kV, doc, pm, ct, an, vs0, file, tf, hm, hb, lf, hcd, lc, hvs, hfile, lcc⟩ := I.ex
  refine ⟨f, _, hm, hb, len, fun A outer s H args us vs Q E hr e0 hbi r hsp => ?_⟩
  have hl := len _ _ _ _ hsp
  have KX : K.In s.heap := e0.mod.kin.keeps fun b o e => (e0.bs b o e).1
  have lim : s.heap.NoLimit := e0.mod.nolimit.keeps fun b o e => (e0.bs b o e).1
  let F : NF := ⟨x, qual, defArgs st, defBody st, defScope st, [("__class__", cc)], cda⟩
  have hCC : CellsAt F.cl ["__class__"] [none] s.heap H := by
    have look : ∀ y c, ([("__class__", cc)] : List (Str × Addr)).lookup y = some c → c = cc := fun y c e => by
      by_cases q : y = ("__class__" : Str)
      · subst q; simp at e; exact e.symm
      · simp [List.lookup, show (y == ("__class__" : Str)) = false from beq_eq_false_iff_ne.mpr q] at e
    refine ⟨rfl, fun y c e => ?_, fun x y c e1 e2 => ?_, fun i y hy => ?_⟩
    · have := look y c e
      subst this
      exact ⟨(e0.bs _ _ (e0.mod.kin _ _ lcc)).2, _, _, KX _ _ lcc, rfl⟩
    · have inj : ∀ y c, ([("__class__", cc)] : List (Str × Addr)).lookup y = some c → y = ("__class__" : Str) := fun y c e => by
        by_cases q : y = ("__class__" : Str)
        · exact q
        · simp [List.lookup, show (y == ("__class__" : Str)) = false from beq_eq_false_iff_ne.mpr q] at e
      rw [inj x c e1, inj y c e2]
    · cases i with
      | zero =>
        have ey : ("__class__" : Str) = y := Option.some.inj hy
        subst ey
        refine ⟨cc, by simp [F], fun v hv => ?_⟩
        cases hv
      | succ i => simp at hy
  refine ks_codeAny_call_defAt hr.depth (KX _ _ lf) rfl lim (codeRec_of KX hcd) rfl hbi S.nocell (fun ⟨n, _⟩ hy => S.par n (List.of_mem_zip hy).1) (fun h₁ hns kp => ?_) S.co S.gen S.kind
  have Z : SupX (ncx CX0 P w K mg base N F f A outer s H E).nox D := by
    obtain ⟨ar, ha0, ha1⟩ := I.a0
    have hN0 : N[0]? = some ar.arg := by
      have hlen : 0 < ps.length := by
        cases z : ps with
        | nil => rw [z] at ha1; simp at ha1
        | cons a l => simp
      have q := S.pre
      have q2 : (N.take (ps.length + (["__class__"] : List Str).length))[0]? = (ps ++ (["__class__"] : List Str))[0]? := by rw [q]
      rw [List.getElem?_take_of_lt (by simp), List.getElem?_append_left hlen] at q2
      rw [q2]; exact ha1
    exact ⟨⟨f, cda, cc, oc, ccl, cl, od, cdd, cld, osl, ccs, csl, _, vs0, file, tf, ar, rfl, rfl, by simp [ncx, F], lf, ha0, hN0, S.par _ (List.mem_of_getElem? ha1), lc, hvs, hfile, lcc⟩, I.ks, S.frk _ (by simp), I.cls, I.mg_, I.top, I.opq⟩
  obtain ⟨t, ht, hq⟩ := hbody F f A outer s H vs Q E rfl rfl (hr.deeper _) Z hsp
  have J : Inv (ncx CX0 P w K mg base N F f A outer s H E) [] (startF N vs [none]) H { s with heap := h₁, toks := s.toks + (ps.zip us).length } := inv_startN S hr.hd e0 hl r hCC hns kp
  refine ks_wpAt_mono (ht.nox.run [] _ (startF N vs [none]) H _ J hq) (fun fl s' hs => ?_) fun e s' hs => hs
  have fin : ∀ {σ' : L2.St} {H' : Hp} {v : V} {u : Value}, Inv (ncx CX0 P w K mg base N F f A outer s H E) [] σ' H' s' → L2.RelV v u → Q v H' → CE outer P w H s Q u s' :=
    fun {σ' H' v u} J rv q => ⟨v, H', J.os, J.bare, J.base, J.hok, rv, q⟩
  cases fl with
  | ret u =>
    obtain ⟨v, σ', H', J, rv, q⟩ := hs
    exact fin J rv q
  | next =>
    obtain ⟨σ', H', J, q⟩ := hs
    exact fin (v := V.non) (u := Value.none) J rfl q
  | brk =>
    obtain ⟨_, _, _, q⟩ := hs
    exact False.elim q
  | cont =>
    obtain ⟨_, _, _, q⟩ := hs
    exact False.elim q
end
end
end K57

set_option Elab.async false
set_option linter.all false
set_option maxRecDepth 100000
set_option maxHeartbeats 4000000
namespace K57
open PySem PySem.Spec PyProof.Rows L2 Evl M57
section
variable {P : Program} {w : World} {K : PySem.W.Frag} {mg : Str → Option Value} {base : Heap} {CH C : Addr} {way : Nat}
theorem ok_heavy {Y : Sys} (ok : Y.Ok) : IsHeavy Y.n Y.T Y.N (heavyL Y.n Y.T Y.N Y.O) := heavyL_is ok.rows ok.topo
theorem ok_bound {Y : Sys} (ok : Y.Ok) {v : Nat} (hv : v < Y.n) : 0 ≤ nth (heavyL Y.n Y.T Y.N Y.O) v ∧ nth (heavyL Y.n Y.T Y.N Y.O) v < 2 ^ 64 := by
  have hN : ∀ v, v < Y.n → 0 ≤ nth Y.N v ∧ nth Y.N v ≤ 9 := fun v hv => ⟨by have := (ok.num v hv).1; omega, (ok.num v hv).2.1⟩
  have h1 := heavy_pos ok.rows ok.topo (ok_heavy ok) (fun v hv => (hN v hv).1) v hv
  exact ⟨by omega, heavy_lt ok.rows ok.topo ok.n16 (ok_heavy ok) hN v hv⟩
abbrev s_Kin_worth : Stmt := inClass (topS 29) 13
theorem sc_Kin_worth : FnScope ["self", "state", "heavy", "lamp"] ["self", "state"] (defScope s_Kin_worth) := ⟨rfl, rfl, rfl, by decide +kernel, rfl, by decide +kernel, by decide +kernel⟩
def sp_worth (CH C : Addr) (way : Nat) : Sp := fun vs H Q _ => ∃ (Y : Sys) (k t : Addr) (s : List Int), vs = [.ref k, .ref t] ∧ Y.way = way ∧ KinAt CH C Y H k ∧ H t = some (.tup (vi s)) ∧ IsSt Y s ∧ ∀ H', Ex H H' → Q (.int (worth Y.n (heavyL Y.n Y.T Y.N Y.O) s)) H'
theorem m_worth (B : Bi mg) (TH : HTxt K CH) (T : KTxt K C) (M__need_state : MethOk P w K mg base C "_need_state" 4 ["self", "state"] [] (sp_nst CH C way)) (M__weights : MethOk P w K mg base C "_weights" 6 ["self"] [] (sp_weights CH C way))
    (I : MethIs K C "worth" "worth" "Kin.worth" s_Kin_worth ["self", "state"]) : MethOk P w K mg base C "worth" 7 ["self", "state"] [] (sp_worth CH C way) := by
  have cl := T.cl
  refine I.ok sc_Kin_worth (fun vs H Q E h => ?_) (fun f cdv A outer s H vs Q E hr h => ?_)
  · obtain ⟨_, _, _, _, rfl, _⟩ := h; rfl
  · obtain ⟨Y, k, t, s, rfl, rfl, hk, ht, hs, kk⟩ := h
    refine ⟨_, (pss_cons (ps_expr (pe_methD M__need_state cl (hr.mono (by decide)) (pv 0) (pa_cons (pv 1) pa_nil)))
      (pss_cons (ps_set (i := 2) sc_Kin_worth.nd rfl (Or.inr rfl) (pe_methD0 M__weights cl (hr.mono (by decide)) (pv 0)))
      (pss_one (ps_ret (pe_callB (cr_sum rfl) (by rfl) B.sum (by decide +kernel) (pa_cons (pe_lc (own := [("lamp", 3)]) (g := gName 3) (tt := tYes) rfl sc_Kin_worth.nd (pi_range1 rfl B.range (pa_cons (pe_fld (pe_fld (pv 0) rfl) rfl) pa_nil)) (blkOk_by (own := [("lamp", 3)]) (N := ["self", "state", "heavy", "lamp"]) (sc := defScope s_Kin_worth) (by decide +kernel)) (fun _ _ _ _ _ => (pg_name (i := 3) sc_Kin_worth.nd rfl (Or.inl rfl))) (fun _ _ _ _ _ => by exact pts_nil) (fun _ _ _ _ _ => by exact (pe_op op_mul (pe_ix (ix_tupK (K := K)) (pv 1) (pv 3) (fun _ _ => rfl)) (pe_ix (ix_listK (K := K)) (pv 2) (pv 3) (fun _ _ => rfl))))) pa_nil)))))), ?_⟩
    have ok := hk.ok
    have hn := ok.n16
    obtain ⟨dx, fs, h1, h5⟩ := hk.no
    refine q_drop (ev_meth (ev_var rfl) h1 (h5 _ (by decide +kernel)) (ea_cons (ev_var rfl) ea_nil) (spv_nst hk ht hs)) fun H1 e1 => ?_
    refine q_asgL (el_meth (ev_var rfl) (e1 _ _ h1) (h5 _ (by decide +kernel)) ea_nil fun H2 e2 Q q E => ⟨Y, k, rfl, rfl, (hk.mono e1).mono e2, q⟩) fun l H2 nl e2 hl => ?_
    have e12 := e1.trans e2
    have key := el_lcR1 (σ := [some (.ref k), some (.ref t), some (.ref l), none]) (H := H2) (ta := tCons (tFld K (tFld K (tVar 0) "house") "count") tNil) (j := 3) (vs := [3]) (n := (Y.n : Int)) (t := tYes) (te := tOp (rI CMul fun i j => .int (i * j)) (tOp (rIxT K) (tVar 1) (tVar 3)) (tOp (rIxL K) (tVar 2) (tVar 3)))
      (fun u => true) (fun v => .int (nth s v * nth (heavyL Y.n Y.T Y.N Y.O) v)) (ea_cons (ev_count TH T (hk.mono e12) (ev_var rfl)) ea_nil) (by omega) (fun _ => rfl) (fun u H1 e1 hu => et_yes) (fun v H3 e3 hv _ => ?_)
    · have e : given (Y.n : Int).toNat (fun _ => true) (fun v => V.int (nth s v * nth (heavyL Y.n Y.T Y.N Y.O) v)) = vi ((List.range Y.n).map fun v => nth s v * nth (heavyL Y.n Y.T Y.N Y.O) v) := by
        rw [Int.toNat_natCast, given_all]; unfold vi; rw [List.map_map]; rfl
      rw [e] at key
      refine s_ret (ev_sum key) fun H3 e3 => ?_
      rw [sum_range]
      exact kk H3 (e12.trans e3)
    · have hv' : v < Y.n := by omega
      exact ev_op (ev_ixT (ev_var rfl) (ev_var rfl) (e3 _ _ (e12 _ _ ht)) (by rw [hs.len]; exact hv')) (ev_ixL (ev_var rfl) (ev_var rfl) (e3 _ _ hl) (by rw [(ok_heavy ok).len]; exact hv')) (rv_I (.inr ⟨by have := (ok_bound ok hv').1; omega, (ok_bound ok hv').2⟩))
theorem spv_worth {Y : Sys} {H : Hp} {k t : Addr} {s : List Int} (hk : KinAt CH C Y H k) (ht : H t = some (.tup (vi s))) (hs : IsSt Y s) : SpV (sp_worth CH C Y.way) [.ref k, .ref t] H (.int (worth Y.n (heavyL Y.n Y.T Y.N Y.O) s)) := fun H1 e Q q E => ⟨Y, k, t, s, rfl, rfl, hk.mono e, e _ _ ht, hs, q⟩
def gr (Y : Sys) (s t : List Int) : List Int := greatL Y.n Y.T Y.N s t (List.range Y.n) Y.O
theorem gr_is {Y : Sys} (ok : Y.Ok) (s t : List Int) : IsGreat Y.n Y.T Y.N s t (gr Y s t) := greatL_is ok.topo (.refl _)
abbrev s_Kin_greatest : Stmt := inClass (topS 29) 11
theorem sc_Kin_greatest : FnScope ["self", "source", "target", "counts", "lamp", "load", "other"] ["self", "source", "target"] (defScope s_Kin_greatest) := ⟨rfl, rfl, rfl, by decide +kernel, rfl, by decide +kernel, by decide +kernel⟩
def sp_greatest (CH C : Addr) (way : Nat) : Sp := fun vs H Q _ => ∃ (Y : Sys) (k a b : Addr) (s t : List Int), vs = [.ref k, .ref a, .ref b] ∧ Y.way = way ∧ KinAt CH C Y H k ∧ H a = some (.tup (vi s)) ∧ H b = some (.tup (vi t)) ∧ IsSt Y s ∧ IsSt Y t ∧
  ∀ p H', H p = none → Ex H H' → H' p = some (.lst (vi (gr Y s t))) → Q (.ref p) H'
theorem m_greatest (B : Bi mg) (TH : HTxt K CH) (T : KTxt K C) (MH_order : MethOk P w K mg base CH "order" 1 ["self"] [] (sp_order CH)) (M__need_state : MethOk P w K mg base C "_need_state" 4 ["self", "state"] [] (sp_nst CH C way))
    (M__turners : MethOk P w K mg base C "_turners" 6 ["self", "lamp"] [] (sp_turners CH C way)) (M_factor : MethOk P w K mg base C "factor" 5 ["self", "lamp"] [] (sp_factor CH C way))
    (I : MethIs K C "greatest" "greatest" "Kin.greatest" s_Kin_greatest ["self", "source", "target"]) : MethOk P w K mg base C "greatest" 7 ["self", "source", "target"] [] (sp_greatest CH C way) := by
  have cl := T.cl
  have clH := TH.cl
  refine I.ok sc_Kin_greatest (fun vs H Q E h => ?_) (fun f cdv A outer s H vs Q E hr h => ?_)
  · obtain ⟨_, _, _, _, _, _, rfl, _⟩ := h; rfl
  · obtain ⟨Y, k, a, b, s, t, rfl, rfl, hk, ha, hb, hs, ht, kk⟩ := h
    refine ⟨_, (pss_cons (ps_expr (pe_methD M__need_state cl (hr.mono (by decide)) (pv 0) (pa_cons (pv 1) pa_nil)))
      (pss_cons (ps_expr (pe_methD M__need_state cl (hr.mono (by decide)) (pv 0) (pa_cons (pv 2) pa_nil)))
      (pss_cons (ps_set (i := 3) sc_Kin_greatest.nd rfl (Or.inr rfl) (pe_op op_rep (pe_lst (pa_cons pe_int pa_nil)) (pe_fld (pe_fld (pv 0) rfl) rfl)))
      (pss_cons (ps_for PassesOwn.never rfl (pi_list (pe_methD0 MH_order clH (hr.mono (by decide)) (pe_fld (pv 0) rfl))) (pg_name (i := 4) sc_Kin_greatest.nd rfl (Or.inl rfl))
      (pss_cons (ps_set (i := 5) sc_Kin_greatest.nd rfl (Or.inl rfl) (pe_callB (cr_sum rfl) (by rfl) B.sum (by decide +kernel) (pa_cons (pe_lc (own := [("other", 6)]) (g := gName 6) (tt := tYes) rfl sc_Kin_greatest.nd (pi_list (pe_methD M__turners cl (hr.mono (by decide)) (pv 0) (pa_cons (pv 4) pa_nil))) (blkOk_by (own := [("other", 6)]) (N := ["self", "source", "target", "counts", "lamp", "load", "other"]) (sc := defScope s_Kin_greatest) (by decide +kernel)) (fun _ _ _ _ _ => (pg_name (i := 6) sc_Kin_greatest.nd rfl (Or.inl rfl))) (fun _ _ _ _ _ => by exact pts_nil) (fun _ _ _ _ _ => by exact (pe_ix (ix_listK (K := K)) (pv 3) (pv 6) (fun _ _ => rfl)))) pa_nil)))
        (pss_one (ps_asg (pe_op op_add (pe_op op_sub (pe_ix ix_tup (pv 1) (pv 4) (fun _ _ => rfl)) (pe_ix ix_tup (pv 2) (pv 4) (fun _ _ => rfl))) (pe_op op_mul (pe_methD M_factor cl (hr.mono (by decide)) (pv 0) (pa_cons (pv 4) pa_nil)) (pv 5))) (pg_sub (pv 3) (pv 4) set_list)))))
      (pss_one (ps_ret (pv 3))))))), ?_⟩
    have ok := hk.ok
    have hn := ok.n16
    have lO := ok.topo.length
    obtain ⟨dx, fs, h1, h5⟩ := hk.no
    refine q_drop (ev_meth (ev_var rfl) h1 (h5 _ (by decide +kernel)) (ea_cons (ev_var rfl) ea_nil) (spv_nst hk ha hs)) fun H1 e1 => ?_
    refine q_drop (ev_meth (ev_var rfl) (e1 _ _ h1) (h5 _ (by decide +kernel)) (ea_cons (ev_var rfl) ea_nil) (spv_nst (hk.mono e1) (e1 _ _ hb) ht)) fun H2 e2 => ?_
    have e12 := e1.trans e2
    refine q_asgL (el_rep0 (n := Y.n) (by omega) (ev_count TH T (hk.mono e12) (ev_var rfl))) fun l H3 nl3 e3 hl3 => ?_
    have e13 := e12.trans e3
    have nl : H l = none := fresh_back e12 nl3
    refine q_forNLn (K := K) (el_order T (hk.mono e13) (ev_var rfl)) (fun p i σ H' => Ex H H' ∧ p ≠ l ∧ H' p = some (.lst (vn Y.O)) ∧ H' l = some (.lst (vi ((Y.O.take i).foldl (greatStep Y.T Y.N s t (List.range Y.n)) (List.replicate Y.n 0)))) ∧ ∃ x y, σ = [some (.ref k), some (.ref a), some (.ref b), some (.ref l), x, y, none])
      (fun p H4 np e4 hp => ⟨e13.trans e4, (ne_of_none hl3 np).symm, hp, by rw [List.take_zero]; exact e4 _ _ hl3, _, _, rfl⟩) (fun p i σ H' _ q => SqL.of q.2.2.1) ?_ ?_
    · rintro p i x σ H4 hi ⟨e4, npl, hp, hl, y, z, rfl⟩
      have hi2 : i < Y.O.length := by
        have := (List.getElem?_eq_some_iff.mp hi).1
        rwa [vn_len] at this
      rw [vn_get hi2] at hi
      cases hi
      have hv : Y.O.getD i 0 < Y.n := (ok.topo.mem _).mp (getD_mem hi2)
      have hstep := take_succ_getD hi2
      generalize Y.O.getD i 0 = v at hv hstep
      generalize hh : (Y.O.take i).foldl (greatStep Y.T Y.N s t (List.range Y.n)) (List.replicate Y.n 0) = c at hl
      have hlen : c.length = Y.n := by rw [← hh, foldl_great_len]; simp
      have key := el_lcNL (K := K) (σ := [some (.ref k), some (.ref a), some (.ref b), some (.ref l), some (.int (v : Int)), z, none]) (H := H4) (t := tYes) (te := tOp (rIxL K) (tVar 3) (tVar 6))
        (xs := vn ((List.range Y.n).filter fun u => decide (v ∈ row Y.T u))) (tl := tMeth C "_turners" (sp_turners CH C Y.way) [] E0 (tVar 0) (tCons (tVar 4) tNil)) (j := 6) (vs := [6]) (fun _ => true) (fun i => .int (nth c (((List.range Y.n).filter fun u => decide (v ∈ row Y.T u)).getD i 0)))
        (el_meth (ev_var rfl) (e4 _ _ h1) (h5 _ (by decide +kernel)) (ea_cons (ev_var rfl) ea_nil) fun H5 e5 Q q E => ⟨Y, k, v, rfl, rfl, (hk.mono e4).mono e5, hv, q⟩)
        (by rw [vn_len]; have := List.length_filter_le (fun u => decide (v ∈ row Y.T u)) (List.range Y.n); rw [List.length_range] at this; omega) (fun _ => rfl) (fun i x H1 e1 hi => et_yes) (fun i x H5 e5 hi _ => ?_)
      · rw [given_all, vn_len, given_map (f := fun w => nth c w)] at key
        refine q_asg (ev_sum key) fun H5 e5 => ?_
        refine s_setL (l := l) (j := v) (e5 _ _ hl) (ev_op (ev_op (ev_ixT (ev_var rfl) (ev_var rfl) (e5 _ _ (e4 _ _ ha)) (by rw [hs.len]; exact hv)) (ev_ixT (ev_var rfl) (ev_var rfl) (e5 _ _ (e4 _ _ hb)) (by rw [ht.len]; exact hv)) rv_I0)
          (ev_op (ev_meth (ev_var rfl) (e5 _ _ (e4 _ _ h1)) (h5 _ (by decide +kernel)) (ea_cons (ev_var rfl) ea_nil) (spv_factor (hk.mono (e4.trans e5)) hv)) (ev_var rfl) (rv_I (.inl ?_))) rv_I0) (ev_var rfl) (ev_var rfl) (by rw [vi_len, hlen]; exact hv) fun H6 e6 => ?_
        · have := ok.num v hv
          exact ⟨by have := this.1; omega, by have := this.2.1; omega⟩
        · refine ⟨Ex.mut ((e4.trans e5).trans e6) nl, npl, by rw [upd_ne npl]; exact e6 _ _ (e5 _ _ hp), ?_, _, _, rfl⟩
          rw [upd_same, vi_set, hstep, List.foldl_append, hh]
          rfl
      · have hi2 : i < ((List.range Y.n).filter fun u => decide (v ∈ row Y.T u)).length := by
          have := (List.getElem?_eq_some_iff.mp hi).1
          rwa [vn_len] at this
        rw [vn_get hi2] at hi
        cases hi
        have hm := List.mem_range.mp (List.mem_filter.mp (getD_mem hi2)).1
        exact ev_ixL (ev_var rfl) (ev_var rfl) (e5 _ _ hl) (by rw [hlen]; exact hm)
    · rintro p σ H4 ⟨e4, npl, hp, hl, y, z, rfl⟩
      rw [vn_len, List.take_length] at hl
      exact ⟨_, rfl, kk l H4 nl e4 hl⟩
theorem spl_greatest {Y : Sys} {H : Hp} {k a b : Addr} {s t : List Int} (hk : KinAt CH C Y H k) (ha : H a = some (.tup (vi s))) (hb : H b = some (.tup (vi t))) (hs : IsSt Y s) (ht : IsSt Y t) : SpL (sp_greatest CH C Y.way) [.ref k, .ref a, .ref b] H (vi (gr Y s t)) :=
  fun H1 e Q q E => ⟨Y, k, a, b, s, t, rfl, rfl, hk.mono e, e _ _ ha, e _ _ hb, hs, ht, q⟩
abbrev s_Kin_reaches : Stmt := inClass (topS 29) 12
theorem sc_Kin_reaches : FnScope ["self", "source", "target"] ["self", "source", "target"] (defScope s_Kin_reaches) := ⟨rfl, rfl, rfl, by decide +kernel, rfl, by decide +kernel, by decide +kernel⟩
def sp_reaches (CH C : Addr) (way : Nat) : Sp := fun vs H Q _ => ∃ (Y : Sys) (k a b : Addr) (s t : List Int), vs = [.ref k, .ref a, .ref b] ∧ Y.way = way ∧ KinAt CH C Y H k ∧ H a = some (.tup (vi s)) ∧ H b = some (.tup (vi t)) ∧ IsSt Y s ∧ IsSt Y t ∧
  ∀ m H', m ∈ gr Y s t → (∀ y, y ∈ gr Y s t → m ≤ y) → Ex H H' → Q (.bl (decide (0 ≤ m))) H'
theorem m_reaches (B : Bi mg) (T : KTxt K C) (M_greatest : MethOk P w K mg base C "greatest" 7 ["self", "source", "target"] [] (sp_greatest CH C way))
    (I : MethIs K C "reaches" "reaches" "Kin.reaches" s_Kin_reaches ["self", "source", "target"]) : MethOk P w K mg base C "reaches" 8 ["self", "source", "target"] [] (sp_reaches CH C way) := by
  have cl := T.cl
  refine I.ok sc_Kin_reaches (fun vs H Q E h => ?_) (fun f cdv A outer s H vs Q E hr h => ?_)
  · obtain ⟨_, _, _, _, _, _, rfl, _⟩ := h; rfl
  · obtain ⟨Y, k, a, b, s, t, rfl, rfl, hk, ha, hb, hs, ht, kk⟩ := h
    refine ⟨_, (pss_one (ps_ret (pe_cmpR op_ge (pe_callB (cr_min rfl) (by rfl) B.min (by decide +kernel) (pa_cons (pe_methD M_greatest cl (hr.mono (by decide)) (pv 0) (pa_cons (pv 1) (pa_cons (pv 2) pa_nil))) pa_nil)) pe_int (nomark _)))), ?_⟩
    obtain ⟨dx, fs, h1, h5⟩ := hk.no
    have ok := hk.ok
    refine ⟨_, rfl, k, dx, fs, rfl, h1, h5 _ (by decide +kernel), _, rfl, _, rfl, Y, k, a, b, s, t, rfl, rfl, hk, ha, hb, hs, ht, fun p H1 np e1 hp => ⟨p, _, rfl, SqL.of hp, ?_, fun m hm hle => ?_⟩⟩
    · rw [(gr_is ok s t).len]; have := ok.n1; omega
    · exact ⟨_, _, rfl, rfl, kk m H1 hm hle e1⟩
abbrev s_Kin__refuse : Stmt := inClass (topS 29) 8
theorem sc_Kin__refuse : FnScope ["self", "state", "lamp"] ["self", "state", "lamp"] (defScope s_Kin__refuse) := ⟨rfl, rfl, rfl, by decide +kernel, rfl, by decide +kernel, by decide +kernel⟩
def sp_refuse (CH C : Addr) (way : Nat) : Sp := fun vs H Q _ => ∃ (Y : Sys) (k t : Addr) (s : List Int) (v : Nat), vs = [.ref k, .ref t, .int v] ∧ Y.way = way ∧ KinAt CH C Y H k ∧ H t = some (.tup (vi s)) ∧ IsSt Y s ∧ v < Y.n ∧ Allow Y s v ∧ ∀ H', Ex H H' → Q .non H'
/-- the plain _refuse (for the careful rules too: the first half) -/
theorem m_refuse {R : Addr → Prop} (I : FnAt R K "_refuse" "Kin._refuse" s_Kin__refuse ["self", "state", "lamp"]) : FnAtOk R P w K mg base 1 ["self", "state", "lamp"] (sp_refuse CH C way) := by
  refine I.ok sc_Kin__refuse (fun vs H Q E h => ?_) (fun f cdv A outer s H vs Q E hr h => ?_)
  · obtain ⟨_, _, _, _, _, rfl, _⟩ := h; rfl
  · obtain ⟨Y, k, t, s, v, rfl, rfl, hk, ht, hs, hv, al, kk⟩ := h
    refine ⟨_, (pss_one (ps_if (pt_cmpR op_eq (pe_ix ix_tup (pv 1) (pv 2) (fun _ _ => rfl)) pe_int (nomark _))
      pss_never
      pss_nil)), ?_⟩
    refine ⟨_, rfl, _, rfl, _, _, _, _, rfl, rfl, SqT.of ht, atI_nat (vi_nth (by rw [hs.len]; exact hv)), rfl, _, rfl, iteN (fun z => ?_) (kk H (Ex.refl H))⟩
    have := al.1
    have := V.int.inj z
    omega
abbrev s_Kin_allowed : Stmt := inClass (topS 29) 5
theorem sc_Kin_allowed : FnScope ["self", "state", "lamp"] ["self", "state", "lamp"] (defScope s_Kin_allowed) := ⟨rfl, rfl, rfl, by decide +kernel, rfl, by decide +kernel, by decide +kernel⟩
def sp_allowed (CH C : Addr) (way : Nat) : Sp := fun vs H Q _ => ∃ (Y : Sys) (k t : Addr) (s : List Int) (v : Nat), vs = [.ref k, .ref t, .int v] ∧ Y.way = way ∧ KinAt CH C Y H k ∧ H t = some (.tup (vi s)) ∧ IsSt Y s ∧ v < Y.n ∧ Allow Y s v ∧ ∀ H', Ex H H' → Q (.bl true) H'
theorem m_allowed {R : Addr → Prop} (T : KTxt K C) (M__need_state : MethOk P w K mg base C "_need_state" 4 ["self", "state"] [] (sp_nst CH C way)) (M__need_lamp : MethOk P w K mg base C "_need_lamp" 4 ["self", "lamp"] [] (sp_nl CH C way))
    (I : FnAt R K "allowed" "Kin.allowed" s_Kin_allowed ["self", "state", "lamp"]) : FnAtOk R P w K mg base 5 ["self", "state", "lamp"] (sp_allowed CH C way) := by
  have cl := T.cl
  refine I.ok sc_Kin_allowed (fun vs H Q E h => ?_) (fun f cdv A outer s H vs Q E hr h => ?_)
  · obtain ⟨_, _, _, _, _, rfl, _⟩ := h; rfl
  · obtain ⟨Y, k, t, s, v, rfl, rfl, hk, ht, hs, hv, al, kk⟩ := h
    refine ⟨_, (pss_cons (ps_expr (pe_methD M__need_state cl (hr.mono (by decide)) (pv 0) (pa_cons (pv 1) pa_nil)))
      (pss_cons (ps_expr (pe_methD M__need_lamp cl (hr.mono (by decide)) (pv 0) (pa_cons (pv 2) pa_nil)))
      (pss_one (ps_ret (pe_cmpR op_gt (pe_ix ix_tup (pv 1) (pv 2) (fun _ _ => rfl)) pe_int (nomark _)))))), ?_⟩
    obtain ⟨dx, fs, h1, h5⟩ := hk.no
    refine q_drop (ev_meth (ev_var rfl) h1 (h5 _ (by decide +kernel)) (ea_cons (ev_var rfl) ea_nil) (spv_nst hk ht hs)) fun H1 e1 => ?_
    refine q_drop (ev_meth (ev_var rfl) (e1 _ _ h1) (h5 _ (by decide +kernel)) (ea_cons (ev_var rfl) ea_nil) fun H2 e2 Q q E => ⟨Y, k, v, rfl, rfl, (hk.mono e1).mono e2, hv, q⟩) fun H2 e2 => ?_
    exact ⟨_, rfl, _, rfl, _, _, _, _, rfl, rfl, SqT.of (e2 _ _ (e1 _ _ ht)), atI_nat (vi_nth (by rw [hs.len]; exact hv)), _, _, rfl, rfl, qT al.1 (kk H2 (e1.trans e2))⟩
abbrev s_Kin_after : Stmt := inClass (topS 29) 10
theorem sc_Kin_after : FnScope ["self", "state", "lamp"] ["self", "state", "lamp"] (defScope s_Kin_after) := ⟨rfl, rfl, rfl, by decide +kernel, rfl, by decide +kernel, by decide +kernel⟩
def sp_after (CH C : Addr) (way : Nat) : Sp := fun vs H Q _ => ∃ (Y : Sys) (k t : Addr) (s : List Int) (v : Nat), vs = [.ref k, .ref t, .int v] ∧ Y.way = way ∧ KinAt CH C Y H k ∧ H t = some (.tup (vi s)) ∧ IsSt Y s ∧ v < Y.n ∧ Allow Y s v ∧
  ∀ p H', H p = none → Ex H H' → H' p = some (.tup (vi (moved Y s v))) → Q (.ref p) H'
theorem m_after (T : KTxt K C) (M__need_state : MethOk P w K mg base C "_need_state" 4 ["self", "state"] [] (sp_nst CH C way)) (M__need_lamp : MethOk P w K mg base C "_need_lamp" 4 ["self", "lamp"] [] (sp_nl CH C way))
    (M__refuse : MethOk P w K mg base C "_refuse" 8 ["self", "state", "lamp"] [] (sp_refuse CH C way)) (M__moved : MethOk P w K mg base C "_moved" 6 ["self", "state", "lamp"] [] (sp_moved CH C way))
    (I : MethIs K C "after" "after" "Kin.after" s_Kin_after ["self", "state", "lamp"]) : MethOk P w K mg base C "after" 9 ["self", "state", "lamp"] [] (sp_after CH C way) := by
  have cl := T.cl
  refine I.ok sc_Kin_after (fun vs H Q E h => ?_) (fun f cdv A outer s H vs Q E hr h => ?_)
  · obtain ⟨_, _, _, _, _, rfl, _⟩ := h; rfl
  · obtain ⟨Y, k, t, s, v, rfl, rfl, hk, ht, hs, hv, al, kk⟩ := h
    refine ⟨_, (pss_cons (ps_expr (pe_methD M__need_state cl (hr.mono (by decide)) (pv 0) (pa_cons (pv 1) pa_nil)))
      (pss_cons (ps_expr (pe_methD M__need_lamp cl (hr.mono (by decide)) (pv 0) (pa_cons (pv 2) pa_nil)))
      (pss_cons (ps_expr (pe_methD M__refuse cl (hr.mono (by decide)) (pv 0) (pa_cons (pv 1) (pa_cons (pv 2) pa_nil))))
      (pss_one (ps_ret (pe_methD M__moved cl (hr.mono (by decide)) (pv 0) (pa_cons (pv 1) (pa_cons (pv 2) pa_nil)))))))), ?_⟩
    obtain ⟨dx, fs, h1, h5⟩ := hk.no
    refine q_drop (ev_meth (ev_var rfl) h1 (h5 _ (by decide +kernel)) (ea_cons (ev_var rfl) ea_nil) (spv_nst hk ht hs)) fun H1 e1 => ?_
    refine q_drop (ev_meth (ev_var rfl) (e1 _ _ h1) (h5 _ (by decide +kernel)) (ea_cons (ev_var rfl) ea_nil) fun H2 e2 Q q E => ⟨Y, k, v, rfl, rfl, (hk.mono e1).mono e2, hv, q⟩) fun H2 e2 => ?_
    have e12 := e1.trans e2
    refine q_drop (ev_meth (ev_var rfl) (e12 _ _ h1) (h5 _ (by decide +kernel)) (ea_cons (ev_var rfl) (ea_cons (ev_var rfl) ea_nil)) fun H3 e3 Q q E => ⟨Y, k, t, s, v, rfl, rfl, (hk.mono e12).mono e3, e3 _ _ (e12 _ _ ht), hs, hv, al, q⟩) fun H3 e3 => ?_
    have e13 := e12.trans e3
    exact ⟨_, rfl, k, dx, fs, rfl, e13 _ _ h1, h5 _ (by decide +kernel), _, rfl, _, rfl, Y, k, t, s, v, rfl, rfl, hk.mono e13, e13 _ _ ht, hs, hv, fun p H4 np e4 hp => kk p H4 (fresh_back e13 np) (e13.trans e4) hp⟩
end
end K57

set_option Elab.async false
set_option linter.all false
set_option maxRecDepth 100000
set_option maxHeartbeats 4000000
namespace K57
open PySem PySem.Spec PyProof.Rows L2 Evl M57
theorem val_sub {way : Nat} {hues num x k : Int} (v : Val way hues num x) (h0 : 0 ≤ k) (h : k ≤ x) : Val way hues num (x - k) := by
  obtain ⟨v1, v2⟩ := v
  refine ⟨by omega, ?_⟩
  rcases v2 with v2 | v2
  · exact .inl v2
  · right
    by_cases e6 : way = 6
    · simp only [e6, if_true] at v2 ⊢; omega
    · simp only [e6, if_false] at v2 ⊢; omega
theorem putAll_snoc {v : Nat} {turn : Nat → Bool} {f : Int → Int} {h m : Int} {l : List Nat} {x : Nat} : M57.putAll v turn f h m (l ++ [x]) = putStep v turn f (M57.putAll v turn f h m l) x := by
  unfold M57.putAll; rw [List.foldl_append]; rfl
theorem vn_app' {xs : List Nat} {x : Nat} : vn xs ++ [V.int (x : Int)] = vn (xs ++ [x]) := by unfold vn; rw [List.map_append]; rfl
theorem rep_snoc {j v : Nat} : List.replicate (j + 1) v = List.replicate j v ++ [v] := List.replicate_succ'
section
variable {P : Program} {w : World} {K : PySem.W.Frag} {mg : Str → Option Value} {base : Heap} {CH C : Addr} {way : Nat}
abbrev s_Kin__with_lamp : Stmt := inClass (topS 29) 20
theorem sc_Kin__with_lamp : FnScope ["self", "built", "lamp", "hue", "many", "turners", "longer", "place"] ["self", "built", "lamp", "hue", "many"] (defScope s_Kin__with_lamp) := ⟨rfl, rfl, rfl, by decide +kernel, rfl, by decide +kernel, by decide +kernel⟩
def sp_withlamp (CH C : Addr) (way : Nat) : Sp := fun vs H Q _ => ∃ (Y : Sys) (k b : Addr) (v : Nat) (h0 m0 : Int) (bl : List Nat), vs = [.ref k, .ref b, .int v, .int h0, .int m0] ∧ Y.way = way ∧ KinAt CH C Y H k ∧ v < Y.n ∧ H b = some (.lst (vn bl)) ∧ Val Y.way Y.hues (nth Y.N v) h0 ∧ 0 ≤ m0 ∧ bl.length + m0 ≤ 2000 ∧ (∀ x ∈ bl, x < Y.n) ∧
  ∀ p H', H p = none → Ex H H' → H' p = some (.lst (vn (putRun v (turnB Y.T v) (hit Y.way Y.hues (nth Y.N v)) h0 m0 bl))) → Q (.ref p) H'
theorem m_withlamp (B : Bi mg) (T : KTxt K C) (M__turners : MethOk P w K mg base C "_turners" 6 ["self", "lamp"] [] (sp_turners CH C way)) (M__own : MethOk P w K mg base C "_own" 1 ["self", "hue"] [] sp_own)
    (M__hit : MethOk P w K mg base C "_hit" 1 ["self", "lamp", "hue"] [] (sp_hit CH C way))
    (I : MethIs K C "_with_lamp" "_with_lamp" "Kin._with_lamp" s_Kin__with_lamp ["self", "built", "lamp", "hue", "many"]) : MethOk P w K mg base C "_with_lamp" 7 ["self", "built", "lamp", "hue", "many"] [] (sp_withlamp CH C way) := by
  have cl := T.cl
  refine I.ok sc_Kin__with_lamp (fun vs H Q E h => ?_) (fun f cdv A outer s H vs Q E hr h => ?_)
  · obtain ⟨_, _, _, _, _, _, _, rfl, _⟩ := h; rfl
  · obtain ⟨Y, k, b, v, h0, m0, bl, rfl, rfl, hk, hv, hb, v0, hm0, hsz, hlt, kk⟩ := h
    refine ⟨_, (pss_cons (ps_set (i := 5) sc_Kin__with_lamp.nd rfl (Or.inl rfl) (pe_methD M__turners cl (hr.mono (by decide)) (pv 0) (pa_cons (pv 2) pa_nil)))
      (pss_cons (ps_set (i := 6) sc_Kin__with_lamp.nd rfl (Or.inl rfl) (pe_lst pa_nil))
      (pss_cons (ps_for PassesOwn.never rfl (pi_range1 rfl B.range (pa_cons (pe_op op_add (pe_callB call_len (by rfl) B.len PySem.boot_len (pa_cons (pv 1) pa_nil)) pe_int) pa_nil)) (pg_name (i := 7) sc_Kin__with_lamp.nd rfl (Or.inl rfl))
      (pss_cons (ps_while PassesOwn.never (PW.pt (pw_and (pt_cmpR op_gt (pv 3) pe_int (nomark _)) (pw_and1 (pt_cmpR op_gt (pv 4) pe_int (nomark _)))))
        (pss_cons (ps_expr (pe_bm PySem.F.plainAttrs_list PySem.F.slot_list_append PySem.F.type_list_append mt_append (pv 6) (pa_cons (pv 2) pa_nil)))
          (pss_cons (ps_set (i := 3) sc_Kin__with_lamp.nd rfl (Or.inl rfl) (pe_methD M__own cl (hr.mono (by decide)) (pv 0) (pa_cons (pv 3) pa_nil)))
          (pss_one (ps_set (i := 4) sc_Kin__with_lamp.nd rfl (Or.inl rfl) (pe_op op_sub (pv 4) pe_int))))))
        (pss_one (ps_if (pt_cmpR op_lt (pv 7) (pe_callB call_len (by rfl) B.len PySem.boot_len (pa_cons (pv 1) pa_nil)) (nomark _))
        (pss_cons (ps_expr (pe_bm PySem.F.plainAttrs_list PySem.F.slot_list_append PySem.F.type_list_append mt_append (pv 6) (pa_cons (pe_ix ix_list (pv 1) (pv 7) (fun _ _ => rfl)) pa_nil)))
          (pss_one (ps_if (pt_cmpR op_in_seq (pe_ix ix_list (pv 1) (pv 7) (fun _ _ => rfl)) (pv 5) (by first | exact nomark _ | rfl))
          (pss_one (ps_set (i := 3) sc_Kin__with_lamp.nd rfl (Or.inl rfl) (pe_methD M__hit cl (hr.mono (by decide)) (pv 0) (pa_cons (pv 2) (pa_cons (pv 3) pa_nil)))))
          pss_nil)))
        pss_nil))))
      (pss_one (ps_ret (pv 6)))))), ?_⟩
    have ok := hk.ok
    have hn := ok.n16
    obtain ⟨dx, fs, h1, h5⟩ := hk.no
    refine q_asgL (el_meth (ev_var rfl) h1 (h5 _ (by decide +kernel)) (ea_cons (ev_var rfl) ea_nil) fun H2 e2 Q q E => ⟨Y, k, v, rfl, rfl, hk.mono e2, hv, q⟩) fun tp H1 nt e1 htp => ?_
    refine q_asgL (el_lst ea_nil (by decide)) fun l H2 nl1 e2 hl => ?_
    have nl : H l = none := fresh_back e1 nl1
    have ntl : tp ≠ l := ne_of_none htp nl1
    have e12 := e1.trans e2
    have hb2 := e12 _ _ hb
    refine ⟨_, rfl, _, _, rfl, .inl ⟨_, SqL.of hb2, rfl⟩, _, _, rfl, rfl, _, rfl, by rw [vn_len]; omega, by rw [vn_len]; omega, ?_⟩
    rw [vn_len, show ((bl.length : Int) + 1).toNat = bl.length + 1 by omega]
    refine for_range (n := bl.length + 1) (lo := 0) (fun i σ H' => Ex H H' ∧ H' tp = some (.lst (vn ((List.range Y.n).filter fun u => decide (v ∈ row Y.T u)))) ∧ ∃ (acc : List Nat) (h m : Int) (x : Option V), σ = [some (.ref k), some (.ref b), some (.int v), some (.int h), some (.int m), some (.ref tp), some (.ref l), x] ∧ H' l = some (.lst (vn acc)) ∧
        (i ≤ bl.length → Val Y.way Y.hues (nth Y.N v) h ∧ 0 ≤ m ∧ (acc.length : Int) + m = i + m0 ∧ M57.putAll v (turnB Y.T v) (hit Y.way Y.hues (nth Y.N v)) h0 m0 (bl.take i) = (acc, h, m)) ∧ (i = bl.length + 1 → acc = putRun v (turnB Y.T v) (hit Y.way Y.hues (nth Y.N v)) h0 m0 bl))
      ⟨e12, e2 _ _ htp, [], h0, m0, none, rfl, hl, fun _ => ⟨v0, hm0, by simp, rfl⟩, fun z => by omega⟩ ?_ ?_
    · rintro i σ H3 hi ⟨e3, ht3, acc, h, m, x, rfl, hl3, hA, _⟩
      obtain ⟨vh, hm, hlen, hput⟩ := hA (by omega)
      rw [Int.zero_add]
      generalize hkk : outs h m = c
      have hc : (c : Int) = min h m := by rw [← hkk]; show ((min h m).toNat : Int) = _; have := vh.1; omega
      refine q_while (fun μ σ' H' => ∃ j : Nat, j ≤ c ∧ μ = c - j ∧ Ex H H' ∧ H' tp = some (.lst (vn ((List.range Y.n).filter fun u => decide (v ∈ row Y.T u)))) ∧ σ' = [some (.ref k), some (.ref b), some (.int v), some (.int (h - j)), some (.int (m - j)), some (.ref tp), some (.ref l), some (.int i)] ∧ H' l = some (.lst (vn (acc ++ List.replicate j v)))) c
        ⟨0, Nat.zero_le _, rfl, e3, ht3, by simp, by simpa using hl3⟩ ?_
      rintro μ σ' H4 ⟨j, hj, rfl, e4, ht4, rfl, hl4⟩
      refine ⟨decide (h - j > 0) && decide (m - j > 0), et_and (et_test (ev_op (ev_var rfl) ev_c rv_I0)) (fun _ => et_test (ev_op (ev_var rfl) ev_c rv_I0)), fun hT H5 e5 => ?_, fun hF H5 e5 => ?_⟩
      · rw [Bool.and_eq_true, decide_eq_true_eq, decide_eq_true_eq] at hT
        have hl5 := e5 _ _ hl4
        refine ⟨fun σ2 H6 => ∃ m', m' < c - j ∧ ∃ j : Nat, j ≤ c ∧ m' = c - j ∧ Ex H H6 ∧ H6 tp = some (.lst (vn ((List.range Y.n).filter fun u => decide (v ∈ row Y.T u)))) ∧ σ2 = [some (.ref k), some (.ref b), some (.int v), some (.int (h - j)), some (.int (m - j)), some (.ref tp), some (.ref l), some (.int i)] ∧ H6 l = some (.lst (vn (acc ++ List.replicate j v))), fun _ _ z => z, ?_⟩
        refine q_app (l := l) hl5 (ev_var rfl) (ev_var rfl) (by rw [vn_len, List.length_append, List.length_replicate]; omega) fun H6 e6 => ?_
        have e6' : Ex H (upd H6 l (.lst (vn (acc ++ List.replicate j v) ++ [.int v]))) := Ex.mut ((e4.trans e5).trans e6) nl
        refine q_asg (ev_meth (ev_var rfl) (e6' _ _ h1) (h5 _ (by decide +kernel)) (ea_cons (ev_var rfl) ea_nil) spv_own) fun H7 e7 => ?_
        refine s_asg (ev_op (ev_var rfl) ev_c rv_I0) fun H8 e8 => ?_
        refine ⟨c - (j + 1), by omega, j + 1, by omega, rfl, (e6'.trans e7).trans e8, e8 _ _ (e7 _ _ (by rw [upd_ne ntl]; exact e6 _ _ (e5 _ _ ht4))), ?_, ?_⟩
        · have q1 : h - (j : Int) - 1 = h - ((j + 1 : Nat) : Int) := by omega
          have q2 : m - (j : Int) - 1 = m - ((j + 1 : Nat) : Int) := by omega
          rw [← q1, ← q2]; rfl
        · rw [rep_snoc, ← List.append_assoc, ← vn_app']
          exact e8 _ _ (e7 _ _ upd_same)
      · have hjc : j = c := by
          rw [Bool.and_eq_false_iff, decide_eq_false_iff_not, decide_eq_false_iff_not] at hF
          have := vh.1
          omega
        subst hjc
        have hl5 := e5 _ _ hl4
        have ht5 := e5 _ _ ht4
        have e05 := e4.trans e5
        have hb5 := e05 _ _ hb
        refine ⟨_, rfl, _, rfl, _, _, rfl, .inl ⟨_, SqL.of hb5, rfl⟩, _, _, rfl, rfl, _, rfl, ite2 (fun z => ?_) (fun z => ?_)⟩
        · have hib : i < bl.length := by
            have := of_decide_eq_true z
            rw [vn_len] at this; omega
          have hx : bl.getD i 0 ∈ bl := getD_mem hib
          have htake := take_succ_getD hib
          have hat : (vn bl)[i]? = some (.int ((bl.getD i 0 : Nat) : Int)) := vn_get hib
          have hxlt := hlt _ hx
          generalize bl.getD i 0 = u at hx htake hat hxlt
          have evb : ∀ {σ : L2.St} {H' : Hp}, Ex H H' → σ[1]? = some (some (.ref b)) → σ[7]? = some (some (.int (i : Int))) → Ev (tOp (rIxL K) (tVar 1) (tVar 7)) σ H' (.int (u : Int)) := fun e h1 h2 =>
            ev_op (ev_var h1) (ev_var h2) (rv_ixL (SqL.of (e _ _ hb)) (atI_nat hat))
          refine q_app (l := l) hl5 (ev_var rfl) (evb e05 rfl rfl) (by rw [vn_len, List.length_append, List.length_replicate]; omega) fun H6 e6 => ?_
          have e6' : Ex H (upd H6 l (.lst (vn (acc ++ List.replicate j v) ++ [.int u]))) := Ex.mut (e05.trans e6) nl
          have ht6 : (upd H6 l (.lst (vn (acc ++ List.replicate j v) ++ [.int u]))) tp = some (.lst (vn ((List.range Y.n).filter fun u => decide (v ∈ row Y.T u)))) := by rw [upd_ne ntl]; exact e6 _ _ ht5
          have vs : Val Y.way Y.hues (nth Y.N v) (h - j) := val_sub vh (by omega) (by omega)
          have hstep : M57.putAll v (turnB Y.T v) (hit Y.way Y.hues (nth Y.N v)) h0 m0 (bl.take (i + 1)) = (acc ++ List.replicate j v ++ [u], (if turnB Y.T v u = true then hit Y.way Y.hues (nth Y.N v) (h - j) else h - j), m - j) := by
            rw [htake, putAll_snoc, hput]
            unfold putStep
            simp only [hkk]
          have lenE : ((acc ++ List.replicate j v ++ [u]).length : Int) + (m - j) = ((i + 1 : Nat) : Int) + m0 := by
            rw [List.length_append, List.length_append, List.length_replicate, List.length_singleton]; omega
          refine s_when (b := turnB Y.T v u) (et_test (ev_is (ev_op (evb e6' rfl rfl) (ev_var rfl) (rv_isL (SqL.of ht6) rfl vn_flat)) ?_)) (fun ht H7 e7 => ?_) (fun ht H7 e7 => ?_)
          · rw [inV_vn]
            unfold turnB
            congr 1
            exact decide_eq_decide.mpr ⟨fun q => of_decide_eq_true (List.mem_filter.mp q).2, fun q => List.mem_filter.mpr ⟨List.mem_range.mpr hxlt, decide_eq_true q⟩⟩
          · refine s_asg (ev_meth (ev_var rfl) (e7 _ _ (e6' _ _ h1)) (h5 _ (by decide +kernel)) (ea_cons (ev_var rfl) (ea_cons (ev_var rfl) ea_nil)) (spv_hit (hk.mono (e6'.trans e7)) hv vs)) fun H8 e8 => ?_
            refine ⟨(e6'.trans e7).trans e8, e8 _ _ (e7 _ _ ht6), acc ++ List.replicate j v ++ [u], hit Y.way Y.hues (nth Y.N v) (h - j), m - j, _, rfl, by rw [← vn_app']; exact e8 _ _ (e7 _ _ upd_same), fun _ => ⟨hit_val (ok.num v hv) vs, by omega, lenE, ?_⟩, fun z => by omega⟩
            rw [hstep, if_pos ht]
          · refine ⟨e6'.trans e7, e7 _ _ ht6, acc ++ List.replicate j v ++ [u], h - j, m - j, _, rfl, by rw [← vn_app']; exact e7 _ _ upd_same, fun _ => ⟨vs, by omega, lenE, ?_⟩, fun z => by omega⟩
            rw [hstep, if_neg (by rw [ht]; decide)]
        · have hib : i = bl.length := by
            have : ¬ ((i : Int) < ((vn bl).length : Int)) := fun y => z (decide_eq_true y)
            rw [vn_len] at this; omega
          refine ⟨e05, ht5, _, _, _, _, rfl, hl5, fun z => by omega, fun _ => ?_⟩
          rw [hib, List.take_length] at hput
          unfold putRun
          rw [hput]
          simp only [hkk]
    · rintro σ H3 ⟨e3, ht3, acc, h, m, x, rfl, hl3, _, hA⟩
      rw [hA rfl] at hl3
      exact ⟨_, rfl, kk l H3 nl e3 hl3⟩
abbrev s_Kin__build : Stmt := inClass (topS 29) 9
theorem sc_Kin__build : FnScope ["self", "source", "counts", "built", "lamp"] ["self", "source", "counts"] (defScope s_Kin__build) := ⟨rfl, rfl, rfl, by decide +kernel, rfl, by decide +kernel, by decide +kernel⟩
def sp_build (CH C : Addr) (way : Nat) : Sp := fun vs H Q _ => ∃ (Y : Sys) (k a c : Addr) (s t g : List Int), vs = [.ref k, .ref a, .ref c] ∧ Y.way = way ∧ KinAt CH C Y H k ∧ H a = some (.tup (vi s)) ∧ H c = some (.lst (vi g)) ∧ IsSt Y s ∧ IsSt Y t ∧ IsGreat Y.n Y.T Y.N s t g ∧ (∀ v, v < Y.n → 0 ≤ nth g v) ∧ g.sum ≤ 1000 ∧
  ∀ p l H', H p = none → Ex H H' → H' p = some (.lst (vn l)) → Plays Y s l t → (∀ v, v < Y.n → ((l.count v : Nat) : Int) = nth g v) → Q (.ref p) H'
theorem S_part {n : Nat} {f : Nat → Int} {p : Nat → Prop} [DecidablePred p] (h : ∀ i, i < n → 0 ≤ f i) : S n (fun i => if p i then f i else 0) ≤ S n f := S_le fun i hi => by
  by_cases q : p i
  · rw [if_pos q]; exact Int.le_refl _
  · rw [if_neg q]; exact h i hi
theorem put_len {Y : Sys} (ok : Y.Ok) {s t g : List Int} {pre l : List Nat} {u : Nat} (gl : g.length = Y.n) (nn : ∀ v, v < Y.n → 0 ≤ nth g v) (hp : ∀ x ∈ pre, x < Y.n) (hu : u < Y.n) (nu : u ∉ pre) (p : Put Y s t g pre l) : (l.length : Int) + nth g u ≤ g.sum := by
  have h1 := count_sum (n := Y.n) (l := l) fun x hx => hp x (p.mem x hx)
  have h2 : S Y.n (fun v => ((l.count v : Nat) : Int)) + nth g u ≤ S Y.n (nth g) := by
    have e1 : S Y.n (fun v => if v = u then nth g u else 0) = nth g u := by
      rw [S_single hu fun i _ hne => if_neg hne, if_pos rfl]
    rw [← e1, ← S_add]
    refine S_le fun i hi => ?_
    by_cases q : i = u
    · subst q
      have : l.count i = 0 := List.count_eq_zero.mpr fun z => nu (p.mem _ z)
      rw [if_pos rfl, this]; simp
    · rw [if_neg q]
      by_cases z : i ∈ pre
      · rw [p.cnt i z]; omega
      · have : l.count i = 0 := List.count_eq_zero.mpr fun y => z (p.mem _ y)
        rw [this]; have := nn i hi; simpa using this
  rw [sum_S, gl]; omega
theorem m_build (TH : HTxt K CH) (T : KTxt K C) (hw : careful way = false) (MH_order : MethOk P w K mg base CH "order" 1 ["self"] [] (sp_order CH)) (M__with_lamp : MethOk P w K mg base C "_with_lamp" 7 ["self", "built", "lamp", "hue", "many"] [] (sp_withlamp CH C way))
    (I : MethIs K C "_build" "_build" "Kin._build" s_Kin__build ["self", "source", "counts"]) : MethOk P w K mg base C "_build" 8 ["self", "source", "counts"] [] (sp_build CH C way) := by
  have cl := T.cl
  have clH := TH.cl
  refine I.ok sc_Kin__build (fun vs H Q E h => ?_) (fun f cdv A outer s H vs Q E hr h => ?_)
  · obtain ⟨_, _, _, _, _, _, _, rfl, _⟩ := h; rfl
  · obtain ⟨Y, k, a, c, s, t, g, rfl, rfl, hk, ha, hc, hs, ht, hg, nn, hsum, kk⟩ := h
    refine ⟨_, (pss_cons (ps_set (i := 3) sc_Kin__build.nd rfl (Or.inl rfl) (pe_lst pa_nil))
      (pss_cons (ps_for PassesOwn.never rfl (pi_list (pe_methD0 MH_order clH (hr.mono (by decide)) (pe_fld (pv 0) rfl))) (pg_name (i := 4) sc_Kin__build.nd rfl (Or.inl rfl))
      (pss_one (ps_set (i := 3) sc_Kin__build.nd rfl (Or.inl rfl) (pe_methD M__with_lamp cl (hr.mono (by decide)) (pv 0) (pa_cons (pv 3) (pa_cons (pv 4) (pa_cons (pe_ix ix_tup (pv 1) (pv 4) (fun _ _ => rfl)) (pa_cons (pe_ix ix_list (pv 2) (pv 4) (fun _ _ => rfl)) pa_nil))))))))
      (pss_one (ps_ret (pv 3))))), ?_⟩
    have ok := hk.ok
    have hn := ok.n16
    obtain ⟨dx, fs, h1, h5⟩ := hk.no
    refine q_asgL (el_lst ea_nil (by decide)) fun l0 H1 nl1 e1 hl => ?_
    refine q_forNLn (K := K) (el_order T (hk.mono e1) (ev_var rfl)) (fun p i σ H' => Ex H H' ∧ H' p = some (.lst (vn Y.O)) ∧ ∃ (b : Addr) (l : List Nat) (x : Option V), σ = [some (.ref k), some (.ref a), some (.ref c), some (.ref b), x] ∧ H b = none ∧ H' b = some (.lst (vn l)) ∧ Put Y s t g (Y.O.take i) l)
      (fun p H2 np e2 hp => ⟨e1.trans e2, hp, l0, [], _, rfl, nl1, e2 _ _ hl, by rw [List.take_zero]; exact Put.nil⟩) (fun p i σ H' _ q => SqL.of q.2.1) ?_ ?_
    · rintro p i x σ H2 hi ⟨e2, hp, b, l, y, rfl, nb, hb, hput⟩
      have hi2 : i < Y.O.length := by
        have := (List.getElem?_eq_some_iff.mp hi).1
        rwa [vn_len] at this
      rw [vn_get hi2] at hi
      cases hi
      have hv : Y.O.getD i 0 < Y.n := (ok.topo.mem _).mp (getD_mem hi2)
      have hstep := take_succ_getD hi2
      have hnm := not_mem_take ok.topo.nd hi2
      have eO : Y.O = Y.O.take i ++ Y.O.getD i 0 :: Y.O.drop (i + 1) := by
        have h1 := List.take_append_drop (i + 1) Y.O
        rw [hstep] at h1
        rw [← List.append_cons] at h1
        exact h1.symm
      generalize Y.O.getD i 0 = v at hv hstep hnm eO
      have hpre : ∀ x ∈ Y.O.take i, x < Y.n := fun x hx => (ok.topo.mem x).mp (List.mem_of_mem_take hx)
      have hlen := put_len ok hg.len nn hpre hv hnm hput
      have gv := nn v hv
      refine s_asgL (el_meth (ev_var rfl) (e2 _ _ h1) (h5 _ (by decide +kernel)) (ea_cons (ev_var rfl) (ea_cons (ev_var rfl) (ea_cons (ev_ixT (ev_var rfl) (ev_var rfl) (e2 _ _ ha) (by rw [hs.len]; exact hv)) (ea_cons (ev_ixL (ev_var rfl) (ev_var rfl) (e2 _ _ hc) (by rw [hg.len]; exact hv)) ea_nil))))
        (fun H3 e3 Q q E => ⟨Y, k, b, v, nth s v, nth g v, l, rfl, rfl, (hk.mono e2).mono e3, hv, e3 _ _ hb, hs.val v hv, gv, by omega, fun x hx => hpre x (hput.mem x hx), q⟩)) fun b' H3 nb' e3 hb' => ?_
      refine ⟨e2.trans e3, e3 _ _ hp, b', _, _, rfl, fresh_back e2 nb', hb', ?_⟩
      rw [hstep]
      exact hput.next ok hs ht hg nn eO
    · rintro p σ H2 ⟨e2, hp, b, l, y, rfl, nb, hb, hput⟩
      rw [vn_len, List.take_length] at hput
      exact ⟨_, rfl, kk b l H2 nb e2 hb (hput.plays ok hw hs ht) fun v hv => hput.cnt v ((ok.topo.mem v).mpr hv)⟩
end
end K57

set_option Elab.async false
set_option linter.all false
set_option maxRecDepth 100000
set_option maxHeartbeats 4000000
namespace K57
open PySem PySem.Spec PyProof.Rows L2 Evl M57
theorem given_filterL {p : Nat → Bool} : ∀ (r : List Nat), given r.length (fun i => p (r.getD i 0)) (fun i => .int ((r.getD i 0 : Nat) : Int)) = vn (r.filter p) := by
  have key : ∀ (r : List Nat) (n : Nat), n ≤ r.length → given n (fun i => p (r.getD i 0)) (fun i => .int ((r.getD i 0 : Nat) : Int)) = vn ((r.take n).filter p) := by
    intro r n
    induction n with
    | zero => intro _; simp [given]
    | succ n ih =>
      intro hn
      have e := take_succ_getD (l := r) (i := n) (by omega)
      rw [e, List.filter_append]
      by_cases q : p (r.getD n 0) = true
      · rw [given_yes (f := fun i => p (r.getD i 0)) q, ih (by omega)]
        have : [r.getD n 0].filter p = [r.getD n 0] := by simp only [List.filter_cons, q, if_true, List.filter_nil]
        rw [this, ← vn_app']
      · have q' : p (r.getD n 0) = false := by simpa using q
        rw [given_no (f := fun i => p (r.getD i 0)) q', ih (by omega)]
        have : [r.getD n 0].filter p = [] := by simp only [List.filter_cons, q', List.filter_nil, Bool.false_eq_true, if_false]
        rw [this, List.append_nil]
  intro r
  have := key r r.length (Nat.le_refl _)
  rwa [List.take_length] at this
def SpU (sp : Sp) (vs : List V) (H : Hp) (xs : List V) : Prop := ∀ H1, Ex H H1 → ∀ Q : VK, (∀ p H2, H1 p = none → Ex H1 H2 → H2 p = some (.tup xs) → Q (.ref p) H2) → ∀ E : XK, sp vs H1 Q E
theorem eu_meth {σ : L2.St} {H : Hp} {C : Addr} {m : Str} {sp : Sp} {dvs vs xs : List V} {ta : TE} {t : TA} {a dx : Addr} {fs : List (Str × V)} (h : Ev ta σ H (.ref a)) (ho : H a = some (.ins C dx fs)) (hl : fs.lookup m = none) (ha : EvA t σ H vs) (hs : SpU sp (.ref a :: (vs ++ dvs)) H xs) :
    EvU (tMeth C m sp dvs E0 ta t) σ H xs := fun H1 e Q q => h H1 e _ fun H2 e2 => ⟨a, dx, fs, rfl, e2 _ _ (e _ _ ho), hl, ha H2 (e.trans e2) _ fun H3 e3 => hs H3 ((e.trans e2).trans e3) Q (fun p H4 hp e4 h4 => q p H4 (fresh_back (e2.trans e3) hp) ((e2.trans e3).trans e4) h4) E0⟩
section
variable {P : Program} {w : World} {K : PySem.W.Frag} {mg : Str → Option Value} {base : Heap} {CH C : Addr} {way : Nat}
theorem spu_moved {Y : Sys} {H : Hp} {k t : Addr} {s : List Int} {v : Nat} (hk : KinAt CH C Y H k) (ht : H t = some (.tup (vi s))) (hs : IsSt Y s) (hv : v < Y.n) : SpU (sp_moved CH C Y.way) [.ref k, .ref t, .int v] H (vi (moved Y s v)) :=
  fun H1 e Q q E => ⟨Y, k, t, s, v, rfl, rfl, hk.mono e, e _ _ ht, hs, hv, q⟩
abbrev s_CarefulKin__build : Stmt := inClass (topS 30) 3
theorem sc_CarefulKin__build : FnScope ["self", "source", "counts", "left", "state", "built", "_", "waiting", "lamp", "ready", "made"] ["self", "source", "counts"] (defScope s_CarefulKin__build) := ⟨rfl, rfl, rfl, by decide +kernel, rfl, by decide +kernel, by decide +kernel⟩
theorem m_buildC (B : Bi mg) (T : KTxt K C) (hw : careful way = true) (M__lit_turned : MethOk P w K mg base C "_lit_turned" 6 ["self", "state", "lamp"] [] (sp_lit CH C way)) (M__moved : MethOk P w K mg base C "_moved" 6 ["self", "state", "lamp"] [] (sp_moved CH C way))
    (I : MethIs K C "_build" "_build" "CarefulKin._build" s_CarefulKin__build ["self", "source", "counts"]) : MethOk P w K mg base C "_build" 8 ["self", "source", "counts"] [] (sp_build CH C way) := by
  have cl := T.cl
  refine I.ok sc_CarefulKin__build (fun vs H Q E h => ?_) (fun f cdv A outer s H vs Q E hr h => ?_)
  · obtain ⟨_, _, _, _, _, _, _, rfl, _⟩ := h; rfl
  · obtain ⟨Y, k, a, c, s, t, g, rfl, rfl, hk, ha, hc, hs, ht, hg, nn, hsum, kk⟩ := h
    refine ⟨_, (pss_cons (ps_set (i := 3) sc_CarefulKin__build.nd rfl (Or.inr rfl) (pe_callTy call_list_of (by rfl) B.list (by decide +kernel) (pa_cons (pv 2) pa_nil)))
      (pss_cons (ps_set (i := 4) sc_CarefulKin__build.nd rfl (Or.inr rfl) (pv 1))
      (pss_cons (ps_set (i := 5) sc_CarefulKin__build.nd rfl (Or.inl rfl) (pe_lst pa_nil))
      (pss_cons (ps_for PassesOwn.never rfl (pi_range1 rfl B.range (pa_cons (pe_callB (cr_sum rfl) (by rfl) B.sum (by decide +kernel) (pa_cons (pv 2) pa_nil)) pa_nil)) (pg_name (i := 6) sc_CarefulKin__build.nd rfl (Or.inl rfl))
      (pss_cons (ps_setLc (i := 7) (own := [("lamp", 8)]) (g := gName 8) rfl sc_CarefulKin__build.nd rfl rfl (sw_true rfl rfl rfl (by decide +kernel)) (pi_range1 rfl B.range (pa_cons (pe_callB call_len (by rfl) B.len PySem.boot_len (pa_cons (pv 3) pa_nil)) pa_nil)) (blkOk_by (own := [("lamp", 8)]) (N := ["self", "source", "counts", "left", "state", "built", "_", "waiting", "lamp", "ready", "made"]) (sc := defScope s_CarefulKin__build) (by decide +kernel)) (fun _ _ _ _ _ => (pg_name (i := 8) sc_CarefulKin__build.nd rfl (Or.inl rfl))) (fun _ _ _ _ _ => by exact (pts_one (PW.pt (pw_and (pt_cmpR op_gt (pe_ix (ix_listK (K := K)) (pv 3) (pv 8) (fun _ _ => rfl)) pe_int (nomark _)) (pw_and1 (pt_cmpR op_gt (pe_ix (ix_tupK (K := K)) (pv 4) (pv 8) (fun _ _ => rfl)) pe_int (nomark _))))))) (fun _ _ _ _ _ => by exact (pv 8)))
        (pss_cons (ps_setLc (i := 9) (own := [("lamp", 8)]) (g := gName 8) rfl sc_CarefulKin__build.nd rfl rfl (sw_true rfl rfl rfl (by decide +kernel)) (pi_list (pv 7)) (blkOk_by (own := [("lamp", 8)]) (N := ["self", "source", "counts", "left", "state", "built", "_", "waiting", "lamp", "ready", "made"]) (sc := defScope s_CarefulKin__build) (by decide +kernel)) (fun _ _ _ _ _ => (pg_name (i := 8) sc_CarefulKin__build.nd rfl (Or.inl rfl))) (fun _ _ _ _ _ => by exact (pts_one (pt_cmpR op_isN (pe_methD M__lit_turned cl (hr.mono (by decide)) (pv 0) (pa_cons (pv 4) (pa_cons (pv 8) pa_nil))) pe_non (nomark _)))) (fun _ _ _ _ _ => by exact (pv 8)))
        (pss_cons (ps_set (i := 10) sc_CarefulKin__build.nd rfl (Or.inl rfl) (pe_ix ix_list (pv 9) pe_int (fun _ _ => rfl)))
        (pss_cons (ps_asg (pe_op op_sub (pe_ix ix_list (pv 3) (pv 10) (fun _ _ => rfl)) pe_int) (pg_sub (pv 3) (pv 10) set_list))
        (pss_cons (ps_set (i := 4) sc_CarefulKin__build.nd rfl (Or.inr rfl) (pe_methD M__moved cl (hr.mono (by decide)) (pv 0) (pa_cons (pv 4) (pa_cons (pv 10) pa_nil))))
        (pss_one (ps_expr (pe_bm PySem.F.plainAttrs_list PySem.F.slot_list_append PySem.F.type_list_append mt_append (pv 5) (pa_cons (pv 10) pa_nil))))))))))
      (pss_one (ps_ret (pv 5))))))), ?_⟩
    have ok := hk.ok
    have hn := ok.n16
    obtain ⟨dx, fs, h1, h5⟩ := hk.no
    have s0 : 0 ≤ g.sum := by
      rw [sum_S, hg.len]; exact S_nonneg nn
    refine ⟨_, rfl, _, _, rfl, .inl (SqL.of hc), fun l nl => ?_⟩
    have e0 : Ex H (upd H l (.lst (vi g))) := Ex.new nl
    refine q_asg (ev_var rfl) fun H1 e1 => ?_
    refine q_asgL (el_lst ea_nil (by decide)) fun b H2 nb2 e2 hb => ?_
    have e02 := (e0.trans e1).trans e2
    have hl2 := e2 _ _ (e1 _ _ upd_same)
    have nb : H b = none := fresh_back (e0.trans e1) nb2
    have nbl : l ≠ b := ne_of_none (e1 _ _ upd_same) nb2
    refine q_forR1 (n := g.sum) (ea_cons (ev_sumV (ev_var rfl) (e02 _ _ hc)) ea_nil) (by omega) (fun i σ H' => Ex H H' ∧ ∃ (q : Addr) (st lf : List Int) (bt : List Nat) (x6 x7 x9 x10 : Option V), σ = [some (.ref k), some (.ref a), some (.ref c), some (.ref l), some (.ref q), some (.ref b), x6, x7, none, x9, x10] ∧ H' q = some (.tup (vi st)) ∧ H' l = some (.lst (vi lf)) ∧ H' b = some (.lst (vn bt)) ∧
        Left Y st t lf ∧ lf.sum = g.sum - i ∧ bt.length = i ∧ Plays Y s bt st ∧ ∀ v, v < Y.n → ((bt.count v : Nat) : Int) + nth lf v = nth g v)
      (fun H3 e3 => ⟨e02.trans e3, a, s, g, [], _, _, _, _, rfl, e3 _ _ (e02 _ _ ha), e3 _ _ hl2, e3 _ _ hb, ⟨hs, hg, nn⟩, by simp, rfl, .nil _, fun v hv => by simp⟩) ?_ ?_
    · rintro i σ H3 hi ⟨e3, q, st, lf, bt, x6, x7, x9, x10, rfl, hq, hl3, hb3, L, hsl, hlb, hpl, hcnt⟩
      have lenL : lf.length = Y.n := L.great.len
      have lenS := L.st.len
      have key := el_lcR1 (σ := [some (.ref k), some (.ref a), some (.ref c), some (.ref l), some (.ref q), some (.ref b), some (.int i), x7, none, x9, x10]) (H := H3) (ta := tCons (tCB (fun xs H Q => ∃ x n, xs = [x] ∧ LenV K x H n ∧ Q (.int n) H) (tCons (tVar 3) tNil)) tNil) (j := 8) (vs := [8]) (n := (Y.n : Int))
        (t := tAnd (tTest (tOp (rI0 fun i j => .bl (decide (i > j))) (tOp (rIxL K) (tVar 3) (tVar 8)) (tC (.int 0)))) (tTest (tOp (rI0 fun i j => .bl (decide (i > j))) (tOp (rIxT K) (tVar 4) (tVar 8)) (tC (.int 0))))) (te := tVar 8)
        (fun u => decide (nth lf u > 0) && decide (nth st u > 0)) (fun u => .int (u : Int))
        (ea_cons (fun H4 e4 Q q => ⟨_, rfl, _, _, rfl, .inl ⟨_, SqL.of (e4 _ _ hl3), rfl⟩, by rw [vi_len, lenL]; exact q H4 (Ex.refl H4)⟩) ea_nil) (by omega) (fun _ => rfl)
        (fun u H4 e4 hu => et_and (et_test (ev_op (ev_ixL (ev_var rfl) (ev_var rfl) (e4 _ _ hl3) (by omega)) ev_c rv_I0)) fun _ => et_test (ev_op (ev_ixT (ev_var rfl) (ev_var rfl) (e4 _ _ hq) (by omega)) ev_c rv_I0)) (fun u H4 e4 hu _ => ev_var rfl)
      rw [Int.toNat_natCast, given_filter] at key
      refine q_asgL key fun wl H4 nw e4 hwl => ?_
      clear key
      generalize hW : (List.range Y.n).filter (fun u => decide (nth lf u > 0) && decide (nth st u > 0)) = W at hwl
      have hWm : ∀ u, u ∈ W ↔ u < Y.n ∧ 0 < nth lf u ∧ 0 < nth st u := fun u => by rw [← hW, List.mem_filter, List.mem_range, Bool.and_eq_true, decide_eq_true_eq, decide_eq_true_eq]
      have hWl : W.length ≤ 16 := by
        rw [← hW]; exact Nat.le_trans (List.length_filter_le _ _) (by rw [List.length_range]; exact hn)
      have e34 := e3.trans e4
      have hq4 := e4 _ _ hq
      have key := el_lcL (K := K) (σ := [some (.ref k), some (.ref a), some (.ref c), some (.ref l), some (.ref q), some (.ref b), some (.int i), some (.ref wl), none, x9, x10]) (H := H4) (a := wl) (xs := vn W) (tl := tVar 7) (j := 8) (vs := [8])
        (t := tTest (tOp (fun x y H Q => y = .non ∧ Q (.bl (decide (x = .non))) H) (tMeth C "_lit_turned" (sp_lit CH C Y.way) [] E0 (tVar 0) (tCons (tVar 4) (tCons (tVar 8) tNil))) (tC .non))) (te := tVar 8)
        (fun i => (row Y.T (W.getD i 0)).all fun w => decide (¬ 0 < nth st w)) (fun i => .int ((W.getD i 0 : Nat) : Int)) (ev_var rfl) (SqL.of hwl) (by rw [vn_len]; omega) (fun _ => rfl) (fun j x H5 e5 hj => ?_) (fun j x H5 e5 hj _ => ?_)
      · rw [vn_len, given_filterL (p := fun u => (row Y.T u).all fun w => decide (¬ 0 < nth st w))] at key
        refine q_asgL key fun rl H5 nr e5 hrl => ?_
        clear key
        generalize hR : W.filter (fun u => (row Y.T u).all fun w => decide (¬ 0 < nth st w)) = R at hrl
        obtain ⟨u, hu, hru⟩ := L.ready hw ok ht (by omega)
        obtain ⟨r1, r2, r3⟩ := readyB_iff.mp hru
        have huR : u ∈ R := by
          rw [← hR, List.mem_filter]
          exact ⟨(hWm u).mpr ⟨hu, r1, r2⟩, List.all_eq_true.mpr fun w hw => decide_eq_true (r3 w hw)⟩
        have hRl : 0 < R.length := List.length_pos_of_mem huR
        have hm := getD_mem hRl
        have hat : (vn R)[0]? = some (.int ((R.getD 0 0 : Nat) : Int)) := vn_get hRl
        generalize R.getD 0 0 = v at hm hat
        rw [← hR, List.mem_filter, hWm, List.all_eq_true] at hm
        obtain ⟨⟨hv, v1, v2⟩, v3⟩ := hm
        have v3' : ∀ w ∈ row Y.T v, ¬ 0 < nth st w := fun w hw => of_decide_eq_true (v3 w hw)
        have hrb : readyB Y st lf v = true := readyB_iff.mpr ⟨v1, v2, v3'⟩
        refine q_asg (ev_op (ev_var rfl) ev_c (rv_ixL (SqL.of hrl) (atI_nat hat))) fun H6 e6 => ?_
        have e46 := e5.trans e6
        have e36 := e34.trans e46
        have hl6 := e46 _ _ (e4 _ _ hl3)
        have hb6 := e46 _ _ (e4 _ _ hb3)
        have hq6 := e46 _ _ hq4
        have nql : q ≠ l := fun z => by rw [z, hl6] at hq6; cases hq6
        have nqb : q ≠ b := fun z => by rw [z, hb6] at hq6; cases hq6
        refine q_setL (l := l) (j := v) hl6 (ev_op (ev_ixL (ev_var rfl) (ev_var rfl) hl6 (by omega)) ev_c rv_I0) (ev_var rfl) (ev_var rfl) (by rw [vi_len]; omega) fun H7 e7 => ?_
        rw [vi_set]
        have e37 : Ex H (upd H7 l (.lst (vi (lf.set v (nth lf v - 1))))) := Ex.mut (e36.trans e7) nl
        have hq7 : (upd H7 l (.lst (vi (lf.set v (nth lf v - 1))))) q = some (.tup (vi st)) := by rw [upd_ne nql]; exact e7 _ _ hq6
        have hb7 : (upd H7 l (.lst (vi (lf.set v (nth lf v - 1))))) b = some (.lst (vn bt)) := by rw [upd_ne nbl.symm]; exact e7 _ _ hb6
        refine q_asgU (eu_meth (ev_var rfl) (e37 _ _ h1) (h5 _ (by decide +kernel)) (ea_cons (ev_var rfl) (ea_cons (ev_var rfl) ea_nil)) (spu_moved (hk.mono e37) hq7 L.st hv)) fun q2 H8 nq2 e8 hq8 => ?_
        have hl8 := e8 _ _ (upd_same (H := H7) (a := l) (o := .lst (vi (lf.set v (nth lf v - 1)))))
        have hb8 := e8 _ _ hb7
        refine s_app (l := b) hb8 (ev_var rfl) (ev_var rfl) (by rw [vn_len]; omega) fun H9 e9 => ?_
        have nbq : q2 ≠ b := (ne_of_none hb7 nq2).symm
        refine ⟨Ex.mut ((e37.trans e8).trans e9) nb, q2, moved Y st v, lf.set v (nth lf v - 1), bt ++ [v], _, _, _, _, rfl, by rw [upd_ne nbq]; exact e9 _ _ hq8, by rw [upd_ne nbl]; exact e9 _ _ hl8, by rw [upd_same, vn_app'], L.next ok hv hrb, ?_, by rw [List.length_append, List.length_singleton, hlb], hpl.append (.cons hv ⟨v2, fun _ => v3'⟩ (.nil _)), fun x hx => ?_⟩
        · rw [L.sum_next hv, hsl]; omega
        · rw [List.count_append, List.count_singleton, nth_set (by omega)]
          have := hcnt x hx
          by_cases z : x = v
          · subst z; simp; omega
          · have z' : ¬ v = x := fun y => z y.symm
            simp [z, z']; omega
      · have hj2 : j < W.length := by
          have := (List.getElem?_eq_some_iff.mp hj).1
          rwa [vn_len] at this
        rw [vn_get hj2] at hj
        cases hj
        have hwj := (hWm _).mp (getD_mem hj2)
        generalize W.getD j 0 = u at hwj
        refine fun H6 e6 Q0 q0 => ⟨_, rfl, k, dx, fs, rfl, e6 _ _ (e5 _ _ (e34 _ _ h1)), h5 _ (by decide +kernel), _, rfl, _, rfl, Y, k, q, st, u, rfl, rfl, hk.mono (e34.trans (e5.trans e6)), e6 _ _ (e5 _ _ hq4), lenS, hwj.1, fun hall H7 e7 => ⟨rfl, _, rfl, ?_⟩, fun w hw hwp H7 e7 => ⟨rfl, _, rfl, ?_⟩⟩
        · have z := q0 H7 e7
          rw [show (row Y.T u).all (fun w => decide (¬ 0 < nth st w)) = true from List.all_eq_true.mpr fun w hw => decide_eq_true (hall w hw)] at z
          exact z
        · have z := q0 H7 e7
          rw [show (row Y.T u).all (fun w => decide (¬ 0 < nth st w)) = false from List.all_eq_false.mpr ⟨w, hw, by simp [hwp]⟩] at z
          exact z
      · have hj2 : j < W.length := by
          have := (List.getElem?_eq_some_iff.mp hj).1
          rwa [vn_len] at this
        rw [vn_get hj2] at hj
        cases hj
        exact ev_var rfl
    · rintro σ H3 ⟨e3, q, st, lf, bt, x6, x7, x9, x10, rfl, hq, hl3, hb3, L, hsl, hlb, hpl, hcnt⟩
      have z : lf.sum = 0 := by omega
      have e := L.done ok ht z
      subst e
      refine ⟨_, rfl, kk b bt H3 nb e3 hb3 hpl fun v hv => ?_⟩
      have c0 : nth lf v = 0 := by
        have z2 := z
        rw [sum_S, L.great.len] at z2
        have := S_ge_one (n := Y.n) (f := nth lf) hv fun i hi => L.nn i hi
        have := L.nn v hv
        omega
      have := hcnt v hv
      omega
abbrev s_Kin_run : Stmt := inClass (topS 29) 14
theorem sc_Kin_run : FnScope ["self", "source", "target", "limit", "counts", "lamp", "length"] ["self", "source", "target", "limit"] (defScope s_Kin_run) := ⟨rfl, rfl, rfl, by decide +kernel, rfl, by decide +kernel, by decide +kernel⟩
def sp_run (CH C : Addr) (way : Nat) : Sp := fun vs H Q _ => ∃ (Y : Sys) (k a b : Addr) (s t : List Int), vs = [.ref k, .ref a, .ref b, .int 1000] ∧ Y.way = way ∧ KinAt CH C Y H k ∧ H a = some (.tup (vi s)) ∧ H b = some (.tup (vi t)) ∧ IsSt Y s ∧ IsSt Y t ∧ (∀ v, v < Y.n → 0 ≤ nth (gr Y s t) v) ∧ (gr Y s t).sum ≤ 1000 ∧
  ∀ p l H', H p = none → Ex H H' → H' p = some (.lst (vn l)) → Plays Y s l t → (∀ v, v < Y.n → ((l.count v : Nat) : Int) = nth (gr Y s t) v) → Q (.ref p) H'
/-- .. from a bundle with a default -/
structure RunIs (K : PySem.W.Frag) (C : Addr) : Prop where
  ex : ∃ f fd kws ds, Meth K C "run" f ∧ FunD K "run" "Kin.run" (defArgs s_Kin_run) (defBody s_Kin_run) (defScope s_Kin_run) [] kws f fd ∧ Vals [.int 1000] ds ∧ Binds K fd ["self", "source", "target", "limit"] ds
theorem m_run (B : Bi mg) (TH : HTxt K CH) (T : KTxt K C) (MH_order : MethOk P w K mg base CH "order" 1 ["self"] [] (sp_order CH)) (M_greatest : MethOk P w K mg base C "greatest" 7 ["self", "source", "target"] [] (sp_greatest CH C way))
    (M__build : MethOk P w K mg base C "_build" 8 ["self", "source", "counts"] [] (sp_build CH C way)) (I : RunIs K C) : MethOk P w K mg base C "run" 9 ["self", "source", "target", "limit"] [.int 1000] (sp_run CH C way) := by
  have cl := T.cl
  have clH := TH.cl
  obtain ⟨f, fd, kws, ds, hm, F, hv, hb⟩ := I.ex
  refine ⟨f, fd, ds, hm, hb, hv, F.ok sc_Kin_run (fun vs H Q E h => ?_) fun cdv A outer sh H vs Q E hr h => ?_⟩
  · obtain ⟨_, _, _, _, _, _, rfl, _⟩ := h; rfl
  · obtain ⟨Y, k, a, b, s, t, rfl, rfl, hk, ha, hb, hs, ht, nn, hsum, kk⟩ := h
    suffices h : ∃ t, PSs (cxOf CX0 P w K mg base ["self", "source", "target", "limit", "counts", "lamp", "length"] "Kin.run" (defScope s_Kin_run) f cdv A outer sh H E).nox (defBody s_Kin_run) t ∧ t { nx := fun _ H' => Q .non H', rt := Q } (start ["self", "source", "target", "limit", "counts", "lamp", "length"] [.ref k, .ref a, .ref b, .int 1000]) H by
      obtain ⟨t, h1, h2⟩ := h
      exact ⟨t, h1.nox, h2⟩
    refine ⟨_, (pss_cons (ps_set (i := 4) sc_Kin_run.nd rfl (Or.inl rfl) (pe_methD M_greatest cl (hr.mono (by decide)) (pv 0) (pa_cons (pv 1) (pa_cons (pv 2) pa_nil))))
      (pss_cons (ps_for PassesOwn.never rfl (pi_list (pe_methD0 MH_order clH (hr.mono (by decide)) (pe_fld (pv 0) rfl))) (pg_name (i := 5) sc_Kin_run.nd rfl (Or.inl rfl))
      (pss_one (ps_if (pt_cmpR op_lt (pe_ix ix_list (pv 4) (pv 5) (fun _ _ => rfl)) pe_int (nomark _))
        pss_never
        pss_nil)))
      (pss_cons (ps_set (i := 6) sc_Kin_run.nd rfl (Or.inl rfl) (pe_callB (cr_sum rfl) (by rfl) B.sum (by decide +kernel) (pa_cons (pv 4) pa_nil)))
      (pss_cons (ps_if (pt_cmpR op_gt (pv 6) (pv 3) (nomark _))
      pss_never
      pss_nil)
      (pss_one (ps_ret (pe_methD M__build cl (hr.mono (by decide)) (pv 0) (pa_cons (pv 1) (pa_cons (pv 4) pa_nil))))))))), ?_⟩
    have ok := hk.ok
    obtain ⟨dx, fs, h1, h5⟩ := hk.no
    refine q_asgL (el_meth (ev_var rfl) h1 (h5 _ (by decide +kernel)) (ea_cons (ev_var rfl) (ea_cons (ev_var rfl) ea_nil)) (spl_greatest hk ha hb hs ht)) fun c H1 nc e1 hc => ?_
    have gl := (gr_is ok s t).len
    refine q_forNLn (K := K) (el_order T (hk.mono e1) (ev_var rfl)) (fun p i σ H' => Ex H1 H' ∧ H' p = some (.lst (vn Y.O)) ∧ ∃ x, σ = [some (.ref k), some (.ref a), some (.ref b), some (.int 1000), some (.ref c), x, none])
      (fun p H2 np e2 hp => ⟨e2, hp, _, rfl⟩) (fun p i σ H' _ q => SqL.of q.2.1) ?_ ?_
    · rintro p i x σ H2 hi ⟨e2, hp, y, rfl⟩
      have hi2 : i < Y.O.length := by
        have := (List.getElem?_eq_some_iff.mp hi).1
        rwa [vn_len] at this
      rw [vn_get hi2] at hi
      cases hi
      have hv : Y.O.getD i 0 < Y.n := (ok.topo.mem _).mp (getD_mem hi2)
      generalize Y.O.getD i 0 = v at hv
      refine s_when (et_test (ev_op (ev_ixL (ev_var rfl) (ev_var rfl) (e2 _ _ hc) (by omega)) ev_c rv_I0)) (fun z => ?_) (fun z H3 e3 => ⟨e2.trans e3, e3 _ _ hp, _, rfl⟩)
      have := nn v hv
      have := of_decide_eq_true z
      omega
    · rintro p σ H2 ⟨e2, hp, y, rfl⟩
      have hc2 := e2 _ _ hc
      refine q_asg (ev_sumV (ev_var rfl) hc2) fun H3 e3 => ?_
      refine q_when (et_test (ev_op (ev_var rfl) (ev_var rfl) rv_I0)) (fun z => ?_) (fun z H4 e4 => ?_)
      · have := of_decide_eq_true z
        omega
      · have e04 := (e1.trans e2).trans (e3.trans e4)
        refine ⟨_, rfl, k, dx, fs, rfl, e04 _ _ h1, h5 _ (by decide +kernel), _, rfl, _, rfl, Y, k, a, c, s, t, gr Y s t, rfl, rfl, hk.mono e04, e04 _ _ ha, e4 _ _ (e3 _ _ hc2), hs, ht, gr_is ok s t, nn, hsum, fun p' l H5 np e5 hp5 hpl hcn => ?_⟩
        exact kk p' l H5 (fresh_back e04 np) (e04.trans e5) hp5 hpl hcn
end
end K57

set_option Elab.async false
set_option linter.all false
set_option maxRecDepth 100000
set_option maxHeartbeats 4000000
namespace K57
open PySem PySem.Spec PyProof.Rows L2 Evl M57
section
variable {P : Program} {w : World} {K : PySem.W.Frag} {mg : Str → Option Value} {base : Heap} {CH C D : Addr} {way : Nat}
abbrev s_CoinKin_is_state : Stmt := inClass (topS 37) 1
theorem sc_CoinKin_is_state : FnScope ["self", "value", "heap"] ["self", "value"] (defScope s_CoinKin_is_state) := ⟨rfl, rfl, rfl, by decide +kernel, rfl, by decide +kernel, by decide +kernel⟩
theorem m_is_stateC (B : Bi mg) (TH : HTxt K CH) (T : KTxt K C) (hw : way = 5) (D_is_integer : DefOk P w K mg base "is_integer" 1 ["value"] sp_isint) (I : MethIs K C "is_state" "is_state" "CoinKin.is_state" s_CoinKin_is_state ["self", "value"]) :
    MethOk P w K mg base C "is_state" 3 ["self", "value"] [] (sp_kst CH C way) := by
  refine MethOk.mono (j := 2) (I.ok sc_CoinKin_is_state (fun vs H Q E h => ?_) (fun f cdv A outer s H vs Q E hr h => ?_)) (by decide)
  · obtain ⟨_, _, _, _, rfl, _⟩ := h; rfl
  · obtain ⟨Y, k, t, s, rfl, rfl, hk, ht, hs, kk⟩ := h
    refine ⟨_, (pss_cons (ps_if (PW.pt (pw_or (pt_not (pt_val (pe_callB call_isi (by rfl) B.isinstance boot_isinstance (pa_cons (pv 1) (pa_cons (pe_bltn (v := .ty "tuple") (by rfl) B.tuple boot_tuple rfl) pa_nil))))) (pw_or1 (pt_cmpR op_ne (pe_callB call_len (by rfl) B.len PySem.boot_len (pa_cons (pv 1) pa_nil)) (pe_fld (pe_fld (pv 0) rfl) rfl) (nomark _)))))
      (pss_one (ps_ret pe_bl))
      pss_nil)
      (pss_one (ps_ret (pe_callB (cr_all rfl) (by rfl) B.all (by decide +kernel) (pa_cons (pe_lc (own := [("heap", 2)]) (g := gName 2) (tt := tYes) rfl sc_CoinKin_is_state.nd (pi_tup (pv 1)) (blkOk_by (own := [("heap", 2)]) (N := ["self", "value", "heap"]) (sc := defScope s_CoinKin_is_state) (by decide +kernel)) (fun _ _ _ _ _ => (pg_name (i := 2) sc_CoinKin_is_state.nd rfl (Or.inl rfl))) (fun _ _ _ _ _ => by exact pts_nil) (fun _ _ _ _ _ => by exact (pe_and (pe_callD D_is_integer (hr.mono (by decide)) (pa_cons (pv 2) pa_nil)) (pe_one (pe_cmpR op_ge (pv 2) pe_int (nomark _)))))) pa_nil))))), ?_⟩
    have hn := hk.ok.n16
    have hvl : (vi s).length = s.length := List.length_map ..
    refine ⟨_, rfl, _, _, _, _, true, rfl, .ty _, .base (.tup ht), kit_ty (by decide +kernel), _, rfl, iteF ?_⟩
    refine ⟨_, rfl, _, _, rfl, .inr ⟨_, SqT.of ht, rfl⟩, ev_count TH T hk (ev_var rfl) H (Ex.refl H) _ fun H1 e1 => ⟨rfl, _, rfl, ?_⟩⟩
    refine iteNS (by rw [hvl, hs.len]) ?_
    have ht1 := e1 _ _ ht
    have key := el_lcT (K := K) (σ := [some (.ref k), some (.ref t), none]) (H := H1) (t := tYes) (te := tAndV (tCall sp_isint [] E0 (tCons (tVar 2) tNil)) (tOp (rI0 fun i j => .bl (decide (i ≥ j))) (tVar 2) (tC (.int 0)))) (a := t) (xs := vi s) (tl := tVar 1) (j := 2) (vs := [2]) (fun _ => true) (fun _ => .bl true)
      (ev_var rfl) (SqT.of ht1) (by rw [hvl, hs.len]; omega) (fun _ => rfl) (fun i x H1 e1 hi => et_yes) (fun i x H1 e1 hi _ => ?_)
    · dsimp only [tNext, tRet, tCB, tCons, tNil]
      refine key H1 (Ex.refl H1) _ fun p H2 np e2 hp => ?_
      rw [given_all] at hp
      refine ⟨p, List.replicate (vi s).length true, rfl, SqL.of (by rw [hp]; congr 2; rw [List.map_replicate]; exact (List.map_const' ..).trans (by rw [List.length_range])), ?_⟩
      have : (List.replicate (vi s).length true).all id = true := by simp [List.all_replicate]
      rw [this]
      exact kk H2 (e1.trans e2)
    · have hi2 : i < s.length := by
        have := (List.getElem?_eq_some_iff.mp hi).1
        omega
      rw [vi_nth hi2] at hi
      cases hi
      have v1 := (hs.val i (by rw [← hs.len]; exact hi2)).1
      refine fun H2 e2 Q2 q2 => ⟨_, rfl, _, rfl, fun H3 e3 => ⟨true, rfl, iteT ?_⟩⟩
      exact ⟨_, rfl, _, _, rfl, rfl, qT v1 (q2 H3 e3)⟩
abbrev s_MixedKin_is_state : Stmt := inClass (topS 38) 3
theorem sc_MixedKin_is_state : FnScope ["self", "value", "hue", "size"] ["self", "value"] (defScope s_MixedKin_is_state) := ⟨rfl, rfl, rfl, by decide +kernel, rfl, by decide +kernel, by decide +kernel⟩
theorem m_is_stateM (B : Bi mg) (TH : HTxt K CH) (T : KTxt K C) (hw : way = 6) (D_is_integer : DefOk P w K mg base "is_integer" 1 ["value"] sp_isint) (I : MethIs K C "is_state" "is_state" "MixedKin.is_state" s_MixedKin_is_state ["self", "value"]) :
    MethOk P w K mg base C "is_state" 3 ["self", "value"] [] (sp_kst CH C way) := by
  refine MethOk.mono (j := 2) (I.ok sc_MixedKin_is_state (fun vs H Q E h => ?_) (fun f cdv A outer s H vs Q E hr h => ?_)) (by decide)
  · obtain ⟨_, _, _, _, rfl, _⟩ := h; rfl
  · obtain ⟨Y, k, t, s, rfl, rfl, hk, ht, hs, kk⟩ := h
    refine ⟨_, (pss_cons (ps_if (PW.pt (pw_or (pt_not (pt_val (pe_callB call_isi (by rfl) B.isinstance boot_isinstance (pa_cons (pv 1) (pa_cons (pe_bltn (v := .ty "tuple") (by rfl) B.tuple boot_tuple rfl) pa_nil))))) (pw_or1 (pt_cmpR op_ne (pe_callB call_len (by rfl) B.len PySem.boot_len (pa_cons (pv 1) pa_nil)) (pe_fld (pe_fld (pv 0) rfl) rfl) (nomark _)))))
      (pss_one (ps_ret pe_bl))
      pss_nil)
      (pss_cons (ps_for PassesOwn.never rfl (RZ.pi_zipA rfl B.zip (pa_cons (pv 1) (pa_cons (pe_fld (pv 0) rfl) pa_nil))) (pg_tup rfl (pgs_cons (pg_name (i := 2) sc_MixedKin_is_state.nd rfl (Or.inl rfl)) (pgs_cons (pg_name (i := 3) sc_MixedKin_is_state.nd rfl (Or.inl rfl)) pgs_nil)))
      (pss_one (ps_if (PW.pt (pw_or (pt_not (pt_val (pe_callD D_is_integer (hr.mono (by decide)) (pa_cons (pv 2) pa_nil)))) (pw_or (pt_cmpR op_lt (pv 2) pe_int (nomark _)) (pw_or1 (pt_cmpR op_ge (pv 2) (pv 3) (nomark _))))))
        (pss_one (ps_ret pe_bl))
        pss_nil)))
      (pss_one (ps_ret pe_bl)))), ?_⟩
    have hn := hk.ok.n16
    have hvl : (vi s).length = s.length := List.length_map ..
    refine ⟨_, rfl, _, _, _, _, true, rfl, .ty _, .base (.tup ht), kit_ty (by decide +kernel), _, rfl, iteF ?_⟩
    refine ⟨_, rfl, _, _, rfl, .inr ⟨_, SqT.of ht, rfl⟩, ev_count TH T hk (ev_var rfl) H (Ex.refl H) _ fun H1 e1 => ⟨rfl, _, rfl, ?_⟩⟩
    refine iteNS (by rw [hvl, hs.len]) ?_
    have ht1 := e1 _ _ ht
    obtain ⟨dx, fs, h, B', D', h1, h2, h3, h4, h5, h6, h7, h8⟩ := (hk.mono e1).ex
    obtain ⟨a, sz, g1, g2, g3, g4⟩ := h7 hw
    refine ⟨_, rfl, _, rfl, k, C, dx, fs, _, rfl, h1, T.cl, T.sizes, g1, t, a, _, _, rfl, .inr ⟨SqT.of ht1, SqT.of g2, ?_⟩⟩
    refine RZ.for_zipT (by rw [vi_len, vi_len, hs.len, g3]) (fun i σ H' => Ex H1 H' ∧ ∃ x y, σ = [some (.ref k), some (.ref t), x, y]) ⟨Ex.refl _, _, _, rfl⟩ (fun i σ H' q => ⟨SqT.of (q.1 _ _ ht1), SqT.of (q.1 _ _ g2)⟩) ?_ ?_
    · rintro i x y T' σ H2 hx hy ⟨e2, x0, y0, rfl⟩ nT
      have hi2 : i < s.length := by
        have := (List.getElem?_eq_some_iff.mp hx).1
        rwa [vi_len] at this
      have hin : i < Y.n := by rw [← hs.len]; exact hi2
      rw [vi_nth hi2] at hx
      rw [vi_nth (by omega)] at hy
      cases hx; cases hy
      obtain ⟨v1, v2⟩ := hs.val i hin
      rw [hw] at v2
      simp at v2
      have gv := g4 i hin
      have eT : Ex H1 (upd H2 T' (.tup [.int (nth s i), .int (nth sz i)])) := e2.trans (Ex.new nT)
      refine ⟨T', _, rfl, SqT.of upd_same, rfl, _, _, rfl, _, _, rfl, rfl, ?_⟩
      refine ⟨_, rfl, _, rfl, fun H3 e3 => ⟨_, rfl, iteF ?_⟩⟩
      refine ⟨_, rfl, _, _, rfl, rfl, _, rfl, iteN (by omega) ?_⟩
      refine ⟨_, rfl, _, rfl, _, _, rfl, rfl, _, rfl, iteN (by omega) ?_⟩
      exact ⟨eT.trans e3, _, _, rfl⟩
    · rintro σ H2 ⟨e2, x0, y0, rfl⟩
      exact kk H2 (e1.trans e2)
abbrev s_CarefulKin_allowed : Stmt := inClass (topS 30) 1
theorem sc_CarefulKin_allowed : NdefX.NScope ["self", "state", "lamp", "__class__"] ["self", "state", "lamp"] ["__class__"] (defScope s_CarefulKin_allowed) := NdefX.nscope_by (by decide +kernel)
theorem m_allowedC {R : Addr → Prop} (T : KTxt K C) (SM_allowed : FnAtOk (SupM K C D "allowed") P w K mg base 5 ["self", "state", "lamp"] (sp_allowed CH C way)) (M__lit_turned : MethOk P w K mg base C "_lit_turned" 6 ["self", "state", "lamp"] [] (sp_lit CH C way)) (hw : careful way = true)
    (I : SupIs R P K mg D "allowed" "CarefulKin.allowed" s_CarefulKin_allowed ["self", "state", "lamp"]) : FnAtOk R P w K mg base 7 ["self", "state", "lamp"] (sp_allowed CH C way) := by
  have cl := T.cl
  refine I.ok sc_CarefulKin_allowed (fun vs H Q E h => ?_) (fun F f A outer s H vs Q E hF hq hr Z h => ?_)
  · obtain ⟨_, _, _, _, _, rfl, _⟩ := h; rfl
  · obtain ⟨Y, k, t, s, v, rfl, rfl, hk, ht, hs, hv, al, kk⟩ := h
    obtain ⟨F1, F2, F3, F4, F5, F6, F7⟩ := F
    dsimp only at hF hq
    subst hF; subst hq
    refine ⟨_, (pssA_cons (psA_ifnot (peA_supD Z cl SM_allowed (hr.mono (by decide)) (pa_cons (pv 1) (pa_cons (pv 2) pa_nil))) (pss_one (ps_ret pe_bl)) pss_nil)
      (pss_one (ps_ret (pe_cmpR op_isN (pe_methD M__lit_turned cl (hr.mono (by decide)) (pv 0) (pa_cons (pv 1) (pa_cons (pv 2) pa_nil))) pe_non (nomark _))))), ?_⟩
    obtain ⟨dx, fs, h1, h5⟩ := hk.no
    refine ⟨k, dx, fs, rfl, h1, _, rfl, _, rfl, Y, k, t, s, v, rfl, rfl, hk, ht, hs, hv, al, fun H1 e1 => ⟨true, rfl, iteF ?_⟩⟩
    refine ⟨_, rfl, k, dx, fs, rfl, e1 _ _ h1, h5 _ (by decide +kernel), _, rfl, _, rfl, Y, k, t, s, v, rfl, rfl, hk.mono e1, e1 _ _ ht, hs.len, hv, fun hall H2 e2 => ⟨rfl, kk H2 (e1.trans e2)⟩, fun u hu hp => ?_⟩
    exact absurd hp (al.2 hw u hu)
abbrev s_CarefulKin__refuse : Stmt := inClass (topS 30) 2
theorem sc_CarefulKin__refuse : NdefX.NScope ["self", "state", "lamp", "__class__", "lower"] ["self", "state", "lamp"] ["__class__"] (defScope s_CarefulKin__refuse) := NdefX.nscope_by (by decide +kernel)
theorem m_refuseC {R : Addr → Prop} (T : KTxt K C) (SM__refuse : FnAtOk (SupM K C D "_refuse") P w K mg base 1 ["self", "state", "lamp"] (sp_refuse CH C way)) (M__lit_turned : MethOk P w K mg base C "_lit_turned" 6 ["self", "state", "lamp"] [] (sp_lit CH C way)) (hw : careful way = true)
    (I : SupIs R P K mg D "_refuse" "CarefulKin._refuse" s_CarefulKin__refuse ["self", "state", "lamp"]) : FnAtOk R P w K mg base 7 ["self", "state", "lamp"] (sp_refuse CH C way) := by
  have cl := T.cl
  refine I.ok sc_CarefulKin__refuse (fun vs H Q E h => ?_) (fun F f A outer s H vs Q E hF hq hr Z h => ?_)
  · obtain ⟨_, _, _, _, _, rfl, _⟩ := h; rfl
  · obtain ⟨Y, k, t, s, v, rfl, rfl, hk, ht, hs, hv, al, kk⟩ := h
    obtain ⟨F1, F2, F3, F4, F5, F6, F7⟩ := F
    dsimp only at hF hq
    subst hF; subst hq
    refine ⟨_, (pssA_cons (psA_expr (peA_supD Z cl SM__refuse (hr.mono (by decide)) (pa_cons (pv 1) (pa_cons (pv 2) pa_nil))))
      (pss_cons (ps_set (i := 4) sc_CarefulKin__refuse.nd rfl (Or.inl rfl) (pe_methD M__lit_turned cl (hr.mono (by decide)) (pv 0) (pa_cons (pv 1) (pa_cons (pv 2) pa_nil))))
      (pss_one (ps_if (pt_cmpR op_notN (pv 4) pe_non (nomark _))
      pss_never
      pss_nil)))), ?_⟩
    obtain ⟨dx, fs, h1, h5⟩ := hk.no
    refine ⟨k, dx, fs, rfl, h1, _, rfl, _, rfl, Y, k, t, s, v, rfl, rfl, hk, ht, hs, hv, al, fun H1 e1 => ?_⟩
    refine ⟨_, rfl, k, dx, fs, rfl, e1 _ _ h1, h5 _ (by decide +kernel), _, rfl, _, rfl, Y, k, t, s, v, rfl, rfl, hk.mono e1, e1 _ _ ht, hs.len, hv, fun hall H2 e2 => ⟨_, rfl, rfl, _, rfl, kk H2 (e1.trans e2)⟩, fun u hu hp => ?_⟩
    exact absurd hp (al.2 hw u hu)
end
end K57

set_option Elab.async false
set_option linter.all false
set_option maxRecDepth 100000
set_option maxHeartbeats 4000000
namespace K57
open PySem PySem.Spec PyProof.Rows L2 Evl M57
section
variable {P : Program} {w : World} {K : PySem.W.Frag} {mg : Str → Option Value} {base : Heap} {CH C D : Addr}
abbrev s_Kin___init__ : Stmt := inClass (topS 29) 1
theorem sc_Kin___init__ : FnScope ["self", "house"] ["self", "house"] (defScope s_Kin___init__) := ⟨rfl, rfl, rfl, by decide +kernel, rfl, by decide +kernel, by decide +kernel⟩
def sp_kinit (C : Addr) : Sp := fun vs H Q _ => ∃ (k h dx : Addr), vs = [.ref k, .ref h] ∧ H k = some (.ins C dx []) ∧ ∀ H', Ex (hid k H) H' → H' k = some (.ins C dx [("house", .ref h)]) → Q .non H'
theorem m_kinit {R : Addr → Prop} (T : KTxt K C) (I : FnAt R K "__init__" "Kin.__init__" s_Kin___init__ ["self", "house"]) : FnAtOk R P w K mg base 1 ["self", "house"] (sp_kinit C) := by
  refine I.ok sc_Kin___init__ (fun vs H Q E h => ?_) (fun f cdv A outer s H vs Q E hr h => ?_)
  · obtain ⟨_, _, _, rfl, _⟩ := h; rfl
  · obtain ⟨k, h, dx, rfl, hk, kk⟩ := h
    refine ⟨_, (pss_one (ps_fld (pv 0) (pv 1) rfl)), ?_⟩
    refine ⟨_, rfl, _, rfl, k, C, dx, [], rfl, hk, T.cl, T.house, by decide, ?_⟩
    exact kk _ hid_upd upd_same
abbrev s_GainKin___init__ : Stmt := inClass (topS 36) 1
theorem sc_GainKin___init__ : NdefX.NScope ["self", "house", "gain", "__class__"] ["self", "house", "gain"] ["__class__"] (defScope s_GainKin___init__) := NdefX.nscope_by (by decide +kernel)
def sp_ginit (CH C : Addr) : Sp := fun vs H Q _ => ∃ (k h dx : Addr) (g : Int) (n : Nat) (hues : Int) (B D : List (List Nat)) (O : List Nat), vs = [.ref k, .ref h, .int g] ∧ H k = some (.ins C dx []) ∧ Hse CH (hid k H) h n hues B D O ∧ 1 ≤ g ∧ g < hues ∧
  ∀ H', Ex (hid k H) H' → H' k = some (.ins C dx [("house", .ref h), ("gain", .int g)]) → Q .non H'
theorem m_ginit {R : Addr → Prop} (TH : HTxt K CH) (T : KTxt K C) (SM___init__ : FnAtOk (SupM K C D "__init__") P w K mg base 1 ["self", "house"] (sp_kinit C)) (D_is_integer : DefOk P w K mg base "is_integer" 1 ["value"] sp_isint)
    (I : SupIs R P K mg D "__init__" "GainKin.__init__" s_GainKin___init__ ["self", "house", "gain"]) : FnAtOk R P w K mg base 2 ["self", "house", "gain"] (sp_ginit CH C) := by
  have cl := T.cl
  refine I.ok sc_GainKin___init__ (fun vs H Q E h => ?_) (fun F f A outer s H vs Q E hF hq hr Z h => ?_)
  · obtain ⟨_, _, _, _, _, _, _, _, _, rfl, _⟩ := h; rfl
  · obtain ⟨k, h, dx, g, n, hues, B', D', O, rfl, hk, hh, g1, g2, kk⟩ := h
    obtain ⟨F1, F2, F3, F4, F5, F6, F7⟩ := F
    dsimp only at hF hq
    subst hF; subst hq
    refine ⟨_, (pssA_cons (psA_expr (peA_supD Z cl SM___init__ (hr.mono (by decide)) (pa_cons (pv 1) pa_nil)))
      (pss_cons (ps_if (PW.pt (pw_or (pt_not (pt_val (pe_callD D_is_integer (hr.mono (by decide)) (pa_cons (pv 2) pa_nil)))) (pw_or (pt_cmpR op_lt (pv 2) pe_int (nomark _)) (pw_or1 (pt_cmpR op_gt (pv 2) (pe_op op_sub (pe_fld (pv 1) rfl) pe_int) (nomark _))))))
      pss_never
      pss_nil)
      (pss_one (ps_fld (pv 0) (pv 2) rfl)))), ?_⟩
    refine ⟨k, dx, [], rfl, hk, _, rfl, k, h, dx, rfl, hk, fun H1 e1 hk1 => ?_⟩
    refine ⟨_, rfl, _, rfl, fun H2 e2 => ⟨_, rfl, iteF ?_⟩⟩
    have e12 := e1.trans e2
    obtain ⟨dy, gs, a1, a2, a3, a4, rs, ps, q1, q2, q3, q4⟩ := (hh.mono e12).ex
    refine ⟨_, rfl, _, _, rfl, rfl, _, rfl, iteN (by omega) ?_⟩
    refine ⟨_, rfl, _, rfl, h, CH, dy, gs, _, rfl, q1, TH.cl, TH.hues, q3, _, _, rfl, rfl, _, _, rfl, rfl, _, rfl, iteN (by omega) ?_⟩
    refine ⟨_, rfl, _, rfl, k, C, dx, _, rfl, e2 _ _ hk1, T.cl, T.gain, (show 1 < 1000 by decide), ?_⟩
    refine kk _ ?_ upd_same
    exact (exh e12).trans hid_upd
abbrev s_MixedKin___init__ : Stmt := inClass (topS 38) 1
theorem sc_MixedKin___init__ : NdefX.NScope ["self", "house", "sizes", "__class__", "index", "size"] ["self", "house", "sizes"] ["__class__"] (defScope s_MixedKin___init__) := NdefX.nscope_by (by decide +kernel)
def sp_minit (CH C : Addr) : Sp := fun vs H Q _ => ∃ (k h l dx : Addr) (sz : List Int) (n : Nat) (hues : Int) (B D : List (List Nat)) (O : List Nat), vs = [.ref k, .ref h, .ref l] ∧ H k = some (.ins C dx []) ∧ Hse CH (hid k H) h n hues B D O ∧ hid k H l = some (.lst (vi sz)) ∧ sz.length = n ∧ (∀ i, i < n → 2 ≤ nth sz i ∧ nth sz i ≤ 10) ∧
  ∀ p H', Ex (hid k H) H' → H' p = some (.tup (vi sz)) → H' k = some (.ins C dx [("house", .ref h), ("sizes", .ref p)]) → Q .non H'
theorem m_minit {R : Addr → Prop} (B : Bi mg) (TH : HTxt K CH) (T : KTxt K C) (c1 : ∃ t, mg "_LEAST_SIZE" = some (.int 2 t)) (c2 : ∃ t, mg "_MOST_SIZE" = some (.int 10 t)) (SM___init__ : FnAtOk (SupM K C D "__init__") P w K mg base 1 ["self", "house"] (sp_kinit C)) (D_is_integer : DefOk P w K mg base "is_integer" 1 ["value"] sp_isint)
    (I : SupIs R P K mg D "__init__" "MixedKin.__init__" s_MixedKin___init__ ["self", "house", "sizes"]) : FnAtOk R P w K mg base 2 ["self", "house", "sizes"] (sp_minit CH C) := by
  have cl := T.cl
  obtain ⟨t1, G__LEAST_SIZE⟩ := c1
  obtain ⟨t2, G__MOST_SIZE⟩ := c2
  refine I.ok sc_MixedKin___init__ (fun vs H Q E h => ?_) (fun F f A outer s H vs Q E hF hq hr Z h => ?_)
  · obtain ⟨_, _, _, _, _, _, _, _, _, _, rfl, _⟩ := h; rfl
  · obtain ⟨k, h, l, dx, sz, n, hues, B', D', O, rfl, hk, hh, hl, hn, hv, kk⟩ := h
    obtain ⟨F1, F2, F3, F4, F5, F6, F7⟩ := F
    dsimp only at hF hq
    subst hF; subst hq
    refine ⟨_, (pssA_cons (psA_expr (peA_supD Z cl SM___init__ (hr.mono (by decide)) (pa_cons (pv 1) pa_nil)))
      (pss_cons (ps_if (pt_cmpR op_ne (pe_callB call_len (by rfl) B.len PySem.boot_len (pa_cons (pv 2) pa_nil)) (pe_fld (pv 1) rfl) (nomark _))
      pss_never
      pss_nil)
      (pss_cons (ps_for PassesOwn.never rfl (pi_enum rfl B.enumerate (pa_cons (pv 2) pa_nil)) (pg_tup rfl (pgs_cons (pg_name (i := 4) sc_MixedKin___init__.nd rfl (Or.inl rfl)) (pgs_cons (pg_name (i := 5) sc_MixedKin___init__.nd rfl (Or.inl rfl)) pgs_nil)))
      (pss_one (ps_if (PW.pt (pw_or (pt_not (pt_val (pe_callD D_is_integer (hr.mono (by decide)) (pa_cons (pv 5) pa_nil)))) (pw_or (pt_cmpR op_lt (pv 5) (pe_glob (v := .int _) rfl G__LEAST_SIZE ⟨_, rfl⟩) (nomark _)) (pw_or1 (pt_cmpR op_gt (pv 5) (pe_glob (v := .int _) rfl G__MOST_SIZE ⟨_, rfl⟩) (nomark _))))))
        pss_never
        pss_nil)))
      (pss_one (ps_fld (pv 0) (pe_callTy call_tuple_of (by rfl) B.tuple (by decide +kernel) (pa_cons (pv 2) pa_nil)) rfl))))), ?_⟩
    refine ⟨k, dx, [], rfl, hk, _, rfl, k, h, dx, rfl, hk, fun H1 e1 hk1 => ?_⟩
    obtain ⟨dy, gs, a1, a2, a3, a4, rs, ps, q1, q2, q3, q4⟩ := (hh.mono e1).ex
    have hl1 := e1 _ _ hl
    refine ⟨_, rfl, _, _, rfl, .inl ⟨_, SqL.of hl1, rfl⟩, _, rfl, h, CH, dy, gs, _, rfl, q1, TH.cl, TH.count, q2, rfl, _, rfl, ?_⟩
    refine iteNS (by rw [vi_len, hn]) ?_
    refine ⟨_, rfl, l, _, rfl, SqL.of hl1, ?_⟩
    refine for_it (walk_enum (K := K) (a := l) (xs := vi sz)) (fun i σ H' => Ex H1 H' ∧ ∃ x y, σ = [some (.ref k), some (.ref h), some (.ref l), none, x, y]) ⟨Ex.refl _, _, _, rfl⟩ (fun i σ H' _ q => SqL.of (q.1 _ _ hl1)) ?_ ?_
    · rintro i z σ H2 H3 hi ⟨e2, x0, y0, rfl⟩ ⟨T', x, y, rfl, nT, rfl, hx, hy⟩
      rw [vi_len] at hi
      dsimp only at hx hy
      rw [vi_nth hi] at hy
      cases hx; cases hy
      obtain ⟨v1, v2⟩ := hv i (by omega)
      have eT : Ex H1 (upd H2 T' (.tup [.int (i : Nat), .int (nth sz i)])) := e2.trans (Ex.new nT)
      refine ⟨T', _, rfl, SqT.of upd_same, rfl, _, _, rfl, _, _, rfl, rfl, ?_⟩
      refine ⟨_, rfl, _, rfl, fun H3 e3 => ⟨_, rfl, iteF ?_⟩⟩
      refine ⟨_, rfl, _, _, rfl, rfl, _, rfl, iteN (by omega) ?_⟩
      refine ⟨_, rfl, _, _, rfl, rfl, _, rfl, iteN (by omega) ?_⟩
      exact ⟨eT.trans e3, _, _, rfl⟩
    · rintro σ H2 ⟨e2, x0, y0, rfl⟩
      refine ⟨_, rfl, _, _, rfl, .inl ⟨SqL.of (e2 _ _ hl1), fun p np => ?_⟩⟩
      have e3 : Ex H1 (upd H2 p (.tup (vi sz))) := e2.trans (Ex.new np)
      have hk3 := e3 _ _ hk1
      have npk : p ≠ k := fun z => by rw [z, e2 _ _ hk1] at np; cases np
      refine ⟨_, rfl, k, C, dx, _, rfl, hk3, T.cl, T.sizes, (show 1 < 1000 by decide), ?_⟩
      refine kk p _ ((exh (e1.trans e3)).trans hid_upd) (by rw [upd_ne npk]; exact upd_same) upd_same
end
end K57

/-! Plain mathematics of the law, 3: wires, ways downwards, masks, the order. -/
namespace M57
theorem asc_ext : ∀ {l m : List Nat}, l.Pairwise (· < ·) → m.Pairwise (· < ·) → (∀ x, x ∈ l ↔ x ∈ m) → l = m
  | [], [], _, _, _ => rfl
  | [], b :: m, _, _, h => by have := (h b).mpr List.mem_cons_self; simp at this
  | a :: l, [], _, _, h => by have := (h a).mp List.mem_cons_self; simp at this
  | a :: l, b :: m, hl, hm, h => by
    obtain ⟨l1, l2⟩ := List.pairwise_cons.mp hl
    obtain ⟨m1, m2⟩ := List.pairwise_cons.mp hm
    have e : a = b := by
      rcases List.mem_cons.mp ((h a).mp List.mem_cons_self) with q | q
      · exact q
      · rcases List.mem_cons.mp ((h b).mpr List.mem_cons_self) with r | r
        · exact r.symm
        · have := m1 a q; have := l1 b r; omega
    subst e
    congr 1
    refine asc_ext l2 m2 fun x => ⟨fun hx => ?_, fun hx => ?_⟩
    · rcases List.mem_cons.mp ((h x).mp (List.mem_cons_of_mem _ hx)) with q | q
      · have := l1 x hx; omega
      · exact q
    · rcases List.mem_cons.mp ((h x).mpr (List.mem_cons_of_mem _ hx)) with q | q
      · have := m1 x hx; omega
      · exact q
theorem Rows.uniq {n : Nat} {T T' : List (List Nat)} (R : Rows n T) (R' : Rows n T') (h : ∀ u, u < n → ∀ v, v ∈ row T u ↔ v ∈ row T' u) : T = T' := by
  refine List.ext_getElem (by rw [R.len, R'.len]) fun i h1 h2 => ?_
  have hi : i < n := by rw [← R.len]; exact h1
  have e := asc_ext (R.asc i) (R'.asc i) (h i hi)
  unfold row at e
  rwa [List.getD_eq_getElem?_getD, List.getD_eq_getElem?_getD, List.getElem?_eq_getElem h1, List.getElem?_eq_getElem h2] at e
/-- the rows of a relation -/
def rowsOf (n : Nat) (p : Nat → Nat → Bool) : List (List Nat) := (List.range n).map fun u => (List.range n).filter (p u)
theorem row_rowsOf {n : Nat} {p : Nat → Nat → Bool} {u : Nat} (h : u < n) : row (rowsOf n p) u = (List.range n).filter (p u) := by
  unfold row rowsOf
  rw [List.getD_eq_getElem?_getD, List.getElem?_map, List.getElem?_range h]; rfl
theorem row_rowsOf_out {n : Nat} {p : Nat → Nat → Bool} {u : Nat} (h : ¬ u < n) : row (rowsOf n p) u = [] := by
  unfold row rowsOf
  rw [List.getD_eq_getElem?_getD, List.getElem?_eq_none (by rw [List.length_map, List.length_range]; omega)]; rfl
theorem rows_rowsOf {n : Nat} {p : Nat → Nat → Bool} : Rows n (rowsOf n p) := by
  refine ⟨by simp [rowsOf], fun u v hv => ?_, fun u => ?_⟩
  rotate_left
  · by_cases h : u < n
    · rw [row_rowsOf h]; exact List.pairwise_lt_range.filter _
    · rw [row_rowsOf_out h]; exact .nil
  · by_cases h : u < n
    · rw [row_rowsOf h] at hv; exact List.mem_range.mp (List.mem_filter.mp hv).1
    · rw [row_rowsOf_out h] at hv; simp at hv

/-! ### ways downwards -/
inductive Pth (E : List (Nat × Nat)) : Nat → Nat → Prop
  | one {u v : Nat} : (u, v) ∈ E → Pth E u v
  | cons {u w v : Nat} : (u, w) ∈ E → Pth E w v → Pth E u v
theorem Pth.trans {E : List (Nat × Nat)} {u v w : Nat} (a : Pth E u v) (b : Pth E v w) : Pth E u w := by
  induction a with
  | one h => exact .cons h b
  | cons h _ ih => exact .cons h (ih b)
theorem Pth.mono {E F : List (Nat × Nat)} (s : ∀ q, q ∈ E → q ∈ F) {u v : Nat} (a : Pth E u v) : Pth F u v := by
  induction a with
  | one h => exact .one (s _ h)
  | cons h _ ih => exact .cons (s _ h) ih
theorem pth_nil {u v : Nat} : ¬ Pth [] u v := fun h => by cases h with
  | one h => simp at h
  | cons h _ => simp at h
theorem pth_snoc {E : List (Nat × Nat)} {a b u v : Nat} : Pth (E ++ [(a, b)]) u v ↔ Pth E u v ∨ ((u = a ∨ Pth E u a) ∧ (v = b ∨ Pth E b v)) := by
  constructor
  · intro h
    induction h with
    | one h =>
      rcases List.mem_append.mp h with h | h
      · exact .inl (.one h)
      · have := Prod.mk.inj (List.mem_singleton.mp h)
        exact .inr ⟨.inl this.1, .inl this.2⟩
    | cons h _ ih =>
      rcases List.mem_append.mp h with h | h
      · rcases ih with ih | ⟨i1, i2⟩
        · exact .inl (.cons h ih)
        · refine .inr ⟨.inr ?_, i2⟩
          rcases i1 with e | i1
          · rw [← e]; exact .one h
          · exact .cons h i1
      · obtain ⟨rfl, rfl⟩ := Prod.mk.inj (List.mem_singleton.mp h)
        rcases ih with ih | ⟨i1, i2⟩
        · exact .inr ⟨.inl rfl, .inr ih⟩
        · exact .inr ⟨.inl rfl, i2⟩
  · have s : ∀ q, q ∈ E → q ∈ E ++ [(a, b)] := fun q h => List.mem_append_left _ h
    have l : Pth (E ++ [(a, b)]) a b := .one (by simp)
    rintro (h | ⟨h1, h2⟩)
    · exact h.mono s
    · have k : Pth (E ++ [(a, b)]) u b := by
        rcases h1 with rfl | h1
        · exact l
        · exact (h1.mono s).trans l
      rcases h2 with rfl | h2
      · exact k
      · exact k.trans (h2.mono s)
/-- wires that lead downwards, none twice -/
structure Dag (n : Nat) (E : List (Nat × Nat)) : Prop where
  nd : E.Nodup
  lt : ∀ q ∈ E, q.1 < n ∧ q.2 < n
  pos : ∃ pos : Nat → Nat, ∀ q ∈ E, pos q.1 < pos q.2
section
variable {n : Nat} {E F : List (Nat × Nat)}
theorem Dag.perm (d : Dag n E) (h : F.Perm E) : Dag n F :=
  ⟨h.nodup_iff.mpr d.nd, fun q hq => d.lt q (h.mem_iff.mp hq), let ⟨p, hp⟩ := d.pos; ⟨p, fun q hq => hp q (h.mem_iff.mp hq)⟩⟩
theorem pth_pos {pos : Nat → Nat} (h : ∀ q ∈ E, pos q.1 < pos q.2) {u v : Nat} (a : Pth E u v) : pos u < pos v := by
  induction a with
  | one k => exact h _ k
  | cons k _ ih => have := h _ k; simp only at this; omega
theorem Dag.pth_lt (d : Dag n E) {u v : Nat} (a : Pth E u v) : u < n ∧ v < n := by
  induction a with
  | one k => exact d.lt _ k
  | cons k _ ih => exact ⟨(d.lt _ k).1, ih.2⟩
theorem Dag.pre {a : Nat × Nat} {l : List (Nat × Nat)} (d : Dag n (E ++ a :: l)) : Dag n E ∧ a ∉ E ∧ ¬ Pth E a.2 a.1 ∧ a.1 < n ∧ a.2 < n ∧ a.1 ≠ a.2 := by
  have s : ∀ q, q ∈ E → q ∈ E ++ a :: l := fun q h => List.mem_append_left _ h
  have ha : a ∈ E ++ a :: l := by simp
  obtain ⟨pos, hp⟩ := d.pos
  refine ⟨⟨(List.nodup_append.mp d.nd).1, fun q h => d.lt q (s q h), pos, fun q h => hp q (s q h)⟩, fun z => (List.nodup_append.mp d.nd).2.2 a z a List.mem_cons_self rfl, fun z => ?_, (d.lt a ha).1, (d.lt a ha).2, fun z => ?_⟩
  · have := pth_pos (fun q h => hp q (s q h)) z
    have := hp a ha
    omega
  · have := hp a ha
    rw [z] at this; omega
end

/-! ### masks -/
def mat (l : List Nat) (i : Nat) : Nat := l.getD i 0
theorem mat_set {l : List Nat} {i j v : Nat} (h : i < l.length) : mat (l.set i v) j = if j = i then v else mat l j := by
  unfold mat
  rw [List.getD_eq_getElem?_getD, List.getD_eq_getElem?_getD, List.getElem?_set]
  by_cases q : j = i
  · subst q; simp [h]
  · have q' : ¬ i = j := fun z => q z.symm
    simp [q, q']
structure Masks (n : Nat) (R : Nat → Nat → Prop) (m : List Nat) : Prop where
  len : m.length = n
  lt : ∀ i, mat m i < 2 ^ n
  bit : ∀ u v, u < n → ((mat m u).testBit v = true ↔ R u v)
section
variable {n : Nat} {R R' : Nat → Nat → Prop} {m : List Nat}
theorem mat_rep {n i : Nat} : mat (List.replicate n 0) i = 0 := by
  unfold mat
  rw [List.getD_eq_getElem?_getD, List.getElem?_replicate]
  split <;> rfl
theorem Masks.zero : Masks n (fun _ _ => False) (List.replicate n 0) := ⟨by simp, fun i => by rw [mat_rep]; exact Nat.two_pow_pos n, fun u v _ => by rw [mat_rep]; simp⟩
theorem Masks.congr (h : Masks n R m) (e : ∀ u v, u < n → (R u v ↔ R' u v)) : Masks n R' m := ⟨h.len, h.lt, fun u v hu => (h.bit u v hu).trans (e u v hu)⟩
theorem two_pow_lt {a b : Nat} (h : a < b) : 2 ^ a < 2 ^ b := Nat.pow_lt_pow_right (by decide) h
/-- the row a gets a mask more -/
theorem Masks.set_or (h : Masks n R m) {a g : Nat} (ha : a < n) (hg : g < 2 ^ n) : Masks n (fun u v => R u v ∨ (u = a ∧ g.testBit v = true)) (m.set a (mat m a ||| g)) := by
  refine ⟨by rw [List.length_set]; exact h.len, fun i => ?_, fun u v hu => ?_⟩
  · rw [mat_set (by rw [h.len]; exact ha)]
    by_cases q : i = a
    · rw [if_pos q]; exact Nat.or_lt_two_pow (h.lt a) hg
    · rw [if_neg q]; exact h.lt i
  · rw [mat_set (by rw [h.len]; exact ha)]
    by_cases q : u = a
    · subst q
      rw [if_pos rfl, Nat.testBit_or, Bool.or_eq_true, h.bit u v hu]; simp
    · rw [if_neg q, h.bit u v hu]; simp [q]
theorem testBit_pow {a v : Nat} : (2 ^ a).testBit v = true ↔ v = a := by
  rw [Nat.testBit_two_pow]; simp [eq_comm]
end
/-- the lamps of a mask -/
def bitsOf (n m : Nat) : List Nat := (List.range n).filter fun v => m.testBit v
theorem bits_cut {n k m : Nat} (h : m < 2 ^ k) (hk : k ≤ n) : (List.range k).filter (fun v => m.testBit v) = bitsOf n m := by
  unfold bitsOf
  refine asc_ext (List.pairwise_lt_range.filter _) (List.pairwise_lt_range.filter _) fun x => ?_
  simp only [List.mem_filter, List.mem_range]
  refine ⟨fun ⟨a, b⟩ => ⟨by omega, b⟩, fun ⟨a, b⟩ => ⟨?_, b⟩⟩
  refine Classical.byContradiction fun q => ?_
  rw [Nat.testBit_lt_two_pow (Nat.lt_of_lt_of_le h (Nat.pow_le_pow_right (by decide) (by omega)))] at b
  cases b
theorem masks_rows {n : Nat} {R : Nat → Nat → Prop} {m : List Nat} (h : Masks n R m) : Rows n (m.map (bitsOf n)) ∧ ∀ u, u < n → ∀ v, v ∈ row (m.map (bitsOf n)) u ↔ (v < n ∧ R u v) := by
  have e : ∀ u, u < n → row (m.map (bitsOf n)) u = bitsOf n (mat m u) := fun u hu => by
    have hu2 : u < m.length := by rw [h.len]; exact hu
    unfold row mat
    rw [List.getD_eq_getElem?_getD, List.getElem?_map, List.getD_eq_getElem?_getD, List.getElem?_eq_getElem hu2]; rfl
  have e0 : ∀ u, ¬ u < n → row (m.map (bitsOf n)) u = [] := fun u hu => by
    unfold row
    rw [List.getD_eq_getElem?_getD, List.getElem?_eq_none (by rw [List.length_map, h.len]; omega)]; rfl
  refine ⟨⟨by rw [List.length_map, h.len], fun u v hv => ?_, fun u => ?_⟩, fun u hu v => ?_⟩
  rotate_left
  · by_cases q : u < n
    · rw [e u q]; exact List.pairwise_lt_range.filter _
    · rw [e0 u q]; exact .nil
  · rw [e u hu]
    unfold bitsOf
    rw [List.mem_filter, List.mem_range, h.bit u v hu]
  · by_cases q : u < n
    · rw [e u q] at hv; exact List.mem_range.mp (List.mem_filter.mp hv).1
    · rw [e0 u q] at hv; simp at hv
/-- a row within another, told by the mask -/
theorem and_eq_iff {a l : Nat} : a &&& l = a ↔ ∀ v, a.testBit v = true → l.testBit v = true := by
  constructor
  · intro h v hv
    rw [← h, Nat.testBit_and, Bool.and_eq_true] at hv
    exact hv.2
  · intro h
    refine Nat.eq_of_testBit_eq fun v => ?_
    rw [Nat.testBit_and]
    by_cases q : a.testBit v = true
    · rw [q, h v q]; rfl
    · have : a.testBit v = false := by simpa using q
      rw [this]; rfl
/-! ### the order -/
/-- a beginning of an order: downwards from above -/
structure Pre (n : Nat) (E : List (Nat × Nat)) (O : List Nat) : Prop where
  nd : O.Nodup
  lt : ∀ x ∈ O, x < n
  ord : ∀ pre v post, O = pre ++ v :: post → ∀ u, Pth E u v → u ∈ pre
theorem Pre.nil {n : Nat} {E : List (Nat × Nat)} : Pre n E [] := ⟨.nil, fun _ h => by simp at h, fun pre v post h => by simp at h⟩
theorem Pre.snoc {n : Nat} {E : List (Nat × Nat)} {O : List Nat} {x : Nat} (p : Pre n E O) (hx : x < n) (nx : x ∉ O) (h : ∀ u, Pth E u x → u ∈ O) : Pre n E (O ++ [x]) := by
  refine ⟨List.nodup_append.mpr ⟨p.nd, by simp, fun a ha b hb e => ?_⟩, fun y hy => ?_, fun pre v post e u hu => ?_⟩
  · rw [List.mem_singleton.mp hb] at e; exact nx (e ▸ ha)
  · rcases List.mem_append.mp hy with hy | hy
    · exact p.lt y hy
    · rw [List.mem_singleton.mp hy]; exact hx
  · rcases List.append_eq_append_iff.mp e with ⟨as, e1, e2⟩ | ⟨bs, e1, e2⟩
    · cases as with
      | nil =>
        simp at e1 e2
        obtain ⟨rfl, rfl⟩ := e2
        rw [e1]; exact h u hu
      | cons y as => simp at e2
    · cases bs with
      | nil =>
        simp at e1 e2
        obtain ⟨rfl, rfl⟩ := e2
        rw [← e1]; exact h u hu
      | cons y bs =>
        simp at e2
        obtain ⟨rfl, e2⟩ := e2
        exact p.ord pre v bs e1 u hu
/-- a next lamp -/
theorem Pre.next {n : Nat} {E : List (Nat × Nat)} {O : List Nat} (d : Dag n E) (p : Pre n E O) (hl : O.length < n) : ∃ x, x < n ∧ x ∉ O ∧ ∀ u, Pth E u x → u ∈ O := by
  obtain ⟨pos, hp⟩ := d.pos
  have ex : ∃ x, x < n ∧ x ∉ O := by
    refine Classical.byContradiction fun hn => ?_
    have sub : ∀ x ∈ List.range n, x ∈ O := fun x hx => Classical.byContradiction fun z => hn ⟨x, List.mem_range.mp hx, z⟩
    have := (List.nodup_range (n := n)).length_le_of_subset sub
    rw [List.length_range] at this
    omega
  have key : ∀ (k : Nat) (x : Nat), pos x < k → x < n → x ∉ O → ∃ x, x < n ∧ x ∉ O ∧ ∀ u, Pth E u x → u ∈ O := by
    intro k
    induction k with
    | zero => intro x h; omega
    | succ k ih =>
      intro x hk hx nx
      by_cases q : ∀ u, Pth E u x → u ∈ O
      · exact ⟨x, hx, nx, q⟩
      · obtain ⟨u, hu⟩ := Classical.not_forall.mp q
        obtain ⟨h1, h2⟩ := Classical.not_imp.mp hu
        exact ih u (by have := pth_pos hp h1; omega) (d.pth_lt h1).1 h2
  obtain ⟨x, hx, nx⟩ := ex
  exact key _ x (Nat.lt_succ_self _) hx nx
theorem Pre.topo {n : Nat} {E : List (Nat × Nat)} {O : List Nat} {T : List (List Nat)} (p : Pre n E O) (hl : O.length = n) (h : ∀ u, u < n → ∀ v, v ∈ row T u → Pth E u v) : Topo n T O := by
  have mem : ∀ v, v ∈ O ↔ v < n := fun v => by
    refine ⟨p.lt v, fun hv => Classical.byContradiction fun z => ?_⟩
    have nd : (v :: O).Nodup := List.nodup_cons.mpr ⟨z, p.nd⟩
    have := nd.length_le_of_subset (l₂ := List.range n) fun x hx => by
      rcases List.mem_cons.mp hx with rfl | hx
      · exact List.mem_range.mpr hv
      · exact List.mem_range.mpr (p.lt x hx)
    rw [List.length_range, List.length_cons] at this
    omega
  exact ⟨p.nd, mem, fun pre v post e u hu hv => p.ord pre v post e u (h u hu v hv)⟩
end M57

set_option Elab.async false
set_option linter.all false
set_option maxRecDepth 100000
set_option maxHeartbeats 4000000
/-! Own rules: enumerate of a tuple, sorted of a tuple of pairs. -/
namespace PySem
open AutoSeq1 (wpAny_loadPart')
theorem k57_meets_enumT (l : Addr) (items : Array Value) (n : Nat) (dct : Option Addr) (sl : Array (Option Value)) :
    Meets (Builtin.«enumerate.__new__» ⟨[.type "enumerate", .ref l], []⟩) (fun _ R s => s.heap.get? l = some { cls := .type "tuple", dict := dct, data := .seq items n, slots := sl } ∧
      R (.ok (.ret (.ref (s.heap.push { cls := .type "tuple_iterator", data := .fields #[.ref l, .int 0 0] }).objs.size)))
        { s with heap := (s.heap.push { cls := .type "tuple_iterator", data := .fields #[.ref l, .int 0 0] }).push { cls := .type "enumerate", data := .fields #[.none, .bool false, .ref s.heap.objs.size, rawInt 0, .none, .none] } }) :=
  .of_wp fun prog w A R s h => by
    obtain ⟨hp, g, d, tk, os⟩ := s; obtain ⟨hl, h⟩ := h
    have hsub := sub_enumerate
    have hL : Heap.IsTuple (Shared.heap ⟨hp, g, d, tk, os⟩) l items := ⟨_, hl, rfl, n, rfl⟩
    wp_walk using wpAny_loadPart' hl
    refine wpAny_stack_any fun st => wpAny_pure ?_
    split
    · rename_i c _ _ _ _ _
      cases (c == Value.type "enumerate")
      · wp_walk using wpAny_loadPart' hl, wpAny_pyIter_tuple hL
        exact ⟨_, rfl, h⟩
      · wp_walk using wpAny_loadPart' hl, wpAny_pyIter_tuple hL
        exact ⟨_, rfl, h⟩
    · wp_walk using wpAny_loadPart' hl, wpAny_pyIter_tuple hL
      exact ⟨_, rfl, h⟩
section
variable {prog : Program} {w : World} {A : Around} {E : Value → Shared → Prop} {s : Shared}
theorem k57_call_enumT {l : Addr} {items : Array Value} {Q : Value → Shared → Prop} (hL : s.heap.IsTuple l items)
    (h : ∀ h', IsEnum h' (s.heap.objs.size + 1) s.heap.objs.size 0 .none → h'.IsTupleIter s.heap.objs.size l 0 → h'.objs.size = s.heap.objs.size + 2 →
      (∀ b o, s.heap.get? b = some o → h'.get? b = some o) → Q (.ref (s.heap.objs.size + 1)) { s with heap := h' }) :
    wpAny (model prog w) A (call (.type "enumerate") [.ref l]) Q E s := by
  obtain ⟨⟨c, dct, dt, sl⟩, hl, hc, n, hd⟩ := hL
  replace hc : c = .type "tuple" := hc
  replace hd : dt = .seq items n := hd
  subst hc hd
  refine callType_new F.called_enumerate (by decide) (F.typeCall_enumerate_1 _) (F.newCall_enumerate_1 _) (fun obj => F.args_object_init_2 obj _) F.entry_enumerate_new
    (k57_meets_enumT l items n dct sl) ⟨hl, ?_⟩
  have hz : (s.heap.push { cls := .type "tuple_iterator", data := .fields #[.ref l, .int 0 0] }).objs.size = s.heap.objs.size + 1 := Heap.size_push ..
  show _ ∧ _
  rw [hz]
  have he : IsEnum ((s.heap.push { cls := .type "tuple_iterator", data := .fields #[.ref l, .int 0 0] }).push
      { cls := .type "enumerate", data := .fields #[.none, .bool false, .ref s.heap.objs.size, rawInt 0, .none, .none] }) (s.heap.objs.size + 1) s.heap.objs.size 0 .none := by
    have := Heap.get?_push_size (s.heap.push { cls := .type "tuple_iterator", data := .fields #[.ref l, .int 0 0] })
      (o := { cls := .type "enumerate", data := .fields #[.none, .bool false, .ref s.heap.objs.size, rawInt 0, .none, .none] }) rfl
    rw [hz] at this; exact this
  refine ⟨⟨_, he, rfl⟩, h _ he ⟨_, Heap.get?_push_of_some _ (Heap.get?_push_size _ rfl), rfl, rfl⟩ (by rw [Heap.size_push, hz]) fun b o x => Heap.get?_push_of_some _ (Heap.get?_push_of_some _ x)⟩
/-- a tuple's iterator as a source of draws -/
theorem k57_draws (hh : A.handled = none) (it t : Addr) (hne : t ≠ it) (items : Array Value) :
    Draws prog w A it [it, t] items.size (fun i v => items[i]? = some v) (fun i h => h.IsTupleIter it t i ∧ h.IsTuple t items) where
  live := fun i h st => let ⟨o, ho, _⟩ := st.1; ⟨o, ho⟩
  frame := fun i h h' st k => by
    obtain ⟨⟨o, ho, r⟩, ⟨o2, ho2, r2⟩⟩ := st
    exact ⟨⟨o, k it (by simp) o ho, r⟩, ⟨o2, k t (by simp) o2 ho2, r2⟩⟩
  item := fun i s Q E hi st hQ => by
    have hx : items[i]? = some items[i] := by simp [hi]
    refine wpAny_nextOf_tuple_item st.1 st.2 hx fun h' h1 h2 => ?_
    exact hQ _ h' s.toks hx ⟨h1, st.2.extBut h2.extBut hne⟩ h2
  done := fun s Q E st hE => by
    refine wpAny_nextOf_tuple_end hh st.1 st.2 (by simp) fun h' e h1 h2 => hE h' e h1 h2
/-- .. at its end -/
theorem k57_drawsEnd (hh : A.handled = none) (it t : Addr) (hne : t ≠ it) (items : Array Value) (n : Nat) (hn : items.size ≤ n) :
    Draws prog w A it [it, t] n (fun _ _ => False) (fun i h => i = n ∧ h.IsTupleIter it t n ∧ h.IsTuple t items) where
  live := fun i h st => let ⟨o, ho, _⟩ := st.2.1; ⟨o, ho⟩
  frame := fun i h h' st k => by
    obtain ⟨e, ⟨o, ho, r⟩, ⟨o2, ho2, r2⟩⟩ := st
    exact ⟨e, ⟨o, k it (by simp) o ho, r⟩, ⟨o2, k t (by simp) o2 ho2, r2⟩⟩
  item := fun i s Q E hi st hQ => by
    have := st.1
    omega
  done := fun s Q E st hE => by
    refine wpAny_nextOf_tuple_end hh st.2.1 st.2.2 (by simp; omega) fun h' e h1 h2 => hE h' e h1 h2
end
end PySem
namespace L2
open PySem PySem.Spec PyProof.Rows
/-- the tuple at a, each item in a new pair -/
def IteT (K : PySem.W.Frag) (a : Addr) : It :=
  ⟨fun i H => ∃ (xs : List V) (x : V), SqT K H a xs ∧ xs[i]? = some x, fun i H v H' => ∃ T x, v = .ref T ∧ H T = none ∧ H' = upd H T (.tup [.int (i : Nat), x]) ∧ ∀ xs, SqT K H a xs → xs[i]? = some x, fun i H => ∃ xs : List V, SqT K H a xs ∧ xs.length ≤ i⟩
theorem turn_enumT {P : Program} {w : World} {K : PySem.W.Frag} {elts : List Expr} {kk : Nat} {tpos : Pos} (a e it : Addr) :
    Turn P w K (.Tuple elts kk tpos) (IteT K a) [e, it] e (fun i h => (∃ old, IsEnum h e it ((i : Nat) : Int) old) ∧ h.IsTupleIter it a i ∧ e ≠ it ∧ a ≠ it ∧ a ≠ e) where
  mem := by simp
  obj := fun i h st b hb => by
    obtain ⟨⟨old, he⟩, ⟨o, ho, hc, hd⟩, _⟩ := st
    have e' : b = e ∨ b = it := by simpa using hb
    rcases e' with z | z
    · rw [z]; exact ⟨_, he, fun v q => nomatch q⟩
    · rw [z]; exact ⟨o, ho, fun v q => by rw [hd] at q; cases q⟩
  keep := fun i h h' st k => let ⟨⟨old, he⟩, hi, hne⟩ := st; ⟨⟨old, k e (by simp) _ he⟩, hi.at fun o q => k it (by simp) o q, hne⟩
  item := by
    intro X hP hw hK hc i pins s σ H E I hf st hg
    subst hP hw hK
    obtain ⟨⟨old, he⟩, hit, hne, hai, hae⟩ := st
    obtain ⟨xs, x, hq, hx⟩ := hg
    obtain ⟨its, rv, p, hz⟩ := I.tuple hq
    obtain ⟨u, hu, ru⟩ := rv.get hx
    have hel : e < s.heap.objs.size := Heap.lt_size he
    have hil : it < s.heap.objs.size := by obtain ⟨_, q, _⟩ := hit; exact Heap.lt_size q
    have D := k57_draws (prog := X.prog) (w := X.w) (A := X.A.in1) (I.ok.hd hc) it a hai its.toArray
    have hi : i < its.toArray.size := by
      have := (List.getElem?_eq_some_iff.mp hu).1
      simpa using this
    refine wpAny_pyNext_enum_itemD D he ⟨hit, p⟩ hi hne (by simp [hne, hae.symm]) fun x' h' tk hx' ho hst' hT hsz hk => ?_
    have ex : x' = u := by
      have h1 : its.toArray[i]? = some u := by simpa using hu
      exact Option.some.inj (hx'.symm.trans h1)
    subst ex
    refine ⟨_, rfl, wpAny_letOwnedTupleGo_enum (s := { s with heap := h', toks := tk + 1 }) ho fun h'' he' sb => ?_⟩
    have hT2 : h''.get? s.heap.objs.size = some { cls := .type "tuple", data := .seq #[.int i tk, x'] } := (sb.2 _ (Nat.ne_of_gt hel)).trans hT
    have new : ObjOk X.prog X.w (upd H s.heap.objs.size (.tup [.int (i : Nat), x])) h'' s.heap.objs.size (.tup [.int (i : Nat), x]) :=
      ⟨by show 2 ≤ sizeLine; decide, [.int i tk, x'], .cons ⟨_, rfl⟩ (.cons ru .nil), ⟨_, hT2, rfl, _, rfl⟩⟩
    have I1 : Inv X pins σ (upd H s.heap.objs.size (.tup [.int (i : Nat), x])) { s with heap := h'', toks := tk + 1 } :=
      I.turnedNew (ch := [e, it]) (fun b ob hb q => (sb.2 b (fun z => hb (by simp [z]))).trans (hk b ob (fun z => hb (by simp [z])) (fun z => hb (by simp [z])) q)) hf (Nat.le_refl _) new
    refine ⟨.ref s.heap.objs.size, _, I1, rfl, ⟨_, x, rfl, I.hok.fresh (Nat.le_refl _), rfl, fun ys hy => by rw [I.tuple_inj hy hq]; exact hx⟩, ⟨⟨x', ?_⟩, hst'.1.at fun o q => (sb.2 it (Ne.symm hne)).trans q, hne, hai, hae⟩, fun b hb => ?_⟩
    · have e1 : ((i + 1 : Nat) : Int) = (i : Int) + 1 := by omega
      rw [e1]; exact he'
    · have hb' : b < s.heap.objs.size := by
        have e' : b = e ∨ b = it := by simpa using hb
        rcases e' with z | z
        · rw [z]; exact hel
        · rw [z]; exact hil
      rw [upd_ne (Nat.ne_of_lt hb')]
      exact (hf b hb).1
  done := by
    intro X hP hw hK hc i pins s σ H E I hf st hg
    subst hP hw hK
    obtain ⟨⟨old, he⟩, hit, hne, hai, hae⟩ := st
    obtain ⟨xs, hq, hx⟩ := hg
    obtain ⟨its, rv, p, hz⟩ := I.tuple hq
    obtain ⟨f0, f1, f2, f3, f4, f5⟩ := hf it (by simp)
    have hl := rv.length
    exact wpAny_pyNext_enum_endD (k57_drawsEnd (prog := X.prog) (w := X.w) (A := X.A.in1) (I.ok.hd hc) it a hai its.toArray i (by simp; omega)) he ⟨rfl, hit, p⟩ fun h' eb => ⟨rfl, I.turned (t' := s.toks) (fun b o hb q => eb b o hb q) f0 f1 f3 f4 f5⟩
  self := fun A i s Q E st h => let ⟨⟨_, he⟩, _⟩ := st; wpAny_pyIter_enum he h
def iEnumT (K : PySem.W.Frag) (ta : TA) : TI := fun σ H R => ta σ H fun vs H1 => ∃ a xs, vs = [.ref a] ∧ SqT K H1 a xs ∧ R (IteT K a) H1
theorem pi_enumT {X : Cx} {e : Expr} {ta : TA} {p pos tpos : Pos} {elts : List Expr} {kk : Nat} (hg : Gl X "enumerate") (hm : X.mg "enumerate" = none) (ha : PA X [e] ta) (hs : starEach [e] X.env = [(false, eval e X.env)] := by rfl) :
    PI X (.Tuple elts kk tpos) (.Call (.Name "enumerate" p) [e] [] pos) (iEnumT X.K ta) := by
  refine ⟨fun pins s σ H R I h => ?_⟩
  refine Call_ (ld_blt I hg hm boot_enumerate (PyProof.Rows.callWith_type1 (thn (ha.run pos pins s σ H _ I h) fun us s1 ⟨vs, H1, I1, r1, q1⟩ => ?_) hs rfl))
  obtain ⟨a, xs, ex, hq, q⟩ := q1
  subst ex
  cases r1 with
  | cons r rr =>
    cases rr
    cases r
    obtain ⟨its, rv, p', hz⟩ := I1.tuple hq
    have hal : a < s1.heap.objs.size := p'.lt
    refine k57_call_enumT (show s1.heap.IsTuple a its.toArray from p') fun h' he hit hsz hk => wpAny_pyIter_enum he ?_
    have I2 : Inv X pins σ H1 { s1 with heap := h' } := I1.kept (t' := s1.toks) hk
    refine ⟨s1.heap.objs.size + 1, [s1.heap.objs.size + 1, s1.heap.objs.size], _, _, H1, rfl, I2, turn_enumT a (s1.heap.objs.size + 1) s1.heap.objs.size, ⟨⟨.none, he⟩, hit, Nat.succ_ne_self _, Nat.ne_of_lt hal, Nat.ne_of_lt (Nat.lt_succ_of_lt hal)⟩, fun b hb => ?_, q⟩
    have e' : b = s1.heap.objs.size + 1 ∨ b = s1.heap.objs.size := by simpa using hb
    have hle : s1.heap.objs.size ≤ b := by
      rcases e' with z | z
      · rw [z]; exact Nat.le_add_right _ _
      · rw [z]; exact Nat.le_refl _
    exact I1.fpOk hle (I1.hok.fresh hle)
/-- the loop over enumerate(t) -/
theorem for_enumT {K : PySem.W.Frag} {a : Addr} {xs : List V} {g : TG} {tb : TS} {D : Ends} {σ : L2.St} {H : Hp} (Pv : Nat → L2.St → Hp → Prop) (h0 : Pv 0 σ H) (hl : ∀ i σ H, i ≤ xs.length → Pv i σ H → SqT K H a xs)
    (hs : ∀ i x T σ H, xs[i]? = some x → Pv i σ H → H T = none → g (.ref T) σ (upd H T (.tup [.int (i : Nat), x])) fun σ2 H2 => tb { D with nx := Pv (i + 1), ct := Pv (i + 1), bk := D.nx } σ2 H2) (hd : ∀ σ H, Pv xs.length σ H → D.nx σ H) :
    ∃ W : Nat → Nat → L2.St → Hp → Prop, (∃ m, W 0 m σ H) ∧ ∀ i m σ H, W i m σ H → ((IteT K a).stop i H ∧ D.nx σ H) ∨ ((IteT K a).go i H ∧ ∃ N : L2.St → Hp → Prop, (∀ σ' H', N σ' H' → ∃ m', m' < m ∧ W (i + 1) m' σ' H') ∧
      ∀ x H', (IteT K a).yld i H x H' → g x σ H' fun σ2 H2 => tb { D with nx := N, ct := N, bk := D.nx } σ2 H2) := by
  refine ⟨fun i m σ H => i ≤ xs.length ∧ m = xs.length - i ∧ Pv i σ H, ⟨xs.length, Nat.zero_le _, rfl, h0⟩, fun i m σ H hw => ?_⟩
  obtain ⟨hi, hm, hp⟩ := hw
  by_cases e : i = xs.length
  · subst e
    exact .inl ⟨⟨xs, hl _ _ _ (Nat.le_refl _) hp, Nat.le_refl _⟩, hd _ _ hp⟩
  · have hi2 : i < xs.length := by omega
    have hx : xs[i]? = some xs[i] := List.getElem?_eq_getElem hi2
    refine .inr ⟨⟨xs, _, hl _ _ _ hi hp, hx⟩, Pv (i + 1), fun σ' H' q => ⟨xs.length - (i + 1), by omega, by omega, rfl, q⟩, fun v H' y => ?_⟩
    obtain ⟨T, x, rfl, nT, rfl, hy⟩ := y
    exact hs i x T σ H (hy xs (hl _ _ _ hi hp)) hp nT

end L2

set_option Elab.async false
set_option linter.all false
set_option maxRecDepth 100000
set_option maxHeartbeats 4000000
/-! Own rule: sorted of a tuple of pairs of ints. -/
namespace L2
open PySem PySem.Spec PyProof.Rows Srt SrtO
/-- sorted(t), t a tuple of pairs of ints -/
def rSortedPT (K : PySem.W.Frag) : List V → Hp → VK → Prop := fun vs H Q => ∃ (a : Addr) (xs : List V) (k : V → Int × Int), vs = [V.ref a] ∧ SqT K H a xs ∧ (∀ x ∈ xs, ∃ t, x = V.ref t ∧ H t = some (.tup [.int (k x).1, .int (k x).2])) ∧
  ∀ ys p, SrtO.Srtd (ltP k) ys → SrtO.Stb (ltP k) ys xs → H p = none → Q (.ref p) (upd H p (.lst ys))
section
variable {prog : Program} {w : World} {A : Around} {E : Value → Shared → Prop} {s : Shared}
theorem k57_collectT {l : Addr} {vs : List Value} {Q : List Value → Shared → Prop} (hl : IsTup s.heap l vs.toArray)
    (h : Q vs { s with heap := (s.heap.push (seqObj "list" #[] 0)).update s.heap.objs.size (Obj.mapSeq (· ++ vs.toArray)) }) (hsz : vs.length ≤ sizeLine) :
    wpAny (model prog w) A (collect (.ref l)) Q E s := by
  obtain ⟨o, ho, hc, n, hd⟩ := id hl
  unfold collect
  refine wpAny_bind (wpAny_runValue (codeAny_builtin entry_proto_collect' ?_))
  show wpAny _ _ (do again (.builtin "list.__iadd__" ⟨[← newList [], .ref l], []⟩)) _ _ s
  refine wpAny_bind (wpAny_newList (wpAny_pure ⟨Code.quiet_builtin _ (by decide +kernel), codeAny_builtin entry_list_iadd' ?_⟩))
  show wpAny _ _ (Builtin.List.listExtendWith (.ref s.heap.objs.size) (.ref l) (.ref s.heap.objs.size)) _ _ { s with heap := s.heap.push (seqObj "list" #[] 0) }
  unfold Builtin.List.listExtendWith
  have ho' : (s.heap.push (seqObj "list" #[] 0)).get? l = some o := Heap.get?_push_of_some _ ho
  refine wpAny_bind (wpAny_typeOf (T := "tuple") ⟨o, ho', hc⟩ ?_)
  have ht : (Value.type "tuple" == Value.type "tuple") = true := by rfl
  rw [if_pos (by rw [ht]; simp)]
  refine wpAny_bind (listItems_at ho' hd ?_)
  refine wpAny_bind (listItems_at (xs := #[]) (n := 0) (Heap.get?_push_size _ rfl) rfl ?_)
  rw [if_neg (by simp)]
  refine wpAny_bind (listUpdate_at (xs := #[]) (n := 0) (Heap.get?_push_size _ rfl) rfl ?_ (Nat.zero_le _) (by show (#[] ++ vs.toArray).size ≤ sizeLine + 1; simp only [Array.size_append, List.size_toArray, List.length_nil]; omega))
  refine wpAny_pure ?_
  show wpAny (model prog w) A (do
      let o ← load s.heap.objs.size
      match o.data with
      | .seq xs _ => pure xs.toList
      | _ => unsupported "internal:collect") Q E { s with heap := (s.heap.push (seqObj "list" #[] 0)).update s.heap.objs.size (Obj.mapSeq (· ++ vs.toArray)) }
  refine wpAny_bind (wpAny_load (get?_update_seq (Heap.get?_push_size _ rfl) _) ?_)
  show wpAny _ _ (pure ((#[] : Array Value) ++ vs.toArray).toList) Q E _
  have e : ((#[] : Array Value) ++ vs.toArray).toList = vs := by simp
  rw [e]
  exact wpAny_pure h
theorem k57_sortedOrd {l : Addr} {vs : List Value} {ltv : Value → Value → Bool} {Q : Value → Shared → Prop} (O : Swo ltv) (hl : IsTup s.heap l vs.toArray) (hz : vs.length ≤ sizeLine)
    (hS : 2 ≤ vs.length → ∀ (h₁ : Heap) (a : Addr), h₁.get? a = some (seqObj "list" vs.toArray 0) → (∀ b o, s.heap.get? b = some o → b ≠ a ∧ h₁.get? b = some o) → SortableO prog w A.in1.in1 { s with heap := h₁ } a vs ltv)
    (h : ∀ out : List Value, Srtd ltv out → Stb ltv out vs → Q (.ref (s.heap.objs.size + 1)) { s with heap := sortedAll s.heap vs out.toArray }) :
    wpAny (model prog w) A (call (.builtin "sorted") [.ref l]) Q E s := by
  refine Calls.call_function_entry kind_sorted plain_sorted entry_sorted (args_sorted1 _) ?_
  unfold Builtin.«sorted»
  refine wpAny_bind (m := checkCount "sorted" 1 1 _) (wpAny_pure ?_)
  refine wpAny_bind (k57_collectT hl ?_ hz)
  refine wpAny_bind (wpAny_newList ?_ hz)
  have hsz : ((s.heap.push (seqObj "list" #[] 0)).update s.heap.objs.size (Obj.mapSeq (· ++ vs.toArray))).objs.size = s.heap.objs.size + 1 := by
    rw [Heap.size_update, size_push']
  have hoL : (((s.heap.push (seqObj "list" #[] 0)).update s.heap.objs.size (Obj.mapSeq (· ++ vs.toArray))).push (seqObj "list" vs.toArray 0)).get? (s.heap.objs.size + 1) = some (seqObj "list" vs.toArray 0) := by
    rw [← hsz]; exact Heap.get?_push_size _ rfl
  have keep : ∀ b o, s.heap.get? b = some o → b ≠ s.heap.objs.size + 1 ∧ (((s.heap.push (seqObj "list" #[] 0)).update s.heap.objs.size (Obj.mapSeq (· ++ vs.toArray))).push (seqObj "list" vs.toArray 0)).get? b = some o := fun b o q => by
    have hlt : b < s.heap.objs.size := Heap.lt_size q
    refine ⟨Nat.ne_of_lt (Nat.lt_succ_of_lt hlt), Heap.get?_push_of_some _ ?_⟩
    rw [Heap.get?_update_ne _ _ _ _ (Nat.ne_of_lt hlt)]
    exact Heap.get?_push_of_some _ q
  show wpAny _ _ _ _ _ { s with heap := ((s.heap.push (seqObj "list" #[] 0)).update s.heap.objs.size (Obj.mapSeq (· ++ vs.toArray))).push (seqObj "list" vs.toArray 0) }
  rw [hsz]
  refine wpAny_bind (wpAny_holding (wpAny_call_entry slot_list_sort ⟨_, hoL, rfl⟩ entry_list_sort (list_sort_ord O hoL hz (fun h2 => hS h2 _ _ hoL keep) fun out hs hb => ⟨_, rfl, ?_⟩) (args_list_sort _)))
  exact wpAny_pure ⟨_, rfl, h out hs hb⟩
theorem k57_sortedPairs {l : Addr} {vs : List Value} {k : Value → Int × Int} {Q : Value → Shared → Prop} (hl : IsTup s.heap l vs.toArray) (hz : vs.length ≤ sizeLine) (hp : ∀ v ∈ vs, IsPair s.heap v (k v).1 (k v).2)
    (h : ∀ (h' : Heap) (d : Addr) (out : List Value), Srtd (fun v u => lexB (k v) (k u)) out → Stb (fun v u => lexB (k v) (k u)) out vs → (∀ b o, s.heap.get? b = some o → h'.get? b = some o) → s.heap.objs.size ≤ d → (∃ n, h'.get? d = some (seqObj "list" out.toArray n)) → Q (.ref d) { s with heap := h' }) :
    wpAny (model prog w) A (call (.builtin "sorted") [.ref l]) Q E s := by
  refine k57_sortedOrd (swo_lex k) hl hz (fun h2 h₁ a ha kk => ?_) fun out hs hb => ?_
  · refine pairs_sortableO (s := { s with heap := h₁ }) (by omega) (fun v hm => (hp v hm).keeps fun b o e _ => (kk b o e).2) fun o e => ?_
    have e' : some o = some (seqObj "list" vs.toArray 0) := e.symm.trans ha
    cases e'
    intro c
    exact absurd (Value.type.inj c) (by decide)
  · exact h _ _ out hs hb (fun b o e => sortedAll_old e) (Nat.le_succ _) (sortedAll_at s.heap vs out.toArray)
end
section
variable {X : Cx}
theorem cr_sortedPT : CallR X (.builtin "sorted") (rSortedPT X.K) := by
  intro pins s σ H vs us Q I r h
  obtain ⟨a, xs, k, rfl, hs, hx, q⟩ := h
  obtain ⟨its, rv, hl, hz⟩ := I.tuple hs
  obtain ⟨u, rfl, ru⟩ := vals1 r
  obtain rfl : u = Value.ref a := ru
  obtain ⟨e1, e2⟩ := refs_back rv fun x m => by
    obtain ⟨t, e, _⟩ := hx x m
    exact ⟨t, e⟩
  refine k57_sortedPairs (k := fun u => k (backV u)) hl (by rw [← rv.length]; exact hz) (fun v hv => ?_) fun h' d out h1 h2 kp hd hn => ?_
  · obtain ⟨t, rfl⟩ := e2 v hv
    have hm : V.ref t ∈ xs := by rw [e1]; exact List.mem_map.mpr ⟨_, hv, rfl⟩
    obtain ⟨t', e, ht⟩ := hx _ hm
    cases e
    obtain ⟨_, its2, r2, o, ho, hc, n, hd⟩ := I.hok _ _ ht
    obtain ⟨u1, u2, rfl, ri, rj⟩ := vals2 r2
    obtain ⟨t1, rfl⟩ := ri
    obtain ⟨t2, rfl⟩ := rj
    exact ⟨t, o, t1, t2, n, rfl, ho, hc, hd⟩
  · have h3 : ∀ u ∈ out, ∃ a, u = Value.ref a := fun u hu => e2 u (h2.perm.mem_iff.mp hu)
    obtain ⟨n, hn⟩ := hn
    have hb : SrtO.Stb (ltP k) (out.map backV) xs := by
      rw [e1]
      exact SrtO.Stb.map (ltP_swo k) backV h2
    refine ⟨.ref d, upd H d (.lst (out.map backV)), I.laid (t' := s.toks) kp hd ⟨?_, out, n, vals_back h3, hn⟩, rfl, q _ d (SrtO.srtd_map h1) hb (I.hok.fresh hd)⟩
    rw [hb.len]
    exact hz
end
end L2

set_option Elab.async false
set_option linter.all false
set_option maxRecDepth 100000
set_option maxHeartbeats 4000000
namespace K57
open PySem PySem.Spec PyProof.Rows L2 Evl M57
/-! ### a list or a tuple, told by b -/
def SqB (b : Bool) (K : PySem.W.Frag) (H : Hp) (a : Addr) (xs : List V) : Prop := if b = true then SqL K H a xs else SqT K H a xs
theorem SqB.mono {b : Bool} {K : PySem.W.Frag} {H H' : Hp} {a : Addr} {xs : List V} (e : Ex H H') (h : SqB b K H a xs) : SqB b K H' a xs := by
  cases b
  · exact ex_t e h
  · exact ex_l e h
def IteX (b : Bool) (K : PySem.W.Frag) (a : Addr) : It := if b = true then Ite K a else IteT K a
def iEnumX (b : Bool) (K : PySem.W.Frag) (ta : TA) : TI := fun σ H R => ta σ H fun vs H1 => ∃ a xs, vs = [.ref a] ∧ SqB b K H1 a xs ∧ R (IteX b K a) H1
theorem pi_enumX (b : Bool) {X : Cx} {e : Expr} {ta : TA} {p pos tpos : Pos} {elts : List Expr} {kk : Nat} (hg : Gl X "enumerate") (hm : X.mg "enumerate" = none) (ha : PA X [e] ta) (hs : starEach [e] X.env = [(false, eval e X.env)] := by rfl) :
    PI X (.Tuple elts kk tpos) (.Call (.Name "enumerate" p) [e] [] pos) (iEnumX b X.K ta) := by
  cases b
  · exact pi_enumT hg hm ha hs
  · exact pi_enum hg hm ha hs
theorem walk_enumT {K : PySem.W.Frag} {a : Addr} {xs : List V} : Walk (IteT K a) xs.length (fun H => SqT K H a xs) (YPair (fun i => some (.int (i : Nat))) (fun i => xs[i]?)) := by
  refine ⟨fun i _ hi q => ⟨xs, xs[i], q, by simp [hi]⟩, fun _ q => ⟨xs, q, Nat.le_refl _⟩, fun i H v H' _ q y => ?_⟩
  obtain ⟨T, x, h1, h2, h3, h4⟩ := y
  exact ⟨T, .int (i : Nat), x, h1, h2, h3, rfl, h4 xs q⟩
theorem walk_enumX {b : Bool} {K : PySem.W.Frag} {a : Addr} {xs : List V} : Walk (IteX b K a) xs.length (fun H => SqB b K H a xs) (YPair (fun i => some (.int (i : Nat))) (fun i => xs[i]?)) := by
  cases b
  · exact walk_enumT
  · exact walk_enum
def rSortedX (b : Bool) (K : PySem.W.Frag) : List V → Hp → VK → Prop := if b = true then rSortedPO K else rSortedPT K
theorem cr_sortedX (b : Bool) {X : Cx} : CallR X (.builtin "sorted") (rSortedX b X.K) := by
  cases b
  · exact cr_sortedPT
  · exact cr_sortedPO
/-! ### masks -/
def rShr : R2 := fun x y H Q => ∃ (i : Int) (k : Nat), x = .int i ∧ y = .int (k : Int) ∧ Q (.int (i / 2 ^ k)) H
def rPow : R2 := fun x y H Q => ∃ k : Nat, x = .int 1 ∧ y = .int (k : Int) ∧ k ≤ 134217727 ∧ Q (.int (2 ^ k)) H
theorem bit1 {m k : Nat} : Builtin.bitAnd ((m : Int) / 2 ^ k) 1 = if m.testBit k then 1 else 0 := by
  have e : ((m : Int) / 2 ^ k) = ((m / 2 ^ k : Nat) : Int) := by
    rw [Int.natCast_ediv]; norm_cast
  rw [e, bitAnd_pp (Int.natCast_nonneg _) (by decide), Int.toNat_natCast]
  show (((m / 2 ^ k) &&& 1 : Nat) : Int) = _
  rw [Nat.and_one_is_mod]
  have t := Nat.testBit_eq_decide_div_mod_eq (x := m) (i := k)
  by_cases q : m / 2 ^ k % 2 = 1
  · rw [q] at t ⊢; rw [t]; rfl
  · have q0 : m / 2 ^ k % 2 = 0 := by omega
    rw [q0] at t ⊢; rw [t]; rfl
section
variable {K : PySem.W.Frag} {σ : L2.St} {H : Hp} {ta tb te : TE} {m k a g : Nat}
theorem rv_shr {i : Int} : RV rShr (.int i) (.int (k : Int)) H (.int (i / 2 ^ k)) := fun H1 _ _ q => ⟨_, _, rfl, rfl, q H1 (Ex.refl H1)⟩
theorem ev_bit (h1 : Ev ta σ H (.int (m : Int))) (h2 : Ev tb σ H (.int (k : Int))) : Ev (tOp (rI0 fun i j => .int (Builtin.bitAnd i j)) (tOp rShr ta tb) (tC (.int 1))) σ H (.int (if m.testBit k then 1 else 0)) := by
  have h := ev_op (z := .int (Builtin.bitAnd ((m : Int) / 2 ^ k) 1)) (ev_op h1 h2 rv_shr) (ev_c (v := .int 1)) (rv_I0 (g := fun i j => .int (Builtin.bitAnd i j)))
  rwa [bit1] at h
theorem et_bit (h1 : Ev ta σ H (.int (m : Int))) (h2 : Ev tb σ H (.int (k : Int))) : EvT (tTest (tOp rEq (tOp (rI0 fun i j => .int (Builtin.bitAnd i j)) (tOp rShr ta tb) (tC (.int 1))) (tC (.int 1)))) σ H (m.testBit k) := by
  refine et_test (ev_is (ev_op (ev_bit h1 h2) ev_c (rv_eq rfl)) ?_)
  cases m.testBit k <;> rfl
theorem et_bit0 (h1 : Ev ta σ H (.int (m : Int))) (h2 : Ev tb σ H (.int (k : Int))) : EvT (tTest (tOp rEq (tOp (rI0 fun i j => .int (Builtin.bitAnd i j)) (tOp rShr ta tb) (tC (.int 1))) (tC (.int 0)))) σ H (!m.testBit k) := by
  refine et_test (ev_is (ev_op (ev_bit h1 h2) ev_c (rv_eq rfl)) ?_)
  cases m.testBit k <;> rfl
theorem ev_or (h1 : Ev ta σ H (.int (m : Int))) (h2 : Ev tb σ H (.int (g : Int))) : Ev (tOp (rI0 fun i j => .int (Builtin.bitOr i j)) ta tb) σ H (.int ((m ||| g : Nat) : Int)) := by
  refine ev_is (ev_op h1 h2 rv_I0) ?_
  rw [bitOr_nn (Int.natCast_nonneg _) (Int.natCast_nonneg _), Int.toNat_natCast, Int.toNat_natCast]
theorem ev_pow (hk : k ≤ 16) (h2 : Ev tb σ H (.int (k : Int))) : Ev (tOp rPow (tC (.int 1)) tb) σ H (.int ((2 ^ k : Nat) : Int)) := by
  refine ev_is (ev_op (z := .int (2 ^ k)) ev_c h2 fun H1 _ _ q => ⟨k, rfl, rfl, by omega, q H1 (Ex.refl H1)⟩) ?_
  congr 1
theorem ev_mat {b : Addr} {l : List Nat} (h1 : Ev ta σ H (.ref b)) (h2 : Ev tb σ H (.int (k : Int))) (hl : H b = some (.lst (vn l))) (hk : k < l.length) : Ev (tOp (rIxL K) ta tb) σ H (.int (mat l k : Nat)) :=
  ev_op h1 h2 (rv_ixL (SqL.of hl) (atI_nat (vn_get hk)))
theorem vn_set {l : List Nat} {i v : Nat} : (vn l).set i (.int (v : Int)) = vn (l.set i v) := by unfold vn; rw [List.map_set]
theorem vi_rep {n : Nat} : vi (List.replicate n 0) = vn (List.replicate n 0) := by simp [vi, vn]
end
section
variable {P : Program} {w : World} {K : PySem.W.Frag} {mg : Str → Option Value} {base : Heap} {CH C D : Addr}
abbrev s_bits : Stmt := topS 15
theorem sc_bits : FnScope ["mask", "lamp"] ["mask"] (defScope s_bits) := ⟨rfl, rfl, rfl, by decide +kernel, rfl, by decide +kernel, by decide +kernel⟩
def sp_bits : Sp := fun vs H Q _ => ∃ (m n : Nat), vs = [.int m] ∧ m < 2 ^ n ∧ n ≤ 16 ∧ ∀ p H', H p = none → Ex H H' → H' p = some (.lst (vn (bitsOf n m))) → Q (.ref p) H'
theorem d_bits (B : Bi mg) (I : DefIs K mg "bits" "bits" s_bits ["mask"]) : DefOk P w K mg base "bits" 1 ["mask"] sp_bits := by
  refine I.ok sc_bits (fun vs H Q E h => ?_) (fun f cdv A outer s H vs Q E hr h => ?_)
  · obtain ⟨_, _, rfl, _⟩ := h; rfl
  · obtain ⟨m, n, rfl, hm, hn, kk⟩ := h
    refine ⟨_, (pss_one (ps_ret (pe_lc (own := [("lamp", 1)]) (g := gName 1) rfl sc_bits.nd (pi_range1 rfl B.range (pa_cons (pe_bits (pv 0)) pa_nil)) (blkOk_by (own := [("lamp", 1)]) (N := ["mask", "lamp"]) (sc := defScope s_bits) (by decide +kernel)) (fun _ _ _ _ _ => (pg_name (i := 1) sc_bits.nd rfl (Or.inl rfl))) (fun _ _ _ _ _ => by exact (pts_one (pt_cmpR op_eq (pe_op op_and (pe_op op_shrN (pv 0) (pv 1)) pe_int) pe_int (nomark _)))) (fun _ _ _ _ _ => by exact (pv 1))))), ?_⟩
    have hb : Builtin.Int.intBits (m : Int) ≤ n := PyProof.Rows.intBits_le (by rw [Int.natAbs_natCast]; exact hm)
    have hb2 : m < 2 ^ Builtin.Int.intBits (m : Int) := by
      unfold Builtin.Int.intBits
      by_cases q : (m : Int) = 0
      · have : m = 0 := by omega
        subst this; simp
      · rw [if_neg (by simpa using q), Int.natAbs_natCast]
        exact Nat.lt_log2_self
    have key := el_lcR1 (σ := [some (.int (m : Int)), none]) (H := H) (ta := tCons (tBits (tVar 0)) tNil) (j := 1) (vs := [1]) (n := ((Builtin.Int.intBits (m : Int) : Nat) : Int)) (t := tTest (tOp rEq (tOp (rI0 fun i j => .int (Builtin.bitAnd i j)) (tOp rShr (tVar 0) (tVar 1)) (tC (.int 1))) (tC (.int 1)))) (te := tVar 1)
      (fun u => m.testBit u) (fun u => .int (u : Int)) (ea_cons (fun H1 e1 Q q => ⟨_, rfl, _, rfl, q H1 (Ex.refl H1)⟩) ea_nil) (by omega) (fun _ => rfl) (fun u H1 e1 hu => et_bit (ev_var rfl) (ev_var rfl)) (fun u H1 e1 hu _ => ev_var rfl)
    rw [Int.toNat_natCast, given_filter, bits_cut hb2 hb] at key
    exact key H (Ex.refl H) _ kk
abbrev s__is_wire : Stmt := topS 17
theorem sc__is_wire : FnScope ["count", "value", "upper", "lower"] ["count", "value"] (defScope s__is_wire) := ⟨rfl, rfl, rfl, by decide +kernel, rfl, by decide +kernel, by decide +kernel⟩
def sp_iswire : Sp := fun vs H Q _ => ∃ (n u v : Nat) (t : Addr), vs = [.int n, .ref t] ∧ H t = some (.tup [.int u, .int v]) ∧ u < n ∧ v < n ∧ u ≠ v ∧ ∀ H', Ex H H' → Q (.bl true) H'
theorem d_is_wire (B : Bi mg) (D_is_integer : DefOk P w K mg base "is_integer" 1 ["value"] sp_isint) (I : DefIs K mg "_is_wire" "_is_wire" s__is_wire ["count", "value"]) : DefOk P w K mg base "_is_wire" 2 ["count", "value"] sp_iswire := by
  refine I.ok sc__is_wire (fun vs H Q E h => ?_) (fun f cdv A outer s H vs Q E hr h => ?_)
  · obtain ⟨_, _, _, _, rfl, _⟩ := h; rfl
  · obtain ⟨n, u, v, t, rfl, ht, hu, hv, huv, kk⟩ := h
    refine ⟨_, (pss_cons (ps_if (PW.pt (pw_or (pt_not (pt_val (pe_callB call_isi (by rfl) B.isinstance boot_isinstance (pa_cons (pv 1) (pa_cons (pe_bltn (v := .ty "tuple") (by rfl) B.tuple boot_tuple rfl) pa_nil))))) (pw_or1 (pt_cmpR op_ne (pe_callB call_len (by rfl) B.len PySem.boot_len (pa_cons (pv 1) pa_nil)) pe_int (nomark _)))))
      (pss_one (ps_ret pe_bl))
      pss_nil)
      (pss_cons (ps_asg (pv 1) (pg_tup rfl (pgs_cons (pg_name (i := 2) sc__is_wire.nd rfl (Or.inl rfl)) (pgs_cons (pg_name (i := 3) sc__is_wire.nd rfl (Or.inl rfl)) pgs_nil))))
      (pss_cons (ps_if (PW.pt (pw_or (pt_not (pt_val (pe_callD D_is_integer (hr.mono (by decide)) (pa_cons (pv 2) pa_nil)))) (pw_or1 (pt_not (pt_val (pe_callD D_is_integer (hr.mono (by decide)) (pa_cons (pv 3) pa_nil)))))))
      (pss_one (ps_ret pe_bl))
      pss_nil)
      (pss_one (ps_ret (pe_and (pe_chain op_le op_lt pe_int (pv 2) (pv 0)) (pe_and (pe_chain op_le op_lt pe_int (pv 3) (pv 0)) (pe_one (pe_cmpR op_ne (pv 2) (pv 3) (nomark _)))))))))), ?_⟩
    refine ⟨_, rfl, _, _, _, _, true, rfl, .ty _, .base (.tup ht), kit_ty (by decide +kernel), _, rfl, iteF ?_⟩
    refine ⟨_, rfl, _, _, rfl, .inr ⟨_, SqT.of ht, rfl⟩, rfl, _, rfl, ?_⟩
    refine iteNS rfl ?_
    refine ⟨_, rfl, t, _, rfl, SqT.of ht, rfl, _, _, rfl, _, _, rfl, rfl, ?_⟩
    refine ⟨_, rfl, _, rfl, fun H1 e1 => ⟨_, rfl, iteF ?_⟩⟩
    refine ⟨_, rfl, _, rfl, fun H2 e2 => ⟨_, rfl, iteF ?_⟩⟩
    refine ⟨_, rfl, _, _, rfl, rfl, _, rfl, iteD (by omega) ?_⟩
    refine ⟨_, rfl, _, _, rfl, rfl, _, rfl, iteD (by omega) ?_⟩
    refine ⟨_, rfl, _, _, rfl, rfl, _, rfl, iteD (by omega) ?_⟩
    refine ⟨_, rfl, _, _, rfl, rfl, _, rfl, iteD (by omega) ?_⟩
    refine ⟨_, rfl, _, rfl, rfl, ?_⟩
    rw [decide_eq_false (fun z => huv (by have := V.int.inj z; omega))]
    exact kk H2 (e1.trans e2)
abbrev s__join_wires : Stmt := topS 18
theorem sc__join_wires : FnScope ["count", "wires", "wired", "below", "index", "wire", "upper", "lower", "gained", "lamp"] ["count", "wires"] (defScope s__join_wires) := ⟨rfl, rfl, rfl, by decide +kernel, rfl, by decide +kernel, by decide +kernel⟩
def sp_join : Sp := fun vs H Q _ => ∃ (n : Nat) (b : Bool) (a : Addr) (rs : List Addr) (ps : List (Nat × Nat)), vs = [.int n, .ref a] ∧ (if b = true then H a = some (.lst (rs.map V.ref)) else H a = some (.tup (rs.map V.ref))) ∧ WPrs H rs ps ∧ Dag n ps ∧ n ≤ 16 ∧
  ∀ p m H', H p = none → Ex H H' → H' p = some (.lst (vn m)) → Masks n (Pth ps) m → Q (.ref p) H'
theorem sqB_of {b : Bool} {H : Hp} {a : Addr} {xs : List V} (h : if b = true then H a = some (.lst xs) else H a = some (.tup xs)) : SqB b K H a xs := by
  cases b
  · exact SqT.of h
  · exact SqL.of h
theorem d_join (B : Bi mg) (D__is_wire : DefOk P w K mg base "_is_wire" 2 ["count", "value"] sp_iswire) (I : DefIs K mg "_join_wires" "_join_wires" s__join_wires ["count", "wires"]) : DefOk P w K mg base "_join_wires" 3 ["count", "wires"] sp_join := by
  refine I.ok sc__join_wires (fun vs H Q E h => ?_) (fun f cdv A outer s H vs Q E hr h => ?_)
  · obtain ⟨_, _, _, _, _, rfl, _⟩ := h; rfl
  · obtain ⟨n, bb, a, rs, ps, rfl, ha, hps, dg, hn, kk⟩ := h
    have haB : SqB bb K H a (rs.map V.ref) := sqB_of ha
    refine ⟨_, (pss_cons (ps_set (i := 2) sc__join_wires.nd rfl (Or.inl rfl) (pe_op op_rep (pe_lst (pa_cons pe_int pa_nil)) (pv 0)))
      (pss_cons (ps_set (i := 3) sc__join_wires.nd rfl (Or.inl rfl) (pe_op op_rep (pe_lst (pa_cons pe_int pa_nil)) (pv 0)))
      (pss_cons (ps_for PassesOwn.never rfl (pi_enumX bb rfl B.enumerate (pa_cons (pv 1) pa_nil)) (pg_tup rfl (pgs_cons (pg_name (i := 4) sc__join_wires.nd rfl (Or.inl rfl)) (pgs_cons (pg_name (i := 5) sc__join_wires.nd rfl (Or.inl rfl)) pgs_nil)))
      (pss_cons (ps_if (pt_not (pt_val (pe_callD D__is_wire (hr.mono (by decide)) (pa_cons (pv 0) (pa_cons (pv 5) pa_nil)))))
        pss_never
        pss_nil)
        (pss_cons (ps_asg (pv 5) (pg_tup rfl (pgs_cons (pg_name (i := 6) sc__join_wires.nd rfl (Or.inl rfl)) (pgs_cons (pg_name (i := 7) sc__join_wires.nd rfl (Or.inl rfl)) pgs_nil))))
        (pss_cons (ps_if (pt_cmpR op_eq (pe_op op_and (pe_op op_shrN (pe_ix ix_list (pv 2) (pv 6) (fun _ _ => rfl)) (pv 7)) pe_int) pe_int (nomark _))
        pss_never
        pss_nil)
        (pss_cons (ps_if (pt_cmpR op_eq (pe_op op_and (pe_op op_shrN (pe_ix ix_list (pv 3) (pv 7) (fun _ _ => rfl)) (pv 6)) pe_int) pe_int (nomark _))
        pss_never
        pss_nil)
        (pss_cons (ps_asg (pe_op op_or (pe_ix ix_list (pv 2) (pv 6) (fun _ _ => rfl)) (pe_op op_oneShl pe_int (pv 7))) (pg_sub (pv 2) (pv 6) set_list))
        (pss_cons (ps_set (i := 8) sc__join_wires.nd rfl (Or.inl rfl) (pe_op op_or (pe_ix ix_list (pv 3) (pv 7) (fun _ _ => rfl)) (pe_op op_oneShl pe_int (pv 7))))
        (pss_one (ps_for PassesOwn.never rfl (pi_range1 rfl B.range (pa_cons (pv 0) pa_nil)) (pg_name (i := 9) sc__join_wires.nd rfl (Or.inl rfl))
        (pss_one (ps_if (PW.pt (pw_or (pt_cmpR op_eq (pv 9) (pv 6) (nomark _)) (pw_or1 (pt_cmpR op_eq (pe_op op_and (pe_op op_shrN (pe_ix ix_list (pv 3) (pv 9) (fun _ _ => rfl)) (pv 6)) pe_int) pe_int (nomark _)))))
          (pss_one (ps_asg (pe_op op_or (pe_ix ix_list (pv 3) (pv 9) (fun _ _ => rfl)) (pv 8)) (pg_sub (pv 3) (pv 9) set_list)))
          pss_nil)))))))))))
      (pss_one (ps_ret (pv 3)))))), ?_⟩
    refine q_asgL (el_rep0 (n := n) (by omega) (ev_var rfl)) fun wd H1 nw e1 hwd => ?_
    refine q_asgL (el_rep0 (n := n) (by omega) (ev_var rfl)) fun bl H2 nb1 e2 hbl => ?_
    have e12 := e1.trans e2
    have nb : H bl = none := fresh_back e1 nb1
    have nwb : wd ≠ bl := ne_of_none hwd nb1
    rw [vi_rep] at hwd hbl
    refine ⟨_, rfl, a, _, rfl, haB.mono e12, ?_⟩
    refine for_it (walk_enumX (b := bb) (K := K) (a := a) (xs := rs.map V.ref)) (fun i σ H' => Ex H H' ∧ ∃ (W M : List Nat) (x4 x5 x6 x7 x8 x9 : Option V), σ = [some (.int n), some (.ref a), some (.ref wd), some (.ref bl), x4, x5, x6, x7, x8, x9] ∧ H' wd = some (.lst (vn W)) ∧ H' bl = some (.lst (vn M)) ∧ Masks n (fun u v => (u, v) ∈ ps.take i) W ∧ Masks n (Pth (ps.take i)) M)
      ⟨e12, _, _, _, _, _, _, _, _, rfl, e2 _ _ hwd, hbl, Masks.zero.congr fun u v _ => by simp, Masks.zero.congr fun u v _ => by rw [List.take_zero]; exact ⟨False.elim, pth_nil⟩⟩ (fun i σ H' _ q => haB.mono q.1) ?_ ?_
    · rintro i z σ H3 H4 hi ⟨e3, W, M, x4, x5, x6, x7, x8, x9, rfl, hw3, hb3, mW, mM⟩ ⟨T', x, y, rfl, nT, rfl, hx, hy⟩
      rw [List.length_map] at hi
      have hip : i < ps.length := by rw [← hps.len]; exact hi
      dsimp only at hx hy
      rw [List.getElem?_map, List.getElem?_eq_getElem hi] at hy
      cases hx; cases hy
      have hr3 : ∀ {H'}, Ex H H' → H' rs[i] = some (.tup [.int ((ps[i]).1 : Int), .int ((ps[i]).2 : Int)]) := fun e => e _ _ (hps.at_ i _ _ (List.getElem?_eq_getElem hi) (List.getElem?_eq_getElem hip))
      have htake : ps.take (i + 1) = ps.take i ++ [ps[i]] := by rw [List.take_add_one, List.getElem?_eq_getElem hip]; rfl
      have hsplit : ps = ps.take i ++ ps[i] :: ps.drop (i + 1) := by
        have h1 := List.take_append_drop i ps
        rw [List.drop_eq_getElem_cons hip] at h1
        exact h1.symm
      rw [hsplit] at dg
      obtain ⟨dE, d1, d2, d3, d4, d5⟩ := dg.pre
      generalize rs[i] = r at hr3
      generalize ps[i] = q at hr3 htake d1 d2 d3 d4 d5
      obtain ⟨u, v⟩ := q
      dsimp only at hr3 d1 d2 d3 d4 d5
      generalize ps.take i = F at mW mM htake dE d1 d2
      have eT : Ex H (upd H3 T' (.tup [.int (i : Nat), .ref r])) := e3.trans (Ex.new nT)
      have hw4 : (upd H3 T' (.tup [.int (i : Nat), .ref r])) wd = some (.lst (vn W)) := Ex.new nT _ _ hw3
      have hb4 : (upd H3 T' (.tup [.int (i : Nat), .ref r])) bl = some (.lst (vn M)) := Ex.new nT _ _ hb3
      refine ⟨T', _, rfl, SqT.of upd_same, rfl, _, _, rfl, _, _, rfl, rfl, ?_⟩
      refine ⟨_, rfl, _, rfl, n, u, v, r, rfl, hr3 eT, d3, d4, d5, fun H5 e5 => ⟨_, rfl, iteF ?_⟩⟩
      have e05 := eT.trans e5
      refine ⟨_, rfl, r, _, rfl, SqT.of (hr3 e05), rfl, _, _, rfl, _, _, rfl, rfl, ?_⟩
      have lW := mW.len
      have lM := mM.len
      refine q_when (et_bit (ev_mat (ev_var rfl) (ev_var rfl) (e5 _ _ hw4) (by omega)) (ev_var rfl)) (fun z => absurd ((mW.bit u v d3).mp z) d1) (fun z H6 e6 => ?_)
      refine q_when (et_bit (ev_mat (ev_var rfl) (ev_var rfl) (e6 _ _ (e5 _ _ hb4)) (by omega)) (ev_var rfl)) (fun z => absurd ((mM.bit v u d4).mp z) d2) (fun z H7 e7 => ?_)
      have e57 := (e5.trans e6).trans e7
      refine q_setL (l := wd) (j := u) (e57 _ _ hw4) (ev_or (ev_mat (ev_var rfl) (ev_var rfl) (e57 _ _ hw4) (by omega)) (ev_pow (by omega) (ev_var rfl))) (ev_var rfl) (ev_var rfl) (by rw [vn_len]; omega) fun H8 e8 => ?_
      rw [vn_set]
      have e08 : Ex H (upd H8 wd (.lst (vn (W.set u (mat W u ||| 2 ^ v))))) := Ex.mut ((eT.trans e57).trans e8) nw
      have hb8 : (upd H8 wd (.lst (vn (W.set u (mat W u ||| 2 ^ v))))) bl = some (.lst (vn M)) := by rw [upd_ne nwb.symm]; exact e8 _ _ (e57 _ _ hb4)
      refine q_asg (ev_or (ev_mat (ev_var rfl) (ev_var rfl) hb8 (by omega)) (ev_pow (by omega) (ev_var rfl))) fun H9 e9 => ?_
      have mW' : Masks n (fun x y => (x, y) ∈ ps.take (i + 1)) (W.set u (mat W u ||| 2 ^ v)) := (mW.set_or d3 (two_pow_lt d4)).congr fun x y _ => by
        rw [htake, List.mem_append, List.mem_singleton, testBit_pow, Prod.mk.injEq]
      have hg : mat M v ||| 2 ^ v < 2 ^ n := Nat.or_lt_two_pow (mM.lt v) (two_pow_lt d4)
      have hgb : ∀ y, (mat M v ||| 2 ^ v).testBit y = true ↔ (y = v ∨ Pth F v y) := fun y => by
        rw [Nat.testBit_or, Bool.or_eq_true, mM.bit v y d4, testBit_pow]; exact Or.comm
      generalize mat M v ||| 2 ^ v = g at hg hgb
      generalize W.set u (mat W u ||| 2 ^ v) = W' at mW' hb8 e08 e9
      refine s_forR1 (n := (n : Int)) (ea_cons (ev_var rfl) ea_nil) (by omega) (fun j σ H' => Ex H H' ∧ ∃ (M' : List Nat) (x9 : Option V), σ = [some (.int n), some (.ref a), some (.ref wd), some (.ref bl), some (.int (i : Nat)), some (.ref r), some (.int u), some (.int v), some (.int g), x9] ∧ H' wd = some (.lst (vn W')) ∧ H' bl = some (.lst (vn M')) ∧
          Masks n (fun x y => Pth F x y ∨ (x < j ∧ (x = u ∨ Pth F x u) ∧ (y = v ∨ Pth F v y))) M')
        (fun H10 e10 => ⟨(e08.trans e9).trans e10, M, _, rfl, e10 _ _ (e9 _ _ upd_same), e10 _ _ (e9 _ _ hb8), mM.congr fun x y _ => by simp⟩) ?_ ?_
      · rintro j σ H10 hj ⟨e10, M', x9', rfl, hw10, hb10, mM'⟩
        have hjn : j < n := by omega
        have lM' := mM'.len
        have hbit : (mat M' j).testBit u = true ↔ Pth F j u := by
          rw [mM'.bit j u hjn]; simp
        refine s_when (b := decide (j = u) || (mat M' j).testBit u) (et_or (et_test (ev_is (ev_op (ev_var rfl) (ev_var rfl) (rv_eq rfl)) ?_)) (fun _ => et_bit (ev_mat (ev_var rfl) (ev_var rfl) hb10 (by omega)) (ev_var rfl))) (fun z H11 e11 => ?_) (fun z H11 e11 => ?_)
        · congr 1
          exact decide_eq_decide.mpr ⟨fun z => by have := V.int.inj z; omega, fun z => by rw [z]⟩
        · have hc : j = u ∨ Pth F j u := by
            rw [Bool.or_eq_true, decide_eq_true_eq, hbit] at z
            exact z
          have hb11 := e11 _ _ hb10
          refine s_setL (l := bl) (j := j) hb11 (ev_or (ev_mat (ev_var rfl) (ev_var rfl) hb11 (by omega)) (ev_var rfl)) (ev_var rfl) (ev_var rfl) (by rw [vn_len]; omega) fun H12 e12 => ?_
          refine ⟨Ex.mut ((e10.trans e11).trans e12) nb, M'.set j (mat M' j ||| g), _, rfl, by rw [upd_ne nwb]; exact e12 _ _ (e11 _ _ hw10), by rw [upd_same, vn_set], (mM'.set_or hjn hg).congr fun x y _ => ?_⟩
          rw [hgb]
          constructor
          · rintro ((h | ⟨h1, h2, h3⟩) | ⟨rfl, h3⟩)
            · exact .inl h
            · exact .inr ⟨by omega, h2, h3⟩
            · exact .inr ⟨by omega, hc, h3⟩
          · rintro (h | ⟨h1, h2, h3⟩)
            · exact .inl (.inl h)
            · by_cases q : x = j
              · exact .inr ⟨q, h3⟩
              · exact .inl (.inr ⟨by omega, h2, h3⟩)
        · have hc : ¬ (j = u ∨ Pth F j u) := by
            rw [Bool.or_eq_false_iff, decide_eq_false_iff_not] at z
            rintro (q | q)
            · exact z.1 q
            · rw [hbit.mpr q] at z; exact absurd z.2 (by decide)
          refine ⟨e10.trans e11, M', _, rfl, e11 _ _ hw10, e11 _ _ hb10, mM'.congr fun x y _ => ?_⟩
          constructor
          · rintro (h | ⟨h1, h2, h3⟩)
            · exact .inl h
            · exact .inr ⟨by omega, h2, h3⟩
          · rintro (h | ⟨h1, h2, h3⟩)
            · exact .inl h
            · by_cases q : x = j
              · subst q; exact absurd h2 hc
              · exact .inr ⟨by omega, h2, h3⟩
      · rintro σ H10 ⟨e10, M', x9', rfl, hw10, hb10, mM'⟩
        refine ⟨e10, W', M', _, _, _, _, _, _, rfl, hw10, hb10, mW', mM'.congr fun x y hx => ?_⟩
        rw [htake, pth_snoc, Int.toNat_natCast]
        constructor
        · rintro (h | ⟨h1, h2, h3⟩)
          · exact .inl h
          · exact .inr ⟨h2, h3⟩
        · rintro (h | ⟨h2, h3⟩)
          · exact .inl h
          · exact .inr ⟨hx, h2, h3⟩
    · rintro σ H3 ⟨e3, W, M, x4, x5, x6, x7, x8, x9, rfl, hw3, hb3, mW, mM⟩
      rw [List.length_map, hps.len, List.take_length] at mM
      exact ⟨_, rfl, kk bl M H3 nb e3 hb3 mM⟩
end
end K57

set_option Elab.async false
set_option linter.all false
set_option maxRecDepth 100000
set_option maxHeartbeats 4000000
namespace K57
open PySem PySem.Spec PyProof.Rows L2 Evl M57
section
variable {K : PySem.W.Frag} {σ : L2.St} {H : Hp} {ta te : TE}
theorem ev_lenA {a : Addr} {xs : List V} (h : Ev ta σ H (.ref a)) (ha : SqA H a xs) : Ev (tCB (fun xs H Q => ∃ x n, xs = [x] ∧ LenV K x H n ∧ Q (.int n) H) (tCons ta tNil)) σ H (.int (xs.length : Nat)) :=
  fun H1 e Q q => h H1 e _ fun H2 e2 => ⟨_, _, rfl, lenA ((ha.mono e).mono e2), q H2 e2⟩
theorem s_forNLn {D : Ends} {tu : TS} {xs : List V} {tl : TE} {j : Nat} (h : EvL tl σ H xs) (Pv : Addr → Nat → L2.St → Hp → Prop) (h0 : ∀ p H1, H p = none → Ex H H1 → H1 p = some (.lst xs) → Pv p 0 σ H1) (hl : ∀ p i σ' H', i ≤ xs.length → Pv p i σ' H' → SqL K H' p xs)
    (hs : ∀ p i x σ' H', xs[i]? = some x → Pv p i σ' H' → tu { D with nx := Pv p (i + 1), ct := Pv p (i + 1), bk := D.nx } (σ'.set j (some x)) H') (hd : ∀ p σ' H', Pv p xs.length σ' H' → D.nx σ' H') : tFor (iList K tl) (gName j) tu D σ H :=
  s_forNL h Pv h0 hl hs hd
/-- a comprehension over enumerate(list) -/
theorem el_lcE {ta : TA} {t : TT} {a : Addr} {xs : List V} {j1 j2 : Nat} {vs : List Nat} (f : Nat → Bool) (v : Nat → V) (h : EvA ta σ H [.ref a]) (hx : SqL K H a xs) (hz : xs.length ≤ 40000) (hw : ∀ x y, wipe (((wipe σ vs).set j1 (some x)).set j2 (some y)) vs = wipe σ vs)
    (ht : ∀ (i : Nat) (x : V) H1, Ex H H1 → xs[i]? = some x → EvT t (((wipe σ vs).set j1 (some (.int (i : Nat)))).set j2 (some x)) H1 (f i)) (he : ∀ (i : Nat) (x : V) H1, Ex H H1 → xs[i]? = some x → f i = true → Ev te (((wipe σ vs).set j1 (some (.int (i : Nat)))).set j2 (some x)) H1 (v i)) :
    EvL (tLc (iEnum K ta) (gTup K 2 (gCons (gName j1) (gCons (gName j2) gNil))) t te vs) σ H (given xs.length f v) := fun H0 e Q q => h H0 e _ fun H1 e1 => ⟨a, xs, rfl, ex_l (e.trans e1) hx, fun Dl hD =>
  lc_it (walk_enum (K := K) (a := a) (xs := xs)) (Cw H1 f v Dl) ⟨hD, Ex.new hD, upd_same⟩ (fun i H' _ p => ex_l ((e.trans e1).trans p.2.1) hx) (fun i z H' H2 hi p y => by
    obtain ⟨T, x, y, rfl, nT, rfl, hx1, hy1⟩ := y
    dsimp only at hx1 hy1
    cases hx1
    have p2 : Cw H1 f v Dl i (upd H' T (.tup [.int (i : Nat), y])) := ⟨p.1, p.2.1.trans (Ex.new nT), by rw [upd_ne (ne_of_none p.2.2 nT)]; exact p.2.2⟩
    refine ⟨T, _, rfl, SqT.of upd_same, rfl, _, _, rfl, _, _, rfl, rfl, hw _ _, ?_⟩
    exact cw_turn p2 (by omega) (ht i y H1 (e.trans e1) hy1) (fun hf => he i y H1 (e.trans e1) hy1 hf)) (fun H' p => q Dl H' (fresh_back e1 p.1) (e1.trans p.2.1) p.2.2)⟩
end
section
variable {P : Program} {w : World} {K : PySem.W.Frag} {mg : Str → Option Value} {base : Heap} {CH C D : Addr}
theorem mem_bitsOf {n m v : Nat} : v ∈ bitsOf n m ↔ v < n ∧ m.testBit v = true := by
  unfold bitsOf; rw [List.mem_filter, List.mem_range]
theorem bitsOf_len {n m : Nat} : (bitsOf n m).length ≤ n := by
  have := List.length_filter_le (fun v => m.testBit v) (List.range n)
  rwa [List.length_range] at this
abbrev s__turn_round : Stmt := topS 19
theorem sc__turn_round : FnScope ["below", "upper_masks", "upper", "mask", "lower"] ["below"] (defScope s__turn_round) := ⟨rfl, rfl, rfl, by decide +kernel, rfl, by decide +kernel, by decide +kernel⟩
def sp_turn : Sp := fun vs H Q _ => ∃ (n : Nat) (a : Addr) (R : Nat → Nat → Prop) (m : List Nat), vs = [.ref a] ∧ H a = some (.lst (vn m)) ∧ Masks n R m ∧ n ≤ 16 ∧
  ∀ p m' H', H p = none → Ex H H' → H' p = some (.lst (vn m')) → Masks n (fun u v => v < n ∧ R v u) m' → Q (.ref p) H'
theorem d_turn (B : Bi mg) (D_bits : DefOk P w K mg base "bits" 1 ["mask"] sp_bits) (I : DefIs K mg "_turn_round" "_turn_round" s__turn_round ["below"]) : DefOk P w K mg base "_turn_round" 2 ["below"] sp_turn := by
  refine I.ok sc__turn_round (fun vs H Q E h => ?_) (fun f cdv A outer s H vs Q E hr h => ?_)
  · obtain ⟨_, _, _, _, rfl, _⟩ := h; rfl
  · obtain ⟨n, a, R, m, rfl, ha, mk, hn, kk⟩ := h
    refine ⟨_, (pss_cons (ps_set (i := 1) sc__turn_round.nd rfl (Or.inl rfl) (pe_op op_rep (pe_lst (pa_cons pe_int pa_nil)) (pe_callB call_len (by rfl) B.len PySem.boot_len (pa_cons (pv 0) pa_nil))))
      (pss_cons (ps_for PassesOwn.never rfl (pi_enum rfl B.enumerate (pa_cons (pv 0) pa_nil)) (pg_tup rfl (pgs_cons (pg_name (i := 2) sc__turn_round.nd rfl (Or.inl rfl)) (pgs_cons (pg_name (i := 3) sc__turn_round.nd rfl (Or.inl rfl)) pgs_nil)))
      (pss_one (ps_for PassesOwn.never rfl (pi_list (pe_callD D_bits (hr.mono (by decide)) (pa_cons (pv 3) pa_nil))) (pg_name (i := 4) sc__turn_round.nd rfl (Or.inl rfl))
        (pss_one (ps_asg (pe_op op_or (pe_ix ix_list (pv 1) (pv 4) (fun _ _ => rfl)) (pe_op op_oneShl pe_int (pv 2))) (pg_sub (pv 1) (pv 4) set_list))))))
      (pss_one (ps_ret (pv 1))))), ?_⟩
    have lm := mk.len
    refine q_asgL (el_rep0 (n := n) (by omega) (ev_is (ev_lenA (ev_var rfl) (.inl ha)) (by rw [vn_len, lm]))) fun l H1 nl e1 hl => ?_
    rw [vi_rep] at hl
    have ha1 := e1 _ _ ha
    refine ⟨_, rfl, a, _, rfl, SqL.of ha1, ?_⟩
    refine for_it (walk_enum (K := K) (a := a) (xs := vn m)) (fun i σ H' => Ex H H' ∧ ∃ (M : List Nat) (x2 x3 x4 : Option V), σ = [some (.ref a), some (.ref l), x2, x3, x4] ∧ H' l = some (.lst (vn M)) ∧ Masks n (fun u v => v < i ∧ R v u) M)
      ⟨e1, _, _, _, _, rfl, hl, Masks.zero.congr fun u v _ => by simp⟩ (fun i σ H' _ q => SqL.of (q.1 _ _ ha)) ?_ ?_
    · rintro i z σ H3 H4 hi ⟨e3, M, x2, x3, x4, rfl, hl3, mM⟩ ⟨T', x, y, rfl, nT, rfl, hx, hy⟩
      rw [vn_len, lm] at hi
      dsimp only at hx hy
      rw [vn_get (by omega)] at hy
      cases hx; cases hy
      have e4 : Ex H (upd H3 T' (.tup [.int (i : Nat), .int ((m.getD i 0 : Nat) : Int)])) := e3.trans (Ex.new nT)
      have hl4 : (upd H3 T' (.tup [.int (i : Nat), .int ((m.getD i 0 : Nat) : Int)])) l = some (.lst (vn M)) := Ex.new nT _ _ hl3
      refine ⟨T', _, rfl, SqT.of upd_same, rfl, _, _, rfl, _, _, rfl, rfl, ?_⟩
      have hbit := mk.bit i
      have hlt := mk.lt i
      change mat m i < 2 ^ n at hlt
      generalize hmm : m.getD i 0 = mm at *
      have hmm' : mat m i = mm := hmm
      rw [hmm'] at hbit hlt
      refine s_forNLn (K := K) (xs := vn (bitsOf n mm)) (el_call (ea_cons (ev_var rfl) ea_nil) fun H5 e5 Q q E => ⟨mm, n, rfl, hlt, hn, q⟩)
        (fun p j σ H' => Ex H H' ∧ p ≠ l ∧ H' p = some (.lst (vn (bitsOf n mm))) ∧ ∃ (M' : List Nat) (x4 : Option V), σ = [some (.ref a), some (.ref l), some (.int (i : Nat)), some (.int mm), x4] ∧ H' l = some (.lst (vn M')) ∧ Masks n (fun u v => (v < i ∧ R v u) ∨ (v = i ∧ u ∈ (bitsOf n mm).take j)) M')
        (fun p H5 np e5 hp => ⟨e4.trans e5, (ne_of_none hl4 np).symm, hp, M, _, rfl, e5 _ _ hl4, mM.congr fun u v _ => by simp⟩) (fun p j σ H' _ q => SqL.of q.2.2.1) ?_ ?_
      · rintro p j x σ H5 hj ⟨e5, npl, hp5, M', x4', rfl, hl5, mM'⟩
        have hj2 : j < (bitsOf n mm).length := by
          have := (List.getElem?_eq_some_iff.mp hj).1
          rwa [vn_len] at this
        rw [vn_get hj2] at hj
        cases hj
        have htake := take_succ_getD hj2
        have hv := (mem_bitsOf.mp (getD_mem hj2)).1
        generalize (bitsOf n mm).getD j 0 = v at hv htake
        have lM' := mM'.len
        refine s_setL (l := l) (j := v) hl5 (ev_or (ev_mat (ev_var rfl) (ev_var rfl) hl5 (by omega)) (ev_pow (by omega) (ev_var rfl))) (ev_var rfl) (ev_var rfl) (by rw [vn_len]; omega) fun H6 e6 => ?_
        refine ⟨Ex.mut (e5.trans e6) nl, npl, by rw [upd_ne npl]; exact e6 _ _ hp5, M'.set v (mat M' v ||| 2 ^ i), _, rfl, by rw [upd_same, vn_set], (mM'.set_or hv (two_pow_lt hi)).congr fun x y _ => ?_⟩
        rw [testBit_pow, htake, List.mem_append, List.mem_singleton]
        constructor
        · rintro ((h | ⟨h1, h2⟩) | ⟨h1, h2⟩)
          · exact .inl h
          · exact .inr ⟨h1, .inl h2⟩
          · exact .inr ⟨h2, .inr h1⟩
        · rintro (h | ⟨h1, h2 | h2⟩)
          · exact .inl (.inl h)
          · exact .inl (.inr ⟨h1, h2⟩)
          · exact .inr ⟨h2, h1⟩
      · rintro p σ H5 ⟨e5, npl, hp5, M', x4', rfl, hl5, mM'⟩
        refine ⟨e5, M', _, _, _, rfl, hl5, mM'.congr fun u v hu => ?_⟩
        rw [vn_len, List.take_length, mem_bitsOf, hbit u hi]
        constructor
        · rintro (⟨h1, h2⟩ | ⟨rfl, h1, h2⟩)
          · exact ⟨by omega, h2⟩
          · exact ⟨by omega, h2⟩
        · rintro ⟨h1, h2⟩
          by_cases q : v = i
          · subst q; exact .inr ⟨rfl, hu, h2⟩
          · exact .inl ⟨by omega, h2⟩
    · rintro σ H3 ⟨e3, M, x2, x3, x4, rfl, hl3, mM⟩
      rw [vn_len, lm] at mM
      exact ⟨_, rfl, kk l M H3 nl e3 hl3 mM⟩
abbrev s__order_list : Stmt := topS 20
theorem sc__order_list : FnScope ["masks", "lamps", "listed", "ready", "lamp", "mask", "following"] ["masks"] (defScope s__order_list) := ⟨rfl, rfl, rfl, by decide +kernel, rfl, by decide +kernel, by decide +kernel⟩
def sp_olist : Sp := fun vs H Q _ => ∃ (n : Nat) (a : Addr) (E : List (Nat × Nat)) (m : List Nat), vs = [.ref a] ∧ H a = some (.lst (vn m)) ∧ Masks n (fun u v => v < n ∧ Pth E v u) m ∧ Dag n E ∧ n ≤ 16 ∧
  ∀ p O H', H p = none → Ex H H' → H' p = some (.lst (vn O)) → Pre n E O → O.length = n → Q (.ref p) H'
theorem d_olist (B : Bi mg) (I : DefIs K mg "_order_list" "_order_list" s__order_list ["masks"]) : DefOk P w K mg base "_order_list" 1 ["masks"] sp_olist := by
  refine I.ok sc__order_list (fun vs H Q E h => ?_) (fun f cdv A outer s H vs Q E hr h => ?_)
  · obtain ⟨_, _, _, _, rfl, _⟩ := h; rfl
  · obtain ⟨n, a, F, m, rfl, ha, mk, dg, hn, kk⟩ := h
    refine ⟨_, (pss_cons (ps_set (i := 1) sc__order_list.nd rfl (Or.inl rfl) (pe_lst pa_nil))
      (pss_cons (ps_set (i := 2) sc__order_list.nd rfl (Or.inr rfl) pe_int)
      (pss_cons (ps_while PassesOwn.never (pt_cmpR op_lt (pe_callB call_len (by rfl) B.len PySem.boot_len (pa_cons (pv 1) pa_nil)) (pe_callB call_len (by rfl) B.len PySem.boot_len (pa_cons (pv 0) pa_nil)) (nomark _))
      (pss_cons (ps_setLc (i := 3) (own := [("lamp", 4), ("mask", 5)]) (g := gTup K 2 (gCons (gName 4) (gCons (gName 5) gNil))) rfl sc__order_list.nd rfl rfl (sw_true rfl rfl rfl (by decide +kernel)) (pi_enum rfl B.enumerate (pa_cons (pv 0) pa_nil)) (blkOk_by (own := [("lamp", 4), ("mask", 5)]) (N := ["masks", "lamps", "listed", "ready", "lamp", "mask", "following"]) (sc := defScope s__order_list) (by decide +kernel)) (fun _ _ _ _ _ => by exact (pg_tup rfl (pgs_cons (pg_name (i := 4) sc__order_list.nd rfl (Or.inl rfl)) (pgs_cons (pg_name (i := 5) sc__order_list.nd rfl (Or.inl rfl)) pgs_nil)))) (fun _ _ _ _ _ => by exact (pts_one (pt_cmpR op_eq (pe_op op_and (pv 5) (pv 2)) (pv 5) (nomark _)))) (fun _ _ _ _ _ => by exact (pv 4)))
        (pss_cons (ps_setLc (i := 6) (own := [("lamp", 4)]) (g := gName 4) rfl sc__order_list.nd rfl rfl (sw_true rfl rfl rfl (by decide +kernel)) (pi_list (pv 3)) (blkOk_by (own := [("lamp", 4)]) (N := ["masks", "lamps", "listed", "ready", "lamp", "mask", "following"]) (sc := defScope s__order_list) (by decide +kernel)) (fun _ _ _ _ _ => by exact (pg_name (i := 4) sc__order_list.nd rfl (Or.inl rfl))) (fun _ _ _ _ _ => by exact (pts_one (pt_cmpR op_eq (pe_op op_and (pe_op op_shrN (pv 2) (pv 4)) pe_int) pe_int (nomark _)))) (fun _ _ _ _ _ => by exact (pv 4)))
        (pss_cons (ps_expr (pe_bm PySem.F.plainAttrs_list PySem.F.slot_list_append PySem.F.type_list_append mt_append (pv 1) (pa_cons (pe_ix ix_list (pv 6) pe_int (fun _ _ => rfl)) pa_nil)))
        (pss_one (ps_set (i := 2) sc__order_list.nd rfl (Or.inr rfl) (pe_op op_or (pv 2) (pe_op op_oneShl pe_int (pe_ix ix_list (pv 6) pe_int (fun _ _ => rfl))))))))))
      (pss_one (ps_ret (pv 1)))))), ?_⟩
    have lm := mk.len
    refine q_asgL (el_lst ea_nil (by decide)) fun l H1 nl e1 hl => ?_
    refine q_asg (v := .int ((0 : Nat) : Int)) ev_c fun H2 e2 => ?_
    have e12 := e1.trans e2
    refine q_while (fun μ σ H' => Ex H H' ∧ ∃ (O : List Nat) (g : Nat) (x3 x6 : Option V), σ = [some (.ref a), some (.ref l), some (.int (g : Nat)), x3, none, none, x6] ∧ μ = n - O.length ∧ H' l = some (.lst (vn O)) ∧ Pre n F O ∧ ∀ v, g.testBit v = true ↔ v ∈ O) n
      ⟨e12, [], 0, _, _, rfl, rfl, e2 _ _ hl, Pre.nil, fun v => by simp⟩ ?_
    rintro μ σ H3 ⟨e3, O, g, x3, x6, rfl, rfl, hl3, pO, hg⟩
    have ha3 := e3 _ _ ha
    have lO : O.length ≤ n := by
      have := pO.nd.length_le_of_subset (l₂ := List.range n) fun x hx => List.mem_range.mpr (pO.lt x hx)
      rwa [List.length_range] at this
    refine ⟨decide (O.length < n), et_test (ev_is (ev_op (ev_lenA (ev_var rfl) (.inl hl3)) (ev_lenA (ev_var rfl) (.inl ha3)) rv_I0) ?_), fun hT H4 e4 => ?_, fun hF H4 e4 => ?_⟩
    · rw [vn_len, vn_len, lm]
      congr 1
      exact decide_eq_decide.mpr (by omega)
    · have hlt : O.length < n := of_decide_eq_true hT
      refine ⟨_, fun _ _ z => z, ?_⟩
      have e34 := e3.trans e4
      have ha4 := e4 _ _ ha3
      have key := el_lcE (K := K) (σ := [some (.ref a), some (.ref l), some (.int (g : Nat)), x3, none, none, x6]) (H := H4) (ta := tCons (tVar 0) tNil) (a := a) (xs := vn m) (j1 := 4) (j2 := 5) (vs := [4, 5]) (t := tTest (tOp rEq (tOp (rI0 fun i j => .int (Builtin.bitAnd i j)) (tVar 5) (tVar 2)) (tVar 5))) (te := tVar 4)
        (fun i => decide (mat m i &&& g = mat m i)) (fun i => .int (i : Nat)) (ea_cons (ev_var rfl) ea_nil) (SqL.of ha4) (by rw [vn_len]; omega) (fun _ _ => rfl) (fun i x H5 e5 hx => ?_) (fun i x H5 e5 hx _ => ev_var rfl)
      · rw [vn_len, lm, given_filter] at key
        refine q_asgL key fun rl H5 nr e5 hrl => ?_
        clear key
        generalize hW : (List.range n).filter (fun i => decide (mat m i &&& g = mat m i)) = W at hrl
        have hWm : ∀ u, u ∈ W ↔ u < n ∧ ∀ x, Pth F x u → x ∈ O := fun u => by
          rw [← hW, List.mem_filter, List.mem_range, decide_eq_true_eq, and_eq_iff]
          refine and_congr_right fun hu => ⟨fun h x hx => (hg x).mp (h x ((mk.bit u x hu).mpr ⟨(dg.pth_lt hx).1, hx⟩)), fun h x hx => (hg x).mpr (h x ((mk.bit u x hu).mp hx).2)⟩
        have hWl : W.length ≤ n := by
          rw [← hW]; exact Nat.le_trans (List.length_filter_le _ _) (by rw [List.length_range]; exact Nat.le_refl _)
        have key := el_lcL (K := K) (σ := [some (.ref a), some (.ref l), some (.int (g : Nat)), some (.ref rl), none, none, x6]) (H := H5) (a := rl) (xs := vn W) (tl := tVar 3) (j := 4) (vs := [4]) (t := tTest (tOp rEq (tOp (rI0 fun i j => .int (Builtin.bitAnd i j)) (tOp rShr (tVar 2) (tVar 4)) (tC (.int 1))) (tC (.int 0)))) (te := tVar 4)
          (fun i => !g.testBit (W.getD i 0)) (fun i => .int ((W.getD i 0 : Nat) : Int)) (ev_var rfl) (SqL.of hrl) (by rw [vn_len]; omega) (fun _ => rfl) (fun j x H6 e6 hj => ?_) (fun j x H6 e6 hj _ => ?_)
        · rw [vn_len, given_filterL (p := fun u => !g.testBit u)] at key
          refine q_asgL key fun fl H6 nf e6 hfl => ?_
          clear key
          generalize hR : W.filter (fun u => !g.testBit u) = R at hfl
          have hRm : ∀ u, u ∈ R ↔ (u < n ∧ ∀ x, Pth F x u → x ∈ O) ∧ u ∉ O := fun u => by
            rw [← hR, List.mem_filter, hWm]
            refine and_congr_right fun _ => ?_
            rw [← hg u]; simp
          obtain ⟨x, hx, nx, hxu⟩ := pO.next dg hlt
          have hxR : x ∈ R := (hRm x).mpr ⟨⟨hx, hxu⟩, nx⟩
          have hRl : 0 < R.length := List.length_pos_of_mem hxR
          have hm := getD_mem hRl
          have hat : (vn R)[0]? = some (.int ((R.getD 0 0 : Nat) : Int)) := vn_get hRl
          generalize R.getD 0 0 = v at hm hat
          obtain ⟨⟨hv, v1⟩, v2⟩ := (hRm v).mp hm
          have e46 := e5.trans e6
          have evf : ∀ {σ : L2.St} {H' : Hp}, Ex H6 H' → σ[6]? = some (some (.ref fl)) → Ev (tOp (rIxL K) (tVar 6) (tC (.int 0))) σ H' (.int (v : Int)) := fun e h => ev_op (ev_var h) ev_c (rv_ixL (SqL.of (e _ _ hfl)) (atI_nat hat))
          refine q_app (l := l) (e46 _ _ (e4 _ _ hl3)) (ev_var rfl) (evf (Ex.refl _) rfl) (by rw [vn_len]; omega) fun H7 e7 => ?_
          have hfl7 : (upd H7 l (.lst (vn O ++ [.int v]))) fl = some (.lst (vn R)) := by
            rw [upd_ne (by rintro rfl; have := e46 _ _ (e4 _ _ hl3); exact absurd (fresh_back e5 nf) (by rw [e4 _ _ hl3]; simp))]; exact e7 _ _ hfl
          refine s_asg (ev_or (ev_var rfl) (ev_pow (by omega) (ev_op (ev_var rfl) ev_c (rv_ixL (SqL.of hfl7) (atI_nat hat))))) fun H8 e8 => ?_
          refine ⟨n - (O ++ [v]).length, by rw [List.length_append, List.length_singleton]; omega, (Ex.mut ((e34.trans e46).trans e7) nl).trans e8, O ++ [v], g ||| 2 ^ v, _, _, rfl, rfl, by rw [← vn_app']; exact e8 _ _ upd_same, pO.snoc hv v2 v1, fun y => ?_⟩
          rw [Nat.testBit_or, Bool.or_eq_true, hg, testBit_pow, List.mem_append, List.mem_singleton]
        · have hj2 : j < W.length := by
            have := (List.getElem?_eq_some_iff.mp hj).1
            rwa [vn_len] at this
          rw [vn_get hj2] at hj
          cases hj
          exact et_bit0 (ev_var rfl) (ev_var rfl)
        · have hj2 : j < W.length := by
            have := (List.getElem?_eq_some_iff.mp hj).1
            rwa [vn_len] at this
          rw [vn_get hj2] at hj
          cases hj
          exact ev_var rfl
      · have hi2 : i < m.length := by
          have := (List.getElem?_eq_some_iff.mp hx).1
          rwa [vn_len] at this
        rw [vn_get hi2] at hx
        cases hx
        refine et_test (ev_is (ev_op (ev_op (z := .int (Builtin.bitAnd ((m.getD i 0 : Nat) : Int) (g : Int))) (ev_var rfl) (ev_var rfl) (rv_I0 (g := fun i j => .int (Builtin.bitAnd i j)))) (ev_var rfl) (rv_eq rfl)) ?_)
        rw [bitAnd_pp (Int.natCast_nonneg _) (Int.natCast_nonneg _), Int.toNat_natCast, Int.toNat_natCast]
        congr 1
        exact decide_eq_decide.mpr ⟨fun z => by have := V.int.inj z; show m.getD i 0 &&& g = m.getD i 0; omega, fun z => by congr 1; exact congrArg Int.ofNat z⟩
    · have hge : O.length = n := by
        have := of_decide_eq_false hF
        omega
      exact ⟨_, rfl, kk l O H4 nl (e3.trans e4) (e4 _ _ hl3) pO hge⟩
end
end K57

set_option Elab.async false
set_option linter.all false
set_option maxRecDepth 100000
set_option maxHeartbeats 4000000
namespace K57
open PySem PySem.Spec PyProof.Rows L2 Evl M57
/-! ### a field is set -/
section
variable {K : PySem.W.Frag} {σ : L2.St} {H : Hp} {ta te : TE} {D : Ends} {tz : TS} {a C dx : Addr} {fs : List (Str × V)} {f : Str} {y : V}
theorem q_fld (h : Ev te σ H y) (ho : Ev ta σ H (.ref a)) (hk : H a = some (.ins C dx fs)) (c : Cls K C) (n : NoAttr K C f) (hl : fs.length < 1000) (k : ∀ H1, Ex (hid a H) H1 → H1 a = some (.ins C dx (putF f y fs)) → tz D σ H1) : tSeq (sFld K ta te f) tz D σ H :=
  h H (Ex.refl H) _ fun H1 e1 => ho H1 e1 _ fun H2 e2 => ⟨a, C, dx, fs, rfl, e2 _ _ (e1 _ _ hk), c, n, hl, k _ ((hid_mono (e1.trans e2)).trans hid_upd) upd_same⟩
theorem q_fldL {xs : List V} (h : EvL te σ H xs) (ho : ∀ H1, Ex H H1 → Ev ta σ H1 (.ref a)) (hk : H a = some (.ins C dx fs)) (c : Cls K C) (n : NoAttr K C f) (hl : fs.length < 1000)
    (k : ∀ p H1, H p = none → Ex (hid a H) H1 → H1 p = some (.lst xs) → H1 a = some (.ins C dx (putF f (.ref p) fs)) → tz D σ H1) : tSeq (sFld K ta te f) tz D σ H :=
  h H (Ex.refl H) _ fun p H1 np e1 hp => ho H1 e1 H1 (Ex.refl H1) _ fun H2 e2 => ⟨a, C, dx, fs, rfl, e2 _ _ (e1 _ _ hk), c, n, hl, k p _ np ((hid_mono (e1.trans e2)).trans hid_upd) (by rw [upd_ne (ne_of_none hk np).symm]; exact e2 _ _ hp) upd_same⟩
end
/-! ### lists of new lists -/
/-- a list p of the different lists rd, the i-th holds f i -/
structure LLx (H : Hp) (p : Addr) (rd : List Addr) (n : Nat) (f : Nat → List Nat) : Prop where
  at_ : H p = some (.lst (rd.map V.ref))
  len : rd.length = n
  nd : rd.Nodup
  np : p ∉ rd
  el : ∀ i r, rd[i]? = some r → H r = some (.lst (vn (f i)))
theorem LLx.mono {H H' : Hp} {p : Addr} {rd : List Addr} {n : Nat} {f : Nat → List Nat} (e : Ex H H') (h : LLx H p rd n f) : LLx H' p rd n f := ⟨e _ _ h.at_, h.len, h.nd, h.np, fun i r hr => e _ _ (h.el i r hr)⟩
theorem LLx.get {H : Hp} {p : Addr} {rd : List Addr} {n : Nat} {f : Nat → List Nat} (h : LLx H p rd n f) {i : Nat} (hi : i < n) : ∃ r, rd[i]? = some r ∧ r ∈ rd ∧ (rd.map V.ref)[i]? = some (.ref r) ∧ H r = some (.lst (vn (f i))) := by
  have hi' : i < rd.length := by rw [h.len]; exact hi
  exact ⟨rd[i], List.getElem?_eq_getElem hi', List.getElem_mem hi', by rw [List.getElem?_map, List.getElem?_eq_getElem hi']; rfl, h.el i _ (List.getElem?_eq_getElem hi')⟩
theorem LLx.put {H : Hp} {p : Addr} {rd : List Addr} {n : Nat} {f : Nat → List Nat} (h : LLx H p rd n f) {i : Nat} {r : Addr} (hr : rd[i]? = some r) (l : List Nat) : LLx (upd H r (.lst (vn l))) p rd n (fun j => if j = i then l else f j) := by
  have hm : r ∈ rd := List.mem_of_getElem? hr
  have hpr : p ≠ r := fun z => h.np (by rw [z]; exact hm)
  refine ⟨by rw [upd_ne hpr]; exact h.at_, h.len, h.nd, h.np, fun j s hs => ?_⟩
  by_cases q : j = i
  · subst q
    rw [hr] at hs
    cases hs
    rw [upd_same, if_pos rfl]
  · rw [if_neg q, upd_ne]
    · exact h.el j s hs
    · rintro rfl
      obtain ⟨h1, h2⟩ := List.getElem?_eq_some_iff.mp hs
      obtain ⟨h3, h4⟩ := List.getElem?_eq_some_iff.mp hr
      exact q ((List.getElem_inj h.nd).mp (h2.trans h4.symm))
theorem LLx.ll {H : Hp} {p : Addr} {rd : List Addr} {n : Nat} {f : Nat → List Nat} {B : List (List Nat)} (h : LLx H p rd n f) (hB : B.length = n) (e : ∀ i, i < n → row B i = f i) : LL H p B := by
  refine ⟨rd, h.at_, h.len.trans hB.symm, fun i r hr => ?_⟩
  have := (List.getElem?_eq_some_iff.mp hr).1
  rw [e i (by rw [← h.len]; exact this)]
  exact h.el i r hr
/-- e gives a list of n new lists -/
def EvLL (te : TE) (σ : L2.St) (H : Hp) (n : Nat) (f : Nat → List Nat) : Prop := ∀ H1, Ex H H1 → ∀ Q : VK, (∀ p rd H2, H1 p = none → Ex H1 H2 → LLx H2 p rd n f → (∀ r ∈ rd, H1 r = none) → Q (.ref p) H2) → te σ H1 Q
def Dw (H : Hp) (f : Nat → List Nat) (Dl : Addr) (i : Nat) (H' : Hp) : Prop := H Dl = none ∧ Ex H H' ∧ ∃ rd, LLx H' Dl rd i f ∧ ∀ r ∈ rd, H r = none
theorem dw_zero {H : Hp} {f : Nat → List Nat} {Dl : Addr} (h : H Dl = none) : Dw H f Dl 0 (upd H Dl (.lst [])) := ⟨h, Ex.new h, [], ⟨upd_same, rfl, .nil, by simp, fun i r hr => by simp at hr⟩, by simp⟩
theorem dw_turn {H H' : Hp} {f : Nat → List Nat} {te : TE} {Dl : Addr} {i : Nat} {σ2 : L2.St} (p : Dw H f Dl i H') (hi : i < 50000) (he : EvL te σ2 H (vn (f i))) :
    tYes σ2 H' fun b H3 => if b = true then te σ2 H3 fun y H4 => ∃ acc, H4 Dl = some (.lst acc) ∧ acc.length < sizeLine ∧ Dw H f Dl (i + 1) (upd H4 Dl (.lst (acc ++ [y]))) else Dw H f Dl (i + 1) H3 := by
  obtain ⟨hD, e, rd, L, hf⟩ := p
  show te σ2 H' _
  refine he H' e _ fun q H4 nq e4 hq => ⟨rd.map V.ref, e4 _ _ L.at_, sz_lt (by rw [List.length_map, L.len]; omega), hD, Ex.mut (e.trans e4) hD, rd ++ [q], ⟨?_, by simp [L.len], ?_, ?_, fun j r hr => ?_⟩, fun r hr => ?_⟩
  · rw [upd_same]; simp
  · refine List.nodup_append.mpr ⟨L.nd, by simp, fun a ha b hb z => ?_⟩
    rw [List.mem_singleton.mp hb] at z
    subst z
    obtain ⟨j, hj⟩ := List.getElem?_of_mem ha
    rw [L.el j _ hj] at nq
    cases nq
  · intro z
    rcases List.mem_append.mp z with z | z
    · exact L.np z
    · rw [← List.mem_singleton.mp z, L.at_] at nq; cases nq
  · by_cases hk : j < rd.length
    · rw [List.getElem?_append_left hk] at hr
      have hne : r ≠ Dl := fun z => L.np (z ▸ List.mem_of_getElem? hr)
      rw [upd_ne hne]
      exact e4 _ _ (L.el j r hr)
    · have h2 := (List.getElem?_eq_some_iff.mp hr).1
      rw [List.length_append, List.length_singleton] at h2
      have ej : j = rd.length := by omega
      subst ej
      rw [List.getElem?_append_right (Nat.le_refl _)] at hr
      simp at hr
      subst hr
      have hne : q ≠ Dl := fun z => by rw [z, L.at_] at nq; cases nq
      rw [upd_ne hne, L.len]
      exact hq
  · rcases List.mem_append.mp hr with hr | hr
    · exact hf r hr
    · rw [List.mem_singleton.mp hr]; exact fresh_back e nq
section
variable {K : PySem.W.Frag} {σ : L2.St} {H : Hp} {te : TE}
theorem ell_lcL {a : Addr} {xs : List V} {tl : TE} {j : Nat} {vs : List Nat} (f : Nat → List Nat) (h : Ev tl σ H (.ref a)) (hx : SqL K H a xs) (hz : xs.length ≤ 40000) (hw : ∀ x, wipe ((wipe σ vs).set j (some x)) vs = wipe σ vs)
    (he : ∀ (i : Nat) (x : V) H1, Ex H H1 → xs[i]? = some x → EvL te ((wipe σ vs).set j (some x)) H1 (vn (f i))) : EvLL (tLc (iList K tl) (gName j) tYes te vs) σ H xs.length f := fun H0 e Q q => h H0 e _ fun H1 e1 => ⟨a, rfl, ⟨xs, ex_l (e.trans e1) hx⟩, fun Dl hD =>
  lc_list (xs := xs) (Dw H1 f Dl) (dw_zero hD) (fun i H' _ p => ex_l ((e.trans e1).trans p.2.1) hx) (fun i x H' hi p => ⟨hw x, dw_turn p (by have := (List.getElem?_eq_some_iff.mp hi).1; omega) (he i x H1 (e.trans e1) hi)⟩)
    (fun H' p => let ⟨p1, p2, rd, p3, p4⟩ := p; q Dl rd H' (fresh_back e1 p1) (e1.trans p2) p3 fun r hr => fresh_back e1 (p4 r hr))⟩
theorem ell_lcR {ta : TA} {j : Nat} {vs : List Nat} {n : Nat} (f : Nat → List Nat) (h : EvA ta σ H [.int (n : Int)]) (hn : n ≤ 40000) (hw : ∀ x, wipe ((wipe σ vs).set j (some x)) vs = wipe σ vs)
    (he : ∀ (i : Nat) H1, Ex H H1 → i < n → EvL te ((wipe σ vs).set j (some (.int (i : Int)))) H1 (vn (f i))) : EvLL (tLc (iRng1 ta) (gName j) tYes te vs) σ H n f := fun H0 e Q q => h H0 e _ fun H1 e1 => ⟨(n : Int), rfl, by omega, by omega, fun Dl hD =>
  lc_range (lo := 0) (n := ((n : Int)).toNat) (Dw H1 f Dl) (dw_zero hD) (fun i H' hi p => by
    have e0 : (0 : Int) + (i : Int) = (i : Int) := Int.zero_add _
    show wipe ((wipe σ vs).set j (some (.int ((0 : Int) + (i : Int))))) vs = wipe σ vs ∧ tYes ((wipe σ vs).set j (some (.int ((0 : Int) + (i : Int))))) H' fun b H3 => if b = true then te ((wipe σ vs).set j (some (.int ((0 : Int) + (i : Int))))) H3 fun y H4 => ∃ acc, H4 Dl = some (.lst acc) ∧ acc.length < sizeLine ∧ Dw H1 f Dl (i + 1) (upd H4 Dl (.lst (acc ++ [y]))) else Dw H1 f Dl (i + 1) H3
    rw [e0]
    exact ⟨hw _, dw_turn p (by omega) (he i H1 (e.trans e1) (by omega))⟩) (fun H' p => by
      rw [Int.toNat_natCast] at p
      exact let ⟨p1, p2, rd, p3, p4⟩ := p; q Dl rd H' (fresh_back e1 p1) (e1.trans p2) p3 fun r hr => fresh_back e1 (p4 r hr))⟩
theorem q_fldLL {D : Ends} {tz : TS} {ta : TE} {a C dx : Addr} {fs : List (Str × V)} {f : Str} {n : Nat} {g : Nat → List Nat} (h : EvLL te σ H n g) (ho : ∀ H1, Ex H H1 → Ev ta σ H1 (.ref a)) (hk : H a = some (.ins C dx fs)) (c : Cls K C) (nn : NoAttr K C f) (hl : fs.length < 1000)
    (k : ∀ p rd H1, H p = none → Ex (hid a H) H1 → LLx H1 p rd n g → (∀ r ∈ rd, H r = none) → H1 a = some (.ins C dx (putF f (.ref p) fs)) → tz D σ H1) : tSeq (sFld K ta te f) tz D σ H :=
  h H (Ex.refl H) _ fun p rd H1 np e1 hp hf => ho H1 e1 H1 (Ex.refl H1) _ fun H2 e2 => ⟨a, C, dx, fs, rfl, e2 _ _ (e1 _ _ hk), c, nn, hl, by
    have L := hp.mono e2
    have nap : p ≠ a := (ne_of_none hk np).symm
    refine k p rd _ np ((hid_mono (e1.trans e2)).trans hid_upd) ⟨by rw [upd_ne nap]; exact L.at_, L.len, L.nd, L.np, fun i r hr => ?_⟩ hf upd_same
    rw [upd_ne (fun z => by rw [z] at hr; have := hf _ (List.mem_of_getElem? hr); rw [hk] at this; cases this)]
    exact L.el i r hr⟩
end
/-! ### sorted wires -/
def rowsAt (ps : List (Nat × Nat)) (u : Nat) : List Nat := (ps.filter fun q => decide (q.1 = u)).map Prod.snd
theorem rowsAt_snoc {ps : List (Nat × Nat)} {q : Nat × Nat} {u : Nat} : rowsAt (ps ++ [q]) u = if u = q.1 then rowsAt ps q.1 ++ [q.2] else rowsAt ps u := by
  unfold rowsAt
  rw [List.filter_append, List.map_append]
  by_cases h : u = q.1
  · subst h; simp
  · have h' : ¬ q.1 = u := fun z => h z.symm
    simp [h, h']
theorem mem_rowsAt {ps : List (Nat × Nat)} {u v : Nat} : v ∈ rowsAt ps u ↔ (u, v) ∈ ps := by
  unfold rowsAt
  rw [List.mem_map]
  constructor
  · rintro ⟨⟨a, b⟩, h, rfl⟩
    obtain ⟨h1, h2⟩ := List.mem_filter.mp h
    have : a = u := of_decide_eq_true h2
    subst this; exact h1
  · intro h
    exact ⟨(u, v), List.mem_filter.mpr ⟨h, decide_eq_true rfl⟩, rfl⟩
theorem rowsAt_asc {ps : List (Nat × Nat)} {u : Nat} (nd : ps.Nodup) (hs : ps.Pairwise fun p q => ¬ (q.1 < p.1 ∨ (q.1 = p.1 ∧ q.2 < p.2))) : (rowsAt ps u).Pairwise (· < ·) := by
  unfold rowsAt
  rw [List.pairwise_map]
  have h := (hs.and nd).filter (fun q => decide (q.1 = u))
  refine h.imp_of_mem fun {a b} ha hb hab => ?_
  have h1 : a.1 = u := of_decide_eq_true (List.mem_filter.mp ha).2
  have h2 : b.1 = u := of_decide_eq_true (List.mem_filter.mp hb).2
  obtain ⟨h3, h4⟩ := hab
  have : a.2 ≠ b.2 := fun z => h4 (Prod.ext (h1.trans h2.symm) z)
  omega
theorem direct_rows {n : Nat} {ps : List (Nat × Nat)} (d : Dag n ps) (hs : ps.Pairwise fun p q => ¬ (q.1 < p.1 ∨ (q.1 = p.1 ∧ q.2 < p.2))) :
    Rows n ((List.range n).map (rowsAt ps)) ∧ ∀ u, u < n → row ((List.range n).map (rowsAt ps)) u = rowsAt ps u := by
  have e : ∀ u, u < n → row ((List.range n).map (rowsAt ps)) u = rowsAt ps u := fun u hu => by
    unfold row
    rw [List.getD_eq_getElem?_getD, List.getElem?_map, List.getElem?_range hu]; rfl
  have e0 : ∀ u, ¬ u < n → row ((List.range n).map (rowsAt ps)) u = [] := fun u hu => by
    unfold row
    rw [List.getD_eq_getElem?_getD, List.getElem?_eq_none (by rw [List.length_map, List.length_range]; omega)]; rfl
  refine ⟨⟨by simp, fun u v hv => ?_, fun u => ?_⟩, e⟩
  · by_cases q : u < n
    · rw [e u q] at hv; exact (d.lt _ (mem_rowsAt.mp hv)).2
    · rw [e0 u q] at hv; simp at hv
  · by_cases q : u < n
    · rw [e u q]; exact rowsAt_asc d.nd hs
    · rw [e0 u q]; exact .nil
/-- which two numbers stand in a tuple -/
def keyOf (H : Hp) : V → Int × Int
  | .ref t => (match H t with | some (.tup [.int a, .int b]) => (a, b) | _ => (0, 0))
  | _ => (0, 0)
def adr : V → Addr
  | .ref t => t
  | _ => 0
theorem rSortedX_in {b : Bool} {K : PySem.W.Frag} {H : Hp} {Q : VK} {a : Addr} {rs : List Addr} {ps : List (Nat × Nat)} (ha : SqB b K H a (rs.map V.ref)) (w : WPrs H rs ps)
    (q : ∀ (rs' : List Addr) (ps' : List (Nat × Nat)) p, WPrs H rs' ps' → ps'.Perm ps → ps'.Pairwise (fun p q => ¬ (q.1 < p.1 ∨ (q.1 = p.1 ∧ q.2 < p.2))) → H p = none → Q (.ref p) (upd H p (.lst (rs'.map V.ref)))) : rSortedX b K [.ref a] H Q := by
  have hall : ∀ r ∈ rs, ∃ q : Nat × Nat, H r = some (.tup [.int (q.1 : Int), .int (q.2 : Int)]) := fun r hr => by
    obtain ⟨i, hi⟩ := List.getElem?_of_mem hr
    have hl := (List.getElem?_eq_some_iff.mp hi).1
    exact ⟨_, w.at_ i r _ hi (List.getElem?_eq_getElem (by rw [← w.len]; exact hl))⟩
  let κ : Addr → Nat × Nat := fun r => ((keyOf H (.ref r)).1.toNat, (keyOf H (.ref r)).2.toNat)
  have hκ : ∀ r (q : Nat × Nat), H r = some (.tup [.int (q.1 : Int), .int (q.2 : Int)]) → κ r = q ∧ keyOf H (.ref r) = ((q.1 : Int), (q.2 : Int)) := fun r q hr => by
    have e : keyOf H (.ref r) = ((q.1 : Int), (q.2 : Int)) := by unfold keyOf; simp only [hr]
    exact ⟨by show ((keyOf H (.ref r)).1.toNat, (keyOf H (.ref r)).2.toNat) = q; rw [e]; simp, e⟩
  have hps : ps = rs.map κ := by
    refine List.ext_getElem (by rw [List.length_map, w.len]) fun i h1 h2 => ?_
    rw [List.length_map] at h2
    rw [List.getElem_map]
    exact ((hκ _ _ (w.at_ i _ _ (List.getElem?_eq_getElem h2) (List.getElem?_eq_getElem h1))).1).symm
  have key : ∀ ys p, SrtO.Srtd (ltP (keyOf H)) ys → SrtO.Stb (ltP (keyOf H)) ys (rs.map V.ref) → H p = none → Q (.ref p) (upd H p (.lst ys)) := fun ys p hs hb np => by
    have hr : (ys.map adr).map V.ref = ys := by
      rw [List.map_map]
      refine (List.map_congr_left fun y hy => ?_).trans (List.map_id _)
      obtain ⟨r, _, rfl⟩ := List.mem_map.mp (hb.perm.mem_iff.mp hy)
      rfl
    have hp : (ys.map adr).Perm rs := by
      have := hb.perm.map adr
      rw [List.map_map] at this
      have e : rs.map (adr ∘ V.ref) = rs := (List.map_congr_left fun _ _ => rfl).trans (List.map_id _)
      rwa [e] at this
    have hq := q (ys.map adr) ((ys.map adr).map κ) p ⟨by simp, fun i r q h1 h2 => ?_⟩ ?_ ?_ np
    · rwa [hr] at hq
    · rw [List.getElem?_map, h1] at h2
      cases h2
      obtain ⟨q, hq⟩ := hall r (hp.mem_iff.mp (List.mem_of_getElem? h1))
      rw [(hκ r q hq).1]; exact hq
    · rw [hps]; exact hp.map κ
    · rw [List.pairwise_map]
      have hs' : ((ys.map adr).map V.ref).Pairwise fun x y => ltP (keyOf H) y x = false := by rw [hr]; exact hs
      rw [List.pairwise_map] at hs'
      refine hs'.imp_of_mem fun {a c} ha hc hac => ?_
      obtain ⟨p1, hp1⟩ := hall a (hp.mem_iff.mp ha)
      obtain ⟨p2, hp2⟩ := hall c (hp.mem_iff.mp hc)
      have h := SrtO.lexB_no.mp hac
      rw [(hκ a p1 hp1).2, (hκ c p2 hp2).2] at h
      rw [(hκ a p1 hp1).1, (hκ c p2 hp2).1]
      simp only at h
      omega
  have hx : ∀ x ∈ rs.map V.ref, ∃ t, x = .ref t ∧ H t = some (.tup [.int (keyOf H x).1, .int (keyOf H x).2]) := fun x hx => by
    obtain ⟨r, hr, rfl⟩ := List.mem_map.mp hx
    obtain ⟨q, hq⟩ := hall r hr
    exact ⟨r, rfl, by rw [(hκ r q hq).2]; exact hq⟩
  cases b
  · exact ⟨a, _, keyOf H, rfl, ha, hx, key⟩
  · exact ⟨a, _, keyOf H, rfl, ha, hx, key⟩
end K57

set_option Elab.async false
set_option linter.all false
set_option maxRecDepth 100000
set_option maxHeartbeats 4000000
namespace K57
open PySem PySem.Spec PyProof.Rows L2 Evl M57
section
variable {P : Program} {w : World} {K : PySem.W.Frag} {mg : Str → Option Value} {base : Heap} {CH C D : Addr}
structure HCls (K : PySem.W.Frag) (CH : Addr) : Prop where
  ex : ∃ mc u1 u2, ClX.CRead K CH mc ∧ ClX.CVal K CH mc "MOST_LAMPS" (.int 16) u1 ∧ ClX.CVal K CH mc "MOST_HUES" (.int 10) u2
abbrev s_House___init__ : Stmt := inClass (topS 21) 2
theorem sc_House___init__ : FnScope ["self", "count", "hues", "wires", "mask", "_", "upper", "lower"] ["self", "count", "hues", "wires"] (defScope s_House___init__) := ⟨rfl, rfl, rfl, by decide +kernel, rfl, by decide +kernel, by decide +kernel⟩
def sp_hinit (CH : Addr) : Sp := fun vs H Q _ => ∃ (k a dx : Addr) (n : Nat) (hues : Int) (b : Bool) (rs : List Addr) (ps : List (Nat × Nat)), vs = [.ref k, .int n, .int hues, .ref a] ∧ H k = some (.ins CH dx []) ∧ 1 ≤ n ∧ n ≤ 16 ∧ 2 ≤ hues ∧ hues ≤ 10 ∧ (if b = true then H a = some (.lst (rs.map V.ref)) else H a = some (.tup (rs.map V.ref))) ∧ WPrs H rs ps ∧ rs.length ≤ 300 ∧ Dag n ps ∧
  ∀ B D O H', Ex (hid k H) H' → Hse CH H' k n hues B D O → Rows n B → Rows n D → (∀ u, u < n → ∀ v, v ∈ row B u ↔ Pth ps u v) → (∀ u, u < n → ∀ v, v ∈ row D u ↔ (u, v) ∈ ps) → Pre n ps O → O.length = n → Q .non H'
theorem WPrs.hid {H : Hp} {k : Addr} {C dx : Addr} {fs : List (Str × V)} {rs : List Addr} {ps : List (Nat × Nat)} (hk : H k = some (.ins C dx fs)) (w : WPrs H rs ps) : WPrs (K57.hid k H) rs ps := ⟨w.len, fun i r q h1 h2 => by
  have h := w.at_ i r q h1 h2
  rw [hid_ne (by rintro rfl; rw [hk] at h; cases h)]; exact h⟩
theorem hid_of {H : Hp} {k a : Addr} {C dx : Addr} {fs : List (Str × V)} {o : HO} (hk : H k = some (.ins C dx fs)) (h : H a = some o) (hn : ∀ C dx fs, o ≠ .ins C dx fs) : K57.hid k H a = some o := by
  rw [hid_ne (by rintro rfl; rw [hk] at h; exact hn _ _ _ (Option.some.inj h).symm)]; exact h
theorem lookup_out {fs : List (Str × V)} {m : Str} (h : m ∉ fs.map Prod.fst) : fs.lookup m = none := by
  induction fs with
  | nil => rfl
  | cons a fs ih =>
    rw [List.map_cons, List.mem_cons, not_or] at h
    obtain ⟨x, y⟩ := a
    rw [List.lookup_cons, show (m == x) = false from beq_eq_false_iff_ne.mpr h.1]
    exact ih h.2
theorem hinit_gen {P : Hp → Prop} {X : Hp} {A1 A2 A3 : Hp → Prop} (h : ∀ X, A1 X → A2 X → A3 X → P X) (h1 : A1 X) (h2 : A2 X) (h3 : A3 X) : P X := h X h1 h2 h3
theorem LLx.hid {H : Hp} {k : Addr} {C dx : Addr} {fs : List (Str × V)} {p : Addr} {rd : List Addr} {n : Nat} {f : Nat → List Nat} (hk : H k = some (.ins C dx fs)) (h : LLx H p rd n f) : LLx (K57.hid k H) p rd n f :=
  ⟨hid_of hk h.at_ (by simp), h.len, h.nd, h.np, fun i r hr => hid_of hk (h.el i r hr) (by simp)⟩
theorem m_hinit {R : Addr → Prop} (B : Bi mg) (T : HTxt K CH) (HC : HCls K CH) (G_House : mg "House" = some (.ref CH)) (D_is_integer : DefOk P w K mg base "is_integer" 1 ["value"] sp_isint) (D_bits : DefOk P w K mg base "bits" 1 ["mask"] sp_bits)
    (D__join_wires : DefOk P w K mg base "_join_wires" 3 ["count", "wires"] sp_join) (D__turn_round : DefOk P w K mg base "_turn_round" 2 ["below"] sp_turn) (D__order_list : DefOk P w K mg base "_order_list" 1 ["masks"] sp_olist)
    (I : FnAt R K "__init__" "House.__init__" s_House___init__ ["self", "count", "hues", "wires"]) : FnAtOk R P w K mg base 4 ["self", "count", "hues", "wires"] (sp_hinit CH) := by
  obtain ⟨mc, u1, u2, CR, CV1, CV2⟩ := HC.ex
  have cl := T.cl
  refine I.ok sc_House___init__ (fun vs H Q E h => ?_) (fun f cdv A outer s H vs Q E hr h => ?_)
  · obtain ⟨_, _, _, _, _, _, _, _, rfl, _⟩ := h; rfl
  · obtain ⟨k, a, dx, n, hues, bb, rs, ps, rfl, hk, n1, n16, hu2, hu10, ha, hw, hrl, dg, kk⟩ := h
    refine ⟨_, (pss_cons (ps_if (PW.pt (pw_or (pt_not (pt_val (pe_callD D_is_integer (hr.mono (by decide)) (pa_cons (pv 1) pa_nil)))) (pw_or1 (pt_not (pt_chain op_le op_le pe_int (pv 1) (ClX.pe_cval (pe_glob (v := .ref _) rfl G_House rfl)))))))
      pss_never
      pss_nil)
      (pss_cons (ps_if (PW.pt (pw_or (pt_not (pt_val (pe_callD D_is_integer (hr.mono (by decide)) (pa_cons (pv 2) pa_nil)))) (pw_or1 (pt_not (pt_chain op_le op_le pe_int (pv 2) (ClX.pe_cval (pe_glob (v := .ref _) rfl G_House rfl)))))))
      pss_never
      pss_nil)
      (pss_cons (ps_fld (pv 0) (pe_callD D__join_wires (hr.mono (by decide)) (pa_cons (pv 1) (pa_cons (pv 3) pa_nil))) rfl)
      (pss_cons (ps_fld (pv 0) (pe_callD D__turn_round (hr.mono (by decide)) (pa_cons (pe_fld (pv 0) rfl) pa_nil)) rfl)
      (pss_cons (ps_fld (pv 0) (pe_lc (own := [("mask", 4)]) (g := gName 4) (tt := tYes) rfl sc_House___init__.nd (pi_list (pe_fld (pv 0) rfl)) (blkOk_by (own := [("mask", 4)]) (N := ["self", "count", "hues", "wires", "mask", "_", "upper", "lower"]) (sc := defScope s_House___init__) (by decide +kernel)) (fun _ _ _ _ _ => by exact (pg_name (i := 4) sc_House___init__.nd rfl (Or.inl rfl))) (fun _ _ _ _ _ => by exact pts_nil) (fun _ _ _ _ _ => by exact (pe_callD D_bits (hr.mono (by decide)) (pa_cons (pv 4) pa_nil)))) rfl)
      (pss_cons (ps_fld (pv 0) (pe_lc (own := [("mask", 4)]) (g := gName 4) (tt := tYes) rfl sc_House___init__.nd (pi_list (pe_fld (pv 0) rfl)) (blkOk_by (own := [("mask", 4)]) (N := ["self", "count", "hues", "wires", "mask", "_", "upper", "lower"]) (sc := defScope s_House___init__) (by decide +kernel)) (fun _ _ _ _ _ => by exact (pg_name (i := 4) sc_House___init__.nd rfl (Or.inl rfl))) (fun _ _ _ _ _ => by exact pts_nil) (fun _ _ _ _ _ => by exact (pe_callD D_bits (hr.mono (by decide)) (pa_cons (pv 4) pa_nil)))) rfl)
      (pss_cons (ps_fld (pv 0) (pe_callD D__order_list (hr.mono (by decide)) (pa_cons (pe_fld (pv 0) rfl) pa_nil)) rfl)
      (pss_cons (ps_fld (pv 0) (pv 1) rfl)
      (pss_cons (ps_fld (pv 0) (pv 2) rfl)
      (pss_cons (ps_fld (pv 0) (pe_callTy call_tuple_of (by rfl) B.tuple (by decide +kernel) (pa_cons (pe_callB (cr_sortedX bb) (by rfl) B.sorted (by decide +kernel) (pa_cons (pv 3) pa_nil)) pa_nil)) rfl)
      (pss_cons (ps_fld (pv 0) (pe_lc (own := [("_", 5)]) (g := gName 5) (tt := tYes) rfl sc_House___init__.nd (pi_range1 rfl B.range (pa_cons (pv 1) pa_nil)) (blkOk_by (own := [("_", 5)]) (N := ["self", "count", "hues", "wires", "mask", "_", "upper", "lower"]) (sc := defScope s_House___init__) (by decide +kernel)) (fun _ _ _ _ _ => by exact (pg_name (i := 5) sc_House___init__.nd rfl (Or.inl rfl))) (fun _ _ _ _ _ => by exact pts_nil) (fun _ _ _ _ _ => by exact (pe_lst pa_nil))) rfl)
      (pss_one (ps_for PassesOwn.never rfl (pi_tup (pe_fld (pv 0) rfl)) (pg_tup rfl (pgs_cons (pg_name (i := 6) sc_House___init__.nd rfl (Or.inl rfl)) (pgs_cons (pg_name (i := 7) sc_House___init__.nd rfl (Or.inl rfl)) pgs_nil)))
      (pss_one (ps_expr (pe_bm PySem.F.plainAttrs_list PySem.F.slot_list_append PySem.F.type_list_append mt_append (pe_ix ix_list (pe_fld (pv 0) rfl) (pv 6) (fun _ _ => rfl)) (pa_cons (pv 7) pa_nil))))))))))))))))), ?_⟩
    refine ⟨_, rfl, _, rfl, fun H1 e1 => ⟨_, rfl, iteF ?_⟩⟩
    refine ⟨_, rfl, _, _, rfl, rfl, _, rfl, iteD (by omega) ⟨CH, mc, _, u1, rfl, CR, CV1, _, _, rfl, rfl, _, rfl, ?_⟩⟩
    rw [decide_eq_true (show (n : Int) ≤ 16 by omega)]
    refine iteF ?_
    refine ⟨_, rfl, _, rfl, fun H2 e2 => ⟨_, rfl, iteF ?_⟩⟩
    refine ⟨_, rfl, _, _, rfl, rfl, _, rfl, iteD (by omega) ⟨CH, mc, _, u2, rfl, CR, CV2, _, _, rfl, rfl, _, rfl, ?_⟩⟩
    rw [decide_eq_true (show hues ≤ 10 by omega)]
    refine iteF ?_
    have e02 := e1.trans e2
    have hk2 := e02 _ _ hk
    have ha2 : if bb = true then H2 a = some (.lst (rs.map V.ref)) else H2 a = some (.tup (rs.map V.ref)) := by
      cases bb
      · exact e02 _ _ ha
      · exact e02 _ _ ha
    -- the masks
    refine ⟨_, rfl, _, rfl, n, bb, a, rs, ps, rfl, ha2, hw.mono e02, dg, n16, fun p m H3 np e3 hp mk => ⟨_, rfl, k, CH, dx, [], rfl, e3 _ _ hk2, cl, T.bm, (show 0 < 1000 by decide), ?_⟩⟩
    have npk : p ≠ k := (ne_of_none hk2 np).symm
    refine hinit_gen (fun X3 (g3 : Ex (hid k H) X3) (hk3 : X3 k = some (.ins CH dx [("_below_masks", .ref p)])) (hp3 : X3 p = some (.lst (vn m))) => ?_) ((hid_mono (e02.trans e3)).trans hid_upd) upd_same (by rw [upd_ne npk]; exact hp)
    refine ⟨_, rfl, k, CH, dx, _, _, rfl, hk3, cl, T.bm, rfl, n, p, Pth ps, m, rfl, hp3, mk, n16, fun p2 m2 H4 np2 e4 hp2 mk2 => ⟨_, rfl, k, CH, dx, _, rfl, e4 _ _ hk3, cl, T.am, (show 1 < 1000 by decide), ?_⟩⟩
    have npk2 : p2 ≠ k := (ne_of_none hk3 np2).symm
    refine hinit_gen (fun X4 (g4 : Ex (hid k X3) X4) (hk4 : X4 k = some (.ins CH dx [("_below_masks", .ref p), ("_above_masks", .ref p2)])) (hp4 : X4 p2 = some (.lst (vn m2))) => ?_) ((hid_mono e4).trans hid_upd) upd_same (by rw [upd_ne npk2]; exact hp2)
    have lm := mk.len
    have lm2 := mk2.len
    have q4 := g4 _ _ (hid_of hk3 hp3 (by simp))
    -- the rows below
    have bitsE : ∀ {H' : Hp} {v : V} {σ : L2.St} {x : Nat}, σ[4]? = some (some (.int (x : Int))) → x < 2 ^ n → EvL (tCall sp_bits [] E0 (tCons (tVar 4) tNil)) σ H' (vn (bitsOf n x)) := fun h hx => el_call (ea_cons (ev_var h) ea_nil) fun H5 e5 Q q E => ⟨_, n, rfl, hx, n16, q⟩
    have lcE : ∀ {X : Hp} {p : Addr} {m : List Nat} {fs : List (Str × V)} {fl : Str}, X k = some (.ins CH dx fs) → NoAttr K CH fl → fs.lookup fl = some (.ref p) → X p = some (.lst (vn m)) → m.length = n → (∀ i, mat m i < 2 ^ n) →
        EvLL (tLc (iList K (tFld K (tVar 0) fl)) (gName 4) tYes (tCall sp_bits [] E0 (tCons (tVar 4) tNil)) [4]) [some (.ref k), some (.int n), some (.int hues), some (.ref a), none, none, none, none] X n (fun i => bitsOf n (mat m i)) := fun {X p m fs fl} hk na hl hp lm hb => by
      have key := ell_lcL (K := K) (σ := [some (.ref k), some (.int n), some (.int hues), some (.ref a), none, none, none, none]) (H := X) (te := tCall sp_bits [] E0 (tCons (tVar 4) tNil)) (a := p) (xs := vn m) (tl := tFld K (tVar 0) fl) (j := 4) (vs := [4]) (fun i => bitsOf n (mat m i))
        (ev_fld (ev_var rfl) hk cl na hl) (SqL.of hp) (by rw [vn_len, lm]; omega) (fun _ => rfl) (fun i x H1 e1 hi => ?_)
      · rwa [vn_len, lm] at key
      · have hi2 : i < m.length := by
          have := (List.getElem?_eq_some_iff.mp hi).1
          rwa [vn_len] at this
        rw [vn_get hi2] at hi
        cases hi
        exact bitsE (v := .non) rfl (hb i)
    refine q_fldLL (lcE hk4 T.bm rfl q4 lm mk.lt) (fun _ _ => ev_var rfl) hk4 cl T.below (show 2 < 1000 by decide) fun pb rb X5 npb g5 L5 fb5 hk5 => ?_
    have q5 := g5 _ _ (hid_of hk4 hp4 (by simp))
    refine q_fldLL (lcE hk5 T.am rfl q5 lm2 mk2.lt) (fun _ _ => ev_var rfl) hk5 cl T.above (show 3 < 1000 by decide) fun pa ra X6 npa g6 L6 fa6 hk6 => ?_
    have q6 := g6 _ _ (hid_of hk5 q5 (by simp))
    have Lb6 := (L5.hid hk5).mono g6
    -- the order
    refine ⟨_, rfl, k, CH, dx, _, _, rfl, hk6, cl, T.am, rfl, n, p2, ps, m2, rfl, q6, mk2, dg, n16, fun po O H7 npo e7 hpo pO lO => ⟨_, rfl, k, CH, dx, _, rfl, e7 _ _ hk6, cl, T.order, (show 4 < 1000 by decide), ?_⟩⟩
    have npok : po ≠ k := (ne_of_none hk6 npo).symm
    refine hinit_gen (fun X7 (g7 : Ex (hid k X6) X7) (hk7 : X7 k = some (.ins CH dx [("_below_masks", .ref p), ("_above_masks", .ref p2), ("_below", .ref pb), ("_above", .ref pa), ("_order", .ref po)])) (hp7 : X7 po = some (.lst (vn O))) => ?_) ((hid_mono e7).trans hid_upd) upd_same (by rw [upd_ne npok]; exact hpo)
    have Lb7 := (Lb6.hid hk6).mono g7
    refine q_fld (ev_var rfl) (ev_var rfl) hk7 cl T.count (show 5 < 1000 by decide) fun X8 g8 hk8 => ?_
    refine q_fld (ev_var rfl) (ev_var rfl) hk8 cl T.hues (show 6 < 1000 by decide) fun X9 g9 hk9 => ?_
    have g79 : Ex (hid k X7) X9 := (exh g8).trans g9
    have Lb9 := (Lb7.hid hk7).mono g79
    have ho9 := g79 _ _ (hid_of hk7 hp7 (by simp))
    have gH9 : Ex (hid k H) X9 := (exh ((exh ((exh ((exh ((exh g3).trans g4)).trans g5)).trans g6)).trans g7)).trans g79
    -- the wires
    have haB : SqB bb K X9 a (rs.map V.ref) := by
      refine sqB_of ?_
      cases bb
      · exact gH9 _ _ (hid_of hk ha (by simp))
      · exact gH9 _ _ (hid_of hk ha (by simp))
    have hw9 : WPrs X9 rs ps := (hw.hid hk).mono gH9
    refine ⟨_, rfl, rSortedX_in haB hw9 fun rs' ps' q w' pp sp nq => ⟨_, _, rfl, .inl ⟨SqL.of upd_same, fun l nl => ⟨_, rfl, k, CH, dx, _, rfl, (Ex.new nl) _ _ ((Ex.new nq) _ _ hk9), cl, T.wires, (show 7 < 1000 by decide), ?_⟩⟩⟩⟩
    have nlk : l ≠ k := (ne_of_none ((Ex.new nq) _ _ hk9) nl).symm
    have eW := (Ex.new (o := .lst (rs'.map V.ref)) nq).trans (Ex.new (o := .tup (rs'.map V.ref)) nl)
    refine hinit_gen (fun X10 (g10 : Ex (hid k X9) X10) (hk10 : X10 k = some (.ins CH dx [("_below_masks", .ref p), ("_above_masks", .ref p2), ("_below", .ref pb), ("_above", .ref pa), ("_order", .ref po), ("count", .int n), ("hues", .int hues), ("wires", .ref l)])) (hl10 : X10 l = some (.tup (rs'.map V.ref))) => ?_) ((hid_mono eW).trans hid_upd) upd_same (by rw [upd_ne nlk]; exact upd_same)
    have w10 : WPrs X10 rs' ps' := (w'.hid hk9).mono g10
    have Lb10 := (Lb9.hid hk9).mono g10
    have ho10 := g10 _ _ (hid_of hk9 ho9 (by simp))
    have gH10 : Ex (hid k H) X10 := (exh gH9).trans g10
    -- the direct rows
    refine q_fldLL (ell_lcR (n := n) (fun _ => []) (ea_cons (ev_var rfl) ea_nil) (by omega) (fun _ => rfl) (fun i H1 e1 hi => el_lst ea_nil (by decide))) (fun _ _ => ev_var rfl) hk10 cl T.direct (show 8 < 1000 by decide) fun pd rd X11 npd g11 L11 fd11 hk11 => ?_
    have hlen : rs'.length = ps'.length := w'.len
    have dg' : Dag n ps' := dg.perm pp
    have hl11 := g11 _ _ (hid_of hk10 hl10 (by simp))
    refine s_forT (K := K) (a := l) (xs := rs'.map V.ref) (ev_fld (ev_var rfl) hk11 cl T.wires rfl) (SqT.of hl11) (fun i σ H' => Ex (hid k X10) H' ∧ H' k = some (.ins CH dx [("_below_masks", .ref p), ("_above_masks", .ref p2), ("_below", .ref pb), ("_above", .ref pa), ("_order", .ref po), ("count", .int n), ("hues", .int hues), ("wires", .ref l), ("_direct", .ref pd)]) ∧
        LLx H' pd rd n (rowsAt (ps'.take i)) ∧ ∃ x y, σ = [some (.ref k), some (.int n), some (.int hues), some (.ref a), none, none, x, y])
      (fun H1 e1 => ⟨g11.trans e1, e1 _ _ hk11, by rw [List.take_zero]; exact L11.mono e1, _, _, rfl⟩) (fun i σ H' _ z => SqT.of (z.1 _ _ (hid_of hk10 hl10 (by simp)))) ?_ ?_
    · rintro i z σ H' hi ⟨e', hk', L', x0, y0, rfl⟩
      rw [List.getElem?_map] at hi
      obtain ⟨r, hr, rfl⟩ := Option.map_eq_some_iff.mp hi
      have hi2 : i < ps'.length := by rw [← hlen]; exact (List.getElem?_eq_some_iff.mp hr).1
      have hrt := e' _ _ (hid_of hk10 (w10.at_ i r _ hr (List.getElem?_eq_getElem hi2)) (by simp))
      have htake : ps'.take (i + 1) = ps'.take i ++ [ps'[i]] := by rw [List.take_add_one, List.getElem?_eq_getElem hi2]; rfl
      have hlt := dg'.lt _ (List.getElem_mem hi2)
      generalize ps'[i] = q at hrt htake hlt
      obtain ⟨u, v⟩ := q
      dsimp only at hrt hlt
      obtain ⟨row, h1, h2, h3, h4⟩ := L'.get hlt.1
      have hr0 := fd11 _ h2
      have nkr : k ≠ row := ne_of_none hk10 hr0
      refine ⟨r, _, rfl, SqT.of hrt, rfl, _, _, rfl, _, _, rfl, rfl, ?_⟩
      have hll : (rowsAt (ps'.take i) u).length ≤ 300 := by
        unfold rowsAt
        rw [List.length_map]
        refine Nat.le_trans (List.length_filter_le _ _) ?_
        rw [List.length_take, ← hlen]
        have := w'.len
        have := pp.length_eq
        have := hw.len
        omega
      refine s_app (l := row) h4 (ev_op (ev_fld (ev_var rfl) hk' cl T.direct rfl) (ev_var rfl) (rv_ixL (SqL.of L'.at_) (atI_nat h3))) (ev_var rfl) (by rw [vn_len]; omega) fun H2 e2 => ?_
      refine ⟨Ex.mut (e'.trans e2) (by rw [hid_ne nkr.symm]; exact hr0), by rw [upd_ne nkr]; exact e2 _ _ hk', ?_, _, _, rfl⟩
      have L2 := (L'.mono e2).put h1 (rowsAt (ps'.take i) u ++ [v])
      rw [vn_app']
      refine ⟨L2.at_, L2.len, L2.nd, L2.np, fun j r2 hj => ?_⟩
      rw [htake, rowsAt_snoc]
      exact L2.el j r2 hj
    · rintro σ H' ⟨e', hk', L', x0, y0, rfl⟩
      rw [List.length_map, hlen, List.take_length] at L'
      obtain ⟨RB, mB⟩ := masks_rows mk
      obtain ⟨RD, rD⟩ := direct_rows dg' sp
      refine kk (m.map (bitsOf n)) ((List.range n).map (rowsAt ps')) O H' ((exh gH10).trans e') ⟨⟨dx, _, pb, pd, po, l, rs', ps', hk', rfl, rfl, rfl, ((Lb10.hid hk10).mono e').ll RB.len fun i hi => ?_, rfl, L'.ll RD.len rD, rfl, e' _ _ (hid_of hk10 ho10 (by simp)), rfl, e' _ _ (hid_of hk10 hl10 (by simp)), (w10.hid hk10).mono e', ?_, fun m hm => lookup_out hm⟩, n1, n16, RB.len, RD.len, lO, fun i => Nat.le_trans (RB.len_le i) n16, fun i => Nat.le_trans (RD.len_le i) n16⟩ RB RD (fun u hu v => ?_) (fun u hu v => ?_) pO lO
      · unfold row mat
        rw [List.getD_eq_getElem?_getD, List.getElem?_map, List.getD_eq_getElem?_getD, List.getElem?_eq_getElem (by omega : i < m.length)]; rfl
      · rw [hlen, pp.length_eq, ← hw.len]; exact hrl
      · rw [mB u hu v]
        exact ⟨fun z => z.2, fun z => ⟨(dg.pth_lt z).2, z⟩⟩
      · rw [rD u hu, mem_rowsAt]
        exact pp.mem_iff
end
end K57

set_option Elab.async false
set_option linter.all false
set_option maxRecDepth 100000
set_option maxHeartbeats 4000000
namespace K57
open PySem PySem.Spec PyProof.Rows L2 Evl M57
/-! ### == of the same objects -/
def DSame : Eqv := fun x y _ => ∃ a, x = .ref a ∧ y = .ref a
theorem mon_same : Mon DSame := fun _ _ _ _ _ d => d
theorem eqG_same {X : Cx} : EqG X 0 DSame := by
  intro A pins s σ H x y u v sb I rx ry d
  obtain ⟨a, rfl, rfl⟩ := d
  cases rx
  cases ry
  exact SeqAt.EqAt.same (A := A) (s := s) (.ref a) X.prog X.w X.xe _ ⟨rfl, H, I, Ext.rfl'⟩
/-- the house is equal to itself -/
def REq (CH : Addr) : Addr → Addr → Hp → Prop := fun a b H => a = b ∧ ∃ (n : Nat) (hues : Int) (B D : List (List Nat)) (O : List Nat), Hse CH H a n hues B D O
theorem op_eqH {X : Cx} {CH : Addr} {k : Nat} (S : MethOk X.prog X.w X.K X.mg X.base CH "__eq__" k ["self", "other"] [] (spEq (REq CH))) (hr : Room k X.A) : OpR X (compareOp .Eq) (rEqG (DIns CH (REq CH))) := by
  obtain ⟨f, fd, ds, M, b, v, F⟩ := S.ex
  cases v
  exact op_eqG (rcG_ins F M.at_ M.fn b pass0) hr
structure HIs (K : PySem.W.Frag) (CH : Addr) : Prop where
  ha : PySem.W.findIn K (.ref CH) "__class__" = some (some (.builtin "object.__class__"))
  hn : PySem.W.specialIn K (.builtin "object.__class__") "__get__" = some (some (.builtin "getset_descriptor.__get__"))
  htk : PySem.W.takesIn K (.builtin "object.__class__") = some true
  hm : PySem.W.mroIn K CH (.type "object") = some true
  kit : PySem.W.kitOne K (.ref CH) (.ref CH) = some true
section
variable {P : Program} {w : World} {K : PySem.W.Frag} {mg : Str → Option Value} {base : Heap} {CH : Addr}
abbrev s_House___eq__ : Stmt := inClass (topS 21) 3
theorem sc_House___eq__ : FnScope ["self", "other"] ["self", "other"] (defScope s_House___eq__) := ⟨rfl, rfl, rfl, by decide +kernel, rfl, by decide +kernel, by decide +kernel⟩
theorem m_eq (B : Bi mg) (T : HTxt K CH) (HI : HIs K CH) (G_House : mg "House" = some (.ref CH)) (I : MethIs K CH "__eq__" "__eq__" "House.__eq__" s_House___eq__ ["self", "other"]) : MethOk P w K mg base CH "__eq__" 2 ["self", "other"] [] (spEq (REq CH)) := by
  refine I.ok sc_House___eq__ (fun vs H Q E h => ?_) (fun f cdv A outer s H vs Q E hr h => ?_)
  · obtain ⟨_, _, rfl, _⟩ := h; rfl
  · obtain ⟨a, b, rfl, ⟨rfl, n, hues, B', D', O, hh⟩, kk⟩ := h
    refine ⟨_, (pss_one (ps_ret (pe_and (pe_callB call_isi (by rfl) B.isinstance boot_isinstance (pa_cons (pv 1) (pa_cons (pe_glob (v := .ref _) rfl G_House rfl) pa_nil))) (pe_and (pe_cmpR op_eq (pe_fld (pv 0) rfl) (pe_fld (pv 1) rfl) (nomark _)) (pe_and (pe_cmpR op_eq (pe_fld (pv 0) rfl) (pe_fld (pv 1) rfl) (nomark _)) (pe_one (pe_cmpR (op_eqG (rcG_tup mon_same eqG_same) (hr.mono (by decide))) (pe_fld (pv 0) rfl) (pe_fld (pv 1) rfl) (nomark _)))))))), ?_⟩
    obtain ⟨dx, fs, a1, a2, a3, a4, rs, ps, h1, h2, h3, h4, h5, h6, h7, h8, h9, h10, h11, h12, h13⟩ := hh.ex
    refine ⟨_, rfl, _, _, _, _, true, rfl, .own _, .base (.ins h1 T.cl HI.ha HI.hn HI.htk HI.hm), HI.kit, true, rfl, iteT ?_⟩
    refine ⟨_, rfl, a, CH, dx, fs, _, rfl, h1, T.cl, T.count, h2, _, rfl, a, CH, dx, fs, _, rfl, h1, T.cl, T.count, h2, rfl, _, rfl, ?_⟩
    refine iteD rfl ?_
    refine ⟨_, rfl, a, CH, dx, fs, _, rfl, h1, T.cl, T.hues, h3, _, rfl, a, CH, dx, fs, _, rfl, h1, T.cl, T.hues, h3, rfl, _, rfl, ?_⟩
    refine iteD rfl ?_
    refine ⟨_, rfl, a, CH, dx, fs, _, rfl, h1, T.cl, T.wires, h10, _, rfl, a, CH, dx, fs, _, rfl, h1, T.cl, T.wires, h10, ⟨a4, a4, _, _, rfl, rfl, SqT.of h11, SqT.of h11, rfl, fun i x y hx hy => ?_⟩, fun H' e => kk H' e⟩
    rw [hx] at hy
    cases hy
    rw [List.getElem?_map] at hx
    obtain ⟨r, _, rfl⟩ := Option.map_eq_some_iff.mp hx
    exact ⟨r, rfl, rfl⟩
end
end K57

set_option Elab.async false
set_option linter.all false
set_option maxRecDepth 100000
set_option maxHeartbeats 4000000
namespace K57
open PySem PySem.Spec PyProof.Rows L2 Evl M57
section
variable {P : Program} {w : World} {K : PySem.W.Frag} {mg : Str → Option Value} {base : Heap} {σ : L2.St} {H : Hp}
theorem dpAll_vn {L : List Nat} : DpAll K H (vn L) (L.map fun k : Nat => PyData.int (k : Int)) := by
  induction L with
  | nil => exact .nil
  | cons a L ih => exact .cons (.int _) ih
theorem shaped_vn (L : List Nat) : SeqAt.shaped (.list (L.map fun k : Nat => PyData.int (k : Int))) = true := by
  have h1 : PyData.canLayAll0 (L.map fun k : Nat => PyData.int (k : Int)) = true := by
    induction L with
    | nil => simp [PyData.canLayAll0]
    | cons a L ih => simp [PyData.canLayAll0, PyData.canLay0] at ih ⊢; exact ih
  have h2 : PyData.depthAll (L.map fun k : Nat => PyData.int (k : Int)) ≤ 1 := by
    clear h1
    induction L with
    | nil => simp [PyData.depthAll]
    | cons a L ih => simp [PyData.depthAll, PyData.depth] at ih ⊢; omega
  have h3 : PyData.depth (.list (L.map fun k : Nat => PyData.int (k : Int))) ≤ 64 := by
    simp only [PyData.depth]
    omega
  show (PyData.canLay0 (.list (L.map fun k : Nat => PyData.int (k : Int))) && decide (PyData.depth (.list (L.map fun k : Nat => PyData.int (k : Int))) ≤ 64)) = true
  rw [Bool.and_eq_true]
  exact ⟨by simp only [PyData.canLay0]; exact h1, decide_eq_true h3⟩
theorem rv_eqNil {a b : Addr} {L : List Nat} (ha : H a = some (.lst (vn L))) (hb : H b = some (.lst [])) : RV (rEqD K) (.ref a) (.ref b) H (.bl (decide (L = []))) := fun H1 e Q q =>
  ⟨_, _, .lst (SqL.of (e _ _ ha)) dpAll_vn, .lst (SqL.of (e _ _ hb)) .nil, shaped_vn L, rfl, by
    cases L with
    | nil => exact q H1 (Ex.refl H1)
    | cons a L => exact q H1 (Ex.refl H1)⟩
/-- a row of a list of lists -/
theorem ev_row {ta tb : TE} {a : Addr} {T : List (List Nat)} {i : Nat} (hl : LL H a T) (hi : i < T.length) : ∃ r, H r = some (.lst (vn (row T i))) ∧ ∀ {σ : L2.St} {H' : Hp}, Ex H H' → Ev ta σ H' (.ref a) → Ev tb σ H' (.int (i : Int)) → Ev (tOp (rIxL K) ta tb) σ H' (.ref r) := by
  obtain ⟨rs, r, h1, h2, h3⟩ := hl.at_ hi
  exact ⟨r, h3, fun e ha hb => ev_op ha hb (rv_ixL (SqL.of (e _ _ h1)) (atI_nat h2))⟩
abbrev s__law_numbers : Stmt := topS 54
theorem sc__law_numbers : FnScope ["_law_way", "_law_hues", "_law_gain", "_law_sizes", "_law_size"] ["_law_way", "_law_hues", "_law_gain", "_law_sizes"] (defScope s__law_numbers) := ⟨rfl, rfl, rfl, by decide +kernel, rfl, by decide +kernel, by decide +kernel⟩
def sp_numbers : Sp := fun vs H Q _ => ∃ (way : Nat) (hues gain : Int) (a : Addr) (sz : List Int), vs = [.int way, .int hues, .int gain, .ref a] ∧ H a = some (.lst (vi sz)) ∧ sz.length ≤ 16 ∧
  ∀ p H', H p = none → Ex H H' → H' p = some (.lst (vi (if way = 4 then List.replicate sz.length gain else if way = 6 then sz.map (· - 1) else List.replicate sz.length (hues - 1)))) → Q (.ref p) H'
theorem repI {n : Nat} {x : Int} : (List.replicate n [V.int x]).flatten = vi (List.replicate n x) := by
  induction n with
  | zero => rfl
  | succ n ih => rw [List.replicate_succ, List.flatten_cons, ih]; rfl
theorem el_repI {ta tb : TE} {n : Nat} {x : Int} (hn : n ≤ 1000) (hx : Ev ta σ H (.int x)) (h : ∀ H1, Ex H H1 → Ev tb σ H1 (.int (n : Int))) : EvL (tOp rRep (tLst (tCons ta tNil)) tb) σ H (vi (List.replicate n x)) := fun H0 e0 Q q =>
  hx H0 e0 _ fun H1 e1 => ⟨by show 1 ≤ sizeLine; decide, fun l nl => h (upd H1 l _) ((e0.trans e1).trans (Ex.new nl)) _ (Ex.refl _) _ fun H2 e2 => ⟨l, (n : Int), [.int x], rfl, rfl, e2 _ _ upd_same, by omega, by omega, by show 1 * (n : Int).toNat ≤ sizeLine; rw [Int.toNat_natCast, Nat.one_mul]; exact Nat.le_of_lt (small1000 hn), fun p np => by
    rw [Int.toNat_natCast, repI]
    exact q p _ (fresh_back (e1.trans ((Ex.new nl).trans e2)) np) ((e1.trans ((Ex.new nl).trans e2)).trans (Ex.new np)) upd_same⟩⟩
theorem d_numbers (B : Bi mg) (I : DefIs K mg "_law_numbers" "_law_numbers" s__law_numbers ["_law_way", "_law_hues", "_law_gain", "_law_sizes"]) : DefOk P w K mg base "_law_numbers" 1 ["_law_way", "_law_hues", "_law_gain", "_law_sizes"] sp_numbers := by
  refine I.ok sc__law_numbers (fun vs H Q E h => ?_) (fun f cdv A outer s H vs Q E hr h => ?_)
  · obtain ⟨_, _, _, _, _, rfl, _⟩ := h; rfl
  · obtain ⟨way, hues, gain, a, sz, rfl, ha, hn, kk⟩ := h
    refine ⟨_, (pss_cons (ps_if (pt_cmpR op_eq (pv 0) pe_int (nomark _))
      (pss_one (ps_ret (pe_op op_rep (pe_lst (pa_cons (pv 2) pa_nil)) (pe_callB call_len (by rfl) B.len PySem.boot_len (pa_cons (pv 3) pa_nil)))))
      pss_nil)
      (pss_cons (ps_if (pt_cmpR op_eq (pv 0) pe_int (nomark _))
      (pss_one (ps_ret (pe_lc (own := [("_law_size", 4)]) (g := gName 4) (tt := tYes) rfl sc__law_numbers.nd (pi_list (pv 3)) (blkOk_by (own := [("_law_size", 4)]) (N := ["_law_way", "_law_hues", "_law_gain", "_law_sizes", "_law_size"]) (sc := defScope s__law_numbers) (by decide +kernel)) (fun _ _ _ _ _ => by exact (pg_name (i := 4) sc__law_numbers.nd rfl (Or.inl rfl))) (fun _ _ _ _ _ => by exact pts_nil) (fun _ _ _ _ _ => by exact (pe_op op_sub (pv 4) pe_int)))))
      pss_nil)
      (pss_one (ps_ret (pe_op op_rep (pe_lst (pa_cons (pe_op op_sub (pv 1) pe_int) pa_nil)) (pe_callB call_len (by rfl) B.len PySem.boot_len (pa_cons (pv 3) pa_nil))))))), ?_⟩
    have len : ∀ H1, Ex H H1 → Ev (tCB (fun xs H Q => ∃ x n, xs = [x] ∧ LenV K x H n ∧ Q (.int n) H) (tCons (tVar 3) tNil)) [some (.int (way : Int)), some (.int hues), some (.int gain), some (.ref a), none] H1 (.int (sz.length : Nat)) := fun H1 e => ev_is (ev_lenA (ev_var rfl) (.inl (e _ _ ha))) (by rw [vi_len])
    refine ⟨_, rfl, rfl, _, rfl, ite2 (fun z => ?_) (fun z => ?_)⟩
    · have w4 : way = 4 := by have := V.int.inj (of_decide_eq_true z); omega
      rw [if_pos w4] at kk
      exact s_retL (el_repI (by omega) (ev_var rfl) len) kk
    have w4 : way ≠ 4 := fun h => z (decide_eq_true (by rw [h]; rfl))
    rw [if_neg w4] at kk
    refine ⟨_, rfl, rfl, _, rfl, ite2 (fun z => ?_) (fun z => ?_)⟩
    · have w6 : way = 6 := by have := V.int.inj (of_decide_eq_true z); omega
      rw [if_pos w6] at kk
      have key := el_lcL (K := K) (σ := [some (.int (way : Int)), some (.int hues), some (.int gain), some (.ref a), none]) (H := H) (a := a) (xs := vi sz) (tl := tVar 3) (j := 4) (vs := [4]) (t := tYes) (te := tOp (rI0 fun i j => .int (i - j)) (tVar 4) (tC (.int 1)))
        (fun _ => true) (fun i => .int (nth sz i - 1)) (ev_var rfl) (SqL.of ha) (by rw [vi_len]; omega) (fun _ => rfl) (fun i x H1 e1 hx => et_yes) (fun i x H1 e1 hx _ => ?_)
      · rw [vi_len, given_all] at key
        have e : (List.range sz.length).map (fun i => V.int (nth sz i - 1)) = vi (sz.map (· - 1)) := by
          unfold vi
          rw [List.map_map]
          refine List.ext_getElem (by simp) fun i h1 h2 => ?_
          simp only [List.length_map, List.length_range] at h1
          simp [nth, List.getD_eq_getElem?_getD, List.getElem?_eq_getElem h1]
        rw [e] at key
        exact s_retL key kk
      · have hi : i < sz.length := by
          have := (List.getElem?_eq_some_iff.mp hx).1
          rwa [vi_len] at this
        rw [vi_nth hi] at hx
        cases hx
        exact ev_op (ev_var rfl) ev_c rv_I0
    · have w6 : way ≠ 6 := fun h => z (decide_eq_true (by rw [h]; rfl))
      rw [if_neg w6] at kk
      exact s_retL (el_repI (by omega) (ev_op (ev_var rfl) ev_c rv_I0) len) kk
abbrev s__law_hit : Stmt := topS 56
theorem sc__law_hit : FnScope ["_law_way", "_law_hues", "_law_number", "_law_hue"] ["_law_way", "_law_hues", "_law_number", "_law_hue"] (defScope s__law_hit) := ⟨rfl, rfl, rfl, by decide +kernel, rfl, by decide +kernel, by decide +kernel⟩
def sp_lhit : Sp := fun vs H Q _ => ∃ (way : Nat) (hues num x : Int), vs = [.int way, .int hues, .int num, .int x] ∧ 2 ≤ hues ∧ 1 ≤ num ∧ ∀ H', Ex H H' → Q (.int (hit way hues num x)) H'
theorem d_lhit (B : Bi mg) (I : DefIs K mg "_law_hit" "_law_hit" s__law_hit ["_law_way", "_law_hues", "_law_number", "_law_hue"]) : DefOk P w K mg base "_law_hit" 1 ["_law_way", "_law_hues", "_law_number", "_law_hue"] sp_lhit := by
  refine I.ok sc__law_hit (fun vs H Q E h => ?_) (fun f cdv A outer s H vs Q E hr h => ?_)
  · obtain ⟨_, _, _, _, rfl, _⟩ := h; rfl
  · obtain ⟨way, hues, num, x, rfl, h2, h1, kk⟩ := h
    refine ⟨_, (pss_cons (ps_if (pt_cmpR op_eq (pv 0) pe_int (nomark _))
      (pss_one (ps_ret (pe_op op_mod (pe_callTy call_int1 (by rfl) B.int boot_int (pa_cons (pe_op op_add (pv 3) (pv 2)) pa_nil)) (pv 1))))
      pss_nil)
      (pss_cons (ps_if (pt_cmpR op_eq (pv 0) pe_int (nomark _))
      (pss_one (ps_ret (pe_op op_add (pv 3) (pv 2))))
      pss_nil)
      (pss_cons (ps_if (pt_cmpR op_eq (pv 0) pe_int (nomark _))
      (pss_one (ps_ret (pe_op op_mod (pe_callTy call_int1 (by rfl) B.int boot_int (pa_cons (pe_op op_sub (pv 3) pe_int) pa_nil)) (pe_op op_add (pv 2) pe_int))))
      pss_nil)
      (pss_one (ps_ret (pe_op op_mod (pe_callTy call_int1 (by rfl) B.int boot_int (pa_cons (pe_op op_sub (pv 3) pe_int) pa_nil)) (pv 1))))))), ?_⟩
    have q := kk H (Ex.refl H)
    unfold hit at q
    refine ⟨_, rfl, rfl, _, rfl, ite2 (fun z => ?_) (fun z => ?_)⟩
    · have w4 : way = 4 := by have := V.int.inj (of_decide_eq_true z); omega
      rw [if_pos w4] at q
      exact ⟨_, rfl, _, rfl, _, _, rfl, rfl, .inl ⟨_, rfl, _, rfl, _, _, rfl, rfl, (show 0 < hues by omega), q⟩⟩
    have w4 : way ≠ 4 := fun h => z (decide_eq_true (by rw [h]; rfl))
    rw [if_neg w4] at q
    refine ⟨_, rfl, rfl, _, rfl, ite2 (fun z => ?_) (fun z => ?_)⟩
    · have w5 : way = 5 := by have := V.int.inj (of_decide_eq_true z); omega
      rw [if_pos w5] at q
      exact ⟨_, rfl, _, rfl, _, _, rfl, rfl, q⟩
    have w5 : way ≠ 5 := fun h => z (decide_eq_true (by rw [h]; rfl))
    rw [if_neg w5] at q
    refine ⟨_, rfl, rfl, _, rfl, ite2 (fun z => ?_) (fun z => ?_)⟩
    · have w6 : way = 6 := by have := V.int.inj (of_decide_eq_true z); omega
      rw [if_pos w6] at q
      exact ⟨_, rfl, _, _, rfl, rfl, .inl ⟨_, rfl, _, rfl, _, _, rfl, rfl, _, _, rfl, rfl, (show 0 < num + 1 by omega), q⟩⟩
    have w6 : way ≠ 6 := fun h => z (decide_eq_true (by rw [h]; rfl))
    rw [if_neg w6] at q
    exact ⟨_, rfl, _, _, rfl, rfl, .inl ⟨_, rfl, _, rfl, _, _, rfl, rfl, (show 0 < hues by omega), q⟩⟩
/-- the law's own tables of the rule -/
structure Tab (Y : Sys) (O : List Nat) (H : Hp) (a b c : Addr) : Prop where
  t : LL H a Y.T
  n : H b = some (.lst (vi Y.N))
  o : H c = some (.lst (vn O))
theorem Tab.mono {Y : Sys} {O : List Nat} {H H' : Hp} {a b c : Addr} (e : Ex H H') (x : Tab Y O H a b c) : Tab Y O H' a b c := ⟨x.t.mono e, e _ _ x.n, e _ _ x.o⟩
abbrev s__law_moved : Stmt := topS 57
theorem sc__law_moved : FnScope ["_law_way", "_law_hues", "_law_turned", "_law_numbers_here", "_law_state", "_law_spot", "_law_row", "_law_other"] ["_law_way", "_law_hues", "_law_turned", "_law_numbers_here", "_law_state", "_law_spot"] (defScope s__law_moved) := ⟨rfl, rfl, rfl, by decide +kernel, rfl, by decide +kernel, by decide +kernel⟩
def sp_lmoved : Sp := fun vs H Q _ => ∃ (Y : Sys) (a b t : Addr) (s : List Int) (v : Nat), vs = [.int Y.way, .int Y.hues, .ref a, .ref b, .ref t, .int v] ∧ Y.Ok ∧ LL H a Y.T ∧ H b = some (.lst (vi Y.N)) ∧ H t = some (.tup (vi s)) ∧ s.length = Y.n ∧ v < Y.n ∧
  ∀ p H', H p = none → Ex H H' → H' p = some (.tup (vi (moved Y s v))) → Q (.ref p) H'
theorem d_lmoved (B : Bi mg) (D__law_hit : DefOk P w K mg base "_law_hit" 1 ["_law_way", "_law_hues", "_law_number", "_law_hue"] sp_lhit) (I : DefIs K mg "_law_moved" "_law_moved" s__law_moved ["_law_way", "_law_hues", "_law_turned", "_law_numbers_here", "_law_state", "_law_spot"]) :
    DefOk P w K mg base "_law_moved" 2 ["_law_way", "_law_hues", "_law_turned", "_law_numbers_here", "_law_state", "_law_spot"] sp_lmoved := by
  refine I.ok sc__law_moved (fun vs H Q E h => ?_) (fun f cdv A outer sh H vs Q E hr h => ?_)
  · obtain ⟨_, _, _, _, _, _, rfl, _⟩ := h; rfl
  · obtain ⟨Y, a, b, t, s, v, rfl, ok, hT, hN, ht, hs, hv, kk⟩ := h
    refine ⟨_, (pss_cons (ps_set (i := 6) sc__law_moved.nd rfl (Or.inl rfl) (pe_callTy call_list_of (by rfl) B.list (by decide +kernel) (pa_cons (pv 4) pa_nil)))
      (pss_cons (ps_asg (pe_op op_sub (pe_ix ix_list (pv 6) (pv 5) (fun _ _ => rfl)) pe_int) (pg_sub (pv 6) (pv 5) set_list))
      (pss_cons (ps_for PassesOwn.never rfl (pi_list (pe_ix ix_list (pv 2) (pv 5) (fun _ _ => rfl))) (pg_name (i := 7) sc__law_moved.nd rfl (Or.inl rfl))
      (pss_one (ps_asg (pe_callD D__law_hit (hr.mono (by decide)) (pa_cons (pv 0) (pa_cons (pv 1) (pa_cons (pe_ix ix_list (pv 3) (pv 7) (fun _ _ => rfl)) (pa_cons (pe_ix ix_list (pv 6) (pv 7) (fun _ _ => rfl)) pa_nil))))) (pg_sub (pv 6) (pv 7) set_list))))
      (pss_one (ps_ret (pe_callTy call_tuple_of (by rfl) B.tuple (by decide +kernel) (pa_cons (pv 6) pa_nil))))))), ?_⟩
    have hn := ok.n16
    refine ⟨_, rfl, _, _, rfl, .inr (SqT.of ht), fun l nl => ?_⟩
    have e0 : Ex H (upd H l (.lst (vi s))) := Ex.new nl
    refine q_setL (l := l) (xs := vi s) (j := v) upd_same (ev_op (ev_ixL (ev_var rfl) (ev_var rfl) upd_same (by omega)) ev_c rv_I0) (ev_var rfl) (ev_var rfl) (by rw [vi_len, hs]; exact hv) fun H1 e1 => ?_
    rw [vi_set]
    have e2 : Ex H (upd H1 l (.lst (vi (s.set v (nth s v - 1))))) := Ex.mut (e0.trans e1) nl
    obtain ⟨r, hr0, hrow⟩ := ev_row (K := K) (ta := tVar 2) (tb := tVar 5) hT (i := v) (by rw [ok.rows.len]; exact hv)
    have nrl : r ≠ l := ne_of_none hr0 nl
    refine q_forLn (K := K) (a := r) (xs := vn (row Y.T v)) (hrow e2 (ev_var rfl) (ev_var rfl)) (SqL.of (e2 _ _ hr0))
      (fun i σ H' => Ex H H' ∧ H' l = some (.lst (vi (hitAll Y ((row Y.T v).take i) (s.set v (nth s v - 1))))) ∧ ∃ x, σ = [some (.int (Y.way : Int)), some (.int Y.hues), some (.ref a), some (.ref b), some (.ref t), some (.int v), some (.ref l), x])
      (fun H2 e3 => ⟨e2.trans e3, by rw [List.take_zero]; exact e3 _ _ upd_same, _, rfl⟩) (fun i σ H' _ q => SqL.of (q.1 _ _ hr0)) ?_ ?_
    · rintro i x σ H2 hi ⟨e3, hl, y, rfl⟩
      have hi2 : i < (row Y.T v).length := by
        have := (List.getElem?_eq_some_iff.mp hi).1
        rwa [vn_len] at this
      rw [vn_get hi2] at hi
      cases hi
      have hm := getD_mem hi2
      have hlt := ok.rows.lt v _ hm
      have htake := take_succ_getD hi2
      generalize hu : (row Y.T v).getD i 0 = u at hm hlt htake
      have hlen : (hitAll Y ((row Y.T v).take i) (s.set v (nth s v - 1))).length = Y.n := by rw [hitAll_len, List.length_set, hs]
      refine s_setL (l := l) (j := u) hl (ev_call (ea_cons (ev_var rfl) (ea_cons (ev_var rfl) (ea_cons (ev_ixL (ev_var rfl) (ev_var rfl) (e3 _ _ hN) (by rw [ok.nlen]; exact hlt)) (ea_cons (ev_ixL (ev_var rfl) (ev_var rfl) hl (by omega)) ea_nil)))) fun H5 e5 Q q E => ⟨Y.way, Y.hues, _, _, rfl, ok.h2, (ok.num u hlt).1, q⟩) (ev_var rfl) (ev_var rfl) (by rw [vi_len, hlen]; exact hlt) fun H3 e4 => ?_
      refine ⟨Ex.mut (e3.trans e4) nl, ?_, _, rfl⟩
      rw [upd_same, vi_set, htake]
      unfold hitAll
      rw [List.foldl_append]
      rfl
    · rintro σ H2 ⟨e3, hl, y, rfl⟩
      rw [vn_len, List.take_length] at hl
      refine ⟨_, rfl, _, _, rfl, .inl ⟨SqL.of hl, fun q nq => ?_⟩⟩
      exact kk q _ (fresh_back e3 nq) (e3.trans (Ex.new nq)) upd_same
end
end K57

set_option Elab.async false
set_option linter.all false
set_option maxRecDepth 100000
set_option maxHeartbeats 4000000
namespace K57
open PySem PySem.Spec PyProof.Rows L2 Evl M57
section
variable {P : Program} {w : World} {K : PySem.W.Frag} {mg : Str → Option Value} {base : Heap} {σ : L2.St} {H : Hp}
theorem ev_int1 {te : TE} {i : Int} (h : Ev te σ H (.int i)) : Ev (tCB (fun xs H Q => (∃ i, xs = [.int i] ∧ Q (.int i) H) ∨ ∃ k, xs = [.bl k] ∧ Q (.int (if k then 1 else 0)) H) (tCons te tNil)) σ H (.int i) := fun H1 e Q q =>
  h H1 e _ fun H2 e2 => .inl ⟨i, rfl, q H2 e2⟩
theorem el_rev {te : TE} {a : Addr} {xs : List V} (h : Ev te σ H (.ref a)) (hs : SqL K H a xs) : EvL (tRevL K te) σ H xs.reverse := fun H1 e Q q =>
  h H1 e _ fun H2 e2 => ⟨a, xs, rfl, ex_l (e.trans e2) hs, fun p np => q p _ (fresh_back e2 np) (e2.trans (Ex.new np)) upd_same⟩
theorem vn_rev {l : List Nat} : (vn l).reverse = vn l.reverse := by unfold vn; rw [List.map_reverse]
theorem careful_in {way : Nat} : decide (way ∈ [1, 3]) = careful way := by
  rw [Bool.eq_iff_iff]; simp [careful]
abbrev s__law_next_allowed : Stmt := topS 58
theorem sc__law_next_allowed : FnScope ["_law_way", "_law_turned", "_law_state", "_law_start_here", "_law_step", "_law_spot", "_law_lit", "_law_other"] ["_law_way", "_law_turned", "_law_state", "_law_start_here"] (defScope s__law_next_allowed) := ⟨rfl, rfl, rfl, by decide +kernel, rfl, by decide +kernel, by decide +kernel⟩
def sp_lnext : Sp := fun vs H Q _ => ∃ (Y : Sys) (a t : Addr) (s : List Int) (st : Nat), vs = [.int Y.way, .ref a, .ref t, .int st] ∧ Y.Ok ∧ LL H a Y.T ∧ H t = some (.tup (vi s)) ∧ s.length = Y.n ∧ st < Y.n ∧
  (∀ v H', v < Y.n → Allow Y s v → (Allow Y s st → v = st) → Ex H H' → Q (.int (v : Nat)) H') ∧ (∀ H', ¬ Allow Y s st → Ex H H' → Q (.int (-1)) H')
theorem d_lnext (B : Bi mg) (I : DefIs K mg "_law_next_allowed" "_law_next_allowed" s__law_next_allowed ["_law_way", "_law_turned", "_law_state", "_law_start_here"]) :
    DefOk P w K mg base "_law_next_allowed" 1 ["_law_way", "_law_turned", "_law_state", "_law_start_here"] sp_lnext := by
  refine I.ok sc__law_next_allowed (fun vs H Q E h => ?_) (fun f cdv A outer sh H vs Q E hr h => ?_)
  · obtain ⟨_, _, _, _, _, rfl, _⟩ := h; rfl
  · obtain ⟨Y, a, t, s, st, rfl, ok, hT, ht, hs, hst, k1, k2⟩ := h
    refine ⟨_, (pss_cons (ps_for PassesOwn.never rfl (pi_range1 rfl B.range (pa_cons (pe_callB call_len (by rfl) B.len PySem.boot_len (pa_cons (pv 2) pa_nil)) pa_nil)) (pg_name (i := 4) sc__law_next_allowed.nd rfl (Or.inl rfl))
      (pss_cons (ps_set (i := 5) sc__law_next_allowed.nd rfl (Or.inl rfl) (pe_op op_mod (pe_callTy call_int1 (by rfl) B.int boot_int (pa_cons (pe_op op_add (pv 3) (pv 4)) pa_nil)) (pe_callB call_len (by rfl) B.len PySem.boot_len (pa_cons (pv 2) pa_nil))))
        (pss_cons (ps_setLc (i := 6) (own := [("_law_other", 7)]) (g := gName 7) rfl sc__law_next_allowed.nd rfl rfl (sw_true rfl rfl rfl (by decide +kernel)) (pi_list (pe_ix ix_list (pv 1) (pv 5) (fun _ _ => rfl))) (blkOk_by (own := [("_law_other", 7)]) (N := ["_law_way", "_law_turned", "_law_state", "_law_start_here", "_law_step", "_law_spot", "_law_lit", "_law_other"]) (sc := defScope s__law_next_allowed) (by decide +kernel)) (fun _ _ _ _ _ => by exact (pg_name (i := 7) sc__law_next_allowed.nd rfl (Or.inl rfl))) (fun _ _ _ _ _ => by exact (pts_one (pt_cmpR op_gt (pe_ix (ix_tupK (K := K)) (pv 2) (pv 7) (fun _ _ => rfl)) pe_int (nomark _)))) (fun _ _ _ _ _ => by exact (pv 7)))
        (pss_one (ps_if (PW.pt (pw_and (pt_cmpR op_gt (pe_ix ix_tup (pv 2) (pv 5) (fun _ _ => rfl)) pe_int (nomark _)) (pw_and1 (PW.pt (pw_or (pt_cmpR (op_eqD hr.units) (pv 6) (pe_lst pa_nil) (nomark _)) (pw_or1 (pt_cmpR op_notIn_seq (pv 0) (pe_tup (pa_cons pe_int (pa_cons pe_int pa_nil))) (by first | exact nomark _ | rfl))))))))
        (pss_one (ps_ret (pv 5)))
        pss_nil)))))
      (pss_one (ps_ret (pe_un un_neg pe_int)))), ?_⟩
    have hn := ok.n16
    have n1 := ok.n1
    have len : ∀ {σ : L2.St} {H1 : Hp}, Ex H H1 → σ[2]? = some (some (.ref t)) → Ev (tCB (fun xs H Q => ∃ x n, xs = [x] ∧ LenV K x H n ∧ Q (.int n) H) (tCons (tVar 2) tNil)) σ H1 (.int (Y.n : Nat)) := fun e h => ev_is (ev_lenA (ev_var h) (.inr (e _ _ ht))) (by rw [vi_len, hs])
    refine q_forR1 (n := (Y.n : Int)) (ea_cons (len (Ex.refl H) rfl) ea_nil) (by omega) (fun i σ H' => Ex H H' ∧ (0 < i → ¬ Allow Y s st) ∧ ∃ x4 x5 x6, σ = [some (.int (Y.way : Int)), some (.ref a), some (.ref t), some (.int (st : Int)), x4, x5, x6, none])
      (fun H1 e1 => ⟨e1, fun z => absurd z (by decide), _, _, _, rfl⟩) ?_ ?_
    · rintro i σ H1 hi ⟨e1, hno, x4, x5, x6, rfl⟩
      have hu : (st + i) % Y.n < Y.n := Nat.mod_lt _ (by omega)
      have h0 : i = 0 → (st + i) % Y.n = st := fun z => by subst z; exact Nat.mod_eq_of_lt hst
      have eu : ((st : Int) + (i : Int)) % (Y.n : Int) = (((st + i) % Y.n : Nat) : Int) := by rw [Int.natCast_emod, Int.natCast_add]
      refine q_asg (ev_is (ev_op (ev_int1 (ev_op (ev_var rfl) (ev_var rfl) rv_I0)) (len e1 rfl) (rv_I (show (0 : Int) < (Y.n : Int) by omega))) (congrArg V.int eu)) fun H2 e2 => ?_
      generalize (st + i) % Y.n = u at hu h0 eu
      have e12 := e1.trans e2
      obtain ⟨r, hr0, hrow⟩ := ev_row (K := K) (ta := tVar 1) (tb := tVar 5) hT (i := u) (by rw [ok.rows.len]; exact hu)
      have key := el_lcL (K := K) (σ := [some (.int (Y.way : Int)), some (.ref a), some (.ref t), some (.int (st : Int)), some (.int (i : Int)), some (.int (u : Int)), x6, none]) (H := H2) (a := r) (xs := vn (row Y.T u)) (tl := tOp (rIxL K) (tVar 1) (tVar 5)) (j := 7) (vs := [7])
        (t := tTest (tOp (rI0 fun i j => .bl (decide (i > j))) (tOp (rIxT K) (tVar 2) (tVar 7)) (tC (.int 0)))) (te := tVar 7) (fun i => decide (nth s ((row Y.T u).getD i 0) > 0)) (fun i => .int (((row Y.T u).getD i 0 : Nat) : Int))
        (hrow e12 (ev_var rfl) (ev_var rfl)) (SqL.of (e12 _ _ hr0)) (by rw [vn_len]; have := ok.rows.len_le u; omega) (fun _ => rfl) (fun j x H3 e3 hj => ?_) (fun j x H3 e3 hj _ => ?_)
      · rw [vn_len, given_filterL (p := fun w => decide (nth s w > 0))] at key
        refine q_asgL key fun l H3 nl e3 hl => ?_
        clear key
        have hL : (row Y.T u).filter (fun w => decide (nth s w > 0)) = [] ↔ ∀ w ∈ row Y.T u, ¬ 0 < nth s w := by
          rw [List.filter_eq_nil_iff]
          simp
        generalize (row Y.T u).filter (fun w => decide (nth s w > 0)) = L at hl hL
        have e13 := e12.trans e3
        have hb : EvT (tAnd (tTest (tOp (rI0 fun i j => .bl (decide (i > j))) (tOp (rIxT K) (tVar 2) (tVar 5)) (tC (.int 0)))) (tOr (tTest (tOp (rEqD K) (tVar 6) (tLst tNil))) (tTest (tOp (rIn K true) (tVar 0) (tTup (tCons (tC (.int 1)) (tCons (tC (.int 3)) tNil)))))))
            [some (.int (Y.way : Int)), some (.ref a), some (.ref t), some (.int (st : Int)), some (.int (i : Int)), some (.int (u : Int)), some (.ref l), none] H3 (decide (nth s u > 0) && (decide (L = []) || !careful Y.way)) := by
          refine et_and (et_test (ev_op (ev_ixT (ev_var rfl) (ev_var rfl) (e13 _ _ ht) (by omega)) ev_c rv_I0)) fun _ => et_or (et_test (ev_opL (ev_var rfl) (el_lst ea_nil (by decide)) fun p H4 hp e4 => rv_eqNil (e4 _ _ hl) hp)) fun _ => et_test ?_
          refine ev_is (ev_niU (ev_var rfl) (eu_tup (ea_cons ev_c (ea_cons ev_c ea_nil)) (by decide)) rfl rfl) ?_
          show V.bl (!inV (.int (Y.way : Int)) (vn [1, 3])) = _
          rw [inV_vn, careful_in]
        have hA : Allow Y s u ↔ (decide (nth s u > 0) && (decide (L = []) || !careful Y.way)) = true := by
          rw [Bool.and_eq_true, Bool.or_eq_true, decide_eq_true_eq, decide_eq_true_eq, hL]
          unfold Allow
          refine and_congr_right fun _ => ⟨fun h => ?_, fun h hc => ?_⟩
          · cases hc : careful Y.way
            · exact .inr rfl
            · exact .inl (h hc)
          · rcases h with h | h
            · exact h
            · rw [hc] at h; cases h
        refine s_when hb (fun hTr H4 e4 => ?_) (fun hF H4 e4 => ?_)
        · refine s_ret (ev_var rfl) fun H5 e5 => k1 u H5 hu (hA.mpr hTr) (fun hst' => ?_) ((e13.trans e4).trans e5)
          by_cases z : i = 0
          · exact h0 z
          · exact absurd hst' (hno (by omega))
        · refine ⟨e13.trans e4, fun _ => ?_, _, _, _, rfl⟩
          by_cases z : i = 0
          · rw [← h0 z, hA, hF]; decide
          · exact hno (by omega)
      · have hj2 : j < (row Y.T u).length := by
          have := (List.getElem?_eq_some_iff.mp hj).1
          rwa [vn_len] at this
        rw [vn_get hj2] at hj
        cases hj
        have hlt := ok.rows.lt u _ (getD_mem hj2)
        exact et_test (ev_op (ev_ixT (ev_var rfl) (ev_var rfl) (e3 _ _ (e12 _ _ ht)) (by omega)) ev_c rv_I0)
      · have hj2 : j < (row Y.T u).length := by
          have := (List.getElem?_eq_some_iff.mp hj).1
          rwa [vn_len] at this
        rw [vn_get hj2] at hj
        cases hj
        exact ev_var rfl
    · rintro σ H1 ⟨e1, hno, x4, x5, x6, rfl⟩
      exact s_ret (ev_un ev_c ru_neg) fun H2 e2 => k2 H2 (hno (by omega)) (e1.trans e2)
abbrev s__law_heavy : Stmt := topS 59
theorem sc__law_heavy : FnScope ["_law_turned", "_law_numbers_here", "_law_order_here", "_law_heavy_here", "_law_spot", "_law_other"] ["_law_turned", "_law_numbers_here", "_law_order_here"] (defScope s__law_heavy) := ⟨rfl, rfl, rfl, by decide +kernel, rfl, by decide +kernel, by decide +kernel⟩
def sp_lheavy : Sp := fun vs H Q _ => ∃ (Y : Sys) (O : List Nat) (a b c : Addr), vs = [.ref a, .ref b, .ref c] ∧ Y.Ok ∧ Tab Y O H a b c ∧ Topo Y.n Y.T O ∧
  ∀ p H', H p = none → Ex H H' → H' p = some (.lst (vi (heavyL Y.n Y.T Y.N Y.O))) → Q (.ref p) H'
theorem d_lheavy (B : Bi mg) (I : DefIs K mg "_law_heavy" "_law_heavy" s__law_heavy ["_law_turned", "_law_numbers_here", "_law_order_here"]) : DefOk P w K mg base "_law_heavy" 1 ["_law_turned", "_law_numbers_here", "_law_order_here"] sp_lheavy := by
  refine I.ok sc__law_heavy (fun vs H Q E h => ?_) (fun f cdv A outer sh H vs Q E hr h => ?_)
  · obtain ⟨_, _, _, _, _, rfl, _⟩ := h; rfl
  · obtain ⟨Y, O, a, b, c, rfl, ok, tab, tp, kk⟩ := h
    refine ⟨_, (pss_cons (ps_set (i := 3) sc__law_heavy.nd rfl (Or.inr rfl) (pe_op op_rep (pe_lst (pa_cons pe_int pa_nil)) (pe_callB call_len (by rfl) B.len PySem.boot_len (pa_cons (pv 2) pa_nil))))
      (pss_cons (ps_for PassesOwn.never rfl (pi_list (pe_revL (pv 2))) (pg_name (i := 4) sc__law_heavy.nd rfl (Or.inl rfl))
      (pss_one (ps_asg (pe_op op_add pe_int (pe_callB (cr_sum rfl) (by rfl) B.sum (by decide +kernel) (pa_cons (pe_lc (own := [("_law_other", 5)]) (g := gName 5) (tt := tYes) rfl sc__law_heavy.nd (pi_list (pe_ix ix_list (pv 0) (pv 4) (fun _ _ => rfl))) (blkOk_by (own := [("_law_other", 5)]) (N := ["_law_turned", "_law_numbers_here", "_law_order_here", "_law_heavy_here", "_law_spot", "_law_other"]) (sc := defScope s__law_heavy) (by decide +kernel)) (fun _ _ _ _ _ => by exact (pg_name (i := 5) sc__law_heavy.nd rfl (Or.inl rfl))) (fun _ _ _ _ _ => by exact pts_nil) (fun _ _ _ _ _ => by exact (pe_op op_mul (pe_ix (ix_listK (K := K)) (pv 1) (pv 5) (fun _ _ => rfl)) (pe_ix (ix_listK (K := K)) (pv 3) (pv 5) (fun _ _ => rfl))))) pa_nil))) (pg_sub (pv 3) (pv 4) set_list))))
      (pss_one (ps_ret (pv 3))))), ?_⟩
    have hn := ok.n16
    have lO := tp.length
    refine q_asgL (el_rep0 (n := Y.n) (by omega) (ev_is (ev_lenA (ev_var rfl) (.inl tab.o)) (by rw [vn_len, lO]))) fun l H1 nl e1 hl1 => ?_
    refine q_forNLn (K := K) (el_rev (ev_var rfl) (SqL.of (e1 _ _ tab.o))) (fun p i σ H' => Ex H H' ∧ p ≠ l ∧ H' p = some (.lst (vn O.reverse)) ∧ H' l = some (.lst (vi ((O.reverse.take i).foldl (heavyStep Y.T Y.N) (List.replicate Y.n 0)))) ∧ ∃ x, σ = [some (.ref a), some (.ref b), some (.ref c), some (.ref l), x, none])
      (fun p H2 np e2 hp => ⟨e1.trans e2, (ne_of_none hl1 np).symm, by rw [← vn_rev]; exact hp, by rw [List.take_zero]; exact e2 _ _ hl1, _, rfl⟩) (fun p i σ H' _ q => SqL.of (by rw [vn_rev]; exact q.2.2.1)) ?_ ?_
    · rintro p i x σ H2 hi ⟨e2, npl, hp, hl, y, rfl⟩
      rw [vn_rev] at hi
      have hi2 : i < O.reverse.length := by
        have := (List.getElem?_eq_some_iff.mp hi).1
        rwa [vn_len] at this
      rw [vn_get hi2] at hi
      cases hi
      have hvm := getD_mem hi2
      have hstep := take_succ_getD hi2
      generalize O.reverse.getD i 0 = v at hvm hstep
      have hv : v < Y.n := (tp.mem v).mp (List.mem_reverse.mp hvm)
      generalize hh : (O.reverse.take i).foldl (heavyStep Y.T Y.N) (List.replicate Y.n 0) = hv0 at hl
      have hlen : hv0.length = Y.n := by rw [← hh, foldl_heavy_len]; simp
      obtain ⟨r, hr0, hrow⟩ := ev_row (K := K) (ta := tVar 0) (tb := tVar 4) tab.t (i := v) (by rw [ok.rows.len]; exact hv)
      have key := el_lcL (K := K) (σ := [some (.ref a), some (.ref b), some (.ref c), some (.ref l), some (.int (v : Int)), none]) (H := H2) (t := tYes) (te := tOp (rI CMul fun i j => .int (i * j)) (tOp (rIxL K) (tVar 1) (tVar 5)) (tOp (rIxL K) (tVar 3) (tVar 5)))
        (a := r) (xs := vn (row Y.T v)) (tl := tOp (rIxL K) (tVar 0) (tVar 4)) (j := 5) (vs := [5]) (fun _ => true) (fun i => .int (nth Y.N ((row Y.T v).getD i 0) * nth hv0 ((row Y.T v).getD i 0)))
        (hrow e2 (ev_var rfl) (ev_var rfl)) (SqL.of (e2 _ _ hr0)) (by rw [vn_len]; have := ok.rows.len_le v; omega) (fun _ => rfl) (fun i x H1 e1 hi => et_yes) (fun i x H3 e3 hi _ => ?_)
      · rw [given_all, vn_len, given_map (f := fun w => nth Y.N w * nth hv0 w)] at key
        refine s_setL (l := l) (j := v) hl (ev_op ev_c (ev_sum key) rv_I0) (ev_var rfl) (ev_var rfl) (by rw [vi_len, hlen]; exact hv) fun H3 e3 => ?_
        refine ⟨Ex.mut (e2.trans e3) nl, npl, by rw [upd_ne npl]; exact e3 _ _ hp, ?_, _, rfl⟩
        rw [upd_same, vi_set, hstep, List.foldl_append, hh]
        rfl
      · have hi2 : i < (row Y.T v).length := by
          have := (List.getElem?_eq_some_iff.mp hi).1
          rwa [vn_len] at this
        rw [vn_get hi2] at hi
        cases hi
        have hlt := ok.rows.lt v _ (getD_mem hi2)
        have hnum := ok.num _ hlt
        exact ev_op (ev_ixL (ev_var rfl) (ev_var rfl) (e3 _ _ (e2 _ _ tab.n)) (by rw [ok.nlen]; exact hlt)) (ev_ixL (ev_var rfl) (ev_var rfl) (e3 _ _ hl) (by rw [hlen]; exact hlt)) (rv_I (.inl ⟨by have := hnum.1; omega, by have := hnum.2.1; omega⟩))
    · rintro p σ H2 ⟨e2, npl, hp, hl, y, rfl⟩
      rw [vn_rev, vn_len, List.take_length] at hl
      have e : O.reverse.foldl (heavyStep Y.T Y.N) (List.replicate Y.n 0) = heavyL Y.n Y.T Y.N Y.O := IsHeavy.uniq ok.rows tp (heavyL_is ok.rows tp) (ok_heavy ok)
      rw [e] at hl
      exact s_ret (ev_var rfl) fun H3 e3 => kk l H3 nl (e2.trans e3) (e3 _ _ hl)
abbrev s__law_greatest : Stmt := topS 60
theorem sc__law_greatest : FnScope ["_law_numbers_here", "_law_turned", "_law_order_here", "_law_source", "_law_target", "_law_counts", "_law_spot", "_law_load", "_law_upper"] ["_law_numbers_here", "_law_turned", "_law_order_here", "_law_source", "_law_target"] (defScope s__law_greatest) := ⟨rfl, rfl, rfl, by decide +kernel, rfl, by decide +kernel, by decide +kernel⟩
def sp_lgreat : Sp := fun vs H Q _ => ∃ (Y : Sys) (O : List Nat) (a b c t1 t2 : Addr) (s t : List Int), vs = [.ref b, .ref a, .ref c, .ref t1, .ref t2] ∧ Y.Ok ∧ Tab Y O H a b c ∧ Topo Y.n Y.T O ∧ H t1 = some (.tup (vi s)) ∧ H t2 = some (.tup (vi t)) ∧ s.length = Y.n ∧ t.length = Y.n ∧
  ∀ p H', H p = none → Ex H H' → H' p = some (.lst (vi (gr Y s t))) → Q (.ref p) H'
theorem given_pick {p : Nat → Bool} {f : Nat → Int} : ∀ (r : List Nat), given r.length (fun i => p (r.getD i 0)) (fun i => .int (f (r.getD i 0))) = vi ((r.filter p).map f) := by
  have key : ∀ (r : List Nat) (n : Nat), n ≤ r.length → given n (fun i => p (r.getD i 0)) (fun i => .int (f (r.getD i 0))) = vi (((r.take n).filter p).map f) := by
    intro r n
    induction n with
    | zero => intro _; simp [given]
    | succ n ih =>
      intro hn
      have e := take_succ_getD (l := r) (i := n) (by omega)
      rw [e, List.filter_append, List.map_append]
      by_cases q : p (r.getD n 0) = true
      · rw [given_yes (f := fun i => p (r.getD i 0)) q, ih (by omega)]
        have : [r.getD n 0].filter p = [r.getD n 0] := by simp only [List.filter_cons, q, if_true, List.filter_nil]
        rw [this]
        unfold vi
        rw [List.map_append]
        rfl
      · have q' : p (r.getD n 0) = false := by simpa using q
        rw [given_no (f := fun i => p (r.getD i 0)) q', ih (by omega)]
        have : [r.getD n 0].filter p = [] := by simp only [List.filter_cons, q', List.filter_nil, Bool.false_eq_true, if_false]
        rw [this]
        simp
  intro r
  have := key r r.length (Nat.le_refl _)
  rwa [List.take_length] at this
theorem d_lgreat (B : Bi mg) (I : DefIs K mg "_law_greatest" "_law_greatest" s__law_greatest ["_law_numbers_here", "_law_turned", "_law_order_here", "_law_source", "_law_target"]) :
    DefOk P w K mg base "_law_greatest" 1 ["_law_numbers_here", "_law_turned", "_law_order_here", "_law_source", "_law_target"] sp_lgreat := by
  refine I.ok sc__law_greatest (fun vs H Q E h => ?_) (fun f cdv A outer sh H vs Q E hr h => ?_)
  · obtain ⟨_, _, _, _, _, _, _, _, _, rfl, _⟩ := h; rfl
  · obtain ⟨Y, O, a, b, c, t1, t2, s, t, rfl, ok, tab, tp, h1, h2, hs, ht, kk⟩ := h
    refine ⟨_, (pss_cons (ps_set (i := 5) sc__law_greatest.nd rfl (Or.inr rfl) (pe_op op_rep (pe_lst (pa_cons pe_int pa_nil)) (pe_callB call_len (by rfl) B.len PySem.boot_len (pa_cons (pv 2) pa_nil))))
      (pss_cons (ps_for PassesOwn.never rfl (pi_list (pv 2)) (pg_name (i := 6) sc__law_greatest.nd rfl (Or.inr rfl))
      (pss_cons (ps_set (i := 7) sc__law_greatest.nd rfl (Or.inl rfl) (pe_callB (cr_sum rfl) (by rfl) B.sum (by decide +kernel) (pa_cons (pe_lc (own := [("_law_upper", 8)]) (g := gName 8) rfl sc__law_greatest.nd (pi_list (pv 2)) (blkOk_by (own := [("_law_upper", 8)]) (N := ["_law_numbers_here", "_law_turned", "_law_order_here", "_law_source", "_law_target", "_law_counts", "_law_spot", "_law_load", "_law_upper"]) (sc := defScope s__law_greatest) (by decide +kernel)) (fun _ _ _ _ _ => by exact (pg_name (i := 8) sc__law_greatest.nd rfl (Or.inl rfl))) (fun _ _ _ _ _ => by exact (pts_one (pt_cmpR (op_in_seqK (K := K)) (pv 6) (pe_ix (ix_listK (K := K)) (pv 1) (pv 8) (fun _ _ => rfl)) (by first | exact nomark _ | rfl)))) (fun _ _ _ _ _ => by exact (pe_ix (ix_listK (K := K)) (pv 5) (pv 8) (fun _ _ => rfl)))) pa_nil)))
        (pss_one (ps_asg (pe_op op_add (pe_op op_sub (pe_ix ix_tup (pv 3) (pv 6) (fun _ _ => rfl)) (pe_ix ix_tup (pv 4) (pv 6) (fun _ _ => rfl))) (pe_op op_mul (pe_ix ix_list (pv 0) (pv 6) (fun _ _ => rfl)) (pv 7))) (pg_sub (pv 5) (pv 6) set_list)))))
      (pss_one (ps_ret (pv 5))))), ?_⟩
    have hn := ok.n16
    have lO := tp.length
    refine q_asgL (el_rep0 (n := Y.n) (by omega) (ev_is (ev_lenA (ev_var rfl) (.inl tab.o)) (by rw [vn_len, lO]))) fun l H1 nl e1 hl1 => ?_
    refine q_forLn (K := K) (a := c) (xs := vn O) (ev_var rfl) (SqL.of (e1 _ _ tab.o)) (fun i σ H' => Ex H H' ∧ H' l = some (.lst (vi ((O.take i).foldl (greatStep Y.T Y.N s t O) (List.replicate Y.n 0)))) ∧ ∃ x y, σ = [some (.ref b), some (.ref a), some (.ref c), some (.ref t1), some (.ref t2), some (.ref l), x, y, none])
      (fun H2 e2 => ⟨e1.trans e2, by rw [List.take_zero]; exact e2 _ _ hl1, _, _, rfl⟩) (fun i σ H' _ q => SqL.of (q.1 _ _ tab.o)) ?_ ?_
    · rintro i x σ H2 hi ⟨e2, hl, y, z, rfl⟩
      have hi2 : i < O.length := by
        have := (List.getElem?_eq_some_iff.mp hi).1
        rwa [vn_len] at this
      rw [vn_get hi2] at hi
      cases hi
      have hvm := getD_mem hi2
      have hstep := take_succ_getD hi2
      generalize O.getD i 0 = v at hvm hstep
      have hv : v < Y.n := (tp.mem v).mp hvm
      generalize hh : (O.take i).foldl (greatStep Y.T Y.N s t O) (List.replicate Y.n 0) = g at hl
      have hlen : g.length = Y.n := by rw [← hh, foldl_great_len]; simp
      have key := el_lcL (K := K) (σ := [some (.ref b), some (.ref a), some (.ref c), some (.ref t1), some (.ref t2), some (.ref l), some (.int (v : Int)), z, none]) (H := H2) (t := tTest (tOp (rIn K false) (tVar 6) (tOp (rIxL K) (tVar 1) (tVar 8)))) (te := tOp (rIxL K) (tVar 5) (tVar 8))
        (a := c) (xs := vn O) (tl := tVar 2) (j := 8) (vs := [8]) (fun i => decide (v ∈ row Y.T (O.getD i 0))) (fun i => .int (nth g (O.getD i 0)))
        (ev_var rfl) (SqL.of (e2 _ _ tab.o)) (by rw [vn_len]; omega) (fun _ => rfl) (fun j x H3 e3 hj => ?_) (fun j x H3 e3 hj _ => ?_)
      · rw [vn_len, given_pick (p := fun u => decide (v ∈ row Y.T u)) (f := nth g)] at key
        refine q_asg (ev_sum key) fun H3 e3 => ?_
        have hnum := ok.num _ hv
        have e23 := e2.trans e3
        refine s_setL (l := l) (j := v) (e3 _ _ hl) (ev_op (ev_op (ev_ixT (ev_var rfl) (ev_var rfl) (e23 _ _ h1) (by omega)) (ev_ixT (ev_var rfl) (ev_var rfl) (e23 _ _ h2) (by omega)) rv_I0)
          (ev_op (ev_ixL (ev_var rfl) (ev_var rfl) (e23 _ _ tab.n) (by rw [ok.nlen]; exact hv)) (ev_var rfl) (rv_I (.inl ⟨by have := hnum.1; omega, by have := hnum.2.1; omega⟩))) rv_I0) (ev_var rfl) (ev_var rfl) (by rw [vi_len, hlen]; exact hv) fun H4 e4 => ?_
        refine ⟨Ex.mut (e23.trans e4) nl, ?_, _, _, rfl⟩
        rw [upd_same, vi_set, hstep, List.foldl_append, hh]
        rfl
      · have hj2 : j < O.length := by
          have := (List.getElem?_eq_some_iff.mp hj).1
          rwa [vn_len] at this
        rw [vn_get hj2] at hj
        cases hj
        have hlt := (tp.mem _).mp (getD_mem hj2)
        generalize O.getD j 0 = u at hlt
        obtain ⟨r, hr0, hrow⟩ := ev_row (K := K) (ta := tVar 1) (tb := tVar 8) tab.t (i := u) (by rw [ok.rows.len]; exact hlt)
        refine et_test (ev_is (ev_op (ev_var rfl) (hrow (e2.trans e3) (ev_var rfl) (ev_var rfl)) (rv_isL (SqL.of (e3 _ _ (e2 _ _ hr0))) rfl vn_flat)) ?_)
        rw [inV_vn]
      · have hj2 : j < O.length := by
          have := (List.getElem?_eq_some_iff.mp hj).1
          rwa [vn_len] at this
        rw [vn_get hj2] at hj
        cases hj
        have hlt := (tp.mem _).mp (getD_mem hj2)
        exact ev_ixL (ev_var rfl) (ev_var rfl) (e3 _ _ hl) (by rw [hlen]; exact hlt)
    · rintro σ H2 ⟨e2, hl, y, z, rfl⟩
      rw [vn_len, List.take_length] at hl
      have e : O.foldl (greatStep Y.T Y.N s t O) (List.replicate Y.n 0) = gr Y s t := IsGreat.uniq tp (greatL_is tp tp.perm) (gr_is ok s t)
      rw [e] at hl
      exact s_ret (ev_var rfl) fun H3 e3 => kk l H3 nl (e2.trans e3) (e3 _ _ hl)
end
end K57

set_option Elab.async false
set_option linter.all false
set_option maxRecDepth 100000
set_option maxHeartbeats 4000000
namespace K57
open PySem PySem.Spec PyProof.Rows L2 Evl M57
/-! ### plain -/
theorem sorted_eq : ∀ {l m : List Int}, l.Pairwise (· ≤ ·) → m.Pairwise (· ≤ ·) → l.Perm m → l = m
  | [], m, _, _, h => h.nil_eq
  | a :: l, [], _, _, h => absurd h.length_eq (by simp)
  | a :: l, b :: m, hl, hm, h => by
    obtain ⟨l1, l2⟩ := List.pairwise_cons.mp hl
    obtain ⟨m1, m2⟩ := List.pairwise_cons.mp hm
    have e : a = b := by
      rcases List.mem_cons.mp (h.mem_iff.mp List.mem_cons_self) with q | q
      · exact q
      · rcases List.mem_cons.mp (h.mem_iff.mpr List.mem_cons_self) with r | r
        · exact r.symm
        · have := m1 a q; have := l1 b r; omega
    subst e
    rw [sorted_eq l2 m2 h.cons_inv]
theorem idx_of : ∀ {l : List Nat} {i x : Nat}, l.Nodup → l[i]? = some x → l.idxOf x = i
  | a :: l, 0, x, _, h => by
    have e : a = x := by simpa using h
    subst e
    exact List.idxOf_cons_self
  | a :: l, i + 1, x, nd, h => by
    obtain ⟨n1, n2⟩ := List.nodup_cons.mp nd
    have h' : l[i]? = some x := by simpa using h
    have hx : a ≠ x := fun z => n1 (z ▸ List.mem_of_getElem? h')
    rw [List.idxOf_cons, show (a == x) = false from beq_eq_false_iff_ne.mpr hx, idx_of n2 h']; rfl
theorem WiresOk.dag {n : Nat} {lamps : List Nat} {ps : List (Nat × Nat)} (h : WiresOk lamps ps) (hp : lamps.Perm (List.range n)) : Dag n ps := by
  have nd : lamps.Nodup := hp.nodup_iff.mpr List.nodup_range
  refine ⟨h.nd, fun q hq => ?_, fun x => lamps.idxOf x, fun q hq => ?_⟩
  · obtain ⟨i, j, _, h1, h2⟩ := h.dn q hq
    exact ⟨List.mem_range.mp (hp.mem_iff.mp (List.mem_of_getElem? h1)), List.mem_range.mp (hp.mem_iff.mp (List.mem_of_getElem? h2))⟩
  · obtain ⟨i, j, hij, h1, h2⟩ := h.dn q hq
    show lamps.idxOf q.1 < lamps.idxOf q.2
    rw [idx_of nd h1, idx_of nd h2]; exact hij
theorem rowsAt_nodup {ps : List (Nat × Nat)} {u : Nat} (nd : ps.Nodup) : (rowsAt ps u).Nodup := by
  unfold rowsAt List.Nodup
  rw [List.pairwise_map]
  refine List.Pairwise.imp_of_mem (fun {a b} ha hb hab e => ?_) (nd.filter (fun q => decide (q.1 = u)))
  have ea := of_decide_eq_true (List.mem_filter.mp ha).2
  have eb := of_decide_eq_true (List.mem_filter.mp hb).2
  exact hab (Prod.ext (ea.trans eb.symm) e)
noncomputable def reach (n : Nat) (ps : List (Nat × Nat)) (u : Nat) : List Nat := (List.range n).filter fun v => @decide (Pth ps u v) (Classical.propDecidable _)
theorem mem_reach {n : Nat} {ps : List (Nat × Nat)} {u v : Nat} (d : Dag n ps) : v ∈ reach n ps u ↔ Pth ps u v := by
  unfold reach
  rw [List.mem_filter, List.mem_range, @decide_eq_true_iff _ (Classical.propDecidable _)]
  exact ⟨fun h => h.2, fun h => ⟨(d.pth_lt h).2, h⟩⟩
theorem reach_asc {n : Nat} {ps : List (Nat × Nat)} {u : Nat} : (reach n ps u).Pairwise (· < ·) := List.pairwise_lt_range.filter _
theorem reach_len {n : Nat} {ps : List (Nat × Nat)} {u : Nat} : (reach n ps u).length ≤ n := by
  have := List.length_filter_le (fun v => @decide (Pth ps u v) (Classical.propDecidable _)) (List.range n)
  rwa [List.length_range] at this
theorem nodup_len {n : Nat} {l : List Nat} (nd : l.Nodup) (h : ∀ x ∈ l, x < n) : l.length ≤ n := by
  have := nd.length_le_of_subset (l₂ := List.range n) fun x hx => List.mem_range.mpr (h x hx)
  rwa [List.length_range] at this
theorem row_set {B : List (List Nat)} {u j : Nat} {l : List Nat} (h : u < B.length) : row (B.set u l) j = if j = u then l else row B j := by
  unfold row
  rw [List.getD_eq_getElem?_getD, List.getD_eq_getElem?_getD, List.getElem?_set]
  by_cases q : j = u
  · subst q; simp [h]
  · have q' : ¬ u = j := fun z => q z.symm
    simp [q, q']
theorem row_rep {n i : Nat} : row (List.replicate n []) i = [] := by
  unfold row
  rw [List.getD_eq_getElem?_getD, List.getElem?_replicate]
  split <;> rfl
theorem downs {lamps : List Nat} {ps : List (Nat × Nat)} {i v x : Nat} (nd : lamps.Nodup) (w : WiresOk lamps ps) (hv : lamps.reverse[i]? = some v) (hx : (v, x) ∈ ps) : x ∈ lamps.reverse.take i := by
  obtain ⟨a, b, hab, h1, h2⟩ := w.dn _ hx
  dsimp only at h1 h2
  have la := (List.getElem?_eq_some_iff.mp h1).1
  have lb := (List.getElem?_eq_some_iff.mp h2).1
  have li := (List.getElem?_eq_some_iff.mp hv).1
  rw [List.length_reverse] at li
  rw [List.getElem?_reverse li] at hv
  have ei : lamps.length - 1 - i = a := by rw [← idx_of nd hv, idx_of nd h1]
  have hb : lamps.reverse[lamps.length - 1 - b]? = some x := by
    rw [List.getElem?_reverse (by omega), show lamps.length - 1 - (lamps.length - 1 - b) = b by omega]; exact h2
  refine List.mem_of_getElem? (i := lamps.length - 1 - b) ?_
  rw [List.getElem?_take_of_lt (by omega)]; exact hb
/-! ### what evaluates to what -/
theorem cr_sortedIK {X : Cx} {K : PySem.W.Frag} (hK : X.K = K := by rfl) : CallR X (.builtin "sorted") (rSortedI K) := hK ▸ cr_sortedI
section
variable {K : PySem.W.Frag} {σ : L2.St} {H : Hp} {ta tb te : TE} {D : Ends} {tz : TS}
theorem el_sortedN {a : Addr} {l m : List Nat} (h : Ev te σ H (.ref a)) (ha : H a = some (.lst (vn l))) (nd : l.Nodup) (asc : m.Pairwise (· < ·)) (e : ∀ x, x ∈ l ↔ x ∈ m) : EvL (tCB (rSortedI K) (tCons te tNil)) σ H (vn m) := fun H1 e1 Q q =>
  h H1 e1 _ fun H2 e2 => by
    have cast : ∀ l : List Nat, vn l = (l.map fun k : Nat => (k : Int)).map V.int := fun l => by unfold vn; rw [List.map_map]; rfl
    refine ⟨a, l.map fun k : Nat => (k : Int), rfl, SqL.of (by rw [← cast]; exact e2 _ _ (e1 _ _ ha)), fun ns p hp hs np => ?_⟩
    have pm : l.Perm m := (List.perm_ext_iff_of_nodup nd (asc.imp fun h => Nat.ne_of_lt h)).mpr e
    have em : ns = m.map fun k : Nat => (k : Int) := sorted_eq hs (List.pairwise_map.mpr (asc.imp fun {x y} h => by omega)) (hp.trans (pm.map _))
    rw [em, ← cast]
    exact q p _ (fresh_back e2 np) (e2.trans (Ex.new np)) upd_same
theorem el_catL {a : Addr} {xs ys : List V} (ha : Ev ta σ H (.ref a)) (hx : H a = some (.lst xs)) (hb : EvL tb σ H ys) (hz : xs.length + ys.length ≤ 1000) : EvL (tOp rCat ta tb) σ H (xs ++ ys) := fun H1 e Q q =>
  ha H1 e _ fun H2 e2 => hb H2 (e.trans e2) _ fun p H3 np e3 hp => ⟨a, p, xs, ys, rfl, rfl, ((e.trans e2).trans e3) _ _ hx, hp, Nat.le_of_lt (small1000 hz), fun r nr => q r _ (fresh_back (e2.trans e3) nr) ((e2.trans e3).trans (Ex.new nr)) upd_same⟩
theorem el_range {n : Nat} (hn : n ≤ 16) (h : Ev te σ H (.int (n : Int))) : EvL (tLstRg (tRg1 te)) σ H (vn (List.range n)) := fun H1 e Q q =>
  h H1 e _ fun H2 e2 => ⟨_, rfl, RgOk.of_le (by omega) (by omega) (by omega) (by omega), fun r nr => by
    have hrg : rgV 0 (n : Int) = vn (List.range n) := by
      unfold rgV vn
      rw [show ((n : Int) - 0).toNat = n by omega]
      refine List.map_congr_left fun i _ => ?_
      rw [Int.zero_add]
    rw [hrg]
    exact q r _ (fresh_back e2 nr) (e2.trans (Ex.new nr)) upd_same⟩
theorem q_asgLL {i n : Nat} {g : Nat → List Nat} (h : EvLL te σ H n g) (k : ∀ p rd H1, H p = none → Ex H H1 → LLx H1 p rd n g → (∀ r ∈ rd, H r = none) → tz D (σ.set i (some (.ref p))) H1) : tSeq (tAsg te (gName i)) tz D σ H :=
  h H (Ex.refl H) _ fun p rd H1 np e hL hf => k p rd H1 np e hL hf
theorem s_retLL {n : Nat} {g : Nat → List Nat} (h : EvLL te σ H n g) (k : ∀ p rd H1, H p = none → Ex H H1 → LLx H1 p rd n g → (∀ r ∈ rd, H r = none) → D.rt (.ref p) H1) : tRet te D σ H :=
  h H (Ex.refl H) _ fun p rd H1 np e hL hf => k p rd H1 np e hL hf
theorem s_setN {l : Addr} {xs ys : List V} {j : Nat} (hl : H l = some (.lst xs)) (h : EvL te σ H ys) (ho : Ev ta σ H (.ref l)) (hi : Ev tb σ H (.int (j : Int))) (hj : j < xs.length)
    (k : ∀ p H1, H p = none → Ex H H1 → H1 p = some (.lst ys) → D.nx σ (upd H1 l (.lst (xs.set j (.ref p))))) : tAsg te (gSub ta tb rSetL) D σ H := h H (Ex.refl H) _ fun p H1 np e1 hp => ho H1 e1 _ fun H2 e2 => hi H2 (e1.trans e2) _ fun H3 e3 =>
  ⟨l, xs, (j : Int), j, rfl, rfl, ((e1.trans e2).trans e3) l _ hl, ixN_nat hj, k p H3 np ((e1.trans e2).trans e3) ((e2.trans e3) _ _ hp)⟩
end
theorem LL.put {H : Hp} {a q : Addr} {B : List (List Nat)} {rs : List V} {u : Nat} {l : List Nat} (h : LL H a B) (ha : H a = some (.lst rs)) (hu : u < B.length) (hq : H q = some (.lst (vn l))) (hqa : q ≠ a) : LL (upd H a (.lst (rs.set u (.ref q)))) a (B.set u l) := by
  obtain ⟨r0, h1, h2, h3⟩ := h
  rw [ha] at h1
  cases h1
  refine ⟨r0.set u q, by rw [upd_same, List.map_set], by rw [List.length_set, List.length_set]; exact h2, fun i r hr => ?_⟩
  rw [row_set hu]
  by_cases z : i = u
  · subst z
    rw [List.getElem?_set_self (by omega)] at hr
    cases hr
    rw [if_pos rfl, upd_ne hqa]; exact hq
  · rw [List.getElem?_set_ne (fun y => z y.symm)] at hr
    have hr2 := h3 i r hr
    have hra : r ≠ a := by
      rintro rfl
      rw [ha] at hr2
      have e := HO.lst.inj (Option.some.inj hr2)
      have hl := (List.getElem?_eq_some_iff.mp hr).1
      have e2 : (r0.map V.ref)[i]? = (vn (row B i))[i]? := by rw [e]
      rw [List.getElem?_map, hr] at e2
      unfold vn at e2
      rw [List.getElem?_map] at e2
      cases hz : (row B i)[i]? with
      | none => rw [hz] at e2; cases e2
      | some y => rw [hz] at e2; cases e2
    rw [if_neg z, upd_ne hra]; exact hr2
theorem LL.at' {H : Hp} {a : Addr} {B : List (List Nat)} (h : LL H a B) : ∃ rs, H a = some (.lst rs) ∧ rs.length = B.length := let ⟨rs, h1, h2, _⟩ := h; ⟨_, h1, by rw [List.length_map]; exact h2⟩
section
variable {P : Program} {w : World} {K : PySem.W.Frag} {mg : Str → Option Value} {base : Heap} {σ : L2.St} {H : Hp}
abbrev s__law_direct : Stmt := topS 50
theorem sc__law_direct : FnScope ["_law_count", "_law_wires_here", "_law_rows", "_law_lamp", "_law_upper", "_law_lower", "_law_row"] ["_law_count", "_law_wires_here"] (defScope s__law_direct) := ⟨rfl, rfl, rfl, by decide +kernel, rfl, by decide +kernel, by decide +kernel⟩
def sp_ldirect : Sp := fun vs H Q _ => ∃ (n : Nat) (l : Addr) (rs : List Addr) (ps : List (Nat × Nat)), vs = [.int n, .ref l] ∧ H l = some (.lst (rs.map V.ref)) ∧ WPrs H rs ps ∧ Dag n ps ∧ rs.length ≤ 300 ∧ n ≤ 16 ∧
  ∀ p H', H p = none → Ex H H' → LL H' p (rowsOf n fun u v => decide ((u, v) ∈ ps)) → Q (.ref p) H'
theorem d_ldirect (B : Bi mg) (I : DefIs K mg "_law_direct" "_law_direct" s__law_direct ["_law_count", "_law_wires_here"]) : DefOk P w K mg base "_law_direct" 1 ["_law_count", "_law_wires_here"] sp_ldirect := by
  refine I.ok sc__law_direct (fun vs H Q E h => ?_) (fun f cdv A outer sh H vs Q E hr h => ?_)
  · obtain ⟨_, _, _, _, rfl, _⟩ := h; rfl
  · obtain ⟨n, l, rs, ps, rfl, hl, hw, dg, hrl, hn, kk⟩ := h
    refine ⟨_, (pss_cons (ps_setLc (i := 2) (own := [("_law_lamp", 3)]) (g := gName 3) (tt := tYes) rfl sc__law_direct.nd rfl rfl (sw_true rfl rfl rfl (by decide +kernel)) (pi_range1 rfl B.range (pa_cons (pv 0) pa_nil)) (blkOk_by (own := [("_law_lamp", 3)]) (N := ["_law_count", "_law_wires_here", "_law_rows", "_law_lamp", "_law_upper", "_law_lower", "_law_row"]) (sc := defScope s__law_direct) (by decide +kernel)) (fun _ _ _ _ _ => by exact (pg_name (i := 3) sc__law_direct.nd rfl (Or.inl rfl))) (fun _ _ _ _ _ => by exact pts_nil) (fun _ _ _ _ _ => by exact (pe_lst pa_nil)))
      (pss_cons (ps_for PassesOwn.never rfl (pi_list (pv 1)) (pg_tup rfl (pgs_cons (pg_name (i := 4) sc__law_direct.nd rfl (Or.inl rfl)) (pgs_cons (pg_name (i := 5) sc__law_direct.nd rfl (Or.inl rfl)) pgs_nil)))
      (pss_one (ps_expr (pe_bm PySem.F.plainAttrs_list PySem.F.slot_list_append PySem.F.type_list_append mt_append (pe_ix ix_list (pv 2) (pv 4) (fun _ _ => rfl)) (pa_cons (pv 5) pa_nil)))))
      (pss_one (ps_ret (pe_lc (own := [("_law_row", 6)]) (g := gName 6) (tt := tYes) rfl sc__law_direct.nd (pi_list (pv 2)) (blkOk_by (own := [("_law_row", 6)]) (N := ["_law_count", "_law_wires_here", "_law_rows", "_law_lamp", "_law_upper", "_law_lower", "_law_row"]) (sc := defScope s__law_direct) (by decide +kernel)) (fun _ _ _ _ _ => by exact (pg_name (i := 6) sc__law_direct.nd rfl (Or.inl rfl))) (fun _ _ _ _ _ => by exact pts_nil) (fun _ _ _ _ _ => by exact (pe_callB (cr_sortedIK (K := K)) (by rfl) B.sorted (by decide +kernel) (pa_cons (pv 6) pa_nil)))))))), ?_⟩
    have hlen := hw.len
    refine q_asgLL (ell_lcR (n := n) (fun _ => []) (ea_cons (ev_var rfl) ea_nil) (by omega) (fun _ => rfl) (fun i H1 e1 hi => el_lst ea_nil (by decide))) fun p rd H1 np e1 L1 f1 => ?_
    refine q_forL (K := K) (a := l) (xs := rs.map V.ref) (ev_var rfl) (SqL.of (e1 _ _ hl)) (fun i σ H' => Ex H H' ∧ LLx H' p rd n (rowsAt (ps.take i)) ∧ ∃ x y, σ = [some (.int (n : Int)), some (.ref l), some (.ref p), none, x, y, none])
      (fun H2 e2 => ⟨e1.trans e2, by rw [List.take_zero]; exact L1.mono e2, _, _, rfl⟩) (fun i σ H' _ q => SqL.of (q.1 _ _ hl)) ?_ ?_
    · rintro i z σ H' hi ⟨e', L', x0, y0, rfl⟩
      rw [List.getElem?_map] at hi
      obtain ⟨r, hr1, rfl⟩ := Option.map_eq_some_iff.mp hi
      have hi2 : i < ps.length := by rw [← hlen]; exact (List.getElem?_eq_some_iff.mp hr1).1
      have hrt := e' _ _ (hw.at_ i r _ hr1 (List.getElem?_eq_getElem hi2))
      have htake : ps.take (i + 1) = ps.take i ++ [ps[i]] := by rw [List.take_add_one, List.getElem?_eq_getElem hi2]; rfl
      have hlt := dg.lt _ (List.getElem_mem hi2)
      generalize ps[i] = q at hrt htake hlt
      obtain ⟨u, v⟩ := q
      dsimp only at hrt hlt
      obtain ⟨row, h1, h2, h3, h4⟩ := L'.get hlt.1
      have hr0 := f1 _ h2
      refine ⟨r, _, rfl, SqT.of hrt, rfl, _, _, rfl, _, _, rfl, rfl, ?_⟩
      have hll : (rowsAt (ps.take i) u).length ≤ 300 := by
        unfold rowsAt
        rw [List.length_map]
        refine Nat.le_trans (List.length_filter_le _ _) ?_
        rw [List.length_take, ← hlen]
        omega
      refine s_app (l := row) h4 (ev_op (ev_var rfl) (ev_var rfl) (rv_ixL (SqL.of L'.at_) (atI_nat h3))) (ev_var rfl) (by rw [vn_len]; omega) fun H2 e2 => ?_
      refine ⟨Ex.mut (e'.trans e2) hr0, ?_, _, _, rfl⟩
      have L2 := (L'.mono e2).put h1 (rowsAt (ps.take i) u ++ [v])
      rw [vn_app']
      refine ⟨L2.at_, L2.len, L2.nd, L2.np, fun j r2 hj => ?_⟩
      rw [htake, rowsAt_snoc]
      exact L2.el j r2 hj
    · rintro σ H' ⟨e', L', x0, y0, rfl⟩
      rw [List.length_map, hlen, List.take_length] at L'
      have key := ell_lcL (K := K) (σ := [some (.int (n : Int)), some (.ref l), some (.ref p), none, x0, y0, none]) (H := H') (te := tCB (rSortedI K) (tCons (tVar 6) tNil)) (a := p) (xs := rd.map V.ref) (tl := tVar 2) (j := 6) (vs := [6])
        (fun u => (List.range n).filter fun v => decide ((u, v) ∈ ps)) (ev_var rfl) (SqL.of L'.at_) (by rw [List.length_map, L'.len]; omega) (fun _ => rfl) (fun i x H1 e1 hi => ?_)
      · rw [List.length_map, L'.len] at key
        refine s_retLL key fun p2 rd2 H2 np2 e2 L2 f2 => kk p2 H2 (fresh_back e' np2) (e'.trans e2) (L2.ll rows_rowsOf.len fun i hi => row_rowsOf hi)
      · rw [List.getElem?_map] at hi
        obtain ⟨r, hr1, rfl⟩ := Option.map_eq_some_iff.mp hi
        refine el_sortedN (ev_var rfl) (e1 _ _ (L'.el i r hr1)) (rowsAt_nodup dg.nd) (List.pairwise_lt_range.filter _) fun x => ?_
        rw [mem_rowsAt, List.mem_filter, List.mem_range, decide_eq_true_eq]
        exact ⟨fun h => ⟨(dg.lt _ h).2, h⟩, fun h => h.2⟩
abbrev s__law_beneath : Stmt := topS 51
theorem sc__law_beneath : FnScope ["_law_direct_here", "_law_lamps", "_law_rows", "_law_lamp", "_law_found", "_law_lower", "_law_other"] ["_law_direct_here", "_law_lamps"] (defScope s__law_beneath) := ⟨rfl, rfl, rfl, by decide +kernel, rfl, by decide +kernel, by decide +kernel⟩
def sp_lbeneath : Sp := fun vs H Q _ => ∃ (n : Nat) (d l : Addr) (lamps : List Nat) (ps : List (Nat × Nat)), vs = [.ref d, .ref l] ∧ LL H d (rowsOf n fun u v => decide ((u, v) ∈ ps)) ∧ H l = some (.lst (vn lamps)) ∧ lamps.Perm (List.range n) ∧ WiresOk lamps ps ∧ n ≤ 16 ∧
  ∀ p B H', H p = none → Ex H H' → LL H' p B → Rows n B → (∀ u, u < n → ∀ v, v ∈ row B u ↔ Pth ps u v) → Q (.ref p) H'
theorem d_lbeneath (B : Bi mg) (I : DefIs K mg "_law_beneath" "_law_beneath" s__law_beneath ["_law_direct_here", "_law_lamps"]) : DefOk P w K mg base "_law_beneath" 1 ["_law_direct_here", "_law_lamps"] sp_lbeneath := by
  refine I.ok sc__law_beneath (fun vs H Q E h => ?_) (fun f cdv A outer sh H vs Q E hr h => ?_)
  · obtain ⟨_, _, _, _, _, rfl, _⟩ := h; rfl
  · obtain ⟨n, d, l, lamps, ps, rfl, hd, hl, hp, wk, hn, kk⟩ := h
    refine ⟨_, (pss_cons (ps_setLc (i := 2) (own := [("_law_lamp", 3)]) (g := gName 3) (tt := tYes) rfl sc__law_beneath.nd rfl rfl (sw_true rfl rfl rfl (by decide +kernel)) (pi_list (pv 1)) (blkOk_by (own := [("_law_lamp", 3)]) (N := ["_law_direct_here", "_law_lamps", "_law_rows", "_law_lamp", "_law_found", "_law_lower", "_law_other"]) (sc := defScope s__law_beneath) (by decide +kernel)) (fun _ _ _ _ _ => by exact (pg_name (i := 3) sc__law_beneath.nd rfl (Or.inl rfl))) (fun _ _ _ _ _ => by exact pts_nil) (fun _ _ _ _ _ => by exact (pe_lst pa_nil)))
      (pss_cons (ps_for PassesOwn.never rfl (pi_list (pe_revL (pv 1))) (pg_name (i := 3) sc__law_beneath.nd rfl (Or.inl rfl))
      (pss_cons (ps_set (i := 4) sc__law_beneath.nd rfl (Or.inr rfl) (pe_callTy call_list_of (by rfl) B.list (by decide +kernel) (pa_cons (pe_ix ix_list (pv 0) (pv 3) (fun _ _ => rfl)) pa_nil)))
        (pss_cons (ps_for PassesOwn.never rfl (pi_list (pe_ix ix_list (pv 0) (pv 3) (fun _ _ => rfl))) (pg_name (i := 5) sc__law_beneath.nd rfl (Or.inl rfl))
        (pss_one (ps_set (i := 4) sc__law_beneath.nd rfl (Or.inr rfl) (pe_op op_cat (pv 4) (pe_lc (own := [("_law_other", 6)]) (g := gName 6) rfl sc__law_beneath.nd (pi_list (pe_ix ix_list (pv 2) (pv 5) (fun _ _ => rfl))) (blkOk_by (own := [("_law_other", 6)]) (N := ["_law_direct_here", "_law_lamps", "_law_rows", "_law_lamp", "_law_found", "_law_lower", "_law_other"]) (sc := defScope s__law_beneath) (by decide +kernel)) (fun _ _ _ _ _ => by exact (pg_name (i := 6) sc__law_beneath.nd rfl (Or.inl rfl))) (fun _ _ _ _ _ => by exact (pts_one (pt_cmpR (op_notIn_seqK (K := K)) (pv 6) (pv 4) (by first | exact nomark _ | rfl)))) (fun _ _ _ _ _ => by exact (pv 6)))))))
        (pss_one (ps_asg (pe_callB cr_sortedI (by rfl) B.sorted (by decide +kernel) (pa_cons (pv 4) pa_nil)) (pg_sub (pv 2) (pv 3) set_list))))))
      (pss_one (ps_ret (pv 2))))), ?_⟩
    have dg := wk.dag hp
    have nd : lamps.Nodup := hp.nodup_iff.mpr List.nodup_range
    have ln : lamps.length = n := by have := hp.length_eq; rwa [List.length_range] at this
    have key := ell_lcL (K := K) (σ := [some (.ref d), some (.ref l), none, none, none, none, none]) (H := H) (te := tLst tNil) (a := l) (xs := vn lamps) (tl := tVar 1) (j := 3) (vs := [3])
      (fun _ => []) (ev_var rfl) (SqL.of hl) (by rw [vn_len]; omega) (fun _ => rfl) (fun i x H1 e1 hi => el_lst ea_nil (by decide))
    rw [vn_len, ln] at key
    refine q_asgLL key fun rw_ rd H1 nrw e1 L1 f1 => ?_
    clear key
    have LL1 : LL H1 rw_ (List.replicate n []) := L1.ll (by simp) fun i _ => row_rep
    refine q_forNLn (K := K) (el_rev (ev_var rfl) (SqL.of (e1 _ _ hl))) (fun p i σ H' => Ex H H' ∧ p ≠ rw_ ∧ H' p = some (.lst (vn lamps.reverse)) ∧ ∃ (C : List (List Nat)) (x3 x4 x5 : Option V), σ = [some (.ref d), some (.ref l), some (.ref rw_), x3, x4, x5, none] ∧ LL H' rw_ C ∧ C.length = n ∧ ∀ u ∈ lamps.reverse.take i, row C u = reach n ps u)
      (fun p H2 np2 e2 hp2 => ⟨e1.trans e2, fun z => (by rw [z, L1.at_] at np2; cases np2), by rw [← vn_rev]; exact hp2, _, _, _, _, rfl, LL1.mono e2, by simp, by simp⟩) (fun p i σ H' _ q => SqL.of (by rw [vn_rev]; exact q.2.2.1)) ?_ ?_
    · rintro p i x σ H2 hi ⟨e2, npr, hp2, C, x3, x4, x5, rfl, hC, lC, hdone⟩
      rw [vn_rev] at hi
      have hi2 : i < lamps.reverse.length := by
        have := (List.getElem?_eq_some_iff.mp hi).1
        rwa [vn_len] at this
      rw [vn_get hi2] at hi
      cases hi
      have hvm := getD_mem hi2
      have hat := getD_at hi2
      have hstep := take_succ_getD hi2
      generalize lamps.reverse.getD i 0 = v at hvm hat hstep
      have hv : v < n := List.mem_range.mp (hp.mem_iff.mp (List.mem_reverse.mp hvm))
      obtain ⟨r, hr0, hrow⟩ := ev_row (K := K) (ta := tVar 0) (tb := tVar 3) hd (i := v) (by rw [rows_rowsOf.len]; exact hv)
      rw [row_rowsOf hv] at hr0
      generalize hdl : (List.range n).filter (fun x => decide ((v, x) ∈ ps)) = dl at hr0
      have hdm : ∀ x, x ∈ dl ↔ (v, x) ∈ ps := fun x => by
        rw [← hdl, List.mem_filter, List.mem_range, decide_eq_true_eq]
        exact ⟨fun h => h.2, fun h => ⟨(dg.lt _ h).2, h⟩⟩
      have hdn : dl.Nodup := by rw [← hdl]; exact List.nodup_range.filter _
      have hdlen : dl.length ≤ n := nodup_len hdn fun x hx => (dg.lt _ ((hdm x).mp hx)).2
      refine q_asgL (el_list (hrow e2 (ev_var rfl) (ev_var rfl)) (SqL.of (e2 _ _ hr0))) fun fa H3 nfa e3 hfa => ?_
      have e23 := e2.trans e3
      refine q_forLn (K := K) (a := r) (xs := vn dl) (hrow e23 (ev_var rfl) (ev_var rfl)) (SqL.of (e23 _ _ hr0)) (fun j σ H' => Ex H3 H' ∧ ∃ (fa : Addr) (L : List Nat) (x5 : Option V), σ = [some (.ref d), some (.ref l), some (.ref rw_), some (.int (v : Int)), some (.ref fa), x5, none] ∧ H' fa = some (.lst (vn L)) ∧ L.Nodup ∧ ∀ x, x ∈ L ↔ (v, x) ∈ ps ∨ ∃ w ∈ dl.take j, Pth ps w x)
        (fun H4 e4 => ⟨e4, fa, dl, _, rfl, e4 _ _ hfa, hdn, fun x => by rw [hdm]; simp⟩) (fun j σ H' _ q => SqL.of (q.1 _ _ (e23 _ _ hr0))) ?_ ?_
      · rintro j x σ H4 hj ⟨e4, fa, L, x5, rfl, hL, ndL, hLm⟩
        have hj2 : j < dl.length := by
          have := (List.getElem?_eq_some_iff.mp hj).1
          rwa [vn_len] at this
        rw [vn_get hj2] at hj
        cases hj
        have hwm := getD_mem hj2
        have hwst := take_succ_getD hj2
        generalize dl.getD j 0 = u at hwm hwst
        have hup := (hdm u).mp hwm
        have hudone := hdone u (downs nd wk hat hup)
        have hu : u < n := (dg.lt _ hup).2
        have hC4 := hC.mono (e3.trans e4)
        obtain ⟨r2, hr2, hrow2⟩ := ev_row (K := K) (ta := tVar 2) (tb := tVar 5) hC4 (i := u) (by rw [lC]; exact hu)
        rw [hudone] at hr2
        have hLlt : ∀ x ∈ L, x < n := fun x hx => by
          rcases (hLm x).mp hx with h | ⟨w, _, h⟩
          · exact (dg.lt _ h).2
          · exact (dg.pth_lt h).2
        have hLlen := nodup_len ndL hLlt
        have key := el_lcL (K := K) (σ := [some (.ref d), some (.ref l), some (.ref rw_), some (.int (v : Int)), some (.ref fa), some (.int (u : Int)), none]) (H := H4) (a := r2) (xs := vn (reach n ps u)) (tl := tOp (rIxL K) (tVar 2) (tVar 5)) (j := 6) (vs := [6])
          (t := tTest (tOp (rIn K true) (tVar 6) (tVar 4))) (te := tVar 6) (fun i => !decide ((reach n ps u).getD i 0 ∈ L)) (fun i => .int (((reach n ps u).getD i 0 : Nat) : Int))
          (hrow2 (Ex.refl _) (ev_var rfl) (ev_var rfl)) (SqL.of hr2) (by rw [vn_len]; have := reach_len (n := n) (ps := ps) (u := u); omega) (fun _ => rfl) (fun k y H5 e5 hk => ?_) (fun k y H5 e5 hk _ => ?_)
        · rw [vn_len, given_filterL (p := fun x => !decide (x ∈ L))] at key
          have hfl : ((reach n ps u).filter fun x => !decide (x ∈ L)).length ≤ n := Nat.le_trans (List.length_filter_le _ _) reach_len
          refine s_asgL (el_catL (ev_var rfl) hL key (by rw [vn_len, vn_len]; omega)) fun fa2 H5 nf5 e5 hf5 => ?_
          refine ⟨e4.trans e5, fa2, L ++ (reach n ps u).filter (fun x => !decide (x ∈ L)), _, rfl, by rw [vn_app]; exact hf5, ?_, fun x => ?_⟩
          · refine List.nodup_append.mpr ⟨ndL, (reach_asc.imp fun h => Nat.ne_of_lt h).filter _, fun a ha b hb z => ?_⟩
            have := (List.mem_filter.mp hb).2
            rw [← z] at this
            simp [ha] at this
          · rw [List.mem_append, List.mem_filter, mem_reach dg, hwst]
            constructor
            · rintro (h | ⟨h, _⟩)
              · rcases (hLm x).mp h with h | ⟨w, h1, h2⟩
                · exact .inl h
                · exact .inr ⟨w, List.mem_append_left _ h1, h2⟩
              · exact .inr ⟨u, by simp, h⟩
            · rintro (h | ⟨w, h1, h2⟩)
              · exact .inl ((hLm x).mpr (.inl h))
              · rcases List.mem_append.mp h1 with h1 | h1
                · exact .inl ((hLm x).mpr (.inr ⟨w, h1, h2⟩))
                · rw [List.mem_singleton.mp h1] at h2
                  by_cases z : x ∈ L
                  · exact .inl z
                  · exact .inr ⟨h2, by simp [z]⟩
        · have hk2 : k < (reach n ps u).length := by
            have := (List.getElem?_eq_some_iff.mp hk).1
            rwa [vn_len] at this
          rw [vn_get hk2] at hk
          cases hk
          refine et_test (ev_is (ev_op (ev_var rfl) (ev_var rfl) (rv_niL (SqL.of (e5 _ _ hL)) rfl vn_flat)) ?_)
          rw [inV_vn]
        · have hk2 : k < (reach n ps u).length := by
            have := (List.getElem?_eq_some_iff.mp hk).1
            rwa [vn_len] at this
          rw [vn_get hk2] at hk
          cases hk
          exact ev_var rfl
      · rintro σ H4 ⟨e4, fa, L, x5, rfl, hL, ndL, hLm⟩
        rw [vn_len, List.take_length] at hLm
        have hC4 := hC.mono (e3.trans e4)
        obtain ⟨rs4, hrs4, lrs4⟩ := hC4.at'
        have e24 := e23.trans e4
        refine s_setN (l := rw_) (j := v) hrs4 (el_sortedN (m := reach n ps v) (ev_var rfl) hL ndL reach_asc fun x => ?_) (ev_var rfl) (ev_var rfl) (by rw [lrs4, lC]; exact hv) fun q H5 nq e5 hq => ?_
        · rw [hLm, mem_reach dg]
          constructor
          · rintro (h | ⟨w, h1, h2⟩)
            · exact .one h
            · exact .cons ((hdm w).mp h1) h2
          · intro h
            cases h with
            | one h => exact .inl h
            | cons h1 h2 => exact .inr ⟨_, (hdm _).mpr h1, h2⟩
        · have nqr : q ≠ rw_ := fun z => by rw [z, hrs4] at nq; cases nq
          refine ⟨Ex.mut (e24.trans e5) nrw, npr, by rw [upd_ne npr]; exact e5 _ _ (e4 _ _ (e3 _ _ hp2)), C.set v (reach n ps v), _, _, _, rfl, (hC4.mono e5).put (e5 _ _ hrs4) (by rw [lC]; exact hv) hq nqr, by rw [List.length_set]; exact lC, fun u hu => ?_⟩
          rw [row_set (by rw [lC]; exact hv)]
          by_cases z : u = v
          · rw [if_pos z, z]
          · rw [if_neg z]
            rw [hstep] at hu
            rcases List.mem_append.mp hu with hu | hu
            · exact hdone u hu
            · exact absurd (List.mem_singleton.mp hu) z
    · rintro p σ H2 ⟨e2, npr, hp2, C, x3, x4, x5, rfl, hC, lC, hdone⟩
      rw [vn_rev, vn_len, List.take_length] at hdone
      have hrow : ∀ u, u < n → row C u = reach n ps u := fun u hu => hdone u (List.mem_reverse.mpr (hp.mem_iff.mpr (List.mem_range.mpr hu)))
      have hout : ∀ u, ¬ u < n → row C u = [] := fun u hu => by
        unfold row
        rw [List.getD_eq_getElem?_getD, List.getElem?_eq_none (by omega)]; rfl
      refine s_ret (ev_var rfl) fun H3 e3 => kk rw_ C H3 nrw (e2.trans e3) (hC.mono e3) ⟨lC, fun u v hv => ?_, fun u => ?_⟩ fun u hu v => by rw [hrow u hu]; exact mem_reach dg
      rotate_left
      · by_cases q : u < n
        · rw [hrow u q]; exact reach_asc
        · rw [hout u q]; exact .nil
      · by_cases q : u < n
        · rw [hrow u q] at hv; exact (dg.pth_lt ((mem_reach dg).mp hv)).2
        · rw [hout u q] at hv; simp at hv
end
end K57

set_option Elab.async false
set_option linter.all false
set_option maxRecDepth 100000
set_option maxHeartbeats 4000000
namespace K57
open PySem PySem.Spec PyProof.Rows L2 Evl M57
theorem dw_app {H H' H4 : Hp} {f : Nat → List Nat} {Dl q : Addr} {i : Nat} {acc : List V} (p : Dw H f Dl i H') (ha : H' Dl = some (.lst acc)) (e4 : Ex H' H4) (nq : H' q = none) (hq : H4 q = some (.lst (vn (f i)))) : Dw H f Dl (i + 1) (upd H4 Dl (.lst (acc ++ [.ref q]))) := by
  obtain ⟨hD, e, rd, L, hf⟩ := p
  have L0 := L.at_
  rw [ha] at L0
  cases L0
  refine ⟨hD, Ex.mut (e.trans e4) hD, rd ++ [q], ⟨?_, by simp [L.len], ?_, ?_, fun j r hr => ?_⟩, fun r hr => ?_⟩
  · rw [upd_same]; simp
  · refine List.nodup_append.mpr ⟨L.nd, by simp, fun a ha b hb z => ?_⟩
    rw [List.mem_singleton.mp hb] at z
    subst z
    obtain ⟨j, hj⟩ := List.getElem?_of_mem ha
    rw [L.el j _ hj] at nq
    cases nq
  · intro z
    rcases List.mem_append.mp z with z | z
    · exact L.np z
    · rw [← List.mem_singleton.mp z, L.at_] at nq; cases nq
  · by_cases hk : j < rd.length
    · rw [List.getElem?_append_left hk] at hr
      have hne : r ≠ Dl := fun z => L.np (z ▸ List.mem_of_getElem? hr)
      rw [upd_ne hne]
      exact e4 _ _ (L.el j r hr)
    · have h2 := (List.getElem?_eq_some_iff.mp hr).1
      rw [List.length_append, List.length_singleton] at h2
      have ej : j = rd.length := by omega
      subst ej
      rw [List.getElem?_append_right (Nat.le_refl _)] at hr
      simp at hr
      subst hr
      have hne : q ≠ Dl := fun z => by rw [z, L.at_] at nq; cases nq
      rw [upd_ne hne, L.len]
      exact hq
  · rcases List.mem_append.mp hr with hr | hr
    · exact hf r hr
    · rw [List.mem_singleton.mp hr]; exact fresh_back e nq
section
variable {P : Program} {w : World} {K : PySem.W.Frag} {mg : Str → Option Value} {base : Heap} {σ : L2.St} {H : Hp}
abbrev s__law_order : Stmt := topS 52
theorem sc__law_order : FnScope ["_law_beneath_here", "_law_lamps", "_law_above", "_law_lamp", "_law_upper", "_law_order_here", "_law_step"] ["_law_beneath_here"] (defScope s__law_order) := ⟨rfl, rfl, rfl, by decide +kernel, rfl, by decide +kernel, by decide +kernel⟩
def sp_lorder : Sp := fun vs H Q _ => ∃ (n : Nat) (a : Addr) (B : List (List Nat)) (ps : List (Nat × Nat)), vs = [.ref a] ∧ LL H a B ∧ Rows n B ∧ (∀ u, u < n → ∀ v, v ∈ row B u ↔ Pth ps u v) ∧ Dag n ps ∧ n ≤ 16 ∧
  ∀ p O H', H p = none → Ex H H' → H' p = some (.lst (vn O)) → Pre n ps O → O.length = n → Q (.ref p) H'
theorem d_lorder (B : Bi mg) (I : DefIs K mg "_law_order" "_law_order" s__law_order ["_law_beneath_here"]) : DefOk P w K mg base "_law_order" 1 ["_law_beneath_here"] sp_lorder := by
  refine I.ok sc__law_order (fun vs H Q E h => ?_) (fun f cdv A outer sh H vs Q E hr h => ?_)
  · obtain ⟨_, _, _, _, rfl, _⟩ := h; rfl
  · obtain ⟨n, a, T, ps, rfl, hT, R, hP, dg, hn, kk⟩ := h
    refine ⟨_, (pss_cons (ps_set (i := 1) sc__law_order.nd rfl (Or.inl rfl) (pe_listRg rfl rfl B.list (prg_1 rfl B.range (pe_callB call_len (by rfl) B.len PySem.boot_len (pa_cons (pv 0) pa_nil)))))
      (pss_cons (ps_set (i := 2) sc__law_order.nd rfl (Or.inl rfl) (pe_lst pa_nil))
      (pss_cons (ps_for PassesOwn.never rfl (pi_list (pv 1)) (pg_name (i := 3) sc__law_order.nd rfl (Or.inr rfl))
      (pss_one (ps_expr (pe_bm PySem.F.plainAttrs_list PySem.F.slot_list_append PySem.F.type_list_append mt_append (pv 2) (pa_cons (pe_lc (own := [("_law_upper", 4)]) (g := gName 4) rfl sc__law_order.nd (pi_list (pv 1)) (blkOk_by (own := [("_law_upper", 4)]) (N := ["_law_beneath_here", "_law_lamps", "_law_above", "_law_lamp", "_law_upper", "_law_order_here", "_law_step"]) (sc := defScope s__law_order) (by decide +kernel)) (fun _ _ _ _ _ => by exact (pg_name (i := 4) sc__law_order.nd rfl (Or.inl rfl))) (fun _ _ _ _ _ => by exact (pts_one (pt_cmpR (op_in_seqK (K := K)) (pv 3) (pe_ix (ix_listK (K := K)) (pv 0) (pv 4) (fun _ _ => rfl)) (by first | exact nomark _ | rfl)))) (fun _ _ _ _ _ => by exact (pv 4))) pa_nil)))))
      (pss_cons (ps_set (i := 5) sc__law_order.nd rfl (Or.inr rfl) (pe_lst pa_nil))
      (pss_cons (ps_for PassesOwn.never rfl (pi_list (pv 1)) (pg_name (i := 6) sc__law_order.nd rfl (Or.inl rfl))
      (pss_one (ps_for PassesOwn.never rfl (pi_list (pv 1)) (pg_name (i := 3) sc__law_order.nd rfl (Or.inr rfl))
        (pss_one (ps_if (PW.pt (pw_and (pt_cmpR op_notIn_seq (pv 3) (pv 5) (by first | exact nomark _ | rfl)) (pw_and1 (pt_cmpR (op_eqD hr.units) (pe_lc (own := [("_law_upper", 4)]) (g := gName 4) rfl sc__law_order.nd (pi_list (pe_ix ix_list (pv 2) (pv 3) (fun _ _ => rfl))) (blkOk_by (own := [("_law_upper", 4)]) (N := ["_law_beneath_here", "_law_lamps", "_law_above", "_law_lamp", "_law_upper", "_law_order_here", "_law_step"]) (sc := defScope s__law_order) (by decide +kernel)) (fun _ _ _ _ _ => by exact (pg_name (i := 4) sc__law_order.nd rfl (Or.inl rfl))) (fun _ _ _ _ _ => by exact (pts_one (pt_cmpR (op_notIn_seqK (K := K)) (pv 4) (pv 5) (by first | exact nomark _ | rfl)))) (fun _ _ _ _ _ => by exact (pv 4))) (pe_lst pa_nil) (nomark _)))))
          (pss_cons (ps_expr (pe_bm PySem.F.plainAttrs_list PySem.F.slot_list_append PySem.F.type_list_append mt_append (pv 5) (pa_cons (pv 3) pa_nil)))
            (pss_one (ps_break)))
          pss_nil)))))
      (pss_one (ps_ret (pv 5)))))))), ?_⟩
    obtain ⟨rs0, ha0, lrs0⟩ := hT.at'
    have rgD : ∀ {j : Nat}, j < n → (List.range n).getD j 0 = j := fun {j} hj => by
      rw [List.getD_eq_getElem?_getD, List.getElem?_range hj]; rfl
    refine q_asgL (el_range hn (ev_is (ev_lenA (ev_var rfl) (.inl ha0)) (by rw [lrs0, R.len]))) fun lm H1 nlm e1 hlm => ?_
    refine q_asgL (el_lst ea_nil (by decide)) fun ab H2 nab e2 hab => ?_
    have e12 := e1.trans e2
    have hlm2 := e2 _ _ hlm
    -- the lamps above each
    refine q_forLn (K := K) (a := lm) (xs := vn (List.range n)) (ev_var rfl) (SqL.of hlm2) (fun i σ H' => Dw H1 (fun v => (List.range n).filter fun u => decide (v ∈ row T u)) ab i H' ∧ ∃ x3, σ = [some (.ref a), some (.ref lm), some (.ref ab), x3, none, none, none])
      (fun H3 e3 => ⟨⟨nab, e2.trans e3, [], ⟨e3 _ _ hab, rfl, .nil, by simp, fun i r hr => by simp at hr⟩, by simp⟩, _, rfl⟩) (fun i σ H' _ q => SqL.of (q.1.2.1 _ _ hlm)) ?_ ?_
    · rintro i x σ H3 hi ⟨dw, x3, rfl⟩
      have hi2 : i < n := by
        have := (List.getElem?_eq_some_iff.mp hi).1
        rwa [vn_len, List.length_range] at this
      rw [vn_get (by rw [List.length_range]; exact hi2), rgD hi2] at hi
      cases hi
      have e13 : Ex H1 H3 := dw.2.1
      obtain ⟨acc, hacc⟩ : ∃ acc, H3 ab = some (.lst acc) ∧ acc.length = i := by
        obtain ⟨_, _, rd, L, _⟩ := dw
        exact ⟨_, L.at_, by rw [List.length_map, L.len]⟩
      have key := el_lcL (K := K) (σ := [some (.ref a), some (.ref lm), some (.ref ab), some (.int (i : Int)), none, none, none]) (H := H3) (a := lm) (xs := vn (List.range n)) (tl := tVar 1) (j := 4) (vs := [4])
        (t := tTest (tOp (rIn K false) (tVar 3) (tOp (rIxL K) (tVar 0) (tVar 4)))) (te := tVar 4) (fun j => decide (i ∈ row T ((List.range n).getD j 0))) (fun j => .int (((List.range n).getD j 0 : Nat) : Int))
        (ev_var rfl) (SqL.of (e13 _ _ hlm)) (by rw [vn_len, List.length_range]; omega) (fun _ => rfl) (fun j y H4 e4 hj => ?_) (fun j y H4 e4 hj _ => ?_)
      · rw [vn_len, given_filterL (p := fun u => decide (i ∈ row T u))] at key
        exact s_appL (l := ab) hacc.1 (ev_var rfl) key (by omega) fun q H4 nq e4 hq => ⟨dw_app dw hacc.1 e4 nq hq, _, rfl⟩
      · have hj2 : j < n := by
          have := (List.getElem?_eq_some_iff.mp hj).1
          rwa [vn_len, List.length_range] at this
        rw [vn_get (by rw [List.length_range]; exact hj2), rgD hj2] at hj
        cases hj
        rw [rgD hj2]
        obtain ⟨r, hr0, hrow⟩ := ev_row (K := K) (ta := tVar 0) (tb := tVar 4) hT (i := j) (by rw [R.len]; exact hj2)
        refine et_test (ev_is (ev_op (ev_var rfl) (hrow ((e1.trans e13).trans e4) (ev_var rfl) (ev_var rfl)) (rv_isL (SqL.of (e4 _ _ (e13 _ _ (e1 _ _ hr0)))) rfl vn_flat)) ?_)
        rw [inV_vn]
      · have hj2 : j < n := by
          have := (List.getElem?_eq_some_iff.mp hj).1
          rwa [vn_len, List.length_range] at this
        rw [vn_get (by rw [List.length_range]; exact hj2)] at hj
        cases hj
        exact ev_var rfl
    · rintro σ H3 ⟨dw, x3, rfl⟩
      rw [vn_len, List.length_range] at dw
      obtain ⟨_, e13, rd, L, _⟩ := dw
      have hA : LL H3 ab (rowsOf n fun v u => decide (v ∈ row T u)) := L.ll rows_rowsOf.len fun i hi => row_rowsOf hi
      clear L
      have e03 := e1.trans e13
      have hlm3 := e13 _ _ hlm
      refine q_asgL (el_lst ea_nil (by decide)) fun od H4 nod e4 hod => ?_
      refine q_forLn (K := K) (a := lm) (xs := vn (List.range n)) (ev_var rfl) (SqL.of (e4 _ _ hlm3)) (fun i σ H' => Ex H3 H' ∧ ∃ (O : List Nat) (x3 x6 : Option V), σ = [some (.ref a), some (.ref lm), some (.ref ab), x3, none, some (.ref od), x6] ∧ H' od = some (.lst (vn O)) ∧ Pre n ps O ∧ O.length = i)
        (fun H5 e5 => ⟨e4.trans e5, [], _, _, rfl, e5 _ _ hod, Pre.nil, rfl⟩) (fun i σ H' _ q => SqL.of (q.1 _ _ hlm3)) ?_ ?_
      · rintro i x σ H5 hi ⟨e5, O, x3, x6, rfl, hO, pO, lO⟩
        have hi2 : i < n := by
          have := (List.getElem?_eq_some_iff.mp hi).1
          rwa [vn_len, List.length_range] at this
        refine s_forLn (K := K) (a := lm) (xs := vn (List.range n)) (ev_var rfl) (SqL.of (e5 _ _ hlm3)) (fun j σ H' => Ex H3 H' ∧ H' od = some (.lst (vn O)) ∧ (∃ x3, σ = [some (.ref a), some (.ref lm), some (.ref ab), x3, none, some (.ref od), some x]) ∧ ∀ u, u < j → u < n → ¬ (u ∉ O ∧ ∀ y, Pth ps y u → y ∈ O))
          (fun H6 e6 => ⟨e5.trans e6, e6 _ _ hO, ⟨_, rfl⟩, fun u hu => absurd hu (by omega)⟩) (fun j σ H' _ q => SqL.of (q.1 _ _ hlm3)) ?_ ?_
        · rintro j z σ H6 hj ⟨e6, hO6, ⟨x3', rfl⟩, hno⟩
          have hj2 : j < n := by
            have := (List.getElem?_eq_some_iff.mp hj).1
            rwa [vn_len, List.length_range] at this
          rw [vn_get (by rw [List.length_range]; exact hj2), rgD hj2] at hj
          cases hj
          obtain ⟨r, hr0, hrow⟩ := ev_row (K := K) (ta := tVar 2) (tb := tVar 3) hA (i := j) (by rw [rows_rowsOf.len]; exact hj2)
          rw [row_rowsOf hj2] at hr0
          generalize hF : (List.range n).filter (fun u => decide (j ∈ row T u)) = F at hr0
          have hFm : ∀ u, u ∈ F ↔ Pth ps u j := fun u => by
            rw [← hF, List.mem_filter, List.mem_range, decide_eq_true_eq]
            exact ⟨fun h => (hP u h.1 j).mp h.2, fun h => ⟨(dg.pth_lt h).1, (hP u (dg.pth_lt h).1 j).mpr h⟩⟩
          have hFl : F.length ≤ n := by
            rw [← hF]; exact Nat.le_trans (List.length_filter_le _ _) (by rw [List.length_range]; exact Nat.le_refl _)
          have hb : EvT (tAnd (tTest (tOp (rIn K true) (tVar 3) (tVar 5))) (tTest (tOp (rEqD K) (tLc (iList K (tOp (rIxL K) (tVar 2) (tVar 3))) (gName 4) (tTest (tOp (rIn K true) (tVar 4) (tVar 5))) (tVar 4) [4]) (tLst tNil))))
              [some (.ref a), some (.ref lm), some (.ref ab), some (.int (j : Int)), none, some (.ref od), some x] H6 (!decide (j ∈ O) && decide (F.filter (fun u => !decide (u ∈ O)) = [])) := by
            refine et_and (et_test (ev_is (ev_op (ev_var rfl) (ev_var rfl) (rv_niL (SqL.of hO6) rfl vn_flat)) (by rw [inV_vn]))) fun _ => et_test ?_
            have key := el_lcL (K := K) (σ := [some (.ref a), some (.ref lm), some (.ref ab), some (.int (j : Int)), none, some (.ref od), some x]) (H := H6) (a := r) (xs := vn F) (tl := tOp (rIxL K) (tVar 2) (tVar 3)) (j := 4) (vs := [4])
              (t := tTest (tOp (rIn K true) (tVar 4) (tVar 5))) (te := tVar 4) (fun i => !decide (F.getD i 0 ∈ O)) (fun i => .int ((F.getD i 0 : Nat) : Int))
              (hrow e6 (ev_var rfl) (ev_var rfl)) (SqL.of (e6 _ _ hr0)) (by rw [vn_len]; omega) (fun _ => rfl) (fun k y H7 e7 hk => ?_) (fun k y H7 e7 hk _ => ?_)
            · rw [vn_len, given_filterL (p := fun u => !decide (u ∈ O))] at key
              exact ev_opLL key (el_lst ea_nil (by decide)) fun p q H7 hp hq _ => rv_eqNil hp hq
            · have hk2 : k < F.length := by
                have := (List.getElem?_eq_some_iff.mp hk).1
                rwa [vn_len] at this
              rw [vn_get hk2] at hk
              cases hk
              exact et_test (ev_is (ev_op (ev_var rfl) (ev_var rfl) (rv_niL (SqL.of (e7 _ _ hO6)) rfl vn_flat)) (by rw [inV_vn]))
            · have hk2 : k < F.length := by
                have := (List.getElem?_eq_some_iff.mp hk).1
                rwa [vn_len] at this
              rw [vn_get hk2] at hk
              cases hk
              exact ev_var rfl
          have hB : (!decide (j ∈ O) && decide (F.filter (fun u => !decide (u ∈ O)) = [])) = true ↔ (j ∉ O ∧ ∀ y, Pth ps y j → y ∈ O) := by
            rw [Bool.and_eq_true, decide_eq_true_eq, List.filter_eq_nil_iff]
            constructor
            · rintro ⟨h1, h2⟩
              exact ⟨by simpa using h1, fun y hy => by simpa using h2 y ((hFm y).mpr hy)⟩
            · rintro ⟨h1, h2⟩
              exact ⟨by simpa using h1, fun y hy => by simpa using h2 y ((hFm y).mp hy)⟩
          refine s_when hb (fun hTr H7 e7 => ?_) (fun hFa H7 e7 => ?_)
          · obtain ⟨c1, c2⟩ := hB.mp hTr
            refine q_app (l := od) (e7 _ _ hO6) (ev_var rfl) (ev_var rfl) (by rw [vn_len]; omega) fun H8 e8 => ?_
            refine ⟨Ex.mut ((e6.trans e7).trans e8) nod, O ++ [j], _, _, rfl, by rw [upd_same, vn_app'], pO.snoc hj2 c1 c2, by rw [List.length_append, List.length_singleton, lO]⟩
          · refine ⟨e6.trans e7, e7 _ _ hO6, ⟨_, rfl⟩, fun u hu hun => ?_⟩
            by_cases z : u = j
            · subst z
              intro h
              rw [hB.mpr h] at hFa
              cases hFa
            · exact hno u (by omega) hun
        · rintro σ H6 ⟨e6, hO6, ⟨x3', rfl⟩, hno⟩
          rw [vn_len, List.length_range] at hno
          obtain ⟨y, hy, ny, hyu⟩ := pO.next dg (by omega)
          exact absurd ⟨ny, hyu⟩ (hno y hy hy)
      · rintro σ H5 ⟨e5, O, x3, x6, rfl, hO, pO, lO⟩
        rw [vn_len, List.length_range] at lO
        exact s_ret (ev_var rfl) fun H6 e6 => kk od O H6 (fresh_back e03 nod) ((e03.trans e5).trans e6) (e6 _ _ hO) pO lO
end
end K57

set_option Elab.async false
set_option linter.all false
set_option maxRecDepth 100000
set_option maxHeartbeats 4000000
namespace K57
open PySem PySem.Spec PyProof.Rows L2 Evl M57
/-! ### what evaluates to what -/
section
variable {K : PySem.W.Frag} {σ : L2.St} {H : Hp} {ta tb te : TE}
theorem spv_isint {i : Int} : SpV sp_isint [.int i] H (.bl true) := fun H1 e Q q E => ⟨i, rfl, q⟩
theorem spv_istruth {b : Bool} : SpV sp_istruth [.bl b, .bl b] H (.bl true) := fun H1 e Q q E => ⟨b, rfl, q⟩
theorem spv_islist {a b : Addr} {xs : List Int} (hl : xs.length ≤ 1000) (ha : H a = some (.lst (vi xs))) (hb : H b = some (.lst (vi xs))) : SpV sp_islist [.ref a, .ref b] H (.bl true) := fun H1 e Q q E => ⟨a, b, xs, rfl, hl, e _ _ ha, e _ _ hb, q⟩
theorem spv_istuple {a b : Addr} {xs : List Int} (hl : xs.length ≤ 1000) (ha : H a = some (.tup (vi xs))) (hb : H b = some (.tup (vi xs))) : SpV sp_istuple [.ref a, .ref b] H (.bl true) := fun H1 e Q q E => ⟨a, b, xs, rfl, hl, e _ _ ha, e _ _ hb, q⟩
theorem eu_call {sp : Sp} {dvs vs xs : List V} {E : XK} {ta : TA} (h : EvA ta σ H vs) (hs : SpU sp (vs ++ dvs) H xs) : EvU (tCall sp dvs E ta) σ H xs := fun H1 e Q q =>
  h H1 e _ fun H2 e2 => hs H2 (e.trans e2) Q (fun p H3 np e3 hp => q p H3 (fresh_back e2 np) (e2.trans e3) hp) E
theorem ev_isL {a : Addr} {xs : List V} (h : Ev te σ H (.ref a)) (ha : H a = some (.lst xs)) : Ev (tCB (rIsi K) (tCons te (tCons (tC (.ty "list")) tNil))) σ H (.bl true) := fun H1 e Q q =>
  h H1 e _ fun H2 e2 => ⟨_, _, _, _, true, rfl, .ty _, .base (.lst (e2 _ _ (e _ _ ha))), kit_ty (by decide +kernel), q H2 e2⟩
theorem ev_min {a : Addr} {ns : List Int} {m : Int} (h : Ev te σ H (.ref a)) (ha : H a = some (.lst (vi ns))) (hm : m ∈ ns) (hle : ∀ y, y ∈ ns → m ≤ y) : Ev (tCB (rMin K) (tCons te tNil)) σ H (.int m) := fun H1 e Q q =>
  h H1 e _ fun H2 e2 => ⟨a, ns, rfl, SqL.of (e2 _ _ (e _ _ ha)), List.length_pos_of_mem hm, fun m' hm' hle' => by
    have : m' = m := by have := hle m' hm'; have := hle' m hm; omega
    subst this
    exact q H2 e2⟩
theorem flat_int {i : Int} : DFlat (.int i) (.int i) H := ⟨rfl, rfl, by simp [eqV]⟩
theorem rv_eqT {a b : Addr} {s : List Int} (ha : H a = some (.tup (vi s))) (hb : H b = some (.tup (vi s))) : RV (rEqG (DTup K DFlat)) (.ref a) (.ref b) H (.bl true) := fun H1 e Q q =>
  ⟨⟨a, b, _, _, rfl, rfl, SqT.of (e _ _ ha), SqT.of (e _ _ hb), rfl, fun i x y hx hy => by
    rw [hx] at hy
    cases hy
    unfold vi at hx
    rw [List.getElem?_map] at hx
    obtain ⟨r, _, rfl⟩ := Option.map_eq_some_iff.mp hx
    exact flat_int⟩, fun H' e' => q H' e'⟩
theorem rv_eqLI {a b : Addr} {s : List Int} (ha : H a = some (.lst (vi s))) (hb : H b = some (.lst (vi s))) : RV (rEqG (DList DFlat)) (.ref a) (.ref b) H (.bl true) := fun H1 e Q q =>
  ⟨⟨a, b, _, _, rfl, rfl, e _ _ ha, e _ _ hb, rfl, fun i x y hx hy => by
    rw [hx] at hy
    cases hy
    unfold vi at hx
    rw [List.getElem?_map] at hx
    obtain ⟨r, _, rfl⟩ := Option.map_eq_some_iff.mp hx
    exact flat_int⟩, fun H' e' => q H' e'⟩
theorem ev_chainT {lo x hi : Int} {tc : TE} (ha : Ev ta σ H (.int lo)) (hb : Ev tb σ H (.int x)) (hc : Ev tc σ H (.int hi)) (h1 : lo ≤ x) (h2 : x < hi) :
    Ev (tChain (rI0 fun i j => .bl (decide (i ≤ j))) (rI0 fun i j => .bl (decide (i < j))) ta tb tc) σ H (.bl true) := fun H1 e Q q =>
  ha H1 e _ fun H2 e2 => hb H2 (e.trans e2) _ fun H3 e3 => ⟨_, _, rfl, rfl, _, rfl, iteD h1 (hc H3 ((e.trans e2).trans e3) _ fun H4 e4 => ⟨_, _, rfl, rfl, qT h2 (q H4 ((e2.trans e3).trans e4))⟩)⟩
theorem min_ex : ∀ {l : List Int}, 0 < l.length → ∃ m, m ∈ l ∧ ∀ y, y ∈ l → m ≤ y
  | [a], _ => ⟨a, by simp, by simp⟩
  | a :: b :: l, _ => by
    obtain ⟨m, h1, h2⟩ := min_ex (l := b :: l) (by simp)
    by_cases q : a ≤ m
    · exact ⟨a, by simp, fun y hy => by
        rcases List.mem_cons.mp hy with rfl | hy
        · exact Int.le_refl _
        · have := h2 y hy; omega⟩
    · exact ⟨m, List.mem_cons_of_mem _ h1, fun y hy => by
        rcases List.mem_cons.mp hy with rfl | hy
        · omega
        · exact h2 y hy⟩
end
/-! ### the rule as the law meets it -/
def labels : List Str := ["free", "careful", "wired", "careful wired", "gain", "coin", "mixed"]
structure RuleOk (P : Program) (w : World) (K : PySem.W.Frag) (mg : Str → Option Value) (base : Heap) (CH C : Addr) (way : Nat) : Prop where
  T : KTxt K C
  worth : MethOk P w K mg base C "worth" 7 ["self", "state"] [] (sp_worth CH C way)
  greatest : MethOk P w K mg base C "greatest" 7 ["self", "source", "target"] [] (sp_greatest CH C way)
  reaches : MethOk P w K mg base C "reaches" 8 ["self", "source", "target"] [] (sp_reaches CH C way)
  run : MethOk P w K mg base C "run" 9 ["self", "source", "target", "limit"] [.int 1000] (sp_run CH C way)
  after : MethOk P w K mg base C "after" 9 ["self", "state", "lamp"] [] (sp_after CH C way)
  allowed : MethOk P w K mg base C "allowed" 7 ["self", "state", "lamp"] [] (sp_allowed CH C way)
  is_state : MethOk P w K mg base C "is_state" 3 ["self", "value"] [] (sp_kst CH C way)
  turned : MethOk P w K mg base C "turned" 5 ["self", "lamp"] [] (sp_turned CH C way)
  factor : MethOk P w K mg base C "factor" 5 ["self", "lamp"] [] (sp_factor CH C way)
  lab : ∃ z u, Con K C "LABEL" (.str z) u ∧ labels[way]? = some z
section
variable {P : Program} {w : World} {K : PySem.W.Frag} {mg : Str → Option Value} {base : Heap} {σ : L2.St} {H : Hp} {CH : Addr}
abbrev s__law_worth_fits : Stmt := topS 61
theorem sc__law_worth_fits : FnScope ["_law_rule_here", "_law_heavy_here", "_law_state", "_law_told", "_law_due", "_law_spot"] ["_law_rule_here", "_law_heavy_here", "_law_state"] (defScope s__law_worth_fits) := ⟨rfl, rfl, rfl, by decide +kernel, rfl, by decide +kernel, by decide +kernel⟩
def sp_wfits (P : Program) (w : World) (K : PySem.W.Frag) (mg : Str → Option Value) (base : Heap) (CH : Addr) : Sp := fun vs H Q _ => ∃ (C : Addr) (Y : Sys) (k hv t : Addr) (s : List Int), vs = [.ref k, .ref hv, .ref t] ∧ RuleOk P w K mg base CH C Y.way ∧ KinAt CH C Y H k ∧
  H hv = some (.lst (vi (heavyL Y.n Y.T Y.N Y.O))) ∧ H t = some (.tup (vi s)) ∧ IsSt Y s ∧ ∀ H', Ex H H' → Q (.bl true) H'
theorem d_wfits (B : Bi mg) (D__law_is_integer : DefOk P w K mg base "_law_is_integer" 1 ["_law_value"] sp_isint) (I : DefIs K mg "_law_worth_fits" "_law_worth_fits" s__law_worth_fits ["_law_rule_here", "_law_heavy_here", "_law_state"]) :
    DefOk P w K mg base "_law_worth_fits" 8 ["_law_rule_here", "_law_heavy_here", "_law_state"] (sp_wfits P w K mg base CH) := by
  refine I.ok sc__law_worth_fits (fun vs H Q E h => ?_) (fun f cdv A outer sh H vs Q E hr h => ?_)
  · obtain ⟨_, _, _, _, _, _, rfl, _⟩ := h; rfl
  · obtain ⟨C, Y, k, hv, t, s, rfl, RO, hk, hh, ht, hs, kk⟩ := h
    have cl := RO.T.cl
    have M_worth := RO.worth
    refine ⟨_, (pss_cons (ps_set (i := 3) sc__law_worth_fits.nd rfl (Or.inl rfl) (pe_methD M_worth cl (hr.mono (by decide)) (pv 0) (pa_cons (pv 2) pa_nil)))
      (pss_cons (ps_set (i := 4) sc__law_worth_fits.nd rfl (Or.inl rfl) (pe_callB (cr_sum rfl) (by rfl) B.sum (by decide +kernel) (pa_cons (pe_lc (own := [("_law_spot", 5)]) (g := gName 5) (tt := tYes) rfl sc__law_worth_fits.nd (pi_range1 rfl B.range (pa_cons (pe_callB call_len (by rfl) B.len PySem.boot_len (pa_cons (pv 2) pa_nil)) pa_nil)) (blkOk_by (own := [("_law_spot", 5)]) (N := ["_law_rule_here", "_law_heavy_here", "_law_state", "_law_told", "_law_due", "_law_spot"]) (sc := defScope s__law_worth_fits) (by decide +kernel)) (fun _ _ _ _ _ => by exact (pg_name (i := 5) sc__law_worth_fits.nd rfl (Or.inl rfl))) (fun _ _ _ _ _ => by exact pts_nil) (fun _ _ _ _ _ => by exact (pe_op op_mul (pe_ix (ix_tupK (K := K)) (pv 2) (pv 5) (fun _ _ => rfl)) (pe_ix (ix_listK (K := K)) (pv 1) (pv 5) (fun _ _ => rfl))))) pa_nil)))
      (pss_one (ps_ret (pe_and (pe_callD D__law_is_integer (hr.mono (by decide)) (pa_cons (pv 3) pa_nil)) (pe_one (pe_cmpR op_eq (pv 3) (pv 4) (nomark _)))))))), ?_⟩
    have ok := hk.ok
    have hn := ok.n16
    obtain ⟨dx, fs, h1, h5⟩ := hk.no
    refine q_asg (ev_meth (ev_var rfl) h1 (h5 _ (by decide +kernel)) (ea_cons (ev_var rfl) ea_nil) (spv_worth hk ht hs)) fun H1 e1 => ?_
    have key := el_lcR1 (σ := [some (.ref k), some (.ref hv), some (.ref t), some (.int (worth Y.n (heavyL Y.n Y.T Y.N Y.O) s)), none, none]) (H := H1) (ta := tCons (tCB (fun xs H Q => ∃ x n, xs = [x] ∧ LenV K x H n ∧ Q (.int n) H) (tCons (tVar 2) tNil)) tNil) (j := 5) (vs := [5]) (n := (Y.n : Int)) (t := tYes)
      (te := tOp (rI CMul fun i j => .int (i * j)) (tOp (rIxT K) (tVar 2) (tVar 5)) (tOp (rIxL K) (tVar 1) (tVar 5)))
      (fun u => true) (fun v => .int (nth s v * nth (heavyL Y.n Y.T Y.N Y.O) v)) (ea_cons (ev_is (ev_lenA (ev_var rfl) (.inr (e1 _ _ ht))) (by rw [vi_len, hs.len])) ea_nil) (by omega) (fun _ => rfl) (fun u H1 e1 hu => et_yes) (fun v H3 e3 hv' _ => ?_)
    · have e : given (Y.n : Int).toNat (fun _ => true) (fun v => V.int (nth s v * nth (heavyL Y.n Y.T Y.N Y.O) v)) = vi ((List.range Y.n).map fun v => nth s v * nth (heavyL Y.n Y.T Y.N Y.O) v) := by
        rw [Int.toNat_natCast, given_all]; unfold vi; rw [List.map_map]; rfl
      rw [e] at key
      refine q_asg (ev_is (ev_sum key) (congrArg V.int sum_range)) fun H2 e2 => ?_
      exact s_ret (ev_is (ev_andV (ev_call (ea_cons (ev_var rfl) ea_nil) spv_isint) fun _ => ev_op (ev_var rfl) (ev_var rfl) (rv_eq rfl)) (by simp [worth])) fun H3 e3 => kk H3 ((e1.trans e2).trans e3)
    · have hv2 : v < Y.n := by omega
      exact ev_op (ev_ixT (ev_var rfl) (ev_var rfl) (e3 _ _ (e1 _ _ ht)) (by rw [hs.len]; exact hv2)) (ev_ixL (ev_var rfl) (ev_var rfl) (e3 _ _ (e1 _ _ hh)) (by rw [(ok_heavy ok).len]; exact hv2)) (rv_I (.inr ⟨by have := (ok_bound ok hv2).1; omega, (ok_bound ok hv2).2⟩))
theorem spv_lnext {Y : Sys} {a t : Addr} {s : List Int} {v : Nat} (ok : Y.Ok) (hT : LL H a Y.T) (ht : H t = some (.tup (vi s))) (hs : s.length = Y.n) (hv : v < Y.n) (al : Allow Y s v) : SpV sp_lnext [.int Y.way, .ref a, .ref t, .int v] H (.int v) := fun H1 e Q q E =>
  ⟨Y, a, t, s, v, rfl, ok, hT.mono e, e _ _ ht, hs, hv, fun u H' hu hal hst e' => by
    have := hst al
    subst this
    exact q H' e', fun H' hn e' => absurd al hn⟩
theorem spu_lmoved {Y : Sys} {a b t : Addr} {s : List Int} {v : Nat} (ok : Y.Ok) (hT : LL H a Y.T) (hN : H b = some (.lst (vi Y.N))) (ht : H t = some (.tup (vi s))) (hs : s.length = Y.n) (hv : v < Y.n) : SpU sp_lmoved [.int Y.way, .int Y.hues, .ref a, .ref b, .ref t, .int v] H (vi (moved Y s v)) := fun H1 e Q q E =>
  ⟨Y, a, b, t, s, v, rfl, ok, hT.mono e, e _ _ hN, e _ _ ht, hs, hv, q⟩
theorem gr_sum {Y : Sys} (ok : Y.Ok) (s t : List Int) : (gr Y s t).sum = worth Y.n (heavyL Y.n Y.T Y.N Y.O) s - worth Y.n (heavyL Y.n Y.T Y.N Y.O) t := great_sum ok.rows (ok_heavy ok) (gr_is ok s t)
abbrev s__law_run_fits : Stmt := topS 62
theorem sc__law_run_fits : FnScope ["_law_rule_here", "_law_way", "_law_hues", "_law_turned", "_law_numbers_here", "_law_source", "_law_target", "_law_counts", "_law_told", "_law_made", "_law_state", "_law_spot"] ["_law_rule_here", "_law_way", "_law_hues", "_law_turned", "_law_numbers_here", "_law_source", "_law_target", "_law_counts"] (defScope s__law_run_fits) := ⟨rfl, rfl, rfl, by decide +kernel, rfl, by decide +kernel, by decide +kernel⟩
def sp_rfits (P : Program) (w : World) (K : PySem.W.Frag) (mg : Str → Option Value) (base : Heap) (CH : Addr) : Sp := fun vs H Q _ => ∃ (C : Addr) (Y : Sys) (k a b t1 t2 g : Addr) (s t : List Int), vs = [.ref k, .int Y.way, .int Y.hues, .ref a, .ref b, .ref t1, .ref t2, .ref g] ∧ RuleOk P w K mg base CH C Y.way ∧ KinAt CH C Y H k ∧
  LL H a Y.T ∧ H b = some (.lst (vi Y.N)) ∧ H t1 = some (.tup (vi s)) ∧ H t2 = some (.tup (vi t)) ∧ IsSt Y s ∧ IsSt Y t ∧ H g = some (.lst (vi (gr Y s t))) ∧ (∀ v, v < Y.n → 0 ≤ nth (gr Y s t) v) ∧ (gr Y s t).sum ≤ 60 ∧ ∀ H', Ex H H' → Q (.bl true) H'
theorem d_rfits (B : Bi mg) (D__law_is_integer : DefOk P w K mg base "_law_is_integer" 1 ["_law_value"] sp_isint)
    (D__law_next_allowed : DefOk P w K mg base "_law_next_allowed" 1 ["_law_way", "_law_turned", "_law_state", "_law_start_here"] sp_lnext) (D__law_moved : DefOk P w K mg base "_law_moved" 2 ["_law_way", "_law_hues", "_law_turned", "_law_numbers_here", "_law_state", "_law_spot"] sp_lmoved)
    (I : DefIs K mg "_law_run_fits" "_law_run_fits" s__law_run_fits ["_law_rule_here", "_law_way", "_law_hues", "_law_turned", "_law_numbers_here", "_law_source", "_law_target", "_law_counts"]) :
    DefOk P w K mg base "_law_run_fits" 10 ["_law_rule_here", "_law_way", "_law_hues", "_law_turned", "_law_numbers_here", "_law_source", "_law_target", "_law_counts"] (sp_rfits P w K mg base CH) := by
  refine I.ok sc__law_run_fits (fun vs H Q E h => ?_) (fun f cdv A outer sh H vs Q E hr h => ?_)
  · obtain ⟨_, _, _, _, _, _, _, _, _, _, rfl, _⟩ := h; rfl
  · obtain ⟨C, Y, k, a, b, t1, t2, g, s, t, rfl, RO, hk, hT, hN, h1, h2, hs, ht, hg, nn, hsum, kk⟩ := h
    have cl := RO.T.cl
    have M_worth := RO.worth
    have M_run := RO.run
    refine ⟨_, (pss_cons (ps_set (i := 8) sc__law_run_fits.nd rfl (Or.inl rfl) (pe_methD M_run cl (hr.mono (by decide)) (pv 0) (pa_cons (pv 5) (pa_cons (pv 6) pa_nil))))
      (pss_cons (ps_if (PW.pt (pw_or (pt_not (pt_val (pe_callB call_isi (by rfl) B.isinstance boot_isinstance (pa_cons (pv 8) (pa_cons (pe_bltn (v := .ty "list") (by rfl) B.list boot_list rfl) pa_nil))))) (pw_or1 (pt_cmpR op_ne (pe_callB call_len (by rfl) B.len PySem.boot_len (pa_cons (pv 8) pa_nil)) (pe_op op_sub (pe_methD M_worth cl (hr.mono (by decide)) (pv 0) (pa_cons (pv 5) pa_nil)) (pe_methD M_worth cl (hr.mono (by decide)) (pv 0) (pa_cons (pv 6) pa_nil))) (nomark _)))))
      (pss_one (ps_ret pe_bl))
      pss_nil)
      (pss_cons (ps_set (i := 9) sc__law_run_fits.nd rfl (Or.inl rfl) (pe_op op_rep (pe_lst (pa_cons pe_int pa_nil)) (pe_callB call_len (by rfl) B.len PySem.boot_len (pa_cons (pv 5) pa_nil))))
      (pss_cons (ps_set (i := 10) sc__law_run_fits.nd rfl (Or.inl rfl) (pv 5))
      (pss_cons (ps_for PassesOwn.never rfl (pi_list (pv 8)) (pg_name (i := 11) sc__law_run_fits.nd rfl (Or.inl rfl))
      (pss_cons (ps_if (PW.pt (pw_or (pt_not (pt_val (pe_callD D__law_is_integer (hr.mono (by decide)) (pa_cons (pv 11) pa_nil)))) (pw_or1 (pt_not (pt_chain op_le op_lt pe_int (pv 11) (pe_callB call_len (by rfl) B.len PySem.boot_len (pa_cons (pv 5) pa_nil)))))))
        (pss_one (ps_ret pe_bl))
        pss_nil)
        (pss_cons (ps_if (pt_cmpR op_ne (pe_callD D__law_next_allowed (hr.mono (by decide)) (pa_cons (pv 1) (pa_cons (pv 3) (pa_cons (pv 10) (pa_cons (pv 11) pa_nil))))) (pv 11) (nomark _))
        (pss_one (ps_ret pe_bl))
        pss_nil)
        (pss_cons (ps_set (i := 10) sc__law_run_fits.nd rfl (Or.inl rfl) (pe_callD D__law_moved (hr.mono (by decide)) (pa_cons (pv 1) (pa_cons (pv 2) (pa_cons (pv 3) (pa_cons (pv 4) (pa_cons (pv 10) (pa_cons (pv 11) pa_nil))))))))
        (pss_one (ps_asg (pe_op op_add (pe_ix ix_list (pv 9) (pv 11) (fun _ _ => rfl)) pe_int) (pg_sub (pv 9) (pv 11) set_list)))))))
      (pss_one (ps_ret (pe_and (pe_cmpR (op_eqG (rcG_tup mon_flat eqG_flat) (hr.mono (by decide))) (pv 10) (pv 6) (nomark _)) (pe_one (pe_cmpR (op_eqG (rcG_list mon_flat eqG_flat) (hr.mono (by decide))) (pv 9) (pv 7) (nomark _))))))))))), ?_⟩
    have ok := hk.ok
    have hn := ok.n16
    obtain ⟨dx, fs, k1, k5⟩ := hk.no
    refine ⟨_, rfl, k, dx, fs, rfl, k1, k5 _ (by decide +kernel), _, rfl, _, rfl, Y, k, t1, t2, s, t, rfl, rfl, hk, h1, h2, hs, ht, nn, by omega, fun p l H1 np e1 hp hpl hcn => ?_⟩
    have hlt := hpl.lt
    have lsum : (l.length : Int) = worth Y.n (heavyL Y.n Y.T Y.N Y.O) s - worth Y.n (heavyL Y.n Y.T Y.N Y.O) t := by
      rw [← gr_sum ok, sum_S, (gr_is ok s t).len, ← count_sum hlt]
      exact S_congr hcn
    refine q_when (b := false) (et_is (et_or (et_not (et_B (ev_isL (ev_var rfl) hp))) fun _ => et_test (ev_op (ev_lenA (ev_var rfl) (.inl hp)) (ev_op (ev_meth (ev_var rfl) (e1 _ _ k1) (k5 _ (by decide +kernel)) (ea_cons (ev_var rfl) ea_nil) (spv_worth (hk.mono e1) (e1 _ _ h1) hs))
      (ev_meth (ev_var rfl) (e1 _ _ k1) (k5 _ (by decide +kernel)) (ea_cons (ev_var rfl) ea_nil) (spv_worth (hk.mono e1) (e1 _ _ h2) ht)) rv_I0) (rv_ne rfl))) (by rw [vn_len, lsum]; simp)) (fun z => by cases z) (fun _ H2 e2 => ?_)
    have e12 := e1.trans e2
    refine q_asgL (el_rep0 (n := Y.n) (by omega) (ev_is (ev_lenA (ev_var rfl) (.inr (e12 _ _ h1))) (by rw [vi_len, hs.len]))) fun md H3 nmd e3 hmd => ?_
    have e13 := e12.trans e3
    refine q_asg (ev_var rfl) fun H4 e4 => ?_
    have e14 := e13.trans e4
    have hp4 := e4 _ _ (e3 _ _ (e2 _ _ hp))
    have npm : p ≠ md := ne_of_none (e2 _ _ hp) nmd
    have nmd0 : H md = none := fresh_back e12 nmd
    refine q_forLn (K := K) (a := p) (xs := vn l) (ev_var rfl) (SqL.of hp4) (fun i σ H' => Ex H H' ∧ H' p = some (.lst (vn l)) ∧ ∃ (q : Addr) (cur cn : List Int) (x : Option V), σ = [some (.ref k), some (.int (Y.way : Int)), some (.int Y.hues), some (.ref a), some (.ref b), some (.ref t1), some (.ref t2), some (.ref g), some (.ref p), some (.ref md), some (.ref q), x] ∧
        H' q = some (.tup (vi cur)) ∧ H' md = some (.lst (vi cn)) ∧ cn.length = Y.n ∧ IsSt Y cur ∧ Plays Y cur (l.drop i) t ∧ ∀ v, v < Y.n → nth cn v = (((l.take i).count v : Nat) : Int))
      (fun H5 e5 => ⟨e14.trans e5, e5 _ _ hp4, t1, s, List.replicate Y.n 0, _, rfl, e5 _ _ (e14 _ _ h1), e5 _ _ (e4 _ _ hmd), by simp, hs, hpl, fun v hv => by rw [nth_rep]; simp⟩) (fun i σ H' _ q => SqL.of q.2.1) ?_ ?_
    · rintro i x σ H5 hi ⟨e5, hp5, q, cur, cn, x0, rfl, hq, hm5, lcn, hcur, hpl5, hct⟩
      have hi2 : i < l.length := by
        have := (List.getElem?_eq_some_iff.mp hi).1
        rwa [vn_len] at this
      rw [vn_get hi2] at hi
      cases hi
      have hdrop : l.drop i = l.getD i 0 :: l.drop (i + 1) := by
        rw [List.drop_eq_getElem_cons hi2, List.getD_eq_getElem?_getD, List.getElem?_eq_getElem hi2]; rfl
      have hstep := take_succ_getD hi2
      generalize l.getD i 0 = v at hdrop hstep
      rw [hdrop] at hpl5
      cases hpl5 with
      | cons hv al hnext =>
      refine q_when (b := false) (et_is (et_or (et_not (et_B (ev_call (ea_cons (ev_var rfl) ea_nil) spv_isint))) fun _ => et_not (et_test (ev_chainT ev_c (ev_var rfl) (ev_is (ev_lenA (ev_var rfl) (.inr (e5 _ _ h1))) (by rw [vi_len, hs.len])) (by omega) (by omega)))) rfl) (fun z => by cases z) (fun _ H6 e6 => ?_)
      have e06 := e5.trans e6
      refine q_when (b := false) (et_is (et_test (ev_op (ev_call (ea_cons (ev_var rfl) (ea_cons (ev_var rfl) (ea_cons (ev_var rfl) (ea_cons (ev_var rfl) ea_nil)))) (spv_lnext ok (hT.mono e06) (e6 _ _ hq) hcur.len hv al)) (ev_var rfl) (rv_ne rfl))) (by simp)) (fun z => by cases z) (fun _ H7 e7 => ?_)
      have e07 := e06.trans e7
      have e57 := e6.trans e7
      refine q_asgU (eu_call (ea_cons (ev_var rfl) (ea_cons (ev_var rfl) (ea_cons (ev_var rfl) (ea_cons (ev_var rfl) (ea_cons (ev_var rfl) (ea_cons (ev_var rfl) ea_nil)))))) (spu_lmoved ok (hT.mono e07) (e07 _ _ hN) (e57 _ _ hq) hcur.len hv)) fun q2 H8 nq2 e8 hq2 => ?_
      have hm8 := e8 _ _ (e57 _ _ hm5)
      refine s_setL (l := md) (j := v) hm8 (ev_op (ev_ixL (ev_var rfl) (ev_var rfl) hm8 (by omega)) ev_c rv_I0) (ev_var rfl) (ev_var rfl) (by rw [vi_len]; omega) fun H9 e9 => ?_
      have nqm : q2 ≠ md := (ne_of_none (e57 _ _ hm5) nq2).symm
      refine ⟨Ex.mut ((e07.trans e8).trans e9) nmd0, by rw [upd_ne npm]; exact e9 _ _ (e8 _ _ (e57 _ _ hp5)), q2, moved Y cur v, cn.set v (nth cn v + 1), _, rfl, by rw [upd_ne nqm]; exact e9 _ _ hq2, by rw [upd_same, vi_set], by rw [List.length_set]; exact lcn, moved_st ok hcur hv al.1, hnext, fun u hu => ?_⟩
      rw [nth_set (by omega), hstep, List.count_append, List.count_singleton]
      by_cases z : u = v
      · subst z
        rw [if_pos rfl, hct u hu]; simp
      · have z' : ¬ v = u := fun y => z y.symm
        rw [if_neg z, hct u hu]; simp [z']
    · rintro σ H5 ⟨e5, hp5, q, cur, cn, x0, rfl, hq, hm5, lcn, hcur, hpl5, hct⟩
      rw [vn_len] at hpl5 hct
      rw [List.drop_length] at hpl5
      rw [List.take_length] at hct
      have ec : cn = gr Y s t := nth_eq lcn (gr_is ok s t).len fun v hv => (hct v hv).trans (hcn v hv)
      subst ec
      cases hpl5
      exact s_ret (ev_is (ev_andV (ev_op (ev_var rfl) (ev_var rfl) (rv_eqT hq (e5 _ _ h2))) fun _ => ev_op (ev_var rfl) (ev_var rfl) (rv_eqLI hm5 (e5 _ _ hg))) rfl) fun H6 e6 => kk H6 (e5.trans e6)
end
end K57

set_option Elab.async false
set_option linter.all false
set_option maxRecDepth 100000
set_option maxHeartbeats 4000000
namespace K57
open PySem PySem.Spec PyProof.Rows L2 Evl M57
section
variable {P : Program} {w : World} {K : PySem.W.Frag} {mg : Str → Option Value} {base : Heap} {σ : L2.St} {H : Hp} {CH C : Addr} {way : Nat}
theorem nth_mem {l : List Int} {i : Nat} (h : i < l.length) : nth l i ∈ l := by
  unfold nth; rw [List.getD_eq_getElem?_getD, List.getElem?_eq_getElem h]; exact List.getElem_mem h
theorem mem_nth {l : List Int} {x : Int} (h : x ∈ l) : ∃ i, i < l.length ∧ nth l i = x := by
  obtain ⟨i, hi⟩ := List.getElem?_of_mem h
  have hl := (List.getElem?_eq_some_iff.mp hi).1
  exact ⟨i, hl, by unfold nth; rw [List.getD_eq_getElem?_getD, hi]; rfl⟩
theorem spl_lgreat {Y : Sys} {O : List Nat} {a b c t1 t2 : Addr} {s t : List Int} (ok : Y.Ok) (tab : Tab Y O H a b c) (tp : Topo Y.n Y.T O) (h1 : H t1 = some (.tup (vi s))) (h2 : H t2 = some (.tup (vi t))) (hs : s.length = Y.n) (ht : t.length = Y.n) :
    SpL sp_lgreat [.ref b, .ref a, .ref c, .ref t1, .ref t2] H (vi (gr Y s t)) := fun H1 e Q q E => ⟨Y, O, a, b, c, t1, t2, s, t, rfl, ok, tab.mono e, tp, e _ _ h1, e _ _ h2, hs, ht, q⟩
theorem spl_lheavy {Y : Sys} {O : List Nat} {a b c : Addr} (ok : Y.Ok) (tab : Tab Y O H a b c) (tp : Topo Y.n Y.T O) : SpL sp_lheavy [.ref a, .ref b, .ref c] H (vi (heavyL Y.n Y.T Y.N Y.O)) := fun H1 e Q q E => ⟨Y, O, a, b, c, rfl, ok, tab.mono e, tp, q⟩
theorem spv_reaches {Y : Sys} {k a b : Addr} {s t : List Int} {m : Int} (hk : KinAt CH C Y H k) (ha : H a = some (.tup (vi s))) (hb : H b = some (.tup (vi t))) (hs : IsSt Y s) (ht : IsSt Y t) (hm : m ∈ gr Y s t) (hle : ∀ y, y ∈ gr Y s t → m ≤ y) :
    SpV (sp_reaches CH C Y.way) [.ref k, .ref a, .ref b] H (.bl (decide (m ≥ 0))) := fun H1 e Q q E => ⟨Y, k, a, b, s, t, rfl, rfl, hk.mono e, e _ _ ha, e _ _ hb, hs, ht, fun m' H' h1 h2 e' => by
    have : m' = m := by have := hle m' h1; have := h2 m hm; omega
    subst this
    exact q H' e'⟩
theorem spv_rfits {Y : Sys} {k a b t1 t2 g : Addr} {s t : List Int} (RO : RuleOk P w K mg base CH C Y.way) (hk : KinAt CH C Y H k) (hT : LL H a Y.T) (hN : H b = some (.lst (vi Y.N))) (h1 : H t1 = some (.tup (vi s))) (h2 : H t2 = some (.tup (vi t))) (hs : IsSt Y s) (ht : IsSt Y t) (hg : H g = some (.lst (vi (gr Y s t))))
    (nn : ∀ v, v < Y.n → 0 ≤ nth (gr Y s t) v) (hsum : (gr Y s t).sum ≤ 60) : SpV (sp_rfits P w K mg base CH) [.ref k, .int Y.way, .int Y.hues, .ref a, .ref b, .ref t1, .ref t2, .ref g] H (.bl true) := fun H1 e Q q E =>
  ⟨C, Y, k, a, b, t1, t2, g, s, t, rfl, RO, hk.mono e, hT.mono e, e _ _ hN, e _ _ h1, e _ _ h2, hs, ht, e _ _ hg, nn, hsum, q⟩
theorem spv_wfits {Y : Sys} {k hv t : Addr} {s : List Int} (RO : RuleOk P w K mg base CH C Y.way) (hk : KinAt CH C Y H k) (hh : H hv = some (.lst (vi (heavyL Y.n Y.T Y.N Y.O)))) (ht : H t = some (.tup (vi s))) (hs : IsSt Y s) : SpV (sp_wfits P w K mg base CH) [.ref k, .ref hv, .ref t] H (.bl true) := fun H1 e Q q E =>
  ⟨C, Y, k, hv, t, s, rfl, RO, hk.mono e, e _ _ hh, e _ _ ht, hs, q⟩
theorem spu_after {Y : Sys} {k t : Addr} {s : List Int} {v : Nat} (hk : KinAt CH C Y H k) (ht : H t = some (.tup (vi s))) (hs : IsSt Y s) (hv : v < Y.n) (al : Allow Y s v) : SpU (sp_after CH C Y.way) [.ref k, .ref t, .int v] H (vi (moved Y s v)) := fun H1 e Q q E =>
  ⟨Y, k, t, s, v, rfl, rfl, hk.mono e, e _ _ ht, hs, hv, al, q⟩
theorem spv_allowed {Y : Sys} {k t : Addr} {s : List Int} {v : Nat} (hk : KinAt CH C Y H k) (ht : H t = some (.tup (vi s))) (hs : IsSt Y s) (hv : v < Y.n) (al : Allow Y s v) : SpV (sp_allowed CH C Y.way) [.ref k, .ref t, .int v] H (.bl true) := fun H1 e Q q E =>
  ⟨Y, k, t, s, v, rfl, rfl, hk.mono e, e _ _ ht, hs, hv, al, q⟩
theorem spv_kst {Y : Sys} {k t : Addr} {s : List Int} (hk : KinAt CH C Y H k) (ht : H t = some (.tup (vi s))) (hs : IsSt Y s) : SpV (sp_kst CH C Y.way) [.ref k, .ref t] H (.bl true) := fun H1 e Q q E =>
  ⟨Y, k, t, s, rfl, rfl, hk.mono e, e _ _ ht, hs, q⟩
abbrev s__law_sum_fits : Stmt := topS 63
theorem sc__law_sum_fits : FnScope ["_law_rule_here", "_law_way", "_law_hues", "_law_turned", "_law_numbers_here", "_law_order_here", "_law_source", "_law_target", "_law_counts", "_law_told"] ["_law_rule_here", "_law_way", "_law_hues", "_law_turned", "_law_numbers_here", "_law_order_here", "_law_source", "_law_target"] (defScope s__law_sum_fits) := ⟨rfl, rfl, rfl, by decide +kernel, rfl, by decide +kernel, by decide +kernel⟩
def sp_sfits (P : Program) (w : World) (K : PySem.W.Frag) (mg : Str → Option Value) (base : Heap) (CH : Addr) : Sp := fun vs H Q _ => ∃ (C : Addr) (Y : Sys) (O : List Nat) (k a b c t1 t2 : Addr) (s t : List Int), vs = [.ref k, .int Y.way, .int Y.hues, .ref a, .ref b, .ref c, .ref t1, .ref t2] ∧ RuleOk P w K mg base CH C Y.way ∧ KinAt CH C Y H k ∧
  Tab Y O H a b c ∧ Topo Y.n Y.T O ∧ H t1 = some (.tup (vi s)) ∧ H t2 = some (.tup (vi t)) ∧ IsSt Y s ∧ IsSt Y t ∧ ∀ H', Ex H H' → Q (.bl true) H'
theorem spv_sfits {Y : Sys} {O : List Nat} {k a b c t1 t2 : Addr} {s t : List Int} (RO : RuleOk P w K mg base CH C Y.way) (hk : KinAt CH C Y H k) (tab : Tab Y O H a b c) (tp : Topo Y.n Y.T O) (h1 : H t1 = some (.tup (vi s))) (h2 : H t2 = some (.tup (vi t))) (hs : IsSt Y s) (ht : IsSt Y t) :
    SpV (sp_sfits P w K mg base CH) [.ref k, .int Y.way, .int Y.hues, .ref a, .ref b, .ref c, .ref t1, .ref t2] H (.bl true) := fun H1 e Q q E => ⟨C, Y, O, k, a, b, c, t1, t2, s, t, rfl, RO, hk.mono e, tab.mono e, tp, e _ _ h1, e _ _ h2, hs, ht, q⟩
theorem d_sfits (B : Bi mg) (D__law_greatest : DefOk P w K mg base "_law_greatest" 1 ["_law_numbers_here", "_law_turned", "_law_order_here", "_law_source", "_law_target"] sp_lgreat)
    (D__law_is_list : DefOk P w K mg base "_law_is_list" 3 ["_law_value", "_law_due"] sp_islist) (D__law_is_truth : DefOk P w K mg base "_law_is_truth" 1 ["_law_value", "_law_due"] sp_istruth)
    (D__law_run_fits : DefOk P w K mg base "_law_run_fits" 10 ["_law_rule_here", "_law_way", "_law_hues", "_law_turned", "_law_numbers_here", "_law_source", "_law_target", "_law_counts"] (sp_rfits P w K mg base CH))
    (I : DefIs K mg "_law_sum_fits" "_law_sum_fits" s__law_sum_fits ["_law_rule_here", "_law_way", "_law_hues", "_law_turned", "_law_numbers_here", "_law_order_here", "_law_source", "_law_target"]) :
    DefOk P w K mg base "_law_sum_fits" 11 ["_law_rule_here", "_law_way", "_law_hues", "_law_turned", "_law_numbers_here", "_law_order_here", "_law_source", "_law_target"] (sp_sfits P w K mg base CH) := by
  refine I.ok sc__law_sum_fits (fun vs H Q E h => ?_) (fun f cdv A outer sh H vs Q E hr h => ?_)
  · obtain ⟨_, _, _, _, _, _, _, _, _, _, _, rfl, _⟩ := h; rfl
  · obtain ⟨C, Y, O, k, a, b, c, t1, t2, s, t, rfl, RO, hk, tab, tp, h1, h2, hs, ht, kk⟩ := h
    have cl := RO.T.cl
    have M_worth := RO.worth
    have M_greatest := RO.greatest
    have M_reaches := RO.reaches
    refine ⟨_, (pss_cons (ps_set (i := 8) sc__law_sum_fits.nd rfl (Or.inl rfl) (pe_callD D__law_greatest (hr.mono (by decide)) (pa_cons (pv 4) (pa_cons (pv 3) (pa_cons (pv 5) (pa_cons (pv 6) (pa_cons (pv 7) pa_nil)))))))
      (pss_cons (ps_set (i := 9) sc__law_sum_fits.nd rfl (Or.inl rfl) (pe_methD M_greatest cl (hr.mono (by decide)) (pv 0) (pa_cons (pv 6) (pa_cons (pv 7) pa_nil))))
      (pss_cons (ps_if (PW.pt (pw_or (pt_not (pt_val (pe_callD D__law_is_list (hr.mono (by decide)) (pa_cons (pv 9) (pa_cons (pv 8) pa_nil))))) (pw_or1 (pt_cmpR op_ne (pe_callB (cr_sum rfl) (by rfl) B.sum (by decide +kernel) (pa_cons (pv 9) pa_nil)) (pe_op op_sub (pe_methD M_worth cl (hr.mono (by decide)) (pv 0) (pa_cons (pv 6) pa_nil)) (pe_methD M_worth cl (hr.mono (by decide)) (pv 0) (pa_cons (pv 7) pa_nil))) (nomark _)))))
      (pss_one (ps_ret pe_bl))
      pss_nil)
      (pss_cons (ps_if (pt_not (pt_val (pe_callD D__law_is_truth (hr.mono (by decide)) (pa_cons (pe_methD M_reaches cl (hr.mono (by decide)) (pv 0) (pa_cons (pv 6) (pa_cons (pv 7) pa_nil))) (pa_cons (pe_cmpR op_ge (pe_callB (cr_min rfl) (by rfl) B.min (by decide +kernel) (pa_cons (pv 8) pa_nil)) pe_int (nomark _)) pa_nil)))))
      (pss_one (ps_ret pe_bl))
      pss_nil)
      (pss_cons (ps_if (PW.pt (pw_or (pt_cmpR op_lt (pe_callB (cr_min rfl) (by rfl) B.min (by decide +kernel) (pa_cons (pv 8) pa_nil)) pe_int (nomark _)) (pw_or1 (pt_cmpR op_gt (pe_callB (cr_sum rfl) (by rfl) B.sum (by decide +kernel) (pa_cons (pv 8) pa_nil)) pe_int (nomark _)))))
      (pss_one (ps_ret pe_bl))
      pss_nil)
      (pss_one (ps_ret (pe_callD D__law_run_fits (hr.mono (by decide)) (pa_cons (pv 0) (pa_cons (pv 1) (pa_cons (pv 2) (pa_cons (pv 3) (pa_cons (pv 4) (pa_cons (pv 6) (pa_cons (pv 7) (pa_cons (pv 8) pa_nil)))))))))))))))), ?_⟩
    have ok := hk.ok
    have hn := ok.n16
    have n1 := ok.n1
    have lg := (gr_is ok s t).len
    obtain ⟨dx, fs, k1, k5⟩ := hk.no
    refine q_asgL (el_call (ea_cons (ev_var rfl) (ea_cons (ev_var rfl) (ea_cons (ev_var rfl) (ea_cons (ev_var rfl) (ea_cons (ev_var rfl) ea_nil))))) (spl_lgreat ok tab tp h1 h2 hs.len ht.len)) fun cA H1 nc e1 hc => ?_
    refine q_asgL (el_meth (ev_var rfl) (e1 _ _ k1) (k5 _ (by decide +kernel)) (ea_cons (ev_var rfl) (ea_cons (ev_var rfl) ea_nil)) (spl_greatest (hk.mono e1) (e1 _ _ h1) (e1 _ _ h2) hs ht)) fun tA H2 nt e2 htA => ?_
    have e12 := e1.trans e2
    have hc2 := e2 _ _ hc
    refine q_when (b := false) (et_is (et_or (et_not (et_B (ev_call (ea_cons (ev_var rfl) (ea_cons (ev_var rfl) ea_nil)) (spv_islist (by omega) htA hc2)))) fun _ => et_test (ev_op (ev_sumV (ev_var rfl) htA) (ev_op (ev_meth (ev_var rfl) (e12 _ _ k1) (k5 _ (by decide +kernel)) (ea_cons (ev_var rfl) ea_nil) (spv_worth (hk.mono e12) (e12 _ _ h1) hs))
      (ev_meth (ev_var rfl) (e12 _ _ k1) (k5 _ (by decide +kernel)) (ea_cons (ev_var rfl) ea_nil) (spv_worth (hk.mono e12) (e12 _ _ h2) ht)) rv_I0) (rv_ne rfl))) (by rw [gr_sum ok]; simp)) (fun z => by cases z) (fun _ H3 e3 => ?_)
    have e13 := e12.trans e3
    have hc3 := e3 _ _ hc2
    obtain ⟨m, hm, hle⟩ := min_ex (l := gr Y s t) (by omega)
    refine q_when (b := false) (et_is (et_not (et_B (ev_call (ea_cons (ev_meth (ev_var rfl) (e13 _ _ k1) (k5 _ (by decide +kernel)) (ea_cons (ev_var rfl) (ea_cons (ev_var rfl) ea_nil)) (spv_reaches (hk.mono e13) (e13 _ _ h1) (e13 _ _ h2) hs ht hm hle))
      (ea_cons (ev_op (ev_min (ev_var rfl) hc3 hm hle) ev_c rv_I0) ea_nil)) spv_istruth))) rfl) (fun z => by cases z) (fun _ H4 e4 => ?_)
    have e14 := e13.trans e4
    have hc4 := e4 _ _ hc3
    refine q_when (et_or (et_test (ev_op (ev_min (ev_var rfl) hc4 hm hle) ev_c rv_I0)) fun _ => et_test (ev_op (ev_sumV (ev_var rfl) hc4) ev_c rv_I0)) (fun _ H5 e5 => s_ret ev_c fun H6 e6 => kk H6 ((e14.trans e5).trans e6)) (fun hF H5 e5 => ?_)
    rw [Bool.or_eq_false_iff, decide_eq_false_iff_not, decide_eq_false_iff_not] at hF
    have e15 := e14.trans e5
    refine s_ret (ev_call (ea_cons (ev_var rfl) (ea_cons (ev_var rfl) (ea_cons (ev_var rfl) (ea_cons (ev_var rfl) (ea_cons (ev_var rfl) (ea_cons (ev_var rfl) (ea_cons (ev_var rfl) (ea_cons (ev_var rfl) ea_nil))))))))
      (spv_rfits RO (hk.mono e15) (tab.t.mono e15) (e15 _ _ tab.n) (e15 _ _ h1) (e15 _ _ h2) hs ht (e5 _ _ hc4) (fun v hv => ?_) (by omega))) fun H6 e6 => kk H6 (e15.trans e6)
    have := hle _ (nth_mem (l := gr Y s t) (i := v) (by omega))
    omega
abbrev s__law_walk_fits : Stmt := topS 64
theorem sc__law_walk_fits : FnScope ["_law_rule_here", "_law_way", "_law_hues", "_law_turned", "_law_numbers_here", "_law_order_here", "_law_source", "_law_starts", "_law_heavy_here", "_law_state", "_law_start_here", "_law_spot", "_law_due", "_law_told", "_law_fallen"] ["_law_rule_here", "_law_way", "_law_hues", "_law_turned", "_law_numbers_here", "_law_order_here", "_law_source", "_law_starts"] (defScope s__law_walk_fits) := ⟨rfl, rfl, rfl, by decide +kernel, rfl, by decide +kernel, by decide +kernel⟩
def sp_kfits (P : Program) (w : World) (K : PySem.W.Frag) (mg : Str → Option Value) (base : Heap) (CH : Addr) : Sp := fun vs H Q _ => ∃ (C : Addr) (Y : Sys) (O : List Nat) (k a b c t1 sa : Addr) (s : List Int) (ss : List Nat), vs = [.ref k, .int Y.way, .int Y.hues, .ref a, .ref b, .ref c, .ref t1, .ref sa] ∧ RuleOk P w K mg base CH C Y.way ∧ KinAt CH C Y H k ∧
  Tab Y O H a b c ∧ Topo Y.n Y.T O ∧ H t1 = some (.tup (vi s)) ∧ IsSt Y s ∧ H sa = some (.lst (vn ss)) ∧ (∀ x ∈ ss, x < Y.n) ∧ ∀ H', Ex H H' → Q (.bl true) H'
theorem falls {Y : Sys} {s : List Int} {v : Nat} (ok : Y.Ok) (hs : IsSt Y s) (hv : v < Y.n) (al : Allow Y s v) : let x := worth Y.n (heavyL Y.n Y.T Y.N Y.O) s - worth Y.n (heavyL Y.n Y.T Y.N Y.O) (moved Y s v)
    (decide (x < 1) || (decide (x > 1) && decide (Y.way ∈ [1, 3, 5]))) = false := by
  intro x
  obtain ⟨h1, h2⟩ := worth_fall ok (ok_heavy ok) hs hv al
  have h1' : 1 ≤ x := h1
  rw [Bool.or_eq_false_iff, decide_eq_false_iff_not]
  refine ⟨by omega, ?_⟩
  by_cases q : Y.way ∈ [1, 3, 5]
  · have : x = 1 := h2 (by
      simp at q
      rcases q with q | q | q
      · exact .inl (by rw [q]; rfl)
      · exact .inl (by rw [q]; rfl)
      · exact .inr q)
    rw [this]; rfl
  · rw [decide_eq_false q, Bool.and_false]
theorem d_kfits (B : Bi mg) (D__law_heavy : DefOk P w K mg base "_law_heavy" 1 ["_law_turned", "_law_numbers_here", "_law_order_here"] sp_lheavy) (D__law_next_allowed : DefOk P w K mg base "_law_next_allowed" 1 ["_law_way", "_law_turned", "_law_state", "_law_start_here"] sp_lnext)
    (D__law_moved : DefOk P w K mg base "_law_moved" 2 ["_law_way", "_law_hues", "_law_turned", "_law_numbers_here", "_law_state", "_law_spot"] sp_lmoved) (D__law_is_tuple : DefOk P w K mg base "_law_is_tuple" 3 ["_law_value", "_law_due"] sp_istuple)
    (D__law_is_truth : DefOk P w K mg base "_law_is_truth" 1 ["_law_value", "_law_due"] sp_istruth) (D__law_worth_fits : DefOk P w K mg base "_law_worth_fits" 8 ["_law_rule_here", "_law_heavy_here", "_law_state"] (sp_wfits P w K mg base CH))
    (D__law_sum_fits : DefOk P w K mg base "_law_sum_fits" 11 ["_law_rule_here", "_law_way", "_law_hues", "_law_turned", "_law_numbers_here", "_law_order_here", "_law_source", "_law_target"] (sp_sfits P w K mg base CH))
    (I : DefIs K mg "_law_walk_fits" "_law_walk_fits" s__law_walk_fits ["_law_rule_here", "_law_way", "_law_hues", "_law_turned", "_law_numbers_here", "_law_order_here", "_law_source", "_law_starts"]) :
    DefOk P w K mg base "_law_walk_fits" 12 ["_law_rule_here", "_law_way", "_law_hues", "_law_turned", "_law_numbers_here", "_law_order_here", "_law_source", "_law_starts"] (sp_kfits P w K mg base CH) := by
  refine I.ok sc__law_walk_fits (fun vs H Q E h => ?_) (fun f cdv A outer sh H vs Q E hr h => ?_)
  · obtain ⟨_, _, _, _, _, _, _, _, _, _, _, rfl, _⟩ := h; rfl
  · obtain ⟨C, Y, O, k, a, b, c, t1, sa, s, ss, rfl, RO, hk, tab, tp, h1, hs, hsa, hss, kk⟩ := h
    have cl := RO.T.cl
    have M_worth := RO.worth
    have M_after := RO.after
    have M_allowed := RO.allowed
    have M_is_state := RO.is_state
    refine ⟨_, (pss_cons (ps_set (i := 8) sc__law_walk_fits.nd rfl (Or.inl rfl) (pe_callD D__law_heavy (hr.mono (by decide)) (pa_cons (pv 3) (pa_cons (pv 4) (pa_cons (pv 5) pa_nil)))))
      (pss_cons (ps_set (i := 9) sc__law_walk_fits.nd rfl (Or.inl rfl) (pv 6))
      (pss_cons (ps_for PassesOwn.never rfl (pi_list (pv 7)) (pg_name (i := 10) sc__law_walk_fits.nd rfl (Or.inl rfl))
      (pss_cons (ps_set (i := 11) sc__law_walk_fits.nd rfl (Or.inl rfl) (pe_callD D__law_next_allowed (hr.mono (by decide)) (pa_cons (pv 1) (pa_cons (pv 3) (pa_cons (pv 9) (pa_cons (pv 10) pa_nil))))))
        (pss_cons (ps_if (pt_cmpR op_lt (pv 11) pe_int (nomark _))
        (pss_one (ps_ret (pe_callD D__law_sum_fits (hr.mono (by decide)) (pa_cons (pv 0) (pa_cons (pv 1) (pa_cons (pv 2) (pa_cons (pv 3) (pa_cons (pv 4) (pa_cons (pv 5) (pa_cons (pv 6) (pa_cons (pv 9) pa_nil)))))))))))
        pss_nil)
        (pss_cons (ps_set (i := 12) sc__law_walk_fits.nd rfl (Or.inl rfl) (pe_callD D__law_moved (hr.mono (by decide)) (pa_cons (pv 1) (pa_cons (pv 2) (pa_cons (pv 3) (pa_cons (pv 4) (pa_cons (pv 9) (pa_cons (pv 11) pa_nil))))))))
        (pss_cons (ps_set (i := 13) sc__law_walk_fits.nd rfl (Or.inl rfl) (pe_methD M_after cl (hr.mono (by decide)) (pv 0) (pa_cons (pv 9) (pa_cons (pv 11) pa_nil))))
        (pss_cons (ps_if (PW.pt (pw_or (pt_not (pt_val (pe_callD D__law_is_tuple (hr.mono (by decide)) (pa_cons (pv 13) (pa_cons (pv 12) pa_nil))))) (pw_or1 (pt_not (pt_val (pe_callD D__law_worth_fits (hr.mono (by decide)) (pa_cons (pv 0) (pa_cons (pv 8) (pa_cons (pv 12) pa_nil)))))))))
        (pss_one (ps_ret pe_bl))
        pss_nil)
        (pss_cons (ps_if (pt_not (pt_val (pe_callD D__law_is_truth (hr.mono (by decide)) (pa_cons (pe_methD M_allowed cl (hr.mono (by decide)) (pv 0) (pa_cons (pv 9) (pa_cons (pv 11) pa_nil))) (pa_cons pe_bl pa_nil)))))
        (pss_one (ps_ret pe_bl))
        pss_nil)
        (pss_cons (ps_if (pt_not (pt_val (pe_callD D__law_is_truth (hr.mono (by decide)) (pa_cons (pe_methD M_is_state cl (hr.mono (by decide)) (pv 0) (pa_cons (pv 13) pa_nil)) (pa_cons pe_bl pa_nil)))))
        (pss_one (ps_ret pe_bl))
        pss_nil)
        (pss_cons (ps_set (i := 14) sc__law_walk_fits.nd rfl (Or.inl rfl) (pe_op op_sub (pe_methD M_worth cl (hr.mono (by decide)) (pv 0) (pa_cons (pv 9) pa_nil)) (pe_methD M_worth cl (hr.mono (by decide)) (pv 0) (pa_cons (pv 13) pa_nil))))
        (pss_cons (ps_if (PW.pt (pw_or (pt_cmpR op_lt (pv 14) pe_int (nomark _)) (pw_or1 (PW.pt (pw_and (pt_cmpR op_gt (pv 14) pe_int (nomark _)) (pw_and1 (pt_cmpR op_in_seq (pv 1) (pe_tup (pa_cons pe_int (pa_cons pe_int (pa_cons pe_int pa_nil)))) (by first | exact nomark _ | rfl))))))))
        (pss_one (ps_ret pe_bl))
        pss_nil)
        (pss_one (ps_set (i := 9) sc__law_walk_fits.nd rfl (Or.inl rfl) (pv 12)))))))))))))
      (pss_one (ps_ret (pe_callD D__law_sum_fits (hr.mono (by decide)) (pa_cons (pv 0) (pa_cons (pv 1) (pa_cons (pv 2) (pa_cons (pv 3) (pa_cons (pv 4) (pa_cons (pv 5) (pa_cons (pv 6) (pa_cons (pv 9) pa_nil)))))))))))))), ?_⟩
    have ok := hk.ok
    have hn := ok.n16
    obtain ⟨dx, fs, k1, k5⟩ := hk.no
    have fin : ∀ {σ : L2.St} {H1 : Hp} {q : Addr} {cur : List Int}, Ex H H1 → σ[0]? = some (some (.ref k)) → σ[1]? = some (some (.int (Y.way : Int))) → σ[2]? = some (some (.int Y.hues)) → σ[3]? = some (some (.ref a)) → σ[4]? = some (some (.ref b)) → σ[5]? = some (some (.ref c)) → σ[6]? = some (some (.ref t1)) → σ[9]? = some (some (.ref q)) → H1 q = some (.tup (vi cur)) → IsSt Y cur →
        Ev (tCall (sp_sfits P w K mg base CH) [] E0 (tCons (tVar 0) (tCons (tVar 1) (tCons (tVar 2) (tCons (tVar 3) (tCons (tVar 4) (tCons (tVar 5) (tCons (tVar 6) (tCons (tVar 9) tNil))))))))) σ H1 (.bl true) := fun e i0 i1 i2 i3 i4 i5 i6 i9 hq hcur =>
      ev_call (ea_cons (ev_var i0) (ea_cons (ev_var i1) (ea_cons (ev_var i2) (ea_cons (ev_var i3) (ea_cons (ev_var i4) (ea_cons (ev_var i5) (ea_cons (ev_var i6) (ea_cons (ev_var i9) ea_nil)))))))) (spv_sfits RO (hk.mono e) (tab.mono e) tp (e _ _ h1) hq hs hcur)
    refine q_asgL (el_call (ea_cons (ev_var rfl) (ea_cons (ev_var rfl) (ea_cons (ev_var rfl) ea_nil))) (spl_lheavy ok tab tp)) fun hA H1 nh e1 hh => ?_
    refine q_asg (ev_var rfl) fun H2 e2 => ?_
    have e12 := e1.trans e2
    refine q_forLn (K := K) (a := sa) (xs := vn ss) (ev_var rfl) (SqL.of (e12 _ _ hsa)) (fun i σ H' => Ex H H' ∧ H' hA = some (.lst (vi (heavyL Y.n Y.T Y.N Y.O))) ∧ ∃ (q : Addr) (cur : List Int) (x10 x11 x12 x13 x14 : Option V), σ = [some (.ref k), some (.int (Y.way : Int)), some (.int Y.hues), some (.ref a), some (.ref b), some (.ref c), some (.ref t1), some (.ref sa), some (.ref hA), some (.ref q), x10, x11, x12, x13, x14] ∧
        H' q = some (.tup (vi cur)) ∧ IsSt Y cur)
      (fun H3 e3 => ⟨e12.trans e3, e3 _ _ (e2 _ _ hh), t1, s, _, _, _, _, _, rfl, e3 _ _ (e12 _ _ h1), hs⟩) (fun i σ H' _ q => SqL.of (q.1 _ _ hsa)) ?_ ?_
    · rintro i x σ H3 hi ⟨e3, hh3, q, cur, x10, x11, x12, x13, x14, rfl, hq, hcur⟩
      have hi2 : i < ss.length := by
        have := (List.getElem?_eq_some_iff.mp hi).1
        rwa [vn_len] at this
      rw [vn_get hi2] at hi
      cases hi
      have hst := hss _ (getD_mem hi2)
      generalize ss.getD i 0 = st at hst
      refine ⟨_, rfl, _, rfl, _, rfl, _, rfl, Y, a, q, cur, st, rfl, ok, tab.t.mono e3, hq, hcur.len, hst, fun v H4 hv al _ e4 => ?_, fun H4 hno e4 => ?_⟩
      · have e04 := e3.trans e4
        have hq4 := e4 _ _ hq
        refine q_when (b := false) (et_is (et_test (ev_op (ev_var rfl) ev_c rv_I0)) (decide_eq_false (by omega))) (fun z => by cases z) (fun _ H5 e5 => ?_)
        have e05 := e04.trans e5
        refine q_asgU (eu_call (ea_cons (ev_var rfl) (ea_cons (ev_var rfl) (ea_cons (ev_var rfl) (ea_cons (ev_var rfl) (ea_cons (ev_var rfl) (ea_cons (ev_var rfl) ea_nil)))))) (spu_lmoved ok (tab.t.mono e05) (e05 _ _ tab.n) (e5 _ _ hq4) hcur.len hv)) fun q2 H6 nq2 e6 hq2 => ?_
        have e06 := e05.trans e6
        have hq6 := e6 _ _ (e5 _ _ hq4)
        refine q_asgU (eu_meth (ev_var rfl) (e06 _ _ k1) (k5 _ (by decide +kernel)) (ea_cons (ev_var rfl) (ea_cons (ev_var rfl) ea_nil)) (spu_after (hk.mono e06) hq6 hcur hv al)) fun q3 H7 nq3 e7 hq3 => ?_
        have e07 := e06.trans e7
        have hq27 := e7 _ _ hq2
        have hh7 := e7 _ _ (e6 _ _ (e5 _ _ (e4 _ _ hh3)))
        have hmv := moved_st ok hcur hv al.1
        refine q_when (b := false) (et_is (et_or (et_not (et_B (ev_call (ea_cons (ev_var rfl) (ea_cons (ev_var rfl) ea_nil)) (spv_istuple (by rw [hmv.len]; omega) hq3 hq27)))) fun _ => et_not (et_B (ev_call (ea_cons (ev_var rfl) (ea_cons (ev_var rfl) (ea_cons (ev_var rfl) ea_nil))) (spv_wfits RO (hk.mono e07) hh7 hq27 hmv)))) rfl) (fun z => by cases z) (fun _ H8 e8 => ?_)
        have e08 := e07.trans e8
        have hq8 := e8 _ _ (e7 _ _ hq6)
        refine q_when (b := false) (et_is (et_not (et_B (ev_call (ea_cons (ev_meth (ev_var rfl) (e08 _ _ k1) (k5 _ (by decide +kernel)) (ea_cons (ev_var rfl) (ea_cons (ev_var rfl) ea_nil)) (spv_allowed (hk.mono e08) hq8 hcur hv al)) (ea_cons ev_c ea_nil)) spv_istruth))) rfl) (fun z => by cases z) (fun _ H9 e9 => ?_)
        have e09 := e08.trans e9
        refine q_when (b := false) (et_is (et_not (et_B (ev_call (ea_cons (ev_meth (ev_var rfl) (e09 _ _ k1) (k5 _ (by decide +kernel)) (ea_cons (ev_var rfl) ea_nil) (spv_kst (hk.mono e09) (e9 _ _ (e8 _ _ hq3)) hmv)) (ea_cons ev_c ea_nil)) spv_istruth))) rfl) (fun z => by cases z) (fun _ H10 e10 => ?_)
        have e010 := e09.trans e10
        refine q_asg (ev_op (ev_meth (ev_var rfl) (e010 _ _ k1) (k5 _ (by decide +kernel)) (ea_cons (ev_var rfl) ea_nil) (spv_worth (hk.mono e010) (e10 _ _ (e9 _ _ hq8)) hcur)) (ev_meth (ev_var rfl) (e010 _ _ k1) (k5 _ (by decide +kernel)) (ea_cons (ev_var rfl) ea_nil) (spv_worth (hk.mono e010) (e10 _ _ (e9 _ _ (e8 _ _ hq3))) hmv)) rv_I0) fun H11 e11 => ?_
        refine q_when (b := false) (et_is (et_or (et_test (ev_op (ev_var rfl) ev_c rv_I0)) fun _ => et_and (et_test (ev_op (ev_var rfl) ev_c rv_I0)) fun _ => et_test (ev_is (ev_inU (ev_var rfl) (eu_tup (ea_cons ev_c (ea_cons ev_c (ea_cons ev_c ea_nil))) (by decide)) rfl rfl) (congrArg V.bl (show inV (.int (Y.way : Int)) (vn [1, 3, 5]) = _ from inV_vn)))) (falls ok hcur hv al)) (fun z => by cases z) (fun _ H12 e12 => ?_)
        refine s_asg (ev_var rfl) fun H13 e13 => ?_
        have e713 := ((((e8.trans e9).trans e10).trans e11).trans e12).trans e13
        exact ⟨e07.trans e713, e713 _ _ hh7, q2, moved Y cur v, _, _, _, _, _, rfl, e713 _ _ hq27, hmv⟩
      · refine q_when (b := true) (et_is (et_test (ev_op (ev_var rfl) ev_c rv_I0)) rfl) (fun _ H5 e5 => ?_) (fun z => by cases z)
        have e05 := (e3.trans e4).trans e5
        exact s_ret (fin e05 rfl rfl rfl rfl rfl rfl rfl rfl (e5 _ _ (e4 _ _ hq)) hcur) fun H6 e6 => kk H6 (e05.trans e6)
    · rintro σ H3 ⟨e3, hh3, q, cur, x10, x11, x12, x13, x14, rfl, hq, hcur⟩
      exact s_ret (fin e3 rfl rfl rfl rfl rfl rfl rfl rfl hq hcur) fun H4 e4 => kk H4 (e3.trans e4)
abbrev s__law_table_fits : Stmt := topS 65
theorem sc__law_table_fits : FnScope ["_law_rule_here", "_law_house", "_law_turned", "_law_numbers_here", "_law_spot", "_law_told", "_law_number"] ["_law_rule_here", "_law_house", "_law_turned", "_law_numbers_here"] (defScope s__law_table_fits) := ⟨rfl, rfl, rfl, by decide +kernel, rfl, by decide +kernel, by decide +kernel⟩
def sp_tfits (P : Program) (w : World) (K : PySem.W.Frag) (mg : Str → Option Value) (base : Heap) (CH : Addr) : Sp := fun vs H Q _ => ∃ (C : Addr) (Y : Sys) (k h a b dx : Addr) (fs : List (Str × V)), vs = [.ref k, .ref h, .ref a, .ref b] ∧ RuleOk P w K mg base CH C Y.way ∧ KinAt CH C Y H k ∧
  H k = some (.ins C dx fs) ∧ fs.lookup ("house" : Str) = some (.ref h) ∧ LL H a Y.T ∧ H b = some (.lst (vi Y.N)) ∧ ∀ H', Ex H H' → Q (.bl true) H'
theorem vn_vi {l : List Nat} : vn l = vi (l.map fun k : Nat => (k : Int)) := by unfold vn vi; rw [List.map_map]; rfl
theorem ev_call2L {sp : Sp} {E : XK} {ta tb : TE} {xs : List V} {y z : V} (ha : EvL ta σ H xs) (hb : ∀ H1, Ex H H1 → Ev tb σ H1 y) (hs : ∀ p H1, Ex H H1 → H1 p = some (.lst xs) → SpV sp [.ref p, y] H1 z) : Ev (tCall sp [] E (tCons ta (tCons tb tNil))) σ H z := fun H1 e Q q =>
  ha H1 e _ fun p H2 np e2 hp => hb H2 (e.trans e2) H2 (Ex.refl _) _ fun H3 e3 => hs p H3 ((e.trans e2).trans e3) (e3 _ _ hp) H3 (Ex.refl _) Q (fun H4 e4 => q H4 ((e2.trans e3).trans e4)) E
theorem d_tfits (B : Bi mg) (MH___eq__ : MethOk P w K mg base CH "__eq__" 2 ["self", "other"] [] (spEq (REq CH))) (D__law_is_integer : DefOk P w K mg base "_law_is_integer" 1 ["_law_value"] sp_isint) (D__law_is_list : DefOk P w K mg base "_law_is_list" 3 ["_law_value", "_law_due"] sp_islist)
    (I : DefIs K mg "_law_table_fits" "_law_table_fits" s__law_table_fits ["_law_rule_here", "_law_house", "_law_turned", "_law_numbers_here"]) :
    DefOk P w K mg base "_law_table_fits" 6 ["_law_rule_here", "_law_house", "_law_turned", "_law_numbers_here"] (sp_tfits P w K mg base CH) := by
  refine I.ok sc__law_table_fits (fun vs H Q E h => ?_) (fun f cdv A outer sh H vs Q E hr h => ?_)
  · obtain ⟨_, _, _, _, _, _, _, _, rfl, _⟩ := h; rfl
  · obtain ⟨C, Y, k, h, a, b, dx, fs, rfl, RO, hk, k1, kh, hT, hN, kk⟩ := h
    have cl := RO.T.cl
    have M_turned := RO.turned
    have M_factor := RO.factor
    refine ⟨_, (pss_cons (ps_if (pt_not (pt_cmpR (op_eqH MH___eq__ (hr.mono (by decide))) (pe_fld (pv 0) rfl) (pv 1) (nomark _)))
      (pss_one (ps_ret pe_bl))
      pss_nil)
      (pss_cons (ps_for PassesOwn.never rfl (pi_range1 rfl B.range (pa_cons (pe_callB call_len (by rfl) B.len PySem.boot_len (pa_cons (pv 2) pa_nil)) pa_nil)) (pg_name (i := 4) sc__law_table_fits.nd rfl (Or.inl rfl))
      (pss_cons (ps_set (i := 5) sc__law_table_fits.nd rfl (Or.inl rfl) (pe_methD M_turned cl (hr.mono (by decide)) (pv 0) (pa_cons (pv 4) pa_nil)))
        (pss_cons (ps_if (pt_not (pt_val (pe_callD D__law_is_list (hr.mono (by decide)) (pa_cons (pv 5) (pa_cons (pe_ix ix_list (pv 2) (pv 4) (fun _ _ => rfl)) pa_nil)))))
        (pss_one (ps_ret pe_bl))
        pss_nil)
        (pss_cons (ps_expr (pe_bm PySem.F.plainAttrs_list PySem.F.slot_list_append PySem.F.type_list_append mt_append (pv 5) (pa_cons (pv 4) pa_nil)))
        (pss_cons (ps_set (i := 6) sc__law_table_fits.nd rfl (Or.inl rfl) (pe_methD M_factor cl (hr.mono (by decide)) (pv 0) (pa_cons (pv 4) pa_nil)))
        (pss_cons (ps_if (PW.pt (pw_or (pt_not (pt_val (pe_callD D__law_is_list (hr.mono (by decide)) (pa_cons (pe_methD M_turned cl (hr.mono (by decide)) (pv 0) (pa_cons (pv 4) pa_nil)) (pa_cons (pe_ix ix_list (pv 2) (pv 4) (fun _ _ => rfl)) pa_nil))))) (pw_or1 (pt_not (pt_val (pe_callD D__law_is_integer (hr.mono (by decide)) (pa_cons (pv 6) pa_nil)))))))
        (pss_one (ps_ret pe_bl))
        pss_nil)
        (pss_one (ps_if (pt_cmpR op_ne (pv 6) (pe_ix ix_list (pv 3) (pv 4) (fun _ _ => rfl)) (nomark _))
        (pss_one (ps_ret pe_bl))
        pss_nil))))))))
      (pss_one (ps_ret pe_bl)))), ?_⟩
    have ok := hk.ok
    have hn := ok.n16
    have k5 : ∀ m : Str, m ∉ kinNames → fs.lookup m = none := by
      obtain ⟨dy, gs, g1, g5⟩ := hk.no
      rw [k1] at g1
      cases g1
      exact g5
    have hH : ∃ (B D : List (List Nat)), Hse CH H h Y.n Y.hues B D Y.O := by
      obtain ⟨dy, gs, h', B', D', g1, g2, g3, _⟩ := hk.ex
      rw [k1] at g1
      cases g1
      rw [kh] at g2
      cases g2
      exact ⟨B', D', g3⟩
    obtain ⟨B', D', hH⟩ := hH
    obtain ⟨dh, gh, _, _, _, _, _, _, hh1, _⟩ := hH.ex
    obtain ⟨rs0, ha0, lrs0⟩ := hT.at'
    refine q_when (b := false) (et_is (et_not (et_test (ev_op (ev_fld (ev_var rfl) k1 cl RO.T.house kh) (ev_var rfl) (fun H1 e Q q => ⟨⟨h, h, dh, dh, gh, gh, rfl, rfl, e _ _ hh1, e _ _ hh1, rfl, Y.n, Y.hues, B', D', Y.O, hH.mono e⟩, fun H' e' => q H' e'⟩)))) rfl) (fun z => by cases z) (fun _ H1 e1 => ?_)
    refine q_forR1 (n := (Y.n : Int)) (ea_cons (ev_is (ev_lenA (ev_var rfl) (.inl (e1 _ _ ha0))) (by rw [lrs0, ok.rows.len])) ea_nil) (by omega) (fun i σ H' => Ex H H' ∧ ∃ x4 x5 x6, σ = [some (.ref k), some (.ref h), some (.ref a), some (.ref b), x4, x5, x6])
      (fun H2 e2 => ⟨e1.trans e2, _, _, _, rfl⟩) ?_ ?_
    · rintro i σ H2 hi ⟨e2, x4, x5, x6, rfl⟩
      have hv : i < Y.n := by omega
      obtain ⟨r, hr0, hrow⟩ := ev_row (K := K) (ta := tVar 2) (tb := tVar 4) hT (i := i) (by rw [ok.rows.len]; exact hv)
      have hrl := ok.rows.len_le i
      refine q_asgL (el_meth (ev_var rfl) (e2 _ _ k1) (k5 _ (by decide +kernel)) (ea_cons (ev_var rfl) ea_nil) (spl_turned (hk.mono e2) hv)) fun l H3 nl e3 hl => ?_
      have e03 := e2.trans e3
      have nl0 : H l = none := fresh_back e2 nl
      refine q_when (b := false) (et_is (et_not (et_B (ev_call (ea_cons (ev_var rfl) (ea_cons (hrow e03 (ev_var rfl) (ev_var rfl)) ea_nil)) (spv_islist (xs := (row Y.T i).map fun k : Nat => (k : Int)) (by rw [List.length_map]; omega) (by rw [← vn_vi]; exact hl) (by rw [← vn_vi]; exact e03 _ _ hr0))))) rfl) (fun z => by cases z) (fun _ H4 e4 => ?_)
      refine q_app (l := l) (e4 _ _ hl) (ev_var rfl) (ev_var rfl) (by rw [vn_len]; omega) fun H5 e5 => ?_
      have e05 : Ex H (upd H5 l (.lst (vn (row Y.T i) ++ [.int (i : Int)]))) := Ex.mut ((e03.trans e4).trans e5) nl0
      generalize upd H5 l (.lst (vn (row Y.T i) ++ [.int (i : Int)])) = X at e05
      refine q_asg (ev_meth (ev_var rfl) (e05 _ _ k1) (k5 _ (by decide +kernel)) (ea_cons (ev_var rfl) ea_nil) (spv_factor (hk.mono e05) hv)) fun H6 e6 => ?_
      have e06 := e05.trans e6
      refine q_when (b := false) (et_is (et_or (et_not (et_B (ev_call2L (el_meth (ev_var rfl) (e06 _ _ k1) (k5 _ (by decide +kernel)) (ea_cons (ev_var rfl) ea_nil) (spl_turned (hk.mono e06) hv)) (fun H7 e7 => hrow (e06.trans e7) (ev_var rfl) (ev_var rfl)) fun p H7 e7 hp => spv_islist (xs := (row Y.T i).map fun k : Nat => (k : Int)) (by rw [List.length_map]; omega) (by rw [← vn_vi]; exact hp) (by rw [← vn_vi]; exact e7 _ _ (e06 _ _ hr0)))))
        fun _ => et_not (et_B (ev_call (ea_cons (ev_var rfl) ea_nil) spv_isint))) rfl) (fun z => by cases z) (fun _ H7 e7 => ?_)
      have e07 := e06.trans e7
      refine s_when (b := false) (et_is (et_test (ev_op (ev_var rfl) (ev_ixL (ev_var rfl) (ev_var rfl) (e07 _ _ hN) (by rw [ok.nlen]; exact hv)) (rv_ne rfl))) (by simp)) (fun z => by cases z) (fun _ H8 e8 => ?_)
      exact ⟨e07.trans e8, _, _, _, rfl⟩
    · rintro σ H2 ⟨e2, x4, x5, x6, rfl⟩
      exact s_ret ev_c fun H3 e3 => kk H3 (e2.trans e3)
end
end K57

set_option Elab.async false
set_option linter.all false
set_option maxRecDepth 100000
set_option maxHeartbeats 4000000
namespace K57
open PySem PySem.Spec PyProof.Rows L2 Evl M57
/-! ### lists of drawn numbers -/
section
variable {K : PySem.W.Frag} {σ : L2.St} {H : Hp} {ta tl te : TE}
/-- e draws from the box, and gives a number that is Good -/
def EvB (te : TE) (σ : L2.St) (H : Hp) (b c : Addr) (Good : Int → Prop) : Prop := ∀ H1, Box H1 b c → Ex (hid b H) H1 → ∀ Q : VK, (∀ z H2, Good z → Box H2 b c → Ex (hid b H) H2 → Ex (hid b H1) H2 → Q (.int z) H2) → te σ H1 Q
theorem nth_app {l : List Int} {i : Nat} (h : i < l.length) {x : Int} : nth (l ++ [x]) i = nth l i := by
  unfold nth; rw [List.getD_eq_getElem?_getD, List.getD_eq_getElem?_getD, List.getElem?_append_left h]
theorem nth_last {l : List Int} {x : Int} : nth (l ++ [x]) l.length = x := by
  unfold nth; rw [List.getD_eq_getElem?_getD, List.getElem?_append_right (Nat.le_refl _)]; simp
theorem vi_app {l : List Int} {x : Int} : vi l ++ [V.int x] = vi (l ++ [x]) := by unfold vi; rw [List.map_append]; rfl
def Bw (H : Hp) (b c Dl : Addr) (Good : Nat → Int → Prop) (i : Nat) (H' : Hp) : Prop := Box H' b c ∧ Ex (hid b H) H' ∧ ∃ zs : List Int, H' Dl = some (.lst (vi zs)) ∧ zs.length = i ∧ ∀ k, k < i → Good k (nth zs k)
theorem bw_turn {H H1 H' : Hp} {b c Dl : Addr} {Good : Nat → Int → Prop} {i : Nat} {σ2 : L2.St} (nD : H1 Dl = none) (e1 : Ex H H1) (hb : Dl ≠ b) (hc : Dl ≠ c) (p : Bw H b c Dl Good i H') (hi : i < 50000) (he : EvB te σ2 H b c (Good i)) :
    tYes σ2 H' fun t H3 => if t = true then te σ2 H3 fun y H4 => ∃ acc, H4 Dl = some (.lst acc) ∧ acc.length < sizeLine ∧ Bw H b c Dl Good (i + 1) (upd H4 Dl (.lst (acc ++ [y]))) else Bw H b c Dl Good (i + 1) H3 := by
  obtain ⟨bx, e, zs, hz, hl, hg⟩ := p
  show te σ2 H' _
  refine he H' bx e _ fun z H2 gz b2 e2 e3 => ⟨vi zs, e3 _ _ (by rw [hid_ne hb]; exact hz), sz_lt (by rw [vi_len]; omega), b2.put hb hc, Ex.mut e2 ?_, zs ++ [z], by rw [upd_same, vi_app], by rw [List.length_append, List.length_singleton, hl], fun k hk => ?_⟩
  · rw [hid_ne hb]; exact fresh_back e1 nD
  · by_cases q : k < i
    · rw [nth_app (by omega)]; exact hg k q
    · have : k = zs.length := by omega
      subst this
      rw [nth_last, hl]; exact gz
theorem lb_list {a b c : Addr} {xs : List V} {j : Nat} {vs : List Nat} {Q : VK} (Good : Nat → Int → Prop) (bx : Box H b c) (h : Ev tl σ H (.ref a)) (hx : hid b H a = some (.lst xs)) (hz : xs.length ≤ 1000) (hw : ∀ x, wipe ((wipe σ vs).set j (some x)) vs = wipe σ vs)
    (he : ∀ (i : Nat) (x : V), xs[i]? = some x → EvB te ((wipe σ vs).set j (some x)) H b c (Good i))
    (q : ∀ p zs H2, H p = none → Box H2 b c → Ex (hid b H) H2 → H2 p = some (.lst (vi zs)) → zs.length = xs.length → (∀ i, i < xs.length → Good i (nth zs i)) → Q (.ref p) H2) : tLc (iList K tl) (gName j) tYes te vs σ H Q :=
  h H (Ex.refl H) _ fun H1 e1 => ⟨a, rfl, ⟨xs, SqL.of (e1 _ _ (hid_le _ _ hx))⟩, fun Dl hD => by
    have b1 := bx.mono e1
    obtain ⟨nb, nc⟩ := b1.ne hD
    refine lc_list (xs := xs) (Bw H b c Dl Good) ⟨b1.put nb nc, (hid_le.trans e1).trans (Ex.new hD), [], upd_same, rfl, fun k hk => absurd hk (by omega)⟩ (fun i H' _ p => SqL.of (p.2.1 _ _ hx))
      (fun i x H' hi p => ⟨hw x, bw_turn hD e1 nb nc p (by have := (List.getElem?_eq_some_iff.mp hi).1; omega) (he i x hi)⟩) (fun H' p => ?_)
    obtain ⟨p1, p2, zs, p3, p4, p5⟩ := p
    exact q Dl zs H' (fresh_back e1 hD) p1 p2 p3 p4 p5⟩
theorem lb_range {b c : Addr} {ta : TA} {j : Nat} {vs : List Nat} {Q : VK} (Good : Int → Prop)
    (h : ∀ R : List V → Hp → Prop, (∀ (n : Nat) H1, n ≤ 1000 → Box H1 b c → Ex (hid b H) H1 → R [.int (n : Int)] H1) → ta σ H R) (hw : ∀ x, wipe ((wipe σ vs).set j (some x)) vs = wipe σ vs)
    (he : ∀ x : V, EvB te ((wipe σ vs).set j (some x)) H b c Good)
    (q : ∀ p zs H2, Box H2 b c → Ex (hid b H) H2 → H2 p = some (.lst (vi zs)) → (∀ i, i < zs.length → Good (nth zs i)) → Q (.ref p) H2) : tLc (iRng1 ta) (gName j) tYes te vs σ H Q :=
  h _ fun n H1 hz b1 e1 => ⟨(n : Int), rfl, by omega, by omega, fun Dl hD => by
    obtain ⟨nb, nc⟩ := b1.ne hD
    refine lc_range (lo := 0) (n := ((n : Int)).toNat) (fun i H' => Bw H b c Dl (fun _ => Good) i H') ⟨b1.put nb nc, e1.trans (Ex.new hD), [], upd_same, rfl, fun k hk => absurd hk (by omega)⟩
      (fun i H' hi p => ⟨hw _, ?_⟩) (fun H' p => ?_)
    · obtain ⟨bx', e, zs, hz', hl, hg⟩ := p
      show te ((wipe σ vs).set j (some (.int ((0 : Int) + (i : Int))))) H' _
      refine he _ H' bx' e _ fun z H2 gz b2 e2 e3 => ⟨vi zs, e3 _ _ (by rw [hid_ne nb]; exact hz'), sz_lt (by rw [vi_len]; omega), b2.put nb nc, Ex.mut e2 (fresh_back e1 hD), zs ++ [z], by rw [upd_same, vi_app], by rw [List.length_append, List.length_singleton, hl], fun k hk => ?_⟩
      by_cases q : k < i
      · rw [nth_app (by omega)]; exact hg k q
      · have : k = zs.length := by omega
        subst this
        rw [nth_last]; exact gz
    · rw [Int.toNat_natCast] at p
      obtain ⟨p1, p2, zs, p3, p4, p5⟩ := p
      exact q Dl zs H' p1 p2 p3 fun i hi => p5 i (by omega)⟩
theorem ev_con {C dx a : Addr} {fs : List (Str × V)} {f : Str} {v : V} {u : Value} (h : Ev ta σ H (.ref a)) (ho : H a = some (.ins C dx fs)) (c : Cls K C) (n : Con K C f v u) (hl : fs.lookup f = none) : Ev (tCon K ta f) σ H v :=
  fun H1 e Q q => h H1 e _ fun H2 e2 => ⟨a, C, dx, fs, v, u, rfl, e2 _ _ (e _ _ ho), c, n, hl, q H2 e2⟩
end
/-! ### the rule is made -/
theorem ex_make {H : Hp} {x dx : Addr} {o o' : HO} (nx : H x = none) (nd : H dx = none) : Ex H (hid x (upd (upd H dx o) x o')) := fun a u h => by
  have h1 : a ≠ x := fun z => by rw [z, nx] at h; cases h
  have h2 : a ≠ dx := fun z => by rw [z, nd] at h; cases h
  rw [hid_ne h1, upd_ne h1, upd_ne h2]; exact h
/-- the seven classes and their makers -/
structure Kins (P : Program) (w : World) (K : PySem.W.Frag) (mg : Str → Option Value) (base : Heap) (CH : Addr) (CC : Nat → Addr) : Prop where
  g0 : mg "Kin" = some (.ref (CC 0))
  g1 : mg "CarefulKin" = some (.ref (CC 1))
  g2 : mg "WiredKin" = some (.ref (CC 2))
  g3 : mg "CarefulWiredKin" = some (.ref (CC 3))
  g4 : mg "GainKin" = some (.ref (CC 4))
  g5 : mg "CoinKin" = some (.ref (CC 5))
  g6 : mg "MixedKin" = some (.ref (CC 6))
  m0 : FnAtOk (Mk K (CC 0)) P w K mg base 1 ["self", "house"] (sp_kinit (CC 0))
  m1 : FnAtOk (Mk K (CC 1)) P w K mg base 1 ["self", "house"] (sp_kinit (CC 1))
  m2 : FnAtOk (Mk K (CC 2)) P w K mg base 1 ["self", "house"] (sp_kinit (CC 2))
  m3 : FnAtOk (Mk K (CC 3)) P w K mg base 1 ["self", "house"] (sp_kinit (CC 3))
  m4 : FnAtOk (Mk K (CC 4)) P w K mg base 2 ["self", "house", "gain"] (sp_ginit CH (CC 4))
  m5 : FnAtOk (Mk K (CC 5)) P w K mg base 1 ["self", "house"] (sp_kinit (CC 5))
  m6 : FnAtOk (Mk K (CC 6)) P w K mg base 2 ["self", "house", "sizes"] (sp_minit CH (CC 6))
section
variable {P : Program} {w : World} {K : PySem.W.Frag} {mg : Str → Option Value} {base : Heap} {σ : L2.St} {H : Hp} {CH C : Addr} {CC : Nat → Addr} {way : Nat}
/-- what the law gives to the maker of a rule -/
structure Given (CH : Addr) (Y : Sys) (B D : List (List Nat)) (gain : Int) (sz : List Int) (H : Hp) (h l : Addr) : Prop where
  ok : Y.Ok
  hse : Hse CH H h Y.n Y.hues B D Y.O
  t : Y.T = (if Y.way = 2 ∨ Y.way = 3 then D else B)
  at_ : H l = some (.lst (vi sz))
  szl : sz.length = Y.n
  szb : ∀ i, i < Y.n → 2 ≤ nth sz i ∧ nth sz i ≤ 10
  g1 : 1 ≤ gain
  g2 : gain < Y.hues
  n4 : Y.way = 4 → ∀ v, v < Y.n → nth Y.N v = gain
  n6 : Y.way = 6 → ∀ v, v < Y.n → nth Y.N v = nth sz v - 1
  nn : Y.way ≠ 4 → Y.way ≠ 6 → ∀ v, v < Y.n → nth Y.N v = Y.hues - 1
theorem Given.mono {Y : Sys} {B D : List (List Nat)} {gain : Int} {sz : List Int} {H H' : Hp} {h l : Addr} (e : Ex H H') (g : Given CH Y B D gain sz H h l) : Given CH Y B D gain sz H' h l := ⟨g.ok, g.hse.mono e, g.t, e _ _ g.at_, g.szl, g.szb, g.g1, g.g2, g.n4, g.n6, g.nn⟩
theorem Given.plain {Y : Sys} {B D : List (List Nat)} {gain : Int} {sz : List Int} {h l k dx : Addr} (g : Given CH Y B D gain sz H h l) (w4 : Y.way ≠ 4) (w6 : Y.way ≠ 6) (hk : H k = some (.ins C dx [("house", .ref h)])) : KinAt CH C Y H k :=
  ⟨⟨dx, _, h, B, D, hk, rfl, g.hse, g.t, fun m hm => lookup_out (fun z => hm (by simp at z; simp [kinNames, z])), fun q => absurd q w4, fun q => absurd q w6, g.nn⟩, g.ok⟩
abbrev s__law_rule : Stmt := topS 53
theorem sc__law_rule : FnScope ["_law_house", "_law_way", "_law_gain", "_law_sizes"] ["_law_house", "_law_way", "_law_gain", "_law_sizes"] (defScope s__law_rule) := ⟨rfl, rfl, rfl, by decide +kernel, rfl, by decide +kernel, by decide +kernel⟩
def sp_lrule (CH : Addr) (CC : Nat → Addr) : Sp := fun vs H Q _ => ∃ (Y : Sys) (B D : List (List Nat)) (gain : Int) (sz : List Int) (h l : Addr), vs = [.ref h, .int Y.way, .int gain, .ref l] ∧ Given CH Y B D gain sz H h l ∧
  ∀ k dx fs H', H k = none → Ex H H' → (∀ X : Hp, X k = H' k → (∀ p xs, H' p = some (.tup xs) → X p = some (.tup xs)) → Given CH Y B D gain sz X h l → KinAt CH (CC Y.way) Y X k) → H' k = some (.ins (CC Y.way) dx fs) → fs.lookup ("house" : Str) = some (.ref h) → Q (.ref k) H'
theorem d_lrule (B : Bi mg) (KS : Kins P w K mg base CH CC) (I : DefIs K mg "_law_rule" "_law_rule" s__law_rule ["_law_house", "_law_way", "_law_gain", "_law_sizes"]) : DefOk P w K mg base "_law_rule" 4 ["_law_house", "_law_way", "_law_gain", "_law_sizes"] (sp_lrule CH CC) := by
  have G_Kin := KS.g0
  have G_CarefulKin := KS.g1
  have G_WiredKin := KS.g2
  have G_CarefulWiredKin := KS.g3
  have G_GainKin := KS.g4
  have G_CoinKin := KS.g5
  have G_MixedKin := KS.g6
  have MK_Kin := KS.m0
  have MK_CarefulKin := KS.m1
  have MK_WiredKin := KS.m2
  have MK_CarefulWiredKin := KS.m3
  have MK_GainKin := KS.m4
  have MK_CoinKin := KS.m5
  have MK_MixedKin := KS.m6
  refine I.ok sc__law_rule (fun vs H Q E h => ?_) (fun f cdv A outer sh H vs Q E hr h => ?_)
  · obtain ⟨_, _, _, _, _, _, _, rfl, _⟩ := h; rfl
  · obtain ⟨Y, B', D', gain, sz, h, l, rfl, g, kk⟩ := h
    refine ⟨_, (pss_cons (ps_if (pt_cmpR op_eq (pv 1) pe_int (nomark _))
      (pss_one (ps_ret (pe_mkD MK_Kin (hr.mono (by decide)) G_Kin (pa_cons (pv 0) pa_nil))))
      pss_nil)
      (pss_cons (ps_if (pt_cmpR op_eq (pv 1) pe_int (nomark _))
      (pss_one (ps_ret (pe_mkD MK_CarefulKin (hr.mono (by decide)) G_CarefulKin (pa_cons (pv 0) pa_nil))))
      pss_nil)
      (pss_cons (ps_if (pt_cmpR op_eq (pv 1) pe_int (nomark _))
      (pss_one (ps_ret (pe_mkD MK_WiredKin (hr.mono (by decide)) G_WiredKin (pa_cons (pv 0) pa_nil))))
      pss_nil)
      (pss_cons (ps_if (pt_cmpR op_eq (pv 1) pe_int (nomark _))
      (pss_one (ps_ret (pe_mkD MK_CarefulWiredKin (hr.mono (by decide)) G_CarefulWiredKin (pa_cons (pv 0) pa_nil))))
      pss_nil)
      (pss_cons (ps_if (pt_cmpR op_eq (pv 1) pe_int (nomark _))
      (pss_one (ps_ret (pe_mkD MK_GainKin (hr.mono (by decide)) G_GainKin (pa_cons (pv 0) (pa_cons (pv 2) pa_nil)))))
      pss_nil)
      (pss_cons (ps_if (pt_cmpR op_eq (pv 1) pe_int (nomark _))
      (pss_one (ps_ret (pe_mkD MK_CoinKin (hr.mono (by decide)) G_CoinKin (pa_cons (pv 0) pa_nil))))
      pss_nil)
      (pss_one (ps_ret (pe_mkD MK_MixedKin (hr.mono (by decide)) G_MixedKin (pa_cons (pv 0) (pa_cons (pe_callTy call_list_of (by rfl) B.list (by decide +kernel) (pa_cons (pv 3) pa_nil)) pa_nil))))))))))), ?_⟩
    have w6 := g.ok.w6
    have plain : ∀ (i : Nat), Y.way = i → i ≠ 4 → i ≠ 6 → ∀ x dx, H x = none → H dx = none → dx ≠ x → sp_kinit (CC i) [.ref x, .ref h] (upd (upd H dx (.own x)) x (.ins (CC i) dx [])) (fun v H2 => v = .non ∧ Q (.ref x) H2) E0 := fun i hi h4 h6 x dx nx nd hne => by
      refine ⟨x, h, dx, rfl, upd_same, fun H' e hk => ⟨rfl, ?_⟩⟩
      have e0 : Ex H H' := (ex_make nx nd).trans e
      subst hi
      exact kk x dx _ H' nx e0 (fun X hX hT gX => gX.plain h4 h6 (hX.trans hk)) hk rfl
    refine ⟨_, rfl, rfl, _, rfl, ite2 (fun z => ?_) (fun z => ?_)⟩
    · have : Y.way = 0 := by have := V.int.inj (of_decide_eq_true z); omega
      exact ⟨_, rfl, plain 0 this (by decide) (by decide)⟩
    have n0 : Y.way ≠ 0 := fun h => z (decide_eq_true (by rw [h]; rfl))
    refine ⟨_, rfl, rfl, _, rfl, ite2 (fun z => ?_) (fun z => ?_)⟩
    · have : Y.way = 1 := by have := V.int.inj (of_decide_eq_true z); omega
      exact ⟨_, rfl, plain 1 this (by decide) (by decide)⟩
    have n1 : Y.way ≠ 1 := fun h => z (decide_eq_true (by rw [h]; rfl))
    refine ⟨_, rfl, rfl, _, rfl, ite2 (fun z => ?_) (fun z => ?_)⟩
    · have : Y.way = 2 := by have := V.int.inj (of_decide_eq_true z); omega
      exact ⟨_, rfl, plain 2 this (by decide) (by decide)⟩
    have n2 : Y.way ≠ 2 := fun h => z (decide_eq_true (by rw [h]; rfl))
    refine ⟨_, rfl, rfl, _, rfl, ite2 (fun z => ?_) (fun z => ?_)⟩
    · have : Y.way = 3 := by have := V.int.inj (of_decide_eq_true z); omega
      exact ⟨_, rfl, plain 3 this (by decide) (by decide)⟩
    have n3 : Y.way ≠ 3 := fun h => z (decide_eq_true (by rw [h]; rfl))
    refine ⟨_, rfl, rfl, _, rfl, ite2 (fun z => ?_) (fun z => ?_)⟩
    · have w4 : Y.way = 4 := by have := V.int.inj (of_decide_eq_true z); omega
      refine ⟨_, rfl, _, rfl, fun x dx nx nd hne => ⟨x, h, dx, gain, Y.n, Y.hues, B', D', Y.O, rfl, upd_same, g.hse.mono (ex_make nx nd), g.g1, g.g2, fun H' e hk => ⟨rfl, ?_⟩⟩⟩
      have e0 : Ex H H' := (ex_make nx nd).trans e
      rw [w4] at kk
      exact kk x dx _ H' nx e0 (fun X hX hT g' => ⟨⟨dx, _, h, B', D', hX.trans hk, rfl, g'.hse, g'.t, fun m hm => lookup_out (fun z => hm (by simp at z; rcases z with z | z <;> simp [kinNames, z])), fun _ => ⟨gain, rfl, g.n4 w4⟩, fun q => by omega, fun q => absurd w4 q⟩, g.ok⟩) hk rfl
    have n4 : Y.way ≠ 4 := fun h => z (decide_eq_true (by rw [h]; rfl))
    refine ⟨_, rfl, rfl, _, rfl, ite2 (fun z => ?_) (fun z => ?_)⟩
    · have : Y.way = 5 := by have := V.int.inj (of_decide_eq_true z); omega
      exact ⟨_, rfl, plain 5 this (by decide) (by decide)⟩
    have n5 : Y.way ≠ 5 := fun h => z (decide_eq_true (by rw [h]; rfl))
    have w6 : Y.way = 6 := by omega
    refine ⟨_, rfl, _, rfl, _, _, rfl, .inl (SqL.of g.at_), fun q nq x dx nx nd hne => ?_⟩
    have eq : Ex H (upd H q (.lst (vi sz))) := Ex.new nq
    refine ⟨x, h, q, dx, sz, Y.n, Y.hues, B', D', Y.O, rfl, upd_same, (g.hse.mono eq).mono (ex_make nx nd), ex_make nx nd _ _ upd_same, g.szl, g.szb, fun p H' e hp hk => ⟨rfl, ?_⟩⟩
    have e0 : Ex H H' := eq.trans ((ex_make nx nd).trans e)
    rw [w6] at kk
    exact kk x dx _ H' (fresh_back eq nx) e0 (fun X hX hT g' => ⟨⟨dx, _, h, B', D', hX.trans hk, rfl, g'.hse, g'.t, fun m hm => lookup_out (fun z => hm (by simp at z; rcases z with z | z <;> simp [kinNames, z])), fun q => by omega, fun _ => ⟨p, sz, rfl, hT _ _ hp, g.szl, g.n6 w6⟩, fun _ q => absurd w6 q⟩, g.ok⟩) hk rfl
end
end K57

set_option Elab.async false
set_option linter.all false
set_option maxRecDepth 100000
set_option maxHeartbeats 4000000
namespace K57
open PySem PySem.Spec PyProof.Rows L2 Evl M57
/-! ### the numbers of the law -/
def numL (way : Nat) (hues gain : Int) (sz : List Int) : List Int := if way = 4 then List.replicate sz.length gain else if way = 6 then sz.map (· - 1) else List.replicate sz.length (hues - 1)
theorem nth_repl {n v : Nat} {x : Int} (h : v < n) : nth (List.replicate n x) v = x := by
  unfold nth; rw [List.getD_eq_getElem?_getD, List.getElem?_replicate, if_pos h]; rfl
theorem nth_map {l : List Int} {f : Int → Int} {v : Nat} (h : v < l.length) : nth (l.map f) v = f (nth l v) := by
  unfold nth; rw [List.getD_eq_getElem?_getD, List.getElem?_map, List.getD_eq_getElem?_getD, List.getElem?_eq_getElem h]; rfl
section
variable {way n : Nat} {hues gain : Int} {sz : List Int}
theorem numL_len : (numL way hues gain sz).length = sz.length := by
  unfold numL; split
  · simp
  · split <;> simp
theorem numL4 (h : way = 4) {v : Nat} (hv : v < sz.length) : nth (numL way hues gain sz) v = gain := by
  unfold numL; rw [if_pos h, nth_repl hv]
theorem numL6 (h : way = 6) {v : Nat} (hv : v < sz.length) : nth (numL way hues gain sz) v = nth sz v - 1 := by
  unfold numL; rw [if_neg (by omega), if_pos h, nth_map hv]
theorem numLn (h4 : way ≠ 4) (h6 : way ≠ 6) {v : Nat} (hv : v < sz.length) : nth (numL way hues gain sz) v = hues - 1 := by
  unfold numL; rw [if_neg h4, if_neg h6, nth_repl hv]
theorem numL_ok (h2 : 2 ≤ hues) (h10 : hues ≤ 10) (g1 : 1 ≤ gain) (g2 : gain < hues) (hb : ∀ i, i < sz.length → 2 ≤ nth sz i ∧ nth sz i ≤ 10) {v : Nat} (hv : v < sz.length) : NumOk way hues (nth (numL way hues gain sz) v) := by
  by_cases q4 : way = 4
  · rw [numL4 q4 hv]
    exact ⟨g1, by omega, by rw [if_pos q4]; exact g2⟩
  · by_cases q6 : way = 6
    · rw [numL6 q6 hv]
      have := hb v hv
      exact ⟨by omega, by omega, by rw [if_neg q4, if_pos q6]; trivial⟩
    · rw [numLn q4 q6 hv]
      exact ⟨by omega, by omega, by rw [if_neg q4, if_neg q6]⟩
end
/-- a drawn hue -/
def Drawn (way : Nat) (hues : Int) (sz : List Int) (i : Nat) (z : Int) : Prop := 0 ≤ z ∧ (way = 5 ∨ (if way = 6 then z < nth sz i else z < hues))
theorem drawn_st {Y : Sys} {gain : Int} {sz zs : List Int} (hN : Y.N = numL Y.way Y.hues gain sz) (hn : sz.length = Y.n) (hl : zs.length = Y.n) (h : ∀ i, i < Y.n → Drawn Y.way Y.hues sz i (nth zs i)) : IsSt Y zs := by
  refine ⟨hl, fun v hv => ?_⟩
  obtain ⟨h1, h2⟩ := h v hv
  refine ⟨h1, h2.imp id fun q => ?_⟩
  by_cases q6 : Y.way = 6
  · rw [if_pos q6] at q ⊢
    rw [hN, numL6 q6 (by omega)]; omega
  · rw [if_neg q6] at q ⊢; exact q
/-! ### what the law has of a house -/
structure Site (CH : Addr) (G : Hp) (h d be o l : Addr) (n : Nat) (hues : Int) (Bn Dn : List (List Nat)) (On Ol : List Nat) (ps : List (Nat × Nat)) (sz : List Int) : Prop where
  n1 : 1 ≤ n
  n16 : n ≤ 16
  h2 : 2 ≤ hues
  h10 : hues ≤ 10
  hse : Hse CH G h n hues Bn Dn On
  hd : LL G d Dn
  hb : LL G be Bn
  ho : G o = some (.lst (vn Ol))
  hs : G l = some (.lst (vi sz))
  szl : sz.length = n
  szb : ∀ i, i < n → 2 ≤ nth sz i ∧ nth sz i ≤ 10
  rB : Rows n Bn
  rD : Rows n Dn
  mB : ∀ u, u < n → ∀ v, v ∈ row Bn u ↔ Pth ps u v
  mD : ∀ u, u < n → ∀ v, v ∈ row Dn u ↔ (u, v) ∈ ps
  pO : Pre n ps On
  lO : On.length = n
  pL : Pre n ps Ol
  lL : Ol.length = n
section
variable {CH : Addr} {G : Hp} {h d be o l : Addr} {n way : Nat} {hues gain : Int} {Bn Dn : List (List Nat)} {On Ol : List Nat} {ps : List (Nat × Nat)} {sz : List Int}
theorem Site.mono {G' : Hp} (e : Ex G G') (S : Site CH G h d be o l n hues Bn Dn On Ol ps sz) : Site CH G' h d be o l n hues Bn Dn On Ol ps sz :=
  ⟨S.n1, S.n16, S.h2, S.h10, S.hse.mono e, S.hd.mono e, S.hb.mono e, e _ _ S.ho, e _ _ S.hs, S.szl, S.szb, S.rB, S.rD, S.mB, S.mD, S.pO, S.lO, S.pL, S.lL⟩
/-- the rule -/
def sysOf (n way : Nat) (hues gain : Int) (Bn Dn : List (List Nat)) (On : List Nat) (sz : List Int) : Sys := ⟨n, way, hues, if way = 2 ∨ way = 3 then Dn else Bn, numL way hues gain sz, On⟩
theorem Site.topo (S : Site CH G h d be o l n hues Bn Dn On Ol ps sz) {O : List Nat} (p : Pre n ps O) (hl : O.length = n) : Topo n (if way = 2 ∨ way = 3 then Dn else Bn) O := by
  split
  · exact p.topo hl fun u hu v hv => .one ((S.mD u hu v).mp hv)
  · exact p.topo hl fun u hu v hv => (S.mB u hu v).mp hv
theorem Site.ok (S : Site CH G h d be o l n hues Bn Dn On Ol ps sz) (hw : way ≤ 6) (g1 : 1 ≤ gain) (g2 : gain < hues) : (sysOf n way hues gain Bn Dn On sz).Ok := by
  refine ⟨S.n1, S.n16, hw, S.h2, S.h10, ?_, S.topo S.pO S.lO, numL_len.trans S.szl, fun v hv => numL_ok S.h2 S.h10 g1 g2 (fun i hi => S.szb i (by rw [← S.szl]; exact hi)) (by rw [S.szl]; exact hv)⟩
  show Rows n (if way = 2 ∨ way = 3 then Dn else Bn)
  split
  · exact S.rD
  · exact S.rB
theorem Site.given (S : Site CH G h d be o l n hues Bn Dn On Ol ps sz) (hw : way ≤ 6) (g1 : 1 ≤ gain) (g2 : gain < hues) : Given CH (sysOf n way hues gain Bn Dn On sz) Bn Dn gain sz G h l :=
  ⟨S.ok hw g1 g2, S.hse, rfl, S.hs, S.szl, S.szb, g1, g2, fun q v hv => numL4 q (by rw [S.szl]; exact hv), fun q v hv => numL6 q (by rw [S.szl]; exact hv), fun q4 q6 v hv => numLn q4 q6 (by rw [S.szl]; exact hv)⟩
end
theorem Box.tup {H : Hp} {b c t : Addr} {xs : List V} (bx : Box H b c) (h : H t = some (.tup xs)) : hid b H t = some (.tup xs) := by
  obtain ⟨_, _, _, _, _, q⟩ := bx
  rw [hid_ne (by rintro rfl; rw [q.bx] at h; cases h)]; exact h
section
variable {P : Program} {w : World} {K : PySem.W.Frag} {mg : Str → Option Value} {base : Heap} {σ : L2.St} {H : Hp} {CH C : Addr} {CC : Nat → Addr}
theorem q_drawT {D : Ends} {tz : TS} {tl te : TE} {a b c : Addr} {xs : List V} {i j : Nat} {vs : List Nat} (Good : Nat → Int → Prop) (bx : Box H b c) (h : Ev tl σ H (.ref a)) (hx : hid b H a = some (.lst xs)) (hz : xs.length ≤ 1000) (hw : ∀ x, wipe ((wipe σ vs).set j (some x)) vs = wipe σ vs)
    (he : ∀ (i : Nat) (x : V), xs[i]? = some x → EvB te ((wipe σ vs).set j (some x)) H b c (Good i))
    (k : ∀ t zs H2, Box H2 b c → Ex (hid b H) H2 → H2 t = some (.tup (vi zs)) → zs.length = xs.length → (∀ i, i < xs.length → Good i (nth zs i)) → tz D (σ.set i (some (.ref t))) H2) :
    tSeq (tAsg (tCB (fun xs H Q => ∃ p ys, xs = [.ref p] ∧ ((SqL K H p ys ∧ ∀ l, H l = none → Q (.ref l) (upd H l (.tup ys))) ∨ (SqT K H p ys ∧ Q (.ref p) H))) (tCons (tLc (iList K tl) (gName j) tYes te vs) tNil)) (gName i)) tz D σ H := by
  show tLc (iList K tl) (gName j) tYes te vs σ H fun x H1 => ∃ p ys, [x] = [V.ref p] ∧ ((SqL K H1 p ys ∧ ∀ l, H1 l = none → tz D (σ.set i (some (.ref l))) (upd H1 l (.tup ys))) ∨ (SqT K H1 p ys ∧ tz D (σ.set i (some (.ref p))) H1))
  refine lb_list Good bx h hx hz hw he fun p zs H2 np b2 e2 hp hl hg => ⟨p, _, rfl, .inl ⟨SqL.of hp, fun t nt => ?_⟩⟩
  obtain ⟨n1, n2⟩ := b2.ne nt
  exact k t zs _ (b2.put n1 n2) (e2.trans (Ex.new nt)) upd_same hl hg
theorem q_drawL {D : Ends} {tz : TS} {tl te : TE} {a b c : Addr} {xs : List V} {i j : Nat} {vs : List Nat} (Good : Nat → Int → Prop) (bx : Box H b c) (h : Ev tl σ H (.ref a)) (hx : hid b H a = some (.lst xs)) (hz : xs.length ≤ 1000) (hw : ∀ x, wipe ((wipe σ vs).set j (some x)) vs = wipe σ vs)
    (he : ∀ (i : Nat) (x : V), xs[i]? = some x → EvB te ((wipe σ vs).set j (some x)) H b c (Good i))
    (k : ∀ t zs H2, H t = none → Box H2 b c → Ex (hid b H) H2 → H2 t = some (.lst (vi zs)) → zs.length = xs.length → (∀ i, i < xs.length → Good i (nth zs i)) → tz D (σ.set i (some (.ref t))) H2) :
    tSeq (tAsg (tLc (iList K tl) (gName j) tYes te vs) (gName i)) tz D σ H := by
  show tLc (iList K tl) (gName j) tYes te vs σ H fun x H1 => tz D (σ.set i (some x)) H1
  exact lb_list Good bx h hx hz hw he fun p zs H2 np b2 e2 hp hl hg => k p zs H2 np b2 e2 hp hl hg
theorem q_drawR {D : Ends} {tz : TS} {ta : TA} {te : TE} {b c : Addr} {i j : Nat} {vs : List Nat} (Good : Int → Prop)
    (h : ∀ R : List V → Hp → Prop, (∀ (n : Nat) H1, n ≤ 1000 → Box H1 b c → Ex (hid b H) H1 → R [.int (n : Int)] H1) → ta σ H R) (hw : ∀ x, wipe ((wipe σ vs).set j (some x)) vs = wipe σ vs)
    (he : ∀ x : V, EvB te ((wipe σ vs).set j (some x)) H b c Good)
    (k : ∀ t zs H2, Box H2 b c → Ex (hid b H) H2 → H2 t = some (.lst (vi zs)) → (∀ i, i < zs.length → Good (nth zs i)) → tz D (σ.set i (some (.ref t))) H2) :
    tSeq (tAsg (tLc (iRng1 ta) (gName j) tYes te vs) (gName i)) tz D σ H := by
  show tLc (iRng1 ta) (gName j) tYes te vs σ H fun x H1 => tz D (σ.set i (some x)) H1
  exact lb_range Good h hw he fun p zs H2 b2 e2 hp hg => k p zs H2 b2 e2 hp hg
/-- whole numbers below n, as lamps -/
theorem as_lamps {n : Nat} {zs : List Int} (h : ∀ i, i < zs.length → 0 ≤ nth zs i ∧ nth zs i < n) : ∃ ss : List Nat, vi zs = vn ss ∧ ∀ x ∈ ss, x < n := by
  have h' : ∀ z ∈ zs, 0 ≤ z ∧ z < n := fun z hz => by
    obtain ⟨i, hi, e⟩ := mem_nth hz
    rw [← e]; exact h i hi
  refine ⟨zs.map Int.toNat, ?_, fun x hx => ?_⟩
  · unfold vi vn
    rw [List.map_map]
    refine List.map_congr_left fun z hz => ?_
    have := h' z hz
    show V.int z = V.int ((z.toNat : Nat) : Int)
    rw [Int.toNat_of_nonneg this.1]
  · obtain ⟨z, hz, rfl⟩ := List.mem_map.mp hx
    have := h' z hz
    omega
theorem evb_hues {b c : Addr} {way : Nat} {hues size : Int} (h2 : 2 ≤ hues) (h10 : hues ≤ 10) (s2 : 2 ≤ size) (s10 : size ≤ 10) (i0 : σ[0]? = some (some (.ref b))) (i1 : σ[1]? = some (some (.int (way : Int)))) (i7 : σ[7]? = some (some (.int hues))) (i13 : σ[13]? = some (some (.int size))) :
    EvB (tCall sp_huesat [] E0 (tCons (tVar 0) (tCons (tVar 1) (tCons (tVar 7) (tCons (tVar 13) tNil))))) σ H b c (fun z => 0 ≤ z ∧ (way = 5 ∨ (if way = 6 then z < size else z < hues))) := fun H1 b1 e1 Q q =>
  ⟨_, i0, _, i1, _, i7, _, i13, b, c, way, hues, size, rfl, b1, h2, h10, s2, s10, fun r H2 r0 r1 b2 e2 => q r H2 ⟨r0, r1⟩ b2 ((exh e1).trans e2) e2⟩
theorem spl_numbers {way : Nat} {hues gain : Int} {a : Addr} {sz : List Int} (ha : H a = some (.lst (vi sz))) (hn : sz.length ≤ 16) : SpL sp_numbers [.int way, .int hues, .int gain, .ref a] H (vi (numL way hues gain sz)) := fun H1 e Q q E =>
  ⟨way, hues, gain, a, sz, rfl, e _ _ ha, hn, q⟩
theorem spv_tfits {Y : Sys} {k h a b dx : Addr} {fs : List (Str × V)} (RO : RuleOk P w K mg base CH C Y.way) (hk : KinAt CH C Y H k) (k1 : H k = some (.ins C dx fs)) (kh : fs.lookup ("house" : Str) = some (.ref h)) (hT : LL H a Y.T) (hN : H b = some (.lst (vi Y.N))) :
    SpV (sp_tfits P w K mg base CH) [.ref k, .ref h, .ref a, .ref b] H (.bl true) := fun H1 e Q q E => ⟨C, Y, k, h, a, b, dx, fs, rfl, RO, hk.mono e, e _ _ k1, kh, hT.mono e, e _ _ hN, q⟩
theorem spv_kfits {Y : Sys} {O : List Nat} {k a b c t1 sa : Addr} {s : List Int} {ss : List Nat} (RO : RuleOk P w K mg base CH C Y.way) (hk : KinAt CH C Y H k) (tab : Tab Y O H a b c) (tp : Topo Y.n Y.T O) (h1 : H t1 = some (.tup (vi s))) (hs : IsSt Y s) (hsa : H sa = some (.lst (vn ss))) (hss : ∀ x ∈ ss, x < Y.n) :
    SpV (sp_kfits P w K mg base CH) [.ref k, .int Y.way, .int Y.hues, .ref a, .ref b, .ref c, .ref t1, .ref sa] H (.bl true) := fun H1 e Q q E => ⟨C, Y, O, k, a, b, c, t1, sa, s, ss, rfl, RO, hk.mono e, tab.mono e, tp, e _ _ h1, hs, e _ _ hsa, hss, q⟩
abbrev s__law_rule_fits : Stmt := topS 66
theorem sc__law_rule_fits : FnScope ["_law_box", "_law_way", "_law_house", "_law_direct_here", "_law_beneath_here", "_law_order_here", "_law_sizes", "_law_hues", "_law_gain", "_law_turned", "_law_numbers_here", "_law_rule_here", "_law_source", "_law_size", "_law_target", "_law_heavy_here", "_law_state", "_law_first", "_law_second", "_law_starts", "_law_step"] ["_law_box", "_law_way", "_law_house", "_law_direct_here", "_law_beneath_here", "_law_order_here", "_law_sizes"] (defScope s__law_rule_fits) := ⟨rfl, rfl, rfl, by decide +kernel, rfl, by decide +kernel, by decide +kernel⟩
def sp_lfits (CH : Addr) : Sp := fun vs H Q _ => ∃ (b c h d be o l : Addr) (way n : Nat) (hues : Int) (Bn Dn : List (List Nat)) (On Ol : List Nat) (ps : List (Nat × Nat)) (sz : List Int), vs = [.ref b, .int way, .ref h, .ref d, .ref be, .ref o, .ref l] ∧ way ≤ 6 ∧ Box H b c ∧
  Site CH (hid b H) h d be o l n hues Bn Dn On Ol ps sz ∧ ∀ H', Box H' b c → Ex (hid b H) H' → Q (.bl true) H'
theorem d_lfits (B : Bi mg) (TH : HTxt K CH) (RK : ∀ way, way ≤ 6 → RuleOk P w K mg base CH (CC way) way) (D__law_draw : DefOk P w K mg base "_law_draw" 1 ["_law_box", "_law_size"] sp_draw) (D__law_hues_at : DefOk P w K mg base "_law_hues_at" 2 ["_law_box", "_law_way", "_law_hues", "_law_size"] sp_huesat)
    (D__law_numbers : DefOk P w K mg base "_law_numbers" 1 ["_law_way", "_law_hues", "_law_gain", "_law_sizes"] sp_numbers) (D__law_rule : DefOk P w K mg base "_law_rule" 4 ["_law_house", "_law_way", "_law_gain", "_law_sizes"] (sp_lrule CH CC))
    (D__law_table_fits : DefOk P w K mg base "_law_table_fits" 6 ["_law_rule_here", "_law_house", "_law_turned", "_law_numbers_here"] (sp_tfits P w K mg base CH)) (D__law_heavy : DefOk P w K mg base "_law_heavy" 1 ["_law_turned", "_law_numbers_here", "_law_order_here"] sp_lheavy)
    (D__law_worth_fits : DefOk P w K mg base "_law_worth_fits" 8 ["_law_rule_here", "_law_heavy_here", "_law_state"] (sp_wfits P w K mg base CH)) (D__law_sum_fits : DefOk P w K mg base "_law_sum_fits" 11 ["_law_rule_here", "_law_way", "_law_hues", "_law_turned", "_law_numbers_here", "_law_order_here", "_law_source", "_law_target"] (sp_sfits P w K mg base CH))
    (D__law_walk_fits : DefOk P w K mg base "_law_walk_fits" 12 ["_law_rule_here", "_law_way", "_law_hues", "_law_turned", "_law_numbers_here", "_law_order_here", "_law_source", "_law_starts"] (sp_kfits P w K mg base CH))
    (I : DefIs K mg "_law_rule_fits" "_law_rule_fits" s__law_rule_fits ["_law_box", "_law_way", "_law_house", "_law_direct_here", "_law_beneath_here", "_law_order_here", "_law_sizes"]) :
    DefOk P w K mg base "_law_rule_fits" 13 ["_law_box", "_law_way", "_law_house", "_law_direct_here", "_law_beneath_here", "_law_order_here", "_law_sizes"] (sp_lfits CH) := by
  refine I.ok sc__law_rule_fits (fun vs H Q E h => ?_) (fun f cdv A outer sh H vs Q E hr h => ?_)
  · obtain ⟨_, _, _, _, _, _, _, _, _, _, _, _, _, _, _, _, rfl, _⟩ := h; rfl
  · obtain ⟨b, c, h, d, be, o, l, way, n, hues, Bn, Dn, On, Ol, ps, sz, rfl, hw, bx, S, kk⟩ := h
    refine ⟨_, (pss_cons (ps_set (i := 7) sc__law_rule_fits.nd rfl (Or.inr rfl) (pe_fld (pv 2) rfl))
      (pss_cons (ps_set (i := 8) sc__law_rule_fits.nd rfl (Or.inl rfl) (pe_op op_add pe_int (pe_callD D__law_draw (hr.mono (by decide)) (pa_cons (pv 0) (pa_cons (pe_op op_sub (pv 7) pe_int) pa_nil)))))
      (pss_cons (ps_set (i := 9) sc__law_rule_fits.nd rfl (Or.inl rfl) (pv 4))
      (Evl.pss_cut (ps_if (pt_cmpR op_in_seq (pv 1) (pe_tup (pa_cons pe_int (pa_cons pe_int pa_nil))) (by first | exact nomark _ | rfl))
      (pss_one (ps_set (i := 9) sc__law_rule_fits.nd rfl (Or.inl rfl) (pv 3)))
      pss_nil)
      (pss_cons (ps_set (i := 10) sc__law_rule_fits.nd rfl (Or.inl rfl) (pe_callD D__law_numbers (hr.mono (by decide)) (pa_cons (pv 1) (pa_cons (pv 7) (pa_cons (pv 8) (pa_cons (pv 6) pa_nil))))))
      (pss_cons (ps_set (i := 11) sc__law_rule_fits.nd rfl (Or.inl rfl) (pe_callD D__law_rule (hr.mono (by decide)) (pa_cons (pv 2) (pa_cons (pv 1) (pa_cons (pv 8) (pa_cons (pv 6) pa_nil))))))
      (pss_cons (ps_if (pt_cmpR op_ne (pe_con (pv 11) rfl) (pe_ix ix_list (pe_lst (pa_cons pe_str (pa_cons pe_str (pa_cons pe_str (pa_cons pe_str (pa_cons pe_str (pa_cons pe_str (pa_cons pe_str pa_nil)))))))) (pv 1) (fun _ _ => rfl)) (nomark _))
      (pss_one (ps_ret pe_bl))
      pss_nil)
      (pss_cons (ps_if (pt_not (pt_val (pe_callD D__law_table_fits (hr.mono (by decide)) (pa_cons (pv 11) (pa_cons (pv 2) (pa_cons (pv 9) (pa_cons (pv 10) pa_nil)))))))
      (pss_one (ps_ret pe_bl))
      pss_nil)
      (pss_cons (ps_set (i := 12) sc__law_rule_fits.nd rfl (Or.inl rfl) (pe_callTy call_tuple_of (by rfl) B.tuple (by decide +kernel) (pa_cons (pe_lc (own := [("_law_size", 13)]) (g := gName 13) (tt := tYes) rfl sc__law_rule_fits.nd (pi_list (pv 6)) (blkOk_by (own := [("_law_size", 13)]) (N := ["_law_box", "_law_way", "_law_house", "_law_direct_here", "_law_beneath_here", "_law_order_here", "_law_sizes", "_law_hues", "_law_gain", "_law_turned", "_law_numbers_here", "_law_rule_here", "_law_source", "_law_size", "_law_target", "_law_heavy_here", "_law_state", "_law_first", "_law_second", "_law_starts", "_law_step"]) (sc := defScope s__law_rule_fits) (by decide +kernel)) (fun _ _ _ _ _ => by exact (pg_name (i := 13) sc__law_rule_fits.nd rfl (Or.inl rfl))) (fun _ _ _ _ _ => by exact pts_nil) (fun _ _ _ _ _ => by exact (pe_callD D__law_hues_at (hr.mono (by decide)) (pa_cons (pv 0) (pa_cons (pv 1) (pa_cons (pv 7) (pa_cons (pv 13) pa_nil))))))) pa_nil)))
      (pss_cons (ps_set (i := 14) sc__law_rule_fits.nd rfl (Or.inl rfl) (pe_callTy call_tuple_of (by rfl) B.tuple (by decide +kernel) (pa_cons (pe_lc (own := [("_law_size", 13)]) (g := gName 13) (tt := tYes) rfl sc__law_rule_fits.nd (pi_list (pv 6)) (blkOk_by (own := [("_law_size", 13)]) (N := ["_law_box", "_law_way", "_law_house", "_law_direct_here", "_law_beneath_here", "_law_order_here", "_law_sizes", "_law_hues", "_law_gain", "_law_turned", "_law_numbers_here", "_law_rule_here", "_law_source", "_law_size", "_law_target", "_law_heavy_here", "_law_state", "_law_first", "_law_second", "_law_starts", "_law_step"]) (sc := defScope s__law_rule_fits) (by decide +kernel)) (fun _ _ _ _ _ => by exact (pg_name (i := 13) sc__law_rule_fits.nd rfl (Or.inl rfl))) (fun _ _ _ _ _ => by exact pts_nil) (fun _ _ _ _ _ => by exact (pe_callD D__law_hues_at (hr.mono (by decide)) (pa_cons (pv 0) (pa_cons (pv 1) (pa_cons (pv 7) (pa_cons (pv 13) pa_nil))))))) pa_nil)))
      (pss_cons (ps_set (i := 15) sc__law_rule_fits.nd rfl (Or.inl rfl) (pe_callD D__law_heavy (hr.mono (by decide)) (pa_cons (pv 9) (pa_cons (pv 10) (pa_cons (pv 5) pa_nil)))))
      (pss_cons (ps_for PassesOwn.never rfl (pi_list (pe_lst (pa_cons (pv 12) (pa_cons (pv 14) (pa_cons (pv 12) pa_nil))))) (pg_name (i := 16) sc__law_rule_fits.nd rfl (Or.inl rfl))
      (pss_one (ps_if (pt_not (pt_val (pe_callD D__law_worth_fits (hr.mono (by decide)) (pa_cons (pv 11) (pa_cons (pv 15) (pa_cons (pv 16) pa_nil))))))
        (pss_one (ps_ret pe_bl))
        pss_nil)))
      (pss_cons (ps_for PassesOwn.never rfl (pi_list (pe_lst (pa_cons (pe_tup (pa_cons (pv 12) (pa_cons (pv 14) pa_nil))) (pa_cons (pe_tup (pa_cons (pv 14) (pa_cons (pv 12) pa_nil))) (pa_cons (pe_tup (pa_cons (pv 12) (pa_cons (pv 12) pa_nil))) pa_nil))))) (pg_tup rfl (pgs_cons (pg_name (i := 17) sc__law_rule_fits.nd rfl (Or.inl rfl)) (pgs_cons (pg_name (i := 18) sc__law_rule_fits.nd rfl (Or.inl rfl)) pgs_nil)))
      (pss_one (ps_if (pt_not (pt_val (pe_callD D__law_sum_fits (hr.mono (by decide)) (pa_cons (pv 11) (pa_cons (pv 1) (pa_cons (pv 7) (pa_cons (pv 9) (pa_cons (pv 10) (pa_cons (pv 5) (pa_cons (pv 17) (pa_cons (pv 18) pa_nil)))))))))))
        (pss_one (ps_ret pe_bl))
        pss_nil)))
      (pss_cons (ps_setLc (i := 19) (own := [("_law_step", 20)]) (g := gName 20) (tt := tYes) rfl sc__law_rule_fits.nd rfl rfl (sw_true rfl rfl rfl (by decide +kernel)) (pi_range1 rfl B.range (pa_cons (pe_callD D__law_draw (hr.mono (by decide)) (pa_cons (pv 0) (pa_cons pe_int pa_nil))) pa_nil)) (blkOk_by (own := [("_law_step", 20)]) (N := ["_law_box", "_law_way", "_law_house", "_law_direct_here", "_law_beneath_here", "_law_order_here", "_law_sizes", "_law_hues", "_law_gain", "_law_turned", "_law_numbers_here", "_law_rule_here", "_law_source", "_law_size", "_law_target", "_law_heavy_here", "_law_state", "_law_first", "_law_second", "_law_starts", "_law_step"]) (sc := defScope s__law_rule_fits) (by decide +kernel)) (fun _ _ _ _ _ => by exact (pg_name (i := 20) sc__law_rule_fits.nd rfl (Or.inl rfl))) (fun _ _ _ _ _ => by exact pts_nil) (fun _ _ _ _ _ => by exact (pe_callD D__law_draw (hr.mono (by decide)) (pa_cons (pv 0) (pa_cons (pe_callB (call_lenK (K := K)) (by rfl) B.len PySem.boot_len (pa_cons (pv 6) pa_nil)) pa_nil)))))
      (pss_one (ps_ret (pe_callD D__law_walk_fits (hr.mono (by decide)) (pa_cons (pv 11) (pa_cons (pv 1) (pa_cons (pv 7) (pa_cons (pv 9) (pa_cons (pv 10) (pa_cons (pv 5) (pa_cons (pv 12) (pa_cons (pv 19) pa_nil))))))))))))))))))))))))), ?_⟩
    have hn := S.n16
    have h2 := S.h2
    have h10 := S.h10
    have szl := S.szl
    -- hues, gain
    obtain ⟨dh, gh, _, _, _, _, _, _, hh1, _, hh3, _⟩ := (S.hse.mono hid_le).ex
    refine q_asg (ev_fld (ev_var rfl) hh1 TH.cl TH.hues hh3) fun H1 e1 => ?_
    have g1 := (hid_le (b := b)).trans e1
    have big : (9 : Int) ≤ 10 ^ 31 := by decide
    refine ⟨_, rfl, _, rfl, _, _, rfl, rfl, b, c, _, rfl, bx.mono e1, by omega, by omega, fun r H2 r0 r1 b2 e2 => ⟨_, _, rfl, rfl, ?_⟩⟩
    have g2 := (exh g1).trans e2
    have gain1 : 1 ≤ 1 + r := by omega
    have gain2 : 1 + r < hues := by omega
    change tSeq _ _ _ (List.set _ 8 (some (V.int (1 + r)))) _
    generalize 1 + r = gain at gain1 gain2 ⊢
    refine q_asg (ev_var rfl) fun H3 e3 => ?_
    have b3 := b2.mono e3
    have g3 := g2.trans e3
    -- the turned lamps
    refine q_cut (M := fun σ' H' => Ex H3 H' ∧ σ' = [some (.ref b), some (.int (way : Int)), some (.ref h), some (.ref d), some (.ref be), some (.ref o), some (.ref l), some (.int hues), some (.int gain), some (.ref (if way = 2 ∨ way = 3 then d else be)), none, none, none, none, none, none, none, none, none, none, none])
      (s_ifAsg (v := .ref (if way = 2 ∨ way = 3 then d else be)) (et_test (ev_is (ev_inU (ev_var rfl) (eu_tup (ea_cons ev_c (ea_cons ev_c ea_nil)) (by decide)) rfl rfl) (congrArg V.bl (show inV (.int (way : Int)) (vn [2, 3]) = _ from inV_vn)))) (fun hb => ev_is (ev_var rfl) ?_) (fun hf => ?_) fun H4 e4 => ⟨e4, rfl⟩) ?_
    · have := of_decide_eq_true hb
      rw [if_pos (by simpa using this)]
    · have := of_decide_eq_false hf
      rw [if_neg (by simpa using this)]; rfl
    rintro σ' H4 ⟨e4, rfl⟩
    have b4 := b3.mono e4
    have g4 := g3.trans e4
    have hta : ∀ {X : Hp}, Ex (hid b H) X → LL X (if way = 2 ∨ way = 3 then d else be) (sysOf n way hues gain Bn Dn On sz).T := fun e => by
      show LL _ (if way = 2 ∨ way = 3 then d else be) (if way = 2 ∨ way = 3 then Dn else Bn)
      split
      · exact S.hd.mono e
      · exact S.hb.mono e
    generalize (if way = 2 ∨ way = 3 then d else be) = ta at hta
    refine q_asgL (el_call (ea_cons (ev_var rfl) (ea_cons (ev_var rfl) (ea_cons (ev_var rfl) (ea_cons (ev_var rfl) ea_nil)))) (spl_numbers (g4 _ _ S.hs) (by omega))) fun na H5 nna e5 hna => ?_
    have b5 := b4.mono e5
    have g5 := g4.trans e5
    have nab : na ≠ b := (b4.ne nna).1
    -- the rule
    have YO := S.ok hw gain1 gain2
    have RO := RK way hw
    have tp : Topo (sysOf n way hues gain Bn Dn On sz).n (sysOf n way hues gain Bn Dn On sz).T Ol := S.topo S.pL S.lL
    have hw' : (sysOf n way hues gain Bn Dn On sz).way = way := rfl
    have hG : ∀ {X : Hp}, Ex (hid b H) X → Given CH (sysOf n way hues gain Bn Dn On sz) Bn Dn gain sz X h l := fun e => (S.mono e).given hw gain1 gain2
    have hNn : (sysOf n way hues gain Bn Dn On sz).N = numL way hues gain sz := rfl
    have hNn' : (sysOf n way hues gain Bn Dn On sz).N = numL (sysOf n way hues gain Bn Dn On sz).way (sysOf n way hues gain Bn Dn On sz).hues gain sz := rfl
    have hYn : (sysOf n way hues gain Bn Dn On sz).n = n := rfl
    have hYh : (sysOf n way hues gain Bn Dn On sz).hues = hues := rfl
    generalize sysOf n way hues gain Bn Dn On sz = Y at YO tp hta hw' hG hNn hNn' hYn hYh
    subst hw' hYn hYh
    refine ⟨_, rfl, _, rfl, _, rfl, _, rfl, Y, Bn, Dn, gain, sz, h, l, rfl, hG g5, fun k dx fs H6 nk e6 hK k1 kh => ?_⟩
    have b6 := b5.mono e6
    have g6 := g5.trans e6
    have nkb : k ≠ b := (b5.ne nk).1
    have cl := RO.T.cl
    -- from here on: over what stands beside the box
    have G0 := exh g6
    have kg : hid b H6 k = some (.ins (CC Y.way) dx fs) := by rw [hid_ne nkb]; exact k1
    have Kg : KinAt CH (CC Y.way) Y (hid b H6) k := hK _ (hid_ne nkb) (fun p xs hp => b6.tup hp) (hG G0)
    have tabg : Tab Y Ol (hid b H6) ta na o := ⟨hta G0, by rw [hid_ne nab, hNn]; exact e6 _ _ hna, G0 _ _ S.ho⟩
    have szg : hid b H6 l = some (.lst (vi sz)) := G0 _ _ S.hs
    clear hK
    obtain ⟨zl, ul, Cn, hlab⟩ := RO.lab
    have k5 : ∀ m : Str, m ∉ kinNames → fs.lookup m = none := by
      obtain ⟨dy, gs, q1, q5⟩ := Kg.no
      rw [kg] at q1
      cases q1
      exact q5
    have hlab' : ([V.str "free", V.str "careful", V.str "wired", V.str "careful wired", V.str "gain", V.str "coin", V.str "mixed"] : List V)[Y.way]? = some (.str zl) := by
      have := congrArg (Option.map V.str) hlab
      rw [← List.getElem?_map] at this
      exact this
    refine q_when (b := false) (et_is (et_test (ev_op (ev_con (ev_var rfl) k1 cl Cn (k5 _ (by decide +kernel))) (ev_opL1 (el_lst (ea_cons ev_c (ea_cons ev_c (ea_cons ev_c (ea_cons ev_c (ea_cons ev_c (ea_cons ev_c (ea_cons ev_c ea_nil))))))) (by decide)) (fun H1 e => ev_var rfl) fun p H1 hp e => rv_ixL (SqL.of hp) (atI_nat hlab')) (rv_ne rfl))) (by simp)) (fun z => by cases z) (fun _ H7 e7 => ?_)
    have g7 := (hid_le (b := b)).trans e7
    refine q_when (b := false) (et_is (et_not (et_B (ev_call (ea_cons (ev_var rfl) (ea_cons (ev_var rfl) (ea_cons (ev_var rfl) (ea_cons (ev_var rfl) ea_nil)))) (spv_tfits RO (Kg.mono g7) (g7 _ _ kg) kh (tabg.t.mono g7) (g7 _ _ tabg.n))))) rfl) (fun z => by cases z) (fun _ H8 e8 => ?_)
    have g8 := g7.trans e8
    have b8 := (b6.mono e7).mono e8
    -- the two states
    have hsz16 : (vi sz).length ≤ 1000 := by rw [vi_len]; omega
    refine q_drawT (Drawn Y.way Y.hues sz) b8 (ev_var rfl) (exh g8 _ _ szg) hsz16 (fun _ => rfl) (fun i x hi => ?_) fun t1 s H9 b9 e9 h1 hl1 hg1 => ?_
    · have hi2 : i < sz.length := by
        have := (List.getElem?_eq_some_iff.mp hi).1
        rwa [vi_len] at this
      rw [vi_nth hi2] at hi
      cases hi
      have := S.szb i (by omega)
      exact evb_hues h2 h10 this.1 this.2 rfl rfl rfl rfl
    have g9 := (exh g8).trans e9
    rw [vi_len, szl] at hl1 hg1
    have st1 := drawn_st hNn' szl hl1 hg1
    refine q_drawT (Drawn Y.way Y.hues sz) b9 (ev_var rfl) (exh g9 _ _ szg) hsz16 (fun _ => rfl) (fun i x hi => ?_) fun t2 t H10 b10 e10 ht2 hl2 hg2 => ?_
    · have hi2 : i < sz.length := by
        have := (List.getElem?_eq_some_iff.mp hi).1
        rwa [vi_len] at this
      rw [vi_nth hi2] at hi
      cases hi
      have := S.szb i (by omega)
      exact evb_hues h2 h10 this.1 this.2 rfl rfl rfl rfl
    have g10 := (exh g9).trans e10
    rw [vi_len, szl] at hl2 hg2
    have st2 := drawn_st hNn' szl hl2 hg2
    have h1' := e10 _ _ (b9.tup h1)
    refine q_asgL (el_call (ea_cons (ev_var rfl) (ea_cons (ev_var rfl) (ea_cons (ev_var rfl) ea_nil))) (spl_lheavy YO (tabg.mono g10) tp)) fun hA H11 nh e11 hh => ?_
    have g11 := g10.trans e11
    have b11 := b10.mono e11
    have h1b := e11 _ _ h1'
    have h2b := e11 _ _ ht2
    -- the worths
    refine q_forNLn (K := K) (el_lst (ea_cons (ev_var rfl) (ea_cons (ev_var rfl) (ea_cons (ev_var rfl) ea_nil))) (by show 3 ≤ 100000; decide)) (fun p i σ H' => Ex H11 H' ∧ H' p = some (.lst [.ref t1, .ref t2, .ref t1]) ∧ ∃ x, σ = [some (.ref b), some (.int (Y.way : Int)), some (.ref h), some (.ref d), some (.ref be), some (.ref o), some (.ref l), some (.int Y.hues), some (.int gain), some (.ref ta), some (.ref na), some (.ref k), some (.ref t1), none, some (.ref t2), some (.ref hA), x, none, none, none, none])
      (fun p H12 np e12 hp => ⟨e12, hp, _, rfl⟩) (fun p i σ H' _ q => SqL.of q.2.1) ?_ ?_
    · rintro p i x σ H12 hi ⟨e12, hp, y, rfl⟩
      have hx : ∃ (u : Addr) (su : List Int), x = .ref u ∧ H11 u = some (.tup (vi su)) ∧ IsSt Y su := by
        have := List.mem_of_getElem? hi
        simp at this
        rcases this with rfl | rfl | rfl
        · exact ⟨t1, s, rfl, h1b, st1⟩
        · exact ⟨t2, t, rfl, h2b, st2⟩
        · exact ⟨t1, s, rfl, h1b, st1⟩
      obtain ⟨u, su, rfl, hu, hsu⟩ := hx
      refine s_when (b := false) (et_is (et_not (et_B (ev_call (ea_cons (ev_var rfl) (ea_cons (ev_var rfl) (ea_cons (ev_var rfl) ea_nil))) (spv_wfits RO (Kg.mono (g11.trans e12)) (e12 _ _ hh) (e12 _ _ hu) hsu)))) rfl) (fun z => by cases z) (fun _ H13 e13 => ?_)
      exact ⟨e12.trans e13, e13 _ _ hp, _, rfl⟩
    rintro p0 σ H12 ⟨e12, hp0, x16, rfl⟩
    have g12 := g11.trans e12
    have b12 := b11.mono e12
    have h1c := e12 _ _ h1b
    have h2c := e12 _ _ h2b
    clear hp0
    -- the sums
    have two : (2 : Nat) ≤ sizeLine := by decide
    have three : (3 : Nat) ≤ sizeLine := by decide
    refine ⟨_, rfl, _, rfl, two, fun T1 n1 => ⟨_, rfl, _, rfl, two, fun T2 n2 => ⟨_, rfl, _, rfl, two, fun T3 n3 => ⟨three, fun p np => ⟨p, rfl, ⟨_, SqL.of upd_same⟩, ?_⟩⟩⟩⟩⟩
    have ex1 : Ex H12 (upd H12 T1 (.tup [.ref t1, .ref t2])) := Ex.new n1
    have ex2 := ex1.trans (Ex.new (o := .tup [.ref t2, .ref t1]) n2)
    have ex3 := ex2.trans (Ex.new (o := .tup [.ref t1, .ref t1]) n3)
    have ex4 := ex3.trans (Ex.new (o := .lst [.ref T1, .ref T2, .ref T3]) np)
    have hT1 := (Ex.new (o := .lst [.ref T1, .ref T2, .ref T3]) np) _ _ ((Ex.new (o := .tup [.ref t1, .ref t1]) n3) _ _ ((Ex.new (o := .tup [.ref t2, .ref t1]) n2) _ _ (upd_same (H := H12) (a := T1) (o := .tup [.ref t1, .ref t2]))))
    have hT2 := (Ex.new (o := .lst [.ref T1, .ref T2, .ref T3]) np) _ _ ((Ex.new (o := .tup [.ref t1, .ref t1]) n3) _ _ (upd_same (H := upd H12 T1 (.tup [.ref t1, .ref t2])) (a := T2) (o := .tup [.ref t2, .ref t1])))
    have hT3 := (Ex.new (o := .lst [.ref T1, .ref T2, .ref T3]) np) _ _ (upd_same (H := upd (upd H12 T1 (.tup [.ref t1, .ref t2])) T2 (.tup [.ref t2, .ref t1])) (a := T3) (o := .tup [.ref t1, .ref t1]))
    have hp4 := upd_same (H := upd (upd (upd H12 T1 (.tup [.ref t1, .ref t2])) T2 (.tup [.ref t2, .ref t1])) T3 (.tup [.ref t1, .ref t1])) (a := p) (o := .lst [.ref T1, .ref T2, .ref T3])
    refine hinit_gen (P := fun X => _) (fun X (e13 : Ex H12 X) (hTs : X T1 = some (.tup [.ref t1, .ref t2]) ∧ X T2 = some (.tup [.ref t2, .ref t1]) ∧ X T3 = some (.tup [.ref t1, .ref t1])) (hpX : X p = some (.lst [.ref T1, .ref T2, .ref T3])) => ?_) ex4 ⟨hT1, hT2, hT3⟩ hp4
    clear ex1 ex2 ex3 ex4 hT1 hT2 hT3 hp4
    obtain ⟨hT1, hT2, hT3⟩ := hTs
    have gX := g12.trans e13
    have bX := b12.mono e13
    have h1d := e13 _ _ h1c
    have h2d := e13 _ _ h2c
    refine for_list (xs := [.ref T1, .ref T2, .ref T3]) (fun i σ H' => Ex X H' ∧ ∃ x y, σ = [some (.ref b), some (.int (Y.way : Int)), some (.ref h), some (.ref d), some (.ref be), some (.ref o), some (.ref l), some (.int Y.hues), some (.int gain), some (.ref ta), some (.ref na), some (.ref k), some (.ref t1), none, some (.ref t2), some (.ref hA), x16, x, y, none, none]) ⟨Ex.refl _, _, _, rfl⟩ (fun i σ H' _ q => SqL.of (q.1 _ _ hpX)) ?_ ?_
    · rintro i x σ H13 hi ⟨e14, y, z, rfl⟩
      have hx : ∃ (T u v : Addr) (su sv : List Int), x = .ref T ∧ X T = some (.tup [.ref u, .ref v]) ∧ X u = some (.tup (vi su)) ∧ IsSt Y su ∧ X v = some (.tup (vi sv)) ∧ IsSt Y sv := by
        have := List.mem_of_getElem? hi
        simp at this
        rcases this with rfl | rfl | rfl
        · exact ⟨T1, t1, t2, s, t, rfl, hT1, h1d, st1, h2d, st2⟩
        · exact ⟨T2, t2, t1, t, s, rfl, hT2, h2d, st2, h1d, st1⟩
        · exact ⟨T3, t1, t1, s, s, rfl, hT3, h1d, st1, h1d, st1⟩
      obtain ⟨T, u, v, su, sv, rfl, hTT, hu, hsu, hv, hsv⟩ := hx
      refine ⟨T, _, rfl, SqT.of (e14 _ _ hTT), rfl, _, _, rfl, _, _, rfl, rfl, ?_⟩
      have gg := gX.trans e14
      refine s_when (b := false) (et_is (et_not (et_B (ev_call (ea_cons (ev_var rfl) (ea_cons (ev_var rfl) (ea_cons (ev_var rfl) (ea_cons (ev_var rfl) (ea_cons (ev_var rfl) (ea_cons (ev_var rfl) (ea_cons (ev_var rfl) (ea_cons (ev_var rfl) ea_nil)))))))) (spv_sfits RO (Kg.mono gg) (tabg.mono gg) tp (e14 _ _ hu) (e14 _ _ hv) hsu hsv)))) rfl) (fun z => by cases z) (fun _ H14 e15 => ?_)
      exact ⟨e14.trans e15, _, _, rfl⟩
    rintro σ H13 ⟨e14, y17, y18, rfl⟩
    have g13 := gX.trans e14
    have b13 := bX.mono e14
    have h1e := e14 _ _ h1d
    -- the walk
    have len : ∀ {σ : L2.St} {H' : Hp}, Ex (hid b H6) H' → σ[6]? = some (some (.ref l)) → Ev (tCB (fun xs H Q => ∃ x n, xs = [x] ∧ LenV K x H n ∧ Q (.int n) H) (tCons (tVar 6) tNil)) σ H' (.int (Y.n : Nat)) := fun e h => ev_is (ev_lenA (ev_var h) (.inl (e _ _ szg))) (by rw [vi_len, szl])
    have n1 := YO.n1
    have b31 : (16 : Int) ≤ 10 ^ 31 := by decide
    dsimp only
    refine q_drawR (fun z => 0 ≤ z ∧ z < (Y.n : Int)) (b := b) (c := c) ?_ ?_ ?_ ?_
    · intro R hR
      refine ⟨_, rfl, b, c, _, rfl, b13, by decide, by decide, fun m H14 m0 m1 b14 e15 => ?_⟩
      obtain ⟨mm, rfl⟩ : ∃ mm : Nat, m = mm := ⟨m.toNat, by omega⟩
      exact hR mm H14 (by omega) b14 e15
    · exact fun _ => rfl
    · intro x H14 b14 e15 Q q
      refine ⟨_, rfl, len ((exh g13).trans e15) rfl H14 (Ex.refl _) _ fun H15 e16 => ?_⟩
      exact ⟨b, c, _, rfl, b14.mono e16, by omega, by omega, fun r H16 r0 r1 b16 e17 => q r H16 ⟨r0, r1⟩ b16 ((exh (e15.trans e16)).trans e17) ((hid_mono e16).trans e17)⟩
    intro sa zs H14 b14 e15 hsa hg
    have g14 := (exh g13).trans e15
    have h1f := e15 _ _ (b13.tup h1e)
    obtain ⟨ss, hss, hlt⟩ := as_lamps hg
    rw [hss] at hsa
    refine s_ret (ev_call (ea_cons (ev_var rfl) (ea_cons (ev_var rfl) (ea_cons (ev_var rfl) (ea_cons (ev_var rfl) (ea_cons (ev_var rfl) (ea_cons (ev_var rfl) (ea_cons (ev_var rfl) (ea_cons (ev_var rfl) ea_nil)))))))) (spv_kfits RO (Kg.mono g14) (tabg.mono g14) tp h1f st1 hsa hlt)) fun H15 e16 => kk H15 (b14.mono e16) ((G0.trans g14).trans e16)
end
end K57

set_option Elab.async false
set_option linter.all false
set_option maxRecDepth 100000
set_option maxHeartbeats 4000000
namespace K57
open PySem PySem.Spec PyProof.Rows L2 Evl M57
/-! ### what stands beside the box -/
theorem Box.refs {H : Hp} {b c t : Addr} {rs : List Addr} (bx : Box H b c) (h : H t = some (.lst (rs.map V.ref))) : hid b H t = some (.lst (rs.map V.ref)) := by
  obtain ⟨cells, k, z, x, y, q⟩ := bx
  rw [hid_ne]
  · exact h
  · rintro rfl
    rw [q.bx] at h
    have e := HO.lst.inj (Option.some.inj h)
    have e1 : (rs.map V.ref)[1]? = some (.int k) := by rw [← e]; rfl
    rw [List.getElem?_map] at e1
    obtain ⟨r, _, hr⟩ := Option.map_eq_some_iff.mp e1
    cases hr
theorem Box.nums {H : Hp} {b c t : Addr} {l : List Nat} (bx : Box H b c) (h : H t = some (.lst (vn l))) : hid b H t = some (.lst (vn l)) := by
  obtain ⟨cells, k, z, x, y, q⟩ := bx
  rw [hid_ne]
  · exact h
  · rintro rfl
    rw [q.bx] at h
    have e := HO.lst.inj (Option.some.inj h)
    have e1 : (vn l)[0]? = some (.ref c) := by rw [← e]; rfl
    unfold vn at e1
    rw [List.getElem?_map] at e1
    obtain ⟨r, _, hr⟩ := Option.map_eq_some_iff.mp e1
    cases hr
theorem Box.ll {H : Hp} {b c a : Addr} {B : List (List Nat)} (bx : Box H b c) (h : LL H a B) : LL (hid b H) a B := let ⟨rs, h1, h2, h3⟩ := h; ⟨rs, bx.refs h1, h2, fun i r hr => bx.nums (h3 i r hr)⟩
theorem Box.wp {H : Hp} {b c : Addr} {rs : List Addr} {ps : List (Nat × Nat)} (bx : Box H b c) (h : WPrs H rs ps) : WPrs (hid b H) rs ps := ⟨h.len, fun k r q h1 h2 => bx.tup (h.at_ k r q h1 h2)⟩
theorem Box.ins {H : Hp} {b c t C dx : Addr} {fs : List (Str × V)} (bx : Box H b c) (h : H t = some (.ins C dx fs)) : hid b H t = some (.ins C dx fs) := by
  obtain ⟨_, _, _, _, _, q⟩ := bx
  rw [hid_ne (by rintro rfl; rw [q.bx] at h; cases h)]; exact h
theorem Box.hse {CH : Addr} {H : Hp} {b c h : Addr} {n : Nat} {hues : Int} {B D : List (List Nat)} {O : List Nat} (bx : Box H b c) (x : Hse CH H h n hues B D O) : Hse CH (hid b H) h n hues B D O := by
  obtain ⟨dx, fs, a1, a2, a3, a4, rs, ps, h1, h2, h3, h4, h5, h6, h7, h8, h9, h10, h11, h12, h13, h14⟩ := x.ex
  exact ⟨⟨dx, fs, a1, a2, a3, a4, rs, ps, bx.ins h1, h2, h3, h4, bx.ll h5, h6, bx.ll h7, h8, bx.nums h9, h10, bx.tup h11, bx.wp h12, h13, h14⟩, x.n1, x.n16, x.lB, x.lD, x.lO, x.rB, x.rD⟩
theorem WPrs.rev {H : Hp} {rs : List Addr} {ps : List (Nat × Nat)} (h : WPrs H rs ps) : WPrs H rs.reverse ps.reverse := by
  refine ⟨by rw [List.length_reverse, List.length_reverse]; exact h.len, fun k r q h1 h2 => ?_⟩
  have l1 := (List.getElem?_eq_some_iff.mp h1).1
  have l2 := (List.getElem?_eq_some_iff.mp h2).1
  rw [List.length_reverse] at l1 l2
  rw [List.getElem?_reverse l1] at h1
  rw [List.getElem?_reverse l2] at h2
  rw [← h.len] at h2
  exact h.at_ _ r q h1 h2
theorem Pre.ext {n : Nat} {E F : List (Nat × Nat)} {O : List Nat} (p : Pre n E O) (h : ∀ q, q ∈ F → q ∈ E) : Pre n F O := ⟨p.nd, p.lt, fun pre v post e u hu => p.ord pre v post e u (hu.mono h)⟩
section
variable {P : Program} {w : World} {K : PySem.W.Frag} {mg : Str → Option Value} {base : Heap} {CH : Addr}
abbrev s_law : Stmt := topS 67
theorem sc_law : FnScope ["_law_script", "_law_box", "_law_count", "_law_hues", "_law_way", "_law_other", "_law_lamps", "_law_wires_here", "_law_house", "_law_direct_here", "_law_beneath_here", "_law_order_here", "_law_sizes", "_law_lamp"] ["_law_script"] (defScope s_law) := ⟨rfl, rfl, rfl, by decide +kernel, rfl, by decide +kernel, by decide +kernel⟩
def sp_law (K : PySem.W.Frag) : Sp := fun vs H Q _ => ∃ (a : Addr) (ns : List Int), vs = [.ref a] ∧ SqL K H a (vi ns) ∧ ns.length ≤ 63 ∧ ∀ H', Q (.bl true) H'
theorem ok_law (B : Bi mg) (G_House : mg "House" = some (.ref CH)) (MK_House : FnAtOk (Mk K CH) P w K mg base 4 ["self", "count", "hues", "wires"] (sp_hinit CH)) (D__law_start : DefOk P w K mg base "_law_start" 1 ["_law_script"] (sp_start K)) (D__law_draw : DefOk P w K mg base "_law_draw" 1 ["_law_box", "_law_size"] sp_draw)
    (D__law_lamp_order : DefOk P w K mg base "_law_lamp_order" 2 ["_law_box", "_law_count"] sp_lamps) (D__law_wires : DefOk P w K mg base "_law_wires" 2 ["_law_box", "_law_lamps"] sp_wires) (D__law_passed : DefOk P w K mg base "_law_passed" 2 ["_law_box", "_law_wires_here"] sp_passed)
    (D__law_direct : DefOk P w K mg base "_law_direct" 1 ["_law_count", "_law_wires_here"] sp_ldirect) (D__law_beneath : DefOk P w K mg base "_law_beneath" 1 ["_law_direct_here", "_law_lamps"] sp_lbeneath) (D__law_order : DefOk P w K mg base "_law_order" 1 ["_law_beneath_here"] sp_lorder)
    (D__law_rule_fits : DefOk P w K mg base "_law_rule_fits" 13 ["_law_box", "_law_way", "_law_house", "_law_direct_here", "_law_beneath_here", "_law_order_here", "_law_sizes"] (sp_lfits CH))
    {f : Addr} {fd : FuncData} (F : FunD K "law" "law" (defArgs s_law) (defBody s_law) (defScope s_law) [] [] f fd) : FnOk P w K mg base CX0 14 f fd ["_law_script"] (sp_law K) := by
  refine F.ok sc_law (fun vs H Q E h => ?_) fun cdv A outer sh H vs Q E hr h => ?_
  · obtain ⟨_, _, rfl, _⟩ := h; rfl
  · obtain ⟨a, ns, rfl, hS, hl, kk⟩ := h
    suffices h : ∃ t, PSs (cxOf CX0 P w K mg base ["_law_script", "_law_box", "_law_count", "_law_hues", "_law_way", "_law_other", "_law_lamps", "_law_wires_here", "_law_house", "_law_direct_here", "_law_beneath_here", "_law_order_here", "_law_sizes", "_law_lamp"] "law" (defScope s_law) f cdv A outer sh H E).nox (defBody s_law) t ∧ t { nx := fun _ H' => Q .non H', rt := Q } (start ["_law_script", "_law_box", "_law_count", "_law_hues", "_law_way", "_law_other", "_law_lamps", "_law_wires_here", "_law_house", "_law_direct_here", "_law_beneath_here", "_law_order_here", "_law_sizes", "_law_lamp"] [.ref a]) H by
      obtain ⟨t, h1, h2⟩ := h
      exact ⟨t, h1.nox, h2⟩
    refine ⟨_, (pss_cons (ps_set (i := 1) sc_law.nd rfl (Or.inr rfl) (pe_callD D__law_start (hr.mono (by decide)) (pa_cons (pv 0) pa_nil)))
      (pss_cons (ps_set (i := 2) sc_law.nd rfl (Or.inl rfl) (pe_op op_add pe_int (pe_callD D__law_draw (hr.mono (by decide)) (pa_cons (pv 1) (pa_cons pe_int pa_nil)))))
      (pss_cons (ps_set (i := 3) sc_law.nd rfl (Or.inl rfl) (pe_op op_add pe_int (pe_callD D__law_draw (hr.mono (by decide)) (pa_cons (pv 1) (pa_cons pe_int pa_nil)))))
      (Evl.pss_cut (ps_if (pt_cmpR op_eq (pe_callD D__law_draw (hr.mono (by decide)) (pa_cons (pv 1) (pa_cons pe_int pa_nil))) pe_int (nomark _))
      (pss_cons (ps_set (i := 2) sc_law.nd rfl (Or.inl rfl) (pe_op op_add pe_int (pe_callD D__law_draw (hr.mono (by decide)) (pa_cons (pv 1) (pa_cons pe_int pa_nil)))))
        (pss_one (ps_set (i := 3) sc_law.nd rfl (Or.inl rfl) (pe_op op_add pe_int (pe_callD D__law_draw (hr.mono (by decide)) (pa_cons (pv 1) (pa_cons pe_int pa_nil)))))))
      pss_nil)
      (pss_cons (ps_set (i := 4) sc_law.nd rfl (Or.inl rfl) (pe_callD D__law_draw (hr.mono (by decide)) (pa_cons (pv 1) (pa_cons pe_int pa_nil))))
      (pss_cons (ps_set (i := 5) sc_law.nd rfl (Or.inl rfl) (pe_op op_mod (pe_callTy call_int1 (by rfl) B.int boot_int (pa_cons (pe_op op_add (pe_op op_add (pv 4) pe_int) (pe_callD D__law_draw (hr.mono (by decide)) (pa_cons (pv 1) (pa_cons pe_int pa_nil)))) pa_nil)) pe_int))
      (pss_cons (ps_set (i := 6) sc_law.nd rfl (Or.inl rfl) (pe_callD D__law_lamp_order (hr.mono (by decide)) (pa_cons (pv 1) (pa_cons (pv 2) pa_nil))))
      (pss_cons (ps_set (i := 7) sc_law.nd rfl (Or.inl rfl) (pe_callD D__law_wires (hr.mono (by decide)) (pa_cons (pv 1) (pa_cons (pv 6) pa_nil))))
      (pss_cons (ps_set (i := 8) sc_law.nd rfl (Or.inl rfl) (pe_mkD MK_House (hr.mono (by decide)) G_House (pa_cons (pv 2) (pa_cons (pv 3) (pa_cons (pe_callD D__law_passed (hr.mono (by decide)) (pa_cons (pv 1) (pa_cons (pv 7) pa_nil))) pa_nil)))))
      (pss_cons (ps_set (i := 9) sc_law.nd rfl (Or.inl rfl) (pe_callD D__law_direct (hr.mono (by decide)) (pa_cons (pv 2) (pa_cons (pv 7) pa_nil))))
      (pss_cons (ps_set (i := 10) sc_law.nd rfl (Or.inl rfl) (pe_callD D__law_beneath (hr.mono (by decide)) (pa_cons (pv 9) (pa_cons (pv 6) pa_nil))))
      (pss_cons (ps_set (i := 11) sc_law.nd rfl (Or.inl rfl) (pe_callD D__law_order (hr.mono (by decide)) (pa_cons (pv 10) pa_nil)))
      (pss_cons (ps_setLc (i := 12) (own := [("_law_lamp", 13)]) (g := gName 13) (tt := tYes) rfl sc_law.nd rfl rfl (sw_true rfl rfl rfl (by decide +kernel)) (pi_list (pv 6)) (blkOk_by (own := [("_law_lamp", 13)]) (N := ["_law_script", "_law_box", "_law_count", "_law_hues", "_law_way", "_law_other", "_law_lamps", "_law_wires_here", "_law_house", "_law_direct_here", "_law_beneath_here", "_law_order_here", "_law_sizes", "_law_lamp"]) (sc := defScope s_law) (by decide +kernel)) (fun _ _ _ _ _ => by exact (pg_name (i := 13) sc_law.nd rfl (Or.inl rfl))) (fun _ _ _ _ _ => by exact pts_nil) (fun _ _ _ _ _ => by exact (pe_op op_add pe_int (pe_callD D__law_draw (hr.mono (by decide)) (pa_cons (pv 1) (pa_cons pe_int pa_nil))))))
      (pss_cons (ps_if (pt_not (pt_val (pe_callD D__law_rule_fits (hr.mono (by decide)) (pa_cons (pv 1) (pa_cons (pv 4) (pa_cons (pv 8) (pa_cons (pv 9) (pa_cons (pv 10) (pa_cons (pv 11) (pa_cons (pv 12) pa_nil))))))))))
      (pss_one (ps_ret pe_bl))
      pss_nil)
      (pss_one (ps_ret (pe_callD D__law_rule_fits (hr.mono (by decide)) (pa_cons (pv 1) (pa_cons (pv 5) (pa_cons (pv 8) (pa_cons (pv 9) (pa_cons (pv 10) (pa_cons (pv 11) (pa_cons (pv 12) pa_nil)))))))))))))))))))))))), ?_⟩
    refine ⟨_, rfl, a, ns, rfl, hS, hl, fun b c H1 nb e1 b1 => ?_⟩
    refine ⟨_, rfl, b, c, _, rfl, b1, by decide, by decide, fun r2 H2 r20 r21 b2 e2 => ⟨_, _, rfl, rfl, ?_⟩⟩
    refine ⟨_, rfl, b, c, _, rfl, b2, by decide, by decide, fun r3 H3 r30 r31 b3 e3 => ⟨_, _, rfl, rfl, ?_⟩⟩
    refine ⟨fun σ' H' => ∃ (n : Nat) (hues : Int), 1 ≤ n ∧ n ≤ 16 ∧ 2 ≤ hues ∧ hues ≤ 10 ∧ Box H' b c ∧ σ' = [some (.ref a), some (.ref b), some (.int (n : Int)), some (.int hues), none, none, none, none, none, none, none, none, none, none], ?_, ?_⟩
    · refine ⟨_, rfl, b, c, _, rfl, b3, by decide, by decide, fun z H4 _ _ b4 e4 => ⟨rfl, _, rfl, ite2 (fun h => ?_) (fun h => ?_)⟩⟩
      · refine ⟨_, rfl, b, c, _, rfl, b4, by decide, by decide, fun r5 H5 r50 r51 b5 e5 => ⟨_, _, rfl, rfl, ?_⟩⟩
        refine ⟨_, rfl, b, c, _, rfl, b5, by decide, by decide, fun r6 H6 r60 r61 b6 e6 => ⟨_, _, rfl, rfl, ?_⟩⟩
        refine ⟨(7 + r5).toNat, 2 + r6, by omega, by omega, by omega, by omega, b6, ?_⟩
        rw [show (((7 + r5).toNat : Nat) : Int) = 7 + r5 by omega]
        rfl
      · refine ⟨(1 + r2).toNat, 2 + r3, by omega, by omega, by omega, by omega, b4, ?_⟩
        rw [show (((1 + r2).toNat : Nat) : Int) = 1 + r2 by omega]
        rfl
    rintro σ' H4 ⟨n, hues, n1, n16, h2, h10, b4, rfl⟩
    clear b1 b2 b3 e2 e3 r20 r21 r30 r31
    refine ⟨_, rfl, b, c, _, rfl, b4, by decide, by decide, fun wz H5 w0 w1 b5 e5 => ?_⟩
    obtain ⟨way, rfl⟩ : ∃ way : Nat, wz = way := ⟨wz.toNat, by omega⟩
    refine ⟨_, rfl, _, _, rfl, rfl, _, rfl, b, c, _, rfl, b5, by decide, by decide, fun oz H6 o0 o1 b6 e6 => ⟨_, _, rfl, rfl, .inl ⟨_, rfl, _, _, rfl, rfl, (show (0 : Int) < 7 by decide), ?_⟩⟩⟩
    obtain ⟨oth, ho, ho6⟩ : ∃ oth : Nat, ((way : Int) + 1 + oz) % 7 = oth ∧ oth ≤ 6 := ⟨(((way : Int) + 1 + oz) % 7).toNat, by omega, by omega⟩
    change tSeq _ _ _ (List.set _ 5 (some (V.int (((way : Int) + 1 + oz) % 7)))) _
    rw [ho]
    -- the lamps, the wires
    refine ⟨_, rfl, _, rfl, b, c, n, rfl, b6, n16, fun pl lamps H7 npl b7 e7 hpl hperm => ?_⟩
    have plb : pl ≠ b := (b6.ne npl).1
    have ln : lamps.length = n := by have := hperm.length_eq; rwa [List.length_range] at this
    refine ⟨_, rfl, _, rfl, b, c, pl, lamps, rfl, b7, plb, hpl, hperm.nodup_iff.mpr List.nodup_range, by omega, fun pw rs ps H8 npw b8 e8 hpw wp rl wk => ?_⟩
    have pwb : pw ≠ b := (b7.ne npw).1
    have hpl8 := e8 _ _ (b7.nums hpl)
    have dg := wk.dag hperm
    -- the house
    refine ⟨_, rfl, _, rfl, _, rfl, _, rfl, b, c, pw, rs.map V.ref, rfl, b8, pwb, hpw, fun pp ys H9 npp b9 e9 hpp hys x dx nx ndx hne => ?_⟩
    have hpl9 := e9 _ _ (b8.nums hpl8)
    have hpw9 := e9 _ _ (b8.refs hpw)
    have wp9 := (b8.wp wp).mono e9
    obtain ⟨rs', ps', rfl, wp', hpm, rl'⟩ : ∃ rs' ps', ys = rs'.map V.ref ∧ WPrs H9 rs' ps' ∧ ps'.Perm ps ∧ rs'.length ≤ 300 := by
      rcases hys with rfl | rfl
      · exact ⟨rs, ps, rfl, wp9, .refl _, rl⟩
      · exact ⟨rs.reverse, ps.reverse, by rw [List.map_reverse], wp9.rev, List.reverse_perm _, by rw [List.length_reverse]; exact rl⟩
    have eX : Ex H9 (upd (upd H9 dx (.own x)) x (.ins CH dx [])) := (Ex.new ndx).trans (Ex.new (by rw [upd_ne hne.symm]; exact nx))
    have mem : ∀ q, q ∈ ps' ↔ q ∈ ps := fun q => hpm.mem_iff
    have key : ∃ bb : Bool, if bb = true then (upd (upd H9 dx (.own x)) x (.ins CH dx [])) pp = some (.lst (rs'.map V.ref)) else (upd (upd H9 dx (.own x)) x (.ins CH dx [])) pp = some (.tup (rs'.map V.ref)) := by
      rcases hpp with hpp | hpp
      · exact ⟨true, eX _ _ hpp⟩
      · exact ⟨false, eX _ _ hpp⟩
    obtain ⟨bb, hbb⟩ := key
    refine ⟨x, pp, dx, n, hues, bb, rs', ps', rfl, upd_same, n1, n16, h2, h10, hbb, wp'.mono eX, rl', dg.perm hpm, fun Bn Dn On H10 e10 hse RB RD mB mD pO lO => ⟨rfl, ?_⟩⟩
    have e910 : Ex H9 H10 := (ex_make nx ndx).trans e10
    have b10 := b9.mono e910
    -- the law's own rows and order
    refine ⟨_, rfl, _, rfl, n, pw, rs, ps, rfl, e910 _ _ hpw9, wp9.mono e910, dg, rl, n16, fun pd H11 npd e11 hd => ?_⟩
    refine ⟨_, rfl, _, rfl, n, pd, pl, lamps, ps, rfl, hd, e11 _ _ (e910 _ _ hpl9), hperm, wk, n16, fun pb Bl H12 npb e12 hb RBl mBl => ?_⟩
    refine ⟨_, rfl, n, pb, Bl, ps, rfl, hb, RBl, mBl, dg, n16, fun po Ol H13 npo e13 hpo pOl lOl => ?_⟩
    have e1013 := (e11.trans e12).trans e13
    have b13 := b10.mono e1013
    have hse13 := hse.mono e1013
    have hd13 := hd.mono (e12.trans e13)
    have hb13 := hb.mono e13
    have hpl13 := e1013 _ _ (e910 _ _ hpl9)
    have mB' : ∀ u, u < n → ∀ v, v ∈ row Bn u ↔ Pth ps u v := fun u hu v => (mB u hu v).trans ⟨fun z => z.mono fun q hq => (mem q).mp hq, fun z => z.mono fun q hq => (mem q).mpr hq⟩
    have mD' : ∀ u, u < n → ∀ v, v ∈ row Dn u ↔ (u, v) ∈ ps := fun u hu v => (mD u hu v).trans (mem _)
    have eB : Bl = Bn := Rows.uniq RBl RB fun u hu v => (mBl u hu v).trans (mB' u hu v).symm
    have eD : rowsOf n (fun u v => decide ((u, v) ∈ ps)) = Dn := Rows.uniq rows_rowsOf RD fun u hu v => by
      rw [row_rowsOf hu, List.mem_filter, List.mem_range, decide_eq_true_eq, mD' u hu v]
      exact ⟨fun z => z.2, fun z => ⟨(dg.lt _ z).2, z⟩⟩
    rw [eB] at hb13
    rw [eD] at hd13
    have pO' : Pre n ps On := K57.Pre.ext pO fun q hq => (mem q).mpr hq
    clear hb hd mB mD pO eB eD mBl RBl
    -- the sizes
    refine q_drawL (fun _ z => 2 ≤ z ∧ z ≤ 10) b13 (ev_var rfl) (b13.nums hpl13) (by rw [vn_len]; omega) (fun _ => rfl) (fun i y hi => fun H14 b14 e14 Q q => ?_) fun sa zs H14 nsa b14 e14 hsa hlz hgz => ?_
    · exact ⟨_, rfl, b, c, _, rfl, b14, by decide, by decide, fun r H15 r0 r1 b15 e15 => ⟨_, _, rfl, rfl, q (2 + r) H15 ⟨by omega, by omega⟩ b15 ((exh e14).trans e15) e15⟩⟩
    rw [vn_len, ln] at hlz hgz
    have sab : sa ≠ b := (b13.ne nsa).1
    have S : Site CH (hid b H14) x pd pb po sa n hues Bn Dn On Ol ps zs :=
      ⟨n1, n16, h2, h10, (b13.hse hse13).mono (exh e14), (b13.ll hd13).mono (exh e14), (b13.ll hb13).mono (exh e14), exh e14 _ _ (b13.nums hpo), by rw [hid_ne sab]; exact hsa, hlz, hgz, RB, RD, mB', mD', pO', lO, pOl, lOl⟩
    refine ⟨_, rfl, _, rfl, _, rfl, _, rfl, _, rfl, _, rfl, _, rfl, b, c, x, pd, pb, po, sa, way, n, hues, Bn, Dn, On, Ol, ps, zs, rfl, by omega, b14, S, fun H15 b15 e15 => ⟨_, rfl, iteF ?_⟩⟩
    exact ⟨_, rfl, _, rfl, _, rfl, _, rfl, _, rfl, _, rfl, _, rfl, b, c, x, pd, pb, po, sa, oth, n, hues, Bn, Dn, On, Ol, ps, zs, rfl, ho6, b15, S.mono (exh e15), fun H16 b16 e16 => kk H16⟩
end
end K57

set_option Elab.async false
set_option linter.all false
set_option maxRecDepth 100000
set_option maxHeartbeats 4000000
namespace K57
open PySem PySem.Spec PyProof.Rows L2 He
abbrev Pg : Program := PySem.Challenge.pw_huefall_k57_whole_worth_of_every_rule
abbrev Says (K : PySem.W.Frag) : Prop := SaysK file0 fa_ ex_ fn_ fs_ K
section
variable {K : PySem.W.Frag} {h : Heap} {mg : Str → Option Value} {w : World} {base : Heap} {x qual : Str} {st : Stmt} {ps : List Str}
theorem says_b (c : Says K) : ((fa_.all fun f => f.ok K) && ex_.all fun g => g K) = true ∧ ((fn_.all fun d => d.ok K) && fs_.all fun d => d.ok file0 K) = true := ba (congrArg (fun z : AlK => z.1) c)
theorem says_fact (c : Says K) (i : Nat) {f : Fa} (e : fa_[i]? = some f) : f.ok K = true := List.all_eq_true.mp (ba (says_b c).1).1 f (List.mem_of_getElem? e)
theorem says_ex (c : Says K) (i : Nat) {g : PySem.W.Frag → Bool} (e : ex_[i]? = some g) : g K = true := List.all_eq_true.mp (ba (says_b c).1).2 g (List.mem_of_getElem? e)
theorem says_def (c : Says K) (i : Nat) {d : DefD} (e : fn_[i]? = some d) : ∃ fd, FunD K d.name d.qual d.params d.body d.scope (d.dvs K) (d.kws K) (fAd K d.at_) fd := by
  have c2 := (ba (says_b c).2).1
  have e1 : fn_.map (fun d => fnW K d.at_) = fn_.map DefD.val := congrArg (fun z : AlK => z.2.1) c
  have e2 : (fn_.map fun d => fnW K d.at_)[i]? = (fn_.map DefD.val)[i]? := by rw [e1]
  rw [List.getElem?_map, List.getElem?_map, e] at e2
  exact DefD.funD (Option.some.inj e2) (List.all_eq_true.mp c2 d (List.mem_of_getElem? e))
theorem says_sup (c : Says K) (i : Nat) {d : SupD} (e : fs_[i]? = some d) : fnC K d.at_ = d.val ∧ d.ok file0 K = true := by
  have c2 := (ba (says_b c).2).2
  have e1 : fs_.map (fun d => fnC K d.at_) = fs_.map SupD.val := congrArg (fun z : AlK => z.2.2) c
  have e2 : (fs_.map fun d => fnC K d.at_)[i]? = (fs_.map SupD.val)[i]? := by rw [e1]
  rw [List.getElem?_map, List.getElem?_map, e] at e2
  exact ⟨Option.some.inj e2, List.all_eq_true.mp c2 d (List.mem_of_getElem? e)⟩
abbrev BindN (x qual : Str) (st : Stmt) (ps : List Str) : Prop := ∀ (kV doc pm : Value) (an : Option Addr) (cdv ct : Value) (us : List Value), us.length = ps.length → bindArgs (PySem.W.fnOf x qual (defArgs st) (defBody st) (defScope st) .none kV doc pm an cdv ct) ⟨us, []⟩ = pure (ps.zip us)
theorem defIs {y : Str} (c : Says K) (X : K.In h) (G : h.Ns mainGlobals mg) (i j : Nat) (hd : fn_[i]? = some ⟨(y, none), x, x, defArgs st, defBody st, defScope st, [], []⟩) (hf : fa_[j]? = some (.glo y)) (hb : BindN x x st ps) : DefIs K mg y x st ps := by
  obtain ⟨fd, F⟩ := says_def c i hd
  exact ⟨_, fd, glo_ok X G (says_fact c j hf), F, F.bindsN hb⟩
theorem meth_of {X m Y : Str} (e : methB X m Y K = true) : Meth K (ga K X) m (fAd K (Y, some m)) := by
  obtain ⟨c1, c2⟩ := ba e
  obtain ⟨c3, c4⟩ := ba c2
  exact ⟨eqO_ok c1, c3, c4⟩
theorem mk_of {X Y : Str} (e : mkB X Y K = true) : Mk K (ga K X) (fAd K (Y, some "__init__")) := by
  obtain ⟨c1, c2⟩ := ba e
  obtain ⟨c3, c4⟩ := ba c2
  obtain ⟨c5, c6⟩ := ba c4
  exact ⟨c1, eqO_ok c3, c5, c6⟩
theorem supM_of {X D m Y : Str} (e : supMB X D m Y K = true) : SupM K (ga K X) (ga K D) m (fAd K (Y, some m)) := by
  obtain ⟨c1, c2⟩ := ba e
  obtain ⟨c3, c4⟩ := ba c2
  obtain ⟨c5, c6⟩ := ba c4
  exact ⟨of_decide_eq_true c1, eqO_ok c3, of_decide_eq_true c5, c6⟩
theorem methIs {X m Y : Str} (c : Says K) (i j : Nat) (hd : fn_[i]? = some ⟨(Y, some m), x, qual, defArgs st, defBody st, defScope st, [], []⟩) (hf : ex_[j]? = some (methB X m Y)) (hb : BindN x qual st ps) : MethIs K (ga K X) m x qual st ps := by
  obtain ⟨fd, F⟩ := says_def c i hd
  exact ⟨_, fd, meth_of (says_ex c j hf), F, F.bindsN hb⟩
theorem fnAt {R : Addr → Prop} {m Y : Str} (c : Says K) (i : Nat) (hd : fn_[i]? = some ⟨(Y, some m), x, qual, defArgs st, defBody st, defScope st, [], []⟩) (hR : R (fAd K (Y, some m))) (hb : BindN x qual st ps) : FnAt R K x qual st ps := by
  obtain ⟨fd, F⟩ := says_def c i hd
  exact ⟨_, fd, _, _, hR, F, F.bindsN hb⟩
theorem fileB_ok {f0 : Str} {cda : Addr} (e : fileB f0 K cda = true) : ∃ ccl cdd vs ccs file tf, K.lookup cda = some ⟨ccl, cdd, .fields vs, ccs⟩ ∧ vs[2]? = some (.str file tf) ∧ (f0 == file) = true := by
  unfold fileB at e
  split at e
  · rename_i ccl cdd vs ccs q
    split at e
    · rename_i file tf q2
      exact ⟨ccl, cdd, vs, ccs, file, tf, q, q2, e⟩
    · cases e
  · cases e
theorem cellB_ok {cc D : Addr} (e : cellB K cc D = true) : ∃ cl cld csl, K.lookup cc = some ⟨cl, cld, .cell (some (.ref D)), csl⟩ := by
  unfold cellB at e
  split at e
  · rename_i cl cld E csl q
    have := of_decide_eq_true e
    subst this
    exact ⟨cl, cld, csl, q⟩
  · cases e
theorem supFd_ok {f0 : Str} {D : Addr} {fd : FuncData} (e : supFd f0 K qual D fd = true) : ∃ cc cda, fd.closure = [(("__class__" : Str), cc)] ∧ fd.code = .ref cda ∧ fd.defaults = .none ∧ PySem.W.codeIn K (.ref cda) qual = true ∧ fileB f0 K cda = true ∧ cellB K cc D = true := by
  unfold supFd at e
  split at e
  · rename_i n cc q1
    split at e
    · rename_i cda q2
      split at e
      · rename_i q3
        obtain ⟨c1, c2⟩ := ba e
        obtain ⟨c3, c4⟩ := ba c2
        obtain ⟨c5, c6⟩ := ba c4
        have en : n = "__class__" := eq_of_beq c1
        subst en
        exact ⟨cc, cda, q1, q2, q3, c3, c5, c6⟩
      · cases e
    · cases e
  · cases e
theorem supIs {R : Addr → Prop} {m Y : Str} (c : Says K) (X : K.In h) (G : h.Ns mainGlobals mg) (i : Nat) (hd : fs_[i]? = some ⟨(Y, some m), x, qual, st, Y⟩) (hR : R (fAd K (Y, some m))) (hcls : clsB Y K = true) (hopq : opqB K = true) (hsup : mg "super" = none)
    (hb : ∀ (cc cda : Addr) (kV doc pm : Value) (an : Option Addr) (ct : Value) (us : List Value), us.length = ps.length → bindArgs (PySem.W.fnX x qual (defArgs st) (defBody st) (defScope st) [("__class__", cc)] .none kV doc pm an (.ref cda) ct) ⟨us, []⟩ = pure (ps.zip us))
    (ks : (defScope st).names.lookup ("super" : Str) = some .globalImplicit) (a0 : ∃ ar, ((defArgs st).posonlyargs ++ (defArgs st).args).head? = some ar ∧ ps[0]? = some ar.arg) : SupIs R Pg K mg (ga K Y) x qual st ps := by
  obtain ⟨e, o⟩ := says_sup c i hd
  dsimp only at e o
  unfold SupD.ok at o
  unfold fnC at e
  dsimp only [SupD.val] at e o
  split at o
  · rename_i oc od fd osl q
    rw [q] at e
    obtain ⟨cc, cda, q1, q2, q3, q4, q5, q6⟩ := supFd_ok o
    obtain ⟨n1, n2, n3, n4, n5, n6, n7, n8, n9, n10, n11, n12, n13, n14, n15⟩ := fd
    dsimp only at q1 q2 q3 e
    subst q1 q2 q3
    simp only [Option.some.injEq, Prod.mk.injEq] at e
    obtain ⟨h1, h2, h3, h4, h5, h6, h7⟩ := e
    subst h1 h2 h3 h4 h5 h6 h7
    obtain ⟨ccl, cdd, vs, ccs, file, tf, p1, p2, p3⟩ := fileB_ok q5
    obtain ⟨cl, cld, csl, p4⟩ := cellB_ok q6
    exact ⟨⟨_, cda, cc, oc, ccl, cl, od, cdd, cld, osl, ccs, csl, n9, n10, n11, n14, n12, vs, file, tf, hR, .all (hb cc cda n9 n10 n11 n12 n14), q, q4, p1, p2, p3, p4⟩, Option.isSome_iff_exists.mp hcls, hsup, by decide +kernel, eqO_ok hopq, ks, a0⟩
  · cases o
end

section
variable {K : PySem.W.Frag} {h : Heap} {mg : Str → Option Value} {w : World} {base : Heap}
theorem bi_of (c : Says K) (X : K.In h) (G : h.Ns mainGlobals mg) : Bi mg := ⟨free_ok X G (says_fact c 46 rfl), free_ok X G (says_fact c 47 rfl), free_ok X G (says_fact c 48 rfl), free_ok X G (says_fact c 49 rfl), free_ok X G (says_fact c 50 rfl), free_ok X G (says_fact c 51 rfl), free_ok X G (says_fact c 52 rfl), free_ok X G (says_fact c 53 rfl), free_ok X G (says_fact c 54 rfl), free_ok X G (says_fact c 55 rfl), free_ok X G (says_fact c 56 rfl), free_ok X G (says_fact c 57 rfl), free_ok X G (says_fact c 58 rfl), free_ok X G (says_fact c 59 rfl), free_ok X G (says_fact c 60 rfl)⟩
theorem ht_of (c : Says K) : HTxt K (ga K "House") := ⟨cls_ok (says_fact c 63 rfl), noat_ok (says_fact c 71 rfl), noat_ok (says_fact c 72 rfl), noat_ok (says_fact c 73 rfl), noat_ok (says_fact c 74 rfl), noat_ok (says_fact c 75 rfl), noat_ok (says_fact c 76 rfl), noat_ok (says_fact c 77 rfl), noat_ok (says_fact c 78 rfl), noat_ok (says_fact c 79 rfl)⟩
theorem cval_of {X f : Str} {i : Int} (e : cvalB X f i K = true) : ∃ u, ClX.CVal K (ga K X) (.type "type") f (.int i) u := by
  unfold cvalB at e
  split at e
  · rename_i j t q
    have := of_decide_eq_true e
    subst this
    exact ⟨_, q, t, rfl⟩
  · cases e
theorem hc_of (c : Says K) : HCls K (ga K "House") := by
  obtain ⟨u1, h1⟩ := cval_of (says_ex c 171 rfl)
  obtain ⟨u2, h2⟩ := cval_of (says_ex c 172 rfl)
  obtain ⟨c1, c2⟩ := ba (says_ex c 170 rfl)
  exact ⟨_, u1, u2, ⟨c1, eqO_ok c2⟩, h1, h2⟩
theorem hi_of (c : Says K) : HIs K (ga K "House") := by
  obtain ⟨c1, c⟩ := ba (says_ex c 169 rfl)
  obtain ⟨c2, c⟩ := ba c
  obtain ⟨c3, c⟩ := ba c
  obtain ⟨c4, c5⟩ := ba c
  exact ⟨eqO_ok c1, eqO_ok c2, of_decide_eq_true c3, of_decide_eq_true c4, of_decide_eq_true c5⟩
theorem kt0_of (c : Says K) : KTxt K (ga K "Kin") := ⟨cls_ok (says_fact c 64 rfl), noat_ok (says_fact c 80 rfl), noat_ok (says_fact c 81 rfl), noat_ok (says_fact c 82 rfl)⟩
theorem kt1_of (c : Says K) : KTxt K (ga K "CarefulKin") := ⟨cls_ok (says_fact c 65 rfl), noat_ok (says_fact c 83 rfl), noat_ok (says_fact c 84 rfl), noat_ok (says_fact c 85 rfl)⟩
theorem kt2_of (c : Says K) : KTxt K (ga K "WiredKin") := ⟨cls_ok (says_fact c 66 rfl), noat_ok (says_fact c 86 rfl), noat_ok (says_fact c 87 rfl), noat_ok (says_fact c 88 rfl)⟩
theorem kt3_of (c : Says K) : KTxt K (ga K "CarefulWiredKin") := ⟨cls_ok (says_fact c 67 rfl), noat_ok (says_fact c 89 rfl), noat_ok (says_fact c 90 rfl), noat_ok (says_fact c 91 rfl)⟩
theorem kt4_of (c : Says K) : KTxt K (ga K "GainKin") := ⟨cls_ok (says_fact c 68 rfl), noat_ok (says_fact c 92 rfl), noat_ok (says_fact c 93 rfl), noat_ok (says_fact c 94 rfl)⟩
theorem kt5_of (c : Says K) : KTxt K (ga K "CoinKin") := ⟨cls_ok (says_fact c 69 rfl), noat_ok (says_fact c 95 rfl), noat_ok (says_fact c 96 rfl), noat_ok (says_fact c 97 rfl)⟩
theorem kt6_of (c : Says K) : KTxt K (ga K "MixedKin") := ⟨cls_ok (says_fact c 70 rfl), noat_ok (says_fact c 98 rfl), noat_ok (says_fact c 99 rfl), noat_ok (says_fact c 100 rfl)⟩
/-- the text's own defs that the rules and the house use -/
structure Base (w : World) (K : PySem.W.Frag) (mg : Str → Option Value) (base : Heap) (CH : Addr) : Prop where
  isint : DefOk Pg w K mg base "is_integer" 1 ["value"] sp_isint
  need : DefOk Pg w K mg base "need_lamp" 3 ["house", "value"] (sp_chk CH)
  isst : DefOk Pg w K mg base "is_state_states" 2 ["house", "value"] (sp_isstate CH)
  beneath : MethOk Pg w K mg base CH "beneath" 4 ["self", "lamp"] [] (sp_row CH false)
  direct : MethOk Pg w K mg base CH "direct" 4 ["self", "lamp"] [] (sp_row CH true)
  order : MethOk Pg w K mg base CH "order" 1 ["self"] [] (sp_order CH)
  eq_ : MethOk Pg w K mg base CH "__eq__" 2 ["self", "other"] [] (spEq (REq CH))
  mkH : FnAtOk (Mk K CH) Pg w K mg base 4 ["self", "count", "hues", "wires"] (sp_hinit CH)
theorem hinit_at (c : Says K) : FnAt (Mk K (ga K "House")) K "__init__" "House.__init__" s_House___init__ ["self", "count", "hues", "wires"] := by
  obtain ⟨fd, F⟩ := says_def c 38 rfl
  obtain ⟨ds, hv, hb⟩ := F.binds1 (ps := ["self", "count", "hues", "wires"]) 4 1 (List.cons_ne_nil _ _) rfl (fun T kV doc pm an cdv ct us its hu hi => match us, its, hu, hi with | [_, _, _, _], [_], _, _ => ⟨_, rfl, rfl⟩)
  have e : ds = [] := by cases hv; rfl
  subst e
  exact ⟨_, fd, _, _, (mk_of (says_ex c 4 rfl)), F, hb⟩
theorem base_of (c : Says K) (X : K.In h) (G : h.Ns mainGlobals mg) : Base w K mg base (ga K "House") := by
  have hB := bi_of c X G
  have TH := ht_of c
  have G_House : mg "House" = some (.ref (ga K "House")) := glo_ok X G (says_fact c 38 rfl)
  have isint := d_is_integer (P := Pg) (w := w) (base := base) hB (defIs (y := "is_integer") (st := s_is_integer) (ps := ["value"]) c X G 0 0 rfl rfl (fun _ _ _ _ _ _ us hl => match us, hl with | [_], _ => rfl))
  have islamp := d_is_lamp TH isint (defIs (y := "is_lamp") (st := s_is_lamp) (ps := ["house", "value"]) c X G 1 1 rfl rfl (fun _ _ _ _ _ _ us hl => match us, hl with | [_, _], _ => rfl))
  have chk := d__check_lamp islamp (defIs (y := "_check_lamp") (st := s__check_lamp) (ps := ["house", "value"]) c X G 3 3 rfl rfl (fun _ _ _ _ _ _ us hl => match us, hl with | [_, _], _ => rfl))
  have need := d_need_lamp islamp (defIs (y := "need_lamp") (st := s_need_lamp) (ps := ["house", "value"]) c X G 9 9 rfl rfl (fun _ _ _ _ _ _ us hl => match us, hl with | [_, _], _ => rfl))
  have isst := d_is_state hB TH isint (defIs (y := "is_state_states") (st := s_is_state) (ps := ["house", "value"]) c X G 8 8 rfl rfl (fun _ _ _ _ _ _ us hl => match us, hl with | [_, _], _ => rfl))
  have bits := d_bits (P := Pg) (w := w) (base := base) hB (defIs (y := "bits") (st := s_bits) (ps := ["mask"]) c X G 2 2 rfl rfl (fun _ _ _ _ _ _ us hl => match us, hl with | [_], _ => rfl))
  have iswire := d_is_wire hB isint (defIs (y := "_is_wire") (st := s__is_wire) (ps := ["count", "value"]) c X G 4 4 rfl rfl (fun _ _ _ _ _ _ us hl => match us, hl with | [_, _], _ => rfl))
  have join := d_join hB iswire (defIs (y := "_join_wires") (st := s__join_wires) (ps := ["count", "wires"]) c X G 5 5 rfl rfl (fun _ _ _ _ _ _ us hl => match us, hl with | [_, _], _ => rfl))
  have turn := d_turn hB bits (defIs (y := "_turn_round") (st := s__turn_round) (ps := ["below"]) c X G 6 6 rfl rfl (fun _ _ _ _ _ _ us hl => match us, hl with | [_], _ => rfl))
  have olist := d_olist (P := Pg) (w := w) (base := base) hB (defIs (y := "_order_list") (st := s__order_list) (ps := ["masks"]) c X G 7 7 rfl rfl (fun _ _ _ _ _ _ us hl => match us, hl with | [_], _ => rfl))
  exact ⟨isint, need, isst, m_beneath hB TH chk (methIs (X := "House") (st := s_House_beneath) (ps := ["self", "lamp"]) c 40 0 rfl rfl (fun _ _ _ _ _ _ us hl => match us, hl with | [_, _], _ => rfl)), m_direct hB TH chk (methIs (X := "House") (st := s_House_direct) (ps := ["self", "lamp"]) c 41 1 rfl rfl (fun _ _ _ _ _ _ us hl => match us, hl with | [_, _], _ => rfl)), m_order hB TH (methIs (X := "House") (st := s_House_order) (ps := ["self"]) c 42 2 rfl rfl (fun _ _ _ _ _ _ us hl => match us, hl with | [_], _ => rfl)), m_eq hB TH (hi_of c) G_House (methIs (X := "House") (st := s_House___eq__) (ps := ["self", "other"]) c 39 3 rfl rfl (fun _ _ _ _ _ _ us hl => match us, hl with | [_, _], _ => rfl)), m_hinit hB TH (hc_of c) G_House isint bits join turn olist (hinit_at c)⟩
theorem runIs {X : Str} (c : Says K) (j : Nat) (hf : ex_[j]? = some (methB X "run" "Kin")) : RunIs K (ga K X) := by
  obtain ⟨fd, F⟩ := says_def c 56 rfl
  obtain ⟨ds, hv, hb⟩ := F.binds0 (ps := ["self", "source", "target", "limit"]) 3 (List.cons_ne_nil _ _) rfl (fun D doc pm an cdv ct us ks hu hk => match us, ks, hu, hk with | [_, _, _], [_], _, _ => ⟨_, _, _, _, _, _, rfl, rfl, rfl⟩)
  exact ⟨_, fd, _, ds, meth_of (says_ex c j hf), F, hv, hb⟩
theorem lab_of {X f : Str} {z : Str} (hf : PySem.W.copiedNames.contains f = false) (e : conB K X f (.str z) = true) : ∃ u, Con K (ga K X) f (.str z) u := conB_ok (v := .str z) e hf
theorem rule0_of (c : Says K) (X : K.In h) (G : h.Ns mainGlobals mg) (b : Base w K mg base (ga K "House")) : RuleOk Pg w K mg base (ga K "House") (ga K "Kin") 0 := by
  have hB := bi_of c X G
  have TH := ht_of c
  have T := kt0_of c
  have need_lamp := m_need_lamp (way := 0) T b.need (methIs (X := "Kin") (st := s_Kin__need_lamp) (ps := ["self", "lamp"]) c 58 19 rfl rfl (fun _ _ _ _ _ _ us hl => match us, hl with | [_, _], _ => rfl))
  have turned := m_turned TH T (way := 0) (by decide) b.beneath (methIs (X := "Kin") (st := s_Kin_turned) (ps := ["self", "lamp"]) c 44 5 rfl rfl (fun _ _ _ _ _ _ us hl => match us, hl with | [_, _], _ => rfl))
  have factor := m_factor TH T (by decide) need_lamp (methIs (X := "Kin") (st := s_Kin_factor) (ps := ["self", "lamp"]) c 45 6 rfl rfl (fun _ _ _ _ _ _ us hl => match us, hl with | [_, _], _ => rfl))
  have is_state := m_is_state T (way := 0) (by decide) b.isst (methIs (X := "Kin") (st := s_Kin_is_state) (ps := ["self", "value"]) c 46 7 rfl rfl (fun _ _ _ _ _ _ us hl => match us, hl with | [_, _], _ => rfl))
  have need_state := m_need_state T is_state (methIs (X := "Kin") (st := s_Kin__need_state) (ps := ["self", "state"]) c 57 18 rfl rfl (fun _ _ _ _ _ _ us hl => match us, hl with | [_, _], _ => rfl))
  have own := m_own (P := Pg) (w := w) (mg := mg) (base := base) (methIs (X := "Kin") (st := s_Kin__own) (ps := ["self", "hue"]) c 48 9 rfl rfl (fun _ _ _ _ _ _ us hl => match us, hl with | [_, _], _ => rfl))
  have hit := m_hit (P := Pg) (w := w) (mg := mg) (base := base) TH T (way := 0) (by decide) (methIs (X := "Kin") (st := s_Kin__hit) (ps := ["self", "lamp", "hue"]) c 49 10 rfl rfl (fun _ _ _ _ _ _ us hl => match us, hl with | [_, _, _], _ => rfl))
  have turners := m_turners hB TH T turned (methIs (X := "Kin") (st := s_Kin__turners) (ps := ["self", "lamp"]) c 59 20 rfl rfl (fun _ _ _ _ _ _ us hl => match us, hl with | [_, _], _ => rfl))
  have lit := m_lit T turned (methIs (X := "Kin") (st := s_Kin__lit_turned) (ps := ["self", "state", "lamp"]) c 60 21 rfl rfl (fun _ _ _ _ _ _ us hl => match us, hl with | [_, _, _], _ => rfl))
  have moved := m_moved hB T turned own hit (methIs (X := "Kin") (st := s_Kin__moved) (ps := ["self", "state", "lamp"]) c 61 22 rfl rfl (fun _ _ _ _ _ _ us hl => match us, hl with | [_, _, _], _ => rfl))
  have weights := m_weights hB TH T b.order turned factor (methIs (X := "Kin") (st := s_Kin__weights) (ps := ["self"]) c 63 24 rfl rfl (fun _ _ _ _ _ _ us hl => match us, hl with | [_], _ => rfl))
  have worth := m_worth hB TH T need_state weights (methIs (X := "Kin") (st := s_Kin_worth) (ps := ["self", "state"]) c 55 16 rfl rfl (fun _ _ _ _ _ _ us hl => match us, hl with | [_, _], _ => rfl))
  have greatest := m_greatest hB TH T b.order need_state turners factor (methIs (X := "Kin") (st := s_Kin_greatest) (ps := ["self", "source", "target"]) c 53 14 rfl rfl (fun _ _ _ _ _ _ us hl => match us, hl with | [_, _, _], _ => rfl))
  have reaches := m_reaches hB T greatest (methIs (X := "Kin") (st := s_Kin_reaches) (ps := ["self", "source", "target"]) c 54 15 rfl rfl (fun _ _ _ _ _ _ us hl => match us, hl with | [_, _, _], _ => rfl))
  have allowed := (m_allowed T need_state need_lamp (fnAt (st := s_Kin_allowed) (ps := ["self", "state", "lamp"]) c 47 rfl (meth_of (says_ex c 8 rfl)) (fun _ _ _ _ _ _ us hl => match us, hl with | [_, _, _], _ => rfl))).meth
  have refuse := (m_refuse (P := Pg) (w := w) (mg := mg) (base := base) (CH := ga K "House") (C := ga K "Kin") (way := 0) (fnAt (st := s_Kin__refuse) (ps := ["self", "state", "lamp"]) c 50 rfl (meth_of (says_ex c 11 rfl)) (fun _ _ _ _ _ _ us hl => match us, hl with | [_, _, _], _ => rfl))).meth
  have build := m_build TH T rfl b.order (m_withlamp hB T turners own hit (methIs (X := "Kin") (st := s_Kin__with_lamp) (ps := ["self", "built", "lamp", "hue", "many"]) c 62 23 rfl rfl (fun _ _ _ _ _ _ us hl => match us, hl with | [_, _, _, _, _], _ => rfl))) (methIs (X := "Kin") (st := s_Kin__build) (ps := ["self", "source", "counts"]) c 51 12 rfl rfl (fun _ _ _ _ _ _ us hl => match us, hl with | [_, _, _], _ => rfl))
  have after := m_after T need_state need_lamp (refuse.mono (by decide)) moved (methIs (X := "Kin") (st := s_Kin_after) (ps := ["self", "state", "lamp"]) c 52 13 rfl rfl (fun _ _ _ _ _ _ us hl => match us, hl with | [_, _, _], _ => rfl))
  have run := m_run hB TH T b.order greatest build (runIs c 17 rfl)
  obtain ⟨u, hu⟩ := lab_of (f := "LABEL") (by decide) (says_ex c 152 rfl)
  exact ⟨T, worth, greatest, reaches, run, after, allowed.mono (by decide), is_state, turned, factor, _, u, hu, rfl⟩
theorem rule1_of (c : Says K) (X : K.In h) (G : h.Ns mainGlobals mg) (b : Base w K mg base (ga K "House")) : RuleOk Pg w K mg base (ga K "House") (ga K "CarefulKin") 1 := by
  have hB := bi_of c X G
  have TH := ht_of c
  have T := kt1_of c
  have need_lamp := m_need_lamp (way := 1) T b.need (methIs (X := "CarefulKin") (st := s_Kin__need_lamp) (ps := ["self", "lamp"]) c 58 40 rfl rfl (fun _ _ _ _ _ _ us hl => match us, hl with | [_, _], _ => rfl))
  have turned := m_turned TH T (way := 1) (by decide) b.beneath (methIs (X := "CarefulKin") (st := s_Kin_turned) (ps := ["self", "lamp"]) c 44 26 rfl rfl (fun _ _ _ _ _ _ us hl => match us, hl with | [_, _], _ => rfl))
  have factor := m_factor TH T (by decide) need_lamp (methIs (X := "CarefulKin") (st := s_Kin_factor) (ps := ["self", "lamp"]) c 45 27 rfl rfl (fun _ _ _ _ _ _ us hl => match us, hl with | [_, _], _ => rfl))
  have is_state := m_is_state T (way := 1) (by decide) b.isst (methIs (X := "CarefulKin") (st := s_Kin_is_state) (ps := ["self", "value"]) c 46 28 rfl rfl (fun _ _ _ _ _ _ us hl => match us, hl with | [_, _], _ => rfl))
  have need_state := m_need_state T is_state (methIs (X := "CarefulKin") (st := s_Kin__need_state) (ps := ["self", "state"]) c 57 39 rfl rfl (fun _ _ _ _ _ _ us hl => match us, hl with | [_, _], _ => rfl))
  have own := m_own (P := Pg) (w := w) (mg := mg) (base := base) (methIs (X := "CarefulKin") (st := s_Kin__own) (ps := ["self", "hue"]) c 48 30 rfl rfl (fun _ _ _ _ _ _ us hl => match us, hl with | [_, _], _ => rfl))
  have hit := m_hit (P := Pg) (w := w) (mg := mg) (base := base) TH T (way := 1) (by decide) (methIs (X := "CarefulKin") (st := s_Kin__hit) (ps := ["self", "lamp", "hue"]) c 49 31 rfl rfl (fun _ _ _ _ _ _ us hl => match us, hl with | [_, _, _], _ => rfl))
  have turners := m_turners hB TH T turned (methIs (X := "CarefulKin") (st := s_Kin__turners) (ps := ["self", "lamp"]) c 59 41 rfl rfl (fun _ _ _ _ _ _ us hl => match us, hl with | [_, _], _ => rfl))
  have lit := m_lit T turned (methIs (X := "CarefulKin") (st := s_Kin__lit_turned) (ps := ["self", "state", "lamp"]) c 60 42 rfl rfl (fun _ _ _ _ _ _ us hl => match us, hl with | [_, _, _], _ => rfl))
  have moved := m_moved hB T turned own hit (methIs (X := "CarefulKin") (st := s_Kin__moved) (ps := ["self", "state", "lamp"]) c 61 43 rfl rfl (fun _ _ _ _ _ _ us hl => match us, hl with | [_, _, _], _ => rfl))
  have weights := m_weights hB TH T b.order turned factor (methIs (X := "CarefulKin") (st := s_Kin__weights) (ps := ["self"]) c 63 45 rfl rfl (fun _ _ _ _ _ _ us hl => match us, hl with | [_], _ => rfl))
  have worth := m_worth hB TH T need_state weights (methIs (X := "CarefulKin") (st := s_Kin_worth) (ps := ["self", "state"]) c 55 37 rfl rfl (fun _ _ _ _ _ _ us hl => match us, hl with | [_, _], _ => rfl))
  have greatest := m_greatest hB TH T b.order need_state turners factor (methIs (X := "CarefulKin") (st := s_Kin_greatest) (ps := ["self", "source", "target"]) c 53 35 rfl rfl (fun _ _ _ _ _ _ us hl => match us, hl with | [_, _, _], _ => rfl))
  have reaches := m_reaches hB T greatest (methIs (X := "CarefulKin") (st := s_Kin_reaches) (ps := ["self", "source", "target"]) c 54 36 rfl rfl (fun _ _ _ _ _ _ us hl => match us, hl with | [_, _, _], _ => rfl))
  have sm_a := m_allowed T need_state need_lamp (fnAt (st := s_Kin_allowed) (ps := ["self", "state", "lamp"]) c 47 rfl (supM_of (says_ex c 159 rfl)) (fun _ _ _ _ _ _ us hl => match us, hl with | [_, _, _], _ => rfl))
  have sm_r := m_refuse (P := Pg) (w := w) (mg := mg) (base := base) (CH := ga K "House") (C := ga K "CarefulKin") (way := 1) (fnAt (st := s_Kin__refuse) (ps := ["self", "state", "lamp"]) c 50 rfl (supM_of (says_ex c 160 rfl)) (fun _ _ _ _ _ _ us hl => match us, hl with | [_, _, _], _ => rfl))
  have allowed := (m_allowedC T sm_a lit rfl (supIs (st := s_CarefulKin_allowed) (ps := ["self", "state", "lamp"]) c X G 0 rfl (meth_of (says_ex c 29 rfl)) (says_ex c 165 rfl) (says_ex c 168 rfl) hB.super (fun _ _ _ _ _ _ _ us hl => match us, hl with | [_, _, _], _ => rfl) (by decide +kernel) ⟨_, rfl, rfl⟩)).meth
  have refuse := (m_refuseC T sm_r lit rfl (supIs (st := s_CarefulKin__refuse) (ps := ["self", "state", "lamp"]) c X G 1 rfl (meth_of (says_ex c 32 rfl)) (says_ex c 165 rfl) (says_ex c 168 rfl) hB.super (fun _ _ _ _ _ _ _ us hl => match us, hl with | [_, _, _], _ => rfl) (by decide +kernel) ⟨_, rfl, rfl⟩)).meth
  have build := m_buildC hB T rfl lit moved (methIs (X := "CarefulKin") (st := s_CarefulKin__build) (ps := ["self", "source", "counts"]) c 64 33 rfl rfl (fun _ _ _ _ _ _ us hl => match us, hl with | [_, _, _], _ => rfl))
  have after := m_after T need_state need_lamp (refuse.mono (by decide)) moved (methIs (X := "CarefulKin") (st := s_Kin_after) (ps := ["self", "state", "lamp"]) c 52 34 rfl rfl (fun _ _ _ _ _ _ us hl => match us, hl with | [_, _, _], _ => rfl))
  have run := m_run hB TH T b.order greatest build (runIs c 38 rfl)
  obtain ⟨u, hu⟩ := lab_of (f := "LABEL") (by decide) (says_ex c 153 rfl)
  exact ⟨T, worth, greatest, reaches, run, after, allowed.mono (by decide), is_state, turned, factor, _, u, hu, rfl⟩
theorem rule2_of (c : Says K) (X : K.In h) (G : h.Ns mainGlobals mg) (b : Base w K mg base (ga K "House")) : RuleOk Pg w K mg base (ga K "House") (ga K "WiredKin") 2 := by
  have hB := bi_of c X G
  have TH := ht_of c
  have T := kt2_of c
  have need_lamp := m_need_lamp (way := 2) T b.need (methIs (X := "WiredKin") (st := s_Kin__need_lamp) (ps := ["self", "lamp"]) c 58 61 rfl rfl (fun _ _ _ _ _ _ us hl => match us, hl with | [_, _], _ => rfl))
  have turned := m_turnedW TH T (way := 2) (by decide) b.direct (methIs (X := "WiredKin") (st := s_WiredKin_turned) (ps := ["self", "lamp"]) c 65 47 rfl rfl (fun _ _ _ _ _ _ us hl => match us, hl with | [_, _], _ => rfl))
  have factor := m_factor TH T (by decide) need_lamp (methIs (X := "WiredKin") (st := s_Kin_factor) (ps := ["self", "lamp"]) c 45 48 rfl rfl (fun _ _ _ _ _ _ us hl => match us, hl with | [_, _], _ => rfl))
  have is_state := m_is_state T (way := 2) (by decide) b.isst (methIs (X := "WiredKin") (st := s_Kin_is_state) (ps := ["self", "value"]) c 46 49 rfl rfl (fun _ _ _ _ _ _ us hl => match us, hl with | [_, _], _ => rfl))
  have need_state := m_need_state T is_state (methIs (X := "WiredKin") (st := s_Kin__need_state) (ps := ["self", "state"]) c 57 60 rfl rfl (fun _ _ _ _ _ _ us hl => match us, hl with | [_, _], _ => rfl))
  have own := m_own (P := Pg) (w := w) (mg := mg) (base := base) (methIs (X := "WiredKin") (st := s_Kin__own) (ps := ["self", "hue"]) c 48 51 rfl rfl (fun _ _ _ _ _ _ us hl => match us, hl with | [_, _], _ => rfl))
  have hit := m_hit (P := Pg) (w := w) (mg := mg) (base := base) TH T (way := 2) (by decide) (methIs (X := "WiredKin") (st := s_Kin__hit) (ps := ["self", "lamp", "hue"]) c 49 52 rfl rfl (fun _ _ _ _ _ _ us hl => match us, hl with | [_, _, _], _ => rfl))
  have turners := m_turners hB TH T turned (methIs (X := "WiredKin") (st := s_Kin__turners) (ps := ["self", "lamp"]) c 59 62 rfl rfl (fun _ _ _ _ _ _ us hl => match us, hl with | [_, _], _ => rfl))
  have lit := m_lit T turned (methIs (X := "WiredKin") (st := s_Kin__lit_turned) (ps := ["self", "state", "lamp"]) c 60 63 rfl rfl (fun _ _ _ _ _ _ us hl => match us, hl with | [_, _, _], _ => rfl))
  have moved := m_moved hB T turned own hit (methIs (X := "WiredKin") (st := s_Kin__moved) (ps := ["self", "state", "lamp"]) c 61 64 rfl rfl (fun _ _ _ _ _ _ us hl => match us, hl with | [_, _, _], _ => rfl))
  have weights := m_weights hB TH T b.order turned factor (methIs (X := "WiredKin") (st := s_Kin__weights) (ps := ["self"]) c 63 66 rfl rfl (fun _ _ _ _ _ _ us hl => match us, hl with | [_], _ => rfl))
  have worth := m_worth hB TH T need_state weights (methIs (X := "WiredKin") (st := s_Kin_worth) (ps := ["self", "state"]) c 55 58 rfl rfl (fun _ _ _ _ _ _ us hl => match us, hl with | [_, _], _ => rfl))
  have greatest := m_greatest hB TH T b.order need_state turners factor (methIs (X := "WiredKin") (st := s_Kin_greatest) (ps := ["self", "source", "target"]) c 53 56 rfl rfl (fun _ _ _ _ _ _ us hl => match us, hl with | [_, _, _], _ => rfl))
  have reaches := m_reaches hB T greatest (methIs (X := "WiredKin") (st := s_Kin_reaches) (ps := ["self", "source", "target"]) c 54 57 rfl rfl (fun _ _ _ _ _ _ us hl => match us, hl with | [_, _, _], _ => rfl))
  have allowed := (m_allowed T need_state need_lamp (fnAt (st := s_Kin_allowed) (ps := ["self", "state", "lamp"]) c 47 rfl (meth_of (says_ex c 50 rfl)) (fun _ _ _ _ _ _ us hl => match us, hl with | [_, _, _], _ => rfl))).meth
  have refuse := (m_refuse (P := Pg) (w := w) (mg := mg) (base := base) (CH := ga K "House") (C := ga K "WiredKin") (way := 2) (fnAt (st := s_Kin__refuse) (ps := ["self", "state", "lamp"]) c 50 rfl (meth_of (says_ex c 53 rfl)) (fun _ _ _ _ _ _ us hl => match us, hl with | [_, _, _], _ => rfl))).meth
  have build := m_build TH T rfl b.order (m_withlamp hB T turners own hit (methIs (X := "WiredKin") (st := s_Kin__with_lamp) (ps := ["self", "built", "lamp", "hue", "many"]) c 62 65 rfl rfl (fun _ _ _ _ _ _ us hl => match us, hl with | [_, _, _, _, _], _ => rfl))) (methIs (X := "WiredKin") (st := s_Kin__build) (ps := ["self", "source", "counts"]) c 51 54 rfl rfl (fun _ _ _ _ _ _ us hl => match us, hl with | [_, _, _], _ => rfl))
  have after := m_after T need_state need_lamp (refuse.mono (by decide)) moved (methIs (X := "WiredKin") (st := s_Kin_after) (ps := ["self", "state", "lamp"]) c 52 55 rfl rfl (fun _ _ _ _ _ _ us hl => match us, hl with | [_, _, _], _ => rfl))
  have run := m_run hB TH T b.order greatest build (runIs c 59 rfl)
  obtain ⟨u, hu⟩ := lab_of (f := "LABEL") (by decide) (says_ex c 154 rfl)
  exact ⟨T, worth, greatest, reaches, run, after, allowed.mono (by decide), is_state, turned, factor, _, u, hu, rfl⟩
theorem rule3_of (c : Says K) (X : K.In h) (G : h.Ns mainGlobals mg) (b : Base w K mg base (ga K "House")) : RuleOk Pg w K mg base (ga K "House") (ga K "CarefulWiredKin") 3 := by
  have hB := bi_of c X G
  have TH := ht_of c
  have T := kt3_of c
  have need_lamp := m_need_lamp (way := 3) T b.need (methIs (X := "CarefulWiredKin") (st := s_Kin__need_lamp) (ps := ["self", "lamp"]) c 58 82 rfl rfl (fun _ _ _ _ _ _ us hl => match us, hl with | [_, _], _ => rfl))
  have turned := m_turnedW TH T (way := 3) (by decide) b.direct (methIs (X := "CarefulWiredKin") (st := s_WiredKin_turned) (ps := ["self", "lamp"]) c 65 68 rfl rfl (fun _ _ _ _ _ _ us hl => match us, hl with | [_, _], _ => rfl))
  have factor := m_factor TH T (by decide) need_lamp (methIs (X := "CarefulWiredKin") (st := s_Kin_factor) (ps := ["self", "lamp"]) c 45 69 rfl rfl (fun _ _ _ _ _ _ us hl => match us, hl with | [_, _], _ => rfl))
  have is_state := m_is_state T (way := 3) (by decide) b.isst (methIs (X := "CarefulWiredKin") (st := s_Kin_is_state) (ps := ["self", "value"]) c 46 70 rfl rfl (fun _ _ _ _ _ _ us hl => match us, hl with | [_, _], _ => rfl))
  have need_state := m_need_state T is_state (methIs (X := "CarefulWiredKin") (st := s_Kin__need_state) (ps := ["self", "state"]) c 57 81 rfl rfl (fun _ _ _ _ _ _ us hl => match us, hl with | [_, _], _ => rfl))
  have own := m_own (P := Pg) (w := w) (mg := mg) (base := base) (methIs (X := "CarefulWiredKin") (st := s_Kin__own) (ps := ["self", "hue"]) c 48 72 rfl rfl (fun _ _ _ _ _ _ us hl => match us, hl with | [_, _], _ => rfl))
  have hit := m_hit (P := Pg) (w := w) (mg := mg) (base := base) TH T (way := 3) (by decide) (methIs (X := "CarefulWiredKin") (st := s_Kin__hit) (ps := ["self", "lamp", "hue"]) c 49 73 rfl rfl (fun _ _ _ _ _ _ us hl => match us, hl with | [_, _, _], _ => rfl))
  have turners := m_turners hB TH T turned (methIs (X := "CarefulWiredKin") (st := s_Kin__turners) (ps := ["self", "lamp"]) c 59 83 rfl rfl (fun _ _ _ _ _ _ us hl => match us, hl with | [_, _], _ => rfl))
  have lit := m_lit T turned (methIs (X := "CarefulWiredKin") (st := s_Kin__lit_turned) (ps := ["self", "state", "lamp"]) c 60 84 rfl rfl (fun _ _ _ _ _ _ us hl => match us, hl with | [_, _, _], _ => rfl))
  have moved := m_moved hB T turned own hit (methIs (X := "CarefulWiredKin") (st := s_Kin__moved) (ps := ["self", "state", "lamp"]) c 61 85 rfl rfl (fun _ _ _ _ _ _ us hl => match us, hl with | [_, _, _], _ => rfl))
  have weights := m_weights hB TH T b.order turned factor (methIs (X := "CarefulWiredKin") (st := s_Kin__weights) (ps := ["self"]) c 63 87 rfl rfl (fun _ _ _ _ _ _ us hl => match us, hl with | [_], _ => rfl))
  have worth := m_worth hB TH T need_state weights (methIs (X := "CarefulWiredKin") (st := s_Kin_worth) (ps := ["self", "state"]) c 55 79 rfl rfl (fun _ _ _ _ _ _ us hl => match us, hl with | [_, _], _ => rfl))
  have greatest := m_greatest hB TH T b.order need_state turners factor (methIs (X := "CarefulWiredKin") (st := s_Kin_greatest) (ps := ["self", "source", "target"]) c 53 77 rfl rfl (fun _ _ _ _ _ _ us hl => match us, hl with | [_, _, _], _ => rfl))
  have reaches := m_reaches hB T greatest (methIs (X := "CarefulWiredKin") (st := s_Kin_reaches) (ps := ["self", "source", "target"]) c 54 78 rfl rfl (fun _ _ _ _ _ _ us hl => match us, hl with | [_, _, _], _ => rfl))
  have sm_a := m_allowed T need_state need_lamp (fnAt (st := s_Kin_allowed) (ps := ["self", "state", "lamp"]) c 47 rfl (supM_of (says_ex c 161 rfl)) (fun _ _ _ _ _ _ us hl => match us, hl with | [_, _, _], _ => rfl))
  have sm_r := m_refuse (P := Pg) (w := w) (mg := mg) (base := base) (CH := ga K "House") (C := ga K "CarefulWiredKin") (way := 3) (fnAt (st := s_Kin__refuse) (ps := ["self", "state", "lamp"]) c 50 rfl (supM_of (says_ex c 162 rfl)) (fun _ _ _ _ _ _ us hl => match us, hl with | [_, _, _], _ => rfl))
  have allowed := (m_allowedC T sm_a lit rfl (supIs (st := s_CarefulKin_allowed) (ps := ["self", "state", "lamp"]) c X G 0 rfl (meth_of (says_ex c 71 rfl)) (says_ex c 165 rfl) (says_ex c 168 rfl) hB.super (fun _ _ _ _ _ _ _ us hl => match us, hl with | [_, _, _], _ => rfl) (by decide +kernel) ⟨_, rfl, rfl⟩)).meth
  have refuse := (m_refuseC T sm_r lit rfl (supIs (st := s_CarefulKin__refuse) (ps := ["self", "state", "lamp"]) c X G 1 rfl (meth_of (says_ex c 74 rfl)) (says_ex c 165 rfl) (says_ex c 168 rfl) hB.super (fun _ _ _ _ _ _ _ us hl => match us, hl with | [_, _, _], _ => rfl) (by decide +kernel) ⟨_, rfl, rfl⟩)).meth
  have build := m_buildC hB T rfl lit moved (methIs (X := "CarefulWiredKin") (st := s_CarefulKin__build) (ps := ["self", "source", "counts"]) c 64 75 rfl rfl (fun _ _ _ _ _ _ us hl => match us, hl with | [_, _, _], _ => rfl))
  have after := m_after T need_state need_lamp (refuse.mono (by decide)) moved (methIs (X := "CarefulWiredKin") (st := s_Kin_after) (ps := ["self", "state", "lamp"]) c 52 76 rfl rfl (fun _ _ _ _ _ _ us hl => match us, hl with | [_, _, _], _ => rfl))
  have run := m_run hB TH T b.order greatest build (runIs c 80 rfl)
  obtain ⟨u, hu⟩ := lab_of (f := "LABEL") (by decide) (says_ex c 155 rfl)
  exact ⟨T, worth, greatest, reaches, run, after, allowed.mono (by decide), is_state, turned, factor, _, u, hu, rfl⟩
theorem rule4_of (c : Says K) (X : K.In h) (G : h.Ns mainGlobals mg) (b : Base w K mg base (ga K "House")) : RuleOk Pg w K mg base (ga K "House") (ga K "GainKin") 4 := by
  have hB := bi_of c X G
  have TH := ht_of c
  have T := kt4_of c
  have need_lamp := m_need_lamp (way := 4) T b.need (methIs (X := "GainKin") (st := s_Kin__need_lamp) (ps := ["self", "lamp"]) c 58 103 rfl rfl (fun _ _ _ _ _ _ us hl => match us, hl with | [_, _], _ => rfl))
  have turned := m_turned TH T (way := 4) (by decide) b.beneath (methIs (X := "GainKin") (st := s_Kin_turned) (ps := ["self", "lamp"]) c 44 89 rfl rfl (fun _ _ _ _ _ _ us hl => match us, hl with | [_, _], _ => rfl))
  have factor := m_factorG T rfl need_lamp (methIs (X := "GainKin") (st := s_GainKin_factor) (ps := ["self", "lamp"]) c 66 90 rfl rfl (fun _ _ _ _ _ _ us hl => match us, hl with | [_, _], _ => rfl))
  have is_state := m_is_state T (way := 4) (by decide) b.isst (methIs (X := "GainKin") (st := s_Kin_is_state) (ps := ["self", "value"]) c 46 91 rfl rfl (fun _ _ _ _ _ _ us hl => match us, hl with | [_, _], _ => rfl))
  have need_state := m_need_state T is_state (methIs (X := "GainKin") (st := s_Kin__need_state) (ps := ["self", "state"]) c 57 102 rfl rfl (fun _ _ _ _ _ _ us hl => match us, hl with | [_, _], _ => rfl))
  have own := m_own (P := Pg) (w := w) (mg := mg) (base := base) (methIs (X := "GainKin") (st := s_Kin__own) (ps := ["self", "hue"]) c 48 93 rfl rfl (fun _ _ _ _ _ _ us hl => match us, hl with | [_, _], _ => rfl))
  have hit := m_hitG (P := Pg) (w := w) (mg := mg) (base := base) TH T (way := 4) rfl (methIs (X := "GainKin") (st := s_GainKin__hit) (ps := ["self", "lamp", "hue"]) c 67 94 rfl rfl (fun _ _ _ _ _ _ us hl => match us, hl with | [_, _, _], _ => rfl))
  have turners := m_turners hB TH T turned (methIs (X := "GainKin") (st := s_Kin__turners) (ps := ["self", "lamp"]) c 59 104 rfl rfl (fun _ _ _ _ _ _ us hl => match us, hl with | [_, _], _ => rfl))
  have lit := m_lit T turned (methIs (X := "GainKin") (st := s_Kin__lit_turned) (ps := ["self", "state", "lamp"]) c 60 105 rfl rfl (fun _ _ _ _ _ _ us hl => match us, hl with | [_, _, _], _ => rfl))
  have moved := m_moved hB T turned own hit (methIs (X := "GainKin") (st := s_Kin__moved) (ps := ["self", "state", "lamp"]) c 61 106 rfl rfl (fun _ _ _ _ _ _ us hl => match us, hl with | [_, _, _], _ => rfl))
  have weights := m_weights hB TH T b.order turned factor (methIs (X := "GainKin") (st := s_Kin__weights) (ps := ["self"]) c 63 108 rfl rfl (fun _ _ _ _ _ _ us hl => match us, hl with | [_], _ => rfl))
  have worth := m_worth hB TH T need_state weights (methIs (X := "GainKin") (st := s_Kin_worth) (ps := ["self", "state"]) c 55 100 rfl rfl (fun _ _ _ _ _ _ us hl => match us, hl with | [_, _], _ => rfl))
  have greatest := m_greatest hB TH T b.order need_state turners factor (methIs (X := "GainKin") (st := s_Kin_greatest) (ps := ["self", "source", "target"]) c 53 98 rfl rfl (fun _ _ _ _ _ _ us hl => match us, hl with | [_, _, _], _ => rfl))
  have reaches := m_reaches hB T greatest (methIs (X := "GainKin") (st := s_Kin_reaches) (ps := ["self", "source", "target"]) c 54 99 rfl rfl (fun _ _ _ _ _ _ us hl => match us, hl with | [_, _, _], _ => rfl))
  have allowed := (m_allowed T need_state need_lamp (fnAt (st := s_Kin_allowed) (ps := ["self", "state", "lamp"]) c 47 rfl (meth_of (says_ex c 92 rfl)) (fun _ _ _ _ _ _ us hl => match us, hl with | [_, _, _], _ => rfl))).meth
  have refuse := (m_refuse (P := Pg) (w := w) (mg := mg) (base := base) (CH := ga K "House") (C := ga K "GainKin") (way := 4) (fnAt (st := s_Kin__refuse) (ps := ["self", "state", "lamp"]) c 50 rfl (meth_of (says_ex c 95 rfl)) (fun _ _ _ _ _ _ us hl => match us, hl with | [_, _, _], _ => rfl))).meth
  have build := m_build TH T rfl b.order (m_withlamp hB T turners own hit (methIs (X := "GainKin") (st := s_Kin__with_lamp) (ps := ["self", "built", "lamp", "hue", "many"]) c 62 107 rfl rfl (fun _ _ _ _ _ _ us hl => match us, hl with | [_, _, _, _, _], _ => rfl))) (methIs (X := "GainKin") (st := s_Kin__build) (ps := ["self", "source", "counts"]) c 51 96 rfl rfl (fun _ _ _ _ _ _ us hl => match us, hl with | [_, _, _], _ => rfl))
  have after := m_after T need_state need_lamp (refuse.mono (by decide)) moved (methIs (X := "GainKin") (st := s_Kin_after) (ps := ["self", "state", "lamp"]) c 52 97 rfl rfl (fun _ _ _ _ _ _ us hl => match us, hl with | [_, _, _], _ => rfl))
  have run := m_run hB TH T b.order greatest build (runIs c 101 rfl)
  obtain ⟨u, hu⟩ := lab_of (f := "LABEL") (by decide) (says_ex c 156 rfl)
  exact ⟨T, worth, greatest, reaches, run, after, allowed.mono (by decide), is_state, turned, factor, _, u, hu, rfl⟩
theorem rule5_of (c : Says K) (X : K.In h) (G : h.Ns mainGlobals mg) (b : Base w K mg base (ga K "House")) : RuleOk Pg w K mg base (ga K "House") (ga K "CoinKin") 5 := by
  have hB := bi_of c X G
  have TH := ht_of c
  have T := kt5_of c
  have need_lamp := m_need_lamp (way := 5) T b.need (methIs (X := "CoinKin") (st := s_Kin__need_lamp) (ps := ["self", "lamp"]) c 58 124 rfl rfl (fun _ _ _ _ _ _ us hl => match us, hl with | [_, _], _ => rfl))
  have turned := m_turned TH T (way := 5) (by decide) b.beneath (methIs (X := "CoinKin") (st := s_Kin_turned) (ps := ["self", "lamp"]) c 44 110 rfl rfl (fun _ _ _ _ _ _ us hl => match us, hl with | [_, _], _ => rfl))
  have factor := m_factor TH T (by decide) need_lamp (methIs (X := "CoinKin") (st := s_Kin_factor) (ps := ["self", "lamp"]) c 45 111 rfl rfl (fun _ _ _ _ _ _ us hl => match us, hl with | [_, _], _ => rfl))
  have is_state := m_is_stateC hB TH T (way := 5) rfl b.isint (methIs (X := "CoinKin") (st := s_CoinKin_is_state) (ps := ["self", "value"]) c 68 112 rfl rfl (fun _ _ _ _ _ _ us hl => match us, hl with | [_, _], _ => rfl))
  have need_state := m_need_state T is_state (methIs (X := "CoinKin") (st := s_Kin__need_state) (ps := ["self", "state"]) c 57 123 rfl rfl (fun _ _ _ _ _ _ us hl => match us, hl with | [_, _], _ => rfl))
  have own := m_own (P := Pg) (w := w) (mg := mg) (base := base) (methIs (X := "CoinKin") (st := s_Kin__own) (ps := ["self", "hue"]) c 48 114 rfl rfl (fun _ _ _ _ _ _ us hl => match us, hl with | [_, _], _ => rfl))
  have hit := m_hitC (P := Pg) (w := w) (mg := mg) (base := base) TH T (way := 5) rfl (methIs (X := "CoinKin") (st := s_CoinKin__hit) (ps := ["self", "lamp", "hue"]) c 69 115 rfl rfl (fun _ _ _ _ _ _ us hl => match us, hl with | [_, _, _], _ => rfl))
  have turners := m_turners hB TH T turned (methIs (X := "CoinKin") (st := s_Kin__turners) (ps := ["self", "lamp"]) c 59 125 rfl rfl (fun _ _ _ _ _ _ us hl => match us, hl with | [_, _], _ => rfl))
  have lit := m_lit T turned (methIs (X := "CoinKin") (st := s_Kin__lit_turned) (ps := ["self", "state", "lamp"]) c 60 126 rfl rfl (fun _ _ _ _ _ _ us hl => match us, hl with | [_, _, _], _ => rfl))
  have moved := m_moved hB T turned own hit (methIs (X := "CoinKin") (st := s_Kin__moved) (ps := ["self", "state", "lamp"]) c 61 127 rfl rfl (fun _ _ _ _ _ _ us hl => match us, hl with | [_, _, _], _ => rfl))
  have weights := m_weights hB TH T b.order turned factor (methIs (X := "CoinKin") (st := s_Kin__weights) (ps := ["self"]) c 63 129 rfl rfl (fun _ _ _ _ _ _ us hl => match us, hl with | [_], _ => rfl))
  have worth := m_worth hB TH T need_state weights (methIs (X := "CoinKin") (st := s_Kin_worth) (ps := ["self", "state"]) c 55 121 rfl rfl (fun _ _ _ _ _ _ us hl => match us, hl with | [_, _], _ => rfl))
  have greatest := m_greatest hB TH T b.order need_state turners factor (methIs (X := "CoinKin") (st := s_Kin_greatest) (ps := ["self", "source", "target"]) c 53 119 rfl rfl (fun _ _ _ _ _ _ us hl => match us, hl with | [_, _, _], _ => rfl))
  have reaches := m_reaches hB T greatest (methIs (X := "CoinKin") (st := s_Kin_reaches) (ps := ["self", "source", "target"]) c 54 120 rfl rfl (fun _ _ _ _ _ _ us hl => match us, hl with | [_, _, _], _ => rfl))
  have allowed := (m_allowed T need_state need_lamp (fnAt (st := s_Kin_allowed) (ps := ["self", "state", "lamp"]) c 47 rfl (meth_of (says_ex c 113 rfl)) (fun _ _ _ _ _ _ us hl => match us, hl with | [_, _, _], _ => rfl))).meth
  have refuse := (m_refuse (P := Pg) (w := w) (mg := mg) (base := base) (CH := ga K "House") (C := ga K "CoinKin") (way := 5) (fnAt (st := s_Kin__refuse) (ps := ["self", "state", "lamp"]) c 50 rfl (meth_of (says_ex c 116 rfl)) (fun _ _ _ _ _ _ us hl => match us, hl with | [_, _, _], _ => rfl))).meth
  have build := m_build TH T rfl b.order (m_withlamp hB T turners own hit (methIs (X := "CoinKin") (st := s_Kin__with_lamp) (ps := ["self", "built", "lamp", "hue", "many"]) c 62 128 rfl rfl (fun _ _ _ _ _ _ us hl => match us, hl with | [_, _, _, _, _], _ => rfl))) (methIs (X := "CoinKin") (st := s_Kin__build) (ps := ["self", "source", "counts"]) c 51 117 rfl rfl (fun _ _ _ _ _ _ us hl => match us, hl with | [_, _, _], _ => rfl))
  have after := m_after T need_state need_lamp (refuse.mono (by decide)) moved (methIs (X := "CoinKin") (st := s_Kin_after) (ps := ["self", "state", "lamp"]) c 52 118 rfl rfl (fun _ _ _ _ _ _ us hl => match us, hl with | [_, _, _], _ => rfl))
  have run := m_run hB TH T b.order greatest build (runIs c 122 rfl)
  obtain ⟨u, hu⟩ := lab_of (f := "LABEL") (by decide) (says_ex c 157 rfl)
  exact ⟨T, worth, greatest, reaches, run, after, allowed.mono (by decide), is_state, turned, factor, _, u, hu, rfl⟩
theorem rule6_of (c : Says K) (X : K.In h) (G : h.Ns mainGlobals mg) (b : Base w K mg base (ga K "House")) : RuleOk Pg w K mg base (ga K "House") (ga K "MixedKin") 6 := by
  have hB := bi_of c X G
  have TH := ht_of c
  have T := kt6_of c
  have need_lamp := m_need_lamp (way := 6) T b.need (methIs (X := "MixedKin") (st := s_Kin__need_lamp) (ps := ["self", "lamp"]) c 58 145 rfl rfl (fun _ _ _ _ _ _ us hl => match us, hl with | [_, _], _ => rfl))
  have turned := m_turned TH T (way := 6) (by decide) b.beneath (methIs (X := "MixedKin") (st := s_Kin_turned) (ps := ["self", "lamp"]) c 44 131 rfl rfl (fun _ _ _ _ _ _ us hl => match us, hl with | [_, _], _ => rfl))
  have factor := m_factorM T rfl need_lamp (methIs (X := "MixedKin") (st := s_MixedKin_factor) (ps := ["self", "lamp"]) c 70 132 rfl rfl (fun _ _ _ _ _ _ us hl => match us, hl with | [_, _], _ => rfl))
  have is_state := m_is_stateM hB TH T (way := 6) rfl b.isint (methIs (X := "MixedKin") (st := s_MixedKin_is_state) (ps := ["self", "value"]) c 71 133 rfl rfl (fun _ _ _ _ _ _ us hl => match us, hl with | [_, _], _ => rfl))
  have need_state := m_need_state T is_state (methIs (X := "MixedKin") (st := s_Kin__need_state) (ps := ["self", "state"]) c 57 144 rfl rfl (fun _ _ _ _ _ _ us hl => match us, hl with | [_, _], _ => rfl))
  have own := m_own (P := Pg) (w := w) (mg := mg) (base := base) (methIs (X := "MixedKin") (st := s_Kin__own) (ps := ["self", "hue"]) c 48 135 rfl rfl (fun _ _ _ _ _ _ us hl => match us, hl with | [_, _], _ => rfl))
  have hit := m_hitM (CH := ga K "House") (P := Pg) (w := w) (mg := mg) (base := base) T (way := 6) rfl (methIs (X := "MixedKin") (st := s_MixedKin__hit) (ps := ["self", "lamp", "hue"]) c 72 136 rfl rfl (fun _ _ _ _ _ _ us hl => match us, hl with | [_, _, _], _ => rfl))
  have turners := m_turners hB TH T turned (methIs (X := "MixedKin") (st := s_Kin__turners) (ps := ["self", "lamp"]) c 59 146 rfl rfl (fun _ _ _ _ _ _ us hl => match us, hl with | [_, _], _ => rfl))
  have lit := m_lit T turned (methIs (X := "MixedKin") (st := s_Kin__lit_turned) (ps := ["self", "state", "lamp"]) c 60 147 rfl rfl (fun _ _ _ _ _ _ us hl => match us, hl with | [_, _, _], _ => rfl))
  have moved := m_moved hB T turned own hit (methIs (X := "MixedKin") (st := s_Kin__moved) (ps := ["self", "state", "lamp"]) c 61 148 rfl rfl (fun _ _ _ _ _ _ us hl => match us, hl with | [_, _, _], _ => rfl))
  have weights := m_weights hB TH T b.order turned factor (methIs (X := "MixedKin") (st := s_Kin__weights) (ps := ["self"]) c 63 150 rfl rfl (fun _ _ _ _ _ _ us hl => match us, hl with | [_], _ => rfl))
  have worth := m_worth hB TH T need_state weights (methIs (X := "MixedKin") (st := s_Kin_worth) (ps := ["self", "state"]) c 55 142 rfl rfl (fun _ _ _ _ _ _ us hl => match us, hl with | [_, _], _ => rfl))
  have greatest := m_greatest hB TH T b.order need_state turners factor (methIs (X := "MixedKin") (st := s_Kin_greatest) (ps := ["self", "source", "target"]) c 53 140 rfl rfl (fun _ _ _ _ _ _ us hl => match us, hl with | [_, _, _], _ => rfl))
  have reaches := m_reaches hB T greatest (methIs (X := "MixedKin") (st := s_Kin_reaches) (ps := ["self", "source", "target"]) c 54 141 rfl rfl (fun _ _ _ _ _ _ us hl => match us, hl with | [_, _, _], _ => rfl))
  have allowed := (m_allowed T need_state need_lamp (fnAt (st := s_Kin_allowed) (ps := ["self", "state", "lamp"]) c 47 rfl (meth_of (says_ex c 134 rfl)) (fun _ _ _ _ _ _ us hl => match us, hl with | [_, _, _], _ => rfl))).meth
  have refuse := (m_refuse (P := Pg) (w := w) (mg := mg) (base := base) (CH := ga K "House") (C := ga K "MixedKin") (way := 6) (fnAt (st := s_Kin__refuse) (ps := ["self", "state", "lamp"]) c 50 rfl (meth_of (says_ex c 137 rfl)) (fun _ _ _ _ _ _ us hl => match us, hl with | [_, _, _], _ => rfl))).meth
  have build := m_build TH T rfl b.order (m_withlamp hB T turners own hit (methIs (X := "MixedKin") (st := s_Kin__with_lamp) (ps := ["self", "built", "lamp", "hue", "many"]) c 62 149 rfl rfl (fun _ _ _ _ _ _ us hl => match us, hl with | [_, _, _, _, _], _ => rfl))) (methIs (X := "MixedKin") (st := s_Kin__build) (ps := ["self", "source", "counts"]) c 51 138 rfl rfl (fun _ _ _ _ _ _ us hl => match us, hl with | [_, _, _], _ => rfl))
  have after := m_after T need_state need_lamp (refuse.mono (by decide)) moved (methIs (X := "MixedKin") (st := s_Kin_after) (ps := ["self", "state", "lamp"]) c 52 139 rfl rfl (fun _ _ _ _ _ _ us hl => match us, hl with | [_, _, _], _ => rfl))
  have run := m_run hB TH T b.order greatest build (runIs c 143 rfl)
  obtain ⟨u, hu⟩ := lab_of (f := "LABEL") (by decide) (says_ex c 158 rfl)
  exact ⟨T, worth, greatest, reaches, run, after, allowed.mono (by decide), is_state, turned, factor, _, u, hu, rfl⟩
def CC (K : PySem.W.Frag) : Nat → Addr
  | 0 => ga K "Kin"
  | 1 => ga K "CarefulKin"
  | 2 => ga K "WiredKin"
  | 3 => ga K "CarefulWiredKin"
  | 4 => ga K "GainKin"
  | 5 => ga K "CoinKin"
  | _ => ga K "MixedKin"
theorem kins_of (c : Says K) (X : K.In h) (G : h.Ns mainGlobals mg) (b : Base w K mg base (ga K "House")) : Kins Pg w K mg base (ga K "House") (CC K) := by
  have hB := bi_of c X G
  have TH := ht_of c
  have s4 := m_kinit (P := Pg) (w := w) (mg := mg) (base := base) (kt4_of c) (fnAt (st := s_Kin___init__) (ps := ["self", "house"]) c 43 rfl (supM_of (says_ex c 163 rfl)) (fun _ _ _ _ _ _ us hl => match us, hl with | [_, _], _ => rfl))
  have s6 := m_kinit (P := Pg) (w := w) (mg := mg) (base := base) (kt6_of c) (fnAt (st := s_Kin___init__) (ps := ["self", "house"]) c 43 rfl (supM_of (says_ex c 164 rfl)) (fun _ _ _ _ _ _ us hl => match us, hl with | [_, _], _ => rfl))
  exact ⟨glo_ok X G (says_fact c 39 rfl), glo_ok X G (says_fact c 40 rfl), glo_ok X G (says_fact c 41 rfl), glo_ok X G (says_fact c 42 rfl), glo_ok X G (says_fact c 43 rfl), glo_ok X G (says_fact c 44 rfl), glo_ok X G (says_fact c 45 rfl), m_kinit (kt0_of c) (fnAt (st := s_Kin___init__) (ps := ["self", "house"]) c 43 rfl (mk_of (says_ex c 25 rfl)) (fun _ _ _ _ _ _ us hl => match us, hl with | [_, _], _ => rfl)), m_kinit (kt1_of c) (fnAt (st := s_Kin___init__) (ps := ["self", "house"]) c 43 rfl (mk_of (says_ex c 46 rfl)) (fun _ _ _ _ _ _ us hl => match us, hl with | [_, _], _ => rfl)), m_kinit (kt2_of c) (fnAt (st := s_Kin___init__) (ps := ["self", "house"]) c 43 rfl (mk_of (says_ex c 67 rfl)) (fun _ _ _ _ _ _ us hl => match us, hl with | [_, _], _ => rfl)), m_kinit (kt3_of c) (fnAt (st := s_Kin___init__) (ps := ["self", "house"]) c 43 rfl (mk_of (says_ex c 88 rfl)) (fun _ _ _ _ _ _ us hl => match us, hl with | [_, _], _ => rfl)), m_ginit TH (kt4_of c) s4 b.isint (supIs (st := s_GainKin___init__) (ps := ["self", "house", "gain"]) c X G 2 rfl (mk_of (says_ex c 109 rfl)) (says_ex c 166 rfl) (says_ex c 168 rfl) hB.super (fun _ _ _ _ _ _ _ us hl => match us, hl with | [_, _, _], _ => rfl) (by decide +kernel) ⟨_, rfl, rfl⟩), m_kinit (kt5_of c) (fnAt (st := s_Kin___init__) (ps := ["self", "house"]) c 43 rfl (mk_of (says_ex c 130 rfl)) (fun _ _ _ _ _ _ us hl => match us, hl with | [_, _], _ => rfl)), m_minit hB TH (kt6_of c) (int_ok X G (says_fact c 61 rfl)) (int_ok X G (says_fact c 62 rfl)) s6 b.isint (supIs (st := s_MixedKin___init__) (ps := ["self", "house", "sizes"]) c X G 3 rfl (mk_of (says_ex c 151 rfl)) (says_ex c 167 rfl) (says_ex c 168 rfl) hB.super (fun _ _ _ _ _ _ _ us hl => match us, hl with | [_, _, _], _ => rfl) (by decide +kernel) ⟨_, rfl, rfl⟩)⟩
theorem law_of (c : Says K) (X : K.In h) (G : h.Ns mainGlobals mg) : ∃ fd, FunD K "law" "law" (defArgs s_law) (defBody s_law) (defScope s_law) [] [] (ga K "law") fd ∧ ∀ (w : World) (base : Heap), FnOk Pg w K mg base L2.CX0 14 (ga K "law") fd ["_law_script"] (sp_law K) := by
  obtain ⟨fd, F⟩ := says_def c 37 rfl
  refine ⟨fd, F, fun w base => ?_⟩
  have hB := bi_of c X G
  have TH := ht_of c
  have b : Base w K mg base (ga K "House") := base_of c X G
  have KS := kins_of c X G b
  have RK : ∀ way, way ≤ 6 → RuleOk Pg w K mg base (ga K "House") (CC K way) way := fun way hw => match way, hw with
    | 0, _ => rule0_of c X G b
    | 1, _ => rule1_of c X G b
    | 2, _ => rule2_of c X G b
    | 3, _ => rule3_of c X G b
    | 4, _ => rule4_of c X G b
    | 5, _ => rule5_of c X G b
    | 6, _ => rule6_of c X G b
    | n + 7, hw => absurd hw (by omega)
  have d1 := d_isint (P := Pg) (w := w) (base := base) hB (defIs (y := "_law_is_integer") (st := s__law_is_integer) (ps := ["_law_value"]) c X G 10 10 rfl rfl (fun _ _ _ _ _ _ us hl => match us, hl with | [_], _ => rfl))
  have d2 := d_istruth (P := Pg) (w := w) (base := base) hB (defIs (y := "_law_is_truth") (st := s__law_is_truth) (ps := ["_law_value", "_law_due"]) c X G 11 11 rfl rfl (fun _ _ _ _ _ _ us hl => match us, hl with | [_, _], _ => rfl))
  have d3 := d_same hB d1 (defIs (y := "_law_same") (st := s__law_same) (ps := ["_law_value", "_law_due"]) c X G 12 12 rfl rfl (fun _ _ _ _ _ _ us hl => match us, hl with | [_, _], _ => rfl))
  have d4 := d_islist hB d3 (defIs (y := "_law_is_list") (st := s__law_is_list) (ps := ["_law_value", "_law_due"]) c X G 13 13 rfl rfl (fun _ _ _ _ _ _ us hl => match us, hl with | [_, _], _ => rfl))
  have d5 := d_istuple hB d3 (defIs (y := "_law_is_tuple") (st := s__law_is_tuple) (ps := ["_law_value", "_law_due"]) c X G 14 14 rfl rfl (fun _ _ _ _ _ _ us hl => match us, hl with | [_, _], _ => rfl))
  have d6 := d_start (P := Pg) (w := w) (base := base) hB (defIs (y := "_law_start") (st := s__law_start) (ps := ["_law_script"]) c X G 15 15 rfl rfl (fun _ _ _ _ _ _ us hl => match us, hl with | [_], _ => rfl))
  have d7 := d_draw (P := Pg) (w := w) (base := base) hB (defIs (y := "_law_draw") (st := s__law_draw) (ps := ["_law_box", "_law_size"]) c X G 16 16 rfl rfl (fun _ _ _ _ _ _ us hl => match us, hl with | [_, _], _ => rfl))
  have d8 := d_lamps hB d7 (defIs (y := "_law_lamp_order") (st := s__law_lamp_order) (ps := ["_law_box", "_law_count"]) c X G 17 17 rfl rfl (fun _ _ _ _ _ _ us hl => match us, hl with | [_, _], _ => rfl))
  have d9 := d_wires hB d7 (defIs (y := "_law_wires") (st := s__law_wires) (ps := ["_law_box", "_law_lamps"]) c X G 18 18 rfl rfl (fun _ _ _ _ _ _ us hl => match us, hl with | [_, _], _ => rfl))
  have d10 := d_passed hB d7 (defIs (y := "_law_passed") (st := s__law_passed) (ps := ["_law_box", "_law_wires_here"]) c X G 19 19 rfl rfl (fun _ _ _ _ _ _ us hl => match us, hl with | [_, _], _ => rfl))
  have d11 := d_huesat hB d7 (defIs (y := "_law_hues_at") (st := s__law_hues_at) (ps := ["_law_box", "_law_way", "_law_hues", "_law_size"]) c X G 25 25 rfl rfl (fun _ _ _ _ _ _ us hl => match us, hl with | [_, _, _, _], _ => rfl))
  have d12 := d_ldirect (P := Pg) (w := w) (base := base) hB (defIs (y := "_law_direct") (st := s__law_direct) (ps := ["_law_count", "_law_wires_here"]) c X G 20 20 rfl rfl (fun _ _ _ _ _ _ us hl => match us, hl with | [_, _], _ => rfl))
  have d13 := d_lbeneath (P := Pg) (w := w) (base := base) hB (defIs (y := "_law_beneath") (st := s__law_beneath) (ps := ["_law_direct_here", "_law_lamps"]) c X G 21 21 rfl rfl (fun _ _ _ _ _ _ us hl => match us, hl with | [_, _], _ => rfl))
  have d14 := d_lorder (P := Pg) (w := w) (base := base) hB (defIs (y := "_law_order") (st := s__law_order) (ps := ["_law_beneath_here"]) c X G 22 22 rfl rfl (fun _ _ _ _ _ _ us hl => match us, hl with | [_], _ => rfl))
  have d15 := d_lrule hB KS (defIs (y := "_law_rule") (st := s__law_rule) (ps := ["_law_house", "_law_way", "_law_gain", "_law_sizes"]) c X G 23 23 rfl rfl (fun _ _ _ _ _ _ us hl => match us, hl with | [_, _, _, _], _ => rfl))
  have d16 := d_numbers (P := Pg) (w := w) (base := base) hB (defIs (y := "_law_numbers") (st := s__law_numbers) (ps := ["_law_way", "_law_hues", "_law_gain", "_law_sizes"]) c X G 24 24 rfl rfl (fun _ _ _ _ _ _ us hl => match us, hl with | [_, _, _, _], _ => rfl))
  have d17 := d_lhit (P := Pg) (w := w) (base := base) hB (defIs (y := "_law_hit") (st := s__law_hit) (ps := ["_law_way", "_law_hues", "_law_number", "_law_hue"]) c X G 26 26 rfl rfl (fun _ _ _ _ _ _ us hl => match us, hl with | [_, _, _, _], _ => rfl))
  have d18 := d_lmoved hB d17 (defIs (y := "_law_moved") (st := s__law_moved) (ps := ["_law_way", "_law_hues", "_law_turned", "_law_numbers_here", "_law_state", "_law_spot"]) c X G 27 27 rfl rfl (fun _ _ _ _ _ _ us hl => match us, hl with | [_, _, _, _, _, _], _ => rfl))
  have d19 := d_lnext (P := Pg) (w := w) (base := base) hB (defIs (y := "_law_next_allowed") (st := s__law_next_allowed) (ps := ["_law_way", "_law_turned", "_law_state", "_law_start_here"]) c X G 28 28 rfl rfl (fun _ _ _ _ _ _ us hl => match us, hl with | [_, _, _, _], _ => rfl))
  have d20 := d_lheavy (P := Pg) (w := w) (base := base) hB (defIs (y := "_law_heavy") (st := s__law_heavy) (ps := ["_law_turned", "_law_numbers_here", "_law_order_here"]) c X G 29 29 rfl rfl (fun _ _ _ _ _ _ us hl => match us, hl with | [_, _, _], _ => rfl))
  have d21 := d_lgreat (P := Pg) (w := w) (base := base) hB (defIs (y := "_law_greatest") (st := s__law_greatest) (ps := ["_law_numbers_here", "_law_turned", "_law_order_here", "_law_source", "_law_target"]) c X G 30 30 rfl rfl (fun _ _ _ _ _ _ us hl => match us, hl with | [_, _, _, _, _], _ => rfl))
  have d22 := d_wfits (CH := ga K "House") hB d1 (defIs (y := "_law_worth_fits") (st := s__law_worth_fits) (ps := ["_law_rule_here", "_law_heavy_here", "_law_state"]) c X G 31 31 rfl rfl (fun _ _ _ _ _ _ us hl => match us, hl with | [_, _, _], _ => rfl))
  have d23 := d_rfits (CH := ga K "House") hB d1 d19 d18 (defIs (y := "_law_run_fits") (st := s__law_run_fits) (ps := ["_law_rule_here", "_law_way", "_law_hues", "_law_turned", "_law_numbers_here", "_law_source", "_law_target", "_law_counts"]) c X G 32 32 rfl rfl (fun _ _ _ _ _ _ us hl => match us, hl with | [_, _, _, _, _, _, _, _], _ => rfl))
  have d24 := d_sfits hB d21 d4 d2 d23 (defIs (y := "_law_sum_fits") (st := s__law_sum_fits) (ps := ["_law_rule_here", "_law_way", "_law_hues", "_law_turned", "_law_numbers_here", "_law_order_here", "_law_source", "_law_target"]) c X G 33 33 rfl rfl (fun _ _ _ _ _ _ us hl => match us, hl with | [_, _, _, _, _, _, _, _], _ => rfl))
  have d25 := d_kfits hB d20 d19 d18 d5 d2 d22 d24 (defIs (y := "_law_walk_fits") (st := s__law_walk_fits) (ps := ["_law_rule_here", "_law_way", "_law_hues", "_law_turned", "_law_numbers_here", "_law_order_here", "_law_source", "_law_starts"]) c X G 34 34 rfl rfl (fun _ _ _ _ _ _ us hl => match us, hl with | [_, _, _, _, _, _, _, _], _ => rfl))
  have d26 := d_tfits hB b.eq_ d1 d4 (defIs (y := "_law_table_fits") (st := s__law_table_fits) (ps := ["_law_rule_here", "_law_house", "_law_turned", "_law_numbers_here"]) c X G 35 35 rfl rfl (fun _ _ _ _ _ _ us hl => match us, hl with | [_, _, _, _], _ => rfl))
  have d27 := d_lfits hB TH RK d7 d11 d16 d15 d26 d20 d22 d24 d25 (defIs (y := "_law_rule_fits") (st := s__law_rule_fits) (ps := ["_law_box", "_law_way", "_law_house", "_law_direct_here", "_law_beneath_here", "_law_order_here", "_law_sizes"]) c X G 36 36 rfl rfl (fun _ _ _ _ _ _ us hl => match us, hl with | [_, _, _, _, _, _, _], _ => rfl))
  exact ok_law hB (glo_ok X G (says_fact c 38 rfl)) b.mkH d6 d7 d8 d9 d10 d12 d13 d14 d27 F
end
end K57
open PySem PySem.W PySem.Calls PyProof.Rows
theorem PySem.Challenge.cw_huefall_k57_whole_worth_of_every_rule_holds : PySem.Challenge.rw_huefall_k57_whole_worth_of_every_rule.Holds := by
  w_on; o_law
  refine HandSHeadRun.head_any (r := OpenLaw.row PySem.Challenge.rw_huefall_k57_whole_worth_of_every_rule) (q := view (OpenLaw.row PySem.Challenge.rw_huefall_k57_whole_worth_of_every_rule).prog [67]) (H := K57.hk_) (ob := K57.ob_) (M := 8000) (loose := K57.loose_) (d := HandSHeadRun.topDef (OpenLaw.row PySem.Challenge.rw_huefall_k57_whole_worth_of_every_rule).prog 67) (kwd := []) K57.ob_eq
    (by kernel_rfl) (fun s => by kernel_rfl) K57.run_ (by kernel_rfl) (by kernel_rfl) (by kernel_rfl) (by rfl) (by first | assumption | decide +kernel) (by decide +kernel) ⟨rfl, rfl, rfl, rfl, rfl, by decide +kernel⟩ ?hw ?hc
  case hw => w_witness2
  case hc =>
    refine L2.walk_ofE (l := PySem.Challenge.rw_huefall_k57_whole_worth_of_every_rule) (n := 63) (k := 14) (x := "_law_script") (CX := L2.CX0) rfl (by decide) (by kernel_rfl) ⟨rfl, by decide, by decide⟩ ?F (fun _ _ _ _ z => z)
    intro w mg fa h Y G hmg0
    obtain ⟨K, KX, c⟩ := Y
    have hmg : mg ("law" : PySem.Str) = some (.ref fa) := by
      have e : (HandSHeadRun.topDef (OpenLaw.row PySem.Challenge.rw_huefall_k57_whole_worth_of_every_rule).prog 67).name = ("law" : PySem.Str) := by kernel_rfl
      rw [← e]
      exact hmg0
    obtain ⟨fd, F, hF⟩ := K57.law_of (mg := mg) c KX G
    have e := hmg.symm.trans (He.glo_ok KX G (K57.says_fact c 37 rfl))
    cases e
    have hb := L2.FunD.bindsA (ps := ["_law_script"]) F (fun _ _ _ _ _ _ us hl => match us, hl with | [_], _ => rfl)
    exact ⟨K, fd, K57.sp_law K, KX, fun s v => hb s [v] rfl, fun H a ns hl _ hS => ⟨a, ns, rfl, hS, hl, fun _ => rfl⟩, fun base _ _ => hF w base⟩

