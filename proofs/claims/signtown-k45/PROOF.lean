import PyProof.Rows.All
import Wide.All
import OpenK.AllK
import Wide.FinOn
import HandS.ForMost
import HandS.ForExc
import HandS.HeadHook2
import HandS.Head0
import HandS.Head1
import HandS.Head2
import KE.KSuper
import HandS.GenList
import HandS.Words
import HandS.Star
import HandS.Nested
import HandS.ClsMeth
import HandS.SlotsOwn
import HandS.OwnEq
import HandS.Property
import HandS.Codes
import HandS.IsInst
import HandS.DictComp
import HandS.Style
import HandS.Strs
import HandS.SetKeys
import HandS.TupSets
import HandS.Wide
import HandS.WideMore
import HandS.EndBits
import HandS.Conv
import HandS.Evl
import HandS.AnyAll
import HandS.TupLe
import HandS.TupAny
import HandS.TupLen
import HandS.StrMore
import HandS.Flow
import HandS.DictEq
import HandS.MethStar
import HandS.HeadEnd
import HandS.SetTxt0
import HandS.SetFor
import KE.KCallOwn
import HandS.RaiseMore
import KE.KDictSum
import KE.GoesMore
import HandS.Small
import KE.KStateDown
import PySem.Challenge.RW_signtown_k45_whole_narrow_wards_meet
/-! ## Fct0 -/
set_option Elab.async false
set_option linter.all false
set_option maxRecDepth 100000
set_option maxHeartbeats 2000000
/-! The text's parts; facts as Bools; a Hook that reads them off the head. -/
namespace Own
open PySem PySem.Spec PyProof.Rows L2
/-- no binary operator of that name -/
def noNum (K : PySem.W.Frag) (C : Addr) (nm : String) : Bool := match PySem.W.clsIn K C with
  | some cd => cd.mro.all fun c => decide (PySem.W.findIn K c (PySem.dunder nm) = some none) && decide (PySem.W.findIn K c (dunderR nm) = some none)
  | none => false
end Own
namespace Tx
open PySem PySem.Spec PyProof.Rows L2
abbrev PG0 : Program := PySem.Challenge.pw_signtown_k45_whole_narrow_wards_meet
def top (i : Nat) : Stmt := PySem.Challenge.pw_signtown_k45_whole_narrow_wards_meet.main.body.getD i (.Pass ⟨0, 0, 0, 0⟩)
def clsBody : Stmt → List Stmt
  | .ClassDef (body := b) .. => b
  | _ => []
def mth (i j : Nat) : Stmt := (clsBody (top i)).getD j (.Pass ⟨0, 0, 0, 0⟩)
/-- a property's getter -/
def pgA (K : PySem.W.Frag) (C : Addr) (f : Str) : Addr := match PySem.W.recIn K (He.ma K C f) "property" with
  | some (.ref g :: _) => g
  | _ => 0
/-- the cell of __class__, the code of a def -/
def ccA (K : PySem.W.Frag) (f : Addr) : Addr := match K.lookup f with
  | some ⟨_, _, .func fd, _⟩ => (match fd.closure with
    | [(_, c)] => c
    | _ => 0)
  | _ => 0
def cdA (K : PySem.W.Frag) (f : Addr) : Addr := match K.lookup f with
  | some ⟨_, _, .func fd, _⟩ => (match fd.code with
    | .ref c => c
    | _ => 0)
  | _ => 0
end Tx
namespace Fx
open PySem PySem.Spec PyProof.Rows L2 Tx
open He (ga ma ba eqO eqO_ok frG frG_in refV)
abbrev Fg := PySem.W.Frag
/-! ### checkers -/
def gloB (K : Fg) (x : Str) : Bool := eqO (PySem.W.nsIn K mainGlobals x) (some (some (.ref (ga K x))))
def freeB (K : Fg) (x : Str) : Bool := eqO (PySem.W.nsIn K mainGlobals x) (some none)
def intB (K : Fg) (x : Str) (i : Int) : Bool := match PySem.W.nsIn K mainGlobals x with
  | some (some (.int j _)) => decide (j = i)
  | _ => false
def strB (K : Fg) (x z : Str) : Bool := match PySem.W.nsIn K mainGlobals x with
  | some (some (.str y _)) => decide (y = z)
  | _ => false
def fnB (K : Fg) (a : Addr) (q : Str) : Bool := PySem.W.keepIn K (.ref a) && (match K.lookup a with
  | some ⟨_, _, .func fd, _⟩ => PySem.W.codeIn K fd.code q && He.dflB K fd.defaults []
  | _ => false)
def fsB (K : Fg) (a : Addr) (q : Str) (dvs : List V) : Bool := match K.lookup a with
  | some ⟨_, _, .func fd, _⟩ => PySem.W.codeIn K (.ref (cdA K a)) q && (He.dflB K fd.defaults dvs && decide (fd.code = .ref (cdA K a)))
  | _ => false
abbrev FnQ : Type := Option (Str × Str × Arguments × FuncBody × Scope × Addr × List Str × Addr)
def fnQ (K : Fg) (a : Addr) : FnQ := match K.lookup a with
  | some ⟨_, _, .func fd, _⟩ => some (fd.name, fd.qualname, fd.params, fd.body, fd.scope, fd.globals, fd.closure.map (·.1), fd.builtins)
  | _ => none
/-- a def: where, what -/
structure DefQ where
  at_ : Fg → Addr
  name : Str
  qual : Str
  params : Arguments
  body : List Stmt
  scope : Scope
  cl : List Str := []
def DefQ.val (d : DefQ) : FnQ := some (d.name, d.qual, d.params, .stmts d.body, d.scope, mainGlobals, d.cl, builtinsNs)
def sdB (K : Fg) (f : PySem.Str) (D cc cda : Addr) : Bool := freeB K "super" && ((match K.lookup cc with
  | some ⟨_, _, .cell (some (.ref D')), _⟩ => decide (D' = D)
  | _ => false) && ((PySem.W.clsIn K D).isSome && (match K.lookup cda with
  | some ⟨_, _, .fields vs, _⟩ => (match (vs[2]? : Option Value) with
    | some (.str file _) => f == file
    | _ => false)
  | _ => false)))
def oB (a b : Option Bool) : Bool := match a, b with
  | some true, some true => true
  | some false, some false => true
  | _, _ => false
def scB (K : Fg) (D C f2 : Addr) (m : Str) : Bool := oB (PySem.W.mroIn K C (.ref D)) (some true) && (eqO (PySem.W.ks_superIn K C D m) (some (some (.ref f2))) && (decide (PySem.W.typeIn K (.ref f2) = some (.type "function")) && (PySem.W.fnIn K f2 && eqO (PySem.W.nsIn K cStatics "thirdparty.any") (some none))))
def clsB (K : Fg) (C : Addr) : Bool := PySem.W.plainGet K C Str.empty && (PySem.W.hasDictIn K C && (PySem.W.plainOver K C && eqO (PySem.W.findIn K (.ref C) "__setattr__") (some (some (.builtin "object.__setattr__")))))
def tyB (K : Fg) (C : Addr) : Bool := eqO (PySem.W.findIn K (.ref C) "__class__") (some (some (.builtin "object.__class__"))) && (eqO (PySem.W.specialIn K (.builtin "object.__class__") "__get__") (some (some (.builtin "getset_descriptor.__get__"))) && (oB (PySem.W.takesIn K (.builtin "object.__class__")) (some true) && oB (PySem.W.mroIn K C (.type "object")) (some true)))
def noatB (K : Fg) (C : Addr) (f : Str) : Bool := eqO (PySem.W.findIn K (.ref C) f) (some none)
def atB (K : Fg) (C : Addr) (m : Str) (g : Addr) : Bool := eqO (PySem.W.findIn K (.ref C) m) (some (some (.ref g)))
def methB (K : Fg) (C : Addr) (m : Str) (g : Addr) : Bool := atB K C m g && (PySem.W.isFn K (.ref g) && PySem.W.keepIn K (.ref g))
def propB (K : Fg) (C : Addr) (f : Str) (p g : Addr) : Bool := atB K C f p && (eqO (PySem.W.specialIn K (.ref p) "__get__") (some (some (.builtin "property.__get__"))) && (oB (PySem.W.takesIn K (.ref p)) (some true) && (match PySem.W.recIn K p "property" with
  | some (.ref g' :: _) => decide (g' = g)
  | _ => false)))
def mkB (K : Fg) (C f : Addr) : Bool := PySem.W.makesIn K C && (atB K C "__init__" f && (PySem.W.isFn K (.ref f) && PySem.W.keepIn K (.ref C)))
def binB (K : Fg) (C g : Addr) (op : Operator) : Bool := PySem.W.selfFirst K C && (eqO (PySem.W.findIn K (.ref C) (PySem.dunder op.info.2)) (some (some (.ref g))) && PySem.W.isFn K (.ref g))
def eqcB (K : Fg) (C g : Addr) : Bool := eqO (PySem.W.findIn K (.ref C) "__ne__") (some (some (.builtin "object.__ne__"))) && (oB (PySem.W.mroIn K C (.type "object")) (some true) && (atB K C "__eq__" g && PySem.W.isFn K (.ref g)))
def opcB (K : Fg) (C : Addr) (m : Str) (g : Addr) : Bool := atB K C m g && (PySem.W.isFn K (.ref g) && PySem.W.fnIn K g)
def kitB (K : Fg) (a b : Addr) (v : Bool) : Bool := oB (PySem.W.kitOne K (.ref a) (.ref b)) (some v)
def neB (a b : Addr) : Bool := !decide (a = b)
def cvalB (K : Fg) (C : Addr) (f : Str) (i : Int) : Bool := PySem.W.readsIn K C (.type "type") && (eqO (PySem.W.specialIn K (.ref C) "__getattribute__") (some (some (.builtin "type.__getattribute__"))) && (match PySem.W.findCls K (.ref C) (.type "type") f with
  | some (.val (.int j _)) => decide (j = i)
  | _ => false))
/-! ### the part of the heap: by names -/
def nsG (g : Addr → Option Obj) (D : Addr) (x : Str) : Addr := match PySem.W.nsIn (frG g [D]) D x with
  | some (some (.ref a)) => a
  | _ => 0
def fnG (g : Addr → Option Obj) (f : Addr) : List Addr := f :: match g f with
  | some ⟨_, _, .func fd, _⟩ => refV fd.code ++ (refV fd.defaults ++ fd.closure.map (·.2))
  | _ => []
def memG (g : Addr → Option Obj) (a : Addr) : List Addr := match g a with
  | some ⟨_, _, .func _, _⟩ => fnG g a
  | some ⟨_, _, .fields vs, _⟩ => a :: (vs.toList.flatMap refV).flatMap (fnG g)
  | _ => []
def nsOfG (g : Addr → Option Obj) (C : Addr) : Addr := match g C with
  | some ⟨_, _, .cls cd, _⟩ => cd.ns
  | _ => 0
def membersG (g : Addr → Option Obj) (C : Addr) : List Addr := match g (nsOfG g C) with
  | some ⟨_, _, .dict es _, _⟩ => (es.toList.flatMap fun e => refV e.val).flatMap (memG g)
  | _ => []
def asN (cls fns : List Str) (g : Addr → Option Obj) : List Addr :=
  mainGlobals :: cStatics :: (cls.flatMap fun x => [nsG g mainGlobals x, nsOfG g (nsG g mainGlobals x)]) ++ (fns.flatMap fun x => fnG g (nsG g mainGlobals x)) ++ cls.flatMap fun x => membersG g (nsG g mainGlobals x)
/-! ### the Hook -/
abbrev AlQ : Type := Bool × List FnQ
def obsQ (fa : List (Fg → Bool)) (fn : List DefQ) (K : Fg) : AlQ := (fa.all fun f => f K, fn.map fun d => fnQ K (d.at_ K))
def valQ (fn : List DefQ) : AlQ := (true, fn.map DefQ.val)
def SaysQ (fa : List (Fg → Bool)) (fn : List DefQ) (K : Fg) : Prop := obsQ fa fn K = valQ fn
def obsQG (as : (Addr → Option Obj) → List Addr) (fa : List (Fg → Bool)) (fn : List DefQ) (g : Addr → Option Obj) : AlQ := obsQ fa fn (frG g (as g))
def hookQ (as : (Addr → Option Obj) → List Addr) (fa : List (Fg → Bool)) (fn : List DefQ) : PySem.W.Hook where
  α := AlQ
  obs := fun s => obsQG as fa fn s.heap.get?
  val := fun _ => valQ fn
  says := fun _ h => ∃ K : Fg, K.In h ∧ SaysQ fa fn K
  of := fun _ _ e => ⟨_, frG_in, e⟩
  keeps := fun _ _ _ ⟨K, hK, c⟩ k => ⟨K, PySem.W.Frag.In.keeps hK k, c⟩
theorem obsQG_eq {as : (Addr → Option Obj) → List Addr} {fa : List (Fg → Bool)} {fn : List DefQ} {g : Addr → Option Obj} {s : Shared} (h : ∀ a, g a = s.heap.get? a) : obsQG as fa fn g = (hookQ as fa fn).obs s := by
  have e : g = s.heap.get? := funext h
  rw [e] <;> rfl
section
variable {fa : List (Fg → Bool)} {fn : List DefQ} {K : Fg}
theorem SaysQ.fact (c : SaysQ fa fn K) (i : Nat) {f : Fg → Bool} (h : fa[i]? = some f := by rfl) : f K = true := by
  have c1 : (fa.all fun f => f K) = true := congrArg (fun z : AlQ => z.1) c
  exact List.all_eq_true.mp c1 f (List.mem_of_getElem? h)
theorem SaysQ.def_ (c : SaysQ fa fn K) (i : Nat) {d : DefQ} (h : fn[i]? = some d := by rfl) : fnQ K (d.at_ K) = d.val := by
  have e : (fn.map fun d => fnQ K (d.at_ K)) = fn.map DefQ.val := congrArg (fun z : AlQ => z.2) c
  have e2 : (fn.map fun d => fnQ K (d.at_ K))[i]? = (fn.map DefQ.val)[i]? := by rw [e]
  rw [List.getElem?_map, List.getElem?_map, h] at e2
  exact Option.some.inj e2
end
end Fx
/-! ## HeadA -/
set_option maxHeartbeats 0
/-! The head: facts, the runs (printed by headgen.py). -/
namespace HdT
open PySem PySem.Spec PyProof.Rows L2 Tx Fx
open He (ga ma)
def dq0 : DefQ := ⟨fun K => (He.ga K "is_int"), "is_int", "is_int", defArgs (top 26), defBody (top 26), defScope (top 26), []⟩
def dq1 : DefQ := ⟨fun K => (He.ga K "is_between"), "is_between", "is_between", defArgs (top 27), defBody (top 27), defScope (top 27), []⟩
def dq2 : DefQ := ⟨fun K => (He.ga K "is_name"), "is_name", "is_name", defArgs (top 28), defBody (top 28), defScope (top 28), []⟩
def dq3 : DefQ := ⟨fun K => (He.ga K "is_price"), "is_price", "is_price", defArgs (top 29), defBody (top 29), defScope (top 29), []⟩
def dq4 : DefQ := ⟨fun K => (He.ga K "is_need"), "is_need", "is_need", defArgs (top 30), defBody (top 30), defScope (top 30), []⟩
def dq5 : DefQ := ⟨fun K => (He.ga K "is_sign"), "is_sign", "is_sign", defArgs (top 36), defBody (top 36), defScope (top 36), []⟩
def dq6 : DefQ := ⟨fun K => (He.ga K "need_ends"), "need_ends", "need_ends", defArgs (top 42), defBody (top 42), defScope (top 42), []⟩
def dq7 : DefQ := ⟨fun K => (He.ga K "need_prices"), "need_prices", "need_prices", defArgs (top 43), defBody (top 43), defScope (top 43), []⟩
def dq8 : DefQ := ⟨fun K => (He.ga K "need_place"), "need_place", "need_place", defArgs (top 58), defBody (top 58), defScope (top 58), []⟩
def dq9 : DefQ := ⟨fun K => (He.ga K "gathered"), "gathered", "gathered", defArgs (top 62), defBody (top 62), defScope (top 62), []⟩
def dq10 : DefQ := ⟨fun K => (He.ga K "picks"), "picks", "picks", defArgs (top 63), defBody (top 63), defScope (top 63), []⟩
def dq11 : DefQ := ⟨fun K => (He.ga K "need_town"), "need_town", "need_town", defArgs (top 66), defBody (top 66), defScope (top 66), []⟩
def dq12 : DefQ := ⟨fun K => (He.ga K "need_fit"), "need_fit", "need_fit", defArgs (top 67), defBody (top 67), defScope (top 67), []⟩
def dq13 : DefQ := ⟨fun K => (He.ga K "need_need"), "need_need", "need_need", defArgs (top 68), defBody (top 68), defScope (top 68), []⟩
def dq14 : DefQ := ⟨fun K => (He.ga K "need_ward"), "need_ward", "need_ward", defArgs (top 69), defBody (top 69), defScope (top 69), []⟩
def dq15 : DefQ := ⟨fun K => (He.ga K "need_streets"), "need_streets", "need_streets", defArgs (top 70), defBody (top 70), defScope (top 70), []⟩
def dq16 : DefQ := ⟨fun K => (He.ga K "arcs"), "arcs", "arcs", defArgs (top 72), defBody (top 72), defScope (top 72), []⟩
def dq17 : DefQ := ⟨fun K => (He.ga K "count_into"), "count_into", "count_into", defArgs (top 73), defBody (top 73), defScope (top 73), []⟩
def dq18 : DefQ := ⟨fun K => (He.ga K "into"), "into", "into", defArgs (top 74), defBody (top 74), defScope (top 74), []⟩
def dq19 : DefQ := ⟨fun K => (He.ga K "weakest"), "weakest", "weakest", defArgs (top 76), defBody (top 76), defScope (top 76), []⟩
def dq20 : DefQ := ⟨fun K => (He.ga K "is_good"), "is_good", "is_good", defArgs (top 77), defBody (top 77), defScope (top 77), []⟩
def dq21 : DefQ := ⟨fun K => (He.ga K "need_good"), "need_good", "need_good", defArgs (top 78), defBody (top 78), defScope (top 78), []⟩
def dq22 : DefQ := ⟨fun K => (He.ga K "narrow_wards"), "narrow_wards", "narrow_wards", defArgs (top 80), defBody (top 80), defScope (top 80), []⟩
def dq23 : DefQ := ⟨fun K => (He.ga K "_law_pen"), "_law_pen", "_law_pen", defArgs (top 82), defBody (top 82), defScope (top 82), []⟩
def dq24 : DefQ := ⟨fun K => (He.ga K "_law_draw"), "_law_draw", "_law_draw", defArgs (top 83), defBody (top 83), defScope (top 83), []⟩
def dq25 : DefQ := ⟨fun K => (He.ga K "_law_pick"), "_law_pick", "_law_pick", defArgs (top 84), defBody (top 84), defScope (top 84), []⟩
def dq26 : DefQ := ⟨fun K => (He.ga K "_law_titles"), "_law_titles", "_law_titles", defArgs (top 85), defBody (top 85), defScope (top 85), []⟩
def dq27 : DefQ := ⟨fun K => (He.ga K "_law_pairs"), "_law_pairs", "_law_pairs", defArgs (top 86), defBody (top 86), defScope (top 86), []⟩
def dq28 : DefQ := ⟨fun K => (He.ga K "_law_price"), "_law_price", "_law_price", defArgs (top 87), defBody (top 87), defScope (top 87), []⟩
def dq29 : DefQ := ⟨fun K => (He.ga K "_law_site"), "_law_site", "_law_site", defArgs (top 88), defBody (top 88), defScope (top 88), []⟩
def dq30 : DefQ := ⟨fun K => (He.ga K "_law_town"), "_law_town", "_law_town", defArgs (top 89), defBody (top 89), defScope (top 89), []⟩
def dq31 : DefQ := ⟨fun K => (He.ga K "_law_told"), "_law_told", "_law_told", defArgs (top 90), defBody (top 90), defScope (top 90), []⟩
def dq32 : DefQ := ⟨fun K => (He.ga K "_law_bent"), "_law_bent", "_law_bent", defArgs (top 91), defBody (top 91), defScope (top 91), []⟩
def dq33 : DefQ := ⟨fun K => (He.ga K "_law_triples"), "_law_triples", "_law_triples", defArgs (top 92), defBody (top 92), defScope (top 92), []⟩
def dq34 : DefQ := ⟨fun K => (He.ga K "_law_spots"), "_law_spots", "_law_spots", defArgs (top 93), defBody (top 93), defScope (top 93), []⟩
def dq35 : DefQ := ⟨fun K => (He.ga K "_law_groups"), "_law_groups", "_law_groups", defArgs (top 94), defBody (top 94), defScope (top 94), []⟩
def dq36 : DefQ := ⟨fun K => (He.ga K "_law_enter"), "_law_enter", "_law_enter", defArgs (top 95), defBody (top 95), defScope (top 95), []⟩
def dq37 : DefQ := ⟨fun K => (He.ga K "_law_weakest"), "_law_weakest", "_law_weakest", defArgs (top 96), defBody (top 96), defScope (top 96), []⟩
def dq38 : DefQ := ⟨fun K => (He.ga K "_law_cross"), "_law_cross", "_law_cross", defArgs (top 97), defBody (top 97), defScope (top 97), []⟩
def dq39 : DefQ := ⟨fun K => (He.ga K "law"), "law", "law", defArgs (top 98), defBody (top 98), defScope (top 98), []⟩
def dq40 : DefQ := ⟨fun K => (He.ma K (He.ga K "Signs") "__init__"), "__init__", "Signs.__init__", defArgs (mth 38 0), defBody (mth 38 0), defScope (mth 38 0), []⟩
def dq41 : DefQ := ⟨fun K => (pgA K (He.ga K "Signs") "names"), "names", "Signs.names", defArgs (mth 38 3), defBody (mth 38 3), defScope (mth 38 3), []⟩
def dq42 : DefQ := ⟨fun K => (He.ma K (He.ga K "Signs") "__contains__"), "__contains__", "Signs.__contains__", defArgs (mth 38 7), defBody (mth 38 7), defScope (mth 38 7), []⟩
def dq43 : DefQ := ⟨fun K => (He.ma K (He.ga K "Signs") "__getitem__"), "__getitem__", "Signs.__getitem__", defArgs (mth 38 8), defBody (mth 38 8), defScope (mth 38 8), []⟩
def dq44 : DefQ := ⟨fun K => (He.ma K (He.ga K "Signs") "tail"), "tail", "Signs.tail", defArgs (mth 38 9), defBody (mth 38 9), defScope (mth 38 9), []⟩
def dq45 : DefQ := ⟨fun K => (He.ma K (He.ga K "Signs") "is_along"), "is_along", "Signs.is_along", defArgs (mth 38 18), defBody (mth 38 18), defScope (mth 38 18), []⟩
def dq46 : DefQ := ⟨fun K => (He.ma K (He.ga K "Signs") "fits"), "fits", "Signs.fits", defArgs (mth 38 20), defBody (mth 38 20), defScope (mth 38 20), []⟩
def dq47 : DefQ := ⟨fun K => (He.ma K (He.ga K "Street") "__init__"), "__init__", "Street.__init__", defArgs (mth 44 3), defBody (mth 44 3), defScope (mth 44 3), []⟩
def dq48 : DefQ := ⟨fun K => (pgA K (He.ga K "Street") "ends"), "ends", "Street.ends", defArgs (mth 44 5), defBody (mth 44 5), defScope (mth 44 5), []⟩
def dq49 : DefQ := ⟨fun K => (He.ma K (He.ga K "Street") "is_like"), "is_like", "Street.is_like", defArgs (mth 44 11), defBody (mth 44 11), defScope (mth 44 11), []⟩
def dq50 : DefQ := ⟨fun K => (He.ma K (He.ga K "Lane") "__eq__"), "__eq__", "Lane.__eq__", defArgs (mth 47 5), defBody (mth 47 5), defScope (mth 47 5), []⟩
def dq51 : DefQ := ⟨fun K => (He.ma K (He.ga K "Avenue") "__eq__"), "__eq__", "Avenue.__eq__", defArgs (mth 48 4), defBody (mth 48 4), defScope (mth 48 4), []⟩
def dq52 : DefQ := ⟨fun K => (He.ma K (He.ga K "Road") "__eq__"), "__eq__", "Road.__eq__", defArgs (mth 49 8), defBody (mth 49 8), defScope (mth 49 8), []⟩
def dq53 : DefQ := ⟨fun K => (He.ma K (He.ga K "Ward") "__init__"), "__init__", "Ward.__init__", defArgs (mth 60 0), defBody (mth 60 0), defScope (mth 60 0), []⟩
def dq54 : DefQ := ⟨fun K => (pgA K (He.ga K "Ward") "corners"), "corners", "Ward.corners", defArgs (mth 60 1), defBody (mth 60 1), defScope (mth 60 1), []⟩
def dq55 : DefQ := ⟨fun K => (He.ma K (He.ga K "Ward") "need_ward"), "need_ward", "Ward.need_ward", defArgs (mth 60 3), defBody (mth 60 3), defScope (mth 60 3), []⟩
def dq56 : DefQ := ⟨fun K => (He.ma K (He.ga K "Ward") "need_town"), "need_town", "Ward.need_town", defArgs (mth 60 4), defBody (mth 60 4), defScope (mth 60 4), []⟩
def dq57 : DefQ := ⟨fun K => (He.ma K (He.ga K "Ward") "is_of"), "is_of", "Ward.is_of", defArgs (mth 60 6), defBody (mth 60 6), defScope (mth 60 6), []⟩
def dq58 : DefQ := ⟨fun K => (He.ma K (He.ga K "Ward") "crosses"), "crosses", "Ward.crosses", defArgs (mth 60 7), defBody (mth 60 7), defScope (mth 60 7), []⟩
def dq59 : DefQ := ⟨fun K => (He.ma K (He.ga K "Ward") "__or__"), "__or__", "Ward.__or__", defArgs (mth 60 11), defBody (mth 60 11), defScope (mth 60 11), []⟩
def dq60 : DefQ := ⟨fun K => (He.ma K (He.ga K "Ward") "__and__"), "__and__", "Ward.__and__", defArgs (mth 60 12), defBody (mth 60 12), defScope (mth 60 12), []⟩
def dq61 : DefQ := ⟨fun K => (He.ma K (He.ga K "Ward") "__le__"), "__le__", "Ward.__le__", defArgs (mth 60 14), defBody (mth 60 14), defScope (mth 60 14), []⟩
def dq62 : DefQ := ⟨fun K => (He.ma K (He.ga K "Ward") "__str__"), "__str__", "Ward.__str__", defArgs (mth 60 17), defBody (mth 60 17), defScope (mth 60 17), []⟩
def dq63 : DefQ := ⟨fun K => (He.ma K (He.ga K "Town") "__init__"), "__init__", "Town.__init__", defArgs (mth 64 2), defBody (mth 64 2), defScope (mth 64 2), []⟩
def dq64 : DefQ := ⟨fun K => (pgA K (He.ga K "Town") "streets"), "streets", "Town.streets", defArgs (mth 64 4), defBody (mth 64 4), defScope (mth 64 4), []⟩
def dq65 : DefQ := ⟨fun K => (pgA K (He.ga K "Town") "corners"), "corners", "Town.corners", defArgs (mth 64 5), defBody (mth 64 5), defScope (mth 64 5), []⟩
def dq66 : DefQ := ⟨fun K => (pgA K (He.ga K "Town") "roads"), "roads", "Town.roads", defArgs (mth 64 6), defBody (mth 64 6), defScope (mth 64 6), []⟩
def dq67 : DefQ := ⟨fun K => (He.ma K (He.ga K "Town") "__len__"), "__len__", "Town.__len__", defArgs (mth 64 8), defBody (mth 64 8), defScope (mth 64 8), []⟩
def dq68 : DefQ := ⟨fun K => (He.ma K (He.ga K "Town") "__contains__"), "__contains__", "Town.__contains__", defArgs (mth 64 10), defBody (mth 64 10), defScope (mth 64 10), []⟩
def dq69 : DefQ := ⟨fun K => (He.ma K (He.ga K "Town") "__getitem__"), "__getitem__", "Town.__getitem__", defArgs (mth 64 11), defBody (mth 64 11), defScope (mth 64 11), []⟩
def dq70 : DefQ := ⟨fun K => (He.ma K (He.ga K "Town") "__or__"), "__or__", "Town.__or__", defArgs (mth 64 13), defBody (mth 64 13), defScope (mth 64 13), []⟩
def dq71 : DefQ := ⟨fun K => (He.ma K (He.ga K "Town") "wards"), "wards", "Town.wards", defArgs (mth 64 25), defBody (mth 64 25), defScope (mth 64 25), []⟩
def dq72 : DefQ := ⟨fun K => (He.ma K (He.ga K "Settled") "__init__"), "__init__", "Settled.__init__", defArgs (mth 45 2), defBody (mth 45 2), defScope (mth 45 2), [("__class__" : Str)]⟩
def dq73 : DefQ := ⟨fun K => (He.ma K (He.ga K "Even") "__init__"), "__init__", "Even.__init__", defArgs (mth 46 1), defBody (mth 46 1), defScope (mth 46 1), [("__class__" : Str)]⟩
def dq74 : DefQ := ⟨fun K => (He.ma K (He.ga K "Lane") "__init__"), "__init__", "Lane.__init__", defArgs (mth 47 1), defBody (mth 47 1), defScope (mth 47 1), [("__class__" : Str)]⟩
def dq75 : DefQ := ⟨fun K => (He.ma K (He.ga K "Avenue") "__init__"), "__init__", "Avenue.__init__", defArgs (mth 48 1), defBody (mth 48 1), defScope (mth 48 1), [("__class__" : Str)]⟩
def dq76 : DefQ := ⟨fun K => (He.ma K (He.ga K "Road") "__init__"), "__init__", "Road.__init__", defArgs (mth 49 2), defBody (mth 49 2), defScope (mth 49 2), [("__class__" : Str)]⟩
def fa0_0 : List (Fg → Bool) := [fun K => gloB K "Place", fun K => gloB K "Signs", fun K => gloB K "Street", fun K => gloB K "Settled", fun K => gloB K "Even", fun K => gloB K "Lane", fun K => gloB K "Avenue", fun K => gloB K "Road", fun K => gloB K "Ward", fun K => gloB K "Town", fun K => gloB K "is_int", fun K => gloB K "is_between", fun K => gloB K "is_name", fun K => gloB K "is_price", fun K => gloB K "is_need", fun K => gloB K "is_sign", fun K => gloB K "need_ends", fun K => gloB K "need_prices", fun K => gloB K "need_place", fun K => gloB K "gathered"]
def fa0_1 : List (Fg → Bool) := [fun K => gloB K "picks", fun K => gloB K "need_town", fun K => gloB K "need_fit", fun K => gloB K "need_need", fun K => gloB K "need_ward", fun K => gloB K "need_streets", fun K => gloB K "arcs", fun K => gloB K "count_into", fun K => gloB K "into", fun K => gloB K "weakest", fun K => gloB K "is_good", fun K => gloB K "need_good", fun K => gloB K "narrow_wards", fun K => gloB K "_law_pen", fun K => gloB K "_law_draw", fun K => gloB K "_law_pick", fun K => gloB K "_law_titles", fun K => gloB K "_law_pairs", fun K => gloB K "_law_price", fun K => gloB K "_law_site"]
def fa0_2 : List (Fg → Bool) := [fun K => gloB K "_law_town", fun K => gloB K "_law_told", fun K => gloB K "_law_bent", fun K => gloB K "_law_triples", fun K => gloB K "_law_spots", fun K => gloB K "_law_groups", fun K => gloB K "_law_enter", fun K => gloB K "_law_weakest", fun K => gloB K "_law_cross", fun K => gloB K "law", fun K => PySem.W.keepIn K (.ref (He.ga K "Signs")), fun K => PySem.W.keepIn K (.ref (He.ga K "Lane")), fun K => PySem.W.keepIn K (.ref (He.ga K "Avenue")), fun K => PySem.W.keepIn K (.ref (He.ga K "Road")), fun K => PySem.W.keepIn K (.ref (He.ga K "Ward")), fun K => PySem.W.keepIn K (.ref (He.ga K "Town")), fun K => PySem.W.keepIn K (.ref (He.ga K "is_int")), fun K => PySem.W.keepIn K (.ref (He.ga K "is_between")), fun K => PySem.W.keepIn K (.ref (He.ga K "is_name")), fun K => PySem.W.keepIn K (.ref (He.ga K "is_price"))]
def fa0_3 : List (Fg → Bool) := [fun K => PySem.W.keepIn K (.ref (He.ga K "is_need")), fun K => PySem.W.keepIn K (.ref (He.ga K "is_sign")), fun K => PySem.W.keepIn K (.ref (He.ga K "need_ends")), fun K => PySem.W.keepIn K (.ref (He.ga K "need_prices")), fun K => PySem.W.keepIn K (.ref (He.ga K "need_place")), fun K => PySem.W.keepIn K (.ref (He.ga K "gathered")), fun K => PySem.W.keepIn K (.ref (He.ga K "picks")), fun K => PySem.W.keepIn K (.ref (He.ga K "need_town")), fun K => PySem.W.keepIn K (.ref (He.ga K "need_fit")), fun K => PySem.W.keepIn K (.ref (He.ga K "need_need")), fun K => PySem.W.keepIn K (.ref (He.ga K "need_ward")), fun K => PySem.W.keepIn K (.ref (He.ga K "need_streets")), fun K => PySem.W.keepIn K (.ref (He.ga K "arcs")), fun K => PySem.W.keepIn K (.ref (He.ga K "count_into")), fun K => PySem.W.keepIn K (.ref (He.ga K "into")), fun K => PySem.W.keepIn K (.ref (He.ga K "weakest")), fun K => PySem.W.keepIn K (.ref (He.ga K "is_good")), fun K => PySem.W.keepIn K (.ref (He.ga K "need_good")), fun K => PySem.W.keepIn K (.ref (He.ga K "narrow_wards")), fun K => PySem.W.keepIn K (.ref (He.ga K "_law_pen"))]
def fa0_4 : List (Fg → Bool) := [fun K => PySem.W.keepIn K (.ref (He.ga K "_law_draw")), fun K => PySem.W.keepIn K (.ref (He.ga K "_law_pick")), fun K => PySem.W.keepIn K (.ref (He.ga K "_law_titles")), fun K => PySem.W.keepIn K (.ref (He.ga K "_law_pairs")), fun K => PySem.W.keepIn K (.ref (He.ga K "_law_price")), fun K => PySem.W.keepIn K (.ref (He.ga K "_law_site")), fun K => PySem.W.keepIn K (.ref (He.ga K "_law_town")), fun K => PySem.W.keepIn K (.ref (He.ga K "_law_told")), fun K => PySem.W.keepIn K (.ref (He.ga K "_law_bent")), fun K => PySem.W.keepIn K (.ref (He.ga K "_law_triples")), fun K => PySem.W.keepIn K (.ref (He.ga K "_law_spots")), fun K => PySem.W.keepIn K (.ref (He.ga K "_law_groups")), fun K => PySem.W.keepIn K (.ref (He.ga K "_law_enter")), fun K => PySem.W.keepIn K (.ref (He.ga K "_law_weakest")), fun K => PySem.W.keepIn K (.ref (He.ga K "_law_cross")), fun K => PySem.W.keepIn K (.ref (He.ga K "law")), fun K => freeB K "isinstance", fun K => freeB K "len", fun K => freeB K "all", fun K => freeB K "any"]
def fa0_5 : List (Fg → Bool) := [fun K => freeB K "sorted", fun K => freeB K "set", fun K => freeB K "str", fun K => freeB K "tuple", fun K => freeB K "list", fun K => freeB K "dict", fun K => freeB K "int", fun K => freeB K "bool", fun K => freeB K "range", fun K => freeB K "enumerate", fun K => freeB K "super", fun K => freeB K "min", fun K => freeB K "abs", fun K => intB K "MOST_LETTERS" 8, fun K => intB K "MOST_PRICE" 999999999999, fun K => intB K "MOST_NEED" 20, fun K => intB K "MOST_SIGNS" 14, fun K => intB K "PAIR" 2, fun K => intB K "MOST_CORNERS" 7, fun K => strB K "LETTERS" "abcdefghijklmnopqrstuvwxyz"]
def fa0 : List (Fg → Bool) := fa0_0 ++ (fa0_1 ++ (fa0_2 ++ (fa0_3 ++ (fa0_4 ++ (fa0_5)))))
def fn0_0 : List DefQ := [dq0, dq1, dq2, dq3, dq4, dq5, dq6, dq7, dq8, dq9, dq10, dq11, dq12, dq13, dq14, dq15, dq16, dq17, dq18, dq19]
def fn0_1 : List DefQ := [dq20, dq21, dq22, dq23, dq24, dq25]
def fn0 : List DefQ := fn0_0 ++ (fn0_1)
def fa1_0 : List (Fg → Bool) := [fun K => fnB K (He.ga K "is_int") "is_int", fun K => fnB K (He.ga K "is_between") "is_between", fun K => fnB K (He.ga K "is_name") "is_name", fun K => fnB K (He.ga K "is_price") "is_price", fun K => fnB K (He.ga K "is_need") "is_need", fun K => fnB K (He.ga K "is_sign") "is_sign", fun K => fnB K (He.ga K "need_ends") "need_ends", fun K => fnB K (He.ga K "need_prices") "need_prices", fun K => fnB K (He.ga K "need_place") "need_place", fun K => fnB K (He.ga K "gathered") "gathered", fun K => fnB K (He.ga K "picks") "picks", fun K => fnB K (He.ga K "need_town") "need_town", fun K => fnB K (He.ga K "need_fit") "need_fit", fun K => fnB K (He.ga K "need_need") "need_need", fun K => fnB K (He.ga K "need_ward") "need_ward", fun K => fnB K (He.ga K "need_streets") "need_streets", fun K => fnB K (He.ga K "arcs") "arcs", fun K => fnB K (He.ga K "count_into") "count_into", fun K => fnB K (He.ga K "into") "into", fun K => fnB K (He.ga K "weakest") "weakest"]
def fa1_1 : List (Fg → Bool) := [fun K => fnB K (He.ga K "is_good") "is_good", fun K => fnB K (He.ga K "need_good") "need_good", fun K => fnB K (He.ga K "narrow_wards") "narrow_wards", fun K => fnB K (He.ga K "_law_pen") "_law_pen", fun K => fnB K (He.ga K "_law_draw") "_law_draw", fun K => fnB K (He.ga K "_law_pick") "_law_pick", fun K => fnB K (He.ga K "_law_titles") "_law_titles", fun K => fnB K (He.ga K "_law_pairs") "_law_pairs", fun K => fnB K (He.ga K "_law_price") "_law_price", fun K => fnB K (He.ga K "_law_site") "_law_site", fun K => fnB K (He.ga K "_law_town") "_law_town", fun K => fnB K (He.ga K "_law_told") "_law_told", fun K => fnB K (He.ga K "_law_bent") "_law_bent", fun K => fnB K (He.ga K "_law_triples") "_law_triples", fun K => fnB K (He.ga K "_law_spots") "_law_spots", fun K => fnB K (He.ga K "_law_groups") "_law_groups", fun K => fnB K (He.ga K "_law_enter") "_law_enter", fun K => fnB K (He.ga K "_law_weakest") "_law_weakest", fun K => fnB K (He.ga K "_law_cross") "_law_cross", fun K => fnB K (He.ga K "law") "law"]
def fa1_2 : List (Fg → Bool) := [fun K => fnB K (He.ma K (He.ga K "Signs") "__init__") "Signs.__init__", fun K => fnB K (pgA K (He.ga K "Signs") "names") "Signs.names", fun K => fnB K (He.ma K (He.ga K "Signs") "__contains__") "Signs.__contains__", fun K => fnB K (He.ma K (He.ga K "Signs") "__getitem__") "Signs.__getitem__", fun K => fnB K (He.ma K (He.ga K "Signs") "tail") "Signs.tail", fun K => fnB K (He.ma K (He.ga K "Signs") "is_along") "Signs.is_along", fun K => fnB K (He.ma K (He.ga K "Signs") "fits") "Signs.fits", fun K => fnB K (He.ma K (He.ga K "Street") "__init__") "Street.__init__", fun K => fnB K (pgA K (He.ga K "Street") "ends") "Street.ends", fun K => fnB K (He.ma K (He.ga K "Street") "is_like") "Street.is_like", fun K => fnB K (He.ma K (He.ga K "Lane") "__eq__") "Lane.__eq__", fun K => fnB K (He.ma K (He.ga K "Avenue") "__eq__") "Avenue.__eq__", fun K => fnB K (He.ma K (He.ga K "Road") "__eq__") "Road.__eq__", fun K => fnB K (He.ma K (He.ga K "Ward") "__init__") "Ward.__init__", fun K => fnB K (pgA K (He.ga K "Ward") "corners") "Ward.corners", fun K => fnB K (He.ma K (He.ga K "Ward") "need_ward") "Ward.need_ward", fun K => fnB K (He.ma K (He.ga K "Ward") "need_town") "Ward.need_town", fun K => fnB K (He.ma K (He.ga K "Ward") "is_of") "Ward.is_of", fun K => fnB K (He.ma K (He.ga K "Ward") "crosses") "Ward.crosses", fun K => fnB K (He.ma K (He.ga K "Ward") "__or__") "Ward.__or__"]
def fa1_3 : List (Fg → Bool) := [fun K => fnB K (He.ma K (He.ga K "Ward") "__and__") "Ward.__and__", fun K => fnB K (He.ma K (He.ga K "Ward") "__le__") "Ward.__le__", fun K => fnB K (He.ma K (He.ga K "Ward") "__str__") "Ward.__str__", fun K => fnB K (He.ma K (He.ga K "Town") "__init__") "Town.__init__", fun K => fnB K (pgA K (He.ga K "Town") "streets") "Town.streets", fun K => fnB K (pgA K (He.ga K "Town") "corners") "Town.corners", fun K => fnB K (pgA K (He.ga K "Town") "roads") "Town.roads", fun K => fnB K (He.ma K (He.ga K "Town") "__len__") "Town.__len__", fun K => fnB K (He.ma K (He.ga K "Town") "__contains__") "Town.__contains__", fun K => fnB K (He.ma K (He.ga K "Town") "__getitem__") "Town.__getitem__", fun K => fnB K (He.ma K (He.ga K "Town") "__or__") "Town.__or__", fun K => fnB K (He.ma K (He.ga K "Town") "wards") "Town.wards", fun K => fsB K (He.ma K (He.ga K "Settled") "__init__") "Settled.__init__" [], fun K => sdB K PG0.main.file (He.ga K "Settled") (ccA K (He.ma K (He.ga K "Settled") "__init__")) (cdA K (He.ma K (He.ga K "Settled") "__init__")), fun K => fsB K (He.ma K (He.ga K "Even") "__init__") "Even.__init__" [], fun K => sdB K PG0.main.file (He.ga K "Even") (ccA K (He.ma K (He.ga K "Even") "__init__")) (cdA K (He.ma K (He.ga K "Even") "__init__")), fun K => fsB K (He.ma K (He.ga K "Lane") "__init__") "Lane.__init__" [], fun K => sdB K PG0.main.file (He.ga K "Lane") (ccA K (He.ma K (He.ga K "Lane") "__init__")) (cdA K (He.ma K (He.ga K "Lane") "__init__")), fun K => fsB K (He.ma K (He.ga K "Avenue") "__init__") "Avenue.__init__" [], fun K => sdB K PG0.main.file (He.ga K "Avenue") (ccA K (He.ma K (He.ga K "Avenue") "__init__")) (cdA K (He.ma K (He.ga K "Avenue") "__init__"))]
def fa1_4 : List (Fg → Bool) := [fun K => fsB K (He.ma K (He.ga K "Road") "__init__") "Road.__init__" [.int 0, .int 0], fun K => sdB K PG0.main.file (He.ga K "Road") (ccA K (He.ma K (He.ga K "Road") "__init__")) (cdA K (He.ma K (He.ga K "Road") "__init__")), fun K => scB K (He.ga K "Lane") (He.ga K "Lane") (He.ma K (He.ga K "Settled") "__init__") "__init__", fun K => scB K (He.ga K "Settled") (He.ga K "Lane") (He.ma K (He.ga K "Street") "__init__") "__init__", fun K => scB K (He.ga K "Settled") (He.ga K "Avenue") (He.ma K (He.ga K "Even") "__init__") "__init__", fun K => scB K (He.ga K "Avenue") (He.ga K "Avenue") (He.ma K (He.ga K "Settled") "__init__") "__init__", fun K => scB K (He.ga K "Even") (He.ga K "Avenue") (He.ma K (He.ga K "Street") "__init__") "__init__", fun K => scB K (He.ga K "Even") (He.ga K "Road") (He.ma K (He.ga K "Street") "__init__") "__init__", fun K => scB K (He.ga K "Road") (He.ga K "Road") (He.ma K (He.ga K "Even") "__init__") "__init__", fun K => clsB K (He.ga K "Signs"), fun K => clsB K (He.ga K "Lane"), fun K => clsB K (He.ga K "Avenue"), fun K => clsB K (He.ga K "Road"), fun K => clsB K (He.ga K "Ward"), fun K => clsB K (He.ga K "Town"), fun K => tyB K (He.ga K "Signs"), fun K => tyB K (He.ga K "Lane"), fun K => tyB K (He.ga K "Avenue"), fun K => tyB K (He.ga K "Road"), fun K => tyB K (He.ga K "Ward")]
def fa1 : List (Fg → Bool) := fa1_0 ++ (fa1_1 ++ (fa1_2 ++ (fa1_3 ++ (fa1_4))))
def fn1_0 : List DefQ := [dq26, dq27, dq28, dq29, dq30, dq31, dq32, dq33, dq34, dq35, dq36, dq37, dq38, dq39, dq40, dq41, dq42, dq43, dq44, dq45]
def fn1_1 : List DefQ := [dq46, dq47, dq48, dq49, dq50, dq51]
def fn1 : List DefQ := fn1_0 ++ (fn1_1)
def fa2_0 : List (Fg → Bool) := [fun K => tyB K (He.ga K "Town"), fun K => noatB K (He.ga K "Signs") "own_parts", fun K => noatB K (He.ga K "Signs") "own_names", fun K => noatB K (He.ga K "Lane") "name", fun K => noatB K (He.ga K "Lane") "both", fun K => noatB K (He.ga K "Lane") "start", fun K => noatB K (He.ga K "Lane") "goal", fun K => noatB K (He.ga K "Avenue") "name", fun K => noatB K (He.ga K "Avenue") "both", fun K => noatB K (He.ga K "Avenue") "one", fun K => noatB K (He.ga K "Avenue") "other", fun K => noatB K (He.ga K "Road") "name", fun K => noatB K (He.ga K "Road") "both", fun K => noatB K (He.ga K "Road") "one", fun K => noatB K (He.ga K "Road") "other", fun K => noatB K (He.ga K "Road") "there", fun K => noatB K (He.ga K "Road") "back", fun K => noatB K (He.ga K "Ward") "own_corners", fun K => noatB K (He.ga K "Town") "own_streets", fun K => noatB K (He.ga K "Town") "own_rows"]
def fa2_1 : List (Fg → Bool) := [fun K => noatB K (He.ga K "Town") "own_corners", fun K => methB K (He.ga K "Signs") "tail" (He.ma K (He.ga K "Signs") "tail"), fun K => methB K (He.ga K "Signs") "is_along" (He.ma K (He.ga K "Signs") "is_along"), fun K => methB K (He.ga K "Signs") "fits" (He.ma K (He.ga K "Signs") "fits"), fun K => methB K (He.ga K "Lane") "is_like" (He.ma K (He.ga K "Street") "is_like"), fun K => methB K (He.ga K "Avenue") "is_like" (He.ma K (He.ga K "Street") "is_like"), fun K => methB K (He.ga K "Road") "is_like" (He.ma K (He.ga K "Street") "is_like"), fun K => methB K (He.ga K "Ward") "need_ward" (He.ma K (He.ga K "Ward") "need_ward"), fun K => methB K (He.ga K "Ward") "need_town" (He.ma K (He.ga K "Ward") "need_town"), fun K => methB K (He.ga K "Ward") "is_of" (He.ma K (He.ga K "Ward") "is_of"), fun K => methB K (He.ga K "Ward") "crosses" (He.ma K (He.ga K "Ward") "crosses"), fun K => methB K (He.ga K "Town") "wards" (He.ma K (He.ga K "Town") "wards"), fun K => propB K (He.ga K "Signs") "names" (He.ma K (He.ga K "Signs") "names") (pgA K (He.ga K "Signs") "names"), fun K => propB K (He.ga K "Lane") "ends" (He.ma K (He.ga K "Street") "ends") (pgA K (He.ga K "Street") "ends"), fun K => propB K (He.ga K "Avenue") "ends" (He.ma K (He.ga K "Street") "ends") (pgA K (He.ga K "Street") "ends"), fun K => propB K (He.ga K "Road") "ends" (He.ma K (He.ga K "Street") "ends") (pgA K (He.ga K "Street") "ends"), fun K => propB K (He.ga K "Ward") "corners" (He.ma K (He.ga K "Ward") "corners") (pgA K (He.ga K "Ward") "corners"), fun K => propB K (He.ga K "Town") "streets" (He.ma K (He.ga K "Town") "streets") (pgA K (He.ga K "Town") "streets"), fun K => propB K (He.ga K "Town") "corners" (He.ma K (He.ga K "Town") "corners") (pgA K (He.ga K "Town") "corners"), fun K => propB K (He.ga K "Town") "roads" (He.ma K (He.ga K "Town") "roads") (pgA K (He.ga K "Town") "roads")]
def fa2_2 : List (Fg → Bool) := [fun K => mkB K (He.ga K "Signs") (He.ma K (He.ga K "Signs") "__init__"), fun K => mkB K (He.ga K "Lane") (He.ma K (He.ga K "Lane") "__init__"), fun K => mkB K (He.ga K "Avenue") (He.ma K (He.ga K "Avenue") "__init__"), fun K => mkB K (He.ga K "Road") (He.ma K (He.ga K "Road") "__init__"), fun K => mkB K (He.ga K "Ward") (He.ma K (He.ga K "Ward") "__init__"), fun K => mkB K (He.ga K "Town") (He.ma K (He.ga K "Town") "__init__"), fun K => binB K (He.ga K "Ward") (He.ma K (He.ga K "Ward") "__or__") .BitOr, fun K => binB K (He.ga K "Ward") (He.ma K (He.ga K "Ward") "__and__") .BitAnd, fun K => binB K (He.ga K "Town") (He.ma K (He.ga K "Town") "__or__") .BitOr, fun K => Own.noNum K (He.ga K "Lane") (Operator.BitOr.info.2), fun K => neB (He.ga K "Town") (He.ga K "Lane"), fun K => eqcB K (He.ga K "Lane") (He.ma K (He.ga K "Lane") "__eq__"), fun K => Own.noNum K (He.ga K "Avenue") (Operator.BitOr.info.2), fun K => neB (He.ga K "Town") (He.ga K "Avenue"), fun K => eqcB K (He.ga K "Avenue") (He.ma K (He.ga K "Avenue") "__eq__"), fun K => Own.noNum K (He.ga K "Road") (Operator.BitOr.info.2), fun K => neB (He.ga K "Town") (He.ga K "Road"), fun K => eqcB K (He.ga K "Road") (He.ma K (He.ga K "Road") "__eq__"), fun K => neB (He.ga K "Lane") (He.ga K "Avenue"), fun K => neB (He.ga K "Lane") (He.ga K "Road")]
def fa2_3 : List (Fg → Bool) := [fun K => neB (He.ga K "Avenue") (He.ga K "Road"), fun K => opcB K (He.ga K "Ward") "__le__" (He.ma K (He.ga K "Ward") "__le__"), fun K => opcB K (He.ga K "Signs") "__contains__" (He.ma K (He.ga K "Signs") "__contains__"), fun K => opcB K (He.ga K "Town") "__contains__" (He.ma K (He.ga K "Town") "__contains__"), fun K => opcB K (He.ga K "Signs") "__getitem__" (He.ma K (He.ga K "Signs") "__getitem__"), fun K => opcB K (He.ga K "Town") "__getitem__" (He.ma K (He.ga K "Town") "__getitem__"), fun K => opcB K (He.ga K "Town") "__len__" (He.ma K (He.ga K "Town") "__len__"), fun K => opcB K (He.ga K "Ward") "__str__" (He.ma K (He.ga K "Ward") "__str__"), fun K => kitB K (He.ga K "Lane") (He.ga K "Street") true, fun K => kitB K (He.ga K "Lane") (He.ga K "Lane") true, fun K => kitB K (He.ga K "Lane") (He.ga K "Avenue") false, fun K => kitB K (He.ga K "Lane") (He.ga K "Road") false, fun K => kitB K (He.ga K "Avenue") (He.ga K "Street") true, fun K => kitB K (He.ga K "Avenue") (He.ga K "Lane") false, fun K => kitB K (He.ga K "Avenue") (He.ga K "Avenue") true, fun K => kitB K (He.ga K "Avenue") (He.ga K "Road") false, fun K => kitB K (He.ga K "Road") (He.ga K "Street") true, fun K => kitB K (He.ga K "Road") (He.ga K "Lane") false, fun K => kitB K (He.ga K "Road") (He.ga K "Avenue") false, fun K => kitB K (He.ga K "Road") (He.ga K "Road") true]
def fa2_4 : List (Fg → Bool) := [fun K => kitB K (He.ga K "Town") (He.ga K "Town") true, fun K => kitB K (He.ga K "Town") (He.ga K "Place") true, fun K => kitB K (He.ga K "Signs") (He.ga K "Signs") true, fun K => kitB K (He.ga K "Ward") (He.ga K "Ward") true, fun K => cvalB K (He.ga K "Town") "CORNERS" 7, fun K => cvalB K (He.ga K "Town") "STREETS" 14]
def fa2 : List (Fg → Bool) := fa2_0 ++ (fa2_1 ++ (fa2_2 ++ (fa2_3 ++ (fa2_4))))
def fn2_0 : List DefQ := [dq52, dq53, dq54, dq55, dq56, dq57, dq58, dq59, dq60, dq61, dq62, dq63, dq64, dq65, dq66, dq67, dq68, dq69, dq70, dq71]
def fn2_1 : List DefQ := [dq72, dq73, dq74, dq75, dq76]
def fn2 : List DefQ := fn2_0 ++ (fn2_1)
def fa : List (Fg → Bool) := fa0 ++ (fa1 ++ (fa2))
def fn : List DefQ := fn0 ++ (fn1 ++ (fn2))
def clN : List Str := [("Place" : PySem.Str), ("Signs" : PySem.Str), ("Street" : PySem.Str), ("Settled" : PySem.Str), ("Even" : PySem.Str), ("Lane" : PySem.Str), ("Avenue" : PySem.Str), ("Road" : PySem.Str), ("Ward" : PySem.Str), ("Town" : PySem.Str)]
def fnN1 : List Str := [("is_int" : PySem.Str), ("is_between" : PySem.Str), ("is_name" : PySem.Str), ("is_price" : PySem.Str), ("is_need" : PySem.Str), ("is_sign" : PySem.Str), ("need_ends" : PySem.Str), ("need_prices" : PySem.Str), ("need_place" : PySem.Str), ("gathered" : PySem.Str), ("picks" : PySem.Str), ("need_town" : PySem.Str), ("need_fit" : PySem.Str), ("need_need" : PySem.Str), ("need_ward" : PySem.Str), ("need_streets" : PySem.Str), ("arcs" : PySem.Str), ("count_into" : PySem.Str), ("into" : PySem.Str), ("weakest" : PySem.Str)]
def fnN2 : List Str := [("is_good" : PySem.Str), ("need_good" : PySem.Str), ("narrow_wards" : PySem.Str), ("_law_pen" : PySem.Str), ("_law_draw" : PySem.Str), ("_law_pick" : PySem.Str), ("_law_titles" : PySem.Str), ("_law_pairs" : PySem.Str), ("_law_price" : PySem.Str), ("_law_site" : PySem.Str), ("_law_town" : PySem.Str), ("_law_told" : PySem.Str), ("_law_bent" : PySem.Str), ("_law_triples" : PySem.Str), ("_law_spots" : PySem.Str), ("_law_groups" : PySem.Str), ("_law_enter" : PySem.Str), ("_law_weakest" : PySem.Str), ("_law_cross" : PySem.Str), ("law" : PySem.Str)]
def fnN : List Str := fnN1 ++ fnN2
def names1 : List PySem.Str := [("_wall" : PySem.Str), ("TownError" : PySem.Str), ("BadInput" : PySem.Str), ("Refused" : PySem.Str), ("NoAnswer" : PySem.Str), ("BadName" : PySem.Str), ("BadPrice" : PySem.Str), ("BadNeed" : PySem.Str), ("BadStreet" : PySem.Str), ("BadTown" : PySem.Str), ("BadWard" : PySem.Str), ("BadSigns" : PySem.Str), ("BadText" : PySem.Str), ("NoCorner" : PySem.Str), ("NoStreet" : PySem.Str), ("NoSign" : PySem.Str), ("Unlike" : PySem.Str), ("TooMany" : PySem.Str), ("NotGood" : PySem.Str), ("Empty" : PySem.Str), ("LETTERS" : PySem.Str), ("MOST_LETTERS" : PySem.Str), ("MOST_PRICE" : PySem.Str), ("MOST_NEED" : PySem.Str), ("is_int" : PySem.Str), ("is_between" : PySem.Str), ("is_name" : PySem.Str), ("is_price" : PySem.Str), ("is_need" : PySem.Str), ("Place" : PySem.Str), ("MOST_SIGNS" : PySem.Str), ("PAIR" : PySem.Str), ("is_sign" : PySem.Str), ("need_signs" : PySem.Str), ("Signs" : PySem.Str)]
def names2 : List PySem.Str := [("FIGURES" : PySem.Str), ("MOST_FIGURES" : PySem.Str), ("need_ends" : PySem.Str), ("need_prices" : PySem.Str), ("Street" : PySem.Str), ("Settled" : PySem.Str), ("Even" : PySem.Str), ("Lane" : PySem.Str), ("Avenue" : PySem.Str), ("Road" : PySem.Str), ("words_of" : PySem.Str), ("price_in" : PySem.Str), ("need_word" : PySem.Str), ("word_at" : PySem.Str), ("street_in" : PySem.Str), ("MOST_CORNERS" : PySem.Str), ("COMMA" : PySem.Str), ("need_place" : PySem.Str), ("corners_in" : PySem.Str), ("Ward" : PySem.Str), ("gathered" : PySem.Str), ("picks" : PySem.Str), ("Town" : PySem.Str), ("need_town" : PySem.Str), ("need_fit" : PySem.Str), ("need_need" : PySem.Str), ("need_ward" : PySem.Str), ("need_streets" : PySem.Str), ("arcs" : PySem.Str), ("count_into" : PySem.Str), ("into" : PySem.Str), ("weakest" : PySem.Str), ("is_good" : PySem.Str), ("need_good" : PySem.Str), ("narrow_wards" : PySem.Str)]
def names3 : List PySem.Str := [("_law_pen" : PySem.Str), ("_law_draw" : PySem.Str), ("_law_pick" : PySem.Str), ("_law_titles" : PySem.Str), ("_law_pairs" : PySem.Str), ("_law_price" : PySem.Str), ("_law_site" : PySem.Str), ("_law_town" : PySem.Str), ("_law_told" : PySem.Str), ("_law_bent" : PySem.Str), ("_law_triples" : PySem.Str), ("_law_spots" : PySem.Str), ("_law_groups" : PySem.Str), ("_law_enter" : PySem.Str), ("_law_weakest" : PySem.Str), ("_law_cross" : PySem.Str)]
def names : List PySem.Str := names1 ++ (names2 ++ names3)
abbrev R : PySem.W.OpenRow := PySem.W.OpenLaw.row PySem.Challenge.rw_signtown_k45_whole_narrow_wards_meet
abbrev qv : Program := PySem.W.view R.prog [98]
abbrev hk : PySem.W.Hook := hookQ (asN clN fnN) fa fn
def ob (s : PySem.W.SharedT) : AlQ := obsQG (asN clN fnN) fa fn (HandSHeadRun.getT s)
theorem ob_eq (s : PySem.W.SharedT) : ob s = hk.obs s.abs := obsQG_eq (HandSHeadRun.getT_eq s)
def obP (fa : List (Fg → Bool)) (fn : List DefQ) (s : PySem.W.SharedT) : AlQ := obsQG (asN clN fnN) fa fn (HandSHeadRun.getT s)
/-- what one run tells of a part of the facts -/
def RunP (fa : List (Fg → Bool)) (fn : List DefQ) (w : World) : Prop :=
  ∀ os : OsState, (HandSHeadRun.endF (HandSHeadRun.stepQ (HandSHeadRun.denQ HandSHeadRun.tabQ) R.prog w) 14000 R.prog w os).map (obP fa fn) = some (valQ fn)
theorem obP_app {fa1 fa2 : List (Fg → Bool)} {fn1 fn2 : List DefQ} {s : PySem.W.SharedT} (h1 : obP fa1 fn1 s = valQ fn1) (h2 : obP fa2 fn2 s = valQ fn2) : obP (fa1 ++ fa2) (fn1 ++ fn2) s = valQ (fn1 ++ fn2) := by
  unfold obP obsQG obsQ valQ at h1 h2 ⊢
  rw [Prod.mk.injEq] at h1 h2
  rw [List.all_append, List.map_append, List.map_append, h1.1, h1.2, h2.1, h2.2]
  rfl
theorem run_join {α : Type} {x : Option PySem.W.SharedT} {f : PySem.W.SharedT → α} {a : α} {fa1 fa2 : List (Fg → Bool)} {fn1 fn2 : List DefQ} (h1 : x.map (fun s => (f s, obP fa1 fn1 s)) = some (a, valQ fn1)) (h2 : x.map (obP fa2 fn2) = some (valQ fn2)) :
    x.map (fun s => (f s, obP (fa1 ++ fa2) (fn1 ++ fn2) s)) = some (a, valQ (fn1 ++ fn2)) := by
  cases x with
  | none => cases h1
  | some s =>
    have h1 : (f s, obP fa1 fn1 s) = (a, valQ fn1) := Option.some.inj h1
    have h2 : obP fa2 fn2 s = valQ fn2 := Option.some.inj h2
    rw [Prod.mk.injEq] at h1
    show some (f s, obP (fa1 ++ fa2) (fn1 ++ fn2) s) = _
    rw [h1.1, obP_app h1.2 h2]
end HdT
/-! ## HeadR0 -/
namespace HdT
open PySem PySem.W PySem.Calls PyProof.Rows
theorem run0 (w : World) : HandSHeadRun.RunEq R qv (Fx.hookQ (Fx.asN clN fnN) fa0 fn0) (obP fa0 fn0) 14000 names w := by
  intro os
  kernel_rfl
end HdT
/-! ## HeadR1 -/
namespace HdT
open PySem PySem.W PySem.Calls PyProof.Rows
theorem run1 (w : World) : RunP fa1 fn1 w := by
  intro os
  kernel_rfl
end HdT
/-! ## HeadR2 -/
namespace HdT
open PySem PySem.W PySem.Calls PyProof.Rows
theorem run2 (w : World) : RunP fa2 fn2 w := by
  intro os
  kernel_rfl
end HdT
/-! ## GenSim -/
set_option maxHeartbeats 2000000
/-! Sleeping generators stay asleep while code runs that never wakes them. -/
namespace GSim
open PySem
open Sem (wp)
/-- a sleeper that cannot be woken -/
def bomb : GenState → GenState
  | .suspended _ l c p fs cl => .suspended (fun _ => .unsupported "") l c p fs cl
  | g => g
def isSusp : GenState → Bool
  | .suspended .. => true
  | _ => false
theorem bomb_seen (g : GenState) : (bomb g).seen = g.seen := by cases g <;> rfl
theorem bomb_bare (g : GenState) : (bomb g).bare = g.bare := by cases g <;> rfl
theorem bomb_not {g : GenState} (h : isSusp g = false) : bomb g = g := by cases g <;> first | rfl | cases h
/-- index i held a sleeper at the start -/
def Asl (R : Array GenState) (i : Nat) : Prop := ∃ st, R[i]? = some st ∧ isSusp st = true
def cleanFs (fs : List Frame) : Prop := splitAtGen fs = none
/-- s: the sleepers of R are bombs; s': they are as they were -/
structure Sim (R : Array GenState) (s s' : Shared) : Prop where
  heap : s.heap = s'.heap
  drawn : s.drawn = s'.drawn
  toks : s.toks = s'.toks
  os : s.os = s'.os
  size : s.gens.size = s'.gens.size
  le : R.size ≤ s.gens.size
  slept : ∀ i, Asl R i → s'.gens[i]? = R[i]? ∧ s.gens[i]? = (R[i]?).map bomb
  rest : ∀ i, ¬ Asl R i → s.gens[i]? = s'.gens[i]?
  clean : ∀ i k l c p fs cl, ¬ Asl R i → s.gens[i]? = some (.suspended k l c p fs cl) → cleanFs fs
  runs : ∀ i : Nat, R[i]? = some .running → s.gens[i]? = some .running
section
variable {R : Array GenState} {s s' : Shared}
theorem Sim.heap_to (z : Sim R s s') (h : Heap) : Sim R { s with heap := h } { s' with heap := h } :=
  ⟨rfl, z.drawn, z.toks, z.os, z.size, z.le, z.slept, z.rest, z.clean, z.runs⟩
theorem Sim.drawn_to (z : Sim R s s') (h : Drawn) : Sim R { s with drawn := h } { s' with drawn := h } :=
  ⟨z.heap, rfl, z.toks, z.os, z.size, z.le, z.slept, z.rest, z.clean, z.runs⟩
theorem Sim.toks_to (z : Sim R s s') (h : Nat) : Sim R { s with toks := h } { s' with toks := h } :=
  ⟨z.heap, z.drawn, rfl, z.os, z.size, z.le, z.slept, z.rest, z.clean, z.runs⟩
theorem Sim.os_to (z : Sim R s s') (h : OsState) : Sim R { s with os := h } { s' with os := h } :=
  ⟨z.heap, z.drawn, z.toks, rfl, z.size, z.le, z.slept, z.rest, z.clean, z.runs⟩
theorem Sim.lt {i : Nat} (z : Sim R s s') (h : Asl R i) : i < s.gens.size := by
  obtain ⟨st, e, _⟩ := h
  exact Nat.lt_of_lt_of_le (Array.getElem?_eq_some_iff.mp e).1 z.le
theorem Sim.push (z : Sim R s s') (c : Code) : Sim R { s with gens := s.gens.push (.fresh c) } { s' with gens := s'.gens.push (.fresh c) } := by
  refine ⟨z.heap, z.drawn, z.toks, z.os, by simp [z.size], by simp; have := z.le; omega, fun i hi => ?_, fun i hi => ?_, fun i k l c' p fs cl hi e => ?_, fun i hi => ?_⟩
  rotate_right
  · have q := z.runs i hi
    have lt := (Array.getElem?_eq_some_iff.mp q).1
    rw [← q]; exact Array.getElem?_push_lt lt |>.trans (Array.getElem?_eq_getElem lt).symm
  · have h1 := z.lt hi
    obtain ⟨a, b⟩ := z.slept i hi
    constructor
    · rw [← a]; exact Array.getElem?_push_lt (by rw [← z.size]; exact h1) |>.trans (Array.getElem?_eq_getElem (by rw [← z.size]; exact h1)).symm
    · rw [← b]; exact Array.getElem?_push_lt h1 |>.trans (Array.getElem?_eq_getElem h1).symm
  · have q := z.rest i hi
    show (s.gens.push _)[i]? = (s'.gens.push _)[i]?
    rw [Array.getElem?_push, Array.getElem?_push, z.size, q]
  · have e : (s.gens.push (.fresh c))[i]? = some (.suspended k l c' p fs cl) := e
    rw [Array.getElem?_push] at e
    split at e
    · cases e
    · exact z.clean i k l c' p fs cl hi e
theorem Sim.set {g : Nat} {x : GenState} (z : Sim R s s') (hg : ¬ Asl R g ∧ R[g]? ≠ some .running) (hx : ∀ k l c p fs cl, x = .suspended k l c p fs cl → cleanFs fs) : Sim R (s.setGen g x) (s'.setGen g x) := by
  have ne : ∀ i, Asl R i → g ≠ i := fun i hi e => hg.1 (e ▸ hi)
  refine ⟨z.heap, z.drawn, z.toks, z.os, by simp [Shared.setGen, z.size], by simp [Shared.setGen]; exact z.le, fun i hi => ?_, fun i hi => ?_, fun i k l c' p fs cl hi e => ?_, fun i hi => ?_⟩
  rotate_right
  · have n : g ≠ i := fun e => hg.2 (e ▸ hi)
    rw [← z.runs i hi]; exact Array.getElem?_setIfInBounds_ne n
  · obtain ⟨a, b⟩ := z.slept i hi
    constructor
    · rw [← a]; exact Array.getElem?_setIfInBounds_ne (ne i hi)
    · rw [← b]; exact Array.getElem?_setIfInBounds_ne (ne i hi)
  · show (s.gens.setIfInBounds g x)[i]? = (s'.gens.setIfInBounds g x)[i]?
    rw [Array.getElem?_setIfInBounds, Array.getElem?_setIfInBounds, z.size, z.rest i hi]
  · have e : (s.gens.setIfInBounds g x)[i]? = some (.suspended k l c' p fs cl) := e
    rw [Array.getElem?_setIfInBounds] at e
    split at e
    · split at e
      · exact hx _ _ _ _ _ _ (Option.some.inj e)
      · cases e
    · exact z.clean i k l c' p fs cl hi e
/-- what stands at g, seen from the bombed side -/
theorem Sim.at_fresh {g : Nat} {st : GenState} (z : Sim R s s') (e : s.gens[g]? = some st) (h : isSusp st = false) (h2 : st ≠ .running) : (¬ Asl R g ∧ R[g]? ≠ some .running) ∧ s'.gens[g]? = some st := by
  have nr : R[g]? ≠ some .running := fun q => by
    have := z.runs g q
    rw [e] at this
    exact h2 (Option.some.inj this)
  have n : ¬ Asl R g := fun hi => by
    obtain ⟨_, b⟩ := z.slept g hi
    obtain ⟨st', e', h'⟩ := hi
    rw [e, e'] at b
    have : st = bomb st' := Option.some.inj b
    subst this
    cases st' <;> cases h' <;> cases h
  exact ⟨⟨n, nr⟩, by rw [← z.rest g n]; exact e⟩
theorem Sim.at_run {g : Nat} (z : Sim R s s') (e : s.gens[g]? = some .running) : s'.gens[g]? = some .running := by
  have n : ¬ Asl R g := fun hi => by
    obtain ⟨_, b⟩ := z.slept g hi
    obtain ⟨st', e', h'⟩ := hi
    rw [e, e'] at b
    have : GenState.running = bomb st' := Option.some.inj b
    cases st' <;> cases h' <;> cases this
  rw [← z.rest g n]; exact e
theorem Sim.seen {g : Nat} {st : GenState} (z : Sim R s s') (e : s.gens[g]? = some st) : ∃ st', s'.gens[g]? = some st' ∧ st'.seen = st.seen := by
  by_cases hi : Asl R g
  · obtain ⟨a, b⟩ := z.slept g hi
    obtain ⟨st', e', h'⟩ := hi
    rw [e, e'] at b
    have : st = bomb st' := Option.some.inj b
    subst this
    exact ⟨st', by rw [a]; exact e', (bomb_seen st').symm⟩
  · exact ⟨st, by rw [← z.rest g hi]; exact e, rfl⟩
theorem Sim.at_susp {g : Nat} {k l c p fs cl} (z : Sim R s s') (e : s.gens[g]? = some (.suspended k l c p fs cl)) : (∃ w, k = fun _ => .unsupported w) ∨ ((¬ Asl R g ∧ R[g]? ≠ some .running) ∧ s'.gens[g]? = some (.suspended k l c p fs cl) ∧ cleanFs fs) := by
  by_cases hi : Asl R g
  · obtain ⟨a, b⟩ := z.slept g hi
    obtain ⟨st', e', h'⟩ := hi
    rw [e, e'] at b
    have q : GenState.suspended k l c p fs cl = bomb st' := Option.some.inj b
    cases st' with
    | suspended k' l' c' p' fs' cl' =>
      simp only [bomb] at q
      injection q with q1
      exact .inl ⟨_, q1⟩
    | fresh c => cases h'
    | running => cases h'
    | finished => cases h'
  · refine .inr ⟨⟨hi, fun q => ?_⟩, by rw [← z.rest g hi]; exact e, z.clean g k l c p fs cl hi e⟩
    have := z.runs g q
    rw [e] at this
    cases this
end
theorem no_run {M : Model} {Γ : Ctx} {p : Pos} {w : String} {fs : List Frame} {s s1 : Shared} {e : End} (h : Runs M Γ p (.unsupported w) fs s e s1) : False := by
  have h0 : ∀ {Γ : Ctx} {s s1 : Shared} {e : End}, Runs M Γ p (.unsupported w) [] s e s1 → False := fun h => by cases h
  cases h with
  | segRet h1 _ => exact h0 h1
  | segGen h1 _ => exact h0 h1
  | segSuspOut _ h1 => exact h0 h1
  | segSuspGen _ h1 _ _ => exact h0 h1
theorem clean_cons {k h g l c p kp fs} (hc : cleanFs (Frame.ret k h g l c p kp :: fs)) : cleanFs fs := by
  unfold cleanFs at hc ⊢
  unfold splitAtGen at hc
  cases q : splitAtGen fs with
  | none => rfl
  | some x => rw [q] at hc; simp at hc
theorem clean_app : ∀ {fs gs : List Frame}, cleanFs fs → cleanFs gs → cleanFs (fs ++ gs)
  | [], _, _, h => h
  | .gen .. :: _, _, h, _ => by unfold cleanFs splitAtGen at h; cases h
  | .ret .. :: fs, gs, h, h2 => by
    have q := clean_app (clean_cons h) h2
    unfold cleanFs at q ⊢
    show (splitAtGen (fs ++ gs)).map _ = none
    rw [q]; rfl
theorem clean_one {k h g l c p kp} : cleanFs [Frame.ret k h g l c p kp] := rfl
theorem clean_gen {g k l c p fs} (h : cleanFs (Frame.gen g k l c p :: fs)) : False := by unfold cleanFs splitAtGen at h; cases h
def EndOk : End → Prop
  | .ret _ => True
  | .susp _ _ _ _ _ _ fs => cleanFs fs
theorem endOk_state {e : End} (h : EndOk e) : ∀ k l c p fs cl, e.genState = .suspended k l c p fs cl → cleanFs fs := by
  intro k l c p fs cl q
  cases e with
  | ret r => cases q
  | susp v g l' k' c' p' fs' =>
    injection q with _ _ _ _ q5 _
    subst q5
    exact h
theorem not_susp : ∀ k l c p fs cl, GenState.running = .suspended k l c p fs cl → cleanFs fs := fun _ _ _ _ _ _ q => nomatch q
theorem not_susp2 : ∀ k l c p fs cl, GenState.finished = .suspended k l c p fs cl → cleanFs fs := fun _ _ _ _ _ _ q => nomatch q
theorem runs_sim {M : Model} {R : Array GenState} {Γ : Ctx} {p : Pos} {t : Sem Fin} {fs : List Frame} {s s1 : Shared} {e : End} (h : Runs M Γ p t fs s e s1) :
    ∀ s', cleanFs fs → Sim R s s' → ∃ s1', Runs M Γ p t fs s' e s1' ∧ Sim R s1 s1' ∧ EndOk e := by
  induction h with
  | done => intro s' _ z; exact ⟨s', .done, z, trivial⟩
  | raise => intro s' _ z; exact ⟨s', .raise, z, trivial⟩
  | again hq _ ih => intro s' hc z; obtain ⟨s2, r, z2, k⟩ := ih s' hc z; exact ⟨s2, .again hq r, z2, k⟩
  | rule _ ih => intro s' hc z; obtain ⟨s2, r, z2, k⟩ := ih s' hc z; exact ⟨s2, .rule r, z2, k⟩
  | «at» _ ih => intro s' hc z; obtain ⟨s2, r, z2, k⟩ := ih s' hc z; exact ⟨s2, .at r, z2, k⟩
  | load ho _ ih => intro s' hc z; obtain ⟨s2, r, z2, k⟩ := ih s' hc z; exact ⟨s2, .load (by rw [← z.heap]; exact ho) r, z2, k⟩
  | @update Γ p k f part s e s1 a ha _ ih =>
    intro s' hc z
    obtain ⟨s2, r, z2, kk⟩ := ih _ hc (z.heap_to _)
    exact ⟨s2, .update (by rw [← z.heap]; exact ha) (by rw [← z.heap]; exact r), z2, kk⟩
  | loadIfAlive _ ih => intro s' hc z; obtain ⟨s2, r, z2, k⟩ := ih s' hc z; exact ⟨s2, .loadIfAlive (by rw [← z.heap]; exact r), z2, k⟩
  | point _ ih => intro s' hc z; obtain ⟨s2, r, z2, k⟩ := ih s' hc z; exact ⟨s2, .point r, z2, k⟩
  | alloc _ ih => intro s' hc z; obtain ⟨s2, r, z2, k⟩ := ih _ hc (z.heap_to _); exact ⟨s2, .alloc (by rw [← z.heap]; exact r), z2, k⟩
  | fresh _ ih => intro s' hc z; obtain ⟨s2, r, z2, k⟩ := ih _ hc (z.toks_to _); exact ⟨s2, .fresh (by rw [← z.toks]; exact r), z2, k⟩
  | ask _ ih => intro s' hc z; obtain ⟨s2, r, z2, k⟩ := ih s' hc z; exact ⟨s2, .ask r, z2, k⟩
  | choose hn _ ih => intro s' hc z; obtain ⟨s2, r, z2, k⟩ := ih _ hc (z.drawn_to _); exact ⟨s2, .choose hn (by rw [← z.drawn]; exact r), z2, k⟩
  | os _ ih => intro s' hc z; obtain ⟨s2, r, z2, k⟩ := ih _ hc (z.os_to _); exact ⟨s2, .os (by rw [← z.os]; exact r), z2, k⟩
  | handled _ ih => intro s' hc z; obtain ⟨s2, r, z2, k⟩ := ih s' hc z; exact ⟨s2, .handled r, z2, k⟩
  | genState hg _ ih =>
    intro s' hc z
    obtain ⟨st', e', hs⟩ := z.seen hg
    obtain ⟨s2, r, z2, k⟩ := ih s' hc z
    exact ⟨s2, .genState e' (by rw [hs]; exact r), z2, k⟩
  | stack _ ih => intro s' hc z; obtain ⟨s2, r, z2, k⟩ := ih s' hc z; exact ⟨s2, .stack r, z2, k⟩
  | thread _ ih => intro s' hc z; obtain ⟨s2, r, z2, k⟩ := ih s' hc z; exact ⟨s2, .thread r, z2, k⟩
  | newGen _ ih => intro s' hc z; obtain ⟨s2, r, z2, k⟩ := ih _ hc (z.push _); exact ⟨s2, .newGen (by rw [← z.size]; exact r), z2, k⟩
  | call _ _ ih1 ih2 =>
    intro s' hc z
    obtain ⟨s2, r, z2, _⟩ := ih1 s' rfl z
    obtain ⟨s3, r2, z3, k⟩ := ih2 s2 hc z2
    exact ⟨s3, .call r r2, z3, k⟩
  | callSusp _ ih =>
    intro s' hc z
    obtain ⟨s2, r, z2, k⟩ := ih s' rfl z
    exact ⟨s2, .callSusp r, z2, clean_app k clean_one⟩
  | yield => intro s' hc z; exact ⟨s', .yield, z, rfl⟩
  | resumeFresh hg _ hq _ ih1 ih2 =>
    intro s' hc z
    obtain ⟨n, e'⟩ := z.at_fresh hg rfl (fun q => nomatch q)
    obtain ⟨s2, r, z2, k⟩ := ih1 _ rfl (z.set n not_susp)
    obtain ⟨s3, r2, z3, k2⟩ := ih2 _ hc (z2.set n (endOk_state k))
    exact ⟨s3, .resumeFresh e' r hq r2, z3, k2⟩
  | resumeSuspended hg hr hq _ ih1 ih2 =>
    intro s' hc z
    rcases z.at_susp hg with ⟨w, rfl⟩ | ⟨n, e', cl⟩
    · exact (no_run hr).elim
    · obtain ⟨s2, r, z2, k⟩ := ih1 _ cl (z.set n not_susp)
      obtain ⟨s3, r2, z3, k2⟩ := ih2 _ hc (z2.set n (endOk_state k))
      exact ⟨s3, .resumeSuspended e' r hq r2, z3, k2⟩
  | resumeJustStarted hg hv _ ih =>
    intro s' hc z
    obtain ⟨n, e'⟩ := z.at_fresh hg rfl (fun q => nomatch q)
    obtain ⟨s2, r, z2, k⟩ := ih s' hc z
    exact ⟨s2, .resumeJustStarted e' hv r, z2, k⟩
  | resumeThrowFresh hg _ ih =>
    intro s' hc z
    obtain ⟨n, e'⟩ := z.at_fresh hg rfl (fun q => nomatch q)
    obtain ⟨s2, r, z2, k⟩ := ih _ hc (z.set n not_susp2)
    exact ⟨s2, .resumeThrowFresh e' r, z2, k⟩
  | resumeRunning hg _ ih =>
    intro s' hc z
    have e' := z.at_run hg
    obtain ⟨s2, r, z2, k⟩ := ih s' hc z
    exact ⟨s2, .resumeRunning e' r, z2, k⟩
  | resumeFinished hg _ ih =>
    intro s' hc z
    obtain ⟨n, e'⟩ := z.at_fresh hg rfl (fun q => nomatch q)
    obtain ⟨s2, r, z2, k⟩ := ih s' hc z
    exact ⟨s2, .resumeFinished e' r, z2, k⟩
  | segRet _ _ ih1 ih2 =>
    intro s' hc z
    obtain ⟨s2, r, z2, _⟩ := ih1 s' rfl z
    obtain ⟨s3, r2, z3, k⟩ := ih2 s2 (clean_cons hc) z2
    exact ⟨s3, .segRet r r2, z3, k⟩
  | segGen _ _ _ _ => intro s' hc z; exact (clean_gen hc).elim
  | segSuspOut hs _ ih =>
    intro s' hc z
    obtain ⟨s2, r, z2, k⟩ := ih s' rfl z
    exact ⟨s2, .segSuspOut hs r, z2, clean_app k hc⟩
  | segSuspGen hs _ _ _ _ _ => intro s' hc z; unfold cleanFs at hc; rw [hs] at hc; cases hc
theorem wakes_sim {M : Model} {R : Array GenState} {Γ : Ctx} {p : Pos} {g : Nat} {r : Resume} {res : GenResult} {s s1 : Shared} (h : Wakes M Γ p g r s res s1) :
    ∀ s', Sim R s s' → ∃ s1', Wakes M Γ p g r s' res s1' ∧ Sim R s1 s1' := by
  intro s' z
  unfold Wakes at h
  split at h
  · exact h.elim
  · rename_i c hg
    obtain ⟨n, e'⟩ := z.at_fresh hg rfl (fun q => nomatch q)
    split at h
    · obtain ⟨e1, s2, hr, hq, h1, h2⟩ := h
      obtain ⟨s3, r3, z3, k⟩ := runs_sim hr _ rfl (z.set n not_susp)
      subst h2
      exact ⟨_, by unfold Wakes; rw [e']; exact ⟨e1, s3, r3, hq, h1, rfl⟩, z3.set n (endOk_state k)⟩
    · obtain ⟨h1, h2⟩ := h
      subst h2
      refine ⟨s', ?_, z⟩
      unfold Wakes; rw [e']
      rename_i v hne
      cases v <;> first | exact (hne rfl).elim | exact ⟨h1, rfl⟩
    · obtain ⟨h1, h2⟩ := h
      subst h2
      exact ⟨_, by unfold Wakes; rw [e']; exact ⟨h1, rfl⟩, z.set n not_susp2⟩
  · rename_i k0 l0 c0 p0 fs0 cl0 hg
    obtain ⟨e1, s2, hr, hq, h1, h2⟩ := h
    subst h2
    rcases z.at_susp hg with ⟨w, rfl⟩ | ⟨n, e', cl⟩
    · exact (no_run hr).elim
    · obtain ⟨s3, r3, z3, k⟩ := runs_sim hr _ cl (z.set n not_susp)
      exact ⟨_, by unfold Wakes; rw [e']; exact ⟨e1, s3, r3, hq, h1, rfl⟩, z3.set n (endOk_state k)⟩
  · rename_i hg
    have e' := z.at_run hg
    obtain ⟨h1, h2⟩ := h
    subst h2
    exact ⟨s', by unfold Wakes; rw [e']; exact ⟨h1, rfl⟩, z⟩
  · rename_i hg
    obtain ⟨n, e'⟩ := z.at_fresh hg rfl (fun q => nomatch q)
    obtain ⟨h1, h2⟩ := h
    subst h2
    exact ⟨s', by unfold Wakes; rw [e']; exact ⟨h1, rfl⟩, z⟩
theorem wp_sim {α : Type} (M : Model) (R : Array GenState) (Γ : Ctx) (t : Sem α) : ∀ (Q : α → Pos → Shared → Prop) (E : Value → Pos → Shared → Prop) (p : Pos) (s s' : Shared), Sim R s s' → wp M Γ t Q E p s →
    wp M Γ t (fun a p' u' => ∃ u, Sim R u u' ∧ Q a p' u) (fun e p' u' => ∃ u, Sim R u u' ∧ E e p' u) p s' := by
  induction t with
  | pure a => intro Q E p s s' z h; exact ⟨s, z, h⟩
  | raise e => intro Q E p s s' z h; exact ⟨s, z, h⟩
  | unsupported _ => intro Q E p s s' _ h; exact h
  | finish _ => intro Q E p s s' _ h; exact h
  | rule _ k ih => intro Q E p s s' z h; exact ih () Q E p s s' z h
  | «at» p' k ih => intro Q E p s s' z h; exact ih () Q E p' s s' z h
  | load a _ k ih => intro Q E p s s' z h; obtain ⟨o, ho, h⟩ := h; exact ⟨o, by rw [← z.heap]; exact ho, ih o Q E p s s' z h⟩
  | update a _ f k ih =>
    intro Q E p s s' z h
    refine ⟨by rw [← z.heap]; exact h.1, ?_⟩
    have q := ih () Q E p _ _ (z.heap_to (s.heap.update a f)) h.2
    rw [z.heap] at q
    exact q
  | loadIfAlive a k ih => intro Q E p s s' z h; have q := ih _ Q E p s s' z h; rw [z.heap] at q; exact q
  | point _ k ih => intro Q E p s s' z h; exact ih () Q E p s s' z h
  | register _ _ => intro Q E p s s' _ h; exact h
  | alloc o k ih =>
    intro Q E p s s' z h
    have q := ih _ Q E p _ _ (z.heap_to (s.heap.push o)) h
    rw [z.heap] at q
    exact q
  | fresh k ih =>
    intro Q E p s s' z h
    have q := ih _ Q E p _ _ (z.toks_to (s.toks + 1)) h
    rw [z.toks] at q
    exact q
  | ask k ih => intro Q E p s s' z h; exact ih _ Q E p s s' z h
  | choose src m k ih =>
    intro Q E p s s' z h
    refine ⟨h.1, ?_⟩
    have q := ih _ Q E p _ _ (z.drawn_to (s.drawn.bump src)) h.2
    rw [z.drawn] at q
    exact q
  | os q _ k ih =>
    intro Q E p s s' z h
    have q := ih _ Q E p _ _ (z.os_to _) h
    rw [z.os] at q
    exact q
  | call c hd _ _ k ih =>
    intro Q E p s s' z h
    obtain ⟨r, s1, hr, h⟩ := h
    obtain ⟨s2, r2, z2, _⟩ := runs_sim (R := R) hr s' rfl z
    exact ⟨r, s2, r2, ih r Q E p s1 s2 z2 h⟩
  | handled own k ih => intro Q E p s s' z h; exact ih _ Q E p s s' z h
  | genState g k ih =>
    intro Q E p s s' z h
    obtain ⟨st, hs, h⟩ := h
    obtain ⟨st', e', hse⟩ := z.seen hs
    refine ⟨st', e', ?_⟩
    have q := ih _ Q E p s s' z h
    rw [hse]
    exact q
  | newGen c k ih =>
    intro Q E p s s' z h
    have q := ih _ Q E p _ _ (z.push c) h
    rw [z.size] at q
    exact q
  | resume g r _ k ih =>
    intro Q E p s s' z h
    obtain ⟨res, s1, hw, h⟩ := h
    obtain ⟨s2, w2, z2⟩ := wakes_sim hw s' z
    exact ⟨res, s2, w2, ih res Q E p s1 s2 z2 h⟩
  | yield _ _ _ _ => intro Q E p s s' _ h; exact h
  | stack k ih => intro Q E p s s' z h; exact ih _ Q E p s s' z h
  | fork _ _ => intro Q E p s s' _ h; exact h
  | thread k ih => intro Q E p s s' z h; exact ih _ Q E p s s' z h
  | await _ _ _ _ _ => intro Q E p s s' _ h; exact h
/-- all sleepers bombed -/
def bombs (s : Shared) : Shared := { s with gens := s.gens.map bomb }
theorem sim_bombs (s : Shared) : Sim s.gens (bombs s) s := by
  refine ⟨rfl, rfl, rfl, rfl, by simp [bombs], by simp [bombs], fun i _ => ⟨rfl, by simp [bombs]⟩, fun i hi => ?_, fun i k l c p fs cl hi e => ?_, fun i hi => ?_⟩
  rotate_right
  · show (s.gens.map bomb)[i]? = _
    rw [Array.getElem?_map, hi]; rfl
  · show (s.gens.map bomb)[i]? = s.gens[i]?
    rw [Array.getElem?_map]
    cases q : s.gens[i]? with
    | none => rfl
    | some st =>
      show some (bomb st) = some st
      rw [bomb_not]
      cases h : isSusp st with
      | false => rfl
      | true => exact (hi ⟨st, q, h⟩).elim
  · have e : (s.gens.map bomb)[i]? = _ := e
    rw [Array.getElem?_map] at e
    cases q : s.gens[i]? with
    | none => rw [q] at e; cases e
    | some st =>
      rw [q] at e
      have e : bomb st = .suspended k l c p fs cl := Option.some.inj e
      cases st with
      | suspended k' l' c' p' fs' cl' => exact (hi ⟨_, q, rfl⟩).elim
      | fresh c => cases e
      | running => cases e
      | finished => cases e
/-- THE TOOL: what holds of a run from the bombed state holds of the run from the state itself, and the sleepers are as they were -/
theorem wpAny_asleep {α : Type} {M : Model} {A : Around} {t : Sem α} {Q : α → Shared → Prop} {E : Value → Shared → Prop} {s : Shared} (h : wpAny M A t Q E (bombs s)) :
    wpAny M A t (fun a u' => ∃ u, Sim s.gens u u' ∧ Q a u) (fun e u' => ∃ u, Sim s.gens u u' ∧ E e u) s :=
  fun Γ p hΓ => wp_sim M s.gens Γ t _ _ p (bombs s) s (sim_bombs s) (h Γ p hΓ)
end GSim
/-! ## GenFor1 -/
/-! Generators that a for loop walks: what stands while they sleep and while they run. -/
namespace GFor
open PySem PySem.Spec PyProof.Rows L2 GenW GSim
/-! ### the heap up to an address -/
def cut (h : Heap) (n : Nat) : Heap := { h with objs := h.objs.extract 0 n }
theorem cut_size {h : Heap} {n : Nat} (hn : n ≤ h.objs.size) : (cut h n).objs.size = n := by
  simp [cut]; omega
theorem cut_get_lt {h : Heap} {n b : Nat} (hb : b < n) : (cut h n).get? b = h.get? b := by
  unfold Heap.get? cut
  have e : (h.objs.extract 0 n)[b]? = h.objs[b]? := by
    rw [Array.getElem?_extract]
    by_cases z : b < h.objs.size
    · rw [if_pos (by omega)]; simp
    · rw [if_neg (by omega)]
      exact (Array.getElem?_eq_none (by omega)).symm
  simp only [e]
theorem cut_some {h : Heap} {n b : Nat} {o : Obj} (hn : n ≤ h.objs.size) (e : (cut h n).get? b = some o) : b < n ∧ h.get? b = some o := by
  have lt := Heap.lt_size e
  rw [cut_size hn] at lt
  rw [cut_get_lt lt] at e
  exact ⟨lt, e⟩
def cutH (H : Hp) (n : Nat) : Hp := fun b => if b < n then H b else none
theorem cutH_lt {H : Hp} {n b : Nat} (hb : b < n) : cutH H n b = H b := if_pos hb
theorem cutH_some {H : Hp} {n b : Nat} {o : HO} (e : cutH H n b = some o) : b < n ∧ H b = some o := by
  unfold cutH at e
  split at e
  · rename_i h; exact ⟨h, e⟩
  · cases e
/-- the context as of the last waking -/
abbrev at_ (X : Cx) (s₀ : Shared) (Hw : Hp) : Cx :=
  { X with s_0 := { s₀ with heap := cut s₀.heap X.s_0.heap.objs.size }, H_0 := cutH Hw X.s_0.heap.objs.size, xe := fun _ _ => False }
/-- these sleepers are as they were -/
def Slp (sl : List (Nat × GenState)) (s : Shared) : Prop := ∀ p ∈ sl, s.gens[p.1]? = some p.2 ∧ isSusp p.2 = true
/-- while the generator sleeps (from s, H to s', H'): n: where its own objects begin; Ss: what its consumer may change among the younger ones -/
structure Naps0 (P : Program) (w : World) (base : Heap) (outer : List Env) (n gn : Nat) (Ss : List Addr) (s : Shared) (H : Hp) (s' : Shared) (H' : Hp) : Prop where
  os : s'.os = s.os
  bare : AllBare s'.gens
  same : Same H H'
  hok : HOk P w H' s'.heap
  bs : ∀ b o, base.get? b = some o → s'.heap.get? b = some o ∧ H' b = none
  funs : s'.heap.FunFrames base outer
  frf : ∀ b ∈ frs outer, H' b = none
  young : ∀ b o, n ≤ b → b ∉ Ss → H b = none → s.heap.get? b = some o → (∀ v, o.data ≠ .cell v) → s'.heap.get? b = some o ∧ H' b = none
  me : s'.gens[gn]? = some .running
  own : ∀ b ∈ Ss, H' b = none ∧ ∃ o, s'.heap.get? b = some o ∧ ∀ v, o.data ≠ .cell v
structure Naps (P : Program) (w : World) (base : Heap) (outer : List Env) (n gn : Nat) (Ss : List Addr) (s : Shared) (H : Hp) (s' : Shared) (H' : Hp) : Prop extends Naps0 P w base outer n gn Ss s H s' H' where
  gens : ∀ (i : Nat) st, s.gens[i]? = some st → isSusp st = true → s'.gens[i]? = some st
def firstInt : Option Value → Nat
  | some (Value.int i _) => i.toNat
  | _ => 0
def dataNo : Data → Nat
  | .fields vs => firstInt vs[0]?
  | _ => 0
/-- the generator's number, as its own object tells it -/
def genNo (X : Cx) : Nat := match X.pn with
  | (_, go) :: _ => dataNo go.data
  | [] => 0
/-- the generator's side: amid a run since the waking at s₀ (what was tracked then: Hw) -/
structure GJ (X : Cx) (Ss : List Addr) (ip : List (Addr × Obj)) (sl : List (Nat × GenState)) (s₀ : Shared) (Hw : Hp) (σ : L2.St) (H : Hp) (s : Shared) : Prop where
  inv : Inv (at_ X s₀ Hw) (pinsAt Ss s₀.heap ++ ip) σ H s
  sz : X.s_0.heap.objs.size ≤ s₀.heap.objs.size
  same : Same Hw H
  slp : Slp sl s
  yng : ∀ p ∈ X.pn ++ ip, X.s_0.heap.objs.size ≤ p.1 ∧ p.1 ∉ Ss
  ysS : ∀ b ∈ Ss, X.s_0.heap.objs.size ≤ b ∧ b ≠ X.env.locals
  own : ∀ b ∈ Ss, ∃ o, s₀.heap.get? b = some o ∧ ∀ v, o.data ≠ .cell v
  os0 : s₀.os = X.s_0.os
  rn : ∀ i : Nat, s₀.gens[i]? = some .running → s.gens[i]? = some .running
  me : s₀.gens[genNo X]? = some .running
/-- what a generator's context is like: no cells of its own, frames older than its own objects -/
structure GX (X : Cx) : Prop where
  cells : X.env.cells = []
  ex : X.ex = []
  old : ∀ b ∈ X.fs, b < X.s_0.heap.objs.size
theorem funs_cut {base h : Heap} {n : Nat} (hn : n ≤ h.objs.size) : ∀ {l : List Env}, h.FunFrames base l → (∀ b ∈ frs l, b < n) → (cut h n).FunFrames base l
  | [], _, _ => trivial
  | env :: r, hf, hb => by
    obtain ⟨hk, ⟨L, o, e1, e2, e3, e4⟩, hr⟩ := hf
    have hL : L < n := hb L (by unfold frs; rw [List.filterMap_cons, e1]; exact List.mem_cons_self)
    refine ⟨hk, ⟨L, o, e1, e2, by rw [cut_get_lt hL]; exact e3, e4⟩, funs_cut hn hr fun b m => hb b ?_⟩
    unfold frs
    rw [List.filterMap_cons, e1]
    exact List.mem_cons_of_mem _ m
section
variable {X : Cx} {Ss : List Addr} {ip : List (Addr × Obj)} {sl : List (Nat × GenState)} {s₀ s s' : Shared} {Hw H H' : Hp} {σ : L2.St}
theorem Un.cut_self {fs : List Addr} {n : Nat} (hn : n ≤ s'.heap.objs.size) : Un fs [] (cutH H' n) H' (cut s'.heap n) s'.heap where
  keep := fun b o e _ _ _ => (cut_some hn e).2
  slot := fun b o e _ _ _ => ⟨o.slots, (cut_some hn e).2⟩
  free := fun b o e h _ => by rw [cutH_lt (cut_some hn e).1] at h; exact h
  there := fun b o e _ => ⟨o, (cut_some hn e).2⟩
  tups := fun b xs e => (cutH_some e).2
  frzs := fun b o u e => (cutH_some e).2
  tbls := fun b ps e => ⟨#[], by rw [(cutH_some e).2]; simp⟩
/-- THE WAKING: from any entry of the right size -/
theorem rebase {z0 : Shared} {h0 : Hp} {e0 : Value → Shared → Prop} {pp : List (Addr × Obj)} (g : GX X) (J : Inv { X with s_0 := z0, H_0 := h0, xe := e0 } pp σ H s) (hz : z0.heap.objs.size = X.s_0.heap.objs.size) (hos : s.os = X.s_0.os) (hpp : ∀ p ∈ ip, p ∈ pp) (sp : Slp sl s')
    (yn : ∀ p ∈ X.pn ++ ip, X.s_0.heap.objs.size ≤ p.1 ∧ p.1 ∉ Ss) (yS : ∀ b ∈ Ss, X.s_0.heap.objs.size ≤ b ∧ b ≠ X.env.locals) (z : Naps0 X.prog X.w X.base X.outer X.s_0.heap.objs.size (genNo X) Ss s H s' H') : GJ X Ss ip sl s' H' σ H' s' := by
  obtain ⟨m, hns, hl⟩ := J.loc
  have above : X.s_0.heap.objs.size ≤ X.env.locals := by have q := J.ok.above; rw [hz] at q; exact q
  have hlocS : X.env.locals ∉ Ss := fun h => (yS _ h).2 rfl
  obtain ⟨oL, es, ep, hoL, hdL, rL⟩ := id hns
  have hLd : ∀ v, oL.data ≠ .cell v := fun v q => by rw [hdL] at q; cases q
  obtain ⟨keepL, freeL⟩ := z.young _ oL above hlocS J.free hoL hLd
  have hns' : s'.heap.Ns X.env.locals m := ⟨oL, es, ep, keepL, hdL, rL⟩
  have szs' : X.s_0.heap.objs.size ≤ s'.heap.objs.size := Nat.le_trans above (Nat.le_of_lt hns'.lt)
  have hszn' : (cut s'.heap X.s_0.heap.objs.size).objs.size = X.s_0.heap.objs.size := cut_size szs'
  have nocell : ∀ x c, X.env.cells.lookup x = some c → False := fun x c q => by rw [g.cells] at q; cases q
  have hbsz : X.base.objs.size ≤ X.s_0.heap.objs.size := by have q := J.ok.bsz; rw [hz] at q; exact q
  have noex : ∀ b, b ∉ X.ex := fun b q => by rw [g.ex] at q; cases q
  have pinned : ∀ p ∈ X.pn ++ ip, s'.heap.get? p.1 = some p.2 ∧ H' p.1 = none ∧ p.1 ≠ X.env.locals ∧ p.1 ∉ X.fs ∧ ∀ v, p.2.data ≠ .cell v := fun p hp => by
    have hp' : p ∈ X.pn ++ pp := by
      rcases List.mem_append.mp hp with q | q
      · exact List.mem_append_left _ q
      · exact List.mem_append_right _ (hpp p q)
    obtain ⟨e1, e2, e3, e4, e5⟩ := J.pin p hp'
    obtain ⟨y1, y2⟩ := yn p hp
    obtain ⟨k1, k2⟩ := z.young p.1 p.2 y1 y2 e2 e1 e5
    exact ⟨k1, k2, e3, e4, e5⟩
  refine ⟨⟨⟨J.ok.mod, J.ok.kind, J.ok.glob, J.ok.blt, ?_, J.ok.inj, J.ok.has, fun x c _ q => (nocell x c q).elim, J.ok.hd, J.ok.frames, J.ok.stk, fun b hb => (noex b hb).elim,
    fun b o e => ?_, ?_, fun b o e => noex b, fun b hb => (noex b hb).elim, ?_, fun b hb => ?_⟩,
    rfl, z.bare, ?_, ⟨m, hns', fun i x v e1 e2 e3 => ?_⟩, fun x c q => (nocell x c q).elim, freeL, fun x c q => (nocell x c q).elim, fun p hp => ?_, z.hok, J.len⟩,
    szs', Same.refl _, sp, yn, yS, fun b hb => (z.own b hb).2, z.os.trans hos, fun _ q => q, z.me⟩
  · show (cut s'.heap X.s_0.heap.objs.size).objs.size ≤ _
    rw [hszn']; exact above
  · obtain ⟨e1, e2⟩ := z.bs b o e
    have lt : b < X.s_0.heap.objs.size := Nat.lt_of_lt_of_le (Heap.lt_size e) hbsz
    refine ⟨?_, ?_⟩
    · show (cut s'.heap X.s_0.heap.objs.size).get? b = some o
      rw [cut_get_lt lt]; exact e1
    · show cutH H' _ b = none
      rw [cutH_lt lt]; exact e2
  · show _ ≤ (cut s'.heap X.s_0.heap.objs.size).objs.size
    rw [hszn']; exact hbsz
  · exact funs_cut szs' z.funs g.old
  · show cutH H' _ b = none
    rw [cutH_lt (g.old b hb)]; exact z.frf b hb
  · show Un X.fs X.ex (cutH H' X.s_0.heap.objs.size) H' (cut s'.heap X.s_0.heap.objs.size) s'.heap
    rw [g.ex]
    exact Un.cut_self szs'
  · obtain ⟨u, r, l⟩ := hl i x v e1 e2 e3
    refine ⟨u, r, ?_⟩
    rcases l with l | ⟨_, c, q, _⟩
    · exact .inl l
    · exact (nocell x c q).elim
  · rcases List.mem_append.mp hp with q | q
    · exact pinned p (List.mem_append_left _ q)
    · rcases List.mem_append.mp q with q | q
      · obtain ⟨b, hb, ee⟩ := List.mem_filterMap.mp q
        obtain ⟨h1, o, h2, h3⟩ := z.own b hb
        rw [h2] at ee
        have ee : (b, o) = p := Option.some.inj ee
        subst ee
        obtain ⟨y1, y2⟩ := yS b hb
        exact ⟨h2, h1, y2, fun hm => Nat.lt_irrefl _ (Nat.lt_of_lt_of_le (g.old b hm) y1), h3⟩
      · exact pinned p (List.mem_append_right _ q)
theorem GJ.woken (g : GX X) (I : GJ X Ss ip sl s₀ Hw σ H s) (z : Naps X.prog X.w X.base X.outer X.s_0.heap.objs.size (genNo X) Ss s H s' H') : GJ X Ss ip sl s' H' σ H' s' :=
  rebase (pp := pinsAt Ss s₀.heap ++ ip) g I.inv (cut_size I.sz) (I.inv.os.trans I.os0) (fun p hp => List.mem_append_right _ hp) (fun p hp => ⟨z.gens p.1 p.2 (I.slp p hp).1 (I.slp p hp).2, (I.slp p hp).2⟩) I.yng I.ysS z.toNaps0
end
/-- there is an object where something is tracked -/
theorem ok_there {P : Program} {w : World} {H : Hp} {h : Heap} {a : Addr} {o : HO} (x : ObjOk P w H h a o) : ∃ ob, h.get? a = some ob := by
  cases o with
  | lst xs => obtain ⟨_, _, _, _, e⟩ := x; exact ⟨_, e⟩
  | tup xs => obtain ⟨_, _, _, ob, e, _⟩ := x; exact ⟨_, e⟩
  | dK kvs => obtain ⟨_, _, _, _, o, _, _, e, _⟩ := x; exact ⟨_, e⟩
  | dT kvs => obtain ⟨_, _, _, _, o, _, _, e, _⟩ := x; exact ⟨_, e⟩
  | set S n => obtain ⟨o, _, _, _, e, _⟩ := x; exact ⟨_, e⟩
  | ins C dx fs => obtain ⟨_, _, _, e, _⟩ := x; exact ⟨_, e⟩
  | own y => obtain ⟨_, e⟩ := x; exact ⟨_, e⟩
  | xd fs => obtain ⟨_, ⟨_, _, _, e, _⟩, _⟩ := x; exact ⟨_, e⟩
  | rng lo hi => obtain ⟨_, _, _, e⟩ := x; exact ⟨_, e⟩
  | frz ob u => obtain ⟨e, _⟩ := x; exact ⟨_, e⟩
  | tbl ps => exact ⟨_, x⟩
  | met f y => exact ⟨_, x⟩
  | ext φ => obtain ⟨_, ⟨_, e⟩, _⟩ := x; exact ⟨_, e⟩
/-- the younger objects that nobody tracks, but those at Ss -/
def loose (n : Nat) (Ss : List Addr) (h : Heap) (H : Hp) : List Addr := (List.range h.objs.size).filter fun b => decide (n ≤ b) && (H b).isNone && !decide (b ∈ Ss)
theorem mem_loose {n : Nat} {Ss : List Addr} {h : Heap} {H : Hp} {b : Addr} (h1 : b < h.objs.size) (h2 : n ≤ b) (h3 : H b = none) (h4 : b ∉ Ss) : b ∈ loose n Ss h H :=
  List.mem_filter.mpr ⟨List.mem_range.mpr h1, by simp [h2, h3, h4]⟩
theorem of_loose {n : Nat} {Ss : List Addr} {h : Heap} {H : Hp} {b : Addr} (hb : b ∈ loose n Ss h H) : n ≤ b ∧ H b = none ∧ b ∉ Ss := by
  have q := (List.mem_filter.mp hb).2
  simp only [Bool.and_eq_true, decide_eq_true_eq, Option.isNone_iff_eq_none, Bool.not_eq_true', decide_eq_false_iff_not] at q
  exact ⟨q.1.1, q.1.2, q.2⟩
/-- what a run leaves for the consumer -/
structure Ran (P : Program) (w : World) (outer : List Env) (n : Nat) (Ss : List Addr) (a : Addr) (g : Nat) (s₀ : Shared) (Hw : Hp) (s : Shared) (H : Hp) : Prop where
  os : s.os = s₀.os
  bare : AllBare s.gens
  lim : s.heap.NoLimit
  gen : s.heap.IsGen a g
  nota : H a = none
  same : Same Hw H
  un : Un (frs outer) (loose n Ss s₀.heap Hw) Hw H s₀.heap s.heap
  hok : HOk P w H s.heap
  own : ∀ b ∈ Ss, s.heap.get? b = s₀.heap.get? b ∧ H b = none
  rn : ∀ i : Nat, s₀.gens[i]? = some .running → s.gens[i]? = some .running
  me : s₀.gens[g]? = some .running
theorem GJ.ran {X : Cx} {Ss : List Addr} {ip : List (Addr × Obj)} {sl : List (Nat × GenState)} {s₀ s : Shared} {Hw H : Hp} {σ : L2.St} {a : Addr} {g : Nat} {go : Obj} {nm qn : Value} (G : GX X) (hp : X.pn = [(a, go)]) (hno : genNo X = g) (hg : go.cls = .type "generator" ∧ go.data = .fields #[.int g 0, nm, qn] ∧ go.slots = #[])
    (I : GJ X Ss ip sl s₀ Hw σ H s) : Ran X.prog X.w X.outer X.s_0.heap.objs.size Ss a g s₀ Hw s H := by
  obtain ⟨J, sz, sm, sp, yn, yS, ow, _, rn, me⟩ := I
  have hpa := J.pin (a, go) (List.mem_append_left _ (by show _ ∈ X.pn; rw [hp]; exact List.mem_singleton.mpr rfl))
  have noex : X.ex = [] := G.ex
  have U : Un X.fs [] (cutH Hw X.s_0.heap.objs.size) H (cut s₀.heap X.s_0.heap.objs.size) s.heap := by
    have q := J.base
    rw [show (at_ X s₀ Hw).ex = [] from noex] at q
    exact q
  have pS : ∀ b ∈ Ss, ∀ o, s₀.heap.get? b = some o → s.heap.get? b = some o ∧ H b = none := fun b hb o e => by
    obtain ⟨e1, e2, _⟩ := J.pin (b, o) (List.mem_append_right _ (List.mem_append_left _ (mem_pinsAt hb e)))
    exact ⟨e1, e2⟩
  refine ⟨J.os, J.bare, J.nolimit, ⟨go, nm, qn, hpa.1, hg⟩, hpa.2.1, sm, ⟨fun b o e n hb hx => ?_, fun b o e n hb hx => ?_, fun b o e n hx => ?_, fun b o e hx => ?_, fun b xs e => sm _ _ e, fun b o u e => sm _ _ e, fun b ps e => ⟨#[], by rw [sm _ _ e]; simp⟩⟩, J.hok, fun b hb => ?_, rn, by rw [← hno]; exact me⟩
  · by_cases lt : b < X.s_0.heap.objs.size
    · exact U.keep b o (by rw [cut_get_lt lt]; exact e) (by rw [cutH_lt lt]; exact n) hb (by simp)
    · by_cases hS : b ∈ Ss
      · exact (pS b hS o e).1
      · exact (hx (mem_loose (Heap.lt_size e) (Nat.le_of_not_lt lt) n hS)).elim
  · have lt := G.old b hb
    exact U.slot b o (by rw [cut_get_lt lt]; exact e) (by rw [cutH_lt lt]; exact n) hb (by simp)
  · by_cases lt : b < X.s_0.heap.objs.size
    · exact U.free b o (by rw [cut_get_lt lt]; exact e) (by rw [cutH_lt lt]; exact n) (by simp)
    · by_cases hS : b ∈ Ss
      · exact (pS b hS o e).2
      · exact (hx (mem_loose (Heap.lt_size e) (Nat.le_of_not_lt lt) n hS)).elim
  · by_cases lt : b < X.s_0.heap.objs.size
    · exact U.there b o (by rw [cut_get_lt lt]; exact e) (by simp)
    · by_cases hS : b ∈ Ss
      · exact ⟨o, (pS b hS o e).1⟩
      · cases q : Hw b with
        | none => exact (hx (mem_loose (Heap.lt_size e) (Nat.le_of_not_lt lt) q hS)).elim
        | some u => exact ok_there (J.hok b u (sm _ _ q))
  · obtain ⟨o, e, _⟩ := ow b hb
    obtain ⟨e1, e2⟩ := pS b hb o e
    exact ⟨e1.trans e.symm, e2⟩
end GFor
/-! ## GenFor2 -/
/-! The body of a generator that a for loop walks: its statements. -/
namespace GFor
open PySem PySem.Spec PyProof.Rows L2 GenW GSim
open Sem (wp)
/-! ### the sleepers through plain code -/
theorem wpAny_simR {α : Type} {M : Model} {A : Around} {R : Array GenState} {t : Sem α} {Q : α → Shared → Prop} {E : Value → Shared → Prop} {s s' : Shared} (z : Sim R s s') (h : wpAny M A t Q E s) :
    wpAny M A t (fun a u' => ∃ u, Sim R u u' ∧ Q a u) (fun e u' => ∃ u, Sim R u u' ∧ E e u) s' :=
  fun Γ p hΓ => wp_sim M R Γ t _ _ p s s' z (h Γ p hΓ)
section
variable {X : Cx} {pins : List (Addr × Obj)} {σ : L2.St} {H : Hp} {s u u' : Shared} {R : Array GenState}
theorem inv_heap (I : Inv X pins σ H u) (h1 : u'.heap = u.heap) (h2 : u'.os = u.os) (h3 : AllBare u'.gens) : Inv X pins σ H u' := by
  obtain ⟨hh, gg, dd, tt, oo⟩ := u'
  dsimp only at h1 h2 h3
  subst h1 h2
  exact ⟨I.ok, I.os, h3, I.base, I.loc, I.cell, I.free, I.freeC, I.pin, I.hok, I.len⟩
theorem bare_bombs (h : AllBare s.gens) : AllBare (bombs s).gens := fun y hy => by
  obtain ⟨x, hx, e⟩ := Array.mem_map.mp hy
  rw [← e, bomb_bare]
  exact h x hx
theorem bare_sim (z : Sim R u u') (hR : AllBare R) (h : AllBare u.gens) : AllBare u'.gens := fun y hy => by
  obtain ⟨i, hi, e⟩ := Array.mem_iff_getElem.mp hy
  have q : u'.gens[i]? = some y := by rw [Array.getElem?_eq_getElem hi, e]
  by_cases a : Asl R i
  · have b := (z.slept i a).1
    rw [q] at b
    exact hR y (Array.mem_of_getElem? b.symm)
  · have b := z.rest i a
    rw [q] at b
    exact h y (Array.mem_of_getElem? b)
theorem inv_bombs (I : Inv X pins σ H s) : Inv X pins σ H (bombs s) := inv_heap I rfl rfl (bare_bombs I.bare)
theorem inv_sim (z : Sim R u u') (hR : AllBare R) (I : Inv X pins σ H u) : Inv X pins σ H u' := inv_heap I z.heap.symm z.os.symm (bare_sim z hR I.bare)
/-- the sleepers of R stand in u' -/
theorem sim_kept (z : Sim R u u') {i : Nat} {st : GenState} (e : R[i]? = some st) (hs : isSusp st = true) : u'.gens[i]? = some st := (z.slept i ⟨st, e, hs⟩).1.trans e
theorem run_sim (z : Sim R u u') (i : Nat) (e : R[i]? = some .running) : u'.gens[i]? = some .running := z.at_run (z.runs i e)
theorem slp_sim {sl : List (Nat × GenState)} (z : Sim s.gens u u') (h : Slp sl s) : Slp sl u' := fun p hp => ⟨sim_kept z (h p hp).1 (h p hp).2, (h p hp).2⟩
end
/-! ### a stretch of a generator's run, up to its next yield or its end -/
def SegQ (M : Model) (A : Around) (Q : End → Shared → Prop) (c : Code) (t : Sem PySem.Fin) (fs : List Frame) (s : Shared) : Prop :=
  ∀ Γ p, Γ.code = c → Γ.Woken A → ∃ e s', Runs M Γ p t fs s e s' ∧ Q e s'
section
variable {M : Model} {A : Around} {Q Q' : End → Shared → Prop} {c : Code} {fs : List Frame} {s : Shared}
theorem sq_imp {t : Sem PySem.Fin} (h : ∀ e s', Q e s' → Q' e s') (q : SegQ M A Q c t fs s) : SegQ M A Q' c t fs s := fun Γ p h1 h2 =>
  let ⟨e, s', hr, hq⟩ := q Γ p h1 h2
  ⟨e, s', hr, h e s' hq⟩
theorem sq_wrap {α : Type} {m : Sem α} {K : α → Sem PySem.Fin} {J : Value → Sem PySem.Fin} {gd : Bool → Bool} {lv : List Value → List Value}
    (h : wpAny M (A.over c fs) m (fun a s' => SegQ M A Q c (K a) fs s') (fun x s' => SegQ M A Q c (J x) fs s') s) : SegQ M A Q c (m.wrap K J gd lv) fs s := by
  rintro Γ p rfl hΓ
  exact runs_wrap_of_wp K J gd lv m (h (Γ.over fs) p (hΓ.over fs)) (fun a p' s' h' => h' Γ p' rfl hΓ) (fun x p' s' h' => h' Γ p' rfl hΓ)
theorem sq_bind {α β : Type} {m : Sem α} {k : α → Sem β} {K : β → Sem PySem.Fin} {J : Value → Sem PySem.Fin} {gd : Bool → Bool} {lv : List Value → List Value}
    (h : wpAny M (A.over c fs) m (fun a s' => SegQ M A Q c ((k a).wrap K J gd lv) fs s') (fun x s' => SegQ M A Q c (J x) fs s') s) : SegQ M A Q c ((m >>= k).wrap K J gd lv) fs s := by
  rw [Sem.bind_eq_wrap', Sem.wrap_wrap]
  exact sq_wrap h
theorem sq_bind2 {α β γ : Type} {m : Sem α} {f : α → Sem β} {f2 : β → Sem γ} {K : γ → Sem PySem.Fin} {J : Value → Sem PySem.Fin} {gd : Bool → Bool} {lv : List Value → List Value}
    (h : wpAny M (A.over c fs) m (fun a s' => SegQ M A Q c ((f a).wrap (fun b => (f2 b).wrap K J gd lv) J gd lv) fs s') (fun x s' => SegQ M A Q c (J x) fs s') s) :
    SegQ M A Q c (((m >>= f) >>= f2).wrap K J gd lv) fs s := by
  rw [Sem.bind_eq_wrap' (m >>= f) f2, Sem.wrap_wrap]
  exact sq_bind h
theorem sq_at {p' : Pos} {k : Unit → Sem PySem.Fin} (h : SegQ M A Q c (k ()) fs s) : SegQ M A Q c (.at p' k) fs s :=
  sq_wrap (m := standAt p') (K := k) (J := .raise) (gd := id) (lv := id) (wpAny_standAt h)
theorem sq_point {l : List Value} {k : Unit → Sem PySem.Fin} (h : SegQ M A Q c (k ()) fs s) : SegQ M A Q c (.point l k) fs s :=
  sq_wrap (m := point) (K := k) (J := .raise) (gd := id) (lv := fun _ => l) (wpAny_point h)
theorem sq_call {c' : Code} {h g l} {k : Result → Sem PySem.Fin} (hc : ∀ p, SegQ M A Q c' (M.den c') (.ret k h g l c p [] :: fs) s) : SegQ M A Q c (.call c' h g l k) fs s := by
  rintro Γ p rfl hΓ
  obtain ⟨e, s', hr, he⟩ := hc p (Γ.goto c') p rfl (hΓ.goto c')
  exact ⟨e, s', runs_call_seg hr, he⟩
theorem sq_leaf {k h g l c₁ p₁ kp} (r : Result) (hk : SegQ M A Q c₁ (k r) fs s) : SegQ M A Q c (leafOf r) (.ret k h g l c₁ p₁ kp :: fs) s := by
  rintro Γ p rfl hΓ
  obtain ⟨e, s', hr, he⟩ := hk (Γ.goto c₁) p₁ rfl (hΓ.goto c₁)
  exact ⟨e, s', Runs.pop r hr, he⟩
theorem sq_again {c' : Code} (hq : c'.quiet = true) (hc : SegQ M A Q c' (M.den c') fs s) : SegQ M A Q c (.pure (.again c')) fs s := by
  rintro Γ p rfl hΓ
  obtain ⟨e, s', hr, he⟩ := hc (Γ.goto c') p rfl (hΓ.goto c')
  exact ⟨e, s', Runs.head (c₁ := c') (fun _ _ x => .again hq x) hr, he⟩
theorem sq_end (r : Result) (h : Q (.ret r) s) : SegQ M A Q c (leafOf r) [] s := by
  rintro Γ p rfl _
  exact ⟨.ret r, s, Runs.leaf r, h⟩
theorem sq_yield {v g l} {k : Resume → Sem PySem.Fin} (hfs : splitAtGen fs = none) (h : ∀ p, Q (.susp v g l k c p fs) s) : SegQ M A Q c (.yield v g l k) fs s := by
  rintro Γ p rfl _
  exact ⟨_, s, Runs.yield' fs hfs, h p⟩
end
section
variable {prog : Program} {w : World} {A : Around} {Q : End → Shared → Prop} {fs : List Frame} {s : Shared} {env : Env}
theorem sq_execs_cons {c : Code} {K : Flow → Sem PySem.Fin} {J : Value → Sem PySem.Fin} {gd : Bool → Bool} {lv : List Value → List Value} {st : Stmt} {rest : List Stmt} {M : Model}
    (h : SegQ M A Q c ((exec st env).wrap (fun f => match f with | .next => (execs rest env).wrap K J gd lv | f => K f) J gd lv) fs s) : SegQ M A Q c ((execs (st :: rest) env).wrap K J gd lv) fs s := by
  rw [execs_cons_wrap]; exact h
theorem sq_func {body : List Stmt}
    (h : SegQ (model prog w) A Q (.func body env) ((execs body env).wrap (fun f => .pure (.done (.ret (match f with | .ret v => v | _ => .none)))) (fun e => (leaving env e).wrap (fun _ => .raise e) .raise id id) id id) fs s) :
    SegQ (model prog w) A Q (.func body env) ((model prog w).den (.func body env)) fs s := by
  show SegQ _ A Q _ (.point [] fun _ => ((execs body env).onRaise (leaving env)) >>= _) fs s
  refine sq_point ?_
  rw [Sem.onRaise_eq_wrap, Sem.bind_eq_wrap', Sem.wrap_wrap]
  rw [Sem.wrap_congr (execs body env) _ _ (K' := fun f => .pure (.done (.ret (match f with | .ret v => v | _ => .none)))) (H' := fun e => (leaving env e).wrap (fun _ => .raise e) .raise id id)
    (fun f => by cases f <;> rfl) (fun e => by rw [Sem.bind_eq_wrap, Sem.wrap_wrap]; rfl)]
  exact h
end
/-! ### what is wanted at the stretch's end -/
abbrev Its := Nat → V → Hp → Prop
structure GEnds where
  N : Nat
  It : Its
  nx : Nat → L2.St → Hp → Prop
  rt : Nat → Hp → Prop
  bk : Nat → L2.St → Hp → Prop := fun _ _ _ => False
  ct : Nat → L2.St → Hp → Prop := fun _ _ _ => False
abbrev TGn := GEnds → Nat → L2.St → Hp → Prop
/-- n - 1 items are left -/
def PostN (X : Cx) (A : Around) (Ss : List Addr) (N : Nat) (It : Its) : Nat → Shared → Hp → End → Shared → Prop
  | 0, _, _, _, _ => False
  | n + 1, s₀, Hw, e, s => match e with
    | .ret r => (r = .ok (.ret .none) ∨ r = .ok .next) ∧ n = 0 ∧ ∃ ip sl σ H, GJ X Ss ip sl s₀ Hw σ H s
    | .susp v g l k c p fs => (End.susp v g l k c p fs).quiet = true ∧ 1 ≤ n ∧ n ≤ N ∧ ∃ ip sl σ H x, GJ X Ss ip sl s₀ Hw σ H s ∧ RelV x v ∧ It (N - n) x H ∧
        ∀ s' H', Naps X.prog X.w X.base X.outer X.s_0.heap.objs.size (genNo X) Ss s H s' H' → SegQ (model X.prog X.w) A (PostN X A Ss N It n s' H') c (k (.send .none)) fs s'
def GSP (X : Cx) (Ss : List Addr) (ip : List (Addr × Obj)) (sl : List (Nat × GenState)) (s₀ : Shared) (Hw : Hp) (D : GEnds) (i : Nat) (f : Flow) (s : Shared) : Prop :=
  match f with
  | .next => ∃ σ H, GJ X Ss ip sl s₀ Hw σ H s ∧ D.nx i σ H
  | .brk => ∃ σ H, GJ X Ss ip sl s₀ Hw σ H s ∧ D.bk i σ H
  | .cont => ∃ σ H, GJ X Ss ip sl s₀ Hw σ H s ∧ D.ct i σ H
  | .ret u => u = .none ∧ ∃ σ H, GJ X Ss ip sl s₀ Hw σ H s ∧ D.rt i H
structure GC (X : Cx) (A : Around) (c : Code) (fs : List Frame) (gd : Bool → Bool) : Prop where
  over : A.over c fs = X.A
  split : splitAtGen fs = none
  guard : fs.any Frame.guarded = false
  gd : gd false = false
/-- what follows -/
def GK (X : Cx) (Ss : List Addr) (ip : List (Addr × Obj)) (sl : List (Nat × GenState)) (A : Around) (c : Code) (fs : List Frame) (K : Flow → Sem PySem.Fin) (D : GEnds) : Prop :=
  ∀ (n i : Nat) (s₀ s : Shared) (Hw : Hp) (f : Flow), n + i = D.N + 1 → GSP X Ss ip sl s₀ Hw D i f s → SegQ (model X.prog X.w) A (PostN X A Ss D.N D.It n s₀ Hw) c (K f) fs s
/-- running a piece of a generator's body (b: no sleeper is held yet) -/
def GRun (b : Bool) (X : Cx) (m : Sem Flow) (t : TGn) : Prop :=
  ∀ (A : Around) (Ss : List Addr) (ip : List (Addr × Obj)) (sl : List (Nat × GenState)) (n i : Nat) (s₀ : Shared) (Hw : Hp) (c : Code) (fs : List Frame) (K : Flow → Sem PySem.Fin) (J : Value → Sem PySem.Fin) (gd : Bool → Bool) (lv : List Value → List Value)
    (s : Shared) (σ : L2.St) (H : Hp) (D : GEnds), (b = true → sl = []) → GX X → GC X A c fs gd → n + i = D.N + 1 → GK X Ss ip sl A c fs K D → GJ X Ss ip sl s₀ Hw σ H s → t D i σ H →
    SegQ (model X.prog X.w) A (PostN X A Ss D.N D.It n s₀ Hw) c (m.wrap K J gd lv) fs s
structure GS (b : Bool) (X : Cx) (st : Stmt) (t : TGn) : Prop where
  run : GRun b X (exec st X.env) t
structure GSs (b : Bool) (X : Cx) (st : List Stmt) (t : TGn) : Prop where
  run : GRun b X (execs st X.env) t
section
variable {b : Bool} {X : Cx} {st : Stmt} {rest : List Stmt}
/-- plain ends amid a generator: nothing that is tracked changes -/
def GEnds.at (D : GEnds) (i : Nat) (H : Hp) : Ends :=
  { nx := fun σ' H' => Same H H' ∧ D.nx i σ' H', rt := fun v H' => v = .non ∧ Same H H' ∧ D.rt i H', bk := fun σ' H' => Same H H' ∧ D.bk i σ' H', ct := fun σ' H' => Same H H' ∧ D.ct i σ' H' }
def tPlain (t : TS) : TGn := fun D i σ H => t (D.at i H) σ H
theorem GJ.to {Ss : List Addr} {ip : List (Addr × Obj)} {sl : List (Nat × GenState)} {s₀ s s' : Shared} {Hw H H' : Hp} {σ σ' : L2.St} (I : GJ X Ss ip sl s₀ Hw σ H s) (J : Inv (at_ X s₀ Hw) (pinsAt Ss s₀.heap ++ ip) σ' H' s') (sm : Same H H') (sp : Slp sl s') (rn : ∀ i : Nat, s.gens[i]? = some .running → s'.gens[i]? = some .running) : GJ X Ss ip sl s₀ Hw σ' H' s' :=
  ⟨J, I.sz, I.same.trans sm, sp, I.yng, I.ysS, I.own, I.os0, fun i q => rn i (I.rn i q), I.me⟩
theorem run_plain {m : Sem Flow} {t : TS} (h : ∀ s₀ Hw pins s σ H D, Inv (at_ X s₀ Hw) pins σ H s → t D σ H → wpAny (model X.prog X.w) X.A m (SP (at_ X s₀ Hw) pins D) (fun _ _ => False) s) : GRun b X m (tPlain t) := by
  intro A Ss ip sl n i s₀ Hw c fs K J gd lv s σ H D hsl gx g hn k hI ht
  refine sq_wrap ?_
  rw [g.over]
  refine wpAny_mono (wpAny_asleep (h s₀ Hw _ (bombs s) σ H (D.at i H) (inv_bombs hI.inv) ht)) (fun f u' hu => ?_) (fun e u' hu => ?_)
  · obtain ⟨u, z, q⟩ := hu
    have go : ∀ {σ' : L2.St} {H' : Hp}, Inv (at_ X s₀ Hw) (pinsAt Ss s₀.heap ++ ip) σ' H' u → Same H H' → GJ X Ss ip sl s₀ Hw σ' H' u' := fun I sm => hI.to (inv_sim z hI.inv.bare I) sm (slp_sim z hI.slp) (run_sim z)
    refine k n i s₀ u' Hw f hn ?_
    cases f with
    | next => obtain ⟨σ', H', I, sm, q⟩ := q; exact ⟨σ', H', go I sm, q⟩
    | brk => obtain ⟨σ', H', I, sm, q⟩ := q; exact ⟨σ', H', go I sm, q⟩
    | cont => obtain ⟨σ', H', I, sm, q⟩ := q; exact ⟨σ', H', go I sm, q⟩
    | ret v =>
      obtain ⟨x, σ', H', I, rv, ex, sm, q⟩ := q
      subst ex
      exact ⟨rv, σ', H', go I sm, q⟩
  · obtain ⟨_, _, q⟩ := hu
    exact q.elim
theorem gs_ps {t : TS} (h : ∀ s₀ Hw, PS (at_ X s₀ Hw) st t) : GS b X st (tPlain t) := ⟨run_plain fun s₀ Hw pins s σ H D I q => (h s₀ Hw).run pins s σ H D I q⟩
theorem gss_pss {t : TS} (h : ∀ s₀ Hw, PSs (at_ X s₀ Hw) rest t) : GSs b X rest (tPlain t) := ⟨run_plain fun s₀ Hw pins s σ H D I q => (h s₀ Hw).run pins s σ H D I q⟩
def tG0 : TGn := fun D i σ H => D.nx i σ H
theorem gss_nil : GSs b X [] tG0 := by
  refine ⟨fun A Ss ip sl n i s₀ Hw c fs K J gd lv s σ H D hsl gx g hn k hI ht => ?_⟩
  exact k n i s₀ s Hw .next hn ⟨σ, H, hI, ht⟩
def tGThen (t u : TGn) : TGn := fun D i σ H => t { D with nx := fun i' σ' H' => u D i' σ' H' } i σ H
theorem gss_cons {t u : TGn} (a : GS b X st t) (c2 : GSs b X rest u) : GSs b X (st :: rest) (tGThen t u) := by
  refine ⟨fun A Ss ip sl n i s₀ Hw c fs K J gd lv s σ H D hsl gx g hn k hI ht => ?_⟩
  refine sq_execs_cons ?_
  refine a.run A Ss ip sl n i s₀ Hw c fs _ J gd lv s σ H { D with nx := fun i' σ' H' => u D i' σ' H' } hsl gx g hn (fun n' i' s₀' s' Hw' f hn' hs => ?_) hI ht
  cases f with
  | next =>
    obtain ⟨σ', H', I', q⟩ := hs
    exact c2.run A Ss ip sl n' i' s₀' Hw' c fs K J gd lv s' σ' H' D hsl gx g hn' k I' q
  | brk => exact k n' i' s₀' s' Hw' .brk hn' hs
  | cont => exact k n' i' s₀' s' Hw' .cont hn' hs
  | ret u => exact k n' i' s₀' s' Hw' (.ret u) hn' hs
theorem gss_one {t : TGn} (a : GS b X st t) : GSs b X [st] (tGThen t tG0) := gss_cons a gss_nil
def tGNever : TGn := fun _ _ _ _ => False
theorem gss_never {sts : List Stmt} : GSs b X sts tGNever := ⟨fun _ _ _ _ _ _ _ _ _ _ _ _ _ _ _ _ _ _ _ _ _ _ _ _ h => h.elim⟩
/-- if -/
def tGIf (c : TT) (t u : TGn) : TGn := fun D i σ H => c σ H fun b H1 => Same H H1 ∧ if b = true then t D i σ H1 else u D i σ H1
theorem gs_if {test : Expr} {body orelse : List Stmt} {pos : Pos} {tc : TT} {t u : TGn} (hc : ∀ s₀ Hw, PT (at_ X s₀ Hw) test tc) (hb : GSs b X body t) (ho : GSs b X orelse u) : GS b X (.If test body orelse pos) (tGIf tc t u) := by
  refine ⟨fun A Ss ip sl n i s₀ Hw c fs K J gd lv s σ H D hsl gx g hn k hI ht => ?_⟩
  rw [exec_If]
  refine sq_bind (wpAny_standAt ?_)
  refine sq_bind ?_
  rw [g.over]
  refine wpAny_mono (wpAny_asleep ((hc s₀ Hw).run _ (bombs s) σ H _ (inv_bombs hI.inv) ht)) (fun k' u' hu => ?_) (fun e u' hu => ?_)
  · obtain ⟨v, z, H1, I, sm, q⟩ := hu
    have G := hI.to (inv_sim z hI.inv.bare I) sm (slp_sim z hI.slp) (run_sim z)
    cases k' with
    | true => exact hb.run A Ss ip sl n i s₀ Hw c fs K J gd lv u' σ H1 D hsl gx g hn k G q
    | false => exact ho.run A Ss ip sl n i s₀ Hw c fs K J gd lv u' σ H1 D hsl gx g hn k G q
  · obtain ⟨_, _, q⟩ := hu
    exact q.elim
/-- yield e -/
def tGYield (te : TE) : TGn := fun D i σ H => te σ H fun x H1 => i < D.N ∧ Same H H1 ∧ D.It i x H1 ∧ ∀ H', Same H1 H' → D.nx (i + 1) σ H'
theorem gs_yield {e : Expr} {yp pos : Pos} {te : TE} (he : ∀ s₀ Hw, PE (at_ X s₀ Hw) e te) (hco : X.env.scope.isCoroutine = false := by rfl) (hi : interactive X.env = false := by rfl) : GS b X (.Expr (.Yield (some e) yp) pos) (tGYield te) := by
  refine ⟨fun A Ss ip sl n i s₀ Hw c fs K J gd lv s σ H D hsl gx g hn k hI ht => ?_⟩
  have hy : ∀ v, yieldOut X.env v = yieldValue v := fun v => by simp only [yieldOut, hco, Bool.false_eq_true, if_false]
  rw [exec_Expr X.env _ pos hi rfl]
  show SegQ _ _ _ c (.at pos fun _ => ((eval e X.env >>= fun v => (standAt yp >>= fun _ => yieldOut X.env v)) >>= fun x => dropValue (.Yield (some e) yp) pos x).wrap K J gd lv) fs s
  simp only [hy]
  refine sq_at (sq_bind2 ?_)
  rw [g.over]
  refine wpAny_mono (wpAny_asleep ((he s₀ Hw).run _ (bombs s) σ H _ (inv_bombs hI.inv) ht)) (fun v u' hu => ?_) (fun e u' hu => ?_)
  · obtain ⟨u, z, x, H1, I, rv, hN, sm, it, q⟩ := hu
    have G := hI.to (inv_sim z hI.inv.bare I) sm (slp_sim z hI.slp) (run_sim z)
    obtain ⟨n, rfl⟩ : ∃ m, n = m + 1 := ⟨n - 1, by omega⟩
    refine sq_bind (wpAny_standAt ?_)
    refine sq_yield g.split fun p => ?_
    refine ⟨?_, by omega, by omega, ip, sl, σ, H1, x, G, rv, ?_, fun s' H' nap => ?_⟩
    · show (!(gd false || fs.any Frame.guarded)) = true
      rw [g.gd, g.guard]; rfl
    · have e : D.N - n = i := by omega
      rw [e]; exact it
    · exact k n (i + 1) s' s' H' .next (by omega) ⟨σ, H', G.woken gx nap, q H' nap.same⟩
  · obtain ⟨_, _, q⟩ := hu
    exact q.elim
end
end GFor
/-! ## GenFor3 -/
/-! A for loop within a generator's body. -/
namespace GFor
open PySem PySem.Spec PyProof.Rows L2 GenW GSim
abbrev NoX : Value → Shared → Prop := fun _ _ => False
section
variable {prog : Program} {w : World} {A : Around} {Q : End → Shared → Prop} {fs : List Frame} {s : Shared} {env : Env} {target : Expr} {it : Value} {body : List Stmt}
def loopK (target : Expr) (it : Value) (body : List Stmt) (env : Env) : Flow → Sem PySem.Fin
  | .next => .pure (.again (.forLoop target it body [] env))
  | .cont => .pure (.again (.forLoop target it body [] env))
  | .brk => .pure (.done .next)
  | .ret v => .pure (.done (.ret v))
theorem sq_forTurn (h : wpAny (model prog w) (A.over (.forLoop target it body [] env) fs) (pyNext it) (fun r s' => match r with
      | none => SegQ (model prog w) A Q (.forLoop target it body [] env) (.pure (.again (.block [] env))) fs s'
      | some v => wpAny (model prog w) (A.over (.forLoop target it body [] env) fs) (letOwnedTupleGo target it v) (fun _ s2 =>
          wpAny (model prog w) (A.over (.forLoop target it body [] env) fs) (assign target env v) (fun _ s3 => ∀ J1 : Value → Sem PySem.Fin,
            SegQ (model prog w) A Q (.forLoop target it body [] env) ((execs body env).wrap (loopK target it body env) J1 id id) fs s3) NoX s2) NoX s') NoX s) :
    SegQ (model prog w) A Q (.forLoop target it body [] env) ((model prog w).den (.forLoop target it body [] env)) fs s := by
  show SegQ _ A Q _ ((forTurn target it body [] env).onRaise (fun x => do noteFrame x env; theTreesLotGoes x)) fs s
  unfold forTurn
  rw [Sem.onRaise_eq_wrap]
  refine sq_bind (wpAny_standAt ?_)
  refine sq_bind ?_
  refine wpAny_onRaise (wpAny_mono h (fun r s' hr => ?_) fun _ _ z => z.elim)
  cases r with
  | none => exact hr
  | some v =>
    refine sq_bind (wpAny_mono hr (fun _ s2 h2 => ?_) fun _ _ z => z.elim)
    refine sq_bind (wpAny_mono h2 (fun _ s3 h3 => ?_) fun _ _ z => z.elim)
    rw [Sem.bind_eq_wrap', Sem.wrap_wrap]
    rw [Sem.wrap_congr (execs body env) _ _ (K' := loopK target it body env) (H' := _) (fun f => by cases f <;> rfl) (fun _ => rfl)]
    exact h3 _
theorem sq_blockNil {c : Code} (h : SegQ (model prog w) A Q (.block [] env) (leafOf (.ok .next)) fs s) : SegQ (model prog w) A Q c (.pure (.again (.block [] env))) fs s :=
  sq_again rfl h
end
section
variable {b : Bool} {X : Cx}
theorem gc_for {A : Around} {c c' : Code} {fs : List Frame} {gd : Bool → Bool} {k : Result → Sem PySem.Fin} {l kp : List Value} {p : Pos} (g : GC X A c fs gd) (hw : c'.weight = 0) (hu : c'.cUnits = 0) :
    GC X A c' (.ret k none (gd false) l c p kp :: fs) id where
  over := (over_loop hw hu).trans g.over
  split := by
    show (splitAtGen fs).map _ = none
    rw [g.split]; rfl
  guard := by
    show (gd false || fs.any Frame.guarded) = false
    rw [g.gd, g.guard]; rfl
  gd := rfl
/-- the loop's call within a generator -/
theorem sq_runOwn {A : Around} {Q : End → Shared → Prop} {s : Shared} {c c' : Code} {fs : List Frame} {K : Flow → Sem PySem.Fin} {J : Value → Sem PySem.Fin} {gd : Bool → Bool} {lv : List Value → List Value} {env : Env} {M : Model}
    (h : ∀ p, SegQ M A Q c' (M.den c') (.ret (fun r => ((match r with | .ok f => (.pure f : Sem Flow) | .error e => .raise e).onRaise (cameBack env)).wrap K J gd lv) none (gd false) (lv []) c p [] :: fs) s) :
    SegQ M A Q c ((runOwn c' env).wrap K J gd lv) fs s := sq_call h
/-- the reading: W by the turn, a measure, the items out -/
def tGFor (wi : TI) (g : TG) (tb : TGn) : TGn := fun D i σ H => wi σ H fun J H1 => Same H H1 ∧ ∃ W : Nat → Nat → Nat → L2.St → Hp → Prop, (∃ m, W 0 m i σ H1) ∧ ∀ j m i σ H, W j m i σ H →
  (J.stop j H ∧ D.nx i σ H) ∨ (J.go j H ∧ ∃ N : Nat → L2.St → Hp → Prop, (∀ i' σ' H', N i' σ' H' → ∃ m', m' < m ∧ W (j + 1) m' i' σ' H') ∧
    ∀ x H', J.yld j H x H' → Same H H' ∧ g x σ H' fun σ2 H2 => Same H' H2 ∧ tb { D with nx := N, ct := N, bk := D.nx } i σ2 H2)
theorem GJ.fewer {Ss : List Addr} {ip pl : List (Addr × Obj)} {sl : List (Nat × GenState)} {s₀ s : Shared} {Hw H : Hp} {σ : L2.St} (I : GJ X Ss (ip ++ pl) sl s₀ Hw σ H s) : GJ X Ss ip sl s₀ Hw σ H s := by
  have J : Inv (at_ X s₀ Hw) (pinsAt Ss s₀.heap ++ ip) σ H s := I.inv.pins_of fun p hp => I.inv.pin p (List.mem_append_right _ (by
    rcases List.mem_append.mp hp with q | q
    · exact List.mem_append_left _ q
    · exact List.mem_append_right _ (List.mem_append_left _ q)))
  exact ⟨J, I.sz, I.same, I.slp, fun p hp => I.yng p (by
    rcases List.mem_append.mp hp with q | q
    · exact List.mem_append_left _ q
    · exact List.mem_append_right _ (List.mem_append_left _ q)), I.ysS, I.own, I.os0, I.rn, I.me⟩
theorem gs_for {tg iter : Expr} {body : List Stmt} {wi : TI} {g : TG} {tb : TGn} {pos : Pos} (hc : X.calm = true) (hi : ∀ s₀ Hw, PI (at_ X s₀ Hw) tg iter wi) (hg : ∀ s₀ Hw, PG (at_ X s₀ Hw) tg g) (hb : GSs b X body tb)
    (hs : ∀ x, foldedSetIterable iter X.env x = pure x := by intro _; rfl) : GS b X (.For tg iter body [] pos) (tGFor wi g tb) := by
  refine ⟨fun A Ss ip sl n i s₀ Hw c fs K J gd lv s σ H D hsl gx gc hn k hI ht => ?_⟩
  rw [exec_For]
  refine sq_bind (wpAny_standAt ?_)
  refine sq_bind ?_
  rw [gc.over]
  refine wpAny_mono (wpAny_asleep ((hi s₀ Hw).run _ (bombs s) σ H _ (inv_bombs hI.inv) ht)) (fun v u' hu => ?_) (fun e u' hu => ?_)
  rotate_left
  · obtain ⟨_, _, q⟩ := hu
    exact q.elim
  obtain ⟨u, z, hu⟩ := hu
  refine sq_bind (wpAny_of_eq (hs v) ?_)
  refine sq_bind (wpAny_standAt ?_)
  refine sq_bind (wpAny_holding ?_)
  rw [gc.over]
  refine wpAny_mono (wpAny_simR z hu) (fun itv u2' h2 => ?_) (fun e u2' h2 => ?_)
  rotate_left
  · obtain ⟨_, _, q⟩ := h2
    exact q.elim
  obtain ⟨u2, z2, it, fp, tn, Jt, H2, e2, I2, T, st2, f2, sm2, W, ⟨m0, w0⟩, turn⟩ := h2
  subst e2
  have G2 : GJ X Ss ip sl s₀ Hw σ H2 u2' := hI.to (inv_sim z2 hI.inv.bare I2) sm2 (slp_sim z2 hI.slp) (run_sim z2)
  have st2' : tn 0 u2'.heap := by rw [← z2.heap]; exact st2
  have fpS : ∀ b ∈ fp, b ∉ Ss := fun b hb hS => by
    obtain ⟨o, e, _⟩ := hI.own b hS
    exact (f2 b hb).2.2.2.2.2 (b, o) (List.mem_append_right _ (List.mem_append_left _ (mem_pinsAt hS e))) rfl
  have fpY : ∀ b ∈ fp, X.s_0.heap.objs.size ≤ b := fun b hb => by
    rcases (f2 b hb).2.2.2.1 with q | q
    · have q : b ∈ X.ex := q
      rw [gx.ex] at q; cases q
    · have q : (cut s₀.heap X.s_0.heap.objs.size).objs.size ≤ b := q
      rw [cut_size hI.sz] at q; exact q
  have fpI : ∀ b ∈ fp, ∀ p ∈ X.pn ++ ip, p.1 ≠ b := fun b hb p hp => (f2 b hb).2.2.2.2.2 p (by
    rcases List.mem_append.mp hp with q | q
    · exact List.mem_append_left _ q
    · exact List.mem_append_right _ (List.mem_append_right _ q))
  -- the iterator's own objects, at each waking
  have stat : ∀ {s₁ : Shared} {H1 H' : Hp} {σ' : L2.St} {s' : Shared}, GJ X Ss ip sl s₁ H1 σ' H' s' → (∀ b ∈ fp, H' b = none) → ∀ b ∈ fp, FpOk (at_ X s₁ H1) (pinsAt Ss s₁.heap ++ ip) H' b := fun {s₁ H1 H' σ' s'} G hn b hb => by
    refine ⟨hn b hb, (f2 b hb).2.1, (f2 b hb).2.2.1, .inr ?_, (f2 b hb).2.2.2.2.1, fun p hp => ?_⟩
    · show (cut s₁.heap X.s_0.heap.objs.size).objs.size ≤ b
      rw [cut_size G.sz]; exact fpY b hb
    · rcases List.mem_append.mp hp with q | q
      · exact fpI b hb p (List.mem_append_left _ q)
      · rcases List.mem_append.mp q with q | q
        · intro e
          exact fpS b hb (e ▸ (of_pinsAt q).1)
        · exact fpI b hb p (List.mem_append_right _ q)
  refine sq_runOwn fun p => ?_
  have gl := fun (kk : Result → Sem PySem.Fin) => gc_for (k := kk) (c' := .forLoop tg (.ref it) body [] X.env) (l := lv []) (kp := []) (p := p) gc rfl rfl
  have loop : ∀ (m j n i : Nat) (s₀ s : Shared) (Hw : Hp) (σ : L2.St) (H : Hp), n + i = D.N + 1 → W j m i σ H → GJ X Ss ip sl s₀ Hw σ H s → tn j s.heap → (∀ b ∈ fp, H b = none) →
      SegQ (model X.prog X.w) A (PostN X A Ss D.N D.It n s₀ Hw) (.forLoop tg (.ref it) body [] X.env) ((model X.prog X.w).den (.forLoop tg (.ref it) body [] X.env))
        (.ret (fun r => ((match r with | .ok f => (.pure f : Sem Flow) | .error e => .raise e).onRaise (cameBack X.env)).wrap K J gd lv) none (gd false) (lv []) c p [] :: fs) s := by
    intro m
    induction m using Nat.strongRecOn with
    | ind m ih =>
      intro j n i s₀ s Hw σ H hn w hI st fr
      refine sq_forTurn ?_
      rw [(gl _).over]
      rcases turn j m i σ H w with ⟨stop, qn⟩ | ⟨go, N, hN, step⟩
      · refine wpAny_mono (wpAny_asleep (T.done (at_ X s₀ Hw) rfl rfl rfl hc j _ (bombs s) σ H NoX (inv_bombs hI.inv) (stat hI fr) st stop)) (fun r u' hu => ?_) (fun e u' hu => ?_)
        · obtain ⟨u, z, hr, I⟩ := hu
          subst hr
          refine sq_blockNil (sq_leaf (.ok .next) ?_)
          exact k n i s₀ u' Hw .next hn ⟨σ, H, hI.to (inv_sim z hI.inv.bare I) (Same.refl _) (slp_sim z hI.slp) (run_sim z), qn⟩
        · obtain ⟨_, _, q⟩ := hu
          exact q.elim
      · refine wpAny_mono (wpAny_asleep (T.item (at_ X s₀ Hw) rfl rfl rfl hc j _ (bombs s) σ H NoX (inv_bombs hI.inv) (stat hI fr) st go)) (fun r u' hu => ?_) (fun e u' hu => ?_)
        rotate_left
        · obtain ⟨_, _, q⟩ := hu
          exact q.elim
        obtain ⟨u, z, uv, hr, h4⟩ := hu
        subst hr
        refine wpAny_mono (wpAny_simR z h4) (fun _ u4' h5 => ?_) (fun e u4' h5 => ?_)
        rotate_left
        · obtain ⟨_, _, q⟩ := h5
          exact q.elim
        obtain ⟨u4, z4, x, H5, I5, r5, y5, st5, fr5⟩ := h5
        obtain ⟨sm5, gt⟩ := step x H5 y5
        have G5 : GJ X Ss ip sl s₀ Hw σ H5 u4' := hI.to (inv_sim z4 hI.inv.bare I5) sm5 (slp_sim z4 hI.slp) (run_sim z4)
        have st5' : tn (j + 1) u4'.heap := by rw [← z4.heap]; exact st5
        have pin5 : Inv (at_ X s₀ Hw) (pinsAt Ss s₀.heap ++ (ip ++ pinsAt fp u4'.heap)) σ H5 u4' := by
          have q := G5.inv.pinned (stat G5 fr5) (T.obj _ _ st5')
          exact q.pins_of fun p hp => q.pin p (List.mem_append_right _ (by rw [List.append_assoc]; exact hp))
        have G5p : GJ X Ss (ip ++ pinsAt fp u4'.heap) sl s₀ Hw σ H5 u4' := ⟨pin5, G5.sz, G5.same, G5.slp, fun p hp => by
          rcases List.mem_append.mp hp with q | q
          · exact G5.yng p (List.mem_append_left _ q)
          · rcases List.mem_append.mp q with q | q
            · exact G5.yng p (List.mem_append_right _ q)
            · exact ⟨fpY p.1 (of_pinsAt q).1, fpS p.1 (of_pinsAt q).1⟩, G5.ysS, G5.own, G5.os0, G5.rn, G5.me⟩
        refine wpAny_mono (wpAny_asleep ((hg s₀ Hw).run _ (bombs u4') σ H5 x uv _ (inv_bombs pin5) r5 gt)) (fun _ u6' h6 => ?_) (fun e u6' h6 => ?_)
        rotate_left
        · obtain ⟨_, _, q⟩ := h6
          exact q.elim
        obtain ⟨u6, z6, σ6, H6, I6, sm6, q6⟩ := h6
        have G6 : GJ X Ss (ip ++ pinsAt fp u4'.heap) sl s₀ Hw σ6 H6 u6' := G5p.to (inv_sim z6 pin5.bare I6) sm6 (slp_sim z6 G5p.slp) (run_sim z6)
        intro J1
        refine hb.run A Ss _ sl n i s₀ Hw _ _ _ J1 id id u6' σ6 H6 { D with nx := N, ct := N, bk := D.nx } hsl gx (gl _) hn (fun n' i' s₀' s' Hw' f hn' hf => ?_) G6 q6
        have again : ∀ {σ7 : L2.St} {H7 : Hp}, GJ X Ss (ip ++ pinsAt fp u4'.heap) sl s₀' Hw' σ7 H7 s' → N i' σ7 H7 →
            SegQ (model X.prog X.w) A (PostN X A Ss D.N D.It n' s₀' Hw') (.forLoop tg (.ref it) body [] X.env) (.pure (.again (.forLoop tg (.ref it) body [] X.env)))
              (.ret (fun r => ((match r with | .ok f => (.pure f : Sem Flow) | .error e => .raise e).onRaise (cameBack X.env)).wrap K J gd lv) none (gd false) (lv []) c p [] :: fs) s' := fun {σ7 H7} G7 n7 => by
          obtain ⟨m', hm, w7⟩ := hN i' σ7 H7 n7
          have at7 : ∀ b ∈ fp, ∀ o, u4'.heap.get? b = some o → s'.heap.get? b = some o ∧ H7 b = none := fun b hb o e => by
            obtain ⟨e1, e2, _⟩ := G7.inv.pin (b, o) (List.mem_append_right _ (List.mem_append_right _ (List.mem_append_right _ (mem_pinsAt hb e))))
            exact ⟨e1, e2⟩
          refine sq_again rfl (ih m' hm (j + 1) n' i' s₀' s' Hw' σ7 H7 hn' w7 G7.fewer (T.keep _ _ _ st5' fun b hb o e => (at7 b hb o e).1) fun b hb => ?_)
          obtain ⟨o, e, _⟩ := T.obj _ _ st5' b hb
          exact (at7 b hb o e).2
        cases f with
        | next => obtain ⟨σ7, H7, G7, n7⟩ := hf; exact again G7 n7
        | cont => obtain ⟨σ7, H7, G7, n7⟩ := hf; exact again G7 n7
        | brk =>
          obtain ⟨σ7, H7, G7, n7⟩ := hf
          exact sq_leaf (.ok .next) (k n' i' s₀' s' Hw' .next hn' ⟨σ7, H7, G7.fewer, n7⟩)
        | ret v =>
          obtain ⟨ev, σ7, H7, G7, n7⟩ := hf
          exact sq_leaf (.ok (.ret v)) (k n' i' s₀' s' Hw' (.ret v) hn' ⟨ev, σ7, H7, G7.fewer, n7⟩)
  refine loop m0 0 n i s₀ u2' Hw σ H2 hn w0 G2 st2' fun b hb => (f2 b hb).1
end
end GFor
/-! ## GenFor4 -/
/-! A generator def's call, and next. -/
namespace GFor
open PySem PySem.Spec PyProof.Rows L2 GenW GSim
open Sem (wp)
/-! ### what the consumer sees -/
def PostC (P : Program) (w : World) (base : Heap) (outer : List Env) (n0 : Nat) (Ss : List Addr) (a : Addr) (g : Nat) (A : Around) (N : Nat) (It : Its) : Nat → Shared → Hp → End → Shared → Prop
  | 0, _, _, _, _ => False
  | n + 1, s₀, Hw, e, s => match e with
    | .ret r => (r = .ok (.ret .none) ∨ r = .ok .next) ∧ n = 0 ∧ ∃ H, Ran P w outer n0 Ss a g s₀ Hw s H
    | .susp v gd l k c p fs => (End.susp v gd l k c p fs).quiet = true ∧ 1 ≤ n ∧ n ≤ N ∧ ∃ H x, Ran P w outer n0 Ss a g s₀ Hw s H ∧ RelV x v ∧ It (N - n) x H ∧
        ∀ s' H', Naps P w base outer n0 g Ss s H s' H' → SegQ (model P w) A (PostC P w base outer n0 Ss a g A N It n s' H') c (k (.send .none)) fs s'
/-- a generator that has not begun -/
def GMade (P : Program) (w : World) (base : Heap) (k : Nat) (outer : List Env) (n0 m0 : Nat) (H : Hp) (N : Nat) (It : Its) (u : Value) (s' : Shared) : Prop :=
  ∃ (a : Addr) (g : Nat) (c : Code), u = .ref a ∧ m0 ≤ g ∧ n0 ≤ a ∧ a < s'.heap.objs.size ∧ H a = none ∧ s'.heap.IsGen a g ∧ s'.gens[g]? = some (.fresh c) ∧ s'.heap.NoLimit ∧
    ∀ (A : Around) (Ss : List Addr) (s2 : Shared) (H2 : Hp), Room k A → A.frames = some outer → (∀ b ∈ Ss, s'.heap.objs.size ≤ b) → Naps0 P w base outer n0 g Ss s' H s2 H2 →
      SegQ (model P w) A (PostC P w base outer n0 Ss a g A N It (N + 1) s2 H2) c ((model P w).den c) [] s2
/-- a generator def's promise: arguments, heap, how many items, what is asked of each -/
abbrev SpF := List V → Hp → Nat → Its → Prop
structure GFnF (P : Program) (w : World) (K : PySem.W.Frag) (mg : Str → Option Value) (base : Heap) (k : Nat) (f : Addr) (fd : FuncData) (ps : List Str) (sp : SpF) : Prop where
  len : ∀ vs H N It, sp vs H N It → vs.length = ps.length
  run : ∀ (A : Around) (outer : List Env) (s : Shared) (H : Hp) (args : Args) (us : List Value) (vs : List V) (N : Nat) (It : Its), Room k A → Env0 P w K mg base A outer s H → BindsTo s fd args (ps.zip us) → Vals vs us → sp vs H N It →
    codeAny (model P w) A (.call (.ref f) args) (fun r s' => match r with
      | .ok (.ret u) => s'.os = s.os ∧ AllBare s'.gens ∧ (∀ b o, s.heap.get? b = some o → s'.heap.get? b = some o) ∧ GMade P w base k outer s.heap.objs.size s.gens.size H N It u s'
      | _ => False) s
/-- a generator def's body's context -/
abbrev xOf (P : Program) (w : World) (K : PySem.W.Frag) (mg : Str → Option Value) (base : Heap) (N : List Str) (qual : Str) (scope : Scope) (f : Addr) (cd : Value) (A : Around) (outer : List Env) (s : Shared) (H : Hp) (pn : List (Addr × Obj)) : Cx :=
  { cxOf CX0 P w K mg base N qual scope f cd A outer s H E0 with pn := pn }
theorem gfnF_of {P : Program} {w : World} {K : PySem.W.Frag} {mg : Str → Option Value} {base : Heap} {k : Nat} {f : Addr} {name qual : Str} {params : Arguments} {body : List Stmt} {scope : Scope} {dV kV doc pm cdv ct oc : Value} {an od : Option Addr}
    {osl : Array (Option Value)} {N ps : List Str} {sp : SpF} (lk : K.lookup f = some ⟨oc, od, .func (PySem.W.fnOf name qual params body scope dV kV doc pm an cdv ct), osl⟩) (hcd : PySem.W.codeIn K cdv qual = true) (S : GScope N ps scope)
    (hnc : ∀ n, cellsFrom n scope.names [] = []) (len : ∀ vs H N It, sp vs H N It → vs.length = ps.length)
    (hbody : ∀ (A : Around) (outer : List Env) (s : Shared) (H : Hp) (vs : List V) (n : Nat) (It : Its) (pn : List (Addr × Obj)), Room k (A.deeper (envOfC qual scope s.heap.objs.size f cdv)) → sp vs H n It →
      ∃ t, GSs true (xOf P w K mg base N qual scope f cdv A outer s H pn) body t ∧ ∀ H2, Same H H2 → t { N := n, It := It, nx := fun i _ _ => i = n, rt := fun i _ => i = n } 0 (start N vs) H2) :
    GFnF P w K mg base (k + 1) f (PySem.W.fnOf name qual params body scope dV kV doc pm an cdv ct) ps sp := by
  refine ⟨len, fun A outer s H args us vs n It hr e0 hb r hsp => ?_⟩
  have hl := len _ _ _ _ hsp
  have KX : K.In s.heap := e0.mod.kin.keeps fun b o e => (e0.bs b o e).1
  have lim : s.heap.NoLimit := e0.mod.nolimit.keeps fun b o e => (e0.bs b o e).1
  have hkind : ∀ y ∈ ps.zip us, scope.names.lookup y.1 = some .local ∨ (scope.names.lookup y.1 = some .cell ∧ ((cellsFrom (s.heap.objs.size + 1) scope.names []).lookup y.1).isSome = true) := fun y hy => by
    rcases S.par y.1 (List.of_mem_zip hy).1 with q | q
    · exact .inl q
    · exact .inr ⟨q, PySem.W.cellsFrom_some _ _ _ (.inl q)⟩
  refine codeAny_call_generator hr.depth (KX _ _ lk) rfl S.co S.gen rfl (PySem.W.codeRec_of KX hcd) (hb _ _ _ _ ?_)
  refine wpAny_newFunctionEnv_cells S.kind hkind fun env he s1 x => ?_
  subst he
  have lim1 : s1.heap.NoLimit := lim.keeps x.toInCall.keep
  refine ⟨lim1, ?_⟩
  obtain ⟨h1, tk, es1, hk1⟩ := x.done
  have os1 : s1.os = s.os := by rw [es1]
  have gen1 : s1.gens = s.gens := by rw [es1]
  have lt1 : s.heap.objs.size < s1.heap.objs.size := x.toInCall.ns.lt
  have kp1 : ∀ b o, s.heap.get? b = some o → s1.heap.get? b = some o := x.toInCall.keep
  have main : ∀ (go : Obj) (nm qn : Value) (tk2 : Nat), go.cls = .type "generator" → go.data = .fields #[.int s1.gens.size 0, nm, qn] → go.slots = #[] → (∀ h : Heap, (h.push go).get? h.objs.size = some go) →
      ((⟨s1.heap.push go, s1.gens.push (.fresh (.func body (envOfC qual scope s.heap.objs.size f cdv))), s1.drawn, tk2, s1.os⟩ : Shared).os = s.os ∧ AllBare (s1.gens.push (.fresh (.func body (envOfC qual scope s.heap.objs.size f cdv)))) ∧
        (∀ b o, s.heap.get? b = some o → (s1.heap.push go).get? b = some o) ∧
        GMade P w base (k + 1) outer s.heap.objs.size s.gens.size H n It (.ref s1.heap.objs.size) ⟨s1.heap.push go, s1.gens.push (.fresh (.func body (envOfC qual scope s.heap.objs.size f cdv))), s1.drawn, tk2, s1.os⟩) := by
    intro go nm qn tk2 hgc hgd hgs hgp
    have hbare : AllBare (s1.gens.push (.fresh (.func body (envOfC qual scope s.heap.objs.size f cdv)))) := AllBare.push (by rw [gen1]; exact e0.bare) rfl
    have hpushed : (s1.heap.push go).get? s1.heap.objs.size = some go := hgp _
    have kpo : ∀ b o, s1.heap.get? b = some o → (s1.heap.push go).get? b = some o := fun b o e => Heap.get?_push_of_some _ e
    have szp : (s1.heap.push go).objs.size = s1.heap.objs.size + 1 := Heap.size_push _ _
    have fresh1 : H s1.heap.objs.size = none := e0.hok.fresh (Nat.le_of_lt lt1)
    refine ⟨os1, hbare, fun b o e => kpo b o (kp1 b o e), s1.heap.objs.size, s1.gens.size, _, rfl, Nat.le_of_eq (by rw [gen1]), Nat.le_of_lt lt1, ?_, fresh1, ⟨go, nm, qn, hpushed, hgc, hgd, hgs⟩, Array.getElem?_push_size .., lim1.keeps kpo, ?_⟩
    · show _ < (s1.heap.push go).objs.size
      rw [szp]; exact Nat.lt_succ_self _
    intro Aw Ss s2 H2 hrw hfr hSs nap
    have e0w : Env0 P w K mg base Aw outer s H := ⟨hfr, e0.mod, e0.bs, e0.bsz, e0.funs, e0.frf, e0.hok, e0.bare⟩
    obtain ⟨t, ht, hq⟩ := hbody Aw outer s H vs n It [(s1.heap.objs.size, go)] (hrw.deeper _) hsp
    have gx : GX (xOf P w K mg base N qual scope f cdv Aw outer s H [(s1.heap.objs.size, go)]) := ⟨hnc _, rfl, fun b hb => by
      obtain ⟨_, o, ho, _⟩ := e0.funs.mem hb
      exact Heap.lt_size ho⟩
    have I1 : Inv (gcxOf P w K mg base N qual scope f cdv Aw outer s H E0 []) [] (start N vs) H s1 := inv_startG S hrw.hd e0w hl r x
    have I2 : Inv (gcxOf P w K mg base N qual scope f cdv Aw outer s H E0 []) [] (start N vs) H ⟨s1.heap.push go, s1.gens.push (.fresh (.func body (envOfC qual scope s.heap.objs.size f cdv))), s1.drawn, tk2, s1.os⟩ :=
      inv_heap (I1.kept (h' := s1.heap.push go) (t' := s1.toks) kpo) rfl rfl hbare
    have hno : genNo (xOf P w K mg base N qual scope f cdv Aw outer s H [(s1.heap.objs.size, go)]) = s1.gens.size := by
      show dataNo go.data = _
      rw [hgd]
      simp [dataNo, firstInt]
    have hne : s1.heap.objs.size ≠ (envOfC qual scope s.heap.objs.size f cdv).locals := Nat.ne_of_gt lt1
    have I3 : Inv { (xOf P w K mg base N qual scope f cdv Aw outer s H [(s1.heap.objs.size, go)]) with s_0 := s, H_0 := H, xe := fun _ _ => False } [] (start N vs) H ⟨s1.heap.push go, s1.gens.push (.fresh (.func body (envOfC qual scope s.heap.objs.size f cdv))), s1.drawn, tk2, s1.os⟩ := by
      refine ⟨⟨I2.ok.mod, I2.ok.kind, I2.ok.glob, I2.ok.blt, I2.ok.above, I2.ok.inj, I2.ok.has, I2.ok.cab, I2.ok.hd, I2.ok.frames, I2.ok.stk, I2.ok.exf, I2.ok.bs, I2.ok.bsz, I2.ok.noex, I2.ok.exfs, I2.ok.funs, I2.ok.frf⟩, I2.os, I2.bare, I2.base, I2.loc, I2.cell, I2.free, I2.freeC, fun p hp => ?_, I2.hok, I2.len⟩
      have hp : p = (s1.heap.objs.size, go) := by simpa using hp
      subst hp
      refine ⟨hpushed, fresh1, hne, fun hm => ?_, fun v q => by rw [hgd] at q; cases q⟩
      have q := gx.old _ hm
      exact absurd (Nat.lt_trans lt1 q) (Nat.lt_irrefl _)
    have G2 : GJ (xOf P w K mg base N qual scope f cdv Aw outer s H [(s1.heap.objs.size, go)]) Ss [] [] s2 H2 (start N vs) H2 s2 := by
      refine rebase (ip := []) (pp := []) gx I3 rfl os1 (fun p hp => (by simp at hp)) (fun p hp => (by simp at hp)) (fun p hp => ?_) (fun b hb => ?_) (by rw [hno]; exact nap)
      · have hp : p = (s1.heap.objs.size, go) := by simpa using hp
        subst hp
        refine ⟨Nat.le_of_lt lt1, fun hm => ?_⟩
        have q : (s1.heap.push go).objs.size ≤ s1.heap.objs.size := hSs _ hm
        rw [szp] at q
        exact absurd q (Nat.not_succ_le_self _)
      · have q : (s1.heap.push go).objs.size ≤ b := hSs b hb
        rw [szp] at q
        exact ⟨Nat.le_trans (Nat.le_of_lt lt1) (Nat.le_of_succ_le q), Nat.ne_of_gt (Nat.lt_of_lt_of_le lt1 (Nat.le_of_succ_le q))⟩
    have ran : ∀ {ip : List (Addr × Obj)} {sl : List (Nat × GenState)} {s₀ s' : Shared} {Hw H' : Hp} {σ : L2.St}, GJ (xOf P w K mg base N qual scope f cdv Aw outer s H [(s1.heap.objs.size, go)]) Ss ip sl s₀ Hw σ H' s' → Ran P w outer s.heap.objs.size Ss s1.heap.objs.size s1.gens.size s₀ Hw s' H' := fun {ip sl s₀ s' Hw H' σ} G =>
      G.ran (nm := nm) (qn := qn) gx rfl hno ⟨hgc, hgd, hgs⟩
    have conv : ∀ (m : Nat) (s₀ : Shared) (Hw : Hp) (e : End) (s' : Shared), PostN (xOf P w K mg base N qual scope f cdv Aw outer s H [(s1.heap.objs.size, go)]) Aw Ss n It m s₀ Hw e s' → PostC P w base outer s.heap.objs.size Ss s1.heap.objs.size s1.gens.size Aw n It m s₀ Hw e s' := by
      intro m
      induction m with
      | zero => intro _ _ _ _ h; exact h
      | succ m ih =>
        intro s₀ Hw e s' h
        cases e with
        | ret rr =>
          obtain ⟨h1, h2, ip, sl, σ, H', G⟩ := h
          exact ⟨h1, h2, H', ran G⟩
        | susp v gd l k c p fs =>
          obtain ⟨h1, h2, h3, ip, sl, σ, H', y, G, rv, it, hk⟩ := h
          exact ⟨h1, h2, h3, H', y, ran G, rv, it, fun s'' H'' nz => sq_imp (ih s'' H'') (hk s'' H'' (by rw [hno]; exact nz))⟩
    refine sq_imp (conv (n + 1) s2 H2) ?_
    refine sq_func ?_
    refine ht.run Aw Ss [] [] (n + 1) 0 s2 H2 _ [] _ _ id id s2 (start N vs) H2 { N := n, It := It, nx := fun i _ _ => i = n, rt := fun i _ => i = n } (fun _ => rfl) gx ⟨over_func, rfl, rfl, rfl⟩ rfl (fun m i s₀ s' Hw fl hm hs => ?_) G2 (hq H2 nap.same)
    have hm : m + i = n + 1 := hm
    cases fl with
    | next =>
      obtain ⟨σ', H', G, e⟩ := hs
      have e : i = n := e
      subst e
      obtain rfl : m = 1 := by omega
      exact sq_end (.ok (.ret .none)) ⟨.inl rfl, rfl, [], [], σ', H', G⟩
    | brk => obtain ⟨_, _, _, q⟩ := hs; exact False.elim q
    | cont => obtain ⟨_, _, _, q⟩ := hs; exact False.elim q
    | ret u =>
      obtain ⟨eu, σ', H', G, e⟩ := hs
      have e : i = n := e
      subst e eu
      obtain rfl : m = 1 := by omega
      exact sq_end (.ok (.ret .none)) ⟨.inl rfl, rfl, [], [], σ', H', G⟩
  exact main _ _ _ _ rfl rfl rfl fun h => Heap.get?_push_size _ rfl
/-! ### next -/
/-- how it goes on from here -/
def GoesQ (M : Model) (A : Around) (Q : End → Shared → Prop) : GenState → Shared → Prop
  | .fresh c, s => SegQ M A Q c (M.den c) [] s
  | .suspended k _ c _ fs _, s => SegQ M A Q c (k (.send .none)) fs s
  | _, _ => False
section
variable {M : Model}
theorem resume_q {A : Around} {Q : End → Shared → Prop} {E : Value → Shared → Prop} {s : Shared} {g : Nat} {gs : GenState} {l : List Value} {α : Type} {k : GenResult → Sem α} {R : α → Shared → Prop}
    (hg : s.gens[g]? = some gs) (hgo : GoesQ M A Q gs (s.setGen g .running)) (hq : ∀ e s₁, Q e s₁ → e.quiet = true) (hR : ∀ e s₁, Q e s₁ → wpAny M A (k e.result) R E (s₁.setGen g e.genState)) :
    wpAny M A (.resume g (.send .none) l k) R E s := by
  intro Γ p hΓ
  rw [Sem.wp_resume]
  cases gs with
  | fresh c =>
    obtain ⟨e₁, s₁, hr, he⟩ := hgo (Γ.wake c p) p rfl (hΓ.wake c p)
    exact ⟨_, _, by unfold Wakes; rw [hg]; exact ⟨e₁, s₁, hr, hq e₁ s₁ he, rfl, rfl⟩, hR e₁ s₁ he Γ p hΓ⟩
  | suspended k₀ l₀ c₀ p₀ fs₀ cl =>
    obtain ⟨e₁, s₁, hr, he⟩ := hgo (Γ.wake c₀ p) p₀ rfl (hΓ.wake c₀ p)
    exact ⟨_, _, by unfold Wakes; rw [hg]; exact ⟨e₁, s₁, hr, hq e₁ s₁ he, rfl, rfl⟩, hR e₁ s₁ he Γ p hΓ⟩
  | running => exact hgo.elim
  | finished => exact hgo.elim
end
section
variable {P : Program} {w : World} {A : Around} {E : Value → Shared → Prop} {s : Shared}
theorem next_gen {a : Addr} {g : Nat} {gs : GenState} {Q : End → Shared → Prop} {R : Option Value → Shared → Prop} (hh : A.handled = none) (hl : s.heap.NoLimit) (hroom : A.depth < recursionLimit) (hg : s.heap.IsGen a g) (hgs : s.gens[g]? = some gs)
    (hgo : GoesQ (model P w) A.in1 Q gs (s.setGen g .running))
    (hY : ∀ v gd l k c p fs s₁, Q (.susp v gd l k c p fs) s₁ → (End.susp v gd l k c p fs).quiet = true ∧ R (some v) (s₁.setGen g (End.susp v gd l k c p fs).genState))
    (hP : ∀ r s₁, Q (.ret r) s₁ → (r = .ok (.ret .none) ∨ r = .ok .next) ∧ ∀ h', (∀ b o, s₁.heap.get? b = some o → h'.get? b = some o) → R none { s₁.setGen g .finished with heap := h' }) :
    wpAny (model P w) A (pyNext (.ref a)) R E s := by
  unfold pyNext
  refine wpAny_bind (wpAny_attempt (wpAny_callSpecial?_slot (name := Str.ofString "__next__") hg.typeIs slot_gen_next
    (wpAny_call_entry slot_gen_next hg.typeIs entry_gen_next ?_ (args_gen_next _))))
  show wpAny _ A.in1 (Builtin.Generator.genWake (.ref a) (.send .none)) _ _ s
  unfold Builtin.Generator.genWake
  refine wpAny_bind (wpAny_holding (wpAny_genNumber hg (wpAny_bind (wpAny_genState hgs ?_))))
  cases gs with
  | running => exact hgo.elim
  | finished => exact hgo.elim
  | _ =>
    refine wpAny_bind (wpAny_roomToWake hl hroom ?_)
    show wpAny _ A.in1 (.resume g (.send .none) [] _) _ _ s
    refine resume_q hgs hgo (fun e s₁ he => ?_) (fun e s₁ he => ?_)
    · cases e with
      | ret r => rfl
      | susp v gd l k c p fs => exact (hY v gd l k c p fs s₁ he).1
    · cases e with
      | ret x =>
        obtain ⟨hx, hp⟩ := hP x s₁ he
        have hres : End.result (.ret x) = .returned .none := by
          rcases hx with hr | hr <;> rw [hr] <;> rfl
        first | rw [hres] | simp only [hres]
        show wpAny _ A.in1 (newExc (.type "StopIteration") [] >>= _) _ _ _
        refine wpAny_bind ?_
        simp only [newExc, newTuple]
        refine wpAny_bind (wpAny_newObj_type ?_ (by size_fits))
        refine wpAny_bind (m := firstArgMember _ _) (wpAny_of_eq (a := Value.none) (by first | rfl | (simp only [firstArgMember]; rfl)) ?_)
        refine wpAny_newObj_type ?_ (by size_fits)
        simp only [raiseNew]
        refine wpAny_bind (wpAny_bind (wpAny_handled ?_))
        first | rw [show A.in1.handled = none from hh] | rw [hh]
        refine wpAny_throw ?_
        refine wpAny_bind (wpAny_isInstance (T := "StopIteration") (b := true) ⟨_, Heap.get?_push_size _ rfl, rfl⟩ isSubtype_stop ?_)
        exact wpAny_pure (hp _ fun b o hb => Heap.get?_push_of_some _ (Heap.get?_push_of_some _ hb))
      | susp v gd l k c p fs =>
        exact wpAny_pure ⟨v, rfl, wpAny_pure (hY v gd l k c p fs s₁ he).2⟩
end
end GFor
/-! ## GenFor5 -/
/-! A for loop over a generator: in a plain def, in a generator's body. -/
namespace GFor
open PySem PySem.Spec PyProof.Rows L2 GenW GSim
open Sem (wp)
theorem thn_gsz {α : Type} {M : Model} {A : Around} {t : Sem α} {Q Q' : α → Shared → Prop} {E : Value → Shared → Prop} {s : Shared} {n : Nat} (hn : n ≤ s.gens.size) (h : wpAny M A t Q E s) (hQ : ∀ a s', n ≤ s'.gens.size → Q a s' → Q' a s') : wpAny M A t Q' E s :=
  wpAny_gsz hn (wpAny_mono h (fun a s' q hz => hQ a s' hz q) fun e s' q _ => q)
/-- older than n0: the frame, its cells, what is pinned -/
structure Older (X : Cx) (pins : List (Addr × Obj)) (n0 : Nat) : Prop where
  entry : X.s_0.heap.objs.size ≤ n0
  loc : X.env.locals < n0
  cells : ∀ x c, X.env.cells.lookup x = some c → c < n0
  pins : ∀ p ∈ X.pn ++ pins, p.1 < n0
theorem older_of {X : Cx} {pins : List (Addr × Obj)} {σ : L2.St} {H : Hp} {s : Shared} (I : Inv X pins σ H s) : Older X pins s.heap.objs.size where
  entry := I.sz
  loc := I.lt
  cells := fun x c e => let ⟨_, q⟩ := I.cell x c e; q.lt
  pins := fun p hp => Heap.lt_size (I.pin p hp).1
/-- an expression whose value is a generator that has not begun -/
abbrev TGenF := L2.St → Hp → (Nat → Its → Hp → Prop) → Prop
structure PGenF (X : Cx) (k : Nat) (e : Expr) (tg : TGenF) : Prop where
  run : ∀ (pins : List (Addr × Obj)) (s : Shared) (σ : L2.St) (H : Hp) (R : Nat → Its → Hp → Prop), Inv X pins σ H s → tg σ H R → wpAny (model X.prog X.w) X.A (eval e X.env)
    (fun u s' => ∃ H1 n0 m0 N It, Inv X pins σ H1 s' ∧ Older X pins n0 ∧ s.gens.size ≤ m0 ∧ GMade X.prog X.w X.base k X.stack n0 m0 H1 N It u s' ∧ R N It H1) X.xe s
section
variable {X : Cx} {k : Nat} {f C : Addr} {fd : FuncData} {ps : List Str} {sp : SpF} {dvs : List V} {ds : List Value} {x m : Str} {p pos pos' apos : Pos} {o : Expr} {ta : TE}
theorem run_gfnF {pins : List (Addr × Obj)} {σ : L2.St} {H : Hp} {s : Shared} {us : List Value} {vs : List V} {R : Nat → Its → Hp → Prop} {E1 : Value → Shared → Prop} {m0 : Nat} (hm : m0 ≤ s.gens.size) (F : GFnF X.prog X.w X.K X.mg X.base k f fd ps sp) (hr : Room k X.A) (hb : Binds X.K fd ps ds) (hd : Vals dvs ds)
    (I : Inv X pins σ H s) (r : Vals vs us) (h : ∃ N It, sp (vs ++ dvs) H N It ∧ R N It H) :
    wpAny (model X.prog X.w) X.A (call (.ref f) us) (fun u s' => ∃ H1 n0 m1 N It, Inv X pins σ H1 s' ∧ Older X pins n0 ∧ m0 ≤ m1 ∧ GMade X.prog X.w X.base k X.stack n0 m1 H1 N It u s' ∧ R N It H1) E1 s := by
  obtain ⟨N, It, hsp, hR⟩ := h
  have r2 : Vals (vs ++ dvs) (us ++ ds) := r.append hd
  have hl2 : (us ++ ds).length = ps.length := by rw [← r2.length]; exact F.len _ _ _ _ hsp
  refine wpAny_call (codeAny_mono (F.run X.A X.stack s H ⟨us, []⟩ (us ++ ds) (vs ++ dvs) N It hr I.env0 (hb s us I.kIn hl2) r2 hsp) fun r s' hq => ?_)
  cases r with
  | error e => exact False.elim hq
  | ok fl =>
    cases fl with
    | ret u =>
      obtain ⟨ho, hba, hk, G⟩ := hq
      exact ⟨H, s.heap.objs.size, s.gens.size, N, It, inv_heap (I.kept (h' := s'.heap) (t' := s.toks) hk) rfl ho hba, older_of I, hm, G, hR⟩
    | next => exact False.elim hq
    | brk => exact False.elim hq
    | cont => exact False.elim hq
def tMethF (C : Addr) (m : Str) (sp : SpF) (dvs : List V) (ta : TE) (t : TA) : TGenF := fun σ H R => ta σ H fun x H1 => ∃ a dx fs, x = .ref a ∧ H1 a = some (.ins C dx fs) ∧ fs.lookup m = none ∧
  t σ H1 fun vs H2 => ∃ N It, sp (x :: (vs ++ dvs)) H2 N It ∧ R N It H2
/-- o.m() of a generator method -/
theorem pgenF_meth0 {pl : Sem Bool} (he : PE X o ta) (c : Cls X.K C) (hm : Meth X.K C m f) (F : GFnF X.prog X.w X.K X.mg X.base k f fd ps sp) (hr : Room k X.A) (hb : Binds X.K fd ps ds) (hd : Vals dvs ds)
    (ht : eval (.Call (.Attribute o m apos) [] [] pos') X.env = (do
      let ov ← eval o X.env
      standAt apos.atName
      let (f, first) ← holding [ov] (getMethod ov m pl)
      callWith pos' f first (backTo pos' (starEach [] X.env)) (backToKw pos' (keywordEach [] X.env))) := by rfl) :
    PGenF X k (.Call (.Attribute o m apos) [] [] pos') (tMethF C m sp dvs ta tNil) := by
  refine ⟨fun pins s σ H R I h => ?_⟩
  refine PySem.W.methodCall_KW (pl := pl) (thn_gsz (n := s.gens.size) (Nat.le_refl _) (he.run pins s σ H _ I h) fun u s1 hsz ⟨x, H1, I1, rx, a, dx, fs, ex, ea, l, q⟩ => ?_) ht
  subst ex
  obtain rfl : u = Value.ref a := rx
  refine getmeth_ok I1 ea c hm l ?_
  exact PySem.W.callWith_K0 (first := [.ref a]) I1.kIn hm.kp (run_gfnF (us := [.ref a]) (vs := [.ref a]) hsz F hr hb hd I1 (.cons rfl .nil) q)
def tCallF (sp : SpF) (dvs : List V) (t : TA) : TGenF := fun σ H R => t σ H fun vs H1 => ∃ N It, sp (vs ++ dvs) H1 N It ∧ R N It H1
/-- f(e, ..) of a generator def -/
theorem pgenF_call {e : Expr} {es : List Expr} {t : TA} (F : GFnF X.prog X.w X.K X.mg X.base k f fd ps sp) (hr : Room k X.A) (hg : Gl X x) (hm : X.mg x = some (.ref f)) (hk : PySem.W.keepIn X.K (.ref f) = true) (hb : Binds X.K fd ps ds) (hd : Vals dvs ds)
    (ha : PA X (e :: es) t) (hdb : (x == ("__debug__" : Str)) = false := by decide) (he : starEach (e :: es) X.env = (false, eval e X.env) :: starEach es X.env := by rfl) (hpl : (backTo pos' (starEach es X.env)).any (·.1) = false := by rfl) :
    PGenF X k (.Call (.Name x p) (e :: es) [] pos') (tCallF sp dvs t) := by
  refine ⟨fun pins s σ H R I h => ?_⟩
  refine wpAny_Call_Name_kw (ld_glob I hg hm ?_ hdb)
  refine PySem.W.callWith_K (h₀ := X.base) I.ok.mod.kin hk (thn_gsz (n := s.gens.size) (Nat.le_refl _) (ha.run pos' pins s σ H _ I h) fun us s1 hsz ⟨vs, H1, I1, r, q⟩ => ?_) he hpl
  exact ⟨I1.kIn, run_gfnF hsz F hr hb hd I1 r q⟩
end
/-! ### what the consumer pins: the generator's own young objects -/
def isCellD : Data → Bool
  | .cell _ => true
  | _ => false
theorem not_cellD {d : Data} (h : isCellD d = false) : ∀ v, d ≠ .cell v := fun v e => by rw [e] at h; cases h
theorem is_cellD {d : Data} (h : ∀ v, d ≠ .cell v) : isCellD d = false := by
  cases d <;> first | rfl | exact (h _ rfl).elim
def young (n0 : Nat) (h : Heap) (H : Hp) : List (Addr × Obj) := (List.range h.objs.size).filterMap fun b => match h.get? b with
  | some o => if decide (n0 ≤ b) && (H b).isNone && !isCellD o.data then some (b, o) else none
  | none => none
theorem mem_young {n0 : Nat} {h : Heap} {H : Hp} {b : Addr} {o : Obj} (h1 : n0 ≤ b) (h2 : H b = none) (e : h.get? b = some o) (hc : ∀ v, o.data ≠ .cell v) : (b, o) ∈ young n0 h H :=
  List.mem_filterMap.mpr ⟨b, List.mem_range.mpr (Heap.lt_size e), by simp [e, h1, h2, is_cellD hc]⟩
theorem of_young {n0 : Nat} {h : Heap} {H : Hp} {p : Addr × Obj} (hp : p ∈ young n0 h H) : n0 ≤ p.1 ∧ H p.1 = none ∧ h.get? p.1 = some p.2 ∧ ∀ v, p.2.data ≠ .cell v := by
  obtain ⟨b, _, e⟩ := List.mem_filterMap.mp hp
  cases q : h.get? b with
  | none => rw [q] at e; cases e
  | some o =>
    rw [q] at e
    dsimp only at e
    split at e
    · rename_i hc
      have e : (b, o) = p := Option.some.inj e
      subst e
      simp only [Bool.and_eq_true, decide_eq_true_eq, Option.isNone_iff_eq_none, Bool.not_eq_true'] at hc
      exact ⟨hc.1.1, hc.1.2, q, not_cellD hc.2⟩
    · cases e
section
variable {X : Cx} {pins : List (Addr × Obj)} {σ : L2.St} {H Hw : Hp} {s s₀ : Shared} {n0 : Nat}
theorem fs_older (I : Inv X pins σ H s) (o : Older X pins n0) : ∀ b ∈ X.fs, b < n0 := fun b hb => by
  obtain ⟨_, ob, ho, _⟩ := I.ok.funs.mem hb
  exact Nat.lt_of_lt_of_le (Heap.lt_size ho) o.entry
theorem inv_young (I : Inv X pins σ H s) (o : Older X pins n0) : Inv X (pins ++ young n0 s.heap H) σ H s :=
  I.pins_of fun p hp => by
    rcases List.mem_append.mp hp with q | q
    · exact I.pin p (List.mem_append_right _ q)
    · obtain ⟨h1, h2, h3, h4⟩ := of_young q
      refine ⟨h3, h2, Nat.ne_of_gt (Nat.lt_of_lt_of_le o.loc h1), fun hm => ?_, h4⟩
      exact absurd (Nat.lt_of_lt_of_le (fs_older I o _ hm) h1) (Nat.lt_irrefl _)
/-- behind a run of the generator -/
theorem inv_ran {P : Program} {w : World} {a : Addr} {g : Nat} (I : Inv X pins σ Hw s₀) (o : Older X pins n0) (R : Ran X.prog X.w X.stack n0 [] a g s₀ Hw s H) : Inv X pins σ H s := by
  refine I.call' (ch := loose n0 [] s₀.heap Hw) R.os R.un R.hok R.bare fun b hb => ?_
  obtain ⟨h1, _, _⟩ := of_loose hb
  exact ⟨.inr (Nat.le_trans o.entry h1), Nat.ne_of_gt (Nat.lt_of_lt_of_le o.loc h1), fun x c e => Nat.ne_of_lt (Nat.lt_of_lt_of_le (o.cells x c e) h1), fun p hp => Nat.ne_of_lt (Nat.lt_of_lt_of_le (o.pins p hp) h1)⟩
theorem gens_set {g : Nat} {x : GenState} (h : g < s.gens.size) : (s.setGen g x).gens[g]? = some x := L2.setGen_at h
theorem gens_ne {g i : Nat} {x : GenState} (h : i ≠ g) : (s.setGen g x).gens[i]? = s.gens[i]? := by
  show (s.gens.setIfInBounds g x)[i]? = _
  rw [Array.getElem?_setIfInBounds_ne (Ne.symm h)]
/-- the generator sleeps while its consumer's code runs: from s (its yield) to s' -/
theorem naps_of {a : Addr} {g : Nat} {pins' : List (Addr × Obj)} {σ' : L2.St} {H' : Hp} {s' s4 : Shared} {gs : GenState} (R : Ran X.prog X.w X.stack n0 [] a g s₀ Hw s H) (hos : s'.os = s.os) (h4 : s4 = s.setGen g gs) (hsu : isSusp gs = true) (hg : g < s.gens.size) (I : Inv X pins' σ' H' s') (hp : ∀ q ∈ young n0 s.heap H, q ∈ pins') (sm : Same H H')
    (kept : ∀ (i : Nat) st, s4.gens[i]? = some st → isSusp st = true → s'.gens[i]? = some st) : Naps X.prog X.w X.base X.stack n0 g [] s H (s'.setGen g .running) H' where
  os := hos
  bare := allBare_setGen I.bare rfl
  same := sm
  hok := I.hok
  bs := I.bs
  funs := I.stack
  frf := I.stkFree
  young := fun b o h1 _ h2 e hc => by
    obtain ⟨e1, e2, _⟩ := I.pin (b, o) (List.mem_append_right _ (hp _ (mem_young h1 h2 e hc)))
    exact ⟨e1, e2⟩
  gens := fun i st e hs => by
    have me := R.rn g R.me
    have ne : i ≠ g := fun z => by
      rw [z, me] at e
      cases e
      cases hs
    rw [gens_ne ne]
    refine kept i st ?_ hs
    rw [h4, gens_ne ne]
    exact e
  me := by
    have q : s4.gens[g]? = some gs := by rw [h4]; exact gens_set hg
    have q2 := kept g gs q hsu
    exact gens_set (Array.getElem?_eq_some_iff.mp q2).1
  own := fun b hb => by cases hb
/-- ahead of its first waking -/
theorem naps_first {g : Nat} {u : Shared} (I : Inv X pins σ H s) (hh : u.heap = s.heap) (ho : u.os = s.os) (hg : g < s.gens.size) : Naps0 X.prog X.w X.base X.stack n0 g [] u H (s.setGen g .running) H where
  os := ho.symm
  bare := allBare_setGen I.bare rfl
  same := Same.refl _
  hok := I.hok
  bs := I.bs
  funs := I.stack
  frf := I.stkFree
  young := fun b o _ _ h2 e _ => ⟨by rw [hh] at e; exact e, h2⟩
  me := gens_set hg
  own := fun b hb => by cases hb
end
/-! ### for, in a plain def -/
def tForG (tgen : TGenF) (g : TG) (tb : TS) : TS := fun D σ H => tgen σ H fun N It H1 => ∃ W : Nat → L2.St → Hp → Prop, W 0 σ H1 ∧ (∀ σ Hw H, W N σ Hw → Same Hw H → D.nx σ H) ∧
  ∀ i σ Hw H x, i < N → W i σ Hw → Same Hw H → It i x H → g x σ H fun σ2 H2 => Same H H2 ∧
    tb { D with nx := fun σ' H' => Same H2 H' ∧ W (i + 1) σ' H', ct := fun σ' H' => Same H2 H' ∧ W (i + 1) σ' H', bk := D.nx } σ2 H2
theorem ps_forG {X : Cx} {k : Nat} {tg e : Expr} {body : List Stmt} {tgen : TGenF} {g : TG} {tb : TS} {pos : Pos} (hc : X.calm = true) (hr : Room (k + 1) X.A) (he : PGenF X.nox k e tgen) (hg : PG X.nox tg g) (hb : PSs X.nox body tb)
    (hs : ∀ x, foldedSetIterable e X.env x = pure x := by intro _; rfl) : PS X.nox (.For tg e body [] pos) (tForG tgen g tb) := by
  refine ⟨fun pins s σ H D I h => ?_⟩
  refine wpAny_For (thn (he.run pins s σ H _ I h) fun v s1 h1 => ?_) hs
  obtain ⟨H1, n0, m0, N, It, I1, old, _, ⟨a, gi, c, rfl, _, ha1, ha2, ha3, hgen, hfresh, hlim, wake⟩, W, w0, wend, turn⟩ := h1
  refine wpAny_pyIter_gen hgen ?_
  have hh : X.A.handled = none := I1.ok.hd hc
  have hdep : X.A.depth < recursionLimit := hr.depth
  let Ps := PostC X.prog X.w X.base X.stack n0 [] a gi X.A.in1 N It
  refine codeAny_forLoop_any (fun m s => ∃ i σ H gs, m = N - i ∧ i ≤ N ∧ Inv X.nox pins σ H s ∧ W i σ H ∧ s.heap.IsGen a gi ∧ s.gens[gi]? = some gs ∧ GoesQ (model X.prog X.w) X.A.in1 (Ps (N + 1 - i) (s.setGen gi .running) H) gs (s.setGen gi .running)) ?_ N
    ⟨0, σ, H1, .fresh c, by omega, Nat.zero_le _, I1, w0, hgen, hfresh, wake X.A.in1 [] _ H1 hr.in1 I1.ok.frames (fun b hb => by cases hb) (naps_first I1 rfl rfl (Array.getElem?_eq_some_iff.mp hfresh).1)⟩
  rintro m s2 ⟨i, σ2, H2, gs, rfl, hi, I2, w2, hgen2, hgs, goes⟩
  have hgl : gi < s2.gens.size := (Array.getElem?_eq_some_iff.mp hgs).1
  have en : N + 1 - i = N - i + 1 := by omega
  rw [en] at goes
  have I2r : Inv X.nox pins σ2 H2 (s2.setGen gi .running) := inv_heap I2 rfl rfl (allBare_setGen I2.bare rfl)
  refine wpAny_gsz (n := gi + 1) hgl (next_gen hh I2.nolimit hdep hgen2 hgs goes (fun v gd l k' c' p' fs' s3 hy => ?_) (fun r s3 hR => ?_))
  · -- an item
    obtain ⟨hq, h1N, hNN, H3, x, R3, rv, it, hk⟩ := hy
    refine ⟨hq, fun hsz => ?_⟩
    have hbare : (End.susp v gd l k' c' p' fs').genState.bare = true := End.bare_of_quiet hq
    have hsu : isSusp (End.susp v gd l k' c' p' fs').genState = true := rfl
    generalize hgs' : (End.susp v gd l k' c' p' fs').genState = gs' at hsz hbare hsu ⊢
    have e2 : N - (N - i) = i := by omega
    rw [e2] at it
    have hg3 : gi < s3.gens.size := by
      have q : (s3.setGen gi gs').gens.size = s3.gens.size := setGen_size _ _ _
      rw [q] at hsz; exact hsz
    have J3 : Inv X.nox pins σ2 H3 s3 := inv_ran (P := X.prog) (w := X.w) I2r old R3
    have J4 : Inv X.nox (pins ++ young n0 s3.heap H3) σ2 H3 (s3.setGen gi gs') := inv_heap (inv_young J3 old) rfl rfl (allBare_setGen J3.bare hbare)
    obtain ⟨og, nm, qn, ho, hcl, hda, hsl⟩ := R3.gen
    have hpa : (a, og) ∈ young n0 s3.heap H3 := mem_young ha1 R3.nota ho fun v q => by rw [hda] at q; cases q
    refine go_of (s := s3.setGen gi gs') ho hcl hda (by decide) ?_
    refine wpAny_mono (wpAny_asleep (hg.run _ (bombs (s3.setGen gi gs')) σ2 H3 x v _ (inv_bombs J4) rv (turn i σ2 H2 H3 x (by omega) w2 R3.same it))) (fun _ s5 h5 => ?_) (fun _ _ z => ?_)
    · obtain ⟨u5, z5, σ5, H5, K5, sm5, q5⟩ := h5
      have J5 := inv_sim z5 J4.bare K5
      refine wpAny_mono (wpAny_asleep (hb.run _ (bombs s5) σ5 H5 _ (inv_bombs J5) q5)) (fun fl s6 h6 => ?_) (fun _ _ z => ?_)
      · obtain ⟨u6, z6, q6⟩ := h6
        have kept : ∀ (j : Nat) st, (s3.setGen gi gs').gens[j]? = some st → isSusp st = true → s6.gens[j]? = some st := fun j st e hs => sim_kept z6 (sim_kept z5 e hs) hs
        have again : ∀ {σ6 : L2.St} {H6 : Hp}, Inv X.nox (pins ++ young n0 s3.heap H3) σ6 H6 s6 → Same H5 H6 → W (i + 1) σ6 H6 → ∃ m', m' < N - i ∧ ∃ i' σ' H' gs'', m' = N - i' ∧ i' ≤ N ∧ Inv X.nox pins σ' H' s6 ∧ W i' σ' H' ∧ s6.heap.IsGen a gi ∧ s6.gens[gi]? = some gs'' ∧ GoesQ (model X.prog X.w) X.A.in1 (Ps (N + 1 - i') (s6.setGen gi .running) H') gs'' (s6.setGen gi .running) := fun {σ6 H6} J6 sm6 w6 => by
          have nap := naps_of (X := X.nox) (gs := gs') R3 (J6.os.trans J3.os.symm) rfl hsu hg3 J6 (fun q hq => List.mem_append_right _ hq) (sm5.trans sm6) kept
          have go := hk _ H6 nap
          refine ⟨N - (i + 1), by omega, i + 1, σ6, H6, gs', rfl, by omega, J6.unpinned, w6, ?_, kept gi gs' (gens_set hg3) hsu, ?_⟩
          · obtain ⟨e, _⟩ := J6.pin (a, og) (List.mem_append_right _ (List.mem_append_right _ hpa))
            exact ⟨og, nm, qn, e, hcl, hda, hsl⟩
          · have e4 : N + 1 - (i + 1) = N - i := by omega
            rw [e4, ← hgs']; exact go
        cases fl with
        | next => obtain ⟨σ6, H6, J6, sm6, w6⟩ := q6; exact again (inv_sim z6 J5.bare J6) sm6 w6
        | cont => obtain ⟨σ6, H6, J6, sm6, w6⟩ := q6; exact again (inv_sim z6 J5.bare J6) sm6 w6
        | brk => obtain ⟨σ6, H6, J6, q⟩ := q6; exact ⟨σ6, H6, (inv_sim z6 J5.bare J6).unpinned, q⟩
        | ret u => obtain ⟨v6, σ6, H6, J6, rv6, q⟩ := q6; exact ⟨v6, σ6, H6, (inv_sim z6 J5.bare J6).unpinned, rv6, q⟩
      · obtain ⟨_, _, q⟩ := z; exact q.elim
    · obtain ⟨_, _, q⟩ := z; exact q.elim
  · -- the end
    obtain ⟨hr1, hn1, H3, R3⟩ := hR
    refine ⟨hr1, fun h' hk _ => ?_⟩
    have J3 : Inv X.nox pins σ2 H3 s3 := inv_ran (P := X.prog) (w := X.w) I2r old R3
    have J4 : Inv X.nox pins σ2 H3 { s3.setGen gi .finished with heap := h' } := inv_heap (J3.kept (h' := h') (t' := s3.toks) hk) rfl rfl (allBare_setGen J3.bare rfl)
    obtain rfl : i = N := by omega
    exact wpAny_execs_nil ⟨σ2, H3, J4, wend σ2 H2 H3 w2 R3.same⟩
end GFor
/-! ## GenFor6 -/
/-! A for loop over a generator within a generator's body. -/
namespace GFor
open PySem PySem.Spec PyProof.Rows L2 GenW GSim
open Sem (wp)
def sleepers (s : Shared) : List (Nat × GenState) := (List.range s.gens.size).filterMap fun i => match s.gens[i]? with
  | some st => if isSusp st then some (i, st) else none
  | none => none
theorem mem_sleepers {s : Shared} {i : Nat} {st : GenState} (e : s.gens[i]? = some st) (h : isSusp st = true) : (i, st) ∈ sleepers s :=
  List.mem_filterMap.mpr ⟨i, List.mem_range.mpr (Array.getElem?_eq_some_iff.mp e).1, by simp [e, h]⟩
theorem slp_sleepers (s : Shared) : Slp (sleepers s) s := fun p hp => by
  obtain ⟨i, _, e⟩ := List.mem_filterMap.mp hp
  cases q : s.gens[i]? with
  | none => rw [q] at e; cases e
  | some st =>
    rw [q] at e
    dsimp only at e
    split at e
    · rename_i h
      have e : (i, st) = p := Option.some.inj e
      subst e
      exact ⟨q, h⟩
    · cases e
def tGForG (tgen : TGenF) (g : TG) (tb : TGn) : TGn := fun D i σ H => tgen σ H fun N It H1 => Same H H1 ∧ ∃ W : Nat → Nat → L2.St → Hp → Prop, W 0 i σ H1 ∧ (∀ i σ Hw H, W N i σ Hw → Same Hw H → D.nx i σ H) ∧
  ∀ j i σ Hw H x, j < N → W j i σ Hw → Same Hw H → It j x H → g x σ H fun σ2 H2 => Same H H2 ∧
    tb { D with nx := fun i' σ' H' => Same H2 H' ∧ W (j + 1) i' σ' H', ct := fun i' σ' H' => Same H2 H' ∧ W (j + 1) i' σ' H', bk := D.nx } i σ2 H2
section
variable {X : Cx}
theorem GJ.sub {Ss : List Addr} {ip pl : List (Addr × Obj)} {sl sl' : List (Nat × GenState)} {s₀ s : Shared} {Hw H : Hp} {σ : L2.St} (I : GJ X Ss (ip ++ pl) sl s₀ Hw σ H s) (h : ∀ p ∈ sl', p ∈ sl) : GJ X Ss ip sl' s₀ Hw σ H s := by
  have J := I.fewer
  exact ⟨J.inv, J.sz, J.same, fun p hp => J.slp p (h p hp), J.yng, J.ysS, J.own, J.os0, J.rn, J.me⟩
theorem gs_forG {k : Nat} {tg e : Expr} {body : List Stmt} {tgen : TGenF} {g : TG} {tb : TGn} {pos : Pos} (hc : X.calm = true) (hr : Room (k + 1) X.A) (he : ∀ s₀ Hw, PGenF (at_ X s₀ Hw) k e tgen) (hg : ∀ s₀ Hw, PG (at_ X s₀ Hw) tg g) (hb : GSs false X body tb)
    (hs : ∀ x, foldedSetIterable e X.env x = pure x := by intro _; rfl) : GS true X (.For tg e body [] pos) (tGForG tgen g tb) := by
  refine ⟨fun A Ss ip sl n i s₀ Hw c fs K J gd lv s σ H D hsl gx gc hn kk hI ht => ?_⟩
  have hsl : sl = [] := hsl rfl
  subst hsl
  rw [exec_For]
  refine sq_bind (wpAny_standAt ?_)
  refine sq_bind ?_
  rw [gc.over]
  refine wpAny_mono (wpAny_asleep ((he s₀ Hw).run _ (bombs s) σ H _ (inv_bombs hI.inv) ht)) (fun v s1 hu => ?_) (fun _ _ z => ?_)
  rotate_left
  · obtain ⟨_, _, q⟩ := z; exact q.elim
  obtain ⟨u1, z1, H1, n0, m0, N, It, I1, old, hm0, ⟨a, gi, cg, rfl, hmg, ha1, ha2, ha3, hgen, hfresh, hlim, wake⟩, sm1, W, w0, wend, turn⟩ := hu
  have G1 : GJ X Ss ip [] s₀ Hw σ H1 s1 := hI.to (inv_sim z1 hI.inv.bare I1) sm1 (fun p hp => by cases hp) (run_sim z1)
  have hfresh1 : s1.gens[gi]? = some (.fresh cg) := (z1.at_fresh hfresh rfl (fun q => nomatch q)).2
  have hgen1 : s1.heap.IsGen a gi := by rw [← z1.heap]; exact hgen
  refine sq_bind (wpAny_of_eq (hs (.ref a)) ?_)
  refine sq_bind (wpAny_standAt ?_)
  refine sq_bind (wpAny_holding (wpAny_pyIter_gen hgen1 ?_))
  have hh : X.A.handled = none := hI.inv.ok.hd hc
  have hdep : X.A.depth < recursionLimit := hr.depth
  let Ps := PostC X.prog X.w X.base X.stack n0 [] a gi X.A.in1 N It
  have SsOld : ∀ b ∈ Ss, b < n0 := fun b hb => by
    obtain ⟨o, e, _⟩ := hI.own b hb
    exact old.pins (b, o) (List.mem_append_right _ (List.mem_append_left _ (mem_pinsAt hb e)))
  have n0X : X.s_0.heap.objs.size ≤ n0 := by
    have q : (cut s₀.heap X.s_0.heap.objs.size).objs.size ≤ n0 := old.entry
    rw [cut_size hI.sz] at q; exact q
  have oldAt : ∀ {s₁ sy : Shared} {Hx Hy : Hp} {σy : L2.St}, GJ X Ss ip [] s₁ Hx σy Hy sy → Older (at_ X s₁ Hx) (pinsAt Ss s₁.heap ++ ip) n0 := fun {s₁ sy Hx Hy σy} G => by
    refine ⟨?_, old.loc, old.cells, fun p hp => ?_⟩
    · show (cut s₁.heap X.s_0.heap.objs.size).objs.size ≤ n0
      rw [cut_size G.sz]; exact n0X
    · rcases List.mem_append.mp hp with q | q
      · exact old.pins p (List.mem_append_left _ q)
      · rcases List.mem_append.mp q with q | q
        · exact SsOld _ (of_pinsAt q).1
        · exact old.pins p (List.mem_append_right _ (List.mem_append_right _ q))
  refine sq_runOwn fun p => ?_
  have gl := fun (kq : Result → Sem PySem.Fin) => gc_for (k := kq) (c' := .forLoop tg (.ref a) body [] X.env) (l := lv []) (kp := []) (p := p) gc rfl rfl
  have loop : ∀ (r j n i : Nat) (s₀ s : Shared) (Hw : Hp) (σ : L2.St) (H : Hp) (gs : GenState), j + r = N → n + i = D.N + 1 → W j i σ H → GJ X Ss ip [] s₀ Hw σ H s → s.heap.IsGen a gi → s.gens[gi]? = some gs → (∀ q : Nat, s₀.gens[q]? = some .running → q ≠ gi) →
      GoesQ (model X.prog X.w) X.A.in1 (Ps (N + 1 - j) (s.setGen gi .running) H) gs (s.setGen gi .running) →
      SegQ (model X.prog X.w) A (PostN X A Ss D.N D.It n s₀ Hw) (.forLoop tg (.ref a) body [] X.env) ((model X.prog X.w).den (.forLoop tg (.ref a) body [] X.env))
        (.ret (fun r => ((match r with | .ok f => (.pure f : Sem Flow) | .error e => .raise e).onRaise (cameBack X.env)).wrap K J gd lv) none (gd false) (lv []) c p [] :: fs) s := by
    intro r
    induction r with
    | zero =>
      intro j n i s₀ s Hw σ H gs hj hn w hI hgen hgs hnr goes
      obtain rfl : j = N := by omega
      have en : j + 1 - j = 0 + 1 := by omega
      rw [en] at goes
      have hIr : Inv (at_ X s₀ Hw) (pinsAt Ss s₀.heap ++ ip) σ H (s.setGen gi .running) := inv_heap hI.inv rfl rfl (allBare_setGen hI.inv.bare rfl)
      refine sq_forTurn ?_
      rw [(gl _).over]
      refine next_gen hh hI.inv.nolimit hdep hgen hgs goes (fun v gd l k' c' p' fs' s3 hy => ?_) (fun r s3 hR => ?_)
      · exact absurd hy.2.1 (by decide)
      · obtain ⟨hr1, _, H3, R3⟩ := hR
        refine ⟨hr1, fun h' hk => ?_⟩
        have J3 := inv_ran (P := X.prog) (w := X.w) (X := at_ X s₀ Hw) hIr (oldAt hI) R3
        have J4 : Inv (at_ X s₀ Hw) (pinsAt Ss s₀.heap ++ ip) σ H3 { s3.setGen gi .finished with heap := h' } := inv_heap (J3.kept (h' := h') (t' := s3.toks) hk) rfl rfl (allBare_setGen J3.bare rfl)
        have G4 : GJ X Ss ip [] s₀ Hw σ H3 { s3.setGen gi .finished with heap := h' } := by
          refine ⟨J4, hI.sz, hI.same.trans R3.same, fun p hp => (by cases hp), hI.yng, hI.ysS, hI.own, hI.os0, fun q hq => ?_, hI.me⟩
          have ne := hnr q hq
          show (s3.setGen gi .finished).gens[q]? = _
          rw [gens_ne ne]
          refine R3.rn q ?_
          rw [gens_ne ne]
          exact hI.rn q hq
        refine sq_blockNil (sq_leaf (.ok .next) ?_)
        exact kk n i s₀ _ Hw .next hn ⟨σ, H3, G4, wend i σ H H3 w R3.same⟩
    | succ r ih =>
      intro j n i s₀ s Hw σ H gs hj hn w hI hgen hgs hnr goes
      have en : N + 1 - j = (N - j) + 1 := by omega
      rw [en] at goes
      have hgl : gi < s.gens.size := (Array.getElem?_eq_some_iff.mp hgs).1
      have hIr : Inv (at_ X s₀ Hw) (pinsAt Ss s₀.heap ++ ip) σ H (s.setGen gi .running) := inv_heap hI.inv rfl rfl (allBare_setGen hI.inv.bare rfl)
      refine sq_forTurn ?_
      rw [(gl _).over]
      refine wpAny_gsz (n := gi + 1) hgl (next_gen hh hI.inv.nolimit hdep hgen hgs goes (fun v gd' l k' c' p' fs' s3 hy => ?_) (fun r s3 hR => ?_))
      · obtain ⟨hq, h1N, hNN, H3, x, R3, rv, it, hk⟩ := hy
        refine ⟨hq, fun hsz => ?_⟩
        have hbare : (End.susp v gd' l k' c' p' fs').genState.bare = true := End.bare_of_quiet hq
        have hsu : isSusp (End.susp v gd' l k' c' p' fs').genState = true := rfl
        generalize hgs' : (End.susp v gd' l k' c' p' fs').genState = gs' at hsz hbare hsu ⊢
        have e2 : N - (N - j) = j := by omega
        rw [e2] at it
        have hg3 : gi < s3.gens.size := by
          have q : (s3.setGen gi gs').gens.size = s3.gens.size := setGen_size _ _ _
          rw [q] at hsz; exact hsz
        have J3 := inv_ran (P := X.prog) (w := X.w) (X := at_ X s₀ Hw) hIr (oldAt hI) R3
        have rn3 : ∀ q : Nat, s₀.gens[q]? = some .running → (s3.setGen gi gs').gens[q]? = some .running := fun q hq => by
          have ne := hnr q hq
          rw [gens_ne ne]
          refine R3.rn q ?_
          rw [gens_ne ne]
          exact hI.rn q hq
        have J4 : Inv (at_ X s₀ Hw) (pinsAt Ss s₀.heap ++ (ip ++ young n0 s3.heap H3)) σ H3 (s3.setGen gi gs') := by
          have q := inv_heap (u' := s3.setGen gi gs') (inv_young J3 (oldAt hI)) rfl rfl (allBare_setGen J3.bare hbare)
          exact q.pins_of fun p hp => q.pin p (List.mem_append_right _ (by rw [List.append_assoc]; exact hp))
        have G4 : GJ X Ss (ip ++ young n0 s3.heap H3) (sleepers (s3.setGen gi gs')) s₀ Hw σ H3 (s3.setGen gi gs') := by
          refine ⟨J4, hI.sz, hI.same.trans R3.same, slp_sleepers _, fun p hp => ?_, hI.ysS, hI.own, hI.os0, rn3, hI.me⟩
          rcases List.mem_append.mp hp with q | q
          · exact hI.yng p (List.mem_append_left _ q)
          · rcases List.mem_append.mp q with q | q
            · exact hI.yng p (List.mem_append_right _ q)
            · obtain ⟨y1, _⟩ := of_young q
              exact ⟨Nat.le_trans n0X y1, fun hm => absurd (Nat.lt_of_lt_of_le (SsOld _ hm) y1) (Nat.lt_irrefl _)⟩
        obtain ⟨og, nm, qn, ho, hcl, hda, hsl⟩ := R3.gen
        have hpa : (a, og) ∈ young n0 s3.heap H3 := mem_young ha1 R3.nota ho fun v q => by rw [hda] at q; cases q
        refine go_of (s := s3.setGen gi gs') ho hcl hda (by decide) ?_
        refine wpAny_mono (wpAny_asleep ((hg s₀ Hw).run _ (bombs (s3.setGen gi gs')) σ H3 x v _ (inv_bombs J4) rv (turn j i σ H H3 x (by omega) w R3.same it))) (fun _ s5 h5 => ?_) (fun _ _ z => ?_)
        rotate_left
        · obtain ⟨_, _, q⟩ := z; exact q.elim
        obtain ⟨u5, z5, σ5, H5, K5, sm5, q5⟩ := h5
        have G5 : GJ X Ss (ip ++ young n0 s3.heap H3) (sleepers (s3.setGen gi gs')) s₀ Hw σ5 H5 s5 := G4.to (inv_sim z5 J4.bare K5) sm5 (slp_sim z5 G4.slp) (run_sim z5)
        intro J1
        refine hb.run A Ss _ _ n i s₀ Hw _ _ _ J1 id id s5 σ5 H5 { D with nx := fun i' σ' H' => Same H5 H' ∧ W (j + 1) i' σ' H', ct := fun i' σ' H' => Same H5 H' ∧ W (j + 1) i' σ' H', bk := D.nx } (fun z => nomatch z) gx (gl _) hn (fun n' i' s₀' s' Hw' f hn' hf => ?_) G5 q5
        have again : ∀ {σ7 : L2.St} {H7 : Hp}, GJ X Ss (ip ++ young n0 s3.heap H3) (sleepers (s3.setGen gi gs')) s₀' Hw' σ7 H7 s' → Same H5 H7 → W (j + 1) i' σ7 H7 →
            SegQ (model X.prog X.w) A (PostN X A Ss D.N D.It n' s₀' Hw') (.forLoop tg (.ref a) body [] X.env) (.pure (.again (.forLoop tg (.ref a) body [] X.env)))
              (.ret (fun r => ((match r with | .ok f => (.pure f : Sem Flow) | .error e => .raise e).onRaise (cameBack X.env)).wrap K J gd lv) none (gd false) (lv []) c p [] :: fs) s' := fun {σ7 H7} G7 sm7 w7 => by
          have kept : ∀ (q : Nat) st, (s3.setGen gi gs').gens[q]? = some st → isSusp st = true → s'.gens[q]? = some st := fun q st e hs => (G7.slp _ (mem_sleepers e hs)).1
          have e1 : s3.os = X.s_0.os := J3.os.trans hI.os0
          have e2 : s'.os = X.s_0.os := G7.inv.os.trans G7.os0
          have nap := naps_of (X := at_ X s₀' Hw') (gs := gs') (s₀ := s.setGen gi .running) (Hw := H) R3 (e2.trans e1.symm) rfl hsu hg3 G7.inv (fun q hq => List.mem_append_right _ (List.mem_append_right _ hq)) (sm5.trans sm7) kept
          have go := hk _ H7 nap
          refine sq_again rfl (ih (j + 1) n' i' s₀' s' Hw' σ7 H7 gs' (by omega) hn' w7 (G7.sub fun p hp => by cases hp) ?_ (kept gi gs' (gens_set hg3) hsu) (fun q hq z => ?_) ?_)
          · obtain ⟨e, _⟩ := G7.inv.pin (a, og) (List.mem_append_right _ (List.mem_append_right _ (List.mem_append_right _ hpa)))
            exact ⟨og, nm, qn, e, hcl, hda, hsl⟩
          · subst z
            have r1 := G7.rn q hq
            rw [kept q gs' (gens_set hg3) hsu] at r1
            have r1 := Option.some.inj r1
            subst r1
            cases hsu
          · have e4 : N + 1 - (j + 1) = N - j := by omega
            rw [e4, ← hgs']; exact go
        cases f with
        | next => obtain ⟨σ7, H7, G7, sm7, n7⟩ := hf; exact again G7 sm7 n7
        | cont => obtain ⟨σ7, H7, G7, sm7, n7⟩ := hf; exact again G7 sm7 n7
        | brk =>
          obtain ⟨σ7, H7, G7, n7⟩ := hf
          exact sq_leaf (.ok .next) (kk n' i' s₀' s' Hw' .next hn' ⟨σ7, H7, G7.sub (fun p hp => by cases hp), n7⟩)
        | ret v =>
          obtain ⟨ev, σ7, H7, G7, n7⟩ := hf
          exact sq_leaf (.ok (.ret v)) (kk n' i' s₀' s' Hw' (.ret v) hn' ⟨ev, σ7, H7, G7.sub (fun p hp => by cases hp), n7⟩)
      · obtain ⟨_, hn1, _⟩ := hR
        omega
  refine loop N 0 n i s₀ s1 Hw σ H1 (.fresh cg) (Nat.zero_add _) hn w0 G1 hgen1 hfresh1 (fun q hq z => ?_) ?_
  · subst z
    have r1 := G1.rn q hq
    rw [hfresh1] at r1
    cases r1
  · exact wake X.A.in1 [] _ H1 hr.in1 I1.ok.frames (fun b hb => by cases hb) (naps_first (X := at_ X s₀ Hw) G1.inv z1.heap z1.os (Array.getElem?_eq_some_iff.mp hfresh1).1)
end
end GFor
/-! ## GenFor7 -/
/-! list(g) of such a generator. -/
namespace GFor
open PySem PySem.Spec PyProof.Rows L2 GenW GSim
open Sem (wp)
theorem un_step {fs ex ch : List Addr} {Hc H1 H2 : Hp} {h h1 h2 : Heap} {n0 : Nat} (a : Un fs ex Hc H1 h h1) (sm : Same Hc H1) (b : Un fs ch H1 H2 h1 h2) (hch : ∀ c ∈ ch, n0 ≤ c ∧ H1 c = none) (hex : ∀ c o, h.get? c = some o → c ∉ ex → c < n0 ∨ Hc c ≠ none) : Un fs ex Hc H2 h h2 := by
  have nch : ∀ c o, h.get? c = some o → c ∉ ex → c ∉ ch := fun c o e hx hm => by
    obtain ⟨q1, q2⟩ := hch c hm
    rcases hex c o e hx with z | z
    · exact absurd (Nat.lt_of_lt_of_le z q1) (Nat.lt_irrefl _)
    · cases q : Hc c with
      | none => exact z q
      | some u => rw [sm _ _ q] at q2; cases q2
  refine ⟨fun c o e n hf hx => ?_, fun c o e n hf hx => ?_, fun c o e n hx => ?_, fun c o e hx => ?_, fun c xs e => b.tups c xs (a.tups c xs e), fun c o u e => b.frzs c o u (a.frzs c o u e), fun c ps e => ?_⟩
  · exact b.keep c o (a.keep c o e n hf hx) (a.free c o e n hx) hf (nch c o e hx)
  · obtain ⟨sl, e1⟩ := a.slot c o e n hf hx
    obtain ⟨sl', e2⟩ := b.slot c _ e1 (a.free c o e n hx) hf (nch c o e hx)
    exact ⟨sl', e2⟩
  · obtain ⟨o', e1⟩ := a.there c o e hx
    exact b.free c o' e1 (a.free c o e n hx) (nch c o e hx)
  · obtain ⟨o', e1⟩ := a.there c o e hx
    exact b.there c o' e1 (nch c o e hx)
  · obtain ⟨m1, e1⟩ := a.tbls c ps e
    obtain ⟨m2, e2⟩ := b.tbls c _ e1
    exact ⟨m1 ++ m2, by rw [e2, Array.append_assoc]⟩
/-- one object beyond the entry changes -/
theorem un_but {fs ex : List Addr} {Hc H : Hp} {h h1 h2 : Heap} {S : Addr} (a : Un fs ex Hc H h h1) (hS : ∀ c o, h.get? c = some o → c ≠ S) (k : ∀ c o, c ≠ S → h1.get? c = some o → h2.get? c = some o) : Un fs ex Hc H h h2 := by
  refine ⟨fun c o e n hf hx => k c o (hS c o e) (a.keep c o e n hf hx), fun c o e n hf hx => ?_, a.free, fun c o e hx => ?_, a.tups, a.frzs, a.tbls⟩
  · obtain ⟨sl, e1⟩ := a.slot c o e n hf hx
    exact ⟨sl, k c _ (hS c o e) e1⟩
  · obtain ⟨o', e1⟩ := a.there c o e hx
    exact ⟨o', k c _ (hS c o e) e1⟩
theorem hok_but {P : Program} {w : World} {H : Hp} {h1 h2 : Heap} {S : Addr} (x : HOk P w H h1) (hS : H S = none) (k : ∀ c o, c ≠ S → h1.get? c = some o → h2.get? c = some o) : HOk P w H h2 := fun b u e => by
  have ns : ∀ c v, H c = some v → c ≠ S := fun c v q z => by rw [z, hS] at q; cases q
  refine (x b u e).stay (fun c v hc q => k c v ?_ q) (fun _ q => q) fun _ _ q => q
  rcases hc with z | z
  · rw [z]; exact ns b u e
  · exact ns c _ z
/-- what the consumer holds of the items so far -/
def Got (It : Its) (out : List V) (H : Hp) : Prop := ∀ (j : Nat) x, out[j]? = some x → ∃ Hj, Same Hj H ∧ It j x Hj
theorem Got.mono {It : Its} {out : List V} {H H' : Hp} (g : Got It out H) (s : Same H H') : Got It out H' := fun j x e =>
  let ⟨Hj, h1, h2⟩ := g j x e
  ⟨Hj, h1.trans s, h2⟩
theorem Got.snoc {It : Its} {out : List V} {H : Hp} {x : V} (g : Got It out H) (h : It out.length x H) : Got It (out ++ [x]) H := fun j y e => by
  by_cases lt : j < out.length
  · rw [List.getElem?_append_left lt] at e
    exact g j y e
  · by_cases he : j = out.length
    · subst he
      rw [List.getElem?_append_right (Nat.le_refl _), Nat.sub_self] at e
      have e : x = y := Option.some.inj e
      subst e
      exact ⟨H, Same.refl _, h⟩
    · rw [List.getElem?_eq_none (by rw [List.length_append, List.length_singleton]; omega)] at e
      cases e
/-- the filling: what stands as the loop turns -/
structure Fill (P : Program) (w : World) (base : Heap) (outer : List Env) (n0 : Nat) (ex : List Addr) (Hc : Hp) (sc : Shared) (S a : Addr) (g : Nat) (It : Its) (out : List V) (H : Hp) (s : Shared) : Prop where
  lst : ∃ (acc : Array Value) (c : Nat), s.heap.get? S = some (lstObj acc c) ∧ Vals out acc.toList
  os : s.os = sc.os
  bare : AllBare s.gens
  lim : s.heap.NoLimit
  gen : s.heap.IsGen a g
  nS : H S = none
  same : Same Hc H
  hok : HOk P w H s.heap
  un : Un (frs outer) ex Hc H sc.heap s.heap
  got : Got It out H
section
variable {P : Program} {w : World} {base : Heap} {outer : List Env} {n0 : Nat} {ex : List Addr} {Hc : Hp} {sc : Shared} {S a : Addr} {g N : Nat} {It : Its}
/-- what stays so through the filling -/
structure Ground (base : Heap) (outer : List Env) (n0 : Nat) (ex : List Addr) (Hc : Hp) (sc : Shared) (S a : Addr) : Prop where
  exo : ∀ c o, sc.heap.get? c = some o → c ∉ ex → c < n0 ∨ Hc c ≠ none
  exn : ∀ c ∈ ex, n0 ≤ c
  nS : ∀ c o, sc.heap.get? c = some o → c ≠ S
  n0S : n0 ≤ S
  Sa : S ≠ a
  bs : ∀ b o, base.get? b = some o → sc.heap.get? b = some o ∧ Hc b = none
  bsz : base.objs.size ≤ n0
  funs : sc.heap.FunFrames base outer
  frf : ∀ b ∈ frs outer, Hc b = none
  frn : ∀ b ∈ frs outer, b < n0
theorem Fill.naps {out : List V} {H : Hp} {s u : Shared} (G : Ground base outer n0 ex Hc sc S a) (F : Fill P w base outer n0 ex Hc sc S a g It out H s) (ho : u.os = s.os) (hg : g < s.gens.size) (yg : ∀ b o, n0 ≤ b → b ≠ S → H b = none → u.heap.get? b = some o → (∀ v, o.data ≠ .cell v) → s.heap.get? b = some o) :
    Naps0 P w base outer n0 g [S] u H (s.setGen g .running) H := by
  have nfr : ∀ b o, base.get? b = some o → b ∉ frs outer := fun b o e hm => by
    have := (G.funs.mem hm).1
    rw [e] at this; cases this
  have nex : ∀ b, b < n0 → b ∉ ex := fun b lt hm => absurd (Nat.lt_of_lt_of_le lt (G.exn b hm)) (Nat.lt_irrefl _)
  refine ⟨ho.symm, allBare_setGen F.bare rfl, Same.refl _, F.hok, fun b o e => ?_, ?_, fun b hb => ?_, fun b o h1 h2 h3 e hc => ⟨yg b o h1 (fun z => h2 (by rw [z]; exact List.mem_singleton.mpr rfl)) h3 e hc, h3⟩, gens_set hg, fun b hb => ?_⟩
  · obtain ⟨e1, e2⟩ := G.bs b o e
    have nx := nex b (Nat.lt_of_lt_of_le (Heap.lt_size e) G.bsz)
    exact ⟨F.un.keep b o e1 e2 (nfr b o e) nx, F.un.free b o e1 e2 nx⟩
  · have all : ∀ (l : List Env), (∀ b ∈ frs l, b ∈ frs outer) → sc.heap.FunFrames base l → s.heap.FunFrames base l := by
      intro l
      induction l with
      | nil => intro _ _; trivial
      | cons env r ih =>
        intro hs hl
        obtain ⟨hk, ⟨L, o, hf, hn, ho, hd⟩, hr⟩ := hl
        have hL : L ∈ frs outer := hs L (by unfold frs; rw [List.filterMap_cons, hf]; exact List.mem_cons_self)
        obtain ⟨sl, e⟩ := F.un.slot L o ho (G.frf L hL) hL (nex L (G.frn L hL))
        exact ⟨hk, ⟨L, _, hf, hn, e, hd⟩, ih (fun b hb => hs b (by unfold frs; rw [List.filterMap_cons, hf]; exact List.mem_cons_of_mem _ hb)) hr⟩
    exact all outer (fun _ hb => hb) G.funs
  · obtain ⟨_, o, ho, _⟩ := G.funs.mem hb
    exact F.un.free b o ho (G.frf b hb) (nex b (G.frn b hb))
  · have hb : b = S := List.mem_singleton.mp hb
    subst hb
    obtain ⟨acc, c, e, _⟩ := F.lst
    exact ⟨F.nS, _, e, fun v q => by cases q⟩
theorem fillF {A : Around} {R : Result → Shared → Prop} {res : Value} (hh : A.handled = none) (hd : A.depth < recursionLimit) (G : Ground base outer n0 ex Hc sc S a) (hSc : S ≠ cStatics) (hNl : N ≤ sizeLine)
    (hend : ∀ s' H' out, out.length = N → Fill P w base outer n0 ex Hc sc S a g It out H' s' → R (.ok (.ret res)) s') :
    ∀ (r i : Nat) (s : Shared) (H : Hp) (out : List V) (gs : GenState), i + r = N → out.length = i → Fill P w base outer n0 ex Hc sc S a g It out H s → s.gens[g]? = some gs →
      GoesQ (model P w) A.in1.in1 (PostC P w base outer n0 [S] a g A.in1.in1 N It (N + 1 - i) (s.setGen g .running) H) gs (s.setGen g .running) →
      codeAny (model P w) A (.builtin "list.extend.loop" ⟨[.ref S, .ref a, res], []⟩) R s := by
  intro r
  have ran : ∀ {out : List V} {H H3 : Hp} {s s3 : Shared}, Fill P w base outer n0 ex Hc sc S a g It out H s → Ran P w outer n0 [S] a g (s.setGen g .running) H s3 H3 → Fill P w base outer n0 ex Hc sc S a g It out H3 s3 := fun {out H H3 s s3} F R3 => by
    obtain ⟨acc, c, e, rv⟩ := F.lst
    obtain ⟨o1, o2⟩ := R3.own S (List.mem_singleton.mpr rfl)
    refine ⟨⟨acc, c, o1.trans e, rv⟩, R3.os.trans F.os, R3.bare, R3.lim, R3.gen, o2, F.same.trans R3.same, R3.hok, un_step (n0 := n0) F.un F.same R3.un (fun c hc => ?_) G.exo, F.got.mono R3.same⟩
    obtain ⟨h1, h2, _⟩ := of_loose hc
    exact ⟨h1, h2⟩
  induction r with
  | zero =>
    intro i s H out gs hi hl F hgs goes
    obtain rfl : i = N := by omega
    have en : i + 1 - i = 0 + 1 := by omega
    rw [en] at goes
    refine codeAny_builtin PySem.F.entry_extend_loop ?_
    rw [Around.under_plainId PySem.F.plain_extend_loop _]
    show wpAny _ A.in1 (pyNext (.ref a) >>= _) _ _ s
    refine wpAny_bind (next_gen (A := A.in1) hh F.lim hd F.gen hgs goes (fun v gd l k c p fs s3 hy => ?_) (fun rr s3 hR => ?_))
    · exact absurd hy.2.1 (by decide)
    · obtain ⟨hr1, _, H3, R3⟩ := hR
      refine ⟨hr1, fun h' hk => ?_⟩
      have F3 := ran F R3
      refine wpAny_pure (hend _ H3 out hl ?_)
      obtain ⟨acc, c, e, rv⟩ := F3.lst
      exact ⟨⟨acc, c, hk _ _ e, rv⟩, F3.os, allBare_setGen F3.bare rfl, F3.lim.keeps hk, F3.gen.keeps hk, F3.nS, F3.same, F3.hok.kept hk, F3.un.trans (Un.kept hk), F3.got⟩
  | succ r ih =>
    intro i s H out gs hi hl F hgs goes
    have hgl : g < s.gens.size := (Array.getElem?_eq_some_iff.mp hgs).1
    have en : N + 1 - i = (N - i) + 1 := by omega
    rw [en] at goes
    refine codeAny_builtin PySem.F.entry_extend_loop ?_
    rw [Around.under_plainId PySem.F.plain_extend_loop _]
    show wpAny _ A.in1 (pyNext (.ref a) >>= _) _ _ s
    refine wpAny_bind (wpAny_gsz (n := g + 1) hgl (next_gen (A := A.in1) hh F.lim hd F.gen hgs goes (fun v gd l k c p fs s3 hy => ?_) (fun rr s3 hR => ?_)))
    · obtain ⟨hq, h1N, hNN, H3, x, R3, rv, it, hk⟩ := hy
      refine ⟨hq, fun hsz => ?_⟩
      have hbare : (End.susp v gd l k c p fs).genState.bare = true := End.bare_of_quiet hq
      have hsu : isSusp (End.susp v gd l k c p fs).genState = true := rfl
      generalize hgs' : (End.susp v gd l k c p fs).genState = gs' at hsz hbare hsu ⊢
      have e2 : N - (N - i) = i := by omega
      rw [e2] at it
      have hg3 : g < s3.gens.size := by
        have q : (s3.setGen g gs').gens.size = s3.gens.size := setGen_size _ _ _
        rw [q] at hsz; exact hsz
      have F3 := ran F R3
      obtain ⟨acc, cc, e, rva⟩ := F3.lst
      have hasz : acc.size = i := by
        have q1 := rva.length
        have q2 : acc.toList.length = acc.size := by simp
        omega
      show wpAny _ A.in1 (updateSeq S (·.push v) >>= _) _ _ _
      refine wpAny_bind ?_
      refine wpAny_updateSeq e rfl (wpAny_pure ⟨plainId_quiet PySem.F.plain_extend_loop _, ?_⟩) (by omega) (by show (acc.push v).size ≤ sizeLine + 1; rw [Array.size_push]; omega)
      have kb : ∀ b o, b ≠ S → s3.heap.get? b = some o → (s3.heap.update S (Obj.mapSeq (·.push v))).get? b = some o := fun b o hb q => (Heap.get?_update_other _ _ (Ne.symm hb)).trans q
      have F4 : Fill P w base outer n0 ex Hc sc S a g It (out ++ [x]) H3 { s3.setGen g gs' with heap := s3.heap.update S (Obj.mapSeq (·.push v)) } := by
        refine ⟨⟨acc.push v, _, Heap.get?_update_self _ e rfl, ?_⟩, F3.os, allBare_setGen F3.bare hbare, ?_, ?_, F3.nS, F3.same, hok_but F3.hok F3.nS kb, un_but F3.un G.nS kb, F3.got.snoc (by rw [hl]; exact it)⟩
        · rw [Array.toList_push]
          exact rva.append (.cons rv .nil)
        · obtain ⟨mc, hns, hnn⟩ := F3.lim
          exact ⟨mc, hns.at' fun o q => kb _ o (Ne.symm hSc) q, hnn⟩
        · obtain ⟨o, nm, qn, ho, rr⟩ := F3.gen
          exact ⟨o, nm, qn, kb a o (Ne.symm G.Sa) ho, rr⟩
      have hg4 : g < ({ s3.setGen g gs' with heap := s3.heap.update S (Obj.mapSeq (·.push v)) } : Shared).gens.size := hsz
      have nap0 := F4.naps (u := s3) G rfl hg4 (fun b o h1 h2 h3 q hc => kb b o h2 q)
      have nap : Naps P w base outer n0 g [S] s3 H3 (({ s3.setGen g gs' with heap := s3.heap.update S (Obj.mapSeq (·.push v)) } : Shared).setGen g .running) H3 := ⟨nap0, fun j st ej hs => by
        have me := R3.rn g R3.me
        have ne : j ≠ g := fun z => by
          rw [z, me] at ej
          cases ej
          cases hs
        rw [gens_ne ne]
        show (s3.setGen g gs').gens[j]? = _
        rw [gens_ne ne]
        exact ej⟩
      have go := hk _ H3 nap
      refine ih (i + 1) _ H3 (out ++ [x]) gs' (by omega) (by rw [List.length_append, List.length_singleton, hl]) F4 (gens_set hg3) ?_
      have e4 : N + 1 - (i + 1) = N - i := by omega
      rw [e4]
      subst hgs'
      exact go
    · obtain ⟨_, hn1, _⟩ := hR
      omega
/-- list(g) -/
theorem call_listF {A : Around} {k n0 m0 : Nat} {H : Hp} {s : Shared} {u : Value} {Q' : Value → Shared → Prop} {E : Value → Shared → Prop} (hr : Room (k + 3) A) (hfr : A.frames = some outer) (hh : A.handled = none)
    (h : GMade P w base k outer n0 m0 H N It u s) (hos : True) (hb : AllBare s.gens) (hok : HOk P w H s.heap) (hbs : ∀ b o, base.get? b = some o → s.heap.get? b = some o ∧ H b = none) (hbsz : base.objs.size ≤ n0) (hfun : s.heap.FunFrames base outer) (hfrf : ∀ b ∈ frs outer, H b = none) (hfrn : ∀ b ∈ frs outer, b < n0) (hNl : N ≤ sizeLine)
    (hQ : ∀ S s' acc c H' out, s.heap.objs.size ≤ S → s'.heap.get? S = some (lstObj acc c) → Vals out acc.toList → out.length = N → s'.os = s.os → AllBare s'.gens → Un (frs outer) (loose n0 [] s.heap H) H H' s.heap s'.heap → HOk P w H' s'.heap → H' S = none → Same H H' → Got It out H' → Q' (.ref S) s') :
    wpAny (model P w) A (call (.type "list") [u]) Q' E s := by
  obtain ⟨a, g, c, rfl, hm0, ha1, ha2, haH, hg, hgs, hl, wake⟩ := h
  have hSa : s.heap.objs.size ≠ a := Nat.ne_of_gt ha2
  have hcl : cStatics < s.heap.objs.size := let ⟨_, hn, _⟩ := hl; hn.lt
  have hSc : s.heap.objs.size ≠ cStatics := Nat.ne_of_gt hcl
  refine callType_codes (Q₁ := fun obj s₁ => obj = .ref s.heap.objs.size ∧ s₁ = { s with heap := s.heap.push { cls := .type "list", data := .seq #[] } }) PySem.F.called_list (PySem.F.typeCall_list_1 _) PySem.F.entry_list_init
    (code_list_new _ ⟨rfl, rfl⟩) fun obj s₁ h₁ => ?_
  obtain ⟨rfl, rfl⟩ := h₁
  have hS : (s.heap.push { cls := .type "list", data := .seq #[] }).get? s.heap.objs.size = some { cls := .type "list", data := .seq #[] } := Heap.get?_push_size _ rfl
  refine ⟨⟨_, hS, rfl⟩, PySem.F.args_list_init_2 _ _, ?_⟩
  show wpAny _ A.in1.in1 (do let old ← Builtin.List.listItems (.ref s.heap.objs.size); Builtin.List.listUpdate (.ref s.heap.objs.size) (fun _ => #[]); letGo old.toList.reverse; Builtin.List.listExtendWith (.ref s.heap.objs.size) (.ref a) .none) _ _ _
  refine wpAny_bind ?_
  unfold Builtin.List.listItems
  refine wpAny_bind (wpAny_seqItems hS rfl (wpAny_pure ?_))
  show wpAny _ A.in1.in1 (updateSeq s.heap.objs.size (fun _ => #[]) >>= fun _ => letGo (#[] : Array Value).toList.reverse >>= fun _ => Builtin.List.listExtendWith (.ref s.heap.objs.size) (.ref a) .none) _ _ _
  refine wpAny_bind (wpAny_updateSeq hS rfl ?_)
  have hS2 := Heap.get?_update_self (Obj.mapSeq (fun _ => (#[] : Array Value))) hS rfl
  refine wpAny_bind (wpAny_letGo ?_)
  unfold Builtin.List.listExtendWith
  have up : ∀ (h : Heap) (f : Obj → Obj), (∀ b o, s.heap.get? b = some o → h.get? b = some o) → ∀ b o, s.heap.get? b = some o → (h.update s.heap.objs.size f).get? b = some o := fun h f q b o e =>
    (Heap.get?_update_other _ _ (Ne.symm (Nat.ne_of_lt (Heap.lt_size e)))).trans (q b o e)
  have k1 : ∀ b o, s.heap.get? b = some o → (s.heap.push { cls := .type "list", data := .seq #[] }).get? b = some o := fun b o e => Heap.get?_push_of_some _ e
  have k2 := up _ (Obj.mapSeq (fun _ => (#[] : Array Value))) k1
  have gty : ∀ {h : Heap}, (∀ b o, s.heap.get? b = some o → h.get? b = some o) → h.IsGen a g := fun {h} q => hg.keeps q
  refine wpAny_bind (wpAny_typeOf (Heap.IsGen.typeIs (s := { s with heap := _ }) (gty k2)) ?_)
  have h1 : Builtin.List.listSameRef (.ref s.heap.objs.size) (.ref a) = false := by simp [Builtin.List.listSameRef, hSa]
  have h2 : (Value.type "generator" == Value.type "list") = false := by decide
  have h3 : (Value.type "generator" == Value.type "tuple") = false := by decide
  simp only [h1, h2, h3, Bool.or_false, Bool.false_eq_true, if_false]
  refine wpAny_bind (wpAny_pyIter_gen (s := { s with heap := _ }) (gty k2) ?_)
  refine wpAny_bind (wpAny_holding ?_)
  unfold Builtin.List.listLengthHint
  refine wpAny_bind (wpAny_specialOf (Heap.IsGen.typeIs (s := { s with heap := _ }) (gty k2)) PySem.F.gen_no_len ?_)
  show wpAny _ A.in1.in1 (specialOf (Value.ref a) (Str.ofString "__length_hint__") >>= _) _ _ _
  refine wpAny_bind (wpAny_specialOf (Heap.IsGen.typeIs (s := { s with heap := _ }) (gty k2)) PySem.F.gen_no_hint ?_)
  refine wpAny_pure ?_
  show wpAny _ A.in1.in1 (rule "list.extend.makes-room" >>= fun _ => Builtin.List.listTouch (.ref s.heap.objs.size) >>= fun _ =>
    again (.builtin "list.extend.loop" ⟨[.ref s.heap.objs.size, .ref a, .none], []⟩)) _ _ _
  refine wpAny_bind (wpAny_rule ?_)
  refine wpAny_bind ?_
  show wpAny _ A.in1.in1 (updateSeq s.heap.objs.size (·.push .none) >>= fun _ => updateSeq s.heap.objs.size (·.pop)) _ _ _
  refine wpAny_bind (wpAny_updateSeq hS2 rfl ?_)
  have hS3 := Heap.get?_update_self (Obj.mapSeq (·.push Value.none)) hS2 rfl
  refine wpAny_updateSeq (hz := by seq_fits) hS3 rfl ?_
  have hS4 := Heap.get?_update_self (Obj.mapSeq (·.pop)) hS3 rfl
  have k4 := up _ (Obj.mapSeq (·.pop)) (up _ (Obj.mapSeq (·.push Value.none)) k2)
  refine wpAny_pure ⟨plainId_quiet PySem.F.plain_extend_loop _, ?_⟩
  have G : Ground base outer n0 (loose n0 [] s.heap H) H s s.heap.objs.size a := by
    refine ⟨fun b o e hx => ?_, fun b hb => (of_loose hb).1, fun b o e => Nat.ne_of_lt (Heap.lt_size e), Nat.le_trans ha1 (Nat.le_of_lt ha2), hSa, hbs, hbsz, hfun, hfrf, hfrn⟩
    by_cases lt : b < n0
    · exact .inl lt
    · refine .inr fun hn => hx ?_
      exact mem_loose (Heap.lt_size e) (Nat.le_of_not_lt lt) hn (List.not_mem_nil)
  have F0 : Fill P w base outer n0 (loose n0 [] s.heap H) H s s.heap.objs.size a g It [] H { s with heap := (((s.heap.push { cls := .type "list", data := .seq #[] }).update s.heap.objs.size (Obj.mapSeq (fun _ => (#[] : Array Value)))).update s.heap.objs.size (Obj.mapSeq (·.push Value.none))).update s.heap.objs.size (Obj.mapSeq (·.pop)) } := by
    refine ⟨⟨_, _, hS4, .nil⟩, rfl, hb, hl.keeps k4, gty k4, hok.fresh (Nat.le_refl _), Same.refl _, hok.kept k4, Un.kept k4, fun j x e => by simp at e⟩
  refine fillF (P := P) (w := w) (base := base) (outer := outer) (n0 := n0) (sc := s) (N := N) (It := It) (A := A.in1) (by exact hh) (by have := hr.dp; show A.depth < _; omega) G hSc hNl
    (fun s' H' out hlen Fi => ?_) N 0 _ H [] _ (by omega) rfl F0 hgs ?_
  · obtain ⟨acc, cc, e, rv⟩ := Fi.lst
    exact ⟨rfl, hQ _ s' acc cc H' out (Nat.le_refl _) e rv hlen Fi.os Fi.bare Fi.un Fi.hok Fi.nS Fi.same Fi.got⟩
  · have goal := wake A.in1.in1.in1 [s.heap.objs.size] _ H ⟨hr.hd, by have := hr.dp; show A.depth + 3 * k + 5 < _; omega, by have := hr.un; show A.units + 1 + 1 + 1 + 16 * k + 200 < _; omega⟩ hfr (fun b hb => Nat.le_of_eq (List.mem_singleton.mp hb).symm)
      (F0.naps (u := s) G rfl (Array.getElem?_eq_some_iff.mp hgs).1 (fun b o h1 h2 h3 e hc => ?_))
    · exact goal
    · exact k4 b o e
end
def tListF (tg : TGenF) : TE := fun σ H Q => tg σ H fun N It H1 => N ≤ sizeLine ∧ ∀ S out H', H1 S = none → H' S = none → Same H1 H' → out.length = N → Got It out H' → Q (.ref S) (upd H' S (.lst out))
section
variable {X : Cx} {k : Nat} {nm : Str} {p pos : Pos}
theorem exOk_loose {pins : List (Addr × Obj)} {n0 : Nat} {h : Heap} {H : Hp} (o : Older X pins n0) : ExOk X pins (loose n0 [] h H) := fun b hb => by
  obtain ⟨h1, _, _⟩ := of_loose hb
  exact ⟨.inr (Nat.le_trans o.entry h1), Nat.ne_of_gt (Nat.lt_of_lt_of_le o.loc h1), fun x c e => Nat.ne_of_lt (Nat.lt_of_lt_of_le (o.cells x c e) h1), fun p hp => Nat.ne_of_lt (Nat.lt_of_lt_of_le (o.pins p hp) h1)⟩
/-- list(g) -/
theorem pe_listF {e : Expr} {tg : TGenF} (h : PGenF X k e tg) (hc : X.calm = true) (hr : Room (k + 3) X.A) (hg : Gl X nm) (hmg : X.mg nm = none) (hv : bootBuiltins nm = some (.type "list")) (hnm : nm ≠ "__name__" := by decide) (hdb : (nm == ("__debug__" : Str)) = false := by decide)
    (he : starEach [e] X.env = (false, eval e X.env) :: starEach [] X.env := by rfl) : PE X (.Call (.Name nm p) [e] [] pos) (tListF tg) := by
  refine ⟨fun pins s σ H Q I hq => ?_⟩
  refine wpAny_Call_Name_kw (ld_blt I hg hmg hv ?_ hnm hdb)
  refine PyProof.Rows.callWith_type1 ?_ he rfl
  rw [he]
  show wpAny _ _ (spliced ((false, eval e X.env) :: backTo pos (starEach [] X.env))) _ _ s
  refine Calls.spliced_cons (thn (h.run pins s σ H _ I hq) fun u s1 ⟨H1, n0, m0, N, It, I1, old, _, hG, hN, q⟩ => ?_)
  refine Calls.spliced_nil ?_
  refine call_listF hr I1.ok.frames (I1.ok.hd hc) hG trivial I1.bare I1.hok I1.bs (Nat.le_trans I1.ok.bsz (Nat.le_trans (Nat.le_of_eq rfl) old.entry)) I1.stack I1.stkFree (fun b hb => by
    rcases List.mem_cons.mp (I1.stkSub b hb) with z | z
    · rw [z]; exact old.loc
    · exact fs_older I1 old b z) hN (fun S s' acc cc H' out q0 q1 q2 q3 q4 q5 q6 q7 q8 q9 q10 => ?_)
  exact ⟨.ref S, upd H' S (.lst out), I1.drained q0 (by omega) q1 q2 (exOk_loose old) q4 q5 q6 q7 q8, rfl, q S out H' (I1.hok.fresh q0) q8 q9 q3 q10⟩
end
end GFor
/-! ## Base0 -/
/-! ## SuperInit -/
/-! def __init__(self, ..): super().__init__(..); .. -/
namespace Own
open PySem L2
/-- a promise kept (not to be opened by the unifier) -/
structure Sat (sp : Sp) (vs : List V) (H : Hp) (Q : VK) : Prop where
  out : sp vs H Q E0
end Own
namespace SupI
open PySem PySem.Spec PyProof.Rows L2 NdefX
open Sem (wp)
/-- what the text holds of the class at D whose method this is: cc the cell __class__, cda the code's object -/
structure SupD (P : Program) (K : PySem.W.Frag) (mg : Str → Option Value) (D cc cda : Addr) : Prop where
  top : (P.main.scope.names.lookup ("super" : Str)).isSome = false
  mg : mg "super" = none
  cell : ∃ cl cld csl, K.lookup cc = some ⟨cl, cld, .cell (some (.ref D)), csl⟩
  cls : ∃ cd, PySem.W.clsIn K D = some cd
  code : ∃ ccl cdd vs ccs file tf, K.lookup cda = some ⟨ccl, cdd, .fields vs, ccs⟩ ∧ vs[2]? = some (.str file tf) ∧ ((P.main.file : Str) == file) = true
/-- what it holds of self's class C: f2 the next __init__ above D -/
structure SupC (K : PySem.W.Frag) (D C f2 : Addr) (m : Str) : Prop where
  sub : PySem.W.mroIn K C (.ref D) = some true
  nxt : PySem.W.ks_superIn K C D m = some (some (.ref f2))
  ty : PySem.W.typeIn K (.ref f2) = some (.type "function")
  fi : PySem.W.fnIn K f2 = true
  opq : PySem.W.nsIn K cStatics "thirdparty.any" = some none
section
variable {X : Cx} {pins : List (Addr × Obj)} {σ : L2.St} {H : Hp} {s : Shared} {E : Value → Shared → Prop}
theorem load_blt {A : Around} {x : Str} {u : Value} {Q : Value → Shared → Prop} (I : Inv X pins σ H s) (hg : X.env.kindOf x = some .globalImplicit) (hm : X.mg x = none) (hv : bootBuiltins x = some u) (h : Q u s) (hn : x ≠ "__name__") : wpAny (model X.prog X.w) A (loadName X.env x) Q E s := by
  obtain ⟨mb, h1, h2⟩ := I.mod.blt
  exact PySem.W.ks_loadName_global I.ok.kind hg (Calls.loadGlobal_builtin (by rw [I.ok.glob]; exact I.mod.glob.keeps I.bk) hm (by rw [I.ok.blt]; exact h1.keeps I.bk) ((h2 x hn).trans hv) h)
theorem load_local {A : Around} {i : Nat} {x : Str} {v : V} {Q : Value → Shared → Prop} (I : Inv X pins σ H s) (hN : X.N[i]? = some x) (hs : σ[i]? = some (some v)) (hl : X.env.scope.names.lookup x = some .local) (h : ∀ u, RelV v u → Q u s) : wpAny (model X.prog X.w) A (loadName X.env x) Q E s := by
  obtain ⟨m, hn, hh⟩ := I.loc
  obtain ⟨u, ru, hk⟩ := hh i x v hN hs (.inl hl)
  rcases hk with ⟨_, q⟩ | ⟨q, _⟩
  · exact wpAny_loadName_local I.ok.kind hl hn q (h u ru)
  · have e : X.env.kindOf x = some .local := hl
    rcases q with z | z <;> (rw [e] at z; cases z)
theorem inst_at {x C dx : Addr} {fs : List (Str × V)} (I : Inv X pins σ H s) (e : H x = some (.ins C dx fs)) : ∃ ox od, PySem.W.InstAt s.heap x ox C (some od) := by
  obtain ⟨mA, O, _⟩ := ins_get I.hok e
  obtain ⟨od, J, _⟩ := O.look
  exact ⟨_, od, J⟩
/-- super().m(e, ..), a def's first statement -/
theorem sup_eval {body : List Stmt} {p0 p1 apos pos : Pos} {e : Expr} {es : List Expr} {D C cc cda f f2 x dx : Addr} {fs : List (Str × V)} {m : Str} {ar : Arg} {fd : FuncData} {oc : Value} {od : Option Addr} {osl : Array (Option Value)} {CX : CXT} {k : Nat} {sp : Sp} {t : TA} {Q : VK}
    (I : Inv X pins σ H s) (F : SupD X.prog X.K X.mg D cc cda) (G : SupC X.K D C f2 m) (lk : X.K.lookup f = some ⟨oc, od, .func fd, osl⟩) (hfu : X.env.func = some f) (hco : X.env.code = .ref cda)
    (hp : (fd.params.posonlyargs ++ fd.params.args).head? = some ar) (hks : X.env.kindOf "super" = some .globalImplicit) (hkc : X.env.kindOf "__class__" = some .free) (hcc : X.env.cells.lookup ("__class__" : Str) = some cc)
    (hN : X.N[0]? = some ar.arg) (hl : X.env.scope.names.lookup ar.arg = some .local) (F2 : FnR X.prog X.w X.K X.mg X.base CX k f2 sp) (hr : Room k X.A) (ha : PA X (e :: es) t)
    (hs : σ[0]? = some (some (V.ref x))) (hH : H x = some (.ins C dx fs)) (hxx : Passes CX X E0) (hm : (m == ("__class__" : Str)) = false)
    (h : t σ H fun vs H1 => Own.Sat sp (.ref x :: vs) H1 Q)
    (he : eval (.Call (.Attribute (.Call (.Name "super" p0) [] [] p1) m apos) (e :: es) [] pos) X.env = (do
      let ov ← attributeBase (.Call (.Name "super" p0) [] [] p1) m X.env (eval (.Call (.Name "super" p0) [] [] p1) X.env)
      standAt apos.atName
      let (f, first) ← holding [ov] (getMethod ov m (pure false))
      callWith pos f first (backTo pos (starEach (e :: es) X.env)) []) := by rfl)
    (hst : starEach (e :: es) X.env = (false, eval e X.env) :: starEach es X.env := by rfl) (hpl : (backTo pos (starEach es X.env)).any (·.1) = false := by rfl) :
    _root_.PySem.wpAt (model X.prog X.w) X.A (.func body X.env) (eval (.Call (.Attribute (.Call (.Name "super" p0) [] [] p1) m apos) (e :: es) [] pos) X.env) (EP X pins σ Q) X.xe s := by
  obtain ⟨cdD, hD⟩ := F.cls
  obtain ⟨cl, cld, csl, lcc⟩ := F.cell
  obtain ⟨ccl, cdd, vs, ccs, file, tf, lcd, hvs, hfile⟩ := F.code
  obtain ⟨oD, hD1, hD2⟩ : ∃ oD, s.heap.get? D = some oD ∧ oD.data = .cls cdD := by
    unfold PySem.W.clsIn at hD
    split at hD
    · rename_i c d cd' sl ho
      cases hD
      exact ⟨_, I.kIn _ _ ho, rfl⟩
    · cases hD
  obtain ⟨ox, odx, J⟩ := inst_at I hH
  refine ks_wpAt_MethodCall (pl := pure false) ?_ he
  refine ks_wpAt_super_base hks hkc hm hfu (I.kIn _ _ lk) rfl hp hco (I.kIn _ _ lcd) rfl hvs hfile F.top ?_
  refine load_blt I hks F.mg (u := .type "super") (by first | rfl | decide +kernel) ⟨rfl, ?_⟩ (by decide)
  refine wpAny_loadName_free I.ok.kind hkc hcc ⟨_, I.kIn _ _ lcc, rfl⟩ ?_
  refine load_local I hN hs hl fun u ru => ?_
  obtain rfl : u = Value.ref x := ru
  refine ks_wpAny_isType_cls hD1 hD2 ⟨rfl, ?_⟩
  obtain ⟨hh, g, d, tk, os⟩ := s
  refine ks_wpAny_call_super hD1 hD2 J.at_ J.cls (fun c e => ?_) (PySem.W.looks_mroIn I.kIn G.sub) (fun h' e1 k1 => ?_)
  · have := J.no
    unfold PySem.W.notCls at this
    rw [e] at this
    exact Bool.noConfusion this
  have I1 : Inv X ((hh.objs.size, PySem.W.ks_superObj D x C) :: pins) σ H ⟨h', g, d, tk, os⟩ :=
    ClX.pin_new (t' := tk) I k1 (Nat.le_refl _) e1 (fun v z => nomatch z)
  obtain ⟨ox1, odx1, J1⟩ := inst_at I1 hH
  cases hc : PySem.W.clsIn X.K C with
  | none => have z := G.nxt; unfold PySem.W.ks_superIn at z; rw [hc] at z; cases z
  | some cd =>
    have z := G.nxt
    unfold PySem.W.ks_superIn at z
    rw [hc] at z
    obtain ⟨of, hof, hofc⟩ : ∃ of, h'.get? f2 = some of ∧ of.cls = .type "function" := by
      have ht' : (X.K.lookup f2).map (·.cls) = some (.type "function") := G.ty
      cases q : X.K.lookup f2 with
      | none => rw [q] at ht'; cases ht'
      | some of => rw [q] at ht'; exact ⟨of, I1.kIn _ _ q, Option.some.inj ht'⟩
    refine ks_wpAny_getMethod_super e1 (PySem.W.looks_opaque I1.kIn G.opq) (l₀ := cd.mro) ?_ rfl I1.kIn z hof hofc (PySem.W.ks_ne I1.kIn J1 hc) hm ?_
    · exact fun A Q E s k q => wpAny_bind ((PySem.W.looks_clsIn I1.kIn hc) A _ E s k (wpAny_pure q))
    · have I2 : Inv X ((h'.objs.size, PySem.W.methodObj (.ref f2) (.ref x)) :: (hh.objs.size, PySem.W.ks_superObj D x C) :: pins) σ H ⟨h'.push (PySem.W.methodObj (.ref f2) (.ref x)), g, d, tk + 1, os⟩ :=
        ClX.pin_new (t' := tk + 1) I1 (fun _ _ z => Heap.get?_push_of_some _ z) (Nat.le_refl _) (Heap.get?_push_size h' rfl) (fun v z => nomatch z)
      have hL : h'.objs.size ≠ X.env.locals := (I2.pin (h'.objs.size, PySem.W.methodObj (.ref f2) (.ref x)) (List.mem_append_right _ List.mem_cons_self)).2.2.1
      refine PySem.W.callWith_M (K := X.K) (h₀ := X.base) (first := []) I2.ok.mod.kin (news_at hL (ClX.base_none I1 (Nat.le_refl _)) (ClX.pin_at I2)) List.mem_cons_self G.fi (thn (ha.run pos _ _ σ H _ I2 h) fun us s3 ⟨vs, H2, I3, rv, q2⟩ => ⟨⟨ClX.pin_at I3, I3.kIn⟩, ?_⟩) hst hpl
      have z : wpAny (model X.prog X.w) X.A (call (.ref h'.objs.size) us) (EP X ((h'.objs.size, PySem.W.methodObj (.ref f2) (.ref x)) :: (hh.objs.size, PySem.W.ks_superObj D x C) :: pins) σ Q) X.xe s3 :=
        wpAny_call (PySem.W.method_call (ClX.pin_at I3) (run_fnR (us := .ref x :: us) (vs := .ref x :: vs) F2 hr hxx I3 (.cons rfl rv) q2.out))
      exact thn z fun _ _ y => ClX.unpinE (ClX.unpinE y)
end
section
variable {CX : CXT} {P : Program} {w : World} {K : PySem.W.Frag} {mg : Str → Option Value} {base : Heap} {k : Nat} {f f2 C D cc cda : Addr} {name qual : Str} {params : Arguments} {rest : List Stmt} {scope : Scope} {dV kV doc pm ct oc : Value} {an od : Option Addr}
  {osl : Array (Option Value)} {N ps : List Str} {sp sp2 : Sp} {m : Str} {p0 p1 apos pos pos2 : Pos} {e : Expr} {es : List Expr} {ar : Arg}
abbrev supF (name qual : Str) (params : Arguments) (body : List Stmt) (scope : Scope) (cc cda : Addr) : NF := ⟨name, qual, params, body, scope, [("__class__", cc)], cda⟩
abbrev supX (P : Program) (w : World) (K : PySem.W.Frag) (mg : Str → Option Value) (base : Heap) (N : List Str) (name qual : Str) (params : Arguments) (body : List Stmt) (scope : Scope) (cc cda f : Addr) (A : Around) (outer : List Env) (s : Shared) (H : Hp) : Cx :=
  ncx CX0 P w K mg base N (supF name qual params body scope cc cda) f A outer s H E0
abbrev supB (p0 p1 apos pos pos2 : Pos) (m : Str) (e : Expr) (es : List Expr) (rest : List Stmt) : List Stmt := .Expr (.Call (.Attribute (.Call (.Name "super" p0) [] [] p1) m apos) (e :: es) [] pos) pos2 :: rest
/-- THE RULE: a def whose first statement is super().m(e, ..) -/
theorem fn_super (lk : K.lookup f = some ⟨oc, od, .func (PySem.W.ksFn name qual params (supB p0 p1 apos pos pos2 m e es rest) scope dV kV doc pm an (.ref cda) ct cc), osl⟩) (hcd : PySem.W.codeIn K (.ref cda) qual = true)
    (S : NScope N ps ["__class__"] scope) (FD : SupD P K mg D cc cda) (G : SupC K D C f2 m) (F2 : FnR P w K mg base CX0 k f2 sp2)
    (hp : (params.posonlyargs ++ params.args).head? = some ar) (hks : scope.names.lookup ("super" : Str) = some .globalImplicit) (hN : N[0]? = some ar.arg) (hl : scope.names.lookup ar.arg = some .local) (hm : (m == ("__class__" : Str)) = false)
    (hb : Binds K (PySem.W.ksFn name qual params (supB p0 p1 apos pos pos2 m e es rest) scope dV kV doc pm an (.ref cda) ct cc) ps []) (len : ∀ vs H Q E, sp vs H Q E → vs.length = ps.length)
    (hev : ∀ env : Env, eval (.Call (.Attribute (.Call (.Name "super" p0) [] [] p1) m apos) (e :: es) [] pos) env = (do
      let ov ← attributeBase (.Call (.Name "super" p0) [] [] p1) m env (eval (.Call (.Name "super" p0) [] [] p1) env)
      standAt apos.atName
      let (f, first) ← holding [ov] (getMethod ov m (pure false))
      callWith pos f first (backTo pos (starEach (e :: es) env)) []))
    (hst : ∀ env : Env, starEach (e :: es) env = (false, eval e env) :: starEach es env) (hpl : ∀ env : Env, (backTo pos (starEach es env)).any (·.1) = false)
    (hsw : ∀ env : Env, swapsWith (.Call (.Attribute (.Call (.Name "super" p0) [] [] p1) m apos) (e :: es) [] pos) none pos2.line env = pure false)
    (hi : ∀ L : Addr, interactive (PySem.W.ksEnv qual scope L f (.ref cda) cc) = false)
    (hbody : ∀ (A : Around) (outer : List Env) (s : Shared) (H : Hp) (vs : List V) (Q : VK) (E : XK), Room k (A.deeper (PySem.W.ksEnv qual scope s.heap.objs.size f (.ref cda) cc)) → sp vs H Q E →
      ∃ x dx fs t tr, vs[0]? = some (V.ref x) ∧ H x = some (.ins C dx fs) ∧ PA (supX P w K mg base N name qual params (supB p0 p1 apos pos pos2 m e es rest) scope cc cda f A outer s H) (e :: es) t ∧
        PSs (supX P w K mg base N name qual params (supB p0 p1 apos pos pos2 m e es rest) scope cc cda f A outer s H) rest tr ∧
        t (startF N vs [none]) H (fun ws H1 => Own.Sat sp2 (.ref x :: ws) H1 (fun v H2 => tr { nx := fun _ H' => Q .non H', rt := Q } (startF N vs [none]) H2))) :
    FnR P w K mg base CX0 (k + 1) f sp := by
  intro A outer s H us vs Q E hr e0 r hsp
  have hl2 := len _ _ _ _ hsp
  have hul : us.length = ps.length := by rw [← r.length]; exact hl2
  have KX : K.In s.heap := e0.mod.kin.keeps fun b o e => (e0.bs b o e).1
  have lim : s.heap.NoLimit := e0.mod.nolimit.keeps fun b o e => (e0.bs b o e).1
  have hbi := hb s us KX (by rw [List.append_nil]; exact hul)
  rw [List.append_nil] at hbi
  refine ks_codeAny_call_defAt (body := supB p0 p1 apos pos pos2 m e es rest) (binds := ps.zip us) hr.depth (KX _ _ lk) rfl lim (PySem.W.codeRec_of KX hcd) rfl hbi S.nocell (fun y hy => S.par y.1 (List.of_mem_zip hy).1) (fun h1 hns kp => ?_) S.co S.gen S.kind
  obtain ⟨x, dx, fs, t, tr, hv0, hH, ha, hrest, hq⟩ := hbody A outer s H vs Q E (hr.deeper _) hsp
  obtain ⟨cl, cld, csl, lcc⟩ := FD.cell
  have C0 : CellsAt [("__class__", cc)] ["__class__"] [none] s.heap H := by
    have one : ∀ {y : Str} {c : Addr}, ([("__class__", cc)] : List (Str × Addr)).lookup y = some c → y = "__class__" ∧ c = cc := fun {y c} e => by
      by_cases h : y = ("__class__" : Str)
      · rw [h] at e; simp [List.lookup] at e; exact ⟨h, e.symm⟩
      · rw [List.lookup_cons] at e
        have : (y == ("__class__" : Str)) = false := by simpa using h
        rw [this] at e; cases e
    refine ⟨rfl, fun y c e => ?_, fun y z c e1 e2 => ?_, fun i y e => ?_⟩
    · obtain ⟨_, rfl⟩ := one e
      have q := PySem.W.Frag.In.keeps (h := base) (h' := base) e0.mod.kin (fun _ _ z => z) _ _ lcc
      exact ⟨(e0.bs _ _ q).2, _, ⟨_, KX _ _ lcc, rfl⟩⟩
    · rw [(one e1).1, (one e2).1]
    · cases i with
      | zero =>
        have e : ("__class__" : Str) = y := Option.some.inj e
        subst e
        exact ⟨cc, by simp [List.lookup], fun v q => by cases q⟩
      | succ i => cases e
  have I := inv_startN (CX := CX0) (P := P) (w := w) (F := supF name qual params (supB p0 p1 apos pos pos2 m e es rest) scope cc cda) (f := f) (E := E0) (tk := s.toks + (ps.zip us).length) S hr.hd e0 hl2 r C0 hns kp
  have hs0 : (startF N vs [none])[0]? = some (some (V.ref x)) := by
    unfold startF
    have : 0 < (vs.map some).length := by rw [List.length_map]; cases vs with
      | nil => cases hv0
      | cons _ _ => simp
    rw [List.getElem?_append_left this, List.getElem?_map, hv0]
    rfl
  refine ks_wpAt_execs_cons (ks_wpAt_Expr_any (ks_wpAt_mono (sup_eval (X := supX P w K mg base N name qual params (supB p0 p1 apos pos pos2 m e es rest) scope cc cda f A outer s H) (x := x) (hst := hst _) (hpl := hpl _) (he := hev _) I FD G lk rfl rfl hp hks (S.frk _ List.mem_cons_self) (by show ([("__class__", cc)] : List (Str × Addr)).lookup ("__class__" : Str) = some cc; simp [List.lookup]) hN hl F2 (hr.deeper _) ha hs0 hH pass0 hm hq) (fun u s2 z => ?_) (fun e s2 z => z)) (hi _) (hsw _))
  obtain ⟨v, H2, I2, _, q2⟩ := z
  refine wpAt_of_wpAny (wpAny_mono (hrest.run [] s2 _ H2 _ I2 q2) (fun fl s' hs => ?_) fun e s' hs => hs)
  have fin : ∀ {σ' : L2.St} {H' : Hp} {v' : V} {u' : Value}, Inv (supX P w K mg base N name qual params (supB p0 p1 apos pos pos2 m e es rest) scope cc cda f A outer s H) [] σ' H' s' → RelV v' u' → Q v' H' → CE outer P w H s Q u' s' :=
    fun {σ' H' v' u'} J rv' q => ⟨v', H', J.os, J.bare, J.base, J.hok, rv', q⟩
  cases fl with
  | ret u' =>
    obtain ⟨v', σ', H', J, rv', q⟩ := hs
    exact fin J rv' q
  | next =>
    obtain ⟨σ', H', J, q⟩ := hs
    exact fin (v' := V.non) (u' := Value.none) J rfl q
  | brk =>
    obtain ⟨_, _, _, q⟩ := hs
    exact False.elim q
  | cont =>
    obtain ⟨_, _, _, q⟩ := hs
    exact False.elim q
end
end SupI
/-! ## SetTx -/
set_option maxHeartbeats 3200000
/-! sorted(set(xs)), xs a list of texts. -/
noncomputable section
namespace STx
open PySem PySem.Spec PyProof.Rows L2 PySem.Froz
def keyT (e : Int × Value) : Str := match e.2 with | .str k _ => k | _ => Str.empty
def GoodT (w : World) (e : Int × Value) : Prop := ∃ k tk, e = (hashStr w k, Value.str k tk)
/-- the payload holds the texts l -/
structure TX (w : World) (D : SD) (l : List Str) : Prop where
  pm : (D.1.toList.map keyT).Perm l
  good : ∀ e ∈ D.1.toList, GoodT w e
  nd : l.Nodup
  fit : D.2.2.fits D.1.size = true
  ris : Ris D.2.2.place.toList
  led : w.params.followText "set-order" = true ∨ D.2.2.led = true
theorem TX.ok {P : Program} {w : World} {D : SD} {l : List Str} (x : TX w D l) : TxOk P w D l := by
  refine ⟨fun e he => ?_, fun k => ?_, ?_, x.fit⟩
  · obtain ⟨k, tk, rfl⟩ := x.good e he
    exact ⟨⟨k, is_str k tk, rfl⟩, rfl⟩
  · rw [← x.pm.mem_iff, List.mem_map]
    constructor
    · rintro ⟨e, he, q⟩
      obtain ⟨k', tk, rfl⟩ := x.good e he
      have q : k' = k := q
      rw [q] at he
      exact ⟨_, he, is_str k tk⟩
    · rintro ⟨e, he, q⟩
      obtain ⟨k', tk, rfl⟩ := x.good e he
      refine ⟨_, he, ?_⟩
      have q : Value.isStrOf k (.str k' tk) = true := q
      simp [Value.isStrOf] at q
      first | exact q.symm | exact q
  · have := x.pm.length_eq
    rw [List.length_map, Array.length_toList] at this
    exact this
theorem tail_tx {w : World} {ep : Nat} {es1 : Array (Int × Value)} {t2 : SetTable} {wd : Bool} {l : List Str} (x : TX w (es1, ep, t2) l) : TX w (tailTx ep es1 t2 wd) l := by
  unfold tailTx
  by_cases c : (!wd && t2.tooFull) = true
  · rw [if_pos c]
    have p := relayAll_perm t2 es1 (SetTable.grown es1.size)
    exact ⟨(p.map keyT).trans x.pm, fun e he => x.good e (p.mem_iff.mp he), x.nd, relayAll_fits t2 es1 _, relayAll_ris t2 es1 _, x.led.imp id fun z => (relayAll_led t2 es1 _).trans z⟩
  · rw [if_neg c]
    exact ⟨x.pm, x.good, x.nd, x.fit, x.ris, x.led⟩
theorem add_tx {w : World} {D : SD} {l : List Str} {k : Str} (u : Tok) (hk : k ∉ l) (x : TX w D l) : TX w (addTx (hashStr w k) (.str k u) D) (k :: l) := by
  obtain ⟨es, ep, t⟩ := D
  have p := layNew_perm t es (hashStr w k) (.str k u)
  have hf := layNew_fits t es (hashStr w k) (.str k u)
  have hr := layNew_ris t es (hashStr w k) (.str k u) x.ris
  have hl := layNew_led t es (hashStr w k) (.str k u)
  unfold addTx
  dsimp only
  generalize layNew t es (hashStr w k) (.str k u) = Z at p hf hr hl ⊢
  obtain ⟨es1, t1, wd, gave⟩ := Z
  dsimp only at p hf hr hl ⊢
  rw [Array.toList_push] at p
  have p2 := p.trans (List.perm_append_singleton _ _)
  refine tail_tx ⟨(p2.map keyT).trans (List.Perm.cons k x.pm), fun e he => ?_, List.nodup_cons.mpr ⟨hk, x.nd⟩, ?_, ?_, ?_⟩
  · rcases List.mem_cons.mp (p2.mem_iff.mp he) with z | z
    · exact ⟨k, u, z⟩
    · exact x.good e z
  · show SetTable.fits (if t1.plain = true then _ else _) es1.size = true
    by_cases c : t1.plain = true
    · rw [if_pos c]; exact SetTable.fits_plain_off hf
    · rw [if_neg c]; exact hf
  · show Ris (SetTable.place (if t1.plain = true then _ else _)).toList
    by_cases c : t1.plain = true
    · rw [if_pos c]; exact hr
    · rw [if_neg c]; exact hr
  · show _ ∨ SetTable.led (if t1.plain = true then _ else _) = true
    refine x.led.imp id fun z => ?_
    by_cases c : t1.plain = true
    · rw [if_pos c]; exact hl.trans z
    · rw [if_neg c]; exact hl.trans z
section
variable {P : Program} {w : World} {A : Around} {E : Value → Shared → Prop} {s : Shared}
/-- a text that is there already -/
theorem add_old {a : Addr} {T : String} {D : SD} {l : List Str} {k : Str} {u : Tok} {Q : Bool → Shared → Prop} (ho : s.heap.get? a = some (sObj T D)) (F : TxOk P w D l) (hk : k ∈ l) (hb : l.length < scanBound)
    (h : Q false s) : wpAny (model P w) A (setAddHashed a (.str k u) (hashStr w k)) Q E s := by
  obtain ⟨es, ep, t⟩ := D
  have hd : (sObj T (es, ep, t)).data = .set es ep t := rfl
  have hf : t.fits es.size = true := F.fit
  have hel : ElemsOf (strKind P w) es.toList := F.el
  have hsz : es.size = l.length := F.sz
  have hb0 : es.size < scanBound := by omega
  have hkey : (strKind P w).is k (.str k u) = true := is_str k u
  unfold setAddHashed setAddHashedIn
  refine wpAny_holding (wpAny_bind (wpAny_setState_of ho hd hf ?_))
  dsimp only
  rw [byScan_of rfl hb0 hel]
  simp only [↓reduceIte]
  unfold setAddByScan
  refine wpAny_bind ?_
  refine wpAny_bind (wpAny_rule ?_)
  refine wpAny_bind (wpAny_setScan_of (knd := strKind P w) (k := k) hkey ho hd hf hel ?_)
  cases hfi : List.findIdx? (fun e => (strKind P w).is k e.2) es.toList with
  | some j => exact wpAny_pure (wpAny_pure h)
  | none =>
    obtain ⟨e, he, q⟩ := (F.mem k).mp hk
    have c := List.findIdx?_eq_none_iff.mp hfi e he
    rw [q] at c
    cases c
/-- what has been put in behind the first i -/
def Put (xs : List Str) (i : Nat) (l : List Str) : Prop := ∀ k, k ∈ l ↔ k ∈ xs.take i
theorem loop_tx {R : Result → Shared → Prop} {I : Addr} {fp wr : List Addr} {G : Array GenState → Array GenState → Prop} {n : Nat} {Pv : Nat → Value → Prop} {St : Nat → Shared → Prop}
    (W : WalksS P w A.in1 I fp wr G n Pv St) (S : Addr) (hSf : S ∉ fp) (xs : List Str) (hsz : xs.length = n) (hb : n < scanBound) (hval : ∀ i v, Pv i v → ∃ t, v = .str (xs.getD i Str.empty) t) :
    ∀ (k i : Nat) (s : Shared), n - i = k → i ≤ n → St i s → (∃ D l, s.heap.get? S = some (sObj "set" D) ∧ TX w D l ∧ Put xs i l ∧ l.length ≤ i) →
      (∀ s' D l, Moved (S :: wr) G s s' → s'.heap.get? S = some (sObj "set" D) → TX w D l → Put xs n l → l.length ≤ n → R (.ok (.ret .none)) s') →
      codeAny (model P w) A (.builtin "set.update.loop" ⟨[.ref S, .ref I], []⟩) R s := by
  have hSw : S ∉ wr := fun h => hSf (W.sub _ h)
  have hsub : ∀ b ∈ wr, b ∈ S :: wr := fun b hb => List.mem_cons_of_mem _ hb
  intro k
  induction k with
  | zero =>
    intro i s hk hi hst ⟨D, l, ho, x, pt, hl⟩ hR
    have hin : i = n := by omega
    subst hin
    refine codeAny_builtin PyProof.Rows.F.entry_set_update_loop ?_
    rw [Around.under_plainId PyProof.Rows.F.plain_set_update_loop _]
    show wpAny _ A.in1 (pyNext (.ref I) >>= _) _ _ s
    refine wpAny_bind (W.done s _ _ hst fun s' hm => ?_)
    show wpAny _ A.in1 (ret Value.none) _ _ s'
    exact wpAny_pure (hR s' D l (hm.mono hsub) (hm.heap S _ hSw ho) x pt hl)
  | succ k ih =>
    intro i s hk hi hst ⟨D, l, ho, x, pt, hl⟩ hR
    have hlt : i < n := by omega
    refine codeAny_builtin PyProof.Rows.F.entry_set_update_loop ?_
    rw [Around.under_plainId PyProof.Rows.F.plain_set_update_loop _]
    show wpAny _ A.in1 (pyNext (.ref I) >>= _) _ _ s
    refine wpAny_bind (W.item i s _ _ hlt hst fun v s' hP hst' hm => ?_)
    obtain ⟨t, rfl⟩ := hval i v hP
    have ho' := hm.heap S _ hSw ho
    have hxi : xs[i]? = some (xs.getD i Str.empty) := by
      rw [List.getD_eq_getElem?_getD, List.getElem?_eq_getElem (by omega)] <;> rfl
    have tk1 : xs.take (i + 1) = xs.take i ++ [xs.getD i Str.empty] := by rw [List.take_succ, hxi] <;> rfl
    generalize xs.getD i Str.empty = y at tk1 hxi ⊢
    show wpAny _ A.in1 (holding [Value.str y t] (setAdd S (.str y t)) >>= _) _ _ s'
    refine wpAny_bind (wpAny_holding ?_)
    unfold setAdd
    refine wpAny_holding ?_
    refine wpAny_bind ((PySem.strKind P w).pyHash (k := y) (strKind_is _ _ _ _) ?_)
    have back : ∀ (b : Bool) (h' : Heap) (D' : SD) (l' : List Str), Heap.SameBut S s'.heap h' → h'.get? S = some (sObj "set" D') → TX w D' l' → Put xs (i + 1) l' → l'.length ≤ i + 1 →
        wpAny (model P w) A.in1 (again (.builtin "set.update.loop" ⟨[.ref S, .ref I], []⟩)) (fun fin s'' => match fin with | .done f => R (.ok f) s'' | .again c' => c'.quiet = true ∧ codeAny (model P w) A c' R s'') (fun e s'' => R (.error e) s'') { s' with heap := h', toks := s'.toks + 1 } := fun b h' D' l' hsb ho2 x2 pt2 hl2 => by
      refine wpAny_pure ⟨plainId_quiet PyProof.Rows.F.plain_set_update_loop _, ih (i + 1) _ (by omega) hlt (W.frame _ s' _ _ hst' (Nat.le_succ _) fun b hb o e => ?_) ⟨D', l', ho2, x2, pt2, hl2⟩ fun s'' D2 l2 hm'' ho3 x3 pt3 hl3 => ?_⟩
      · rw [hsb.2 b (fun h : b = S => hSf (by rw [← h]; exact hb))]; exact e
      · refine hR s'' D2 l2 (Moved.trans W.gtrans ((hm.mono hsub).then_heap (Nat.le_succ _) fun b o hb e => ?_) hm'') ho3 x3 pt3 hl3
        rw [hsb.2 b (fun h : b = S => hb (by rw [h]; exact List.mem_cons_self))]; exact e
    by_cases hy : y ∈ l
    · refine add_old (s := { s' with toks := s'.toks + 1 }) ho' x.ok hy (by omega) ?_
      refine back false s'.heap D l (Heap.SameBut.refl S s'.heap) ho' x (fun z => ?_) (Nat.le_succ_of_le hl)
      rw [tk1, List.mem_append, ← pt z, List.mem_singleton]
      exact ⟨.inl, fun q => q.elim id fun e => e ▸ hy⟩
    · refine add_x (s := { s' with toks := s'.toks + 1 }) ho' x.ok hy (by omega) ?_
      refine back true _ _ (y :: l) (Heap.SameBut.update ..) (get_upd _ ho' rfl) (add_tx t hy x) (fun z => ?_) (by rw [List.length_cons]; omega)
      rw [tk1, List.mem_append, ← pt z, List.mem_singleton, List.mem_cons]
      exact Or.comm
/-- set(xs), xs a list of texts -/
theorem call_set_tx {l : Addr} {items : Array Value} {xs : List Str} {Q : Value → Shared → Prop} (hh : A.handled = none) (hl : s.heap.IsList l items) (hi : StrsAre items.toList xs) (hb : xs.length < scanBound)
    (h : ∀ (h' : Heap) (tk : Nat) D ls, h'.get? s.heap.objs.size = some (sObj "set" D) → TX w D ls → (∀ k, k ∈ ls ↔ k ∈ xs) → ls.length ≤ xs.length → (∀ b o, s.heap.get? b = some o → h'.get? b = some o) → Q (.ref s.heap.objs.size) { s with heap := h', toks := tk }) :
    wpAny (model P w) A (call (.type "set") [.ref l]) Q E s := by
  have hsz : xs.length = items.size := by rw [← StrsAre.len_eq hi, Array.length_toList]
  obtain ⟨c, tl, hmro⟩ := PySem.F.called_set.mro
  have hmade := PySem.F.called_set.made
  have hsub := PySem.F.called_set.sub
  refine wpAny_call (codeAny_of_tree ?_)
  show wpAny _ _ (callAny (.type "set") _) _ _ _
  refine wpAny_pure ⟨Code.quiet_builtin _ (by decide +kernel), codeAny_builtin PySem.F.entry_type_call ?_⟩
  rw [Around.under_plain (weight_type_call_type "set" [.ref l] []) rfl]
  have h1 := PySem.F.called_set.notType
  have h2 := PySem.F.called_set.canCreate
  have hct := PySem.F.typeCall_set_1 (.ref l)
  repeat (any_goals (first | assumption | wp_step))
  generalize hled : (!w.params.followText "set-order") = led
  refine codeAny_mono (code_set_led1 (.ref l) (E := E) (Q₁ := fun obj s₁ => obj = .ref s.heap.objs.size ∧ s₁ = { s with heap := s.heap.push { cls := .type "set", dict := none, data := .set #[] 0 (.fresh 0 0 (!w.params.followText "set-order")) } }) ⟨rfl, rfl⟩) fun r s₁ hr => ?_
  cases r with
  | error e => exact hr
  | ok fl =>
    cases fl with
    | ret obj =>
      obtain ⟨rfl, rfl⟩ := hr
      rw [hled]
      have hS : (s.heap.push { cls := .type "set", dict := none, data := .set #[] 0 (.fresh 0 0 led) }).get? s.heap.objs.size = some { cls := .type "set", dict := none, data := .set #[] 0 (.fresh 0 0 led) } := Heap.get?_push_size _ rfl
      have hT : Shared.TypeIs { s with heap := s.heap.push { cls := .type "set", dict := none, data := .set #[] 0 (.fresh 0 0 led) } } (.ref s.heap.objs.size) "set" := ⟨_, hS, rfl⟩
      have hli := PySem.F.called_set.init.lookup
      have hbi := PySem.F.called_set.init.bind (.ref s.heap.objs.size)
      repeat (any_goals (first | assumption | wp_step))
      refine codeAny_mono (codeAny_call_builtin (R := wants (fun r s₂ => r = .none ∧ ∃ h' tk D ls, s₂ = { s with heap := h', toks := tk } ∧ h'.get? s.heap.objs.size = some (sObj "set" D) ∧ TX w D ls ∧ (∀ k, k ∈ ls ↔ k ∈ xs) ∧ ls.length ≤ xs.length ∧
          (∀ b o, s.heap.get? b = some o → h'.get? b = some o)) E) PySem.F.called_set.init.plain PySem.F.entry_set_init (check_set_init_1 hT ?_)) fun r₂ s₂ hr₂ => ?_
      · obtain ⟨ol, hol, hcl, nl, hdl⟩ := hl
        obtain ⟨ocls, odict, odata, oslots⟩ := ol
        simp only at hcl hdl
        subst hcl; subst hdl
        have hol' : (s.heap.push { cls := .type "set", dict := none, data := .set #[] 0 (.fresh 0 0 led) }).get? l = some { cls := .type "list", dict := odict, data := .seq items nl, slots := oslots } := Heap.get?_push_of_some _ hol
        have hsls := PySem.F.sub_list_set
        have hslf := PySem.F.sub_list_frozenset
        have hne : (Value.type "list" == Value.type "dict") = false := by decide
        have hl1 : (s.heap.push { cls := .type "set", dict := none, data := .set #[] 0 (.fresh 0 0 led) }).IsList l items := ⟨_, hol', rfl, nl, rfl⟩
        unfold Builtin.«set.__init__» noKeywords Builtin.Frozenset.updateFrom
        generalize hPI : pyIter = PI
        wp_walk
        subst hPI
        refine wpAny_pyIter_list hl1 ?_
        refine wpAny_bind (wpAny_runValue ?_)
        have hlS : l < s.heap.objs.size := Heap.lt_size hol
        have hh3 : A.in1.in1.in1.handled = none := by simp [hh]
        have hneI : l ≠ (s.heap.push { cls := .type "set", dict := none, data := .set #[] 0 (.fresh 0 0 led) }).objs.size := by
          rw [Heap.size_push]; exact Nat.ne_of_lt (Nat.lt_succ_of_lt hlS)
        have hSf : s.heap.objs.size ∉ [(s.heap.push { cls := .type "set", dict := none, data := .set #[] 0 (.fresh 0 0 led) }).objs.size, l] := by
          rw [Heap.size_push]; simp only [List.mem_cons, List.mem_singleton, List.not_mem_nil, or_false, not_or]
          exact ⟨Nat.ne_of_lt (Nat.lt_succ_self _), Nat.ne_of_gt hlS⟩
        have hval : ∀ (i : Nat) (v : Value), items[i]? = some v → ∃ t, v = .str (xs.getD i Str.empty) t := fun i v hv => SS.strs_at hi i v (by rw [Array.getElem?_toList]; exact hv)
        refine loop_tx ((Walks.list hh3 _ l hneI items).toS) s.heap.objs.size hSf xs hsz (by rw [← hsz]; exact hb) hval (items.size - 0) 0 _ (by omega) (Nat.zero_le _)
          ⟨⟨_, Heap.get?_push_size _ rfl, rfl, rfl⟩, (hl1.push _)⟩ ?hS0 ?hR
        case hS0 =>
          refine ⟨(#[], 0, .fresh 0 0 led), [], Heap.get?_push_of_some _ hS, ⟨.nil, fun e he => (by simp at he), List.nodup_nil, rfl, List.Pairwise.nil, ?_⟩, fun k => by simp, Nat.le_refl _⟩
          show _ ∨ led = true
          rw [← hled]
          cases w.params.followText "set-order"
          · exact .inr rfl
          · exact .inl rfl
        case hR =>
          intro s' D ls hm ho x pt hlen
          obtain ⟨h', g', d', tk', os'⟩ := s'
          have eg : g' = s.gens := hm.gens
          have ed : d' = s.drawn := hm.drawn
          have eo : os' = s.os := hm.os
          subst eg; subst ed; subst eo
          show wpAny _ _ _ _ _ _
          refine wpAny_pure ?_
          show wpAny _ _ (ret Value.none) _ _ _
          refine wpAny_pure ⟨rfl, h', tk', D, ls, rfl, ho, x, fun k => ?_, by omega, fun b o e => ?_⟩
          · rw [pt k, ← hsz, List.take_length]
          · have hb0 := Heap.lt_size e
            have hb1 : b ≠ s.heap.objs.size := Nat.ne_of_lt hb0
            have hb2 : b ≠ (s.heap.push { cls := .type "set", dict := none, data := .set #[] 0 (.fresh 0 0 led) }).objs.size := by
              rw [Heap.size_push]; exact Nat.ne_of_lt (Nat.lt_succ_of_lt hb0)
            exact hm.heap b o (by simp only [List.mem_cons, List.mem_singleton, List.not_mem_nil, or_false, not_or]; exact ⟨hb1, hb2⟩) (Heap.get?_push_of_some _ (Heap.get?_push_of_some _ e))
      · cases r₂ with
        | error e => exact hr₂
        | ok fl₂ =>
          cases fl₂ with
          | ret r =>
            obtain ⟨rfl, h', tk, D, ls, rfl, ho, x, pt, hlen, hk'⟩ := hr₂
            repeat (any_goals (first | assumption | wp_step))
            exact h _ _ _ _ ho x pt hlen hk'
          | _ => exact hr₂.elim
    | _ => exact hr.elim
/-- sorted(set) -/
theorem sorted_set_tx {a : Addr} {D : SD} {l : List Str} {Q : Value → Shared → Prop} (ho : s.heap.get? a = some (sObj "set" D)) (x : TX w D l) (hh : A.handled = none) (h64 : l.length < 64)
    (hQ : ∀ s' p (out : Array Value) (c : Nat) (ys : List Str), (∀ b o, s.heap.get? b = some o → s'.heap.get? b = some o) → s'.gens = s.gens → s'.os = s.os → s.heap.objs.size ≤ p →
      s'.heap.get? p = some (seqObj "list" out c) → StrsAre out.toList ys → ys.Perm l → sortedS ys = true → Q (.ref p) s') :
    wpAny (model P w) A (call (.builtin "sorted") [.ref a]) Q E s := by
  obtain ⟨es, ep, t⟩ := D
  have hsz : es.size = l.length := x.ok (P := P).sz
  refine Calls.call_function_entry kind_sorted plain_sorted entry_sorted (args_sorted1 _) ?_
  unfold Builtin.«sorted»
  refine wpAny_bind (m := checkCount "sorted" 1 1 _) (wpAny_pure ?_)
  refine wpAny_bind (collect_set (A := A.in1) hh ⟨_, ho, rfl, rfl⟩ x.fit (by rw [hsz]; unfold scanBound; omega) x.ris x.led fun s1 vs k1 hz g1 o1 pm => ?_)
  have allS : ∀ v ∈ vs, ∃ k tk, v = Value.str k tk := fun v hv => by
    obtain ⟨e, he, q⟩ := List.mem_map.mp (pm.mem_iff.mp hv)
    obtain ⟨k, tk, rfl⟩ := x.good e he
    exact ⟨k, tk, q.symm⟩
  have areS : ∀ vs : List Value, (∀ v ∈ vs, ∃ k tk, v = Value.str k tk) → StrsAre vs (vs.map fun v => keyT (0, v)) := by
    intro vs
    induction vs with
    | nil => intro _; exact .nil
    | cons v r ih =>
      intro hv
      obtain ⟨k, tk, rfl⟩ := hv v List.mem_cons_self
      exact .cons k tk (ih fun u hu => hv u (List.mem_cons_of_mem _ hu))
  have hI := areS vs allS
  have pk : (vs.map fun v => keyT (0, v)).Perm l := by
    have q := pm.map fun v => keyT (0, v)
    rw [List.map_map] at q
    exact q.trans x.pm
  have hvl : vs.length < 64 := by
    have := pk.length_eq
    rw [List.length_map] at this
    omega
  refine wpAny_bind (wpAny_newList ?_ (by rw [sizeLine_eq]; omega))
  have hoL : (s1.heap.push (seqObj "list" vs.toArray 0)).get? s1.heap.objs.size = some (seqObj "list" vs.toArray 0) := Heap.get?_push_size _ rfl
  refine wpAny_bind (wpAny_holding (wpAny_call_entry slot_list_sort ⟨_, hoL, rfl⟩ entry_list_sort (list_sort_treeK strKind_oneLt hoL hI.keysOf (fun v₁ v₂ rest e => keyKind_strs (by rw [← e]; exact hI)) hvl fun st' a1 a2 => ⟨_, rfl, ?_⟩) (args_list_sort _)))
  obtain ⟨ys, h1, h2, h3⟩ := sorted_out_str hI a1 a2
  obtain ⟨c, hc⟩ := sortedHeap_at (vs := vs) (out := (arrOf st').map (·.2)) hoL
  refine wpAny_pure ⟨_, rfl, hQ _ s1.heap.objs.size _ c ys (fun b u e => ?_) g1 o1 hz hc h1 (h2.trans pk) h3⟩
  have q := k1 b u e
  have hlt := Heap.lt_size q
  show (sortedHeap (s1.heap.push (seqObj "list" vs.toArray 0)) s1.heap.objs.size vs _).get? b = some u
  rw [sortedHeap_old (Nat.ne_of_lt hlt) (by rw [size_push']; exact Nat.lt_succ_of_lt hlt)]
  exact Heap.get?_push_of_some _ q
end
/-- the set of texts at a -/
def SetTx (w : World) (a : Addr) (l : List Str) : HO := .ext fun h => ∃ D, h.get? a = some (sObj "set" D) ∧ TX w D l
theorem setTx_new {P : Program} {w : World} {H : Hp} {h : Heap} {a : Addr} {D : SD} {l : List Str} (ho : h.get? a = some (sObj "set" D)) (x : TX w D l) : ObjOk P w H h a (SetTx w a l) :=
  ⟨⟨D, ho, x⟩, ⟨_, ho⟩, fun h1 h2 ⟨D', e, y⟩ k => ⟨D', k _ e, y⟩⟩
section
variable {X : Cx}
/-- set(xs) -/
def rSetTx (K : PySem.W.Frag) (w : World) : List V → Hp → VK → Prop := fun xs H Q => ∃ (l : Addr) (zs : List Str), xs = [V.ref l] ∧ SqL K H l (zs.map V.str) ∧ zs.length < scanBound ∧
  ∀ a ls, H a = none → ls.Nodup → (∀ k, k ∈ ls ↔ k ∈ zs) → ls.length ≤ zs.length → Q (.ref a) (upd H a (SetTx w a ls))
theorem cr_setTx (hc : X.calm = true) : CallR X (.type "set") (rSetTx X.K X.w) := by
  intro pins s σ H xs us Q I r h
  obtain ⟨l, zs, rfl, hl, hf, q⟩ := h
  rw [Vals.ref1 r]
  obtain ⟨its, rv, pl, hz⟩ := I.list hl
  have hn : H s.heap.objs.size = none := I.hok.fresh (Nat.le_refl _)
  refine call_set_tx (P := X.prog) (w := X.w) (xs := zs) (I.ok.hd hc) pl.isList (by simpa using rv.strs) hf fun h' tk D ls ho x pt hlen k => ?_
  exact ⟨.ref s.heap.objs.size, upd H s.heap.objs.size (SetTx X.w s.heap.objs.size ls), I.laid (t' := tk) k (Nat.le_refl _) (setTx_new ho x), rfl, q _ ls hn x.nd pt hlen⟩
/-- sorted(set) -/
def rSortedTx (w : World) : List V → Hp → VK → Prop := fun vs H Q => ∃ (a : Addr) (ls : List Str), vs = [V.ref a] ∧ H a = some (SetTx w a ls) ∧ ls.length < 64 ∧
  ∀ (ys : List Str) (p : Addr), ys.Perm ls → sortedS ys = true → H p = none → Q (.ref p) (upd H p (.lst (ys.map V.str)))
theorem cr_sortedTx (hc : X.calm = true) : CallR X (.builtin "sorted") (rSortedTx X.w) := by
  intro pins s σ H vs us Q I r h
  obtain ⟨a, ls, rfl, ha, h64, q⟩ := h
  obtain ⟨D, ho, x⟩ := (I.hok a _ ha).1
  rw [Vals.ref1 r]
  refine sorted_set_tx ho x (I.ok.hd hc) h64 fun s' p out c ys k g o hp hg hst pm srt => ?_
  have hlen : (ys.map V.str).length ≤ sizeLine := by rw [List.length_map, pm.length_eq, sizeLine_eq]; omega
  have hn : H p = none := I.hok.fresh hp
  have J : Inv X pins σ (upd H p (.lst (ys.map V.str))) { s with heap := s'.heap, gens := s'.gens, drawn := s'.drawn, toks := s'.toks } :=
    I.call (ch := []) (Un.laid k hp hn) (I.hok.laid k hp ⟨hlen, out.toList, c, vals_of_strs hst, hg⟩) (by rw [g]; exact I.bare) (fun _ z => nomatch z)
  have e : s' = { s with heap := s'.heap, gens := s'.gens, drawn := s'.drawn, toks := s'.toks } := by
    cases s'
    cases s
    cases o
    rfl
  rw [e]
  exact ⟨.ref p, _, J, rfl, q ys p pm srt hn⟩
end
end STx
/-! ## OwnOps -/
set_option maxHeartbeats 2000000
/-! Own classes: properties, methods, operators, by FnR, the class told in the reading. -/
namespace Own
open PySem PySem.Spec PyProof.Rows L2
open Sem (wp)
/-- an instance of the class at C -/
def IsI (H : Hp) (a C : Addr) : Prop := ∃ dx fs, H a = some (.ins C dx fs)
section
variable {M : Model} {K : PySem.W.Frag} {C : Addr} {h : Heap} {nm : String}
theorem noNum_looks (X : K.In h) (e : noNum K C nm = true) : PySem.W.Looks M h (fillsNumberSlot (.ref C) nm) false := by
  unfold noNum at e
  cases hc : PySem.W.clsIn K C with
  | none => rw [hc] at e; cases e
  | some cd =>
    rw [hc] at e
    have e : (cd.mro.all fun c => decide (PySem.W.findIn K c (PySem.dunder nm) = some none) && decide (PySem.W.findIn K c (dunderR nm) = some none)) = true := e
    intro A Q E s k q
    unfold fillsNumberSlot
    refine wpAny_bind ((PySem.W.looks_clsIn X hc).andThen (f := fun cd => pure cd.mro) .now A _ E s k ?_)
    generalize cd.mro = l at e
    induction l with
    | nil => rw [List.anyM_nil]; exact wpAny_pure q
    | cons c l ih =>
      rw [List.all_cons, Bool.and_eq_true, Bool.and_eq_true, decide_eq_true_eq, decide_eq_true_eq] at e
      obtain ⟨⟨e1, e2⟩, e3⟩ := e
      rw [List.anyM_cons]
      have nxt := ih e3
      have l1 := PySem.W.looks_findIn (M := M) X e1
      have l2 := PySem.W.looks_findIn (M := M) X e2
      cases c with
      | type n =>
        refine wpAny_bind (wpAny_bind (l1 A _ E s k (wpAny_bind (l2 A _ E s k (wpAny_pure ?_)))))
        exact nxt
      | _ =>
        refine wpAny_bind ?_
        show wpAny M A (List.anyM _ [PySem.dunder nm, dunderR nm]) _ _ _
        rw [List.anyM_cons]
        refine wpAny_bind (wpAny_bind (l1 A _ E s k (wpAny_pure ?_)))
        simp only [Bool.false_eq_true, if_false]
        rw [List.anyM_cons]
        refine wpAny_bind (wpAny_bind (l2 A _ E s k (wpAny_pure ?_)))
        simp only [Bool.false_eq_true, if_false]
        rw [List.anyM_nil]
        refine wpAny_pure ?_
        exact nxt
end
section
variable {prog : Program} {w : World} {A : Around} {E : Value → Shared → Prop} {s : Shared} {K : PySem.W.Frag} {x C C' L f : Addr} {h₀ : Heap} {m : Str → Option Value} {ox : Obj} {od : Option Obj} {b : Value}
/-- x op b, b of a class without such an operator -/
theorem binop_X {op : Operator} {Q : Value → Shared → Prop} (X : K.In s.heap) (I : PySem.W.InstAt s.heap x ox C od) (hb : PySem.W.Looks (model prog w) s.heap (typeOf b) (.ref C')) (hne : C ≠ C') (hno : noNum K C' op.info.2 = true) (hc : PySem.W.selfFirst K C = true)
    (hs : PySem.W.findIn K (.ref C) (PySem.dunder op.info.2) = some (some (.ref f))) (hf : PySem.W.isFn K (.ref f) = true)
    (h : wpAny (model prog w) A (call (.ref f) [.ref x, b]) (PySem.W.CmpBack Q) E s) : wpAny (model prog w) A (binaryOp op (.ref x) b) Q E s := by
  obtain ⟨cd, hcd, hm⟩ := PySem.W.any_some hc
  obtain ⟨rest, hm⟩ : ∃ rest, cd.mro = .ref C :: rest := by
    cases q : cd.mro with
    | nil => rw [q] at hm; cases hm
    | cons a r => rw [q] at hm; exact ⟨r, by rw [List.head?_cons] at hm; cases (beq_iff_eq.mp hm); rfl⟩
  have hneq : (Value.ref C == Value.ref C') = false := by simp [hne]
  unfold binaryOp
  refine wpAny_holding (wpAny_bind ?_)
  unfold binaryOp1
  refine wpAny_bind (I.type.here (wpAny_bind (hb.here (wpAny_bind ((PySem.W.fills_K X hcd hm hs).here ?_)))))
  simp only [hneq, Bool.false_eq_true, if_false]
  refine wpAny_bind ((noNum_looks X hno).here ?_)
  simp only [Bool.and_false, Bool.false_eq_true, if_false, Bool.false_and]
  refine wpAny_bind (wpAny_pure ?_)
  simp only [Bool.false_eq_true, if_false]
  refine wpAny_bind (m := tryMethod (.ref x) _ b) ?_
  unfold tryMethod
  refine wpAny_bind (PySem.W.special_fn X I hs (beq_iff_eq.mp hf) (wpAny_mono h (fun v s' hv => ?_) fun _ _ e => e))
  cases v <;> first | exact hv.elim | exact wpAny_pure (wpAny_pure (wpAny_pure hv))
/-- x != y by an own __eq__ that answers a bool -/
theorem ne_X {y : Addr} {oy : Obj} {ody : Option Obj} {Q : Value → Shared → Prop} (hu : A.units + 1 < cLine) (X : K.In s.heap) (I : PySem.W.InstAt s.heap x ox C od) (J : PySem.W.InstAt s.heap y oy C ody)
    (hn : PySem.W.findIn K (.ref C) "__ne__" = some (some (.builtin "object.__ne__"))) (ho : PySem.W.mroIn K C (.type "object") = some true) (hs : PySem.W.findIn K (.ref C) "__eq__" = some (some (.ref f))) (hf : PySem.W.isFn K (.ref f) = true)
    (h : wpAny (model prog w) A.in1 (call (.ref f) [.ref x, .ref y]) (fun v s' => ∃ b, v = .bool b ∧ Q (.bool (!b)) s') E s) : wpAny (model prog w) A (compareOp .NotEq (.ref x) (.ref y)) Q E s := by
  have S := PySem.F.slot_object_ne
  have entry : wpAny (model prog w) A (call (.builtin "object.__ne__") [.ref x, .ref y]) (fun v s' => ∃ b, v = .bool b ∧ Q v s') E s := by
    refine wpAny_call (codeAny_call_builtin S.plain F.cmpEntry_ne (PySem.W.check_slot F.cmpKind_ne F.cmpSplit_ne (I.type.andThen (PySem.W.looks_mroIn X ho)) (F.cmpArgs_ne _ _) ?_))
    unfold Builtin.«object.__ne__»
    refine wpAny_bind (m := slotArgs _ _ _) (wpAny_pure ?_)
    refine wpAny_bind (wpAny_cRoomFor (by exact hu) ?_)
    refine wpAny_bind (m := callSpecialIfBound? (.ref x) (Str.ofString "__eq__") [.ref y]) (PySem.W.ifBound_K X I hs hf (wpAny_mono h (fun v s' hv => ?_) fun _ _ e => e))
    obtain ⟨b, rfl, q⟩ := hv
    refine wpAny_bind (m := truthy (.bool b)) (wpAny_truthy_bool ?_)
    exact wpAny_pure ⟨_, rfl, q⟩
  show wpAny (model prog w) A (richCompare .NotEq (.ref x) (.ref y)) Q E s
  unfold richCompare
  simp only [oneThing_ref]
  refine wpAny_holding (wpAny_bind (wpAny_cRoomFor (Nat.lt_of_succ_lt hu) ?_))
  rw [cmpInfo_NotEq]
  dsimp only
  refine wpAny_bind (I.type.here (wpAny_bind (J.type.here ?_)))
  rw [show (Value.ref C != Value.ref C) = false from by simp]
  simp only [Bool.false_eq_true, if_false]
  refine wpAny_bind (wpAny_pure ?_)
  simp only [Bool.false_eq_true, if_false]
  refine wpAny_bind (m := tryCompare (.ref x) (Str.ofString "__ne__") (.ref y)) ?_
  unfold tryCompare
  refine wpAny_bind ?_
  simp only [callSpecialIfBound?, bindSpecialIfBound?]
  refine wpAny_holding (wpAny_bind (wpAny_bind (wpAny_bind (I.type.here ((PySem.W.looks_findIn X hn).here ?_)))))
  simp only [S.bind]
  refine wpAny_bind (wpAny_askSetting (wpAny_ite ?_))
  have fin : ∀ {R : Option Value → Shared → Prop}, (∀ b s', Q (.bool b) s' → R (some (.bool b)) s') → wpAny (model prog w) A (call (.builtin "object.__ne__") ([.ref x] ++ [.ref y]) >>= fun v => pure (some v)) R E s := fun {R} hR =>
    wpAny_bind (wpAny_mono entry (fun v s' ⟨b, e, q⟩ => wpAny_pure (by rw [e]; exact hR b s' (by rw [← e]; exact q))) fun _ _ h' => h')
  split
  · exact wpAny_bind (wpAny_pure (wpAny_pure (fin fun b s' q => wpAny_pure (wpAny_pure q))))
  · exact wpAny_tryCatch (wpAny_bind (wpAny_pure (wpAny_pure (fin fun b s' q => wpAny_pure (wpAny_pure q)))))
end
/-! ### rules -/
theorem rr (a : Addr) : RelV (.ref a) (.ref a) := rfl
section
variable {X : Cx} {k : Nat} {C g p : Addr} {sp : Sp} {pins : List (Addr × Obj)} {σ : L2.St} {H : Hp} {s : Shared}
abbrev FR (X : Cx) (k : Nat) (g : Addr) (sp : Sp) : Prop := FnR X.prog X.w X.K X.mg X.base CX0 k g sp
/-- an own function runs somewhere below -/
theorem run_b {A : Around} {E' : Value → Shared → Prop} {Q : VK} {us : List Value} {ws : List V} (F : FR X k g sp) (hr : Room k A) (hA : A.frames = X.A.frames) (I : Inv X pins σ H s) (r : Vals ws us) (h : sp ws H Q E0) :
    wpAny (model X.prog X.w) A (call (.ref g) us) (EP X pins σ Q) E' s := by
  have e0 : Env0 X.prog X.w X.K X.mg X.base A X.stack s H := by
    have e := I.env0
    exact ⟨by rw [hA]; exact e.frames, e.mod, e.bs, e.bsz, e.funs, e.frf, e.hok, e.bare⟩
  refine wpAny_call (codeAny_mono (F A X.stack s H us ws Q E0 hr e0 r h) fun r s' hq => ?_)
  cases r with
  | error e => exact False.elim hq
  | ok fl =>
    cases fl with
    | ret u => exact I.after hq
    | next => exact False.elim hq
    | brk => exact False.elim hq
    | cont => exact False.elim hq
theorem ii (I : Inv X pins σ H s) {a : Addr} (h : IsI H a C) : ∃ ox od, PySem.W.InstAt s.heap a ox C (some od) := by
  obtain ⟨dx, fs, e⟩ := h
  obtain ⟨mA, O, _⟩ := ins_get I.hok e
  obtain ⟨od, J, _⟩ := O.look
  exact ⟨_, od, J⟩
/-- a op b of one class with an own operator, or b of a class without -/
structure BinC (K : PySem.W.Frag) (C g : Addr) (op : Operator) : Prop where
  first : PySem.W.selfFirst K C = true
  at_ : PySem.W.findIn K (.ref C) (PySem.dunder op.info.2) = some (some (.ref g))
  fn : PySem.W.isFn K (.ref g) = true
def rBin (K : PySem.W.Frag) (C : Addr) (op : Operator) (sp : Sp) : R2 := fun x y H Q => ∃ a b C', x = .ref a ∧ y = .ref b ∧ IsI H a C ∧ IsI H b C' ∧ (C' = C ∨ (C ≠ C' ∧ noNum K C' op.info.2 = true)) ∧ Sat sp [x, y] H Q
theorem op_bin {op : Operator} (B : BinC X.K C g op) (F : FR X k g sp) (hr : Room k X.A) : OpR X (binaryOp op) (rBin X.K C op sp) := by
  intro pins s σ H x y v u Q I rx ry h
  obtain ⟨a, b, C', rfl, rfl, ha, hb, hc, q⟩ := h
  cases (show v = Value.ref a from rx)
  cases (show u = Value.ref b from ry)
  obtain ⟨ox, od, J⟩ := ii I ha
  obtain ⟨oy, ody, J'⟩ := ii I hb
  have run : wpAny (model X.prog X.w) X.A (call (.ref g) [.ref a, .ref b]) (PySem.W.CmpBack (EP X pins σ Q)) X.xe s :=
    wpAny_mono (run_b F hr rfl I (.cons (rr _) (.cons (rr _) .nil)) q.out) (fun w s' ⟨z, H', I', rz, qz⟩ => SlX.cmpback rz ⟨z, H', I', rz, qz⟩) fun _ _ z => z
  rcases hc with e | ⟨hne, hno⟩
  · subst e
    obtain ⟨m, hF⟩ := I.fr
    exact PySem.W.binop_K hF I.ok.mod.kin J J'.type B.first B.at_ B.fn run
  · exact binop_X I.kIn J J'.type hne hno B.first B.at_ B.fn run
/-- a <= b .. of one class -/
def rCmp (C : Addr) (sp : Sp) : R2 := fun x y H Q => ∃ a b, x = .ref a ∧ y = .ref b ∧ IsI H a C ∧ IsI H b C ∧ Sat sp [x, y] H Q
theorem op_cmp {op : CmpOp} (hop : ∀ a b, compareOp op a b = richCompare op a b) (hs : PySem.W.findIn X.K (.ref C) (cmpInfo op).2.1 = some (some (.ref g))) (hf : PySem.W.isFn X.K (.ref g) = true) (F : FR X k g sp) (hr : Room k X.A) : OpR X (compareOp op) (rCmp C sp) := by
  intro pins s σ H x y v u Q I rx ry h
  obtain ⟨a, b, rfl, rfl, ha, hb, q⟩ := h
  cases (show v = Value.ref a from rx)
  cases (show u = Value.ref b from ry)
  obtain ⟨ox, od, J⟩ := ii I ha
  obtain ⟨oy, ody, J'⟩ := ii I hb
  obtain ⟨m, hF⟩ := I.fr
  rw [hop]
  exact PySem.W.cmp_K (op := op) (tb := .ref C) hr.units0 hF I.ok.mod.kin J J'.type (by simp [PySem.W.notFirst]) hs hf
    (wpAny_mono (run_b F hr rfl I (.cons (rr _) (.cons (rr _) .nil)) q.out) (fun w s' ⟨z, H', I', rz, qz⟩ => SlX.cmpback rz ⟨z, H', I', rz, qz⟩) fun _ _ z => z)
/-- a class whose own == is at g, without != -/
structure EqC (K : PySem.W.Frag) (C g : Addr) : Prop where
  ne : PySem.W.findIn K (.ref C) "__ne__" = some (some (.builtin "object.__ne__"))
  ob : PySem.W.mroIn K C (.type "object") = some true
  at_ : PySem.W.findIn K (.ref C) "__eq__" = some (some (.ref g))
  fn : PySem.W.isFn K (.ref g) = true
/-- a != b, both of one class, T: which classes -/
def rNe (T : Addr → Prop) (sp : Addr → Sp) : R2 := fun x y H Q => ∃ a b C, x = .ref a ∧ y = .ref b ∧ T C ∧ IsI H a C ∧ IsI H b C ∧ Sat (sp C) [x, y] H (fun z H' => ∃ t, z = .bl t ∧ Q (.bl (!t)) H')
theorem op_ne {T : Addr → Prop} {sp : Addr → Sp} (F : ∀ C, T C → ∃ g, EqC X.K C g ∧ FR X k g (sp C)) (hr : Room (k + 1) X.A) : OpR X (compareOp .NotEq) (rNe T sp) := by
  intro pins s σ H x y v u Q I rx ry h
  obtain ⟨a, b, C, rfl, rfl, hT, ha, hb, q⟩ := h
  cases (show v = Value.ref a from rx)
  cases (show u = Value.ref b from ry)
  obtain ⟨g, B, Fg⟩ := F C hT
  obtain ⟨ox, od, J⟩ := ii I ha
  obtain ⟨oy, ody, J'⟩ := ii I hb
  refine ne_X (oy := oy) (by have := hr.un; omega) I.kIn J ⟨J'.at_, J'.cls, J'.no, J'.dict⟩ B.ne B.ob B.at_ B.fn (wpAny_mono (run_b Fg hr.in1 rfl I (.cons (rr _) (.cons (rr _)  .nil)) q.out) (fun w s' hz => ?_) fun _ _ z => z)
  obtain ⟨z, H', I', rz, t, rfl, qz⟩ := hz
  cases (show w = Value.bool t from rz)
  exact ⟨t, rfl, .bl (!t), H', I', rfl, qz⟩
/-- x in o, x not in o, by an own __contains__ that answers a bool -/
def rIn (C : Addr) (sp : Sp) (neg : Bool) : R2 := fun x y H Q => ∃ b, y = .ref b ∧ IsI H b C ∧ Sat sp [y, x] H (fun z H' => ∃ t, z = .bl t ∧ Q (.bl (if neg then !t else t)) H')
theorem op_in (hs : PySem.W.findIn X.K (.ref C) "__contains__" = some (some (.ref g))) (hf : PySem.W.isFn X.K (.ref g) = true) (F : FR X k g sp) (hr : Room k X.A) : OpR X (compareOp .In) (rIn C sp false) := by
  intro pins s σ H x y v u Q I rx ry h
  obtain ⟨b, rfl, hb, q⟩ := h
  cases (show u = Value.ref b from ry)
  obtain ⟨oy, ody, J'⟩ := ii I hb
  obtain ⟨m, hF⟩ := I.fr
  refine PySem.W.in_K hF I.ok.mod.kin J' hs hf (wpAny_mono (run_b F hr rfl I (.cons (rr _) (.cons rx  .nil)) q.out) (fun w s' hz => ?_) fun _ _ z => z)
  obtain ⟨z, H', I', rz, t, rfl, qz⟩ := hz
  cases (show w = Value.bool t from rz)
  exact wpAny_truthy_bool ⟨.bl t, H', I', rfl, qz⟩
theorem op_notIn (hs : PySem.W.findIn X.K (.ref C) "__contains__" = some (some (.ref g))) (hf : PySem.W.isFn X.K (.ref g) = true) (F : FR X k g sp) (hr : Room k X.A) : OpR X (compareOp .NotIn) (rIn C sp true) := by
  intro pins s σ H x y v u Q I rx ry h
  obtain ⟨b, rfl, hb, q⟩ := h
  cases (show u = Value.ref b from ry)
  obtain ⟨oy, ody, J'⟩ := ii I hb
  obtain ⟨m, hF⟩ := I.fr
  refine PySem.W.notIn_K hF I.ok.mod.kin J' hs hf (wpAny_mono (run_b F hr rfl I (.cons (rr _) (.cons rx  .nil)) q.out) (fun w s' hz => ?_) fun _ _ z => z)
  obtain ⟨z, H', I', rz, t, rfl, qz⟩ := hz
  cases (show w = Value.bool t from rz)
  exact wpAny_truthy_bool ⟨.bl (!t), H', I', rfl, qz⟩
/-- o[i] by an own __getitem__ -/
def rGet (C : Addr) (sp : Sp) : R2 := fun x y H Q => ∃ a, x = .ref a ∧ IsI H a C ∧ Sat sp [x, y] H Q
theorem pe_get {a b : Expr} {ta tb : TE} {pos : Pos} (hs : PySem.W.findIn X.K (.ref C) "__getitem__" = some (some (.ref g))) (hf : PySem.W.fnIn X.K g = true) (hfn : PySem.W.isFn X.K (.ref g) = true) (F : FR X k g sp) (hr : Room (k + 1) X.A) (ha : PE X a ta) (hb : PE X b tb)
    (hsl : ∀ x i, subscripted b true (.ref x) i = runValue (.builtin "lifetime.subscript" ⟨[.ref x, i], []⟩)) : PE X (.Subscript a b pos) (tOp (rGet C sp) ta tb) := by
  refine ⟨fun pins s σ H Q I h => ?_⟩
  refine Subscript_ (binT ha hb I h fun v u s2 x y H2 I2 rx ry q => ?_)
  obtain ⟨c, rfl, hc, q⟩ := q
  cases (show v = Value.ref c from rx)
  obtain ⟨oy, ody, J'⟩ := ii I2 hc
  obtain ⟨m, hF⟩ := I2.fr
  exact PySem.W.sub_K hF I2.ok.mod.kin J' hs hf hfn (run_b F hr.in1 rfl I2 (.cons (rr _) (.cons ry .nil)) q.out) (hsl _ _)
/-- len(o) -/
def rLenO (C : Addr) (sp : Sp) : List V → Hp → VK → Prop := fun xs H Q => ∃ a, xs = [V.ref a] ∧ IsI H a C ∧ Sat sp [.ref a] H (fun z H' => ∃ n : Nat, z = .int n ∧ n < 2 ^ 62 ∧ Q (.int n) H')
theorem cr_lenO (hs : PySem.W.findIn X.K (.ref C) "__len__" = some (some (.ref g))) (hf : PySem.W.isFn X.K (.ref g) = true) (F : FR X k g sp) (hr : Room (k + 1) X.A) : CallR X (.builtin "len") (rLenO C sp) := by
  intro pins s σ H xs us Q I r h
  obtain ⟨a, rfl, ha, q⟩ := h
  rw [Vals.ref1 r]
  obtain ⟨oy, ody, J⟩ := ii I ha
  obtain ⟨m, hF⟩ := I.fr
  refine PySem.W.len_K hF I.ok.mod.kin J hs hf (wpAny_mono (run_b F hr.in1 rfl I (.cons (rr _) .nil) q.out) (fun w s' hz => ?_) fun _ _ z => z)
  obtain ⟨z, H', I', rz, n, rfl, hn, qz⟩ := hz
  obtain ⟨t, e⟩ := (show ∃ t, w = Value.int n t from rz)
  cases e
  exact ⟨⟨by omega, by omega⟩, .int n, H', I'.tok _, ⟨_, rfl⟩, qz⟩
/-- str(o) -/
def rStrO (C : Addr) (sp : Sp) : List V → Hp → VK → Prop := fun xs H Q => ∃ a, xs = [V.ref a] ∧ IsI H a C ∧ Sat sp [.ref a] H (fun z H' => ∃ x, z = .str x ∧ Q z H')
theorem cr_strO (hs : PySem.W.findIn X.K (.ref C) "__str__" = some (some (.ref g))) (hf : PySem.W.isFn X.K (.ref g) = true) (F : FR X k g sp) (hr : Room (k + 2) X.A) : CallR X (.type "str") (rStrO C sp) := by
  intro pins s σ H xs us Q I r h
  obtain ⟨a, rfl, ha, q⟩ := h
  rw [Vals.ref1 r]
  obtain ⟨oy, ody, J⟩ := ii I ha
  have hr2 : Room k X.A.in1.in1 := (show Room (k + 1) X.A.in1 from Room.in1 hr).in1
  refine PySem.W.kso_call hr2.units0 I.kIn J hs hf (wpAny_mono (run_b F hr2 rfl I (.cons (rr _) .nil) q.out) (fun w s' hz => ?_) fun _ _ z => z)
  obtain ⟨z, H', I', rz, y, rfl, qz⟩ := hz
  obtain ⟨t, e⟩ := (show ∃ t, w = Value.str y t from rz)
  cases e
  exact ⟨.str y, H', I', ⟨_, rfl⟩, qz⟩
/-- e.f, a property with the getter at g -/
def tProp (K : PySem.W.Frag) (f : Str) (p g : Addr) (sp : Sp) (ta : TE) : TE := fun σ H Q => ta σ H fun x H1 => ∃ a C, x = .ref a ∧ IsI H1 a C ∧ Cls K C ∧ PropOf K C f p g ∧ Sat sp [.ref a] H1 Q
theorem pe_prop {e : Expr} {f : Str} {ta : TE} {pos : Pos} (he : PE X e ta) (F : FR X k g sp) (hr : Room (k + 1) X.A) (hab : attributeBase e f X.env (eval e X.env) = eval e X.env := by rfl) : PE X (.Attribute e f pos) (tProp X.K f p g sp ta) := by
  refine ⟨fun pins s σ H Q I h => ?_⟩
  refine attr_of hab (thn (he.run pins s σ H _ I h) fun u s1 ⟨x, H1, I1, rx, a, C, ex, hi, c, hp, q⟩ => ?_)
  subst ex
  obtain rfl : u = Value.ref a := rx
  obtain ⟨ox, od, J⟩ := ii I1 hi
  obtain ⟨rest, hrec⟩ := hp.rec_
  have I2 := I1.tok (s1.toks + 1)
  have hc : (PySem.W.clsIn X.K C).isSome = true := by
    obtain ⟨cd, hc, _⟩ := PySem.W.any_some c.hd
    rw [hc]
    rfl
  refine PySem.W.get_bind I1.kIn J (PySem.W.plainGet_of (c.get f)).1 (PySem.W.findObj_data hc hp.at_ hp.get hp.tak) (PySem.W.plainGet_of (c.get f)).2 (wpAny_call (PySem.W.prop_get (s := { s1 with toks := s1.toks + 1 }) I1.kIn hrec ?_))
  have e0 := I2.env0.in1
  refine codeAny_mono (F X.A.in1 X.stack { s1 with toks := s1.toks + 1 } H1 [.ref a] [.ref a] Q E0 hr.in1 e0 (.cons rfl .nil) q.out) fun r s' hq => ?_
  cases r with
  | error er => exact False.elim hq
  | ok fl =>
    cases fl with
    | ret u =>
      obtain ⟨v, H', I3, rv, q3⟩ := I2.after hq
      show wpAny _ _ (handedOut u) _ _ _
      rw [PySem.W.handedOut_of (handed_of rv)]
      exact wpAny_pure ⟨v, H', I3, rv, q3⟩
    | next => exact False.elim hq
    | brk => exact False.elim hq
    | cont => exact False.elim hq
/-- o.m(e, ..), o.m() -/
def tMeth (K : PySem.W.Frag) (m : Str) (g : Addr) (sp : Sp) (ta : TE) (t : TA) : TE := fun σ H Q => ta σ H fun x H1 => ∃ a C dx fs, x = .ref a ∧ H1 a = some (.ins C dx fs) ∧ Cls K C ∧ L2.Meth K C m g ∧ fs.lookup m = none ∧ t σ H1 fun vs H2 => Sat sp (x :: vs) H2 Q
theorem pe_meth {m : Str} {o e : Expr} {es : List Expr} {ta : TE} {t : TA} {apos pos : Pos} {pl : Sem Bool} (he : PE X o ta) (F : FR X k g sp) (hr : Room k X.A) (ha : PA X (e :: es) t)
    (hst : starEach (e :: es) X.env = (false, eval e X.env) :: starEach es X.env := by rfl) (hpl : (backTo pos (starEach es X.env)).any (·.1) = false := by rfl)
    (ht : eval (.Call (.Attribute o m apos) (e :: es) [] pos) X.env = (do
      let ov ← eval o X.env
      standAt apos.atName
      let (f, first) ← holding [ov] (getMethod ov m pl)
      callWith pos f first (backTo pos (starEach (e :: es) X.env)) (backToKw pos (keywordEach [] X.env))) := by rfl) :
    PE X (.Call (.Attribute o m apos) (e :: es) [] pos) (tMeth X.K m g sp ta t) := by
  refine ⟨fun pins s σ H Q I h => ?_⟩
  refine PySem.W.methodCall_KW (pl := pl) (thn (he.run pins s σ H _ I h) fun u s1 ⟨x, H1, I1, rx, a, C, dx, fs, ex, ea, c, hm, l, q⟩ => ?_) ht
  subst ex
  obtain rfl : u = Value.ref a := rx
  refine getmeth_ok I1 ea c hm l ?_
  refine PySem.W.callWith_K (first := [.ref a]) (h₀ := X.base) I.ok.mod.kin hm.kp (thn (ha.run pos pins s1 σ H1 _ I1 q) fun us s2 ⟨vs, H2, I2, r, q2⟩ => ⟨I2.kIn, ?_⟩) hst hpl
  exact run_b (us := .ref a :: us) (ws := .ref a :: vs) F hr rfl I2 (.cons rfl r) q2.out
theorem pe_meth0 {m : Str} {o : Expr} {ta : TE} {apos pos : Pos} {pl : Sem Bool} (he : PE X o ta) (F : FR X k g sp) (hr : Room k X.A)
    (ht : eval (.Call (.Attribute o m apos) [] [] pos) X.env = (do
      let ov ← eval o X.env
      standAt apos.atName
      let (f, first) ← holding [ov] (getMethod ov m pl)
      callWith pos f first (backTo pos (starEach [] X.env)) (backToKw pos (keywordEach [] X.env))) := by rfl) :
    PE X (.Call (.Attribute o m apos) [] [] pos) (tMeth X.K m g sp ta tNil) := by
  refine ⟨fun pins s σ H Q I h => ?_⟩
  refine PySem.W.methodCall_KW (pl := pl) (thn (he.run pins s σ H _ I h) fun u s1 ⟨x, H1, I1, rx, a, C, dx, fs, ex, ea, c, hm, l, q⟩ => ?_) ht
  subst ex
  obtain rfl : u = Value.ref a := rx
  refine getmeth_ok I1 ea c hm l ?_
  exact PySem.W.callWith_K0 (first := [.ref a]) I1.kIn hm.kp (run_b (us := [.ref a]) (ws := [.ref a]) F hr rfl I1 (.cons rfl .nil) q.out)
/-- f(e, ..), f a def of the module -/
def tCallF (sp : Sp) (t : TA) : TE := fun σ H Q => t σ H fun vs H1 => Sat sp vs H1 Q
theorem pe_call {x : Str} {e : Expr} {es : List Expr} {t : TA} {p pos : Pos} (F : FR X k g sp) (hr : Room k X.A) (hg : Gl X x) (hm : X.mg x = some (.ref g)) (hk : PySem.W.keepIn X.K (.ref g) = true) (ha : PA X (e :: es) t) (hdb : (x == ("__debug__" : Str)) = false := by decide)
    (he : starEach (e :: es) X.env = (false, eval e X.env) :: starEach es X.env := by rfl) (hpl : (backTo pos (starEach es X.env)).any (·.1) = false := by rfl) : PE X (.Call (.Name x p) (e :: es) [] pos) (tCallF sp t) := by
  refine ⟨fun pins s σ H Q I h => ?_⟩
  refine wpAny_Call_Name_kw (ld_glob I hg hm ?_ hdb)
  refine PySem.W.callWith_K (h₀ := X.base) I.ok.mod.kin hk (thn (ha.run pos pins s σ H _ I h) fun us s1 ⟨vs, H1, I1, r, q⟩ => ⟨I1.kIn, ?_⟩) he hpl
  exact run_b F hr rfl I1 r q.out
end
end Own
/-! ## Txt0 -/
/-! The text's parts. -/
namespace Tx
open PySem PySem.Spec PyProof.Rows L2
/-- a def with the cell __class__ -/
structure FunS (K : PySem.W.Frag) (x qual : Str) (params : Arguments) (body : List Stmt) (scope : Scope) (dvs : List V) (f cc cda : Addr) : Prop where
  ex : ∃ (oc : Value) (od : Option Addr) (dV kV doc pm : Value) (an : Option Addr) (ct : Value) (osl : Array (Option Value)),
    K.lookup f = some ⟨oc, od, .func (PySem.W.ksFn x qual params body scope dV kV doc pm an (.ref cda) ct cc), osl⟩ ∧ PySem.W.codeIn K (.ref cda) qual = true ∧ DflV K dV dvs
/-- what isinstance asks of a class -/
structure TyC (K : PySem.W.Frag) (C : Addr) : Prop where
  ha : PySem.W.findIn K (.ref C) "__class__" = some (some (.builtin "object.__class__"))
  hn : PySem.W.specialIn K (.builtin "object.__class__") "__get__" = some (some (.builtin "getset_descriptor.__get__"))
  ht : PySem.W.takesIn K (.builtin "object.__class__") = some true
  hm : PySem.W.mroIn K C (.type "object") = some true
/-- an own def for an operator's name -/
structure OpC (K : PySem.W.Frag) (C : Addr) (m : Str) (g : Addr) : Prop where
  at_ : PySem.W.findIn K (.ref C) m = some (some (.ref g))
  fn : PySem.W.isFn K (.ref g) = true
  fi : PySem.W.fnIn K g = true
structure Txt (K : PySem.W.Frag) (mg : Str → Option Value) : Prop where
  g_Place : mg "Place" = some (.ref (He.ga K "Place"))
  g_Signs : mg "Signs" = some (.ref (He.ga K "Signs"))
  g_Street : mg "Street" = some (.ref (He.ga K "Street"))
  g_Settled : mg "Settled" = some (.ref (He.ga K "Settled"))
  g_Even : mg "Even" = some (.ref (He.ga K "Even"))
  g_Lane : mg "Lane" = some (.ref (He.ga K "Lane"))
  g_Avenue : mg "Avenue" = some (.ref (He.ga K "Avenue"))
  g_Road : mg "Road" = some (.ref (He.ga K "Road"))
  g_Ward : mg "Ward" = some (.ref (He.ga K "Ward"))
  g_Town : mg "Town" = some (.ref (He.ga K "Town"))
  g_is_int : mg "is_int" = some (.ref (He.ga K "is_int"))
  g_is_between : mg "is_between" = some (.ref (He.ga K "is_between"))
  g_is_name : mg "is_name" = some (.ref (He.ga K "is_name"))
  g_is_price : mg "is_price" = some (.ref (He.ga K "is_price"))
  g_is_need : mg "is_need" = some (.ref (He.ga K "is_need"))
  g_is_sign : mg "is_sign" = some (.ref (He.ga K "is_sign"))
  g_need_ends : mg "need_ends" = some (.ref (He.ga K "need_ends"))
  g_need_prices : mg "need_prices" = some (.ref (He.ga K "need_prices"))
  g_need_place : mg "need_place" = some (.ref (He.ga K "need_place"))
  g_gathered : mg "gathered" = some (.ref (He.ga K "gathered"))
  g_picks : mg "picks" = some (.ref (He.ga K "picks"))
  g_need_town : mg "need_town" = some (.ref (He.ga K "need_town"))
  g_need_fit : mg "need_fit" = some (.ref (He.ga K "need_fit"))
  g_need_need : mg "need_need" = some (.ref (He.ga K "need_need"))
  g_need_ward : mg "need_ward" = some (.ref (He.ga K "need_ward"))
  g_need_streets : mg "need_streets" = some (.ref (He.ga K "need_streets"))
  g_arcs : mg "arcs" = some (.ref (He.ga K "arcs"))
  g_count_into : mg "count_into" = some (.ref (He.ga K "count_into"))
  g_into : mg "into" = some (.ref (He.ga K "into"))
  g_weakest : mg "weakest" = some (.ref (He.ga K "weakest"))
  g_is_good : mg "is_good" = some (.ref (He.ga K "is_good"))
  g_need_good : mg "need_good" = some (.ref (He.ga K "need_good"))
  g_narrow_wards : mg "narrow_wards" = some (.ref (He.ga K "narrow_wards"))
  g__law_pen : mg "_law_pen" = some (.ref (He.ga K "_law_pen"))
  g__law_draw : mg "_law_draw" = some (.ref (He.ga K "_law_draw"))
  g__law_pick : mg "_law_pick" = some (.ref (He.ga K "_law_pick"))
  g__law_titles : mg "_law_titles" = some (.ref (He.ga K "_law_titles"))
  g__law_pairs : mg "_law_pairs" = some (.ref (He.ga K "_law_pairs"))
  g__law_price : mg "_law_price" = some (.ref (He.ga K "_law_price"))
  g__law_site : mg "_law_site" = some (.ref (He.ga K "_law_site"))
  g__law_town : mg "_law_town" = some (.ref (He.ga K "_law_town"))
  g__law_told : mg "_law_told" = some (.ref (He.ga K "_law_told"))
  g__law_bent : mg "_law_bent" = some (.ref (He.ga K "_law_bent"))
  g__law_triples : mg "_law_triples" = some (.ref (He.ga K "_law_triples"))
  g__law_spots : mg "_law_spots" = some (.ref (He.ga K "_law_spots"))
  g__law_groups : mg "_law_groups" = some (.ref (He.ga K "_law_groups"))
  g__law_enter : mg "_law_enter" = some (.ref (He.ga K "_law_enter"))
  g__law_weakest : mg "_law_weakest" = some (.ref (He.ga K "_law_weakest"))
  g__law_cross : mg "_law_cross" = some (.ref (He.ga K "_law_cross"))
  g_law : mg "law" = some (.ref (He.ga K "law"))
  k_Signs : PySem.W.keepIn K (.ref (He.ga K "Signs")) = true
  k_Lane : PySem.W.keepIn K (.ref (He.ga K "Lane")) = true
  k_Avenue : PySem.W.keepIn K (.ref (He.ga K "Avenue")) = true
  k_Road : PySem.W.keepIn K (.ref (He.ga K "Road")) = true
  k_Ward : PySem.W.keepIn K (.ref (He.ga K "Ward")) = true
  k_Town : PySem.W.keepIn K (.ref (He.ga K "Town")) = true
  k_is_int : PySem.W.keepIn K (.ref (He.ga K "is_int")) = true
  k_is_between : PySem.W.keepIn K (.ref (He.ga K "is_between")) = true
  k_is_name : PySem.W.keepIn K (.ref (He.ga K "is_name")) = true
  k_is_price : PySem.W.keepIn K (.ref (He.ga K "is_price")) = true
  k_is_need : PySem.W.keepIn K (.ref (He.ga K "is_need")) = true
  k_is_sign : PySem.W.keepIn K (.ref (He.ga K "is_sign")) = true
  k_need_ends : PySem.W.keepIn K (.ref (He.ga K "need_ends")) = true
  k_need_prices : PySem.W.keepIn K (.ref (He.ga K "need_prices")) = true
  k_need_place : PySem.W.keepIn K (.ref (He.ga K "need_place")) = true
  k_gathered : PySem.W.keepIn K (.ref (He.ga K "gathered")) = true
  k_picks : PySem.W.keepIn K (.ref (He.ga K "picks")) = true
  k_need_town : PySem.W.keepIn K (.ref (He.ga K "need_town")) = true
  k_need_fit : PySem.W.keepIn K (.ref (He.ga K "need_fit")) = true
  k_need_need : PySem.W.keepIn K (.ref (He.ga K "need_need")) = true
  k_need_ward : PySem.W.keepIn K (.ref (He.ga K "need_ward")) = true
  k_need_streets : PySem.W.keepIn K (.ref (He.ga K "need_streets")) = true
  k_arcs : PySem.W.keepIn K (.ref (He.ga K "arcs")) = true
  k_count_into : PySem.W.keepIn K (.ref (He.ga K "count_into")) = true
  k_into : PySem.W.keepIn K (.ref (He.ga K "into")) = true
  k_weakest : PySem.W.keepIn K (.ref (He.ga K "weakest")) = true
  k_is_good : PySem.W.keepIn K (.ref (He.ga K "is_good")) = true
  k_need_good : PySem.W.keepIn K (.ref (He.ga K "need_good")) = true
  k_narrow_wards : PySem.W.keepIn K (.ref (He.ga K "narrow_wards")) = true
  k__law_pen : PySem.W.keepIn K (.ref (He.ga K "_law_pen")) = true
  k__law_draw : PySem.W.keepIn K (.ref (He.ga K "_law_draw")) = true
  k__law_pick : PySem.W.keepIn K (.ref (He.ga K "_law_pick")) = true
  k__law_titles : PySem.W.keepIn K (.ref (He.ga K "_law_titles")) = true
  k__law_pairs : PySem.W.keepIn K (.ref (He.ga K "_law_pairs")) = true
  k__law_price : PySem.W.keepIn K (.ref (He.ga K "_law_price")) = true
  k__law_site : PySem.W.keepIn K (.ref (He.ga K "_law_site")) = true
  k__law_town : PySem.W.keepIn K (.ref (He.ga K "_law_town")) = true
  k__law_told : PySem.W.keepIn K (.ref (He.ga K "_law_told")) = true
  k__law_bent : PySem.W.keepIn K (.ref (He.ga K "_law_bent")) = true
  k__law_triples : PySem.W.keepIn K (.ref (He.ga K "_law_triples")) = true
  k__law_spots : PySem.W.keepIn K (.ref (He.ga K "_law_spots")) = true
  k__law_groups : PySem.W.keepIn K (.ref (He.ga K "_law_groups")) = true
  k__law_enter : PySem.W.keepIn K (.ref (He.ga K "_law_enter")) = true
  k__law_weakest : PySem.W.keepIn K (.ref (He.ga K "_law_weakest")) = true
  k__law_cross : PySem.W.keepIn K (.ref (He.ga K "_law_cross")) = true
  k_law : PySem.W.keepIn K (.ref (He.ga K "law")) = true
  n_isinstance : mg "isinstance" = none
  n_len : mg "len" = none
  n_all : mg "all" = none
  n_any : mg "any" = none
  n_sorted : mg "sorted" = none
  n_set : mg "set" = none
  n_str : mg "str" = none
  n_tuple : mg "tuple" = none
  n_list : mg "list" = none
  n_dict : mg "dict" = none
  n_int : mg "int" = none
  n_bool : mg "bool" = none
  n_range : mg "range" = none
  n_enumerate : mg "enumerate" = none
  n_super : mg "super" = none
  n_min : mg "min" = none
  n_abs : mg "abs" = none
  i_MOST_LETTERS : ∃ t, mg "MOST_LETTERS" = some (.int 8 t)
  i_MOST_PRICE : ∃ t, mg "MOST_PRICE" = some (.int 999999999999 t)
  i_MOST_NEED : ∃ t, mg "MOST_NEED" = some (.int 20 t)
  i_MOST_SIGNS : ∃ t, mg "MOST_SIGNS" = some (.int 14 t)
  i_PAIR : ∃ t, mg "PAIR" = some (.int 2 t)
  i_MOST_CORNERS : ∃ t, mg "MOST_CORNERS" = some (.int 7 t)
  s_LETTERS : ∃ t, mg "LETTERS" = some (.str "abcdefghijklmnopqrstuvwxyz" t)
  f_is_int : ∃ fd, FunD K "is_int" "is_int" (defArgs (top 26)) (defBody (top 26)) (defScope (top 26)) [] [] (He.ga K "is_int") fd
  f_is_between : ∃ fd, FunD K "is_between" "is_between" (defArgs (top 27)) (defBody (top 27)) (defScope (top 27)) [] [] (He.ga K "is_between") fd
  f_is_name : ∃ fd, FunD K "is_name" "is_name" (defArgs (top 28)) (defBody (top 28)) (defScope (top 28)) [] [] (He.ga K "is_name") fd
  f_is_price : ∃ fd, FunD K "is_price" "is_price" (defArgs (top 29)) (defBody (top 29)) (defScope (top 29)) [] [] (He.ga K "is_price") fd
  f_is_need : ∃ fd, FunD K "is_need" "is_need" (defArgs (top 30)) (defBody (top 30)) (defScope (top 30)) [] [] (He.ga K "is_need") fd
  f_is_sign : ∃ fd, FunD K "is_sign" "is_sign" (defArgs (top 36)) (defBody (top 36)) (defScope (top 36)) [] [] (He.ga K "is_sign") fd
  f_need_ends : ∃ fd, FunD K "need_ends" "need_ends" (defArgs (top 42)) (defBody (top 42)) (defScope (top 42)) [] [] (He.ga K "need_ends") fd
  f_need_prices : ∃ fd, FunD K "need_prices" "need_prices" (defArgs (top 43)) (defBody (top 43)) (defScope (top 43)) [] [] (He.ga K "need_prices") fd
  f_need_place : ∃ fd, FunD K "need_place" "need_place" (defArgs (top 58)) (defBody (top 58)) (defScope (top 58)) [] [] (He.ga K "need_place") fd
  f_gathered : ∃ fd, FunD K "gathered" "gathered" (defArgs (top 62)) (defBody (top 62)) (defScope (top 62)) [] [] (He.ga K "gathered") fd
  f_picks : ∃ fd, FunD K "picks" "picks" (defArgs (top 63)) (defBody (top 63)) (defScope (top 63)) [] [] (He.ga K "picks") fd
  f_need_town : ∃ fd, FunD K "need_town" "need_town" (defArgs (top 66)) (defBody (top 66)) (defScope (top 66)) [] [] (He.ga K "need_town") fd
  f_need_fit : ∃ fd, FunD K "need_fit" "need_fit" (defArgs (top 67)) (defBody (top 67)) (defScope (top 67)) [] [] (He.ga K "need_fit") fd
  f_need_need : ∃ fd, FunD K "need_need" "need_need" (defArgs (top 68)) (defBody (top 68)) (defScope (top 68)) [] [] (He.ga K "need_need") fd
  f_need_ward : ∃ fd, FunD K "need_ward" "need_ward" (defArgs (top 69)) (defBody (top 69)) (defScope (top 69)) [] [] (He.ga K "need_ward") fd
  f_need_streets : ∃ fd, FunD K "need_streets" "need_streets" (defArgs (top 70)) (defBody (top 70)) (defScope (top 70)) [] [] (He.ga K "need_streets") fd
  f_arcs : ∃ fd, FunD K "arcs" "arcs" (defArgs (top 72)) (defBody (top 72)) (defScope (top 72)) [] [] (He.ga K "arcs") fd
  f_count_into : ∃ fd, FunD K "count_into" "count_into" (defArgs (top 73)) (defBody (top 73)) (defScope (top 73)) [] [] (He.ga K "count_into") fd
  f_into : ∃ fd, FunD K "into" "into" (defArgs (top 74)) (defBody (top 74)) (defScope (top 74)) [] [] (He.ga K "into") fd
  f_weakest : ∃ fd, FunD K "weakest" "weakest" (defArgs (top 76)) (defBody (top 76)) (defScope (top 76)) [] [] (He.ga K "weakest") fd
  f_is_good : ∃ fd, FunD K "is_good" "is_good" (defArgs (top 77)) (defBody (top 77)) (defScope (top 77)) [] [] (He.ga K "is_good") fd
  f_need_good : ∃ fd, FunD K "need_good" "need_good" (defArgs (top 78)) (defBody (top 78)) (defScope (top 78)) [] [] (He.ga K "need_good") fd
  f_narrow_wards : ∃ fd, FunD K "narrow_wards" "narrow_wards" (defArgs (top 80)) (defBody (top 80)) (defScope (top 80)) [] [] (He.ga K "narrow_wards") fd
  f__law_pen : ∃ fd, FunD K "_law_pen" "_law_pen" (defArgs (top 82)) (defBody (top 82)) (defScope (top 82)) [] [] (He.ga K "_law_pen") fd
  f__law_draw : ∃ fd, FunD K "_law_draw" "_law_draw" (defArgs (top 83)) (defBody (top 83)) (defScope (top 83)) [] [] (He.ga K "_law_draw") fd
  f__law_pick : ∃ fd, FunD K "_law_pick" "_law_pick" (defArgs (top 84)) (defBody (top 84)) (defScope (top 84)) [] [] (He.ga K "_law_pick") fd
  f__law_titles : ∃ fd, FunD K "_law_titles" "_law_titles" (defArgs (top 85)) (defBody (top 85)) (defScope (top 85)) [] [] (He.ga K "_law_titles") fd
  f__law_pairs : ∃ fd, FunD K "_law_pairs" "_law_pairs" (defArgs (top 86)) (defBody (top 86)) (defScope (top 86)) [] [] (He.ga K "_law_pairs") fd
  f__law_price : ∃ fd, FunD K "_law_price" "_law_price" (defArgs (top 87)) (defBody (top 87)) (defScope (top 87)) [] [] (He.ga K "_law_price") fd
  f__law_site : ∃ fd, FunD K "_law_site" "_law_site" (defArgs (top 88)) (defBody (top 88)) (defScope (top 88)) [] [] (He.ga K "_law_site") fd
  f__law_town : ∃ fd, FunD K "_law_town" "_law_town" (defArgs (top 89)) (defBody (top 89)) (defScope (top 89)) [] [] (He.ga K "_law_town") fd
  f__law_told : ∃ fd, FunD K "_law_told" "_law_told" (defArgs (top 90)) (defBody (top 90)) (defScope (top 90)) [] [] (He.ga K "_law_told") fd
  f__law_bent : ∃ fd, FunD K "_law_bent" "_law_bent" (defArgs (top 91)) (defBody (top 91)) (defScope (top 91)) [] [] (He.ga K "_law_bent") fd
  f__law_triples : ∃ fd, FunD K "_law_triples" "_law_triples" (defArgs (top 92)) (defBody (top 92)) (defScope (top 92)) [] [] (He.ga K "_law_triples") fd
  f__law_spots : ∃ fd, FunD K "_law_spots" "_law_spots" (defArgs (top 93)) (defBody (top 93)) (defScope (top 93)) [] [] (He.ga K "_law_spots") fd
  f__law_groups : ∃ fd, FunD K "_law_groups" "_law_groups" (defArgs (top 94)) (defBody (top 94)) (defScope (top 94)) [] [] (He.ga K "_law_groups") fd
  f__law_enter : ∃ fd, FunD K "_law_enter" "_law_enter" (defArgs (top 95)) (defBody (top 95)) (defScope (top 95)) [] [] (He.ga K "_law_enter") fd
  f__law_weakest : ∃ fd, FunD K "_law_weakest" "_law_weakest" (defArgs (top 96)) (defBody (top 96)) (defScope (top 96)) [] [] (He.ga K "_law_weakest") fd
  f__law_cross : ∃ fd, FunD K "_law_cross" "_law_cross" (defArgs (top 97)) (defBody (top 97)) (defScope (top 97)) [] [] (He.ga K "_law_cross") fd
  f_law : ∃ fd, FunD K "law" "law" (defArgs (top 98)) (defBody (top 98)) (defScope (top 98)) [] [] (He.ga K "law") fd
  f_Signs_init : ∃ fd, FunD K "__init__" "Signs.__init__" (defArgs (mth 38 0)) (defBody (mth 38 0)) (defScope (mth 38 0)) [] [] (He.ma K (He.ga K "Signs") "__init__") fd
  f_Signs_names : ∃ fd, FunD K "names" "Signs.names" (defArgs (mth 38 3)) (defBody (mth 38 3)) (defScope (mth 38 3)) [] [] (pgA K (He.ga K "Signs") "names") fd
  f_Signs_contains : ∃ fd, FunD K "__contains__" "Signs.__contains__" (defArgs (mth 38 7)) (defBody (mth 38 7)) (defScope (mth 38 7)) [] [] (He.ma K (He.ga K "Signs") "__contains__") fd
  f_Signs_getitem : ∃ fd, FunD K "__getitem__" "Signs.__getitem__" (defArgs (mth 38 8)) (defBody (mth 38 8)) (defScope (mth 38 8)) [] [] (He.ma K (He.ga K "Signs") "__getitem__") fd
  f_Signs_tail : ∃ fd, FunD K "tail" "Signs.tail" (defArgs (mth 38 9)) (defBody (mth 38 9)) (defScope (mth 38 9)) [] [] (He.ma K (He.ga K "Signs") "tail") fd
  f_Signs_is_along : ∃ fd, FunD K "is_along" "Signs.is_along" (defArgs (mth 38 18)) (defBody (mth 38 18)) (defScope (mth 38 18)) [] [] (He.ma K (He.ga K "Signs") "is_along") fd
  f_Signs_fits : ∃ fd, FunD K "fits" "Signs.fits" (defArgs (mth 38 20)) (defBody (mth 38 20)) (defScope (mth 38 20)) [] [] (He.ma K (He.ga K "Signs") "fits") fd
  f_Street_init : ∃ fd, FunD K "__init__" "Street.__init__" (defArgs (mth 44 3)) (defBody (mth 44 3)) (defScope (mth 44 3)) [] [] (He.ma K (He.ga K "Street") "__init__") fd
  f_Street_ends : ∃ fd, FunD K "ends" "Street.ends" (defArgs (mth 44 5)) (defBody (mth 44 5)) (defScope (mth 44 5)) [] [] (pgA K (He.ga K "Street") "ends") fd
  f_Street_is_like : ∃ fd, FunD K "is_like" "Street.is_like" (defArgs (mth 44 11)) (defBody (mth 44 11)) (defScope (mth 44 11)) [] [] (He.ma K (He.ga K "Street") "is_like") fd
  f_Lane_eq : ∃ fd, FunD K "__eq__" "Lane.__eq__" (defArgs (mth 47 5)) (defBody (mth 47 5)) (defScope (mth 47 5)) [] [] (He.ma K (He.ga K "Lane") "__eq__") fd
  f_Avenue_eq : ∃ fd, FunD K "__eq__" "Avenue.__eq__" (defArgs (mth 48 4)) (defBody (mth 48 4)) (defScope (mth 48 4)) [] [] (He.ma K (He.ga K "Avenue") "__eq__") fd
  f_Road_eq : ∃ fd, FunD K "__eq__" "Road.__eq__" (defArgs (mth 49 8)) (defBody (mth 49 8)) (defScope (mth 49 8)) [] [] (He.ma K (He.ga K "Road") "__eq__") fd
  f_Ward_init : ∃ fd, FunD K "__init__" "Ward.__init__" (defArgs (mth 60 0)) (defBody (mth 60 0)) (defScope (mth 60 0)) [] [] (He.ma K (He.ga K "Ward") "__init__") fd
  f_Ward_corners : ∃ fd, FunD K "corners" "Ward.corners" (defArgs (mth 60 1)) (defBody (mth 60 1)) (defScope (mth 60 1)) [] [] (pgA K (He.ga K "Ward") "corners") fd
  f_Ward_need_ward : ∃ fd, FunD K "need_ward" "Ward.need_ward" (defArgs (mth 60 3)) (defBody (mth 60 3)) (defScope (mth 60 3)) [] [] (He.ma K (He.ga K "Ward") "need_ward") fd
  f_Ward_need_town : ∃ fd, FunD K "need_town" "Ward.need_town" (defArgs (mth 60 4)) (defBody (mth 60 4)) (defScope (mth 60 4)) [] [] (He.ma K (He.ga K "Ward") "need_town") fd
  f_Ward_is_of : ∃ fd, FunD K "is_of" "Ward.is_of" (defArgs (mth 60 6)) (defBody (mth 60 6)) (defScope (mth 60 6)) [] [] (He.ma K (He.ga K "Ward") "is_of") fd
  f_Ward_crosses : ∃ fd, FunD K "crosses" "Ward.crosses" (defArgs (mth 60 7)) (defBody (mth 60 7)) (defScope (mth 60 7)) [] [] (He.ma K (He.ga K "Ward") "crosses") fd
  f_Ward_or : ∃ fd, FunD K "__or__" "Ward.__or__" (defArgs (mth 60 11)) (defBody (mth 60 11)) (defScope (mth 60 11)) [] [] (He.ma K (He.ga K "Ward") "__or__") fd
  f_Ward_and : ∃ fd, FunD K "__and__" "Ward.__and__" (defArgs (mth 60 12)) (defBody (mth 60 12)) (defScope (mth 60 12)) [] [] (He.ma K (He.ga K "Ward") "__and__") fd
  f_Ward_le : ∃ fd, FunD K "__le__" "Ward.__le__" (defArgs (mth 60 14)) (defBody (mth 60 14)) (defScope (mth 60 14)) [] [] (He.ma K (He.ga K "Ward") "__le__") fd
  f_Ward_str : ∃ fd, FunD K "__str__" "Ward.__str__" (defArgs (mth 60 17)) (defBody (mth 60 17)) (defScope (mth 60 17)) [] [] (He.ma K (He.ga K "Ward") "__str__") fd
  f_Town_init : ∃ fd, FunD K "__init__" "Town.__init__" (defArgs (mth 64 2)) (defBody (mth 64 2)) (defScope (mth 64 2)) [] [] (He.ma K (He.ga K "Town") "__init__") fd
  f_Town_streets : ∃ fd, FunD K "streets" "Town.streets" (defArgs (mth 64 4)) (defBody (mth 64 4)) (defScope (mth 64 4)) [] [] (pgA K (He.ga K "Town") "streets") fd
  f_Town_corners : ∃ fd, FunD K "corners" "Town.corners" (defArgs (mth 64 5)) (defBody (mth 64 5)) (defScope (mth 64 5)) [] [] (pgA K (He.ga K "Town") "corners") fd
  f_Town_roads : ∃ fd, FunD K "roads" "Town.roads" (defArgs (mth 64 6)) (defBody (mth 64 6)) (defScope (mth 64 6)) [] [] (pgA K (He.ga K "Town") "roads") fd
  f_Town_len : ∃ fd, FunD K "__len__" "Town.__len__" (defArgs (mth 64 8)) (defBody (mth 64 8)) (defScope (mth 64 8)) [] [] (He.ma K (He.ga K "Town") "__len__") fd
  f_Town_contains : ∃ fd, FunD K "__contains__" "Town.__contains__" (defArgs (mth 64 10)) (defBody (mth 64 10)) (defScope (mth 64 10)) [] [] (He.ma K (He.ga K "Town") "__contains__") fd
  f_Town_getitem : ∃ fd, FunD K "__getitem__" "Town.__getitem__" (defArgs (mth 64 11)) (defBody (mth 64 11)) (defScope (mth 64 11)) [] [] (He.ma K (He.ga K "Town") "__getitem__") fd
  f_Town_or : ∃ fd, FunD K "__or__" "Town.__or__" (defArgs (mth 64 13)) (defBody (mth 64 13)) (defScope (mth 64 13)) [] [] (He.ma K (He.ga K "Town") "__or__") fd
  f_Town_wards : ∃ fd, FunD K "wards" "Town.wards" (defArgs (mth 64 25)) (defBody (mth 64 25)) (defScope (mth 64 25)) [] [] (He.ma K (He.ga K "Town") "wards") fd
  f_Settled_init : FunS K "__init__" "Settled.__init__" (defArgs (mth 45 2)) (defBody (mth 45 2)) (defScope (mth 45 2)) [] (He.ma K (He.ga K "Settled") "__init__") (ccA K (He.ma K (He.ga K "Settled") "__init__")) (cdA K (He.ma K (He.ga K "Settled") "__init__"))
  sd_Settled : SupI.SupD PG0 K mg (He.ga K "Settled") (ccA K (He.ma K (He.ga K "Settled") "__init__")) (cdA K (He.ma K (He.ga K "Settled") "__init__"))
  f_Even_init : FunS K "__init__" "Even.__init__" (defArgs (mth 46 1)) (defBody (mth 46 1)) (defScope (mth 46 1)) [] (He.ma K (He.ga K "Even") "__init__") (ccA K (He.ma K (He.ga K "Even") "__init__")) (cdA K (He.ma K (He.ga K "Even") "__init__"))
  sd_Even : SupI.SupD PG0 K mg (He.ga K "Even") (ccA K (He.ma K (He.ga K "Even") "__init__")) (cdA K (He.ma K (He.ga K "Even") "__init__"))
  f_Lane_init : FunS K "__init__" "Lane.__init__" (defArgs (mth 47 1)) (defBody (mth 47 1)) (defScope (mth 47 1)) [] (He.ma K (He.ga K "Lane") "__init__") (ccA K (He.ma K (He.ga K "Lane") "__init__")) (cdA K (He.ma K (He.ga K "Lane") "__init__"))
  sd_Lane : SupI.SupD PG0 K mg (He.ga K "Lane") (ccA K (He.ma K (He.ga K "Lane") "__init__")) (cdA K (He.ma K (He.ga K "Lane") "__init__"))
  f_Avenue_init : FunS K "__init__" "Avenue.__init__" (defArgs (mth 48 1)) (defBody (mth 48 1)) (defScope (mth 48 1)) [] (He.ma K (He.ga K "Avenue") "__init__") (ccA K (He.ma K (He.ga K "Avenue") "__init__")) (cdA K (He.ma K (He.ga K "Avenue") "__init__"))
  sd_Avenue : SupI.SupD PG0 K mg (He.ga K "Avenue") (ccA K (He.ma K (He.ga K "Avenue") "__init__")) (cdA K (He.ma K (He.ga K "Avenue") "__init__"))
  f_Road_init : FunS K "__init__" "Road.__init__" (defArgs (mth 49 2)) (defBody (mth 49 2)) (defScope (mth 49 2)) [.int 0, .int 0] (He.ma K (He.ga K "Road") "__init__") (ccA K (He.ma K (He.ga K "Road") "__init__")) (cdA K (He.ma K (He.ga K "Road") "__init__"))
  sd_Road : SupI.SupD PG0 K mg (He.ga K "Road") (ccA K (He.ma K (He.ga K "Road") "__init__")) (cdA K (He.ma K (He.ga K "Road") "__init__"))
  sc_Lane_Lane : SupI.SupC K (He.ga K "Lane") (He.ga K "Lane") (He.ma K (He.ga K "Settled") "__init__") "__init__"
  sc_Settled_Lane : SupI.SupC K (He.ga K "Settled") (He.ga K "Lane") (He.ma K (He.ga K "Street") "__init__") "__init__"
  sc_Settled_Avenue : SupI.SupC K (He.ga K "Settled") (He.ga K "Avenue") (He.ma K (He.ga K "Even") "__init__") "__init__"
  sc_Avenue_Avenue : SupI.SupC K (He.ga K "Avenue") (He.ga K "Avenue") (He.ma K (He.ga K "Settled") "__init__") "__init__"
  sc_Even_Avenue : SupI.SupC K (He.ga K "Even") (He.ga K "Avenue") (He.ma K (He.ga K "Street") "__init__") "__init__"
  sc_Even_Road : SupI.SupC K (He.ga K "Even") (He.ga K "Road") (He.ma K (He.ga K "Street") "__init__") "__init__"
  sc_Road_Road : SupI.SupC K (He.ga K "Road") (He.ga K "Road") (He.ma K (He.ga K "Even") "__init__") "__init__"
  c_Signs : Cls K (He.ga K "Signs")
  c_Lane : Cls K (He.ga K "Lane")
  c_Avenue : Cls K (He.ga K "Avenue")
  c_Road : Cls K (He.ga K "Road")
  c_Ward : Cls K (He.ga K "Ward")
  c_Town : Cls K (He.ga K "Town")
  ty_Signs : TyC K (He.ga K "Signs")
  ty_Lane : TyC K (He.ga K "Lane")
  ty_Avenue : TyC K (He.ga K "Avenue")
  ty_Road : TyC K (He.ga K "Road")
  ty_Ward : TyC K (He.ga K "Ward")
  ty_Town : TyC K (He.ga K "Town")
  na_Signs_own_parts : NoAttr K (He.ga K "Signs") "own_parts"
  na_Signs_own_names : NoAttr K (He.ga K "Signs") "own_names"
  na_Lane_name : NoAttr K (He.ga K "Lane") "name"
  na_Lane_both : NoAttr K (He.ga K "Lane") "both"
  na_Lane_start : NoAttr K (He.ga K "Lane") "start"
  na_Lane_goal : NoAttr K (He.ga K "Lane") "goal"
  na_Avenue_name : NoAttr K (He.ga K "Avenue") "name"
  na_Avenue_both : NoAttr K (He.ga K "Avenue") "both"
  na_Avenue_one : NoAttr K (He.ga K "Avenue") "one"
  na_Avenue_other : NoAttr K (He.ga K "Avenue") "other"
  na_Road_name : NoAttr K (He.ga K "Road") "name"
  na_Road_both : NoAttr K (He.ga K "Road") "both"
  na_Road_one : NoAttr K (He.ga K "Road") "one"
  na_Road_other : NoAttr K (He.ga K "Road") "other"
  na_Road_there : NoAttr K (He.ga K "Road") "there"
  na_Road_back : NoAttr K (He.ga K "Road") "back"
  na_Ward_own_corners : NoAttr K (He.ga K "Ward") "own_corners"
  na_Town_own_streets : NoAttr K (He.ga K "Town") "own_streets"
  na_Town_own_rows : NoAttr K (He.ga K "Town") "own_rows"
  na_Town_own_corners : NoAttr K (He.ga K "Town") "own_corners"
  m_Signs_tail : L2.Meth K (He.ga K "Signs") "tail" (He.ma K (He.ga K "Signs") "tail")
  m_Signs_is_along : L2.Meth K (He.ga K "Signs") "is_along" (He.ma K (He.ga K "Signs") "is_along")
  m_Signs_fits : L2.Meth K (He.ga K "Signs") "fits" (He.ma K (He.ga K "Signs") "fits")
  m_Lane_is_like : L2.Meth K (He.ga K "Lane") "is_like" (He.ma K (He.ga K "Street") "is_like")
  m_Avenue_is_like : L2.Meth K (He.ga K "Avenue") "is_like" (He.ma K (He.ga K "Street") "is_like")
  m_Road_is_like : L2.Meth K (He.ga K "Road") "is_like" (He.ma K (He.ga K "Street") "is_like")
  m_Ward_need_ward : L2.Meth K (He.ga K "Ward") "need_ward" (He.ma K (He.ga K "Ward") "need_ward")
  m_Ward_need_town : L2.Meth K (He.ga K "Ward") "need_town" (He.ma K (He.ga K "Ward") "need_town")
  m_Ward_is_of : L2.Meth K (He.ga K "Ward") "is_of" (He.ma K (He.ga K "Ward") "is_of")
  m_Ward_crosses : L2.Meth K (He.ga K "Ward") "crosses" (He.ma K (He.ga K "Ward") "crosses")
  m_Town_wards : L2.Meth K (He.ga K "Town") "wards" (He.ma K (He.ga K "Town") "wards")
  p_Signs_names : PropOf K (He.ga K "Signs") "names" (He.ma K (He.ga K "Signs") "names") (pgA K (He.ga K "Signs") "names")
  p_Lane_ends : PropOf K (He.ga K "Lane") "ends" (He.ma K (He.ga K "Street") "ends") (pgA K (He.ga K "Street") "ends")
  p_Avenue_ends : PropOf K (He.ga K "Avenue") "ends" (He.ma K (He.ga K "Street") "ends") (pgA K (He.ga K "Street") "ends")
  p_Road_ends : PropOf K (He.ga K "Road") "ends" (He.ma K (He.ga K "Street") "ends") (pgA K (He.ga K "Street") "ends")
  p_Ward_corners : PropOf K (He.ga K "Ward") "corners" (He.ma K (He.ga K "Ward") "corners") (pgA K (He.ga K "Ward") "corners")
  p_Town_streets : PropOf K (He.ga K "Town") "streets" (He.ma K (He.ga K "Town") "streets") (pgA K (He.ga K "Town") "streets")
  p_Town_corners : PropOf K (He.ga K "Town") "corners" (He.ma K (He.ga K "Town") "corners") (pgA K (He.ga K "Town") "corners")
  p_Town_roads : PropOf K (He.ga K "Town") "roads" (He.ma K (He.ga K "Town") "roads") (pgA K (He.ga K "Town") "roads")
  mk_Signs : Mk K (He.ga K "Signs") (He.ma K (He.ga K "Signs") "__init__")
  mk_Lane : Mk K (He.ga K "Lane") (He.ma K (He.ga K "Lane") "__init__")
  mk_Avenue : Mk K (He.ga K "Avenue") (He.ma K (He.ga K "Avenue") "__init__")
  mk_Road : Mk K (He.ga K "Road") (He.ma K (He.ga K "Road") "__init__")
  mk_Ward : Mk K (He.ga K "Ward") (He.ma K (He.ga K "Ward") "__init__")
  mk_Town : Mk K (He.ga K "Town") (He.ma K (He.ga K "Town") "__init__")
  b_Ward_or : Own.BinC K (He.ga K "Ward") (He.ma K (He.ga K "Ward") "__or__") .BitOr
  b_Ward_and : Own.BinC K (He.ga K "Ward") (He.ma K (He.ga K "Ward") "__and__") .BitAnd
  b_Town_or : Own.BinC K (He.ga K "Town") (He.ma K (He.ga K "Town") "__or__") .BitOr
  nn_Lane : Own.noNum K (He.ga K "Lane") (Operator.BitOr.info.2) = true
  ne_Lane : (He.ga K "Town") ≠ (He.ga K "Lane")
  eq_Lane : Own.EqC K (He.ga K "Lane") (He.ma K (He.ga K "Lane") "__eq__")
  nn_Avenue : Own.noNum K (He.ga K "Avenue") (Operator.BitOr.info.2) = true
  ne_Avenue : (He.ga K "Town") ≠ (He.ga K "Avenue")
  eq_Avenue : Own.EqC K (He.ga K "Avenue") (He.ma K (He.ga K "Avenue") "__eq__")
  nn_Road : Own.noNum K (He.ga K "Road") (Operator.BitOr.info.2) = true
  ne_Road : (He.ga K "Town") ≠ (He.ga K "Road")
  eq_Road : Own.EqC K (He.ga K "Road") (He.ma K (He.ga K "Road") "__eq__")
  ne_Lane_Avenue : (He.ga K "Lane") ≠ (He.ga K "Avenue")
  ne_Lane_Road : (He.ga K "Lane") ≠ (He.ga K "Road")
  ne_Avenue_Road : (He.ga K "Avenue") ≠ (He.ga K "Road")
  o_Ward_le : OpC K (He.ga K "Ward") "__le__" (He.ma K (He.ga K "Ward") "__le__")
  o_Signs_contains : OpC K (He.ga K "Signs") "__contains__" (He.ma K (He.ga K "Signs") "__contains__")
  o_Town_contains : OpC K (He.ga K "Town") "__contains__" (He.ma K (He.ga K "Town") "__contains__")
  o_Signs_getitem : OpC K (He.ga K "Signs") "__getitem__" (He.ma K (He.ga K "Signs") "__getitem__")
  o_Town_getitem : OpC K (He.ga K "Town") "__getitem__" (He.ma K (He.ga K "Town") "__getitem__")
  o_Town_len : OpC K (He.ga K "Town") "__len__" (He.ma K (He.ga K "Town") "__len__")
  o_Ward_str : OpC K (He.ga K "Ward") "__str__" (He.ma K (He.ga K "Ward") "__str__")
  is_Lane_Street : PySem.W.kitOne K (.ref (He.ga K "Lane")) (.ref (He.ga K "Street")) = some true
  is_Lane_Lane : PySem.W.kitOne K (.ref (He.ga K "Lane")) (.ref (He.ga K "Lane")) = some true
  is_Lane_Avenue : PySem.W.kitOne K (.ref (He.ga K "Lane")) (.ref (He.ga K "Avenue")) = some false
  is_Lane_Road : PySem.W.kitOne K (.ref (He.ga K "Lane")) (.ref (He.ga K "Road")) = some false
  is_Avenue_Street : PySem.W.kitOne K (.ref (He.ga K "Avenue")) (.ref (He.ga K "Street")) = some true
  is_Avenue_Lane : PySem.W.kitOne K (.ref (He.ga K "Avenue")) (.ref (He.ga K "Lane")) = some false
  is_Avenue_Avenue : PySem.W.kitOne K (.ref (He.ga K "Avenue")) (.ref (He.ga K "Avenue")) = some true
  is_Avenue_Road : PySem.W.kitOne K (.ref (He.ga K "Avenue")) (.ref (He.ga K "Road")) = some false
  is_Road_Street : PySem.W.kitOne K (.ref (He.ga K "Road")) (.ref (He.ga K "Street")) = some true
  is_Road_Lane : PySem.W.kitOne K (.ref (He.ga K "Road")) (.ref (He.ga K "Lane")) = some false
  is_Road_Avenue : PySem.W.kitOne K (.ref (He.ga K "Road")) (.ref (He.ga K "Avenue")) = some false
  is_Road_Road : PySem.W.kitOne K (.ref (He.ga K "Road")) (.ref (He.ga K "Road")) = some true
  is_Town_Town : PySem.W.kitOne K (.ref (He.ga K "Town")) (.ref (He.ga K "Town")) = some true
  is_Town_Place : PySem.W.kitOne K (.ref (He.ga K "Town")) (.ref (He.ga K "Place")) = some true
  is_Signs_Signs : PySem.W.kitOne K (.ref (He.ga K "Signs")) (.ref (He.ga K "Signs")) = some true
  is_Ward_Ward : PySem.W.kitOne K (.ref (He.ga K "Ward")) (.ref (He.ga K "Ward")) = some true
  cv_CORNERS : ∃ u, ClX.CRead K (He.ga K "Town") (.type "type") ∧ ClX.CVal K (He.ga K "Town") (.type "type") "CORNERS" (.int 7) u
  cv_STREETS : ∃ u, ClX.CRead K (He.ga K "Town") (.type "type") ∧ ClX.CVal K (He.ga K "Town") (.type "type") "STREETS" (.int 14) u
end Tx
/-! ## Fct -/
/-! What the Bools say. -/
namespace Fx
open PySem PySem.Spec PyProof.Rows L2 Tx
open He (ga ma ba eqO eqO_ok frG frG_in refV)
theorem oB_ok {a b : Option Bool} (h : oB a b = true) : a = b := by
  cases a with
  | none => cases h
  | some x => cases b with
    | none => cases x <;> cases h
    | some y => cases x <;> cases y <;> first | rfl | cases h
/-! ### what they say -/
section
variable {K : Fg} {h : Heap} {mg : Str → Option Value}
theorem glo_ok (X : K.In h) (G : h.Ns mainGlobals mg) {x : Str} (c : gloB K x = true) : mg x = some (.ref (ga K x)) := PySem.W.mg_of X G (eqO_ok c)
theorem free_ok (X : K.In h) (G : h.Ns mainGlobals mg) {x : Str} (c : freeB K x = true) : mg x = none := PySem.W.mg_none_of X G (eqO_ok c)
theorem int_ok (X : K.In h) (G : h.Ns mainGlobals mg) {x : Str} {i : Int} (c : intB K x i = true) : ∃ t, mg x = some (.int i t) := He.int_ok X G (x := x) (i := i) c
theorem str_ok (X : K.In h) (G : h.Ns mainGlobals mg) {x z : Str} (c : strB K x z = true) : ∃ t, mg x = some (.str z t) := He.str_ok X G (x := x) (z := z) c
theorem fn_ok {d : DefQ} (hc : d.cl = []) (e : fnQ K (d.at_ K) = d.val) (c : fnB K (d.at_ K) d.qual = true) : ∃ fd, FunD K d.name d.qual d.params d.body d.scope [] [] (d.at_ K) fd := by
  obtain ⟨kp, c2⟩ := ba c
  unfold fnQ at e
  cases q : K.lookup (d.at_ K) with
  | none =>
    rw [q] at c2
    cases c2
  | some o =>
    obtain ⟨oc, od, dt, osl⟩ := o
    rw [q] at c2 e
    cases dt with
    | func fd =>
      obtain ⟨n1, n2, n3, n4, n5, n6, n7, n8, n9, n10, n11, n12, n13, n14, n15⟩ := fd
      have e2 : (some (n1, n2, n3, n4, n5, n6, n7.map (·.1), n15) : FnQ) = some (d.name, d.qual, d.params, .stmts d.body, d.scope, mainGlobals, d.cl, builtinsNs) := e
      simp only [Option.some.injEq, Prod.mk.injEq] at e2
      obtain ⟨h1, h2, h3, h4, h5, h6, h7, h8⟩ := e2
      rw [hc] at h7
      have h7 : n7 = [] := List.map_eq_nil_iff.mp h7
      subst h1 h2 h3 h4 h5 h6 h7 h8
      have c3 : (PySem.W.codeIn K n13 d.qual && He.dflB K n8 []) = true := c2
      obtain ⟨k1, k2⟩ := ba c3
      exact ⟨_, ⟨oc, od, n8, n9, n10, n11, n12, n13, n14, osl, rfl, q, k1, He.dflB_ok k2, .inl rfl⟩, kp⟩
    | _ => cases c2
theorem fs_ok {d : DefQ} {dvs : List V} (hc : d.cl = [("__class__" : Str)]) (e : fnQ K (d.at_ K) = d.val) (c : fsB K (d.at_ K) d.qual dvs = true) : FunS K d.name d.qual d.params d.body d.scope dvs (d.at_ K) (ccA K (d.at_ K)) (cdA K (d.at_ K)) := by
  unfold fsB at c
  unfold fnQ at e
  have e0 : ccA K (d.at_ K) = ccA K (d.at_ K) := rfl
  cases q : K.lookup (d.at_ K) with
  | none =>
    rw [q] at c
    cases c
  | some o =>
    obtain ⟨oc, od, dt, osl⟩ := o
    cases dt with
    | func fd =>
      rw [q] at c e
      obtain ⟨n1, n2, n3, n4, n5, n6, n7, n8, n9, n10, n11, n12, n13, n14, n15⟩ := fd
      have e2 : (some (n1, n2, n3, n4, n5, n6, n7.map (·.1), n15) : FnQ) = some (d.name, d.qual, d.params, .stmts d.body, d.scope, mainGlobals, d.cl, builtinsNs) := e
      simp only [Option.some.injEq, Prod.mk.injEq] at e2
      obtain ⟨h1, h2, h3, h4, h5, h6, h7, h8⟩ := e2
      rw [hc] at h7
      obtain ⟨x, cc, rfl, hx⟩ : ∃ x cc, n7 = [(x, cc)] ∧ x = ("__class__" : Str) := by
        match n7, h7 with
        | [(x, cc)], h7 =>
          have : x = ("__class__" : Str) := by
            have h7 : [x] = [("__class__" : Str)] := h7
            injection h7
          exact ⟨x, cc, rfl, this⟩
      subst h1 h2 h3 h4 h5 h6 h8 hx
      have c3 : (PySem.W.codeIn K (.ref (cdA K (d.at_ K))) d.qual && (He.dflB K n8 dvs && decide (n13 = .ref (cdA K (d.at_ K))))) = true := c
      obtain ⟨k1, k2⟩ := ba c3
      obtain ⟨k3, k4⟩ := ba k2
      have k4 := of_decide_eq_true k4
      have ec : ccA K (d.at_ K) = cc := by
        unfold ccA
        rw [q]
      refine ⟨oc, od, n8, n9, n10, n11, n12, n14, osl, ?_, k1, He.dflB_ok k3⟩
      rw [ec, q, k4]
    | _ => rw [q] at c; cases c
theorem sd_ok (X : K.In h) (G : h.Ns mainGlobals mg) {P : Program} {D cc cda : Addr} (ht : (P.main.scope.names.lookup ("super" : Str)).isSome = false) (c : sdB K P.main.file D cc cda = true) : SupI.SupD P K mg D cc cda := by
  unfold sdB at c
  obtain ⟨c1, c⟩ := ba c
  obtain ⟨c2, c⟩ := ba c
  obtain ⟨c3, c4⟩ := ba c
  refine ⟨ht, free_ok X G c1, ?_, Option.isSome_iff_exists.mp c3, ?_⟩
  · cases q : K.lookup cc with
    | none => rw [q] at c2; cases c2
    | some o =>
      obtain ⟨oc, od, dt, osl⟩ := o
      rw [q] at c2
      cases dt with
      | cell v =>
        cases v with
        | none => cases c2
        | some v =>
          cases v with
          | ref D' => exact ⟨oc, od, osl, by rw [show D' = D from of_decide_eq_true c2]⟩
          | _ => cases c2
      | _ => cases c2
  · cases q : K.lookup cda with
    | none => rw [q] at c4; cases c4
    | some o =>
      obtain ⟨oc, od, dt, osl⟩ := o
      rw [q] at c4
      cases dt with
      | fields vs =>
        have c5 : (match (vs[2]? : Option Value) with
          | some (.str file _) => P.main.file == file
          | _ => false) = true := c4
        cases z : vs[2]? with
        | none => rw [z] at c5; cases c5
        | some u =>
          rw [z] at c5
          cases u with
          | str file tf => exact ⟨oc, od, vs, osl, file, tf, rfl, z, c5⟩
          | _ => cases c5
      | _ => cases c4
theorem sc_ok {D C f2 : Addr} {m : Str} (c : scB K D C f2 m = true) : SupI.SupC K D C f2 m := by
  obtain ⟨c1, c⟩ := ba c
  obtain ⟨c2, c⟩ := ba c
  obtain ⟨c3, c⟩ := ba c
  obtain ⟨c4, c5⟩ := ba c
  exact ⟨oB_ok c1, eqO_ok c2, of_decide_eq_true c3, c4, eqO_ok c5⟩
theorem cls_ok {C : Addr} (c : clsB K C = true) : Cls K C := by
  obtain ⟨c1, c⟩ := ba c
  obtain ⟨c2, c⟩ := ba c
  obtain ⟨c3, c4⟩ := ba c
  exact ⟨c1, c2, c3, eqO_ok c4⟩
theorem ty_ok {C : Addr} (c : tyB K C = true) : TyC K C := by
  obtain ⟨c1, c⟩ := ba c
  obtain ⟨c2, c⟩ := ba c
  obtain ⟨c3, c4⟩ := ba c
  exact ⟨eqO_ok c1, eqO_ok c2, oB_ok c3, oB_ok c4⟩
theorem noat_ok {C : Addr} {f : Str} (c : noatB K C f = true) : NoAttr K C f := eqO_ok c
theorem meth_ok {C g : Addr} {m : Str} (c : methB K C m g = true) : L2.Meth K C m g := by
  obtain ⟨c1, c⟩ := ba c
  obtain ⟨c2, c3⟩ := ba c
  exact ⟨eqO_ok c1, c2, c3⟩
theorem prop_ok {C p g : Addr} {f : Str} (c : propB K C f p g = true) : PropOf K C f p g := by
  obtain ⟨c1, c⟩ := ba c
  obtain ⟨c2, c⟩ := ba c
  obtain ⟨c3, c4⟩ := ba c
  refine ⟨eqO_ok c1, eqO_ok c2, oB_ok c3, ?_⟩
  cases q : PySem.W.recIn K p "property" with
  | none => rw [q] at c4; cases c4
  | some l =>
    rw [q] at c4
    cases l with
    | nil => cases c4
    | cons v rest =>
      cases v with
      | ref g' => exact ⟨rest, by rw [show g' = g from of_decide_eq_true c4]⟩
      | _ => cases c4
theorem mk_ok {C f : Addr} (c : mkB K C f = true) : Mk K C f := by
  obtain ⟨c1, c⟩ := ba c
  obtain ⟨c2, c⟩ := ba c
  obtain ⟨c3, c4⟩ := ba c
  exact ⟨c1, eqO_ok c2, c3, c4⟩
theorem bin_ok {C g : Addr} {op : Operator} (c : binB K C g op = true) : Own.BinC K C g op := by
  obtain ⟨c1, c⟩ := ba c
  obtain ⟨c2, c3⟩ := ba c
  exact ⟨c1, eqO_ok c2, c3⟩
theorem eqc_ok {C g : Addr} (c : eqcB K C g = true) : Own.EqC K C g := by
  obtain ⟨c1, c⟩ := ba c
  obtain ⟨c2, c⟩ := ba c
  obtain ⟨c3, c4⟩ := ba c
  exact ⟨eqO_ok c1, oB_ok c2, eqO_ok c3, c4⟩
theorem opc_ok {C g : Addr} {m : Str} (c : opcB K C m g = true) : OpC K C m g := by
  obtain ⟨c1, c⟩ := ba c
  obtain ⟨c2, c3⟩ := ba c
  exact ⟨eqO_ok c1, c2, c3⟩
theorem kit_ok {a b : Addr} {v : Bool} (c : kitB K a b v = true) : PySem.W.kitOne K (.ref a) (.ref b) = some v := oB_ok c
theorem ne_ok {a b : Addr} (c : neB a b = true) : a ≠ b := by
  unfold neB at c
  rw [Bool.not_eq_true', decide_eq_false_iff_not] at c
  exact c
theorem cval_ok {C : Addr} {f : Str} {i : Int} (c : cvalB K C f i = true) : ∃ u, ClX.CRead K C (.type "type") ∧ ClX.CVal K C (.type "type") f (.int i) u := by
  obtain ⟨c1, c⟩ := ba c
  obtain ⟨c2, c3⟩ := ba c
  cases q : PySem.W.findCls K (.ref C) (.type "type") f with
  | none => rw [q] at c3; cases c3
  | some r =>
    rw [q] at c3
    cases r with
    | val v =>
      cases v with
      | int j t => exact ⟨.int j t, ⟨c1, eqO_ok c2⟩, q, ⟨t, by rw [show j = i from of_decide_eq_true c3]⟩⟩
      | _ => cases c3
    | get => cases c3
end
end Fx
/-! ## HeadB -/
set_option maxHeartbeats 0
/-! The facts as the walks use them (printed by headgen.py). -/
namespace HdT
open PySem PySem.Spec PyProof.Rows L2 Tx Fx
open He (ga ma)
theorem no_super : (PG0.main.scope.names.lookup ("super" : Str)).isSome = false := by decide +kernel
theorem txt_of {K : Fg} {h : Heap} {mg : Str → Option Value} (X : K.In h) (G : h.Ns mainGlobals mg) (c : SaysQ fa fn K) : Txt K mg where
  g_Place := glo_ok X G (c.fact 0)
  g_Signs := glo_ok X G (c.fact 1)
  g_Street := glo_ok X G (c.fact 2)
  g_Settled := glo_ok X G (c.fact 3)
  g_Even := glo_ok X G (c.fact 4)
  g_Lane := glo_ok X G (c.fact 5)
  g_Avenue := glo_ok X G (c.fact 6)
  g_Road := glo_ok X G (c.fact 7)
  g_Ward := glo_ok X G (c.fact 8)
  g_Town := glo_ok X G (c.fact 9)
  g_is_int := glo_ok X G (c.fact 10)
  g_is_between := glo_ok X G (c.fact 11)
  g_is_name := glo_ok X G (c.fact 12)
  g_is_price := glo_ok X G (c.fact 13)
  g_is_need := glo_ok X G (c.fact 14)
  g_is_sign := glo_ok X G (c.fact 15)
  g_need_ends := glo_ok X G (c.fact 16)
  g_need_prices := glo_ok X G (c.fact 17)
  g_need_place := glo_ok X G (c.fact 18)
  g_gathered := glo_ok X G (c.fact 19)
  g_picks := glo_ok X G (c.fact 20)
  g_need_town := glo_ok X G (c.fact 21)
  g_need_fit := glo_ok X G (c.fact 22)
  g_need_need := glo_ok X G (c.fact 23)
  g_need_ward := glo_ok X G (c.fact 24)
  g_need_streets := glo_ok X G (c.fact 25)
  g_arcs := glo_ok X G (c.fact 26)
  g_count_into := glo_ok X G (c.fact 27)
  g_into := glo_ok X G (c.fact 28)
  g_weakest := glo_ok X G (c.fact 29)
  g_is_good := glo_ok X G (c.fact 30)
  g_need_good := glo_ok X G (c.fact 31)
  g_narrow_wards := glo_ok X G (c.fact 32)
  g__law_pen := glo_ok X G (c.fact 33)
  g__law_draw := glo_ok X G (c.fact 34)
  g__law_pick := glo_ok X G (c.fact 35)
  g__law_titles := glo_ok X G (c.fact 36)
  g__law_pairs := glo_ok X G (c.fact 37)
  g__law_price := glo_ok X G (c.fact 38)
  g__law_site := glo_ok X G (c.fact 39)
  g__law_town := glo_ok X G (c.fact 40)
  g__law_told := glo_ok X G (c.fact 41)
  g__law_bent := glo_ok X G (c.fact 42)
  g__law_triples := glo_ok X G (c.fact 43)
  g__law_spots := glo_ok X G (c.fact 44)
  g__law_groups := glo_ok X G (c.fact 45)
  g__law_enter := glo_ok X G (c.fact 46)
  g__law_weakest := glo_ok X G (c.fact 47)
  g__law_cross := glo_ok X G (c.fact 48)
  g_law := glo_ok X G (c.fact 49)
  k_Signs := c.fact 50
  k_Lane := c.fact 51
  k_Avenue := c.fact 52
  k_Road := c.fact 53
  k_Ward := c.fact 54
  k_Town := c.fact 55
  k_is_int := c.fact 56
  k_is_between := c.fact 57
  k_is_name := c.fact 58
  k_is_price := c.fact 59
  k_is_need := c.fact 60
  k_is_sign := c.fact 61
  k_need_ends := c.fact 62
  k_need_prices := c.fact 63
  k_need_place := c.fact 64
  k_gathered := c.fact 65
  k_picks := c.fact 66
  k_need_town := c.fact 67
  k_need_fit := c.fact 68
  k_need_need := c.fact 69
  k_need_ward := c.fact 70
  k_need_streets := c.fact 71
  k_arcs := c.fact 72
  k_count_into := c.fact 73
  k_into := c.fact 74
  k_weakest := c.fact 75
  k_is_good := c.fact 76
  k_need_good := c.fact 77
  k_narrow_wards := c.fact 78
  k__law_pen := c.fact 79
  k__law_draw := c.fact 80
  k__law_pick := c.fact 81
  k__law_titles := c.fact 82
  k__law_pairs := c.fact 83
  k__law_price := c.fact 84
  k__law_site := c.fact 85
  k__law_town := c.fact 86
  k__law_told := c.fact 87
  k__law_bent := c.fact 88
  k__law_triples := c.fact 89
  k__law_spots := c.fact 90
  k__law_groups := c.fact 91
  k__law_enter := c.fact 92
  k__law_weakest := c.fact 93
  k__law_cross := c.fact 94
  k_law := c.fact 95
  n_isinstance := free_ok X G (c.fact 96)
  n_len := free_ok X G (c.fact 97)
  n_all := free_ok X G (c.fact 98)
  n_any := free_ok X G (c.fact 99)
  n_sorted := free_ok X G (c.fact 100)
  n_set := free_ok X G (c.fact 101)
  n_str := free_ok X G (c.fact 102)
  n_tuple := free_ok X G (c.fact 103)
  n_list := free_ok X G (c.fact 104)
  n_dict := free_ok X G (c.fact 105)
  n_int := free_ok X G (c.fact 106)
  n_bool := free_ok X G (c.fact 107)
  n_range := free_ok X G (c.fact 108)
  n_enumerate := free_ok X G (c.fact 109)
  n_super := free_ok X G (c.fact 110)
  n_min := free_ok X G (c.fact 111)
  n_abs := free_ok X G (c.fact 112)
  i_MOST_LETTERS := int_ok X G (c.fact 113)
  i_MOST_PRICE := int_ok X G (c.fact 114)
  i_MOST_NEED := int_ok X G (c.fact 115)
  i_MOST_SIGNS := int_ok X G (c.fact 116)
  i_PAIR := int_ok X G (c.fact 117)
  i_MOST_CORNERS := int_ok X G (c.fact 118)
  s_LETTERS := str_ok X G (c.fact 119)
  f_is_int := fn_ok (d := dq0) rfl (c.def_ 0) (c.fact 120)
  f_is_between := fn_ok (d := dq1) rfl (c.def_ 1) (c.fact 121)
  f_is_name := fn_ok (d := dq2) rfl (c.def_ 2) (c.fact 122)
  f_is_price := fn_ok (d := dq3) rfl (c.def_ 3) (c.fact 123)
  f_is_need := fn_ok (d := dq4) rfl (c.def_ 4) (c.fact 124)
  f_is_sign := fn_ok (d := dq5) rfl (c.def_ 5) (c.fact 125)
  f_need_ends := fn_ok (d := dq6) rfl (c.def_ 6) (c.fact 126)
  f_need_prices := fn_ok (d := dq7) rfl (c.def_ 7) (c.fact 127)
  f_need_place := fn_ok (d := dq8) rfl (c.def_ 8) (c.fact 128)
  f_gathered := fn_ok (d := dq9) rfl (c.def_ 9) (c.fact 129)
  f_picks := fn_ok (d := dq10) rfl (c.def_ 10) (c.fact 130)
  f_need_town := fn_ok (d := dq11) rfl (c.def_ 11) (c.fact 131)
  f_need_fit := fn_ok (d := dq12) rfl (c.def_ 12) (c.fact 132)
  f_need_need := fn_ok (d := dq13) rfl (c.def_ 13) (c.fact 133)
  f_need_ward := fn_ok (d := dq14) rfl (c.def_ 14) (c.fact 134)
  f_need_streets := fn_ok (d := dq15) rfl (c.def_ 15) (c.fact 135)
  f_arcs := fn_ok (d := dq16) rfl (c.def_ 16) (c.fact 136)
  f_count_into := fn_ok (d := dq17) rfl (c.def_ 17) (c.fact 137)
  f_into := fn_ok (d := dq18) rfl (c.def_ 18) (c.fact 138)
  f_weakest := fn_ok (d := dq19) rfl (c.def_ 19) (c.fact 139)
  f_is_good := fn_ok (d := dq20) rfl (c.def_ 20) (c.fact 140)
  f_need_good := fn_ok (d := dq21) rfl (c.def_ 21) (c.fact 141)
  f_narrow_wards := fn_ok (d := dq22) rfl (c.def_ 22) (c.fact 142)
  f__law_pen := fn_ok (d := dq23) rfl (c.def_ 23) (c.fact 143)
  f__law_draw := fn_ok (d := dq24) rfl (c.def_ 24) (c.fact 144)
  f__law_pick := fn_ok (d := dq25) rfl (c.def_ 25) (c.fact 145)
  f__law_titles := fn_ok (d := dq26) rfl (c.def_ 26) (c.fact 146)
  f__law_pairs := fn_ok (d := dq27) rfl (c.def_ 27) (c.fact 147)
  f__law_price := fn_ok (d := dq28) rfl (c.def_ 28) (c.fact 148)
  f__law_site := fn_ok (d := dq29) rfl (c.def_ 29) (c.fact 149)
  f__law_town := fn_ok (d := dq30) rfl (c.def_ 30) (c.fact 150)
  f__law_told := fn_ok (d := dq31) rfl (c.def_ 31) (c.fact 151)
  f__law_bent := fn_ok (d := dq32) rfl (c.def_ 32) (c.fact 152)
  f__law_triples := fn_ok (d := dq33) rfl (c.def_ 33) (c.fact 153)
  f__law_spots := fn_ok (d := dq34) rfl (c.def_ 34) (c.fact 154)
  f__law_groups := fn_ok (d := dq35) rfl (c.def_ 35) (c.fact 155)
  f__law_enter := fn_ok (d := dq36) rfl (c.def_ 36) (c.fact 156)
  f__law_weakest := fn_ok (d := dq37) rfl (c.def_ 37) (c.fact 157)
  f__law_cross := fn_ok (d := dq38) rfl (c.def_ 38) (c.fact 158)
  f_law := fn_ok (d := dq39) rfl (c.def_ 39) (c.fact 159)
  f_Signs_init := fn_ok (d := dq40) rfl (c.def_ 40) (c.fact 160)
  f_Signs_names := fn_ok (d := dq41) rfl (c.def_ 41) (c.fact 161)
  f_Signs_contains := fn_ok (d := dq42) rfl (c.def_ 42) (c.fact 162)
  f_Signs_getitem := fn_ok (d := dq43) rfl (c.def_ 43) (c.fact 163)
  f_Signs_tail := fn_ok (d := dq44) rfl (c.def_ 44) (c.fact 164)
  f_Signs_is_along := fn_ok (d := dq45) rfl (c.def_ 45) (c.fact 165)
  f_Signs_fits := fn_ok (d := dq46) rfl (c.def_ 46) (c.fact 166)
  f_Street_init := fn_ok (d := dq47) rfl (c.def_ 47) (c.fact 167)
  f_Street_ends := fn_ok (d := dq48) rfl (c.def_ 48) (c.fact 168)
  f_Street_is_like := fn_ok (d := dq49) rfl (c.def_ 49) (c.fact 169)
  f_Lane_eq := fn_ok (d := dq50) rfl (c.def_ 50) (c.fact 170)
  f_Avenue_eq := fn_ok (d := dq51) rfl (c.def_ 51) (c.fact 171)
  f_Road_eq := fn_ok (d := dq52) rfl (c.def_ 52) (c.fact 172)
  f_Ward_init := fn_ok (d := dq53) rfl (c.def_ 53) (c.fact 173)
  f_Ward_corners := fn_ok (d := dq54) rfl (c.def_ 54) (c.fact 174)
  f_Ward_need_ward := fn_ok (d := dq55) rfl (c.def_ 55) (c.fact 175)
  f_Ward_need_town := fn_ok (d := dq56) rfl (c.def_ 56) (c.fact 176)
  f_Ward_is_of := fn_ok (d := dq57) rfl (c.def_ 57) (c.fact 177)
  f_Ward_crosses := fn_ok (d := dq58) rfl (c.def_ 58) (c.fact 178)
  f_Ward_or := fn_ok (d := dq59) rfl (c.def_ 59) (c.fact 179)
  f_Ward_and := fn_ok (d := dq60) rfl (c.def_ 60) (c.fact 180)
  f_Ward_le := fn_ok (d := dq61) rfl (c.def_ 61) (c.fact 181)
  f_Ward_str := fn_ok (d := dq62) rfl (c.def_ 62) (c.fact 182)
  f_Town_init := fn_ok (d := dq63) rfl (c.def_ 63) (c.fact 183)
  f_Town_streets := fn_ok (d := dq64) rfl (c.def_ 64) (c.fact 184)
  f_Town_corners := fn_ok (d := dq65) rfl (c.def_ 65) (c.fact 185)
  f_Town_roads := fn_ok (d := dq66) rfl (c.def_ 66) (c.fact 186)
  f_Town_len := fn_ok (d := dq67) rfl (c.def_ 67) (c.fact 187)
  f_Town_contains := fn_ok (d := dq68) rfl (c.def_ 68) (c.fact 188)
  f_Town_getitem := fn_ok (d := dq69) rfl (c.def_ 69) (c.fact 189)
  f_Town_or := fn_ok (d := dq70) rfl (c.def_ 70) (c.fact 190)
  f_Town_wards := fn_ok (d := dq71) rfl (c.def_ 71) (c.fact 191)
  f_Settled_init := fs_ok (d := dq72) rfl (c.def_ 72) (c.fact 192)
  sd_Settled := sd_ok X G no_super (c.fact 193)
  f_Even_init := fs_ok (d := dq73) rfl (c.def_ 73) (c.fact 194)
  sd_Even := sd_ok X G no_super (c.fact 195)
  f_Lane_init := fs_ok (d := dq74) rfl (c.def_ 74) (c.fact 196)
  sd_Lane := sd_ok X G no_super (c.fact 197)
  f_Avenue_init := fs_ok (d := dq75) rfl (c.def_ 75) (c.fact 198)
  sd_Avenue := sd_ok X G no_super (c.fact 199)
  f_Road_init := fs_ok (d := dq76) rfl (c.def_ 76) (c.fact 200)
  sd_Road := sd_ok X G no_super (c.fact 201)
  sc_Lane_Lane := sc_ok (c.fact 202)
  sc_Settled_Lane := sc_ok (c.fact 203)
  sc_Settled_Avenue := sc_ok (c.fact 204)
  sc_Avenue_Avenue := sc_ok (c.fact 205)
  sc_Even_Avenue := sc_ok (c.fact 206)
  sc_Even_Road := sc_ok (c.fact 207)
  sc_Road_Road := sc_ok (c.fact 208)
  c_Signs := cls_ok (c.fact 209)
  c_Lane := cls_ok (c.fact 210)
  c_Avenue := cls_ok (c.fact 211)
  c_Road := cls_ok (c.fact 212)
  c_Ward := cls_ok (c.fact 213)
  c_Town := cls_ok (c.fact 214)
  ty_Signs := ty_ok (c.fact 215)
  ty_Lane := ty_ok (c.fact 216)
  ty_Avenue := ty_ok (c.fact 217)
  ty_Road := ty_ok (c.fact 218)
  ty_Ward := ty_ok (c.fact 219)
  ty_Town := ty_ok (c.fact 220)
  na_Signs_own_parts := noat_ok (c.fact 221)
  na_Signs_own_names := noat_ok (c.fact 222)
  na_Lane_name := noat_ok (c.fact 223)
  na_Lane_both := noat_ok (c.fact 224)
  na_Lane_start := noat_ok (c.fact 225)
  na_Lane_goal := noat_ok (c.fact 226)
  na_Avenue_name := noat_ok (c.fact 227)
  na_Avenue_both := noat_ok (c.fact 228)
  na_Avenue_one := noat_ok (c.fact 229)
  na_Avenue_other := noat_ok (c.fact 230)
  na_Road_name := noat_ok (c.fact 231)
  na_Road_both := noat_ok (c.fact 232)
  na_Road_one := noat_ok (c.fact 233)
  na_Road_other := noat_ok (c.fact 234)
  na_Road_there := noat_ok (c.fact 235)
  na_Road_back := noat_ok (c.fact 236)
  na_Ward_own_corners := noat_ok (c.fact 237)
  na_Town_own_streets := noat_ok (c.fact 238)
  na_Town_own_rows := noat_ok (c.fact 239)
  na_Town_own_corners := noat_ok (c.fact 240)
  m_Signs_tail := meth_ok (c.fact 241)
  m_Signs_is_along := meth_ok (c.fact 242)
  m_Signs_fits := meth_ok (c.fact 243)
  m_Lane_is_like := meth_ok (c.fact 244)
  m_Avenue_is_like := meth_ok (c.fact 245)
  m_Road_is_like := meth_ok (c.fact 246)
  m_Ward_need_ward := meth_ok (c.fact 247)
  m_Ward_need_town := meth_ok (c.fact 248)
  m_Ward_is_of := meth_ok (c.fact 249)
  m_Ward_crosses := meth_ok (c.fact 250)
  m_Town_wards := meth_ok (c.fact 251)
  p_Signs_names := prop_ok (c.fact 252)
  p_Lane_ends := prop_ok (c.fact 253)
  p_Avenue_ends := prop_ok (c.fact 254)
  p_Road_ends := prop_ok (c.fact 255)
  p_Ward_corners := prop_ok (c.fact 256)
  p_Town_streets := prop_ok (c.fact 257)
  p_Town_corners := prop_ok (c.fact 258)
  p_Town_roads := prop_ok (c.fact 259)
  mk_Signs := mk_ok (c.fact 260)
  mk_Lane := mk_ok (c.fact 261)
  mk_Avenue := mk_ok (c.fact 262)
  mk_Road := mk_ok (c.fact 263)
  mk_Ward := mk_ok (c.fact 264)
  mk_Town := mk_ok (c.fact 265)
  b_Ward_or := bin_ok (c.fact 266)
  b_Ward_and := bin_ok (c.fact 267)
  b_Town_or := bin_ok (c.fact 268)
  nn_Lane := c.fact 269
  ne_Lane := ne_ok (c.fact 270)
  eq_Lane := eqc_ok (c.fact 271)
  nn_Avenue := c.fact 272
  ne_Avenue := ne_ok (c.fact 273)
  eq_Avenue := eqc_ok (c.fact 274)
  nn_Road := c.fact 275
  ne_Road := ne_ok (c.fact 276)
  eq_Road := eqc_ok (c.fact 277)
  ne_Lane_Avenue := ne_ok (c.fact 278)
  ne_Lane_Road := ne_ok (c.fact 279)
  ne_Avenue_Road := ne_ok (c.fact 280)
  o_Ward_le := opc_ok (c.fact 281)
  o_Signs_contains := opc_ok (c.fact 282)
  o_Town_contains := opc_ok (c.fact 283)
  o_Signs_getitem := opc_ok (c.fact 284)
  o_Town_getitem := opc_ok (c.fact 285)
  o_Town_len := opc_ok (c.fact 286)
  o_Ward_str := opc_ok (c.fact 287)
  is_Lane_Street := kit_ok (c.fact 288)
  is_Lane_Lane := kit_ok (c.fact 289)
  is_Lane_Avenue := kit_ok (c.fact 290)
  is_Lane_Road := kit_ok (c.fact 291)
  is_Avenue_Street := kit_ok (c.fact 292)
  is_Avenue_Lane := kit_ok (c.fact 293)
  is_Avenue_Avenue := kit_ok (c.fact 294)
  is_Avenue_Road := kit_ok (c.fact 295)
  is_Road_Street := kit_ok (c.fact 296)
  is_Road_Lane := kit_ok (c.fact 297)
  is_Road_Avenue := kit_ok (c.fact 298)
  is_Road_Road := kit_ok (c.fact 299)
  is_Town_Town := kit_ok (c.fact 300)
  is_Town_Place := kit_ok (c.fact 301)
  is_Signs_Signs := kit_ok (c.fact 302)
  is_Ward_Ward := kit_ok (c.fact 303)
  cv_CORNERS := cval_ok (c.fact 304)
  cv_STREETS := cval_ok (c.fact 305)
theorem run (w : World) : HandSHeadRun.RunEq R qv hk ob 14000 names w := by
  intro os
  have h0 := run0 w os
  have h1 := run1 w os
  have h2 := run2 w os
  generalize HandSHeadRun.endF (HandSHeadRun.stepQ (HandSHeadRun.denQ HandSHeadRun.tabQ) R.prog w) 14000 R.prog w os = x at h0 h1 h2 ⊢
  cases x with
  | none => cases h0
  | some s =>
    have h1 : obP fa1 fn1 s = valQ fn1 := Option.some.inj h1
    have h2 : obP fa2 fn2 s = valQ fn2 := Option.some.inj h2
    have h0 := Option.some.inj h0
    have a1 := (Prod.mk.inj h0).1
    have a2 := (Prod.mk.inj (Prod.mk.inj h0).2).1
    have a3 : obP fa0 fn0 s = valQ fn0 := (Prod.mk.inj (Prod.mk.inj h0).2).2
    have h : obP fa fn s = valQ fn := obP_app a3 (obP_app h1 (h2))
    exact congrArg some (Prod.ext a1 (Prod.ext a2 h))
end HdT
/-! ## Kit -/
set_option maxHeartbeats 2000000
/-! Small words for promises. -/
namespace Tx
open PySem PySem.Spec PyProof.Rows L2
/-- heaps: what stood stands, a dict perhaps locked -/
def Lx (H H' : Hp) : Prop := ∀ a o, H a = some o → H' a = some o ∨ ∃ od kvs, o = .dK kvs ∧ H' a = some (.frz od (.dK kvs))
theorem Lx.refl (H : Hp) : Lx H H := fun _ _ h => .inl h
theorem Lx.trans {H H1 H2 : Hp} (a : Lx H H1) (b : Lx H1 H2) : Lx H H2 := fun x o h => by
  rcases a x o h with h1 | ⟨od, kvs, e, h1⟩
  · exact b x o h1
  · rcases b x _ h1 with h2 | ⟨od', kvs', e', h2⟩
    · exact .inr ⟨od, kvs, e, h2⟩
    · cases e'
theorem lx {H H' : Hp} (h : Same H H') : Lx H H' := fun a o e => .inl (h a o e)
theorem Lx.lock {H : Hp} {d : Addr} {kvs : List (L2.Key × V)} {od : Obj} (h : H d = some (.dK kvs)) : Lx H (upd H d (.frz od (.dK kvs))) := fun a o e => by
  by_cases q : a = d
  · subst q
    rw [h] at e
    cases e
    exact .inr ⟨od, kvs, rfl, upd_same⟩
  · exact .inl (by rw [upd_ne q]; exact e)
theorem same_new {H : Hp} {p : Addr} {o : HO} (h : H p = none) : Same H (upd H p o) := fun a u e => by rw [upd_ne (ne_of_none e h)]; exact e
/-- the tuple at a, wherever -/
theorem lx_t {K : PySem.W.Frag} {H H' : Hp} {a : Addr} {xs : List V} (l : Lx H H') (h : SqT K H a xs) : SqT K H' a xs := by
  rcases h with (h | ⟨o, h⟩) | h
  · rcases l a _ h with h | ⟨_, _, e, _⟩
    · exact .inl (.inl h)
    · cases e
  · rcases l a _ h with h | ⟨_, _, e, _⟩
    · exact .inl (.inr ⟨o, h⟩)
    · cases e
  · exact .inr h
theorem lx_l {K : PySem.W.Frag} {H H' : Hp} {a : Addr} {xs : List V} (l : Lx H H') (h : SqL K H a xs) : SqL K H' a xs := by
  rcases h with (h | ⟨o, h⟩) | h
  · rcases l a _ h with h | ⟨_, _, e, _⟩
    · exact .inl (.inl h)
    · cases e
  · rcases l a _ h with h | ⟨_, _, e, _⟩
    · exact .inl (.inr ⟨o, h⟩)
    · cases e
  · exact .inr h
theorem lx_i {H H' : Hp} {a C dx : Addr} {fs : List (Str × V)} (l : Lx H H') (h : H a = some (.ins C dx fs)) : H' a = some (.ins C dx fs) := by
  rcases l a _ h with h | ⟨_, _, e, _⟩
  · exact h
  · cases e
/-- the dict at d, locked or not -/
def DV (H : Hp) (d : Addr) (kvs : List (L2.Key × V)) : Prop := H d = some (.dK kvs) ∨ ∃ od, H d = some (.frz od (.dK kvs))
theorem lx_d {H H' : Hp} {d : Addr} {kvs : List (L2.Key × V)} (l : Lx H H') (h : DV H d kvs) : DV H' d kvs := by
  rcases h with h | ⟨o, h⟩
  · rcases l d _ h with h | ⟨od, kvs', e, h⟩
    · exact .inl h
    · cases e
      exact .inr ⟨od, h⟩
  · rcases l d _ h with h | ⟨_, _, e, _⟩
    · exact .inr ⟨o, h⟩
    · cases e
section
variable {w : World} {K : PySem.W.Frag} {mg : Str → Option Value} {base : Heap} {k : Nat} {f : Addr} {x qual : Str} {params : Arguments} {body : List Stmt} {scope : Scope} {N ps : List Str} {sp : Sp}
abbrev Fn (w : World) (K : PySem.W.Frag) (mg : Str → Option Value) (base : Heap) (k : Nat) (f : Addr) (sp : Sp) : Prop := FnR PG0 w K mg base CX0 k f sp
abbrev cx (w : World) (K : PySem.W.Frag) (mg : Str → Option Value) (base : Heap) (N : List Str) (qual : Str) (scope : Scope) (f : Addr) (cdv : Value) (A : Around) (outer : List Env) (s : Shared) (H : Hp) (E : XK) : Cx := (cxOf CX0 PG0 w K mg base N qual scope f cdv A outer s H E).nox
/-- THE RULE for a plain def -/
theorem funR (F : ∃ fd, FunD K x qual params body scope [] [] f fd) (S : FnScope N ps scope)
    (hb : ∀ (kV doc pm : Value) (an : Option Addr) (cdv ct : Value) (us : List Value), us.length = ps.length → bindArgs (PySem.W.fnOf x qual params body scope .none kV doc pm an cdv ct) ⟨us, []⟩ = pure (ps.zip us))
    (len : ∀ vs H Q E, sp vs H Q E → vs.length = ps.length)
    (hbody : ∀ (cdv : Value) (A : Around) (outer : List Env) (s : Shared) (H : Hp) (vs : List V) (Q : VK) (E : XK), Room k (A.deeper (envOfC qual scope s.heap.objs.size f cdv)) → sp vs H Q E →
      ∃ t, PSs (cx w K mg base N qual scope f cdv A outer s H E) body t ∧ t { nx := fun _ H' => Q .non H', rt := Q } (start N vs) H) : Fn w K mg base (k + 1) f sp := by
  obtain ⟨fd, F⟩ := F
  have G : FnOk PG0 w K mg base CX0 (k + 1) f fd ps sp := F.ok S len fun cdv A outer s H vs Q E hr h => by
    obtain ⟨t, h1, h2⟩ := hbody cdv A outer s H vs Q E hr h
    exact ⟨t, h1.nox, h2⟩
  exact (G.raw (F.bindsN hb) .nil).imp fun vs H Q E h => by rw [List.append_nil]; exact h
end
/-! ### names -/
def letterB (c : Nat) : Bool := decide (c ∈ (Str.ofString "abcdefghijklmnopqrstuvwxyz").cps.toList)
/-- a good name -/
def nameB (x : Str) : Bool := decide (1 ≤ x.length) && decide (x.length ≤ 8) && x.cps.toList.all letterB
theorem bt_int : bootBuiltins "int" = some (.type "int") := by decide +kernel
theorem bt_bool : bootBuiltins "bool" = some (.type "bool") := by decide +kernel
theorem bt_str : bootBuiltins "str" = some (.type "str") := by decide +kernel
theorem bt_tuple : bootBuiltins "tuple" = some (.type "tuple") := by decide +kernel
theorem bt_list : bootBuiltins "list" = some (.type "list") := by decide +kernel
theorem bt_dict : bootBuiltins "dict" = some (.type "dict") := by decide +kernel
theorem bt_set : bootBuiltins "set" = some (.type "set") := by decide +kernel
theorem bt_isinstance : bootBuiltins "isinstance" = some (.builtin "isinstance") := by decide +kernel
theorem bt_len : bootBuiltins "len" = some (.builtin "len") := by decide +kernel
theorem bt_all : bootBuiltins "all" = some (.builtin "all") := by decide +kernel
theorem bt_any : bootBuiltins "any" = some (.builtin "any") := by decide +kernel
theorem bt_sorted : bootBuiltins "sorted" = some (.builtin "sorted") := by decide +kernel
theorem bt_min : bootBuiltins "min" = some (.builtin "min") := by decide +kernel
theorem bt_abs : bootBuiltins "abs" = some (.builtin "abs") := by decide +kernel
section
variable {X : Cx} {a c : Expr} {ta tc : TE} {p pos : Pos} {x : Str} {r : List V → Hp → VK → Prop}
/-- a built-in class as a value; a class of the text -/
theorem p_ty (n : String) (hm : X.mg (Str.ofString n) = none) (hv : bootBuiltins (Str.ofString n) = some (.type n)) (hg : Gl X (Str.ofString n) := by rfl) (hn : (Str.ofString n) ≠ "__name__" := by decide) (hd : (Str.ofString n == ("__debug__" : Str)) = false := by decide) : PE X (.Name (Str.ofString n) p) (tC (.ty n)) :=
  pe_bltn hg hm hv (show RelV (.ty n) (.type n) from rfl) hn hd
theorem p_cl {C : Addr} (hm : X.mg x = some (.ref C)) (hg : Gl X x := by rfl) (hd : (x == ("__debug__" : Str)) = false := by decide) : PE X (.Name x p) (tC (.ref C)) := pe_glob hg hm (show RelV (.ref C) (.ref C) from rfl) hd
theorem p_int {i : Int} (hm : ∃ t, X.mg x = some (.int i t)) (hg : Gl X x := by rfl) (hd : (x == ("__debug__" : Str)) = false := by decide) : PE X (.Name x p) (tC (.int i)) := by
  obtain ⟨t, h⟩ := hm
  exact pe_glob hg h (show RelV (.int i) (.int i t) from ⟨t, rfl⟩) hd
theorem p_st {z : Str} (hm : ∃ t, X.mg x = some (.str z t)) (hg : Gl X x := by rfl) (hd : (x == ("__debug__" : Str)) = false := by decide) : PE X (.Name x p) (tC (.str z)) := by
  obtain ⟨t, h⟩ := hm
  exact pe_glob hg h (show RelV (.str z) (.str z t) from ⟨t, rfl⟩) hd
/-- r at some values (not to be opened by the unifier) -/
structure AtR (r : List V → Hp → VK → Prop) (vs : List V) (H : Hp) (Q : VK) : Prop where
  out : r vs H Q
def tBr (r : List V → Hp → VK → Prop) (t : TA) : TE := fun σ H Q => t σ H fun vs H1 => AtR r vs H1 Q
theorem p_bn {id : String} {e : Expr} {es : List Expr} {t : TA} (hc : CallR X (.builtin id) r) (hv : bootBuiltins x = some (.builtin id)) (hm : X.mg x = none) (ha : PA X (e :: es) t) (hg : Gl X x := by rfl) (hn : x ≠ "__name__" := by decide) (hdb : (x == ("__debug__" : Str)) = false := by decide)
    (he : starEach (e :: es) X.env = (false, eval e X.env) :: starEach es X.env := by rfl) (hpl : (backTo pos (starEach es X.env)).any (·.1) = false := by rfl) : PE X (.Call (.Name x p) (e :: es) [] pos) (tBr r t) := by
  refine ⟨fun pins s σ H Q I h => ?_⟩
  refine wpAny_Call_Name_kw (ld_blt I hg hm hv ?_ hn hdb)
  exact PyProof.Rows.callWith_builtin1 (thn (ha.run pos pins s σ H _ I h) fun us s1 ⟨vs, H1, I1, r1, q1⟩ => hc pins s1 σ H1 vs us Q I1 r1 q1.out) he hpl
theorem p_tn {n : String} {e : Expr} {es : List Expr} {t : TA} (hc : CallR X (.type n) r) (hv : bootBuiltins x = some (.type n)) (hm : X.mg x = none) (ha : PA X (e :: es) t) (hg : Gl X x := by rfl) (hn : x ≠ "__name__" := by decide) (hdb : (x == ("__debug__" : Str)) = false := by decide)
    (he : starEach (e :: es) X.env = (false, eval e X.env) :: starEach es X.env := by rfl) (hpl : (backTo pos (starEach es X.env)).any (·.1) = false := by rfl) : PE X (.Call (.Name x p) (e :: es) [] pos) (tBr r t) := by
  refine ⟨fun pins s σ H Q I h => ?_⟩
  refine wpAny_Call_Name_kw (ld_blt I hg hm hv ?_ hn hdb)
  exact PyProof.Rows.callWith_type1 (thn (ha.run pos pins s σ H _ I h) fun us s1 ⟨vs, H1, I1, r1, q1⟩ => hc pins s1 σ H1 vs us Q I1 r1 q1.out) he hpl
/-- isinstance(a, c) -/
def tIsi (K : PySem.W.Frag) (ta tc : TE) : TE := tBr (rIsi K) (tCons ta (tCons tc tNil))
theorem p_isi (hm : X.mg "isinstance" = none) (ha : PE X a ta) (hc : PE X c tc) (hg : Gl X "isinstance" := by rfl)
    (h1 : starEach [a, c] X.env = (false, eval a X.env) :: starEach [c] X.env := by rfl) (h2 : starEach [c] X.env = (false, eval c X.env) :: starEach [] X.env := by rfl) (hp : (backTo pos (starEach [c] X.env)).any (·.1) = false := by rfl) :
    PE X (.Call (.Name "isinstance" p) [a, c] [] pos) (tIsi X.K ta tc) :=
  p_bn call_isi bt_isinstance hm (pa_cons ha (pa_cons hc pa_nil h2) h1) hg (by decide) (by decide) h1 hp
/-- a built-in with one argument -/
theorem p_b1 {id : String} (hr : CallR X (.builtin id) r) (hv : bootBuiltins x = some (.builtin id)) (hm : X.mg x = none) (ha : PE X a ta) (hg : Gl X x := by rfl)
    (h1 : starEach [a] X.env = (false, eval a X.env) :: starEach [] X.env := by rfl) (hn : x ≠ "__name__" := by decide) (hd : (x == ("__debug__" : Str)) = false := by decide) : PE X (.Call (.Name x p) [a] [] pos) (tBr r (tCons ta tNil)) :=
  p_bn hr hv hm (pa_cons ha pa_nil h1) hg hn hd h1 rfl
theorem p_t1 {n : String} (hr : CallR X (.type n) r) (hv : bootBuiltins x = some (.type n)) (hm : X.mg x = none) (ha : PE X a ta) (hg : Gl X x := by rfl)
    (h1 : starEach [a] X.env = (false, eval a X.env) :: starEach [] X.env := by rfl) (hn : x ≠ "__name__" := by decide) (hd : (x == ("__debug__" : Str)) = false := by decide) : PE X (.Call (.Name x p) [a] [] pos) (tBr r (tCons ta tNil)) :=
  p_tn hr hv hm (pa_cons ha pa_nil h1) hg hn hd h1 rfl
end
section
variable {K : PySem.W.Frag} {H : Hp}
theorem isi_int {i : Int} {Q : VK} (h : Q (.bl true) H) : AtR (rIsi K) [.int i, .ty "int"] H Q := ⟨⟨_, _, _, _, true, rfl, .ty _, .base (.int i), kit_ty (by decide +kernel), h⟩⟩
theorem isi_intb {i : Int} {Q : VK} (h : Q (.bl false) H) : AtR (rIsi K) [.int i, .ty "bool"] H Q := ⟨⟨_, _, _, _, false, rfl, .ty _, .base (.int i), kit_ty (by decide +kernel), h⟩⟩
theorem isi_str {x : Str} {Q : VK} (h : Q (.bl true) H) : AtR (rIsi K) [.str x, .ty "str"] H Q := ⟨⟨_, _, _, _, true, rfl, .ty _, .base (.str x), kit_ty (by decide +kernel), h⟩⟩
theorem isi_tup {a : Addr} {xs : List V} {Q : VK} (hs : SqT K H a xs) (h : Q (.bl true) H) : AtR (rIsi K) [.ref a, .ty "tuple"] H Q := by
  rcases hs with (e | ⟨o, e⟩) | ⟨o, its, n, e, c, _⟩
  · exact ⟨⟨_, _, _, _, true, rfl, .ty _, .base (.tup e), kit_ty (by decide +kernel), h⟩⟩
  · exact ⟨⟨_, _, _, _, true, rfl, .ty _, .fTuple e, kit_ty (by decide +kernel), h⟩⟩
  · exact ⟨⟨_, _, _, _, true, rfl, .ty _, .kTuple e c, kit_ty (by decide +kernel), h⟩⟩
theorem isi_dic {a : Addr} {kvs : List (L2.Key × V)} {Q : VK} (hs : DV H a kvs) (h : Q (.bl true) H) : AtR (rIsi K) [.ref a, .ty "dict"] H Q := by
  rcases hs with e | ⟨o, e⟩
  · exact ⟨⟨_, _, _, _, true, rfl, .ty _, .base (.dK e), kit_ty (by decide +kernel), h⟩⟩
  · exact ⟨⟨_, _, _, _, true, rfl, .ty _, .fDict e, kit_ty (by decide +kernel), h⟩⟩
theorem isi_own {a C D dx : Addr} {fs : List (Str × V)} {b : Bool} {Q : VK} (e : H a = some (.ins C dx fs)) (c : Cls K C) (t : TyC K C) (hk : PySem.W.kitOne K (.ref C) (.ref D) = some b) (h : Q (.bl b) H) : AtR (rIsi K) [.ref a, .ref D] H Q :=
  ⟨⟨_, _, _, _, b, rfl, .own _, .base (.ins e c t.ha t.hn t.ht t.hm), hk, h⟩⟩
end
end Tx
/-! ## Kit2 -/
namespace Tx
open PySem PySem.Spec PyProof.Rows L2
/-- a list comprehension over any iterator -/
theorem lc_any {J : It} {n : Nat} {g : TG} {tt : TT} {te : TE} {vs : List Nat} {σ : L2.St} {H1 : Hp} {D : Addr} {Qd : Hp → Prop} (Pv : Nat → Hp → Prop) (h0 : Pv 0 (upd H1 D (.lst [])))
    (go : ∀ i H, i < n → Pv i H → J.go i H) (st : ∀ H, Pv n H → J.stop n H)
    (hs : ∀ i x H H', i < n → Pv i H → J.yld i H x H' → g x (wipe σ vs) H' fun σ2 H2 => wipe σ2 vs = wipe σ vs ∧ tt σ2 H2 fun b H3 =>
      if b = true then te σ2 H3 fun y H4 => ∃ acc, H4 D = some (.lst acc) ∧ acc.length < sizeLine ∧ Pv (i + 1) (upd H4 D (.lst (acc ++ [y]))) else Pv (i + 1) H3) (hd : ∀ H, Pv n H → Qd H) :
    ∃ W : Nat → Nat → Hp → Prop, (∃ m, W 0 m (upd H1 D (.lst []))) ∧ ∀ i m H, W i m H →
      (J.stop i H ∧ Qd H) ∨ (J.go i H ∧ ∃ Nx : Hp → Prop, (∀ H', Nx H' → ∃ m', m' < m ∧ W (i + 1) m' H') ∧ ∀ x H', J.yld i H x H' → g x (wipe σ vs) H' fun σ2 H2 => wipe σ2 vs = wipe σ vs ∧ tt σ2 H2 fun b H3 =>
        if b = true then te σ2 H3 fun y H4 => ∃ acc, H4 D = some (.lst acc) ∧ acc.length < sizeLine ∧ Nx (upd H4 D (.lst (acc ++ [y]))) else Nx H3) := by
  refine ⟨fun i m H => m = n - i ∧ i ≤ n ∧ Pv i H, ⟨n, by simp, Nat.zero_le _, h0⟩, ?_⟩
  rintro i m H ⟨rfl, hi, p⟩
  by_cases hlt : i < n
  · exact .inr ⟨go i H hlt p, Pv (i + 1), fun H' p' => ⟨n - (i + 1), by omega, rfl, hlt, p'⟩, fun x H' y => hs i x H H' hlt p y⟩
  · obtain rfl : i = n := by omega
    exact .inl ⟨st H p, hd H p⟩
/-- what stands but at D -/
def SameX (D : Addr) (H H' : Hp) : Prop := ∀ a o, a ≠ D → H a = some o → H' a = some o
theorem same_x {D : Addr} {H H' : Hp} (s : Same H H') : SameX D H H' := fun a o _ e => s a o e
theorem sameX_upd {D : Addr} {H : Hp} {u : HO} : SameX D H (upd H D u) := fun a o n e => by rw [upd_ne n]; exact e
theorem SameX.trans {D : Addr} {H H1 H2 : Hp} (a : SameX D H H1) (b : SameX D H1 H2) : SameX D H H2 := fun c o n h => b c o n (a c o n h)
theorem sx_t {K : PySem.W.Frag} {D : Addr} {l : List V} {H H' : Hp} {a : Addr} {xs : List V} (hD : H D = some (.lst l)) (s : SameX D H H') (h : SqT K H a xs) : SqT K H' a xs := by
  rcases h with (h | ⟨o, h⟩) | h
  · exact .inl (.inl (s a _ (fun z => by rw [z, hD] at h; cases h) h))
  · exact .inl (.inr ⟨o, s a _ (fun z => by rw [z, hD] at h; cases h) h⟩)
  · exact .inr h
/-- .. with a word of what is made so far -/
theorem lc_gen {J : It} {n : Nat} {g : TG} {tt : TT} {te : TE} {vs : List Nat} {σ : L2.St} {H1 : Hp} {D : Addr} {Qd : Hp → Prop} (P : Nat → List V → Hp → Prop) (hD : H1 D = none) (hn : n ≤ 100000)
    (h0 : P 0 [] (upd H1 D (.lst []))) (hm : ∀ i acc l H H', H D = some (.lst l) → SameX D H H' → P i acc H → P i acc H')
    (go : ∀ i H, i < n → Same H1 H → J.go i H) (st : ∀ H, Same H1 H → J.stop n H)
    (hs : ∀ i acc x H H' (K1 : Hp → Prop) (K2 : VK), i < n → Same H1 H → P i acc H → J.yld i H x H' → (∀ v H4, Same H H4 → P (i + 1) (acc ++ [v]) H4 → K2 v H4) → (∀ H3, Same H H3 → P (i + 1) acc H3 → K1 H3) →
      g x (wipe σ vs) H' fun σ2 H2 => wipe σ2 vs = wipe σ vs ∧ tt σ2 H2 fun b H3 => if b = true then te σ2 H3 K2 else K1 H3)
    (hd : ∀ H acc, Same H1 H → H D = some (.lst acc) → P n acc H → Qd H) :
    ∃ W : Nat → Nat → Hp → Prop, (∃ m, W 0 m (upd H1 D (.lst []))) ∧ ∀ i m H, W i m H →
      (J.stop i H ∧ Qd H) ∨ (J.go i H ∧ ∃ Nx : Hp → Prop, (∀ H', Nx H' → ∃ m', m' < m ∧ W (i + 1) m' H') ∧ ∀ x H', J.yld i H x H' → g x (wipe σ vs) H' fun σ2 H2 => wipe σ2 vs = wipe σ vs ∧ tt σ2 H2 fun b H3 =>
        if b = true then te σ2 H3 fun y H4 => ∃ acc, H4 D = some (.lst acc) ∧ acc.length < sizeLine ∧ Nx (upd H4 D (.lst (acc ++ [y]))) else Nx H3) := by
  refine lc_any (n := n) (fun i H => Same H1 H ∧ ∃ acc, H D = some (.lst acc) ∧ acc.length ≤ i ∧ P i acc H) ⟨same_new hD, [], upd_same, Nat.le_refl _, h0⟩ (fun i H hi h => go i H hi h.1) (fun H h => st H h.1) (fun i x H H' hi ⟨s, acc, e, hl, p⟩ y => ?_) fun H ⟨s, acc, e, _, p⟩ => hd H acc s e p
  refine hs i acc x H H' _ _ hi s p y (fun v H4 s4 p4 => ⟨acc, s4 _ _ e, by have h2 := sizeLine_eq; omega, fun a o ha => ?_, acc ++ [v], upd_same, by rw [List.length_append, List.length_singleton]; omega, hm _ _ _ _ _ (s4 _ _ e) sameX_upd p4⟩) fun H3 s3 p3 => ⟨s.trans s3, acc, s3 _ _ e, by omega, p3⟩
  rw [upd_ne (ne_of_none ha hD)]
  exact s4 _ _ (s _ _ ha)
/-- .. whose elements are told exactly: F i, or left out -/
theorem lc_pure {J : It} {n : Nat} {g : TG} {tt : TT} {te : TE} {vs : List Nat} {σ : L2.St} {H1 : Hp} {D : Addr} {Qd : Hp → Prop} (F : Nat → Option V) (hD : H1 D = none) (hn : n ≤ 100000)
    (go : ∀ i H, i < n → Same H1 H → J.go i H) (st : ∀ H, Same H1 H → J.stop n H)
    (hs : ∀ i x H H' (K1 : Hp → Prop) (K2 : VK), i < n → Same H1 H → J.yld i H x H' → (∀ v H4, F i = some v → Same H H4 → K2 v H4) → (∀ H3, F i = none → Same H H3 → K1 H3) →
      g x (wipe σ vs) H' fun σ2 H2 => wipe σ2 vs = wipe σ vs ∧ tt σ2 H2 fun b H3 => if b = true then te σ2 H3 K2 else K1 H3)
    (hd : ∀ H, Same H1 H → H D = some (.lst ((List.range n).filterMap F)) → Qd H) :
    ∃ W : Nat → Nat → Hp → Prop, (∃ m, W 0 m (upd H1 D (.lst []))) ∧ ∀ i m H, W i m H →
      (J.stop i H ∧ Qd H) ∨ (J.go i H ∧ ∃ Nx : Hp → Prop, (∀ H', Nx H' → ∃ m', m' < m ∧ W (i + 1) m' H') ∧ ∀ x H', J.yld i H x H' → g x (wipe σ vs) H' fun σ2 H2 => wipe σ2 vs = wipe σ vs ∧ tt σ2 H2 fun b H3 =>
        if b = true then te σ2 H3 fun y H4 => ∃ acc, H4 D = some (.lst acc) ∧ acc.length < sizeLine ∧ Nx (upd H4 D (.lst (acc ++ [y]))) else Nx H3) := by
  refine lc_gen (fun i acc _ => acc = (List.range i).filterMap F) hD hn rfl (fun _ _ _ _ _ _ _ h => h) go st (fun i acc x H H' K1 K2 hi s p y k2 k1 => hs i x H H' K1 K2 hi s y (fun v H4 e s4 => k2 v H4 s4 ?_) fun H3 e s3 => k1 H3 s3 ?_) fun H acc s e p => hd H s (by rw [← p]; exact e)
  · rw [p, List.range_succ, List.filterMap_append, List.filterMap_cons_some e] <;> rfl
  · rw [p, List.range_succ, List.filterMap_append, List.filterMap_cons_none e]; simp
theorem range_map {α : Type} (xs : List α) (f : α → Option V) : (List.range xs.length).filterMap (fun i => xs[i]?.bind f) = xs.filterMap f := by
  have key : ∀ n, n ≤ xs.length → (List.range n).filterMap (fun i => xs[i]?.bind f) = (xs.take n).filterMap f := by
    intro n
    induction n with
    | zero => intro _; rfl
    | succ n ih =>
      intro h
      rw [List.range_succ, List.filterMap_append, ih (by omega), List.take_succ, List.filterMap_append, List.getElem?_eq_getElem (by omega : n < xs.length)]
      simp only [List.filterMap_cons, List.filterMap_nil, Option.bind_some, Option.toList_some]
      simp [List.getElem?_eq_getElem (by omega : n < xs.length)]
  rw [key xs.length (Nat.le_refl _), List.take_length]
theorem t_yes {te : TE} {σ : L2.St} {H : Hp} {K1 : Hp → Prop} {K2 : VK} (h : te σ H K2) : tYes σ H (fun b H3 => if b = true then te σ H3 K2 else K1 H3) := by
  show (if true = true then te σ H K2 else K1 H)
  rw [if_pos rfl]
  exact h
theorem fm_some {α : Type} (l : List α) (f : α → V) : l.filterMap (fun x => some (f x)) = l.map f := by
  show l.filterMap (some ∘ f) = l.map f
  rw [List.filterMap_eq_map]
/-- a for over any iterator -/
theorem for_any {J : It} {n : Nat} {g : TG} {tb : TS} {D : Ends} {σ : L2.St} {H : Hp} (Pv : Nat → L2.St → Hp → Prop) (h0 : Pv 0 σ H) (go : ∀ i σ H, i < n → Pv i σ H → J.go i H) (st : ∀ σ H, Pv n σ H → J.stop n H)
    (hs : ∀ i x σ H H', i < n → Pv i σ H → J.yld i H x H' → g x σ H' fun σ2 H2 => tb { D with nx := Pv (i + 1), ct := Pv (i + 1), bk := D.nx } σ2 H2) (hd : ∀ σ H, Pv n σ H → D.nx σ H) :
    ∃ W : Nat → Nat → L2.St → Hp → Prop, (∃ m, W 0 m σ H) ∧ ∀ i m σ H, W i m σ H →
      (J.stop i H ∧ D.nx σ H) ∨ (J.go i H ∧ ∃ N : L2.St → Hp → Prop, (∀ σ' H', N σ' H' → ∃ m', m' < m ∧ W (i + 1) m' σ' H') ∧ ∀ x H', J.yld i H x H' → g x σ H' fun σ2 H2 => tb { D with nx := N, ct := N, bk := D.nx } σ2 H2) := by
  refine ⟨fun i m σ H => m = n - i ∧ i ≤ n ∧ Pv i σ H, ⟨n, by simp, Nat.zero_le _, h0⟩, ?_⟩
  rintro i m σ H ⟨rfl, hi, p⟩
  by_cases hlt : i < n
  · exact .inr ⟨go i σ H hlt p, Pv (i + 1), fun σ' H' p' => ⟨n - (i + 1), by omega, rfl, hlt, p'⟩, fun x H' y => hs i x σ H H' hlt p y⟩
  · obtain rfl : i = n := by omega
    exact .inl ⟨st σ H p, hd σ H p⟩
end Tx
/-! ## DNames -/
namespace Tx
open PySem PySem.Spec PyProof.Rows L2
section
variable {w : World} {K : PySem.W.Frag} {mg : Str → Option Value} {base : Heap} (T : Txt K mg)
/-- isinstance(i, int), a built-in class -/
theorem sc_is_int : FnScope ["value"] ["value"] (defScope (top 26)) := ⟨rfl, rfl, rfl, by decide +kernel, rfl, by decide +kernel, by decide +kernel⟩
def spIsInt : Sp := fun vs H Q _ => ∃ i, vs = [.int i] ∧ Q (.bl true) H
include T in
theorem ok_is_int : Fn w K mg base 1 (He.ga K "is_int") spIsInt := by
  refine funR T.f_is_int sc_is_int (fun _ _ _ _ _ _ us hl => match us, hl with | [_], _ => rfl) (fun vs H Q E h => ?_) (fun cdv A outer s H vs Q E hr h => ?_)
  · obtain ⟨i, rfl, _⟩ := h; rfl
  obtain ⟨i, rfl, q⟩ := h
  refine ⟨_, pss_one (ps_ret (pe_and (p_isi T.n_isinstance (pv 0) (p_ty "int" T.n_int bt_int)) (pe_one (pe_not (p_isi T.n_isinstance (pv 0) (p_ty "bool" T.n_bool bt_bool)))))), ?_⟩
  exact ⟨_, rfl, isi_int ⟨true, rfl, ⟨_, rfl, isi_intb ⟨false, rfl, q⟩⟩⟩⟩
/-- least <= i <= most -/
theorem sc_is_between : FnScope ["value", "least", "most"] ["value", "least", "most"] (defScope (top 27)) := ⟨rfl, rfl, rfl, by decide +kernel, rfl, by decide +kernel, by decide +kernel⟩
def spBetw : Sp := fun vs H Q _ => ∃ i j k, vs = [.int i, .int j, .int k] ∧ j ≤ i ∧ i ≤ k ∧ Q (.bl true) H
include T in
theorem ok_is_between : Fn w K mg base 2 (He.ga K "is_between") spBetw := by
  refine funR T.f_is_between sc_is_between (fun _ _ _ _ _ _ us hl => match us, hl with | [_, _, _], _ => rfl) (fun vs H Q E h => ?_) (fun cdv A outer s H vs Q E hr h => ?_)
  · obtain ⟨i, j, k, rfl, _⟩ := h; rfl
  obtain ⟨i, j, k, rfl, h1, h2, q⟩ := h
  refine ⟨_, pss_one (ps_ret (pe_and (Own.pe_call (ok_is_int T) hr (by rfl) T.g_is_int T.k_is_int (pa_cons (pv 0) pa_nil)) (pe_one (pe_chain op_le op_le (pv 1) (pv 0) (pv 2))))), ?_⟩
  refine ⟨_, rfl, ⟨⟨i, rfl, true, rfl, ?_⟩⟩⟩
  refine ⟨_, rfl, _, rfl, _, _, rfl, rfl, _, rfl, ?_⟩
  show if decide (j ≤ i) = true then _ else _
  rw [decide_eq_true h1]
  refine iteT ⟨_, rfl, _, _, rfl, rfl, ?_⟩
  show Q (.bl (decide (i ≤ k))) H
  rw [decide_eq_true h2]
  exact q
theorem sc_is_price : FnScope ["value"] ["value"] (defScope (top 29)) := ⟨rfl, rfl, rfl, by decide +kernel, rfl, by decide +kernel, by decide +kernel⟩
def spPrice : Sp := fun vs H Q _ => ∃ i : Int, vs = [.int i] ∧ -999999999999 ≤ i ∧ i ≤ 999999999999 ∧ Q (.bl true) H
include T in
theorem ok_is_price : Fn w K mg base 3 (He.ga K "is_price") spPrice := by
  refine funR T.f_is_price sc_is_price (fun _ _ _ _ _ _ us hl => match us, hl with | [_], _ => rfl) (fun vs H Q E h => ?_) (fun cdv A outer s H vs Q E hr h => ?_)
  · obtain ⟨i, rfl, _⟩ := h; rfl
  obtain ⟨i, rfl, h1, h2, q⟩ := h
  refine ⟨_, pss_one (ps_ret (Own.pe_call (ok_is_between T) hr (by rfl) T.g_is_between T.k_is_between (pa_cons (pv 0) (pa_cons (pe_un un_neg (p_int T.i_MOST_PRICE)) (pa_cons (p_int T.i_MOST_PRICE) pa_nil))))), ?_⟩
  exact ⟨_, rfl, _, rfl, ⟨⟨_, _, _, rfl, h1, h2, q⟩⟩⟩
theorem sc_is_need : FnScope ["value"] ["value"] (defScope (top 30)) := ⟨rfl, rfl, rfl, by decide +kernel, rfl, by decide +kernel, by decide +kernel⟩
def spNeed : Sp := fun vs H Q _ => ∃ i : Int, vs = [.int i] ∧ 1 ≤ i ∧ i ≤ 20 ∧ Q (.bl true) H
include T in
theorem ok_is_need : Fn w K mg base 3 (He.ga K "is_need") spNeed := by
  refine funR T.f_is_need sc_is_need (fun _ _ _ _ _ _ us hl => match us, hl with | [_], _ => rfl) (fun vs H Q E h => ?_) (fun cdv A outer s H vs Q E hr h => ?_)
  · obtain ⟨i, rfl, _⟩ := h; rfl
  obtain ⟨i, rfl, h1, h2, q⟩ := h
  refine ⟨_, pss_one (ps_ret (Own.pe_call (ok_is_between T) hr (by rfl) T.g_is_between T.k_is_between (pa_cons (pv 0) (pa_cons pe_int (pa_cons (p_int T.i_MOST_NEED) pa_nil))))), ?_⟩
  exact ⟨_, rfl, ⟨⟨_, _, _, rfl, h1, h2, q⟩⟩⟩
/-- is_name -/
theorem sc_is_name : FnScope ["value", "letter"] ["value"] (defScope (top 28)) := ⟨rfl, rfl, rfl, by decide +kernel, rfl, by decide +kernel, by decide +kernel⟩
def spName : Sp := fun vs H Q _ => ∃ x, vs = [.str x] ∧ nameB x = true ∧ ∀ H', Same H H' → Q (.bl true) H'
include T in
theorem ok_is_name : Fn w K mg base 1 (He.ga K "is_name") spName := by
  refine funR T.f_is_name sc_is_name (fun _ _ _ _ _ _ us hl => match us, hl with | [_], _ => rfl) (fun vs H Q E h => ?_) (fun cdv A outer s H vs Q E hr h => ?_)
  · obtain ⟨i, rfl, _⟩ := h; rfl
  obtain ⟨x, rfl, hx, q⟩ := h
  refine ⟨_, pss_cons (ps_if (PW.pt (pw_or (pt_not (pt_val (p_isi T.n_isinstance (pv 0) (p_ty "str" T.n_str bt_str)))) (pw_or1 (pt_not (pt_chain op_le op_le pe_int (p_b1 call_len_str bt_len T.n_len (pv 0)) (p_int T.i_MOST_LETTERS)))))) pss_never pss_nil)
    (pss_one (ps_ret (p_b1 (cr_all rfl) bt_all T.n_all (pe_lc (own := [("letter", 1)]) (g := gName 1) (tt := tYes) rfl sc_is_name.nd (pi_str (pv 0)) (blkOk_by (N := ["value", "letter"]) (sc := defScope (top 28)) (by decide +kernel)) (fun _ _ _ _ _ => pg_name (i := 1) sc_is_name.nd rfl (Or.inl rfl)) (fun _ _ _ _ _ => pts_nil)
      (fun _ _ _ _ _ => pe_cmpR op_in_sign (pv 1) (p_st T.s_LETTERS) (by rfl)))))), ?_⟩
  have hx' := hx
  unfold nameB at hx
  rw [Bool.and_eq_true, Bool.and_eq_true, decide_eq_true_eq, decide_eq_true_eq, List.all_eq_true] at hx
  obtain ⟨⟨h1, h2⟩, h3⟩ := hx
  have hz : x.length ≤ sizeLine := by rw [sizeLine_eq]; omega
  refine ⟨_, rfl, isi_str ⟨true, rfl, iteF ⟨_, rfl, ⟨⟨x, rfl, hz, _, _, rfl, rfl, _, rfl, ?_⟩⟩⟩⟩⟩
  have e1 : decide ((1 : Int) ≤ (x.length : Int)) = true := decide_eq_true (by omega)
  have e2 : decide ((x.length : Int) ≤ 8) = true := decide_eq_true (by omega)
  rw [e1]
  refine iteT ⟨_, _, rfl, rfl, _, rfl, ?_⟩
  rw [e2]
  refine iteF ?_
  refine ⟨_, rfl, x, rfl, fun D hD => ?_⟩
  refine lc_pure (n := x.cps.size) (fun _ => some (.bl true)) hD (by show x.length ≤ _; omega) (fun i H hi _ => hi) (fun H _ => Nat.le_refl _) (fun i v H' H2 K1 K2 hi s1 y k2 k1 => ?_) (fun H2 s2 e => ?_)
  · obtain ⟨rfl, c, hc, rfl⟩ := y
    refine ⟨rfl, t_yes ?_⟩
    refine ⟨_, rfl, c, _, rfl, rfl, k2 _ _ ?_ (Same.refl _)⟩
    have := h3 c (by rw [Array.mem_toList_iff]; exact Array.mem_of_getElem? hc)
    unfold letterB at this
    rw [this]
  · refine ⟨⟨D, (List.range x.cps.size).map fun _ => true, rfl, .inl (.inl ?_), ?_⟩⟩
    · rw [e]
      congr 2
      rw [List.map_map, fm_some]; rfl
    · have e3 : ((List.range x.cps.size).map fun _ => true).all id = true := by rw [List.all_eq_true]; intro b hb; obtain ⟨_, _, rfl⟩ := List.mem_map.mp hb; rfl
      rw [e3]
      exact q _ s2
end
end Tx
/-! ## DStreets -/
namespace Tx
open PySem PySem.Spec PyProof.Rows L2
section
variable {w : World} {K : PySem.W.Frag} {mg : Str → Option Value} {base : Heap} (T : Txt K mg)
def ltS (a b : Str) : Bool := decide (a.cps.toList < b.cps.toList)
def loS (a b : Str) : Str := if ltS a b then a else b
def hiS (a b : Str) : Str := if ltS a b then b else a
def spNeedEnds : Sp := fun vs H Q _ => ∃ n a b, vs = [.str n, .str a, .str b] ∧ nameB n = true ∧ nameB a = true ∧ nameB b = true ∧ a ≠ b ∧ ∀ H', Same H H' → Q .non H'
theorem sc_need_ends : FnScope ["name", "first", "second"] ["name", "first", "second"] (defScope (top 42)) := ⟨rfl, rfl, rfl, by decide +kernel, rfl, by decide +kernel, by decide +kernel⟩
include T in
theorem ok_need_ends : Fn w K mg base 2 (He.ga K "need_ends") spNeedEnds := by
  refine funR T.f_need_ends sc_need_ends (fun _ _ _ _ _ _ us hl => match us, hl with | [_, _, _], _ => rfl) (fun vs H Q E h => ?_) (fun cdv A outer s H vs Q E hr h => ?_)
  · obtain ⟨n, a, b, rfl, _⟩ := h; rfl
  obtain ⟨n, a, b, rfl, h1, h2, h3, h4, q⟩ := h
  refine ⟨_, pss_cons (ps_if (pt_not (pt_val (Own.pe_call (ok_is_name T) hr (by rfl) T.g_is_name T.k_is_name (pa_cons (pv 0) pa_nil)))) pss_never pss_nil)
    (pss_cons (ps_if (PW.pt (pw_or (pt_not (pt_val (Own.pe_call (ok_is_name T) hr (by rfl) T.g_is_name T.k_is_name (pa_cons (pv 1) pa_nil)))) (pw_or1 (pt_not (pt_val (Own.pe_call (ok_is_name T) hr (by rfl) T.g_is_name T.k_is_name (pa_cons (pv 2) pa_nil))))))) pss_never pss_nil)
    (pss_one (ps_if (pt_cmpR op_eq (pv 1) (pv 2) (nomark _)) pss_never pss_nil))), ?_⟩
  refine ⟨_, rfl, ⟨⟨n, rfl, h1, fun H1 s1 => ⟨true, rfl, iteF ?_⟩⟩⟩⟩
  refine ⟨_, rfl, ⟨⟨a, rfl, h2, fun H2 s2 => ⟨true, rfl, iteF ?_⟩⟩⟩⟩
  refine ⟨_, rfl, ⟨⟨b, rfl, h3, fun H3 s3 => ⟨true, rfl, iteF ?_⟩⟩⟩⟩
  refine ⟨_, rfl, _, rfl, rfl, _, rfl, ?_⟩
  have e : decide (V.str a = V.str b) = false := decide_eq_false fun z => h4 (by injection z)
  rw [e]
  exact iteF (q _ ((s1.trans s2).trans s3))
def spNeedPrices : Sp := fun vs H Q _ => ∃ i j : Int, vs = [.int i, .int j] ∧ (-999999999999 ≤ i ∧ i ≤ 999999999999) ∧ (-999999999999 ≤ j ∧ j ≤ 999999999999) ∧ ∀ H', Same H H' → Q .non H'
theorem sc_need_prices : FnScope ["there", "back", "value"] ["there", "back"] (defScope (top 43)) := ⟨rfl, rfl, rfl, by decide +kernel, rfl, by decide +kernel, by decide +kernel⟩
include T in
theorem ok_need_prices : Fn w K mg base 4 (He.ga K "need_prices") spNeedPrices := by
  refine funR T.f_need_prices sc_need_prices (fun _ _ _ _ _ _ us hl => match us, hl with | [_, _], _ => rfl) (fun vs H Q E h => ?_) (fun cdv A outer s H vs Q E hr h => ?_)
  · obtain ⟨i, j, rfl, _⟩ := h; rfl
  obtain ⟨i, j, rfl, h1, h2, q⟩ := h
  refine ⟨_, pss_one (ps_for PassesOwn.never rfl (pi_tup (pe_tup (pa_cons (pv 0) (pa_cons (pv 1) pa_nil)))) (pg_name (i := 2) sc_need_prices.nd rfl (Or.inl rfl))
    (pss_one (ps_if (pt_not (pt_val (Own.pe_call (ok_is_price T) hr (by rfl) T.g_is_price T.k_is_price (pa_cons (pv 2) pa_nil)))) pss_never pss_nil))), ?_⟩
  refine ⟨_, rfl, _, rfl, by show 2 ≤ sizeLine; decide, fun t ht => ⟨t, rfl, ⟨_, .inl (.inl upd_same)⟩, ?_⟩⟩
  refine for_tup (xs := [.int i, .int j]) (fun k σ' H' => σ'.length = 3 ∧ Same (upd H t (.tup [.int i, .int j])) H') ⟨rfl, Same.refl _⟩ (fun k σ' H' _ p => .inl (.inl (p.2 t _ upd_same))) (fun k x σ' H' hx p => ?_) (fun σ' H' p => q _ ((same_new ht).trans p.2))
  obtain ⟨hl, sm⟩ := p
  obtain ⟨z, rfl, hz⟩ : ∃ z, x = .int z ∧ (-999999999999 ≤ z ∧ z ≤ 999999999999) := by
    match k, hx with
    | 0, hx => exact ⟨i, (Option.some.inj hx).symm, h1⟩
    | 1, hx => exact ⟨j, (Option.some.inj hx).symm, h2⟩
    | k + 2, hx => cases hx
  refine ⟨_, by show (σ'.set 2 (some (V.int z)))[2]? = _; rw [List.getElem?_set_self (by omega)], ⟨⟨z, rfl, hz.1, hz.2, ⟨true, rfl, iteF ?_⟩⟩⟩⟩
  exact ⟨by show (σ'.set 2 (some (V.int z))).length = 3; rw [List.length_set]; exact hl, sm⟩
/-- the first __init__: name and both -/
def spStreetInit (K : PySem.W.Frag) : Sp := fun vs H Q _ => ∃ x C dx n a b, vs = [.ref x, .str n, .str a, .str b] ∧ H x = some (.ins C dx []) ∧ Cls K C ∧ NoAttr K C "name" ∧ NoAttr K C "both" ∧
  nameB n = true ∧ nameB a = true ∧ nameB b = true ∧ a ≠ b ∧
  ∀ t H', SameX x H H' → H' x = some (.ins C dx [("name", .str n), ("both", .ref t)]) → H' t = some (.tup [.str (loS a b), .str (hiS a b)]) → Q .non H'
theorem sc_Street_init : FnScope ["self", "name", "first", "second"] ["self", "name", "first", "second"] (defScope (mth 44 3)) := ⟨rfl, rfl, rfl, by decide +kernel, rfl, by decide +kernel, by decide +kernel⟩
include T in
theorem ok_Street_init : Fn w K mg base 3 (He.ma K (He.ga K "Street") "__init__") (spStreetInit K) := by
  refine funR T.f_Street_init sc_Street_init (fun _ _ _ _ _ _ us hl => match us, hl with | [_, _, _, _], _ => rfl) (fun vs H Q E h => ?_) (fun cdv A outer s H vs Q E hr h => ?_)
  · obtain ⟨x, C, dx, n, a, b, rfl, _⟩ := h; rfl
  obtain ⟨x, C, dx, n, a, b, rfl, hx, hc, hn1, hn2, h1, h2, h3, h4, q⟩ := h
  refine ⟨_, pss_cons (ps_expr (Own.pe_call (ok_need_ends T) hr (by rfl) T.g_need_ends T.k_need_ends (pa_cons (pv 1) (pa_cons (pv 2) (pa_cons (pv 3) pa_nil)))))
    (pss_cons (ps_fld (pv 0) (pv 1) rfl) (pss_one (ps_fld (pv 0) (pe_ifExp (pt_cmpR op_lt_str (pv 2) (pv 3) (nomark _)) (pe_tup (pa_cons (pv 2) (pa_cons (pv 3) pa_nil))) (pe_tup (pa_cons (pv 3) (pa_cons (pv 2) pa_nil)))) rfl))), ?_⟩
  refine ⟨_, rfl, _, rfl, _, rfl, ⟨⟨n, a, b, rfl, h1, h2, h3, h4, fun H1 s1 => ?_⟩⟩⟩
  refine ⟨_, rfl, _, rfl, x, C, dx, [], rfl, s1 _ _ hx, hc, hn1, by show 0 < 1000; decide, ?_⟩
  have s2 : SameX x H (upd H1 x (.ins C dx [("name", V.str n)])) := (same_x s1).trans sameX_upd
  have fin : ∀ (c d : Str), c = loS a b → d = hiS a b → tTup (tCons (tC (.str c)) (tCons (tC (.str d)) tNil)) [] (upd H1 x (.ins C dx [("name", V.str n)])) (fun y H2 => ∃ a' C' dx' fs', V.ref x = .ref a' ∧ H2 a' = some (.ins C' dx' fs') ∧ Cls K C' ∧ NoAttr K C' "both" ∧ fs'.length < 1000 ∧ Q .non (upd H2 a' (.ins C' dx' (putF "both" y fs')))) := by
    intro c d ec ed
    refine ⟨by show 2 ≤ sizeLine; decide, fun t ht => ⟨x, C, dx, [("name", .str n)], rfl, ?_, hc, hn2, by show 1 < 1000; decide, q t _ ?_ ?_ ?_⟩⟩
    · have ne : x ≠ t := fun z => by rw [← z, upd_same] at ht; cases ht
      rw [upd_ne ne, upd_same]
    · exact (s2.trans (same_x (same_new ht))).trans sameX_upd
    · rw [upd_same] <;> rfl
    · have ne : t ≠ x := fun z => by rw [z, upd_same] at ht; cases ht
      rw [upd_ne ne, upd_same, ec, ed]
  refine ⟨_, rfl, _, rfl, a, b, rfl, rfl, _, rfl, ?_⟩
  by_cases lt : a.cps.toList < b.cps.toList
  · have e : ltS a b = true := decide_eq_true lt
    rw [decide_eq_true lt]
    refine iteT ⟨_, rfl, _, rfl, ?_⟩
    have z := fin a b (by unfold loS; rw [e]; rfl) (by unfold hiS; rw [e]; rfl)
    obtain ⟨z1, z2⟩ := z
    exact ⟨z1, fun t ht => ⟨_, rfl, z2 t ht⟩⟩
  · have e : ltS a b = false := decide_eq_false lt
    rw [decide_eq_false lt]
    refine iteF ⟨_, rfl, _, rfl, ?_⟩
    have z := fin b a (by unfold loS; rw [e]; rfl) (by unfold hiS; rw [e]; rfl)
    obtain ⟨z1, z2⟩ := z
    exact ⟨z1, fun t ht => ⟨_, rfl, z2 t ht⟩⟩
end
section
variable {w : World} {K : PySem.W.Frag} {mg : Str → Option Value} {base : Heap} {k : Nat} {f f2 C D cc cda : Addr} {x qual : Str} {params : Arguments} {body rest : List Stmt} {scope : Scope} {dvs : List V} {N ps : List Str} {sp sp2 : Sp} {p0 p1 apos pos pos2 : Pos} {e : Expr} {es : List Expr} {ar : Arg}
abbrev sx (w : World) (K : PySem.W.Frag) (mg : Str → Option Value) (base : Heap) (N : List Str) (x qual : Str) (params : Arguments) (body : List Stmt) (scope : Scope) (cc cda f : Addr) (A : Around) (outer : List Env) (s : Shared) (H : Hp) : Cx := SupI.supX PG0 w K mg base N x qual params body scope cc cda f A outer s H
/-- THE RULE for an __init__ that begins with super().__init__(..) -/
theorem funS (F : FunS K x qual params body scope dvs f cc cda) (hB : body = SupI.supB p0 p1 apos pos pos2 "__init__" e es rest) (S : NdefX.NScope N ps ["__class__"] scope) (FD : SupI.SupD PG0 K mg D cc cda) (G : SupI.SupC K D C f2 "__init__")
    (F2 : Fn w K mg base k f2 sp2) (hp : (params.posonlyargs ++ params.args).head? = some ar) (hks : scope.names.lookup ("super" : Str) = some .globalImplicit) (hN : N[0]? = some ar.arg) (hl : scope.names.lookup ar.arg = some .local)
    (hb : ∀ (dV kV doc pm : Value) (an : Option Addr) (ct : Value), DflV K dV dvs → Binds K (PySem.W.ksFn x qual params body scope dV kV doc pm an (.ref cda) ct cc) ps []) (len : ∀ vs H Q E, sp vs H Q E → vs.length = ps.length)
    (hev : ∀ env : Env, eval (.Call (.Attribute (.Call (.Name "super" p0) [] [] p1) "__init__" apos) (e :: es) [] pos) env = (do
      let ov ← attributeBase (.Call (.Name "super" p0) [] [] p1) "__init__" env (eval (.Call (.Name "super" p0) [] [] p1) env)
      standAt apos.atName
      let (f, first) ← holding [ov] (getMethod ov "__init__" (pure false))
      callWith pos f first (backTo pos (starEach (e :: es) env)) []))
    (hst : ∀ env : Env, starEach (e :: es) env = (false, eval e env) :: starEach es env) (hpl : ∀ env : Env, (backTo pos (starEach es env)).any (·.1) = false)
    (hsw : ∀ env : Env, swapsWith (.Call (.Attribute (.Call (.Name "super" p0) [] [] p1) "__init__" apos) (e :: es) [] pos) none pos2.line env = pure false)
    (hi : ∀ L : Addr, interactive (PySem.W.ksEnv qual scope L f (.ref cda) cc) = false)
    (hbody : ∀ (A : Around) (outer : List Env) (s : Shared) (H : Hp) (vs : List V) (Q : VK) (E : XK), Room k (A.deeper (PySem.W.ksEnv qual scope s.heap.objs.size f (.ref cda) cc)) → sp vs H Q E →
      ∃ x0 dx fs t tr, vs[0]? = some (V.ref x0) ∧ H x0 = some (.ins C dx fs) ∧ PA (sx w K mg base N x qual params body scope cc cda f A outer s H) (e :: es) t ∧
        PSs (sx w K mg base N x qual params body scope cc cda f A outer s H) rest tr ∧
        t (NdefX.startF N vs [none]) H (fun ws H1 => Own.Sat sp2 (.ref x0 :: ws) H1 (fun v H2 => tr { nx := fun _ H' => Q .non H', rt := Q } (NdefX.startF N vs [none]) H2))) : Fn w K mg base (k + 1) f sp := by
  obtain ⟨oc, od, dV, kV, doc, pm, an, ct, osl, lk, hcd, hd⟩ := F.ex
  subst hB
  refine SupI.fn_super lk hcd S FD G F2 hp hks hN hl (by decide) (hb _ _ _ _ _ _ hd) len hev hst hpl hsw hi fun A outer s H vs Q E hr h => ?_
  obtain ⟨x0, dx, fs, t, tr, h1, h2, h3, h4, h5⟩ := hbody A outer s H vs Q E hr h
  exact ⟨x0, dx, fs, t, tr, h1, h2, h3, h4, h5⟩
end
section
variable {w : World} {K : PySem.W.Frag} {mg : Str → Option Value} {base : Heap} (T : Txt K mg)
theorem nsc (N ps : List Str) (sc : Scope) (h : NdefX.nscB N ps ["__class__"] sc = true) : NdefX.NScope N ps ["__class__"] sc := NdefX.nscope_by h
abbrev FdF : Type := Str → Str → Str → Addr → List (Str × V)
def fd0 : FdF := fun n _ _ t => [("name", .str n), ("both", .ref t)]
def fdE : FdF := fun n a b t => [("name", .str n), ("both", .ref t), ("one", .str (loS a b)), ("other", .str (hiS a b))]
def fdL : FdF := fun n a b t => [("name", .str n), ("both", .ref t), ("start", .str a), ("goal", .str b)]
/-- an __init__ of a name and two ends at an instance of the class at C -/
def spI (C : Addr) (F : FdF) : Sp := fun vs H Q _ => ∃ x dx n a b, vs = [.ref x, .str n, .str a, .str b] ∧ H x = some (.ins C dx []) ∧ nameB n = true ∧ nameB a = true ∧ nameB b = true ∧ a ≠ b ∧
  ∀ t H', SameX x H H' → H' x = some (.ins C dx (F n a b t)) → H' t = some (.tup [.str (loS a b), .str (hiS a b)]) → Q .non H'
theorem spI_len {C : Addr} {F : FdF} {ps : List Str} (h : ps.length = 4) : ∀ vs H Q E, spI C F vs H Q E → vs.length = ps.length := fun vs H Q E ⟨_, _, _, _, _, e, _⟩ => by rw [e, h]; rfl
theorem spI_of {C : Addr} (hc : Cls K C) (h1 : NoAttr K C "name") (h2 : NoAttr K C "both") : ∀ vs H Q, Own.Sat (spI C fd0) vs H Q → Own.Sat (spStreetInit K) vs H Q := fun vs H Q ⟨x, dx, n, a, b, e, hx, a1, a2, a3, a4, q⟩ =>
  ⟨x, C, dx, n, a, b, e, hx, hc, h1, h2, a1, a2, a3, a4, q⟩
theorem sn_Settled_Lane : NdefX.NScope ["self", "name", "first", "second", "__class__"] ["self", "name", "first", "second"] ["__class__"] (defScope (mth 45 2)) := nsc _ _ _ (by decide +kernel)
include T in
theorem ok_Settled_Lane : Fn w K mg base 4 (He.ma K (He.ga K "Settled") "__init__") (spI (He.ga K "Lane") fd0) := by
  refine funS T.f_Settled_init (by rfl) sn_Settled_Lane T.sd_Settled T.sc_Settled_Lane (ok_Street_init T) rfl rfl rfl rfl (fun dV kV doc pm an ct hd => by rcases hd with ⟨_, rfl⟩ | ⟨z, _⟩; exact Binds.all (fun us hl => match us, hl with | [_, _, _, _], _ => rfl); exact absurd rfl z) (spI_len rfl) (fun _ => rfl) (fun _ => rfl) (fun _ => rfl) (fun _ => rfl) (fun _ => rfl) (fun A outer s H vs Q E hr h => ?_)
  obtain ⟨x, dx, n, a, b, rfl, hx, h1, h2, h3, h4, q⟩ := h
  refine ⟨x, dx, [], _, _, rfl, hx, pa_cons (pv 1) (pa_cons (pv 2) (pa_cons (pv 3) pa_nil)), pss_nil, ?_⟩
  exact ⟨_, rfl, _, rfl, _, rfl, spI_of T.c_Lane T.na_Lane_name T.na_Lane_both _ _ _ ⟨x, dx, n, a, b, rfl, hx, h1, h2, h3, h4, q⟩⟩
theorem sn_Even_Avenue : NdefX.NScope ["self", "name", "first", "second", "__class__"] ["self", "name", "first", "second"] ["__class__"] (defScope (mth 46 1)) := nsc _ _ _ (by decide +kernel)
include T in
theorem ok_Even_Avenue : Fn w K mg base 4 (He.ma K (He.ga K "Even") "__init__") (spI (He.ga K "Avenue") fdE) := by
  refine funS T.f_Even_init (by rfl) sn_Even_Avenue T.sd_Even T.sc_Even_Avenue (ok_Street_init T) rfl rfl rfl rfl (fun dV kV doc pm an ct hd => by rcases hd with ⟨_, rfl⟩ | ⟨z, _⟩; exact Binds.all (fun us hl => match us, hl with | [_, _, _, _], _ => rfl); exact absurd rfl z) (spI_len rfl) (fun _ => rfl) (fun _ => rfl) (fun _ => rfl) (fun _ => rfl) (fun _ => rfl) (fun A outer s H vs Q E hr h => ?_)
  obtain ⟨x, dx, n, a, b, rfl, hx, h1, h2, h3, h4, q⟩ := h
  refine ⟨x, dx, [], _, _, rfl, hx, pa_cons (pv 1) (pa_cons (pv 2) (pa_cons (pv 3) pa_nil)), pss_cons (ps_fld (pv 0) (pe_ix ix_tup (pe_fld (pv 0) rfl) pe_int (fun _ _ => rfl)) rfl) (pss_one (ps_fld (pv 0) (pe_ix ix_tup (pe_fld (pv 0) rfl) pe_int (fun _ _ => rfl)) rfl)), ?_⟩
  refine ⟨_, rfl, _, rfl, _, rfl, spI_of T.c_Avenue T.na_Avenue_name T.na_Avenue_both _ _ _ ⟨x, dx, n, a, b, rfl, hx, h1, h2, h3, h4, fun t H1 s1 e1 e2 => ?_⟩⟩
  have nt : x ≠ t := fun z => by rw [z, e2] at e1; cases e1
  refine ⟨_, rfl, x, _, dx, _, _, rfl, e1, T.c_Avenue, T.na_Avenue_both, rfl, t, _, 0, _, rfl, rfl, .inl (.inl e2), atI_nat (j := 0) rfl, _, rfl, x, _, dx, _, rfl, e1, T.c_Avenue, T.na_Avenue_one, by show 2 < 1000; decide, ?_⟩
  refine ⟨_, rfl, x, _, dx, _, _, rfl, upd_same, T.c_Avenue, T.na_Avenue_both, rfl, t, _, 1, _, rfl, rfl, .inl (.inl (by rw [upd_ne (Ne.symm nt)]; exact e2)), atI_nat (j := 1) rfl, _, rfl, x, _, dx, _, rfl, upd_same, T.c_Avenue, T.na_Avenue_other, by show 3 < 1000; decide, ?_⟩
  exact q t _ ((s1.trans sameX_upd).trans sameX_upd) (by rw [upd_same]; rfl) (by rw [upd_ne (Ne.symm nt), upd_ne (Ne.symm nt)]; exact e2)
theorem sn_Even_Road : NdefX.NScope ["self", "name", "first", "second", "__class__"] ["self", "name", "first", "second"] ["__class__"] (defScope (mth 46 1)) := nsc _ _ _ (by decide +kernel)
include T in
theorem ok_Even_Road : Fn w K mg base 4 (He.ma K (He.ga K "Even") "__init__") (spI (He.ga K "Road") fdE) := by
  refine funS T.f_Even_init (by rfl) sn_Even_Road T.sd_Even T.sc_Even_Road (ok_Street_init T) rfl rfl rfl rfl (fun dV kV doc pm an ct hd => by rcases hd with ⟨_, rfl⟩ | ⟨z, _⟩; exact Binds.all (fun us hl => match us, hl with | [_, _, _, _], _ => rfl); exact absurd rfl z) (spI_len rfl) (fun _ => rfl) (fun _ => rfl) (fun _ => rfl) (fun _ => rfl) (fun _ => rfl) (fun A outer s H vs Q E hr h => ?_)
  obtain ⟨x, dx, n, a, b, rfl, hx, h1, h2, h3, h4, q⟩ := h
  refine ⟨x, dx, [], _, _, rfl, hx, pa_cons (pv 1) (pa_cons (pv 2) (pa_cons (pv 3) pa_nil)), pss_cons (ps_fld (pv 0) (pe_ix ix_tup (pe_fld (pv 0) rfl) pe_int (fun _ _ => rfl)) rfl) (pss_one (ps_fld (pv 0) (pe_ix ix_tup (pe_fld (pv 0) rfl) pe_int (fun _ _ => rfl)) rfl)), ?_⟩
  refine ⟨_, rfl, _, rfl, _, rfl, spI_of T.c_Road T.na_Road_name T.na_Road_both _ _ _ ⟨x, dx, n, a, b, rfl, hx, h1, h2, h3, h4, fun t H1 s1 e1 e2 => ?_⟩⟩
  have nt : x ≠ t := fun z => by rw [z, e2] at e1; cases e1
  refine ⟨_, rfl, x, _, dx, _, _, rfl, e1, T.c_Road, T.na_Road_both, rfl, t, _, 0, _, rfl, rfl, .inl (.inl e2), atI_nat (j := 0) rfl, _, rfl, x, _, dx, _, rfl, e1, T.c_Road, T.na_Road_one, by show 2 < 1000; decide, ?_⟩
  refine ⟨_, rfl, x, _, dx, _, _, rfl, upd_same, T.c_Road, T.na_Road_both, rfl, t, _, 1, _, rfl, rfl, .inl (.inl (by rw [upd_ne (Ne.symm nt)]; exact e2)), atI_nat (j := 1) rfl, _, rfl, x, _, dx, _, rfl, upd_same, T.c_Road, T.na_Road_other, by show 3 < 1000; decide, ?_⟩
  exact q t _ ((s1.trans sameX_upd).trans sameX_upd) (by rw [upd_same]; rfl) (by rw [upd_ne (Ne.symm nt), upd_ne (Ne.symm nt)]; exact e2)
theorem sn_Settled_Avenue : NdefX.NScope ["self", "name", "first", "second", "__class__"] ["self", "name", "first", "second"] ["__class__"] (defScope (mth 45 2)) := nsc _ _ _ (by decide +kernel)
include T in
theorem ok_Settled_Avenue : Fn w K mg base 5 (He.ma K (He.ga K "Settled") "__init__") (spI (He.ga K "Avenue") fdE) := by
  refine funS T.f_Settled_init (by rfl) sn_Settled_Avenue T.sd_Settled T.sc_Settled_Avenue (ok_Even_Avenue T) rfl rfl rfl rfl (fun dV kV doc pm an ct hd => by rcases hd with ⟨_, rfl⟩ | ⟨z, _⟩; exact Binds.all (fun us hl => match us, hl with | [_, _, _, _], _ => rfl); exact absurd rfl z) (spI_len rfl) (fun _ => rfl) (fun _ => rfl) (fun _ => rfl) (fun _ => rfl) (fun _ => rfl) (fun A outer s H vs Q E hr h => ?_)
  obtain ⟨x, dx, n, a, b, rfl, hx, h1, h2, h3, h4, q⟩ := h
  refine ⟨x, dx, [], _, _, rfl, hx, pa_cons (pv 1) (pa_cons (pv 2) (pa_cons (pv 3) pa_nil)), pss_nil, ?_⟩
  exact ⟨_, rfl, _, rfl, _, rfl, ⟨⟨x, dx, n, a, b, rfl, hx, h1, h2, h3, h4, q⟩⟩⟩
theorem sn_Avenue : NdefX.NScope ["self", "name", "one", "other", "__class__"] ["self", "name", "one", "other"] ["__class__"] (defScope (mth 48 1)) := nsc _ _ _ (by decide +kernel)
include T in
theorem ok_Avenue : Fn w K mg base 6 (He.ma K (He.ga K "Avenue") "__init__") (spI (He.ga K "Avenue") fdE) := by
  refine funS T.f_Avenue_init (by rfl) sn_Avenue T.sd_Avenue T.sc_Avenue_Avenue (ok_Settled_Avenue T) rfl rfl rfl rfl (fun dV kV doc pm an ct hd => by rcases hd with ⟨_, rfl⟩ | ⟨z, _⟩; exact Binds.all (fun us hl => match us, hl with | [_, _, _, _], _ => rfl); exact absurd rfl z) (spI_len rfl) (fun _ => rfl) (fun _ => rfl) (fun _ => rfl) (fun _ => rfl) (fun _ => rfl) (fun A outer s H vs Q E hr h => ?_)
  obtain ⟨x, dx, n, a, b, rfl, hx, h1, h2, h3, h4, q⟩ := h
  refine ⟨x, dx, [], _, _, rfl, hx, pa_cons (pv 1) (pa_cons (pv 2) (pa_cons (pv 3) pa_nil)), pss_nil, ?_⟩
  exact ⟨_, rfl, _, rfl, _, rfl, ⟨⟨x, dx, n, a, b, rfl, hx, h1, h2, h3, h4, q⟩⟩⟩
theorem sn_Lane : NdefX.NScope ["self", "name", "start", "goal", "__class__"] ["self", "name", "start", "goal"] ["__class__"] (defScope (mth 47 1)) := nsc _ _ _ (by decide +kernel)
include T in
theorem ok_Lane : Fn w K mg base 5 (He.ma K (He.ga K "Lane") "__init__") (spI (He.ga K "Lane") fdL) := by
  refine funS T.f_Lane_init (by rfl) sn_Lane T.sd_Lane T.sc_Lane_Lane (ok_Settled_Lane T) rfl rfl rfl rfl (fun dV kV doc pm an ct hd => by rcases hd with ⟨_, rfl⟩ | ⟨z, _⟩; exact Binds.all (fun us hl => match us, hl with | [_, _, _, _], _ => rfl); exact absurd rfl z) (spI_len rfl) (fun _ => rfl) (fun _ => rfl) (fun _ => rfl) (fun _ => rfl) (fun _ => rfl) (fun A outer s H vs Q E hr h => ?_)
  obtain ⟨x, dx, n, a, b, rfl, hx, h1, h2, h3, h4, q⟩ := h
  refine ⟨x, dx, [], _, _, rfl, hx, pa_cons (pv 1) (pa_cons (pv 2) (pa_cons (pv 3) pa_nil)), pss_cons (ps_fld (pv 0) (pv 2) rfl) (pss_one (ps_fld (pv 0) (pv 3) rfl)), ?_⟩
  refine ⟨_, rfl, _, rfl, _, rfl, ⟨⟨x, dx, n, a, b, rfl, hx, h1, h2, h3, h4, fun t H1 s1 e1 e2 => ?_⟩⟩⟩
  have nt : x ≠ t := fun z => by rw [z, e2] at e1; cases e1
  refine ⟨_, rfl, _, rfl, x, _, dx, _, rfl, e1, T.c_Lane, T.na_Lane_start, by show 2 < 1000; decide, ?_⟩
  refine ⟨_, rfl, _, rfl, x, _, dx, _, rfl, upd_same, T.c_Lane, T.na_Lane_goal, by show 3 < 1000; decide, ?_⟩
  exact q t _ ((s1.trans sameX_upd).trans sameX_upd) (by rw [upd_same]; rfl) (by rw [upd_ne (Ne.symm nt), upd_ne (Ne.symm nt)]; exact e2)
end
end Tx
/-! ## DRoad -/
namespace Tx
open PySem PySem.Spec PyProof.Rows L2
section
variable {w : World} {K : PySem.W.Frag} {mg : Str → Option Value} {base : Heap} (T : Txt K mg)
def fdR : Str → Str → Str → Addr → Int → Int → List (Str × V) := fun n a b t p q => [("name", .str n), ("both", .ref t), ("one", .str (loS a b)), ("other", .str (hiS a b)), ("there", .int (if a = loS a b then p else q)), ("back", .int (if a = loS a b then q else p))]
def priceB (i : Int) : Prop := -999999999999 ≤ i ∧ i ≤ 999999999999
def spR (K : PySem.W.Frag) : Sp := fun vs H Q _ => ∃ x dx n a b p q, vs = [.ref x, .str n, .str a, .str b, .int p, .int q] ∧ H x = some (.ins (He.ga K "Road") dx []) ∧ nameB n = true ∧ nameB a = true ∧ nameB b = true ∧ a ≠ b ∧ priceB p ∧ priceB q ∧
  ∀ t H', SameX x H H' → H' x = some (.ins (He.ga K "Road") dx (fdR n a b t p q)) → H' t = some (.tup [.str (loS a b), .str (hiS a b)]) → Q .non H'
theorem sn_Road : NdefX.NScope ["self", "name", "one", "other", "there", "back", "__class__"] ["self", "name", "one", "other", "there", "back"] ["__class__"] (defScope (mth 49 2)) := nsc _ _ _ (by decide +kernel)
include T in
theorem ok_Road : Fn w K mg base 5 (He.ma K (He.ga K "Road") "__init__") (spR K) := by
  have hb : ∀ (dV kV doc pm : Value) (an : Option Addr) (ct : Value), DflV K dV [.int 0, .int 0] → Binds K (PySem.W.ksFn "__init__" "Road.__init__" (defArgs (mth 49 2)) (defBody (mth 49 2)) (defScope (mth 49 2)) dV kV doc pm an (.ref (cdA K (He.ma K (He.ga K "Road") "__init__"))) ct (ccA K (He.ma K (He.ga K "Road") "__init__"))) ["self", "name", "one", "other", "there", "back"] [] := by
    intro dV kV doc pm an ct hd
    rcases hd with ⟨z, _⟩ | ⟨_, T0, o, its, m, rfl, lT, oT, rT⟩
    · cases z
    · intro s us X hlen
      rw [List.append_nil] at hlen ⊢
      match us, hlen with
      | [_, _, _, _, _, _], _ =>
        refine BindsTo.of_looks fun M => ?_
        have l1 : its.length = 2 := rT.length.symm
        match its, l1 with
        | [_, _], _ => exact looks_items X lT oT (.of_pure rfl)
  refine funS T.f_Road_init (by rfl) sn_Road T.sd_Road T.sc_Road_Road (ok_Even_Road T) rfl rfl rfl rfl hb (fun vs H Q E h => by obtain ⟨_, _, _, _, _, _, _, rfl, _⟩ := h; rfl) (fun _ => rfl) (fun _ => rfl) (fun _ => rfl) (fun _ => rfl) (fun _ => rfl) (fun A outer s H vs Q E hr h => ?_)
  obtain ⟨x, dx, n, a, b, p, q, rfl, hx, h1, h2, h3, h4, h5, h6, hq⟩ := h
  refine ⟨x, dx, [], _, _, rfl, hx, pa_cons (pv 1) (pa_cons (pv 2) (pa_cons (pv 3) pa_nil)), pss_cons (ps_expr (Own.pe_call (ok_need_prices T) hr (by rfl) T.g_need_prices T.k_need_prices (pa_cons (pv 4) (pa_cons (pv 5) pa_nil))))
    (pss_cons (ps_fld (pv 0) (pe_ifExp (pt_cmpR op_eq (pv 2) (pe_fld (pv 0) rfl) (nomark _)) (pv 4) (pv 5)) rfl) (pss_one (ps_fld (pv 0) (pe_ifExp (pt_cmpR op_eq (pv 2) (pe_fld (pv 0) rfl) (nomark _)) (pv 5) (pv 4)) rfl))), ?_⟩
  refine ⟨_, rfl, _, rfl, _, rfl, ⟨⟨x, dx, n, a, b, rfl, hx, h1, h2, h3, h4, fun t H1 s1 e1 e2 => ?_⟩⟩⟩
  have nt : x ≠ t := fun z => by rw [z, e2] at e1; cases e1
  refine ⟨_, rfl, _, rfl, ⟨⟨p, q, rfl, h5, h6, fun H2 s2 => ?_⟩⟩⟩
  have e3 := s2 _ _ e1
  have e4 := s2 _ _ e2
  by_cases e : a = loS a b
  · have hd : decide (V.str a = V.str (loS a b)) = true := decide_eq_true (by rw [← e])
    refine ⟨_, rfl, _, rfl, x, _, dx, _, _, rfl, e3, T.c_Road, T.na_Road_one, rfl, rfl, _, rfl, ?_⟩
    rw [hd]
    refine iteT ⟨_, rfl, _, rfl, x, _, dx, _, rfl, e3, T.c_Road, T.na_Road_there, by show 4 < 1000; decide, ?_⟩
    refine ⟨_, rfl, _, rfl, x, _, dx, _, _, rfl, upd_same, T.c_Road, T.na_Road_one, rfl, rfl, _, rfl, ?_⟩
    rw [hd]
    refine iteT ⟨_, rfl, _, rfl, x, _, dx, _, rfl, upd_same, T.c_Road, T.na_Road_back, by show 5 < 1000; decide, ?_⟩
    refine hq t _ (((s1.trans (same_x s2)).trans sameX_upd).trans sameX_upd) ?_ (by rw [upd_ne (Ne.symm nt), upd_ne (Ne.symm nt)]; exact e4)
    rw [upd_same]
    unfold fdR
    rw [if_pos e, if_pos e]
    rfl
  · have hd : decide (V.str a = V.str (loS a b)) = false := decide_eq_false (fun z => e (by injection z))
    refine ⟨_, rfl, _, rfl, x, _, dx, _, _, rfl, e3, T.c_Road, T.na_Road_one, rfl, rfl, _, rfl, ?_⟩
    rw [hd]
    refine iteF ⟨_, rfl, _, rfl, x, _, dx, _, rfl, e3, T.c_Road, T.na_Road_there, by show 4 < 1000; decide, ?_⟩
    refine ⟨_, rfl, _, rfl, x, _, dx, _, _, rfl, upd_same, T.c_Road, T.na_Road_one, rfl, rfl, _, rfl, ?_⟩
    rw [hd]
    refine iteF ⟨_, rfl, _, rfl, x, _, dx, _, rfl, upd_same, T.c_Road, T.na_Road_back, by show 5 < 1000; decide, ?_⟩
    refine hq t _ (((s1.trans (same_x s2)).trans sameX_upd).trans sameX_upd) ?_ (by rw [upd_ne (Ne.symm nt), upd_ne (Ne.symm nt)]; exact e4)
    rw [upd_same]
    unfold fdR
    rw [if_neg e, if_neg e]
    rfl
end
end Tx
/-! ## Kit3 -/
namespace Tx
open PySem PySem.Spec PyProof.Rows L2
/-! ### names as data -/
theorem letter_of {x : Str} (h : nameB x = true) : ∀ c ∈ x.cps.toList, letterB c = true := by
  unfold nameB at h
  rw [Bool.and_eq_true, List.all_eq_true] at h
  exact h.2
theorem letter_bd : ∀ c, letterB c = true → 97 ≤ c ∧ c ≤ 122 := by
  intro c h
  unfold letterB at h
  rw [decide_eq_true_eq] at h
  have e : (Str.ofString "abcdefghijklmnopqrstuvwxyz").cps.toList = [97, 98, 99, 100, 101, 102, 103, 104, 105, 106, 107, 108, 109, 110, 111, 112, 113, 114, 115, 116, 117, 118, 119, 120, 121, 122] := by decide +kernel
  rw [e] at h
  simp only [List.mem_cons, List.not_mem_nil, or_false] at h
  omega
theorem name_len {x : Str} (h : nameB x = true) : 1 ≤ x.length ∧ x.length ≤ 8 := by
  unfold nameB at h
  rw [Bool.and_eq_true, Bool.and_eq_true, decide_eq_true_eq, decide_eq_true_eq] at h
  exact h.1
theorem strOk_name {x : Str} (h : nameB x = true) : PySem.PyData.strOk x = true := by
  unfold PySem.PyData.strOk
  rw [Array.all_eq_true]
  intro i hi
  have := letter_bd _ (letter_of h x.cps[i] (by simp))
  simp only [decide_eq_true_eq]
  omega
theorem dpAll_strs {K : PySem.W.Frag} {H : Hp} : ∀ ss : List Str, DpAll K H (ss.map V.str) (ss.map PyData.str)
  | [] => .nil
  | x :: r => .cons (.str x) (dpAll_strs r)
theorem dp_strs {K : PySem.W.Frag} {H : Hp} {a : Addr} {ss : List Str} (h : SqT K H a (ss.map V.str)) : Dp K H (.ref a) (.tuple (ss.map PyData.str)) := .tup h (dpAll_strs ss)
theorem eqvAll_strs : ∀ ss ts : List Str, PyData.eqvAll (ss.map PyData.str) (ts.map PyData.str) = decide (ss = ts)
  | [], [] => by simp [PyData.eqvAll]
  | [], _ :: _ => by simp [PyData.eqvAll]
  | _ :: _, [] => by simp [PyData.eqvAll]
  | x :: r, y :: q => by
    have ih := eqvAll_strs r q
    simp only [List.map_cons, PyData.eqvAll, PyData.eqv, ih]
    by_cases e : x = y
    · subst e
      simp
    · have : (x == y) = false := by simpa using e
      rw [this]
      simp [e]
theorem eqv_strs (ss ts : List Str) : PyData.eqv (.tuple (ss.map PyData.str)) (.tuple (ts.map PyData.str)) = decide (ss = ts) := by
  rw [← eqvAll_strs]
  simp only [PyData.eqv]
theorem shaped_strs {ss : List Str} (h : ∀ x ∈ ss, nameB x = true) : SeqAt.shaped (.tuple (ss.map PyData.str)) = true := by
  have h1 : ∀ l : List Str, (∀ x ∈ l, nameB x = true) → PyData.canLayAll0 (l.map PyData.str) = true := by
    intro l
    induction l with
    | nil => intro _; simp [PyData.canLayAll0]
    | cons x r ih =>
      intro hl
      simp only [List.map_cons, PyData.canLayAll0, PyData.canLay0, Bool.and_eq_true]
      exact ⟨strOk_name (hl x List.mem_cons_self), ih fun y hy => hl y (List.mem_cons_of_mem _ hy)⟩
  have h2 : ∀ l : List Str, PyData.depthAll (l.map PyData.str) ≤ 1 := by
    intro l
    induction l with
    | nil => simp [PyData.depthAll]
    | cons x r ih =>
      simp only [List.map_cons, PyData.depthAll, PyData.depth]
      omega
  unfold SeqAt.shaped
  rw [Bool.and_eq_true, decide_eq_true_eq]
  refine ⟨by simp only [PyData.canLay0]; exact h1 ss h, ?_⟩
  simp only [PyData.depth]
  have := h2 ss
  omega
theorem hu_ {k : Nat} {A : Around} (r : Room k A) : A.units + 64 < cLine := r.units
/-! ### fields -/
structure FldR (K : PySem.W.Frag) (f : Str) (x : V) (H : Hp) (Q : VK) : Prop where
  out : ∃ a C dx fs v, x = .ref a ∧ H a = some (.ins C dx fs) ∧ Cls K C ∧ NoAttr K C f ∧ fs.lookup f = some v ∧ Q v H
def tFl (K : PySem.W.Frag) (ta : TE) (f : Str) : TE := fun σ H Q => ta σ H fun x H1 => FldR K f x H1 Q
theorem p_fld {X : Cx} {e : Expr} {f : Str} {ta : TE} {pos : Pos} (he : PE X e ta) (hb : attributeBase e f X.env (eval e X.env) = eval e X.env := by rfl) : PE X (.Attribute e f pos) (tFl X.K ta f) := by
  refine ⟨fun pins s σ H Q I h => ?_⟩
  refine attr_of hb (thn (he.run pins s σ H _ I h) fun u s1 ⟨x, H1, I1, rx, ⟨a, C, dx, fs, v, ex, ea, c, n, l, q⟩⟩ => ?_)
  subst ex
  obtain rfl : u = Value.ref a := rx
  exact getattr_ok I1 ea c n l fun w s2 I2 rw => ⟨v, H1, I2, rw, q⟩
theorem fldR {K : PySem.W.Frag} {f : Str} {H : Hp} {a C dx : Addr} {fs : List (Str × V)} {v : V} {Q : VK} (h : H a = some (.ins C dx fs)) (c : Cls K C) (n : NoAttr K C f) (l : fs.lookup f = some v) (q : Q v H) : FldR K f (.ref a) H Q := ⟨a, C, dx, fs, v, rfl, h, c, n, l, q⟩
/-! ### streets as data -/
inductive St where
  | lane (n s g : Str)
  | avenue (n a b : Str)
  | road (n a b : Str) (p q : Int)
def St.name : St → Str
  | .lane n _ _ => n
  | .avenue n _ _ => n
  | .road n _ _ _ _ => n
def St.e1 : St → Str
  | .lane _ a b => a
  | .avenue _ a b => a
  | .road _ a b _ _ => a
def St.e2 : St → Str
  | .lane _ a b => b
  | .avenue _ a b => b
  | .road _ a b _ _ => b
def St.cls : St → Str
  | .lane .. => "Lane"
  | .avenue .. => "Avenue"
  | .road .. => "Road"
def St.fds : St → Addr → List (Str × V)
  | .lane n s g, t => fdL n s g t
  | .avenue n a b, t => fdE n a b t
  | .road n a b p q, t => fdR n a b t p q
def St.lo (s : St) : Str := loS s.e1 s.e2
def St.hi (s : St) : Str := hiS s.e1 s.e2
/-- good data -/
structure St.Ok (s : St) : Prop where
  n : nameB s.name = true
  a : nameB s.e1 = true
  b : nameB s.e2 = true
  ne : s.e1 ≠ s.e2
theorem lohi (a b : Str) : (loS a b = a ∧ hiS a b = b) ∨ (loS a b = b ∧ hiS a b = a) := by
  unfold loS hiS
  cases ltS a b
  · exact .inr ⟨rfl, rfl⟩
  · exact .inl ⟨rfl, rfl⟩
theorem St.Ok.lo {s : St} (h : s.Ok) : nameB s.lo = true := by
  unfold St.lo
  rcases lohi s.e1 s.e2 with ⟨e, _⟩ | ⟨e, _⟩ <;> rw [e]
  · exact h.a
  · exact h.b
theorem St.Ok.hi {s : St} (h : s.Ok) : nameB s.hi = true := by
  unfold St.hi
  rcases lohi s.e1 s.e2 with ⟨_, e⟩ | ⟨_, e⟩ <;> rw [e]
  · exact h.b
  · exact h.a
section
variable {w : World} {K : PySem.W.Frag} {mg : Str → Option Value} {base : Heap} (T : Txt K mg)
/-- the value v is the street s -/
def IsSt (K : PySem.W.Frag) (H : Hp) (v : V) (s : St) : Prop := ∃ x dx t, v = .ref x ∧ H x = some (.ins (He.ga K s.cls) dx (s.fds t)) ∧ SqT K H t [.str s.lo, .str s.hi]
theorem IsSt.lx {H H' : Hp} {v : V} {s : St} (h : IsSt K H v s) (l : Lx H H') : IsSt K H' v s := by
  obtain ⟨x, dx, t, e, h1, h2⟩ := h
  exact ⟨x, dx, t, e, lx_i l h1, lx_t l h2⟩
theorem St.f_name (s : St) (t : Addr) : (s.fds t).lookup ("name" : Str) = some (.str s.name) := by cases s <;> rfl
theorem St.f_both (s : St) (t : Addr) : (s.fds t).lookup ("both" : Str) = some (.ref t) := by cases s <;> rfl
include T in
theorem St.cl (s : St) : Cls K (He.ga K s.cls) := match s with | .lane .. => T.c_Lane | .avenue .. => T.c_Avenue | .road .. => T.c_Road
include T in
theorem St.tyc (s : St) : TyC K (He.ga K s.cls) := match s with | .lane .. => T.ty_Lane | .avenue .. => T.ty_Avenue | .road .. => T.ty_Road
include T in
theorem St.na_name (s : St) : NoAttr K (He.ga K s.cls) "name" := match s with | .lane .. => T.na_Lane_name | .avenue .. => T.na_Avenue_name | .road .. => T.na_Road_name
include T in
theorem St.na_both (s : St) : NoAttr K (He.ga K s.cls) "both" := match s with | .lane .. => T.na_Lane_both | .avenue .. => T.na_Avenue_both | .road .. => T.na_Road_both
/-- e.name, e.both of a street -/
theorem fld_name {H : Hp} {x dx t : Addr} {s : St} {Q : VK} (T : Txt K mg) (h : H x = some (.ins (He.ga K s.cls) dx (s.fds t))) (q : Q (.str s.name) H) : FldR K "name" (.ref x) H Q := fldR h (s.cl T) (s.na_name T) (s.f_name t) q
theorem fld_both {H : Hp} {x dx t : Addr} {s : St} {Q : VK} (T : Txt K mg) (h : H x = some (.ins (He.ga K s.cls) dx (s.fds t))) (q : Q (.ref t) H) : FldR K "both" (.ref x) H Q := fldR h (s.cl T) (s.na_both T) (s.f_both t) q
/-- self.ends -/
def spEnds (K : PySem.W.Frag) : Sp := fun vs H Q _ => ∃ v s, vs = [v] ∧ IsSt K H v s ∧ ∀ t, SqT K H t [.str s.lo, .str s.hi] → Q (.ref t) H
theorem sc_Street_ends : FnScope ["self"] ["self"] (defScope (mth 44 5)) := ⟨rfl, rfl, rfl, by decide +kernel, rfl, by decide +kernel, by decide +kernel⟩
include T in
theorem ok_Street_ends : Fn w K mg base 1 (pgA K (He.ga K "Street") "ends") (spEnds K) := by
  refine funR T.f_Street_ends sc_Street_ends (fun _ _ _ _ _ _ us hl => match us, hl with | [_], _ => rfl) (fun vs H Q E h => ?_) (fun cdv A outer s H vs Q E hr h => ?_)
  · obtain ⟨v, s, rfl, _⟩ := h; rfl
  obtain ⟨v, st, rfl, ⟨x, dx, t, rfl, h1, h2⟩, q⟩ := h
  refine ⟨_, pss_one (ps_ret (p_fld (pv 0))), ?_⟩
  exact ⟨_, rfl, fld_both T h1 (q t h2)⟩
/-- a street is like itself -/
def spLike (K : PySem.W.Frag) : Sp := fun vs H Q _ => ∃ v s, vs = [v, v] ∧ IsSt K H v s ∧ s.Ok ∧ Q (.bl true) H
theorem sc_Street_is_like : FnScope ["self", "other"] ["self", "other"] (defScope (mth 44 11)) := ⟨rfl, rfl, rfl, by decide +kernel, rfl, by decide +kernel, by decide +kernel⟩
include T in
theorem ok_Street_is_like : Fn w K mg base 1 (He.ma K (He.ga K "Street") "is_like") (spLike K) := by
  refine funR T.f_Street_is_like sc_Street_is_like (fun _ _ _ _ _ _ us hl => match us, hl with | [_, _], _ => rfl) (fun vs H Q E h => ?_) (fun cdv A outer s H vs Q E hr h => ?_)
  · obtain ⟨v, s, rfl, _⟩ := h; rfl
  obtain ⟨v, st, rfl, ⟨x, dx, t, rfl, h1, h2⟩, ok, q⟩ := h
  refine ⟨_, pss_one (ps_ret (pe_and (pe_cmpR op_eq (p_fld (pv 0)) (p_fld (pv 1)) (nomark _)) (pe_one (pe_cmpR (op_eqD (hu_ hr)) (p_fld (pv 0)) (p_fld (pv 1)) (nomark _))))), ?_⟩
  refine ⟨_, rfl, fld_name T h1 ⟨_, rfl, fld_name T h1 ⟨rfl, _, rfl, ?_⟩⟩⟩
  rw [decide_eq_true rfl]
  refine iteT ⟨_, rfl, fld_both T h1 ⟨_, rfl, fld_both T h1 ?_⟩⟩
  have hd := dp_strs (ss := [st.lo, st.hi]) h2
  have hs := shaped_strs (ss := [st.lo, st.hi]) (by simp only [List.mem_cons, List.not_mem_nil, or_false]; rintro x (rfl | rfl); exact ok.lo; exact ok.hi)
  refine ⟨_, _, hd, hd, hs, hs, ?_⟩
  rw [eqv_strs, decide_eq_true rfl]
  exact q
end
end Tx
/-! ## DEq -/
namespace Tx
open PySem PySem.Spec PyProof.Rows L2
section
variable {w : World} {K : PySem.W.Frag} {mg : Str → Option Value} {base : Heap} (T : Txt K mg)
def spEqS (K : PySem.W.Frag) (c : Str) : Sp := fun vs H Q _ => ∃ v s, vs = [v, v] ∧ IsSt K H v s ∧ s.Ok ∧ s.cls = c ∧ Q (.bl true) H
theorem meth_like (T : Txt K mg) (s : St) : L2.Meth K (He.ga K s.cls) "is_like" (He.ma K (He.ga K "Street") "is_like") := match s with | .lane .. => T.m_Lane_is_like | .avenue .. => T.m_Avenue_is_like | .road .. => T.m_Road_is_like
theorem no_like (s : St) (t : Addr) : (s.fds t).lookup ("is_like" : Str) = none := by cases s <;> rfl
theorem sc_Lane_eq : FnScope ["self", "other"] ["self", "other"] (defScope (mth 47 5)) := ⟨rfl, rfl, rfl, by decide +kernel, rfl, by decide +kernel, by decide +kernel⟩
include T in
theorem ok_Lane_eq : Fn w K mg base 2 (He.ma K (He.ga K "Lane") "__eq__") (spEqS K "Lane") := by
  refine funR T.f_Lane_eq sc_Lane_eq (fun _ _ _ _ _ _ us hl => match us, hl with | [_, _], _ => rfl) (fun vs H Q E h => ?_) (fun cdv A outer s H vs Q E hr h => ?_)
  · obtain ⟨v, s, rfl, _⟩ := h; rfl
  obtain ⟨v, st, rfl, ⟨x, dx, t, rfl, h1, h2⟩, ok, hc, q⟩ := h
  refine ⟨_, pss_one (ps_ret (pe_and (p_isi T.n_isinstance (pv 1) (p_cl T.g_Lane)) (pe_and (Own.pe_meth (pv 0) (ok_Street_is_like T) hr (pa_cons (pv 1) pa_nil)) (pe_one (pe_cmpR op_eq (p_fld (pv 0)) (p_fld (pv 1)) (nomark _)))))), ?_⟩
  cases st with
  | lane n a b =>
    refine ⟨_, rfl, isi_own h1 T.c_Lane T.ty_Lane T.is_Lane_Lane ⟨true, rfl, iteT ?_⟩⟩
    refine ⟨_, rfl, x, _, dx, _, rfl, h1, T.c_Lane, T.m_Lane_is_like, rfl, _, rfl, ⟨⟨_, _, rfl, ⟨x, dx, t, rfl, h1, h2⟩, ok, true, rfl, iteT ?_⟩⟩⟩
    refine ⟨_, rfl, fldR h1 T.c_Lane T.na_Lane_goal rfl ⟨_, rfl, fldR h1 T.c_Lane T.na_Lane_goal rfl ⟨rfl, ?_⟩⟩⟩
    rw [decide_eq_true rfl]
    exact q
  | avenue => exact absurd (show ("Avenue" : Str) = "Lane" from hc) (by decide)
  | road => exact absurd (show ("Road" : Str) = "Lane" from hc) (by decide)
theorem sc_Avenue_eq : FnScope ["self", "other"] ["self", "other"] (defScope (mth 48 4)) := ⟨rfl, rfl, rfl, by decide +kernel, rfl, by decide +kernel, by decide +kernel⟩
include T in
theorem ok_Avenue_eq : Fn w K mg base 2 (He.ma K (He.ga K "Avenue") "__eq__") (spEqS K "Avenue") := by
  refine funR T.f_Avenue_eq sc_Avenue_eq (fun _ _ _ _ _ _ us hl => match us, hl with | [_, _], _ => rfl) (fun vs H Q E h => ?_) (fun cdv A outer s H vs Q E hr h => ?_)
  · obtain ⟨v, s, rfl, _⟩ := h; rfl
  obtain ⟨v, st, rfl, ⟨x, dx, t, rfl, h1, h2⟩, ok, hc, q⟩ := h
  refine ⟨_, pss_one (ps_ret (pe_and (p_isi T.n_isinstance (pv 1) (p_cl T.g_Avenue)) (pe_one (Own.pe_meth (pv 0) (ok_Street_is_like T) hr (pa_cons (pv 1) pa_nil))))), ?_⟩
  cases st with
  | avenue n a b =>
    refine ⟨_, rfl, isi_own h1 T.c_Avenue T.ty_Avenue T.is_Avenue_Avenue ⟨true, rfl, iteT ?_⟩⟩
    exact ⟨_, rfl, x, _, dx, _, rfl, h1, T.c_Avenue, T.m_Avenue_is_like, rfl, _, rfl, ⟨⟨_, _, rfl, ⟨x, dx, t, rfl, h1, h2⟩, ok, q⟩⟩⟩
  | lane => exact absurd (show ("Lane" : Str) = "Avenue" from hc) (by decide)
  | road => exact absurd (show ("Road" : Str) = "Avenue" from hc) (by decide)
theorem sc_Road_eq : FnScope ["self", "other"] ["self", "other"] (defScope (mth 49 8)) := ⟨rfl, rfl, rfl, by decide +kernel, rfl, by decide +kernel, by decide +kernel⟩
include T in
theorem ok_Road_eq : Fn w K mg base 2 (He.ma K (He.ga K "Road") "__eq__") (spEqS K "Road") := by
  refine funR T.f_Road_eq sc_Road_eq (fun _ _ _ _ _ _ us hl => match us, hl with | [_, _], _ => rfl) (fun vs H Q E h => ?_) (fun cdv A outer s H vs Q E hr h => ?_)
  · obtain ⟨v, s, rfl, _⟩ := h; rfl
  obtain ⟨v, st, rfl, ⟨x, dx, t, rfl, h1, h2⟩, ok, hc, q⟩ := h
  refine ⟨_, pss_cons (ps_if (PW.pt (pw_or (pt_not (pt_val (p_isi T.n_isinstance (pv 1) (p_cl T.g_Road)))) (pw_or1 (pt_not (pt_val (Own.pe_meth (pv 0) (ok_Street_is_like T) hr (pa_cons (pv 1) pa_nil))))))) pss_never pss_nil)
    (pss_one (ps_ret (pe_and (pe_cmpR op_eq (p_fld (pv 0)) (p_fld (pv 1)) (nomark _)) (pe_one (pe_cmpR op_eq (p_fld (pv 0)) (p_fld (pv 1)) (nomark _)))))), ?_⟩
  cases st with
  | road n a b p r =>
    refine ⟨_, rfl, isi_own h1 T.c_Road T.ty_Road T.is_Road_Road ⟨true, rfl, iteF ?_⟩⟩
    refine ⟨_, rfl, x, _, dx, _, rfl, h1, T.c_Road, T.m_Road_is_like, rfl, _, rfl, ⟨⟨_, _, rfl, ⟨x, dx, t, rfl, h1, h2⟩, ok, true, rfl, iteF ?_⟩⟩⟩
    refine ⟨_, rfl, fldR h1 T.c_Road T.na_Road_there rfl ⟨_, rfl, fldR h1 T.c_Road T.na_Road_there rfl ⟨rfl, _, rfl, ?_⟩⟩⟩
    rw [decide_eq_true rfl]
    refine iteT ⟨_, rfl, fldR h1 T.c_Road T.na_Road_back rfl ⟨_, rfl, fldR h1 T.c_Road T.na_Road_back rfl ⟨rfl, ?_⟩⟩⟩
    rw [decide_eq_true rfl]
    exact q
  | lane => exact absurd (show ("Lane" : Str) = "Road" from hc) (by decide)
  | avenue => exact absurd (show ("Avenue" : Str) = "Road" from hc) (by decide)
end
end Tx
/-! ## Kit4 -/
namespace Tx
open PySem PySem.Spec PyProof.Rows L2
section
variable {K : PySem.W.Frag} {g : TG} {te : TE} {vs : List Nat} {σ : L2.St} {H1 : Hp} {D : Addr} {Qd : Hp → Prop}
abbrev LcR (J : It) (g : TG) (tt : TT) (te : TE) (vs : List Nat) (σ : L2.St) (H1 : Hp) (D : Addr) (Qd : Hp → Prop) : Prop := ∃ W : Nat → Nat → Hp → Prop, (∃ m, W 0 m (upd H1 D (.lst []))) ∧ ∀ i m H, W i m H →
      (J.stop i H ∧ Qd H) ∨ (J.go i H ∧ ∃ Nx : Hp → Prop, (∀ H', Nx H' → ∃ m', m' < m ∧ W (i + 1) m' H') ∧ ∀ x H', J.yld i H x H' → g x (wipe σ vs) H' fun σ2 H2 => wipe σ2 vs = wipe σ vs ∧ tt σ2 H2 fun b H3 =>
        if b = true then te σ2 H3 fun y H4 => ∃ acc, H4 D = some (.lst acc) ∧ acc.length < sizeLine ∧ Nx (upd H4 D (.lst (acc ++ [y]))) else Nx H3)
/-- [f(x) for x in xs], each told exactly -/
theorem lc_val {J : It} {n : Nat} (F : Nat → V) (hD : H1 D = none) (hn : n ≤ 100000) (go : ∀ i H, i < n → Same H1 H → J.go i H) (st : ∀ H, Same H1 H → J.stop n H)
    (hs : ∀ i x H H' (K2 : VK), i < n → Same H1 H → J.yld i H x H' → (∀ H4, Same H H4 → K2 (F i) H4) → g x (wipe σ vs) H' fun σ2 H2 => wipe σ2 vs = wipe σ vs ∧ te σ2 H2 K2)
    (hd : ∀ H, Same H1 H → H D = some (.lst ((List.range n).map F)) → Qd H)
    (mg : ∀ x σ H (Q Q' : L2.St → Hp → Prop), (∀ σ' H', Q σ' H' → Q' σ' H') → g x σ H Q → g x σ H Q') : LcR J g tYes te vs σ H1 D Qd := by
  refine lc_pure (n := n) (fun i => some (F i)) hD hn go st (fun i x H H' K1 K2 hi s y k2 k1 => ?_) fun H s e => hd H s (by rw [e, fm_some])
  exact mg _ _ _ _ _ (fun σ' H2 ⟨e, q⟩ => ⟨e, t_yes q⟩) (hs i x H H' K2 hi s y fun H4 s4 => k2 _ H4 rfl s4)
theorem mg_name {i : Nat} : ∀ x σ H (Q Q' : L2.St → Hp → Prop), (∀ σ' H', Q σ' H' → Q' σ' H') → gName i x σ H Q → gName i x σ H Q' := fun _ _ _ _ _ h q => h _ _ q
theorem itt_go {a : Addr} {xs : List V} (h : SqT K H1 a xs) {i : Nat} {H : Hp} (hi : i < xs.length) (s : Same H1 H) : (Itt K a).go i H := ⟨xs, xs[i], lx_t (lx s) h, List.getElem?_eq_getElem hi⟩
theorem itt_st {a : Addr} {xs : List V} (h : SqT K H1 a xs) {H : Hp} (s : Same H1 H) : (Itt K a).stop xs.length H := ⟨xs, lx_t (lx s) h, Nat.le_refl _⟩
theorem itt_y {a : Addr} {xs : List V} (h : SqT K H1 a xs) {i : Nat} {x : V} {H H' : Hp} (s : Same H1 H) (y : (Itt K a).yld i H x H') : H' = H ∧ xs[i]? = some x := ⟨y.1, y.2 xs (lx_t (lx s) h)⟩
theorem itl_go {a : Addr} {xs : List V} (h : SqL K H1 a xs) {i : Nat} {H : Hp} (hi : i < xs.length) (s : Same H1 H) : (Itl K a).go i H := ⟨xs, xs[i], lx_l (lx s) h, List.getElem?_eq_getElem hi⟩
theorem itl_st {a : Addr} {xs : List V} (h : SqL K H1 a xs) {H : Hp} (s : Same H1 H) : (Itl K a).stop xs.length H := ⟨xs, lx_l (lx s) h, Nat.le_refl _⟩
theorem itl_y {a : Addr} {xs : List V} (h : SqL K H1 a xs) {i : Nat} {x : V} {H H' : Hp} (s : Same H1 H) (y : (Itl K a).yld i H x H') : H' = H ∧ xs[i]? = some x := ⟨y.1, y.2 xs (lx_l (lx s) h)⟩
/-- keys of a locked dict -/
theorem itk_go {d : Addr} {o : Obj} {kvs : List (L2.Key × V)} (h : H1 d = some (.frz o (.dK kvs))) {i : Nat} {H : Hp} (hi : i < kvs.length) (s : Same H1 H) : (Itk d o kvs).go i H := ⟨s _ _ h, hi⟩
theorem itk_st {d : Addr} {o : Obj} {kvs : List (L2.Key × V)} (h : H1 d = some (.frz o (.dK kvs))) {H : Hp} (s : Same H1 H) : (Itk d o kvs).stop kvs.length H := ⟨s _ _ h, Nat.le_refl _⟩
/-- x's own slot -/
theorem set_at {i : Nat} {v : V} (hi : i < σ.length) : ((wipe σ [i]).set i (some v))[i]? = some (some v) := by
  rw [List.getElem?_set_self (by rw [wipe_length]; exact hi)]
abbrev rStr : List V → Hp → VK → Prop := fun xs H Q => ∃ a, xs = [.str a] ∧ Q (.str a) H
/-- [str(x) for x in xs], a tuple of texts -/
theorem lc_strT {i : Nat} {a : Addr} {ss : List Str} (hi : i < σ.length) (hD : H1 D = none) (h : SqT K H1 a (ss.map V.str)) (hn : ss.length ≤ 100000) (hd : ∀ H, Same H1 H → H D = some (.lst (ss.map V.str)) → Qd H) :
    LcR (Itt K a) (gName i) tYes (tBr rStr (tCons (tVar i) tNil)) [i] σ H1 D Qd := by
  refine lc_val (n := ss.length) (fun j => .str (ss.getD j Str.empty)) hD hn (fun j H hj s => itt_go h (by simpa using hj) s) (fun H s => by have := itt_st h s; rwa [List.length_map] at this) (fun j x H H' K2 hj s y k2 => ?_) (fun H s e => hd H s ?_) mg_name
  · obtain ⟨rfl, hx⟩ := itt_y h s y
    rw [List.getElem?_map] at hx
    obtain ⟨z, hz, rfl⟩ := Option.map_eq_some_iff.mp hx
    refine ⟨by simp [wipe], ⟨.str z, set_at hi, ⟨⟨z, rfl, ?_⟩⟩⟩⟩
    have := k2 H' (Same.refl _)
    rw [List.getD_eq_getElem?_getD, hz] at this
    exact this
  · rw [e]
    congr 2
    apply List.ext_getElem (by simp)
    intro j h1 h2
    simp only [List.getElem_map, List.getElem_range, List.getD_eq_getElem?_getD]
    rw [List.getElem?_eq_getElem (by simpa using h2)]
    rfl
theorem all_true {H : Hp} {n : Nat} {Q : VK} (e : H D = some (.lst ((List.replicate n true).map V.bl))) (q : Q (.bl true) H) : AtR (rAll K) [.ref D] H Q := by
  refine ⟨⟨D, List.replicate n true, rfl, .inl (.inl e), ?_⟩⟩
  have : (List.replicate n true).all id = true := by rw [List.all_eq_true]; intro b hb; exact List.eq_of_mem_replicate hb
  rw [this]
  exact q
/-- .. each True -/
theorem lc_true {J : It} {n : Nat} (hD : H1 D = none) (hn : n ≤ 100000) (go : ∀ i H, i < n → Same H1 H → J.go i H) (st : ∀ H, Same H1 H → J.stop n H)
    (hs : ∀ i x H H' (K2 : VK), i < n → Same H1 H → J.yld i H x H' → (∀ H4, Same H H4 → K2 (.bl true) H4) → g x (wipe σ vs) H' fun σ2 H2 => wipe σ2 vs = wipe σ vs ∧ te σ2 H2 K2)
    (hd : ∀ H, Same H1 H → H D = some (.lst ((List.replicate n true).map V.bl)) → Qd H)
    (mg : ∀ x σ H (Q Q' : L2.St → Hp → Prop), (∀ σ' H', Q σ' H' → Q' σ' H') → g x σ H Q → g x σ H Q') : LcR J g tYes te vs σ H1 D Qd := by
  refine lc_val (n := n) (fun _ => .bl true) hD hn go st hs (fun H s e => hd H s ?_) mg
  rw [e]
  congr 2
  simp [List.map_const']
theorem tupK {H : Hp} {p : Addr} {xs : List V} {Q : VK} (h : SqL K H p xs) (q : ∀ t, H t = none → Q (.ref t) (upd H t (.tup xs))) : kTup K (.ref p) H Q := .inl ⟨p, xs, rfl, h, q⟩
end
section
variable {w : World} {K : PySem.W.Frag} {mg : Str → Option Value} {base : Heap} {k : Nat} {f : Addr} {x qual : Str} {params : Arguments} {body : List Stmt} {scope : Scope} {N ps : List Str} {pv : Str} {sp sp' : Sp}
/-- THE RULE for a def f(a, .., *v) -/
theorem starR (F : ∃ fd, FunD K x qual params body scope [] [] f fd) (S : FnScope N (ps ++ [pv]) scope)
    (hb : ∀ (kV doc pm : Value) (an : Option Addr) (cdv ct : Value) (us rest : List Value), us.length = ps.length → bindArgs (PySem.W.fnOf x qual params body scope .none kV doc pm an cdv ct) ⟨us ++ rest, []⟩ = (newTuple rest >>= fun t => pure (ps.zip us ++ [(pv, t)])))
    (hsp : ∀ vs H Q E, sp' vs H Q E → ∃ ws rest, vs = ws ++ rest ∧ ws.length = ps.length ∧ rest.length ≤ sizeLine ∧ ∀ p, H p = Option.none → sp (ws ++ [V.ref p]) (upd H p (.tup rest)) Q E)
    (hbody : ∀ (cdv : Value) (A : Around) (outer : List Env) (s : Shared) (H : Hp) (vs : List V) (Q : VK) (E : XK), Room k (A.deeper (envOfC qual scope s.heap.objs.size f cdv)) → sp vs H Q E →
      ∃ t, PSs (cx w K mg base N qual scope f cdv A outer s H E) body t ∧ t { nx := fun _ H' => Q .non H', rt := Q } (start N vs) H) : Fn w K mg base (k + 1) f sp' := by
  obtain ⟨fd, F⟩ := F
  obtain ⟨oc, od, dV, kV, doc, pm, an, cdv, ct, osl, rfl, lk, hcd, hD, hK⟩ := F.ex
  rcases hD with ⟨_, rfl⟩ | ⟨z, _⟩
  · refine (StX.fn_star (P := PG0) (w := w) (mg := mg) (base := base) (CX := CX0) (k := k) (N := N) (ps := ps) (pv := pv) (sp := sp) lk hcd S StX.cxUp_none (hb _ _ _ _ _ _) (fun A outer s H vs Q E hr h => ?_)).imp hsp
    obtain ⟨t, h1, h2⟩ := hbody cdv A outer s H vs Q E hr h
    exact ⟨t, h1.nox, h2⟩
  · exact absurd rfl z
end
end Tx
/-! ## Make -/
/-! C(..), C( *xs), C( *xs, y). -/
namespace Tx
open PySem PySem.Spec PyProof.Rows L2
/-- a new instance by its __init__'s promise -/
structure MakeS (C : Addr) (sp : Sp) (vs : List V) (H : Hp) (Q : VK) : Prop where
  out : ∀ x dx, H x = none → H dx = none → dx ≠ x → sp (.ref x :: vs) (upd (upd H dx (.own x)) x (.ins C dx [])) (fun v H2 => v = .non ∧ Q (.ref x) H2) E0
section
variable {M : Model} {A : Around} {E : Value → Shared → Prop} {s : Shared}
theorem evalArgs_more {f : Value} {x y : Bool × Sem Value} {rest : List (Bool × Sem Value)} {Q : Args → Shared → Prop}
    (h : wpAny M A (spliced (x :: y :: rest)) (fun vs s' => Q ⟨vs, []⟩ s') E s) : wpAny M A (evalArgs f true (x :: y :: rest) []) Q E s := by
  obtain ⟨b, x⟩ := x
  unfold evalArgs
  cases b
  all_goals
    show wpAny M A (spliced (_ :: y :: rest) >>= _) Q E s
    refine wpAny_bind (wpAny_mono h (fun vs s' h' => ?_) fun _ _ x => x)
    refine wpAny_holding ?_
    exact wpAny_bind (wpAny_pure (wpAny_bind (wpAny_pure (wpAny_pure h'))))
end
section
variable {X : Cx} {k : Nat} {C f : Addr} {sp : Sp} {x : Str} {e e2 : Expr} {es : List Expr} {t : TA} {te : TE} {p p2 pos : Pos}
def tMk (C : Addr) (sp : Sp) (t : TA) : TE := fun σ H Q => t σ H fun vs H1 => MakeS C sp vs H1 Q
theorem p_mk (M : Mk X.K C f) (F : Own.FR X k f sp) (hr : Room (k + 1) X.A) (hm : X.mg x = some (.ref C)) (ha : PA X (e :: es) t) (hg : Gl X x := by rfl) (hdb : (x == ("__debug__" : Str)) = false := by decide)
    (he : starEach (e :: es) X.env = (false, eval e X.env) :: starEach es X.env := by rfl) (hpl : (backTo pos (starEach es X.env)).any (·.1) = false := by rfl) : PE X (.Call (.Name x p) (e :: es) [] pos) (tMk C sp t) := by
  refine ⟨fun pins s σ H Q I h => ?_⟩
  refine wpAny_Call_Name_kw (ld_glob I hg hm ?_ hdb)
  refine PySem.W.callWith_K (h₀ := X.base) I.ok.mod.kin M.kp (thn (ha.run pos pins s σ H _ I h) fun us s1 ⟨vs, H1, I1, r, q⟩ => ⟨I1.kIn, ?_⟩) he hpl
  exact StX.run_makeR M F hr pass0 I1 r q.out
theorem p_mk0 (M : Mk X.K C f) (F : Own.FR X k f sp) (hr : Room (k + 1) X.A) (hm : X.mg x = some (.ref C)) (hg : Gl X x := by rfl) (hdb : (x == ("__debug__" : Str)) = false := by decide) : PE X (.Call (.Name x p) [] [] pos) (tMk C sp tNil) := by
  refine ⟨fun pins s σ H Q I h => ?_⟩
  refine wpAny_Call_Name_kw (ld_glob I hg hm ?_ hdb)
  exact PySem.W.callWith_K0 I.kIn M.kp (StX.run_makeR (us := []) (vs := []) M F hr pass0 I .nil (MakeS.out h))
/-- C( *e) -/
def tMkS (K : PySem.W.Frag) (C : Addr) (sp : Sp) (te : TE) : TE := fun σ H Q => te σ H fun y H1 => ∃ a xs, y = V.ref a ∧ (SqT K H1 a xs ∨ SqL K H1 a xs) ∧ MakeS C sp xs H1 Q
theorem p_mkS (M : Mk X.K C f) (F : Own.FR X k f sp) (hr : Room (k + 1) X.A) (hm : X.mg x = some (.ref C)) (ha : PE X e te) (hg : Gl X x := by rfl) (hdb : (x == ("__debug__" : Str)) = false := by decide)
    (hst : starEach [.Starred e p2] X.env = [(true, eval e X.env)] := by rfl) : PE X (.Call (.Name x p) [.Starred e p2] [] pos) (tMkS X.K C sp te) := by
  refine ⟨fun pins s σ H Q I h => ?_⟩
  refine wpAny_Call_Name_kw (ld_glob I hg hm ?_ hdb)
  refine PySem.W.callWith_S (h₀ := X.base) I.ok.mod.kin M.kp (thn (ha.run pins s σ H _ I h) fun v s1 ⟨y, H1, I1, ry, a, xs, ey, hxs, q⟩ => ?_) hst
  subst ey
  obtain rfl : v = Value.ref a := ry
  exact StX.star_any I1 hxs fun us s2 I2 rv => ⟨I2.kIn, StX.run_makeR M F hr pass0 I2 rv q.out⟩
/-- C( *e, e2, ..) -/
theorem p_mkSm (M : Mk X.K C f) (F : Own.FR X k f sp) (hr : Room (k + 1) X.A) (hm : X.mg x = some (.ref C)) (ha : PA X (.Starred e p2 :: e2 :: es) t) (hg : Gl X x := by rfl) (hdb : (x == ("__debug__" : Str)) = false := by decide)
    (hst : starEach (.Starred e p2 :: e2 :: es) X.env = (true, eval e X.env) :: starEach (e2 :: es) X.env := by rfl) (hst2 : ∃ z, starEach (e2 :: es) X.env = z :: starEach es X.env := by exact ⟨_, rfl⟩) : PE X (.Call (.Name x p) (.Starred e p2 :: e2 :: es) [] pos) (tMk C sp t) := by
  refine ⟨fun pins s σ H Q I h => ?_⟩
  refine wpAny_Call_Name_kw (ld_glob I hg hm ?_ hdb)
  have z := ha.run pos pins s σ H _ I h
  obtain ⟨⟨b, y⟩, hz⟩ := hst2
  rw [hst, hz] at z ⊢
  refine PySem.W.ks_call (P := fun h => X.K.In h) rfl (PySem.W.keeps_K M.kp) (evalArgs_more (thn z fun us s1 ⟨vs, H1, I1, r, q⟩ => ⟨I1.kIn, ?_⟩))
  exact StX.run_makeR M F hr pass0 I1 r q.out
end
end Tx
/-! ## MRows -/
namespace Tx
open PySem PySem.Spec PyProof.Rows L2
/-! ### rows by name -/
abbrev Row : Type := V × St
def nmR (p : Row) : Str := p.2.name
theorem find_name : ∀ (L : List Row) (p : Row), (L.map nmR).Nodup → p ∈ L → L.find? (fun q => decide (nmR q = nmR p)) = some p
  | [], p, _, h => by cases h
  | q :: L, p, nd, h => by
    rw [List.map_cons, List.nodup_cons] at nd
    rcases List.mem_cons.mp h with e | h
    · rw [e, List.find?_cons_of_pos]; exact decide_eq_true rfl
    · rw [List.find?_cons_of_neg, find_name L p nd.2 h]
      intro z
      exact nd.1 (by rw [of_decide_eq_true z]; exact List.mem_map_of_mem h)
theorem only_name : ∀ (L : List Row) (p : Row), (L.map nmR).Nodup → p ∈ L → L.filterMap (fun q => if nmR q = nmR p then some q.1 else none) = [p.1]
  | [], p, _, h => by cases h
  | q :: L, p, nd, h => by
    rw [List.map_cons, List.nodup_cons] at nd
    rcases List.mem_cons.mp h with e | h
    · subst e
      rw [List.filterMap_cons_some (b := p.1) (by simp)]
      congr 1
      rw [List.filterMap_eq_nil_iff]
      intro r hr
      have : nmR r ≠ nmR p := fun z => nd.1 (by rw [← z]; exact List.mem_map_of_mem hr)
      simp [this]
    · have : nmR q ≠ nmR p := fun z => nd.1 (by rw [z]; exact List.mem_map_of_mem h)
      rw [List.filterMap_cons_none (by simp [this])]
      exact only_name L p nd.2 h
/-- the rows in the names' order -/
def byN (L : List Row) (ys : List Str) : List Row := ys.filterMap fun y => L.find? fun q => decide (nmR q = y)
theorem byN_self (L : List Row) (nd : (L.map nmR).Nodup) : byN L (L.map nmR) = L := by
  unfold byN
  rw [List.filterMap_map]
  have : ∀ M : List Row, (∀ p ∈ M, p ∈ L) → M.filterMap ((fun y => L.find? fun q => decide (nmR q = y)) ∘ nmR) = M := by
    intro M
    induction M with
    | nil => intro _; rfl
    | cons p M ih =>
      intro h
      have hp : ((fun y => L.find? fun q => decide (nmR q = y)) ∘ nmR) p = some p := find_name L p nd (h p List.mem_cons_self)
      rw [List.filterMap_cons_some hp, ih fun q hq => h q (List.mem_cons_of_mem _ hq)]
  exact this L fun _ h => h
theorem byN_perm {L : List Row} {ys : List Str} (nd : (L.map nmR).Nodup) (h : ys.Perm (L.map nmR)) : (byN L ys).Perm L := by
  have := h.filterMap (fun y => L.find? fun q => decide (nmR q = y))
  have e := byN_self L nd
  unfold byN at e ⊢
  rw [e] at this
  exact this
theorem byN_names {L : List Row} : ∀ {ys : List Str}, (∀ y ∈ ys, y ∈ L.map nmR) → (byN L ys).map nmR = ys
  | [], _ => rfl
  | y :: ys, h => by
    obtain ⟨p, hp, e⟩ := List.mem_map.mp (h y List.mem_cons_self)
    obtain ⟨q, hq⟩ : ∃ q, L.find? (fun q => decide (nmR q = y)) = some q := by
      cases z : L.find? (fun q => decide (nmR q = y)) with
      | some q => exact ⟨q, rfl⟩
      | none => exact absurd (List.find?_eq_none.mp z p hp) (by simp [e])
    have e2 : nmR q = y := by simpa using List.find?_some hq
    have hq' : (fun y => L.find? fun q => decide (nmR q = y)) y = some q := hq
    unfold byN
    rw [List.filterMap_cons_some (f := fun y => L.find? fun q => decide (nmR q = y)) hq', List.map_cons, e2]
    congr 1
    exact byN_names fun z hz => h z (List.mem_cons_of_mem _ hz)
theorem valV_get : ∀ {kvs : List (L2.Key × V)} {j : Nat} {k : L2.Key} {v : V}, (kvs.map (·.1)).Nodup → kvs[j]? = some (k, v) → valV kvs k = some v
  | [], _, _, _, _, h => by simp at h
  | p :: r, 0, k, v, _, h => by
    simp at h
    subst h
    exact valV_pos rfl
  | p :: r, j + 1, k, v, nd, h => by
    rw [List.map_cons, List.nodup_cons] at nd
    have h : r[j]? = some (k, v) := by simpa using h
    rw [valV_neg (fun z => nd.1 (by rw [z]; exact List.mem_map_of_mem (f := (·.1)) (List.mem_of_getElem? h)))]
    exact valV_get nd.2 h
theorem valV_no : ∀ {kvs : List (L2.Key × V)} {k : L2.Key}, k ∉ kvs.map (·.1) → valV kvs k = none
  | [], _, _ => rfl
  | p :: r, k, h => by
    rw [List.map_cons, List.mem_cons, not_or] at h
    rw [valV_neg (fun z => h.1 z.symm)]
    exact valV_no h.2
theorem dget {H : Hp} {d : Addr} {kvs : List (L2.Key × V)} {k : L2.Key} {v : V} (h : DV H d kvs) (hv : valV kvs k = some v) : DGet H d (kV k) (some v) := by
  rcases h with h | ⟨o, h⟩
  · exact .inl ⟨kvs, k, .inl h, rfl, hv.symm⟩
  · exact .inl ⟨kvs, k, .inr ⟨o, h⟩, rfl, hv.symm⟩
/-! ### dict comprehensions -/
abbrev DcR (J : It) (g : TG) (tk tv : TE) (vs : List Nat) (σ : L2.St) (H1 : Hp) (D : Addr) (Qd : Hp → Prop) : Prop := ∃ W : Nat → Nat → Hp → Prop, (∃ m, W 0 m (upd H1 D (.dK []))) ∧ ∀ i m H, W i m H →
  (J.stop i H ∧ Qd H) ∨ (J.go i H ∧ ∃ Nx : Hp → Prop, (∀ H', Nx H' → ∃ m', m' < m ∧ W (i + 1) m' H') ∧ ∀ x H', J.yld i H x H' → g x (wipe σ vs) H' fun σ2 H2 => wipe σ2 vs = wipe σ vs ∧ tYes σ2 H2 fun b H3 =>
    if b = true then tk σ2 H3 fun y H4 => tv σ2 H4 fun z H5 => ∃ kvs k, y = kV k ∧ H5 D = some (.dK kvs) ∧ kvs.length < sizeLine ∧ Nx (upd H5 D (.dK (putK kvs k z))) else Nx H3)
theorem d_yes {R R' : Hp → Prop} {σ : L2.St} {H : Hp} (h : R H) : tYes σ H (fun b H3 => if b = true then R H3 else R' H3) := by
  show (if true = true then R H else R' H)
  rw [if_pos rfl]
  exact h
theorem dc_gen {J : It} {n : Nat} {i0 : Nat} {tk tv : TE} {vs : List Nat} {σ : L2.St} {H1 : Hp} {D : Addr} {Qd : Hp → Prop} (P : Nat → List (L2.Key × V) → Hp → Prop) (hD : H1 D = none) (hn : n ≤ 100000)
    (h0 : P 0 [] (upd H1 D (.dK []))) (hm : ∀ i kvs l H H', H D = some (.dK l) → SameX D H H' → P i kvs H → P i kvs H')
    (go : ∀ i H, i < n → Same H1 H → J.go i H) (st : ∀ H, Same H1 H → J.stop n H)
    (hs : ∀ i kvs x H H' (K2 : V → VK), i < n → Same H1 H → P i kvs H → J.yld i H x H' → (∀ k z H5, Same H H5 → P (i + 1) (putK kvs k z) H5 → K2 (kV k) z H5) →
      gName i0 x (wipe σ vs) H' fun σ2 H2 => wipe σ2 vs = wipe σ vs ∧ tk σ2 H2 fun y H4 => tv σ2 H4 fun z H5 => K2 y z H5)
    (hd : ∀ H kvs, Same H1 H → H D = some (.dK kvs) → P n kvs H → Qd H) : DcR J (gName i0) tk tv vs σ H1 D Qd := by
  refine ⟨fun i m H => m = n - i ∧ i ≤ n ∧ Same H1 H ∧ ∃ kvs, H D = some (.dK kvs) ∧ kvs.length ≤ i ∧ P i kvs H, ⟨n, by simp, Nat.zero_le _, same_new hD, [], upd_same, Nat.le_refl _, h0⟩, ?_⟩
  rintro i m H ⟨rfl, hi, s, kvs, e, hl, p⟩
  by_cases hlt : i < n
  · refine .inr ⟨go i H hlt s, fun H' => i + 1 ≤ n ∧ Same H1 H' ∧ ∃ kvs, H' D = some (.dK kvs) ∧ kvs.length ≤ i + 1 ∧ P (i + 1) kvs H', fun H' p' => ⟨n - (i + 1), by omega, rfl, p'⟩, fun x H' y => ?_⟩
    have z := hs i kvs x H H' (fun y z H5 => ∃ kvs k, y = kV k ∧ H5 D = some (.dK kvs) ∧ kvs.length < sizeLine ∧ (i + 1 ≤ n ∧ Same H1 (upd H5 D (.dK (putK kvs k z))) ∧ ∃ kvs', (upd H5 D (.dK (putK kvs k z))) D = some (.dK kvs') ∧ kvs'.length ≤ i + 1 ∧ P (i + 1) kvs' (upd H5 D (.dK (putK kvs k z))))) hlt s p y
      (fun k z H5 s5 p5 => ⟨kvs, k, rfl, s5 _ _ e, by have := sizeLine_eq; omega, hlt, fun a o ha => ?_, putK kvs k z, upd_same, Nat.le_trans (length_putK _ _ _) (by omega), hm _ _ _ _ _ (s5 _ _ e) sameX_upd p5⟩)
    · obtain ⟨z1, z2⟩ := z
      exact ⟨z1, d_yes z2⟩
    · rw [upd_ne (ne_of_none ha hD)]
      exact s5 _ _ (s _ _ ha)
  · obtain rfl : i = n := by omega
    exact .inl ⟨st H s, hd H kvs s e p⟩
end Tx
/-! ## Blk -/
/-! The rules whose readings name the written part, with it told (for a comprehension's block). -/
namespace Tx
open PySem PySem.Spec PyProof.Rows L2
section
variable {X : Cx} (K : PySem.W.Frag)
theorem fldB {e : Expr} {f : Str} {ta : TE} {pos : Pos} (he : PE X e ta) (hb : attributeBase e f X.env (eval e X.env) = eval e X.env := by rfl) (hK : X.K = K := by rfl) : PE X (.Attribute e f pos) (tFl K ta f) := by
  subst hK
  exact p_fld he hb
theorem ixB_list (hK : X.K = K := by rfl) : IxR X (rIxL K) := by
  subst hK
  exact ix_list
theorem ixB_tup (hK : X.K = K := by rfl) : IxR X (rIxT K) := by
  subst hK
  exact ix_tup
theorem opB_in (hK : X.K = K := by rfl) : OpR X (compareOp .In) (L2.rIn K false) := by
  subst hK
  exact op_in_seq
theorem opB_notIn (hK : X.K = K := by rfl) : OpR X (compareOp .NotIn) (L2.rIn K true) := by
  subst hK
  exact op_notIn_seq
theorem isiB {a c : Expr} {ta tc : TE} {p pos : Pos} (hm : X.mg "isinstance" = none) (ha : PE X a ta) (hc : PE X c tc) (hg : Gl X "isinstance" := by rfl)
    (h1 : starEach [a, c] X.env = (false, eval a X.env) :: starEach [c] X.env := by rfl) (h2 : starEach [c] X.env = (false, eval c X.env) :: starEach [] X.env := by rfl) (hp : (backTo pos (starEach [c] X.env)).any (·.1) = false := by rfl) (hK : X.K = K := by rfl) :
    PE X (.Call (.Name "isinstance" p) [a, c] [] pos) (tIsi K ta tc) := by
  subst hK
  exact p_isi hm ha hc hg h1 h2 hp
theorem propB {k : Nat} {p g : Addr} {sp : Sp} {e : Expr} {f : Str} {ta : TE} {pos : Pos} (he : PE X e ta) (F : Own.FR X k g sp) (hr : Room (k + 1) X.A) (hab : attributeBase e f X.env (eval e X.env) = eval e X.env := by rfl) (hK : X.K = K := by rfl) : PE X (.Attribute e f pos) (Own.tProp K f p g sp ta) := by
  subst hK
  exact Own.pe_prop he F hr hab
theorem methB {k : Nat} {g : Addr} {sp : Sp} {m : Str} {o e : Expr} {es : List Expr} {ta : TE} {t : TA} {apos pos : Pos} {pl : Sem Bool} (he : PE X o ta) (F : Own.FR X k g sp) (hr : Room k X.A) (ha : PA X (e :: es) t)
    (hst : starEach (e :: es) X.env = (false, eval e X.env) :: starEach es X.env := by rfl) (hpl : (backTo pos (starEach es X.env)).any (·.1) = false := by rfl)
    (ht : eval (.Call (.Attribute o m apos) (e :: es) [] pos) X.env = (do
      let ov ← eval o X.env
      standAt apos.atName
      let (f, first) ← holding [ov] (getMethod ov m pl)
      callWith pos f first (backTo pos (starEach (e :: es) X.env)) (backToKw pos (keywordEach [] X.env))) := by rfl) (hK : X.K = K := by rfl) :
    PE X (.Call (.Attribute o m apos) (e :: es) [] pos) (Own.tMeth K m g sp ta t) := by
  subst hK
  exact Own.pe_meth he F hr ha hst hpl ht
theorem lstB {tg l : Expr} {tl : TE} (hl : PE X l tl) (hK : X.K = K := by rfl) : PI X tg l (iList K tl) := by
  subst hK
  exact pi_list hl
theorem tupB {tg l : Expr} {tl : TE} (hl : PE X l tl) (hK : X.K = K := by rfl) : PI X tg l (iTup K tl) := by
  subst hK
  exact pi_tup hl
end
end Tx
/-! ## Kit5 -/
namespace Tx
open PySem PySem.Spec PyProof.Rows L2
/-- an iterator over the values f p of a list L -/
structure Over (J : It) (H1 : Hp) {α : Type} (f : α → V) (L : List α) : Prop where
  go : ∀ i H, i < L.length → Same H1 H → J.go i H
  st : ∀ H, Same H1 H → J.stop L.length H
  y : ∀ i x H H', Same H1 H → J.yld i H x H' → H' = H ∧ ∃ p, L[i]? = some p ∧ x = f p
section
variable {K : PySem.W.Frag} {H1 : Hp} {α : Type} {f : α → V} {L : List α}
theorem overT {a : Addr} (h : SqT K H1 a (L.map f)) : Over (Itt K a) H1 f L := by
  refine ⟨fun i H hi s => itt_go h (by simpa using hi) s, fun H s => by have := itt_st h s; rwa [List.length_map] at this, fun i x H H' s y => ?_⟩
  obtain ⟨e, hx⟩ := itt_y h s y
  rw [List.getElem?_map] at hx
  obtain ⟨z, hz, rfl⟩ := Option.map_eq_some_iff.mp hx
  exact ⟨e, z, hz, rfl⟩
theorem overL {a : Addr} (h : SqL K H1 a (L.map f)) : Over (Itl K a) H1 f L := by
  refine ⟨fun i H hi s => itl_go h (by simpa using hi) s, fun H s => by have := itl_st h s; rwa [List.length_map] at this, fun i x H H' s y => ?_⟩
  obtain ⟨e, hx⟩ := itl_y h s y
  rw [List.getElem?_map] at hx
  obtain ⟨z, hz, rfl⟩ := Option.map_eq_some_iff.mp hx
  exact ⟨e, z, hz, rfl⟩
theorem overK {d : Addr} {o : Obj} {L : List (L2.Key × V)} (h : H1 d = some (.frz o (.dK L))) : Over (Itk d o L) H1 (fun p => kV p.1) L := by
  refine ⟨fun i H hi s => itk_go h hi s, fun H s => itk_st h s, fun i x H H' s y => ?_⟩
  obtain ⟨e, k, v, hk, rfl⟩ := y
  exact ⟨e, _, hk, rfl⟩
variable {J : It} {g : TG} {tt : TT} {te : TE} {σ : L2.St} {D : Addr} {Qd : Hp → Prop} {vs : List Nat}
theorem lc_map (O : Over J H1 f L) (hD : H1 D = none) (hn : L.length ≤ 100000) (F : α → Option V)
    (hs : ∀ p H (K1 : Hp → Prop) (K2 : VK), p ∈ L → Same H1 H → (∀ v H4, F p = some v → Same H H4 → K2 v H4) → (∀ H3, F p = none → Same H H3 → K1 H3) →
      g (f p) (wipe σ vs) H fun σ2 H2 => wipe σ2 vs = wipe σ vs ∧ tt σ2 H2 fun b H3 => if b = true then te σ2 H3 K2 else K1 H3)
    (hd : ∀ H, Same H1 H → H D = some (.lst (L.filterMap F)) → Qd H) : LcR J g tt te vs σ H1 D Qd := by
  refine lc_pure (n := L.length) (fun i => L[i]?.bind F) hD hn O.go O.st (fun i x H H' K1 K2 hi s y k2 k1 => ?_) fun H s e => hd H s (by rw [e, range_map])
  obtain ⟨rfl, p, hp, rfl⟩ := O.y i x H H' s y
  rw [hp] at k2 k1
  exact hs p H' K1 K2 (List.mem_of_getElem? hp) s k2 k1
theorem lc_mapV (O : Over J H1 f L) (hD : H1 D = none) (hn : L.length ≤ 100000) (F : α → V)
    (hs : ∀ p H (K2 : VK), p ∈ L → Same H1 H → (∀ H4, Same H H4 → K2 (F p) H4) → g (f p) (wipe σ vs) H fun σ2 H2 => wipe σ2 vs = wipe σ vs ∧ te σ2 H2 K2)
    (hd : ∀ H, Same H1 H → H D = some (.lst (L.map F)) → Qd H)
    (mg : ∀ x σ H (Q Q' : L2.St → Hp → Prop), (∀ σ' H', Q σ' H' → Q' σ' H') → g x σ H Q → g x σ H Q' := by exact mg_name) : LcR J g tYes te vs σ H1 D Qd := by
  refine lc_map O hD hn (fun p => some (F p)) (fun p H K1 K2 hp s k2 k1 => mg _ _ _ _ _ (fun σ' H2 ⟨e, q⟩ => ⟨e, t_yes q⟩) (hs p H K2 hp s fun H4 s4 => k2 _ H4 rfl s4)) fun H s e => hd H s (by rw [e, fm_some])
/-- .. all the same bool -/
theorem lc_rep {b : Bool} (O : Over J H1 f L) (hD : H1 D = none) (hn : L.length ≤ 100000)
    (hs : ∀ p H (K2 : VK), p ∈ L → Same H1 H → (∀ H4, Same H H4 → K2 (.bl b) H4) → g (f p) (wipe σ vs) H fun σ2 H2 => wipe σ2 vs = wipe σ vs ∧ te σ2 H2 K2)
    (hd : ∀ H, Same H1 H → H D = some (.lst ((List.replicate L.length b).map V.bl)) → Qd H)
    (mg : ∀ x σ H (Q Q' : L2.St → Hp → Prop), (∀ σ' H', Q σ' H' → Q' σ' H') → g x σ H Q → g x σ H Q' := by exact mg_name) : LcR J g tYes te vs σ H1 D Qd :=
  lc_mapV O hD hn (fun _ => .bl b) hs (fun H s e => hd H s (by rw [e]; congr 2; simp [List.map_const'])) mg
/-- .. bools -/
theorem lc_bl (O : Over J H1 f L) (hD : H1 D = none) (hn : L.length ≤ 100000) (F : α → Bool)
    (hs : ∀ p H (K2 : VK), p ∈ L → Same H1 H → (∀ H4, Same H H4 → K2 (.bl (F p)) H4) → g (f p) (wipe σ vs) H fun σ2 H2 => wipe σ2 vs = wipe σ vs ∧ te σ2 H2 K2)
    (hd : ∀ H, Same H1 H → H D = some (.lst ((L.map F).map V.bl)) → Qd H)
    (mg : ∀ x σ H (Q Q' : L2.St → Hp → Prop), (∀ σ' H', Q σ' H' → Q' σ' H') → g x σ H Q → g x σ H Q' := by exact mg_name) : LcR J g tYes te vs σ H1 D Qd :=
  lc_mapV O hD hn (fun p => .bl (F p)) hs (fun H s e => hd H s (by rw [e, List.map_map]; rfl)) mg
/-- {k(p): v(p) for p in L}, the keys unlike; of the values a word R -/
theorem dc_map {tk tv : TE} {i0 : Nat} (O : Over J H1 f L) (hD : H1 D = none) (hn : L.length ≤ 100000) (k : α → L2.Key) (hk : (L.map k).Nodup) (R : α → V → Hp → Prop)
    (hm : ∀ p v l H H', H D = some (.dK l) → SameX D H H' → R p v H → R p v H') (hm2 : ∀ p v H H', Same H H' → R p v H → R p v H')
    (hs : ∀ p H (K2 : V → VK), p ∈ L → Same H1 H → (∀ z H5, Same H H5 → R p z H5 → K2 (kV (k p)) z H5) →
      gName i0 (f p) (wipe σ vs) H fun σ2 H2 => wipe σ2 vs = wipe σ vs ∧ tk σ2 H2 fun y H4 => tv σ2 H4 fun z H5 => K2 y z H5)
    (hd : ∀ H kvs, Same H1 H → H D = some (.dK kvs) → kvs.map (·.1) = L.map k → (∀ (j : Nat) (p : α) (q : L2.Key × V), L[j]? = some p → kvs[j]? = some q → R p q.2 H) → Qd H) : DcR J (gName i0) tk tv vs σ H1 D Qd := by
  refine dc_gen (n := L.length) (fun i kvs H => kvs.map (·.1) = (L.take i).map k ∧ ∀ (j : Nat) (p : α) (q : L2.Key × V), L[j]? = some p → kvs[j]? = some q → R p q.2 H) hD hn ⟨rfl, fun j p q _ h => by cases h⟩ (fun i kvs l H H' e s h => ⟨h.1, fun j p q h1 h2 => hm _ _ _ _ _ e s (h.2 j p q h1 h2)⟩) O.go O.st
    (fun i kvs x H H' K2 hi s ⟨h1, h2⟩ y k2 => ?_) fun H kvs s e ⟨h1, h2⟩ => hd H kvs s e (by rw [h1, List.take_length]) h2
  obtain ⟨rfl, p, hp, rfl⟩ := O.y i x H H' s y
  refine hs p H' K2 (List.mem_of_getElem? hp) s fun z H5 s5 r => k2 _ _ _ s5 ?_
  have hlen : kvs.length = i := by
    have := congrArg List.length h1
    simp only [List.length_map, List.length_take] at this
    omega
  have hnew : valV kvs (k p) = none := by
    refine valV_no fun z => ?_
    rw [h1] at z
    rw [← List.take_append_drop i L, List.map_append, List.nodup_append] at hk
    refine hk.2.2 _ z _ ?_ rfl
    refine List.mem_map_of_mem ?_
    rw [List.mem_iff_getElem?]
    exact ⟨0, by rw [List.getElem?_drop]; simpa using hp⟩
  rw [putK_new z hnew]
  refine ⟨?_, fun j p' q h3 h4 => ?_⟩
  · rw [List.map_append, h1, List.take_succ, List.map_append, hp]
    rfl
  · rcases Nat.lt_or_ge j kvs.length with hj | hj
    · rw [List.getElem?_append_left hj] at h4
      exact hm2 _ _ _ _ s5 (h2 j p' q h3 h4)
    · rw [List.getElem?_append_right hj] at h4
      have : j = i := by
        rcases Nat.lt_or_ge (j - kvs.length) 1 with z | z
        · omega
        · rw [List.getElem?_eq_none (by simpa using z)] at h4; cases h4
      subst this
      rw [hlen] at h4
      simp at h4
      subst h4
      rw [hp] at h3
      cases h3
      exact r
end
end Tx
/-! ## DGather -/
namespace Tx
open PySem PySem.Spec PyProof.Rows L2
section
variable {w : World} {K : PySem.W.Frag} {mg : Str → Option Value} {base : Heap} (T : Txt K mg)
theorem hu1 {k : Nat} {A : Around} (r : Room k A) : A.units + 1 < cLine := by have := r.units; omega
def TS (K : PySem.W.Frag) (C : Addr) : Prop := C = He.ga K "Lane" ∨ C = He.ga K "Avenue" ∨ C = He.ga K "Road"
def spEqA (K : PySem.W.Frag) (C : Addr) : Sp := fun vs H Q _ => ∃ v s, vs = [v, v] ∧ IsSt K H v s ∧ s.Ok ∧ C = He.ga K s.cls ∧ Q (.bl true) H
include T in
theorem eqs (C : Addr) (h : TS K C) : ∃ g, Own.EqC K C g ∧ Fn w K mg base 2 g (spEqA K C) := by
  rcases h with e | e | e
  · subst e
    refine ⟨_, T.eq_Lane, (ok_Lane_eq T).imp fun vs H Q E ⟨v, s, e1, e2, e3, e4, q⟩ => ⟨v, s, e1, e2, e3, ?_, q⟩⟩
    cases s with
    | lane => rfl
    | avenue => exact absurd e4 T.ne_Lane_Avenue
    | road => exact absurd e4 T.ne_Lane_Road
  · subst e
    refine ⟨_, T.eq_Avenue, (ok_Avenue_eq T).imp fun vs H Q E ⟨v, s, e1, e2, e3, e4, q⟩ => ⟨v, s, e1, e2, e3, ?_, q⟩⟩
    cases s with
    | lane => exact absurd e4.symm T.ne_Lane_Avenue
    | avenue => rfl
    | road => exact absurd e4 T.ne_Avenue_Road
  · subst e
    refine ⟨_, T.eq_Road, (ok_Road_eq T).imp fun vs H Q E ⟨v, s, e1, e2, e3, e4, q⟩ => ⟨v, s, e1, e2, e3, ?_, q⟩⟩
    cases s with
    | lane => exact absurd e4.symm T.ne_Lane_Road
    | avenue => exact absurd e4.symm T.ne_Avenue_Road
    | road => rfl
/-- the values are these streets -/
def Rows (K : PySem.W.Frag) (H : Hp) (L : List Row) : Prop := ∀ p ∈ L, IsSt K H p.1 p.2
theorem Rows.lx {H H' : Hp} {L : List Row} (h : Rows K H L) (l : Lx H H') : Rows K H' L := fun p hp => (h p hp).lx l
def dN (L : List Row) : List (L2.Key × V) := L.map fun p => (Sum.inr (nmR p), p.1)
def spGath (K : PySem.W.Frag) : Sp := fun vs H Q _ => ∃ p L, vs = [.ref p] ∧ SqT K H p (L.map (·.1)) ∧ Rows K H L ∧ (∀ r ∈ L, r.2.Ok) ∧ (L.map nmR).Nodup ∧ L.length < 60 ∧
  ∀ d L' H', Same H H' → H d = none → L'.Perm L → sortedS (L'.map nmR) = true → H' d = some (.dK (dN L')) → Q (.ref d) H'
theorem sc_gathered : FnScope ["streets", "names", "found", "name", "street"] ["streets"] (defScope (top 62)) := ⟨rfl, rfl, rfl, by decide +kernel, rfl, by decide +kernel, by decide +kernel⟩
include T in
theorem ok_gathered : Fn w K mg base 4 (He.ga K "gathered") (spGath K) := by
  refine funR T.f_gathered sc_gathered (fun _ _ _ _ _ _ us hl => match us, hl with | [_], _ => rfl) (fun vs H Q E h => ?_) (fun cdv A outer s H vs Q E hr h => ?_)
  · obtain ⟨p, L, rfl, _⟩ := h; rfl
  obtain ⟨p, L, rfl, hp, hrows, hok, hnd, hfew, q⟩ := h
  refine ⟨_, pss_cons (ps_set (i := 1) sc_gathered.nd rfl (Or.inl rfl) (p_b1 (STx.cr_sortedTx rfl) bt_sorted T.n_sorted (p_t1 (STx.cr_setTx rfl) bt_set T.n_set (pe_lc (own := [("street", 4)]) (g := gName 4) (tt := tYes) rfl sc_gathered.nd (tupB K (pv 0)) (blkOk_by (N := ["streets", "names", "found", "name", "street"]) (sc := defScope (top 62)) (by decide +kernel)) (fun _ _ _ _ _ => pg_name (i := 4) sc_gathered.nd rfl (Or.inl rfl)) (fun _ _ _ _ _ => pts_nil) (fun _ _ _ _ _ => p_t1 SkE.call_str_str bt_str T.n_str (fldB K (pv 4)))))))
    (pss_cons (ps_set (i := 2) sc_gathered.nd rfl (Or.inr rfl) (pe_dc (own := [("name", 3)]) (g := gName 3) (tt := tYes) rfl sc_gathered.nd (pi_list (pv 1)) (blkOk_by (N := ["streets", "names", "found", "name", "street"]) (sc := defScope (top 62)) (by decide +kernel)) (fun _ _ _ _ _ => pg_name (i := 3) sc_gathered.nd rfl (Or.inr rfl)) (fun _ _ _ _ _ => pts_nil) (fun _ _ _ _ _ => pv 3)
      (fun _ _ _ _ _ => pe_lc (own := [("street", 4)]) (g := gName 4) rfl sc_gathered.nd (tupB K (pv 0)) (blkOk_by (N := ["streets", "names", "found", "name", "street"]) (sc := relS _ (defScope (top 62))) (by decide +kernel)) (fun _ _ _ _ _ => pg_name (i := 4) sc_gathered.nd rfl (Or.inl rfl)) (fun _ _ _ _ _ => pts_one (pt_cmpR op_eq (fldB K (pv 4)) (pv 3) (nomark _))) (fun _ _ _ _ _ => pv 4))))
    (pss_cons (ps_for PassesOwn.never rfl (pi_list (pv 1)) (pg_name (i := 3) sc_gathered.nd rfl (Or.inr rfl))
      (pss_one (ps_if (pt_val (p_b1 (cr_any rfl) bt_any T.n_any (pe_lc (own := [("street", 4)]) (g := gName 4) (tt := tYes) rfl sc_gathered.nd (pi_list (pe_dget (hu1 hr) (pv 2) (pv 3) (fun _ _ => rfl))) (blkOk_by (N := ["streets", "names", "found", "name", "street"]) (sc := defScope (top 62)) (by decide +kernel)) (fun _ _ _ _ _ => pg_name (i := 4) sc_gathered.nd rfl (Or.inl rfl)) (fun _ _ _ _ _ => pts_nil)
        (fun _ _ _ _ _ => pe_cmpR (Own.op_ne (T := TS K) (sp := spEqA K) (eqs T) hr) (pv 4) (pe_ix (ixB_list K) (pe_dget (hu1 hr) (pv 2) (pv 3) (fun _ _ => rfl)) pe_int (fun _ _ => rfl)) (nomark _))))) pss_never pss_nil)))
    (pss_one (ps_ret (pe_dc (own := [("name", 3)]) (g := gName 3) (tt := tYes) rfl sc_gathered.nd (pi_list (pv 1)) (blkOk_by (N := ["streets", "names", "found", "name", "street"]) (sc := defScope (top 62)) (by decide +kernel)) (fun _ _ _ _ _ => pg_name (i := 3) sc_gathered.nd rfl (Or.inl rfl)) (fun _ _ _ _ _ => pts_nil) (fun _ _ _ _ _ => pv 3)
      (fun _ _ _ _ _ => pe_ix (ixB_list K) (pe_dget (hu1 hr) (pv 2) (pv 3) (fun _ _ => rfl)) pe_int (fun _ _ => rfl))))))), ?_⟩
  have hp0 : SqT K H p (L.map (·.1)) := hp
  have hlen : L.length < 60 := hfew
  refine ⟨_, rfl, p, rfl, ⟨_, hp⟩, fun D hD => ?_⟩
  refine lc_mapV (overT hp0) hD (by omega) (fun r => .str (nmR r)) (fun r H2 K2 hr2 s2 k2 => ?_) (fun H2 s2 e2 => ?_)
  · obtain ⟨x, dx, t, e, h1, h2⟩ := hrows r hr2
    refine ⟨by simp [wipe], _, rfl, ?_⟩
    rw [e]
    exact fld_name T (s2 _ _ h1) ⟨⟨_, rfl, k2 H2 (Same.refl _)⟩⟩
  have e2' : H2 D = some (.lst ((L.map nmR).map V.str)) := by rw [e2, List.map_map]; rfl
  refine ⟨⟨D, L.map nmR, rfl, .inl (.inl e2'), by rw [List.length_map]; unfold scanBound; omega, fun a ls ha nd mem ll => ?_⟩⟩
  rw [List.length_map] at ll
  refine ⟨⟨a, ls, rfl, upd_same, by omega, fun ys b pm so hb => ?_⟩⟩
  have ynd : ys.Nodup := pm.nodup_iff.mpr nd
  have ymem : ∀ y, y ∈ ys ↔ y ∈ L.map nmR := fun y => (pm.mem_iff).trans (mem y)
  have ypm : ys.Perm (L.map nmR) := (List.perm_ext_iff_of_nodup ynd hnd).mpr ymem
  have ylen : ys.length = L.length := by rw [ypm.length_eq, List.length_map]
  have s3 : Same H (upd (upd H2 a (STx.SetTx w a ls)) b (.lst (ys.map V.str))) := (s2.trans (same_new ha)).trans (same_new hb)
  have hb3 : SqL K (upd (upd H2 a (STx.SetTx w a ls)) b (.lst (ys.map V.str))) b (ys.map V.str) := .inl (.inl upd_same)
  have ynd' : (ys.map (Sum.inr : Str → L2.Key)).Nodup := by
    rw [List.Nodup, List.pairwise_map]
    exact List.Pairwise.imp (fun h z => h (Sum.inr.inj z)) ynd
  refine ⟨_, rfl, b, rfl, ⟨_, hb3⟩, fun d hd => ?_⟩
  refine dc_map (overL hb3) hd (by omega) (Sum.inr : Str → L2.Key) ynd' (fun y v H => ∃ e r, v = .ref e ∧ r ∈ L ∧ nmR r = y ∧ H e = some (.lst [r.1])) (fun y v l H4 H5 e s ⟨e', r, h1, h2, h3, h4⟩ => ⟨e', r, h1, h2, h3, s _ _ (fun z => by rw [z, e] at h4; cases h4) h4⟩) (fun y v H4 H5 s ⟨e', r, h1, h2, h3, h4⟩ => ⟨e', r, h1, h2, h3, s _ _ h4⟩)
    (fun y H4 K2 hy s4 k2 => ?_) (fun H4 kvs s4 e4 hk hv => ?_)
  · refine ⟨rfl, _, rfl, _, rfl, p, rfl, ⟨_, lx_t (lx (s3.trans s4)) hp⟩, fun D2 hD2 => ?_⟩
    refine lc_map (overT (f := fun r : Row => r.1) (lx_t (lx (s3.trans s4)) hp0)) hD2 (by omega) (fun r => if nmR r = y then some r.1 else none) (fun r H5 K1 K3 hr5 s5 k3 k1 => ?_) (fun H5 s5 e5 => ?_)
    · obtain ⟨x, dx, t, e, h1, h2⟩ := hrows r hr5
      refine ⟨by simp [wipe], _, rfl, ?_⟩
      rw [e]
      refine fld_name T (s5 _ _ (s4 _ _ (s3 _ _ h1))) ⟨_, rfl, rfl, _, rfl, ?_⟩
      by_cases hn : nmR r = y
      · rw [decide_eq_true (by show V.str _ = V.str _; rw [← hn]; rfl)]
        refine iteT ⟨_, rfl, ?_⟩
        rw [← e]
        exact k3 _ _ (if_pos hn) (Same.refl _)
      · rw [decide_eq_false (by intro z; injection z with z; exact hn z)]
        exact iteF (k1 _ (if_neg hn) (Same.refl _))
    · obtain ⟨r, hr5, hn⟩ := List.mem_map.mp ((ymem y).mp hy)
      rw [← hn, only_name L r hnd hr5] at e5
      exact k2 _ _ s5 ⟨D2, r, rfl, hr5, hn, e5⟩
  have s4' := s3.trans s4
  have hb4 := lx_l (lx s4) hb3
  have hkl : kvs.length = ys.length := by have := congrArg List.length hk; simpa using this
  have hkn : (kvs.map (·.1)).Nodup := by rw [hk]; exact ynd'
  have get : ∀ y ∈ ys, ∃ e r, r ∈ L ∧ nmR r = y ∧ valV kvs (Sum.inr y) = some (.ref e) ∧ H4 e = some (.lst [r.1]) := by
    intro y hy
    obtain ⟨j, hj⟩ := List.mem_iff_getElem?.mp hy
    have hj' : j < kvs.length := by rw [hkl]; exact (List.getElem?_eq_some_iff.mp hj).1
    obtain ⟨e, r, h1, h2, h3, h4⟩ := hv j y kvs[j] hj (List.getElem?_eq_getElem hj')
    refine ⟨e, r, h2, h3, valV_get (j := j) hkn ?_, h4⟩
    have z : (kvs.map (·.1))[j]? = (ys.map Sum.inr)[j]? := by rw [hk]
    rw [List.getElem?_map, List.getElem?_map, hj, List.getElem?_eq_getElem hj'] at z
    rw [List.getElem?_eq_getElem hj', ← h1]
    injection z with z
    rw [← z]
  refine ⟨_, rfl, b, rfl, ⟨_, hb4⟩, ?_⟩
  refine for_any (n := ys.length) (fun i σ H' => Same H4 H' ∧ ∃ u v, σ = [some (.ref p), some (.ref b), some (.ref d), u, v]) ⟨Same.refl _, _, _, rfl⟩ (fun i σ H' hi h => (overL hb4).go i H' hi h.1) (fun σ H' h => (overL hb4).st H' h.1) (fun i x σ H5 H6 hi ⟨s5, u, v, hσ⟩ hyy => ?_) (fun σ H5 ⟨s5, u, v, hσ⟩ => ?_)
  · subst hσ
    obtain ⟨rfl, y, hy, rfl⟩ := (overL hb4).y i x H5 H6 s5 hyy
    have hy' := List.mem_of_getElem? hy
    obtain ⟨e, r, hr5, hn, hg, he⟩ := get y hy'
    have he' : SqL K H6 e ([r].map (·.1)) := .inl (.inl (s5 _ _ he))
    refine ⟨_, rfl, _, rfl, d, _, rfl, dget (.inl (s5 _ _ e4)) hg, e, rfl, ⟨_, he'⟩, fun D5 hD5 => ?_⟩
    refine lc_rep (b := false) (overL he') hD5 (by simp) (fun r' H7 K2 hr7 s7 k2 => ?_) (fun H7 s7 e7 => ?_)
    · rw [List.mem_singleton] at hr7
      subst hr7
      obtain ⟨x, dx, t, e1, h1, h2⟩ := hrows r' hr5
      have sA := ((s4'.trans s5).trans s7)
      refine ⟨by simp [wipe], _, rfl, _, rfl, _, rfl, d, _, rfl, dget (.inl (s7 _ _ (s5 _ _ e4))) hg, ?_⟩
      refine ⟨e, _, 0, r'.1, rfl, rfl, lx_l (lx s7) he', rfl, ?_⟩
      rw [e1]
      refine ⟨x, x, He.ga K r'.2.cls, rfl, rfl, ?_, ⟨dx, _, sA _ _ h1⟩, ⟨dx, _, sA _ _ h1⟩, ⟨⟨V.ref x, r'.2, rfl, ⟨x, dx, t, rfl, sA _ _ h1, lx_t (lx sA) h2⟩, hok r' hr5, rfl, true, rfl, k2 _ (Same.refl _)⟩⟩⟩
      cases r'.2 with
      | lane => exact .inl rfl
      | avenue => exact .inr (.inl rfl)
      | road => exact .inr (.inr rfl)
    · refine ⟨⟨D5, _, rfl, .inl (.inl e7), ?_⟩⟩
      refine ⟨false, rfl, iteF ⟨s5.trans s7, _, _, rfl⟩⟩
  · subst hσ
    refine ⟨_, rfl, b, rfl, ⟨_, lx_l (lx s5) hb4⟩, fun d2 hd2 => ?_⟩
    refine dc_map (overL (lx_l (lx s5) hb4)) hd2 (by omega) (Sum.inr : Str → L2.Key) ynd' (fun y v _ => ∃ r : Row, v = r.1 ∧ r ∈ L ∧ nmR r = y) (fun _ _ _ _ _ _ _ h => h) (fun _ _ _ _ _ h => h)
      (fun y H6 K2 hy s6 k2 => ?_) (fun H6 kvs2 s6 e6 hk2 hv2 => ?_)
    · obtain ⟨e, r, hr5, hn, hg, he⟩ := get y hy
      refine ⟨rfl, _, rfl, _, rfl, _, rfl, d, _, rfl, dget (.inl (s6 _ _ (s5 _ _ e4))) hg, e, _, 0, r.1, rfl, rfl, .inl (.inl (s6 _ _ (s5 _ _ he))), rfl, ?_⟩
      exact k2 _ _ (Same.refl _) ⟨r, rfl, hr5, hn⟩
    · have hnm : (byN L ys).map nmR = ys := byN_names fun y hy => (ymem y).mp hy
      have hpm : (byN L ys).Perm L := byN_perm hnd ypm
      have sF := (s4'.trans s5).trans s6
      refine q d2 (byN L ys) H6 sF ((s4'.trans s5).free hd2) hpm (by rw [hnm]; exact so) ?_
      rw [e6]
      congr 2
      have hl1 : kvs2.length = ys.length := by have := congrArg List.length hk2; simpa using this
      have hl2 : (byN L ys).length = ys.length := by have := congrArg List.length hnm; simpa using this
      apply List.ext_getElem (by rw [hl1]; unfold dN; rw [List.length_map, hl2])
      intro j h1 h2
      have hj : j < ys.length := by omega
      obtain ⟨r, e1, e2, e3⟩ := hv2 j ys[j] kvs2[j] (List.getElem?_eq_getElem hj) (List.getElem?_eq_getElem h1)
      have z : (kvs2.map (·.1))[j]? = (ys.map Sum.inr)[j]? := by rw [hk2]
      rw [List.getElem?_map, List.getElem?_map, List.getElem?_eq_getElem hj, List.getElem?_eq_getElem h1] at z
      have z2 : ((byN L ys).map nmR)[j]? = ys[j]? := by rw [hnm]
      rw [List.getElem?_map, List.getElem?_eq_getElem hj, List.getElem?_eq_getElem (by omega : j < (byN L ys).length)] at z2
      injection z with z
      injection z2 with z2
      have hr' : (byN L ys)[j] ∈ L := hpm.mem_iff.mp (List.getElem_mem _)
      have same : (byN L ys)[j] = r := by
        have f1 := find_name L _ hnd hr'
        have f2 := find_name L r hnd e2
        rw [e3] at f2
        rw [z2, f2] at f1
        exact (Option.some.inj f1).symm
      have e9 : (dN (byN L ys))[j] = (Sum.inr (nmR (byN L ys)[j]), ((byN L ys)[j]).1) := List.getElem_map ..
      rw [e9]
      show kvs2[j] = (Sum.inr (nmR (byN L ys)[j]), ((byN L ys)[j]).1)
      rw [z2, same, ← e1, ← z]
end
end Tx
/-! ## Dc2 -/
/-! {k: v for .. in .. for .. in ..} (after the list's two-clause rule). -/
namespace Tx
open PySem PySem.Spec PyProof.Rows L2
theorem compTurnD_out (kx vx t0 i0 t1 i1 : Expr) (ifs0 ifs1 : List Expr) (scope : Scope) (pos : Pos) (it acc : Value) (env : Env) :
    compTurn (.DictComp kx vx [⟨t0, i0, ifs0, 0⟩, ⟨t1, i1, ifs1, 0⟩] scope pos) 0 it acc env = (do
      standAt i0.pos
      match ← pyNext it with
      | none => pure (.done .next)
      | some v =>
        letOwnedTupleGo t0 it v
        assign t0 env v
        let mut ok := true
        for c in ifs0 do
          if ok then ok ← isTrue c env (eval c env)
        if ok then
          let x ← eval i1 env
          standAt i1.pos
          let x ← foldedSetIterable i1 env x
          let _ ← runOwn (.compStart (.DictComp kx vx [⟨t0, i0, ifs0, 0⟩, ⟨t1, i1, ifs1, 0⟩] scope pos) 1 (← holding [x] (pyIter x)) acc env) env
        again (.compLoop (.DictComp kx vx [⟨t0, i0, ifs0, 0⟩, ⟨t1, i1, ifs1, 0⟩] scope pos) 0 it acc env)) := by rfl
section
variable {prog : Program} {w : World} {A : Around} {R : Result → Shared → Prop} {s : Shared} {kx vx t0 i0 t1 i1 : Expr} {ifs0 ifs1 : List Expr} {scope : Scope} {pos : Pos} {it acc : Value} {env : Env} {D : Addr}
theorem compLoopD_out (hs : ∀ x, foldedSetIterable i1 env x = pure x) (I : Nat → Shared → Prop)
    (turn : ∀ n s, I n s → wpAny (model prog w) A (pyNext it) (fun r s₁ => match r with
      | none => R (.ok .next) s₁
      | some v => wpAny (model prog w) A (letOwnedTupleGo t0 it v) (fun _ s₁' => wpAny (model prog w) A (assign t0 env v) (fun _ s₂ =>
          wpAny (model prog w) A (forIn ifs0 true fun c r => if r = true then do let ok ← isTrue c env (eval c env); pure (ForInStep.yield ok) else pure (ForInStep.yield r)) (fun ok s₃ =>
            if ok = true then wpAny (model prog w) A (eval i1 env) (fun x s₄ => wpAny (model prog w) A (pyIter x) (fun it1 s₅ =>
              codeAny (model prog w) A (.compStart (.DictComp kx vx [⟨t0, i0, ifs0, 0⟩, ⟨t1, i1, ifs1, 0⟩] scope pos) 1 it1 acc env) (fun r s' => match r with
                | .ok _ => ∃ m, m < n ∧ I m s'
                | .error _ => False) s₅) (notedBy (model prog w) A env fun e s' => R (.error e) s') s₄) (notedBy (model prog w) A env fun e s' => R (.error e) s') s₃
            else ∃ m, m < n ∧ I m s₃) (notedBy (model prog w) A env fun e s' => R (.error e) s') s₂) (notedBy (model prog w) A env fun e s' => R (.error e) s') s₁') (notedBy (model prog w) A env fun e s' => R (.error e) s') s₁) (notedBy (model prog w) A env fun e s' => R (.error e) s') s)
    (n : Nat) (h : I n s) :
    codeAny (model prog w) A (.compLoop (.DictComp kx vx [⟨t0, i0, ifs0, 0⟩, ⟨t1, i1, ifs1, 0⟩] scope pos) 0 it acc env) R s := by
  refine codeAny_loop rfl I (fun n s hI => ?_) n h
  show wpAny _ A ((compTurn (.DictComp kx vx [⟨t0, i0, ifs0, 0⟩, ⟨t1, i1, ifs1, 0⟩] scope pos) 0 it acc env).onRaise (fun x => do noteFrame x env; theTreesLotGoes x)) _ _ s
  refine wpAny_noted ?_
  rw [compTurnD_out]
  refine wpAny_bind (wpAny_standAt (wpAny_bind (wpAny_mono (turn n s hI) (fun r s₁ h₁ => ?_) fun _ _ h' => h')))
  cases r with
  | none => exact wpAny_pure h₁
  | some v =>
    refine wpAny_bind (wpAny_mono h₁ (fun _ s₁' h₁' => ?_) fun _ _ h' => h')
    refine wpAny_bind (wpAny_mono h₁' (fun _ s₂ h₂ => wpAny_bind (wpAny_mono h₂ (fun ok s₃ h₃ => ?_) fun _ _ h' => h')) fun _ _ h' => h')
    cases ok with
    | false => exact wpAny_pure ⟨rfl, h₃⟩
    | true =>
      refine wpAny_bind (wpAny_mono h₃ (fun x s₄ h₄ => ?_) fun _ _ h' => h')
      refine wpAny_bind (wpAny_standAt (wpAny_bind (wpAny_of_eq (hs x) (wpAny_bind (wpAny_holding (wpAny_mono h₄ (fun it1 s₅ h₅ => ?_) fun _ _ h' => h'))))))
      refine wpAny_bind (wpAny_runOwn ?_)
      rw [Around.mark_none]
      refine codeAny_mono h₅ fun r s' hr => ?_
      cases r with
      | ok f =>
        first
          | exact wpAny_pure ⟨rfl, hr⟩
          | exact wpAny_bind (wpAny_pure (wpAny_pure ⟨rfl, hr⟩))
      | error e => exact hr.elim
theorem compTurnD_in (kx vx t0 i0 t1 i1 : Expr) (ifs0 ifs1 : List Expr) (scope : Scope) (pos : Pos) (it : Value) (env : Env) (D : Addr) :
    compTurn (.DictComp kx vx [⟨t0, i0, ifs0, 0⟩, ⟨t1, i1, ifs1, 0⟩] scope pos) 1 it (.ref D) env = (do
      standAt i1.pos
      match ← pyNext it with
      | none => pure (.done .next)
      | some v =>
        letOwnedTupleGo t1 it v
        assign t1 env v
        let mut ok := true
        for c in ifs1 do
          if ok then ok ← isTrue c env (eval c env)
        if ok then
          (do
            let key ← eval kx env
            let item ← holding [key] (eval vx env)
            standAt { kx.pos with endLine := vx.pos.endLine, endCol := vx.pos.endCol }
            holding [key, item] (dictSet D key item))
        again (.compLoop (.DictComp kx vx [⟨t0, i0, ifs0, 0⟩, ⟨t1, i1, ifs1, 0⟩] scope pos) 1 it (.ref D) env)) := by rfl
theorem compLoopD_in (I : Nat → Shared → Prop)
    (turn : ∀ n s, I n s → wpAny (model prog w) A (pyNext it) (fun r s₁ => match r with
      | none => R (.ok .next) s₁
      | some v => wpAny (model prog w) A (letOwnedTupleGo t1 it v) (fun _ s₁' => wpAny (model prog w) A (assign t1 env v) (fun _ s₂ =>
          wpAny (model prog w) A (forIn ifs1 true fun c r => if r = true then do let ok ← isTrue c env (eval c env); pure (ForInStep.yield ok) else pure (ForInStep.yield r)) (fun ok s₃ =>
            if ok = true then wpAny (model prog w) A (eval kx env) (fun kv s₄ => wpAny (model prog w) A (eval vx env) (fun vv s₅ =>
              wpAny (model prog w) A (dictSet D kv vv) (fun _ s₆ => ∃ m, m < n ∧ I m s₆) (notedBy (model prog w) A env fun e s' => R (.error e) s') s₅) (notedBy (model prog w) A env fun e s' => R (.error e) s') s₄) (notedBy (model prog w) A env fun e s' => R (.error e) s') s₃
            else ∃ m, m < n ∧ I m s₃) (notedBy (model prog w) A env fun e s' => R (.error e) s') s₂) (notedBy (model prog w) A env fun e s' => R (.error e) s') s₁') (notedBy (model prog w) A env fun e s' => R (.error e) s') s₁) (notedBy (model prog w) A env fun e s' => R (.error e) s') s)
    (n : Nat) (h : I n s) :
    codeAny (model prog w) A (.compLoop (.DictComp kx vx [⟨t0, i0, ifs0, 0⟩, ⟨t1, i1, ifs1, 0⟩] scope pos) 1 it (.ref D) env) R s := by
  refine codeAny_loop rfl I (fun n s hI => ?_) n h
  show wpAny _ A ((compTurn (.DictComp kx vx [⟨t0, i0, ifs0, 0⟩, ⟨t1, i1, ifs1, 0⟩] scope pos) 1 it (.ref D) env).onRaise (fun x => do noteFrame x env; theTreesLotGoes x)) _ _ s
  refine wpAny_noted ?_
  rw [compTurnD_in]
  refine wpAny_bind (wpAny_standAt (wpAny_bind (wpAny_mono (turn n s hI) (fun r s₁ h₁ => ?_) fun _ _ h' => h')))
  cases r with
  | none => exact wpAny_pure h₁
  | some v =>
    refine wpAny_bind (wpAny_mono h₁ (fun _ s₁' h₁' => ?_) fun _ _ h' => h')
    refine wpAny_bind (wpAny_mono h₁' (fun _ s₂ h₂ => wpAny_bind (wpAny_mono h₂ (fun ok s₃ h₃ => ?_) fun _ _ h' => h')) fun _ _ h' => h')
    cases ok with
    | false => exact wpAny_pure ⟨rfl, h₃⟩
    | true =>
      exact wpAny_bind (wpAny_bind (wpAny_mono h₃ (fun kv s₄ h₄ => wpAny_bind (wpAny_holding (wpAny_mono h₄ (fun vv s₅ h₅ => wpAny_bind (wpAny_standAt (wpAny_holding (wpAny_mono h₅ (fun _ s₆ h₆ => wpAny_pure ⟨rfl, h₆⟩) fun _ _ h' => h')))) fun _ _ h' => h'))) fun _ _ h' => h'))
theorem compStartD1_ok (h0 : codeAny (model prog w) A (.compLoop (.DictComp kx vx [⟨t0, i0, ifs0, 0⟩, ⟨t1, i1, ifs1, 0⟩] scope pos) 1 it acc env) R s)
    (h : wpAny (model prog w) A (pyIter it) (fun it' s' => codeAny (model prog w) A (.compLoop (.DictComp kx vx [⟨t0, i0, ifs0, 0⟩, ⟨t1, i1, ifs1, 0⟩] scope pos) 1 it' acc env) R s')
      (notedBy (model prog w) A env fun x s' => R (.error x) s') s) :
    codeAny (model prog w) A (.compStart (.DictComp kx vx [⟨t0, i0, ifs0, 0⟩, ⟨t1, i1, ifs1, 0⟩] scope pos) 1 it acc env) R s := by
  refine codeAny_of_tree ?_
  show wpAny _ _ ((compStart (.DictComp kx vx [⟨t0, i0, ifs0, 0⟩, ⟨t1, i1, ifs1, 0⟩] scope pos) 1 it acc env).onRaise (fun x => do noteFrame x env; standAt theWindowsPlace)) _ _ s
  refine wpAny_notedAt ?_
  unfold compStart
  show wpAny _ _ (ask >>= _) _ _ s
  refine wpAny_bind (wpAny_askSetting (wpAny_ite ?_))
  split
  · first
      | exact wpAny_bind (wpAny_pure (wpAny_pure (And.intro rfl h0)))
      | exact wpAny_pure (And.intro rfl h0)
  · first
      | exact wpAny_bind (wpAny_rule (wpAny_bind (wpAny_standAt (wpAny_bind (wpAny_mono h (fun it' s' h' => wpAny_pure (And.intro rfl h')) fun _ _ x => x)))))
      | (refine wpAny_bind (wpAny_rule ?_); show wpAny _ _ (standAt i1.pos >>= _) _ _ s; exact wpAny_bind (wpAny_standAt (wpAny_bind (wpAny_mono h (fun it' s' h' => wpAny_pure (And.intro rfl h')) fun _ _ x => x))))
end
end Tx
namespace L2
open PySem PySem.Spec PyProof.Rows
open Tx (compLoopD_out compLoopD_in compStartD1_ok)
section
variable {X : Cx}
def tDc2 (wi : TI) (g : TG) (tt : TT) (wi1 : TI) (g1 : TG) (tt1 : TT) (tk tv : TE) (vs vs1 : List Nat) : TE := fun σ H Q => wi σ H fun J H1 => ∀ D, H1 D = none → ∃ W : Nat → Nat → Hp → Prop, (∃ m, W 0 m (upd H1 D (.dK []))) ∧ ∀ i m H, W i m H →
  (J.stop i H ∧ Q (.ref D) H) ∨ (J.go i H ∧ ∃ Nx : Hp → Prop, (∀ H', Nx H' → ∃ m', m' < m ∧ W (i + 1) m' H') ∧ ∀ x H', J.yld i H x H' → g x (wipe σ vs) H' fun σ2 H2 => wipe σ2 vs = wipe σ vs ∧ tt σ2 H2 fun b H3 =>
    if b = true then wi1 σ2 H3 fun J1 H4 => ∃ W1 : Nat → Nat → Hp → Prop, (∃ m, W1 0 m H4) ∧ ∀ j k H, W1 j k H →
      (J1.stop j H ∧ Nx H) ∨ (J1.go j H ∧ ∃ Nx1 : Hp → Prop, (∀ H', Nx1 H' → ∃ k', k' < k ∧ W1 (j + 1) k' H') ∧ ∀ x H', J1.yld j H x H' → g1 x (wipe σ2 vs1) H' fun σ3 H5 => wipe σ3 vs1 = wipe σ2 vs1 ∧ tt1 σ3 H5 fun b H6 =>
        if b = true then tk σ3 H6 fun y H7 => tv σ3 H7 fun z H8 => ∃ kvs k, y = kV k ∧ H8 D = some (.dK kvs) ∧ kvs.length < sizeLine ∧ Nx1 (upd H8 D (.dK (putK kvs k z))) else Nx1 H6)
    else Nx H3)
theorem dc2_core {pins : List (Addr × Obj)} {s : Shared} {σ : St} {H : Hp} {Q : VK} {kx vx tg iter tg1 iter1 : Expr} {ifs ifs1 : List Expr} {scope : Scope} {own : List (Str × Nat)} {vs1 : List Nat} {pos pos' : Pos} {wi wi1 : TI} {g g1 : TG} {tt tt1 : TT} {tk tv : TE} {use : Option (Value → Sem Unit)} {Qf : Value → Shared → Prop}
    (hc : X.calm = true) (hN : X.N.Nodup) (I : Inv X pins σ H s) (hi : PI X tg iter wi) (ok : BlkOk X.N X.env.scope scope own) (hv : ∀ i ∈ vs1, i ∈ own.map (·.2))
    (hg : ∀ (s : Shared) (H : Hp) (C : Addr) (cl : List (Str × Addr)) (fp : List Addr), PG (X.blk s H scope (compEnvC scope cl C X.env) fp) tg g) (ht : ∀ (s : Shared) (H : Hp) (C : Addr) (cl : List (Str × Addr)) (fp : List Addr), PTs (X.blk s H scope (compEnvC scope cl C X.env) fp) ifs tt)
    (hk : ∀ (s : Shared) (H : Hp) (C : Addr) (cl : List (Str × Addr)) (fp : List Addr), PE (X.blk s H scope (compEnvC scope cl C X.env) fp) kx tk)
    (he : ∀ (s : Shared) (H : Hp) (C : Addr) (cl : List (Str × Addr)) (fp : List Addr), PE (X.blk s H scope (compEnvC scope cl C X.env) fp) vx tv) (hs : ∀ x, foldedSetIterable iter X.env x = pure x)
    (hi1 : ∀ (s : Shared) (H : Hp) (C : Addr) (cl : List (Str × Addr)) (fp : List Addr), PI (X.blk s H scope (compEnvC scope cl C X.env) fp) tg1 iter1 wi1)
    (hg1 : ∀ (s : Shared) (H : Hp) (C : Addr) (cl : List (Str × Addr)) (fp : List Addr), PG (X.blk s H scope (compEnvC scope cl C X.env) fp) tg1 g1)
    (ht1 : ∀ (s : Shared) (H : Hp) (C : Addr) (cl : List (Str × Addr)) (fp : List Addr), PTs (X.blk s H scope (compEnvC scope cl C X.env) fp) ifs1 tt1)
    (hs1 : ∀ env x, foldedSetIterable iter1 env x = pure x)
    (h : tDc2 wi g tt wi1 g1 tt1 tk tv (own.map (·.2)) vs1 σ H Q)
    (hRR : ∀ D C s' m H', Inv X pins σ H' s' → Q (.ref D) H' → s'.heap.Ns C m → FpOk X pins H' C → compPost (model X.prog X.w) X.A X.xe use Qf (.ref D) C (.ok .next) s') :
    wpAny (model X.prog X.w) X.A (comprehension (.DictComp kx vx [⟨tg, iter, ifs, 0⟩, ⟨tg1, iter1, ifs1, 0⟩] scope pos) scope X.env pos' newDict false (eval iter X.env) use) Qf X.xe s := by
  have hfree : ∀ y ∈ scope.names, y.2 = .free → ∃ c, X.env.cells.lookup y.1 = some c := fun y hy e => by
    rcases ok.free y hy e with k | k
    · exact I.ok.has _ (.inl k)
    · exact I.ok.has _ (.inr k)
  refine wpAny_comprehension_free (use := use) rfl hs (closure_ok hfree) ok.kind (fun y hy e => by rw [ok.uniq y hy, e])
    (thn (hi.run pins s σ H _ I h) fun xv s1 hx => thn hx fun itv s2 h2 => ?_)
  obtain ⟨it, fp, tn, J, H2, e, I2, T, st2, f2, q⟩ := h2
  subst e
  refine wpAny_newObj_type (newEnv_comp ?_)
  generalize hD : s2.heap.objs.size = D
  have hDn : H2 D = none := I2.hok.fresh (Nat.le_of_eq hD)
  obtain ⟨W, ⟨m0, w0⟩, turn⟩ := q D hDn
  -- the new list
  generalize hs3 : ({ s2 with heap := s2.heap.push { cls := .type "dict", data := .dict #[] } } : Shared) = s3
  have I3 : Inv X pins σ (upd H2 D (.dK [])) s3 := by
    rw [← hs3]
    refine I2.laid (t' := s2.toks) (fun b o e => Heap.get?_push_of_some _ e) (Nat.le_of_eq hD) ?_
    rw [← hD]
    exact dk_empty s2.heap I2.big
  have h3 : s3.heap = s2.heap.push { cls := .type "dict", data := .dict #[] } := by rw [← hs3]
  have sz : ∀ b ∈ fp, b < s2.heap.objs.size := fun b hb => by
    obtain ⟨o, e, _⟩ := T.obj _ _ st2 b hb
    exact Heap.lt_size e
  have f3 : ∀ b ∈ fp, FpOk X pins (upd H2 D (.dK [])) b ∧ b < s3.heap.objs.size := fun b hb => by
    have hlt := sz b hb
    refine ⟨⟨?_, (f2 b hb).2⟩, by rw [h3, Heap.size_push]; exact Nat.lt_succ_of_lt hlt⟩
    rw [upd_ne (by rw [← hD]; exact Nat.ne_of_lt hlt)]
    exact (f2 b hb).1
  have st3 : tn 0 s3.heap := T.keep _ _ _ st2 fun b _ o e => by rw [h3]; exact Heap.get?_push_of_some _ e
  have I4 := block_start I3 ok hN f3
  have pg := hg s3 (upd H2 D (.dK [])) s3.heap.objs.size (cellsFrom (s3.heap.objs.size + 1) scope.names (cloFrom X.env.cells scope.names [])) fp
  have pt := ht s3 (upd H2 D (.dK [])) s3.heap.objs.size (cellsFrom (s3.heap.objs.size + 1) scope.names (cloFrom X.env.cells scope.names [])) fp
  have pk := hk s3 (upd H2 D (.dK [])) s3.heap.objs.size (cellsFrom (s3.heap.objs.size + 1) scope.names (cloFrom X.env.cells scope.names [])) fp
  have pe := he s3 (upd H2 D (.dK [])) s3.heap.objs.size (cellsFrom (s3.heap.objs.size + 1) scope.names (cloFrom X.env.cells scope.names [])) fp
  have pi1 := hi1 s3 (upd H2 D (.dK [])) s3.heap.objs.size (cellsFrom (s3.heap.objs.size + 1) scope.names (cloFrom X.env.cells scope.names [])) fp
  have pg1 := hg1 s3 (upd H2 D (.dK [])) s3.heap.objs.size (cellsFrom (s3.heap.objs.size + 1) scope.names (cloFrom X.env.cells scope.names [])) fp
  have pt1 := ht1 s3 (upd H2 D (.dK [])) s3.heap.objs.size (cellsFrom (s3.heap.objs.size + 1) scope.names (cloFrom X.env.cells scope.names [])) fp
  show codeAny _ _ (.compStart (.DictComp kx vx [⟨tg, iter, ifs, 0⟩, ⟨tg1, iter1, ifs1, 0⟩] scope pos) 0 (.ref it) (.ref D) (compEnvC scope (cellsFrom (s3.heap.objs.size + 1) scope.names (cloFrom X.env.cells scope.names [])) s3.heap.objs.size X.env)) (compPost (model X.prog X.w) X.A X.xe use Qf (.ref D) s3.heap.objs.size) { s3 with heap := pushCells (s3.heap.push { cls := .type "dict", data := .dict #[] }) scope.names }
  have nfp : ∀ b ∈ fp, (upd H2 D (.dK [])) b = none := fun b hb => (f3 b hb).1.1
  generalize hce : compEnvC scope (cellsFrom (s3.heap.objs.size + 1) scope.names (cloFrom X.env.cells scope.names [])) s3.heap.objs.size X.env = ce at I4 pg pt pk pe pi1 pg1 pt1 ⊢
  have cL : ce.locals = s3.heap.objs.size := by subst hce; rfl
  generalize hH3 : upd H2 D (.dK []) = H3 at I3 I4 pg pt pk pe pi1 pg1 pt1 w0 nfp f3
  generalize hs4 : ({ s3 with heap := pushCells (s3.heap.push { cls := .type "dict", data := .dict #[] }) scope.names } : Shared) = s4 at I4 ⊢
  have st4 : tn 0 s4.heap := T.keep _ _ _ st3 fun b _ o e => by rw [← hs4]; exact pushCells_keeps _ _ _ _ (Heap.get?_push_of_some _ e)
  have stat : ∀ {σ' : St} {H' : Hp} {s' : Shared}, Inv (X.blk s3 H3 scope ce fp) [] σ' H' s' → (∀ b ∈ fp, H' b = none) → ∀ b ∈ fp, FpOk (X.blk s3 H3 scope ce fp) [] H' b := fun {σ' H' s'} I' hn b hb =>
    ⟨hn b hb, (I'.ok.exf b hb).1, I'.ok.exfs b hb, .inl hb, fun x c e => (I'.ok.exf b hb).2 x c e, fun p hp => absurd (show p ∈ ([] : List (Addr × Obj)) ++ [] from hp) (by simp)⟩
  have loop : codeAny (model X.prog X.w) X.A (.compLoop (.DictComp kx vx [⟨tg, iter, ifs, 0⟩, ⟨tg1, iter1, ifs1, 0⟩] scope pos) 0 (.ref it) (.ref D) ce) (compPost (model X.prog X.w) X.A X.xe use Qf (.ref D) s3.heap.objs.size) s4 := by
    refine compLoopD_out (hs1 ce) (fun n s' => ∃ i H', Inv (X.blk s3 H3 scope ce fp) [] (wipe σ (own.map (·.2))) H' s' ∧ tn i s'.heap ∧ (∀ b ∈ fp, H' b = none) ∧ W i n H') ?_ m0 ⟨0, H3, I4, st4, nfp, w0⟩
    rintro n s5 ⟨i, H5, I5, st5, n5, w5⟩
    rcases turn i n H5 w5 with ⟨stop, qq⟩ | ⟨go, Nx, hNx, step⟩
    · have td := T.done (X.blk s3 H3 scope ce fp) rfl rfl rfl hc i [] s5 _ H5 (fun _ _ => False) I5 (stat I5 n5) st5 stop
      refine thnF td fun r s6 ⟨hr, I6⟩ => ?_
      subst hr
      -- back in the def's context
      have I7 : Inv X pins σ H5 s6 := I3.call' (ch := fp) I6.os I6.base I6.hok I6.bare fun b hb => ⟨(f3 b hb).1.2.2.2.1, (f3 b hb).1.2.1, (f3 b hb).1.2.2.2.2.1, (f3 b hb).1.2.2.2.2.2⟩
      have nC : H5 s3.heap.objs.size = none := by
        have z : H5 ce.locals = none := I6.free
        rw [cL] at z
        exact z
      obtain ⟨m, hn, _⟩ := I6.loc
      have hn : s6.heap.Ns ce.locals m := hn
      rw [cL] at hn
      exact hRR D s3.heap.objs.size s6 m H5 I7 qq hn (I3.fpOk (Nat.le_refl _) nC)
    · have ti := T.item (X.blk s3 H3 scope ce fp) rfl rfl rfl hc i [] s5 _ H5 (fun _ _ => False) I5 (stat I5 n5) st5 go
      refine thnF ti fun r s6 ⟨u, hr, h6⟩ => ?_
      subst hr
      refine thnF h6 fun _ s7 ⟨x, H7, I7, r7, y7, st7, n7⟩ => ?_
      have I7' := I7.pinned (stat I7 n7) (T.obj _ _ st7)
      refine thnF (pg.run _ s7 _ H7 x u _ I7' r7 (step x H7 y7)) fun _ s8 ⟨σ8, H8, I8, hw8, q8⟩ => ?_
      refine thnF (pt.run _ s8 σ8 H8 _ I8 q8) fun b s9 ⟨H9, I9, q9⟩ => ?_
      -- the turn's end, from any slots that know what the block knew at its start
      have fin : ∀ {σ9 : St} {s' : Shared} {H' : Hp}, Inv (X.blk s3 H3 scope ce fp) ([] ++ pinsAt fp s7.heap) σ9 H' s' → (wipe σ (own.map (·.2))).length = σ9.length → (∀ (j : Nat) v, (wipe σ (own.map (·.2)))[j]? = some (some v) → σ9[j]? = some (some v)) → Nx H' →
          ∃ m, m < n ∧ ∃ i H', Inv (X.blk s3 H3 scope ce fp) [] (wipe σ (own.map (·.2))) H' s' ∧ tn i s'.heap ∧ (∀ b ∈ fp, H' b = none) ∧ W i m H' := fun {σ9 s' H'} I' hl hk nx => by
        obtain ⟨m', hm, w'⟩ := hNx H' nx
        have pin' : ∀ b ∈ fp, ∀ o, s7.heap.get? b = some o → s'.heap.get? b = some o ∧ H' b = none := fun b hb o e =>
          let z := I'.pin (b, o) (List.mem_append_right _ (List.mem_append_right _ (mem_pinsAt hb e)))
          ⟨z.1, z.2.1⟩
        refine ⟨m', hm, i + 1, H', (I'.unpinned (pins := [])).weak hl hk, T.keep _ _ _ st7 fun b hb o e => (pin' b hb o e).1, fun b hb => ?_, w'⟩
        obtain ⟨o, e, _⟩ := T.obj _ _ st7 b hb
        exact (pin' b hb o e).2
      have hl8 : (wipe σ (own.map (·.2))).length = σ8.length := by rw [← hw8, wipe_length]
      have hk8 : ∀ (j : Nat) v, (wipe σ (own.map (·.2)))[j]? = some (some v) → σ8[j]? = some (some v) := fun j v e => by
        rw [← hw8] at e
        exact (wipe_some e).1
      have hk9 : ∀ (j : Nat) v, (wipe σ (own.map (·.2)))[j]? = some (some v) → (wipe σ8 vs1)[j]? = some (some v) := fun j v e => by
        rw [← hw8] at e
        obtain ⟨e1, e2⟩ := wipe_some e
        rw [wipe_out fun z => e2 (hv j z)]
        exact e1
      cases b with
      | false =>
        simp only [Bool.false_eq_true, if_false] at q9 ⊢
        exact fin I9 hl8 hk8 q9
      | true =>
        simp only [if_true] at q9 ⊢
        refine thnF (pi1.run _ s9 σ8 H9 _ I9 q9) fun xv s10 hx => thnF hx fun itv s11 h11 => ?_
        obtain ⟨it1, fp1, tn1, J1, H11, e1, I11, T1, st11, f11, W1, ⟨m1, w1⟩, turn1⟩ := h11
        subst e1
        -- the inner loop
        have stat1 : ∀ {H' : Hp}, (∀ b ∈ fp1, H' b = none) → ∀ b ∈ fp1, FpOk (X.blk s3 H3 scope ce fp) ([] ++ pinsAt fp s7.heap) H' b := fun hn b hb => ⟨hn b hb, (f11 b hb).2⟩
        have loop1 : codeAny (model X.prog X.w) X.A (.compLoop (.DictComp kx vx [⟨tg, iter, ifs, 0⟩, ⟨tg1, iter1, ifs1, 0⟩] scope pos) 1 (.ref it1) (.ref D) ce)
            (fun r s' => match r with
              | .ok _ => ∃ m, m < n ∧ ∃ i H', Inv (X.blk s3 H3 scope ce fp) [] (wipe σ (own.map (·.2))) H' s' ∧ tn i s'.heap ∧ (∀ b ∈ fp, H' b = none) ∧ W i m H'
              | .error _ => False) s11 := by
          refine compLoopD_in (fun k s' => ∃ j H', Inv (X.blk s3 H3 scope ce fp) ([] ++ pinsAt fp s7.heap) (wipe σ8 vs1) H' s' ∧ tn1 j s'.heap ∧ (∀ b ∈ fp1, H' b = none) ∧ W1 j k H') ?_ m1 ⟨0, H11, I11.weak (wipe_length _ _) (fun j v e => (wipe_some e).1), st11, fun b hb => (f11 b hb).1, w1⟩
          rintro k s12 ⟨j, H12, I12, st12, n12, w12⟩
          rcases turn1 j k H12 w12 with ⟨stop1, nx1⟩ | ⟨go1, Nx1, hNx1, step1⟩
          · refine thnF (T1.done (X.blk s3 H3 scope ce fp) rfl rfl rfl hc j _ s12 (wipe σ8 vs1) H12 (fun _ _ => False) I12 (stat1 n12) st12 stop1) fun r s13 ⟨hr, I13⟩ => ?_
            subst hr
            exact fin I13 (hl8.trans (wipe_length σ8 vs1).symm) hk9 nx1
          · refine thnF (T1.item (X.blk s3 H3 scope ce fp) rfl rfl rfl hc j _ s12 (wipe σ8 vs1) H12 (fun _ _ => False) I12 (stat1 n12) st12 go1) fun r s13 ⟨u1, hr, h13⟩ => ?_
            subst hr
            refine thnF h13 fun _ s14 ⟨x1, H14, I14, r14, y14, st14, n14⟩ => ?_
            have I14' := I14.pinned (stat1 n14) (T1.obj _ _ st14)
            refine thnF (pg1.run _ s14 (wipe σ8 vs1) H14 x1 u1 _ I14' r14 (step1 x1 H14 y14)) fun _ s15 ⟨σ15, H15, I15, hw15, q15⟩ => ?_
            refine thnF (pt1.run _ s15 σ15 H15 _ I15 q15) fun b1 s16 ⟨H16, I16, q16⟩ => ?_
            have fin1 : ∀ {s' : Shared} {H' : Hp}, Inv (X.blk s3 H3 scope ce fp) (([] ++ pinsAt fp s7.heap) ++ pinsAt fp1 s14.heap) σ15 H' s' → Nx1 H' → ∃ m, m < k ∧ ∃ j H', Inv (X.blk s3 H3 scope ce fp) ([] ++ pinsAt fp s7.heap) (wipe σ8 vs1) H' s' ∧ tn1 j s'.heap ∧ (∀ b ∈ fp1, H' b = none) ∧ W1 j m H' := fun {s' H'} I' nx => by
              obtain ⟨m', hm, w'⟩ := hNx1 H' nx
              have pin' : ∀ b ∈ fp1, ∀ o, s14.heap.get? b = some o → s'.heap.get? b = some o ∧ H' b = none := fun b hb o e =>
                let z := I'.pin (b, o) (List.mem_append_right _ (List.mem_append_right _ (mem_pinsAt hb e)))
                ⟨z.1, z.2.1⟩
              refine ⟨m', hm, j + 1, H', I'.unpinned.weak (by rw [← hw15, wipe_length]) (fun j v e => by rw [← hw15] at e; exact (wipe_some e).1), T1.keep _ _ _ st14 fun b hb o e => (pin' b hb o e).1, fun b hb => ?_, w'⟩
              obtain ⟨o, e, _⟩ := T1.obj _ _ st14 b hb
              exact (pin' b hb o e).2
            cases b1 with
            | false =>
              simp only [Bool.false_eq_true, if_false] at q16 ⊢
              exact fin1 I16 q16
            | true =>
              simp only [if_true] at q16 ⊢
              refine thnF (pk.run _ s16 σ15 H16 _ I16 q16) fun z s17 ⟨yk, H17, I17, r17, q17⟩ => ?_
              refine thnF (pe.run _ s17 σ15 H17 _ I17 q17) fun z2 s18 ⟨yv, H18, I18, r18, kvs, k, ek, hD18, hz18, nx⟩ => ?_
              subst ek
              exact d_dictSet (X := X.blk s3 H3 scope ce fp) I18 hD18 hz18 r17 r18 fun s19 I19 => fin1 I19 nx
        exact compStartD1_ok loop1 (T1.self X.A 0 _ _ _ st11 loop1)
  exact codeAny_compStart_dict loop (T.self X.A 0 _ _ _ st4 loop)
theorem pe_dc2 {kx vx tg iter tg1 iter1 : Expr} {ifs ifs1 : List Expr} {scope : Scope} {own : List (Str × Nat)} {vs1 : List Nat} {pos : Pos} {wi wi1 : TI} {g g1 : TG} {tt tt1 : TT} {tk tv : TE} (hc : X.calm = true) (hN : X.N.Nodup) (hi : PI X tg iter wi) (ok : BlkOk X.N X.env.scope scope own) (hv : ∀ i ∈ vs1, i ∈ own.map (·.2))
    (hg : ∀ (s : Shared) (H : Hp) (C : Addr) (cl : List (Str × Addr)) (fp : List Addr), PG (X.blk s H scope (compEnvC scope cl C X.env) fp) tg g) (ht : ∀ (s : Shared) (H : Hp) (C : Addr) (cl : List (Str × Addr)) (fp : List Addr), PTs (X.blk s H scope (compEnvC scope cl C X.env) fp) ifs tt)
    (hi1 : ∀ (s : Shared) (H : Hp) (C : Addr) (cl : List (Str × Addr)) (fp : List Addr), PI (X.blk s H scope (compEnvC scope cl C X.env) fp) tg1 iter1 wi1)
    (hg1 : ∀ (s : Shared) (H : Hp) (C : Addr) (cl : List (Str × Addr)) (fp : List Addr), PG (X.blk s H scope (compEnvC scope cl C X.env) fp) tg1 g1) (ht1 : ∀ (s : Shared) (H : Hp) (C : Addr) (cl : List (Str × Addr)) (fp : List Addr), PTs (X.blk s H scope (compEnvC scope cl C X.env) fp) ifs1 tt1)
    (hk : ∀ (s : Shared) (H : Hp) (C : Addr) (cl : List (Str × Addr)) (fp : List Addr), PE (X.blk s H scope (compEnvC scope cl C X.env) fp) kx tk)
    (he : ∀ (s : Shared) (H : Hp) (C : Addr) (cl : List (Str × Addr)) (fp : List Addr), PE (X.blk s H scope (compEnvC scope cl C X.env) fp) vx tv) (hs : ∀ x, foldedSetIterable iter X.env x = pure x := by intro _; rfl) (hs1 : ∀ env x, foldedSetIterable iter1 env x = pure x := by intro _ _; rfl) :
    PE X (.DictComp kx vx [⟨tg, iter, ifs, 0⟩, ⟨tg1, iter1, ifs1, 0⟩] scope pos) (tDc2 wi g tt wi1 g1 tt1 tk tv (own.map (·.2)) vs1) := by
  refine ⟨fun pins s σ H Q I h => ?_⟩
  rw [arm_eval_DictComp]
  refine dc2_core hc hN I hi ok hv hg ht hk he hs hi1 hg1 ht1 hs1 h fun D C s' m H' I' q hn f => ⟨m, hn, fun h'' sb => ?_⟩
  obtain ⟨f0, f1, f2, f3, f4, f5⟩ := f
  exact ⟨.ref D, H', I'.turned (t' := s'.toks) (fun b o hb e => (sb.2 b hb).trans e) f0 f1 f3 f4 f5, rfl, q⟩
end
end L2
/-! ## DictCv -/
/-! tuple(d), tuple(d.values()). -/
namespace TdX
open PySem PySem.Spec PyProof.Rows L2
section
variable {prog : Program} {w : World} {A : Around} {E : Value → Shared → Prop} {s : Shared} {T : String} {r d : Addr} {n : Nat} {P : Nat → Value → Prop} {OK : Heap → Prop}
theorem code_tuple_kdl {Q₁ : Value → Shared → Prop} (K : PySem.W.KdlSrc prog w T r d n P OK) (hh : A.handled = none) (hok : OK s.heap) (hn : n ≤ sizeLine)
    (h : ∀ (h' : Heap) (tk : Nat) (acc : Array Value), (∀ b o, s.heap.get? b = some o → h'.get? b = some o) → ItemsOf P acc n →
      Q₁ (.ref h'.objs.size) { s with heap := h'.push { cls := .type "tuple", data := .seq acc }, toks := tk }) :
    codeAny (model prog w) A (.call (.builtin "tuple.__new__") ⟨[.type "tuple", .ref r], []⟩) (wants Q₁ E) s := by
  refine codeAny_of_tree ?_
  show wpAny _ A.in1 (do checkBuiltinCall "tuple.__new__" ⟨[.type "tuple", .ref r], []⟩; again (.builtin "tuple.__new__" ⟨[.type "tuple", .ref r], []⟩)) _ _ s
  refine wpAny_bind (wpAny_of_eq (F.newCall_tuple_1 _) (wpAny_pure ⟨plainId_quiet F.plain_tuple_new _, codeAny_builtin F.entry_tuple_new ?_⟩))
  rw [Around.under_plainId F.plain_tuple_new _]
  have hsub := sub_tuple_self
  have hinit := init_tuple_lookup
  have hmh := madeHere_tuple
  have hTI : s.TypeIs (.ref r) T := K.type s hok
  have hnt := K.notTuple
  have hnl := K.notList
  have hh1 : A.in1.handled = none := hh
  wp_walk using wpAny_typeOf hTI, PySem.W.kdu_collect (A := A.in1) K hh1 hok hn
  intro h' tk acc hk hacc
  show wpAny _ _ (Builtin.Tuple.tupleExact acc.toList.toArray >>= fun v => ret v) _ _ _
  unfold Builtin.Tuple.tupleExact
  refine wpAny_bind (wpAny_newObj_type ?_ (by show acc.toList.toArray.size ≤ sizeLine; simp only [Array.toArray_toList]; rw [hacc.1]; exact hn))
  refine wpAny_pure ?_
  have e : acc.toList.toArray = acc := by simp
  rw [e]
  exact h h' tk acc hk hacc
theorem call_tuple_kdl {Q : Value → Shared → Prop} (K : PySem.W.KdlSrc prog w T r d n P OK) (hh : A.handled = none) (hok : OK s.heap) (hn : n ≤ sizeLine)
    (hQ : ∀ (h' : Heap) (tk : Nat) (acc : Array Value), (∀ b o, s.heap.get? b = some o → h'.get? b = some o) → ItemsOf P acc n →
      Q (.ref h'.objs.size) { s with heap := h'.push { cls := .type "tuple", data := .seq acc }, toks := tk }) :
    wpAny (model prog w) A (call (.type "tuple") [.ref r]) Q E s := by
  refine callType_codes (Q₁ := fun obj s₁ => s₁.TypeIs obj "tuple" ∧ Q obj s₁) F.called_tuple (F.typeCall_tuple_1 _) F.entry_object_init
    (code_tuple_kdl (A := A.in1) K hh hok hn fun h' tk acc hk hacc => ⟨⟨_, Heap.get?_push_size _ rfl, rfl⟩, hQ h' tk acc hk hacc⟩) fun obj s₁ h₁ => ?_
  exact ⟨h₁.1, F.args_object_init_2 obj _, object_init_meets F.called_tuple.init.lookup F.called_tuple.made (by decide) prog w A.in1 _ s₁ ⟨h₁.1, rfl, h₁.2⟩⟩
end
section
variable {X : Cx}
/-- tuple(d) -/
def rTupD : List V → Hp → VK → Prop := fun xs H Q => ∃ p kvs, xs = [.ref p] ∧ Rd H p (.dK kvs) ∧ ∀ q, H q = none → Q (.ref q) (upd H q (.tup (kvs.map fun kv => kV kv.1)))
theorem call_tup_dK (hc : X.calm = true) : CallR X (.type "tuple") rTupD := by
  intro pins s σ H xs us Q I r h
  obtain ⟨p, kvs, e, hk, q⟩ := h
  subst e
  obtain ⟨u, eu, rx⟩ := vals1 r
  subst eu
  obtain rfl : u = Value.ref p := rx
  obtain ⟨z, lo, vs, rk, hd⟩ := (show ObjOk X.prog X.w H s.heap p (.dK kvs) from hk.ok I.hok)
  obtain ⟨ep, hat⟩ := hd.dictAt
  have hl : kvs.length = vs.length := Paired.length rk
  refine call_tuple_kdl (PySem.W.kdl_dict (knd := mixKind X.prog X.w) (kvs := vs) (ep := ep) lo) (I.ok.hd hc) hat (by rw [← hl]; exact z) fun h' tk acc hkeep hacc => ?_
  have I1 : Inv X pins σ H { s with heap := h', toks := tk } := I.kept (t' := tk) hkeep
  refine ⟨.ref h'.objs.size, upd H h'.objs.size (.tup (kvs.map fun kv => kV kv.1)), I1.laid (t' := tk) (fun b o e => Heap.get?_push_of_some _ e) (Nat.le_refl _) (show ObjOk X.prog X.w _ _ _ (.tup (kvs.map fun kv => kV kv.1)) from ⟨?_, acc.toList, ?_, ?_⟩), rfl, q _ (I1.hok.fresh (Nat.le_refl _))⟩
  · rw [List.length_map]; exact z
  · have el : acc.toList.length = acc.size := by simp
    refine vals_of_at (by rw [List.length_map, el, hacc.1, hl]) fun j x w h1 h2 => ?_
    obtain ⟨k, y, hky, hi⟩ := hacc.2 j w (by rw [← Array.getElem?_toList]; exact h2)
    have e1 : (kvs.map (·.1))[j]? = some k := by
      rw [KV.keys rk, List.getElem?_map, hky] <;> rfl
    have e2 : (kvs.map fun kv => kV kv.1)[j]? = some (kV k) := by
      have e3 : (kvs.map fun kv => kV kv.1) = (kvs.map (·.1)).map kV := by rw [List.map_map] <;> rfl
      rw [e3, List.getElem?_map, e1] <;> rfl
    rw [e2] at h1
    cases h1
    exact keyIs_rel hi
  · rw [Array.toArray_toList]; exact IsTup.new _ _
/-- tuple(d.values()) -/
def tTupVals (td : TE) : TE := fun σ H Q => td σ H fun x H1 => ∃ a kvs, x = V.ref a ∧ Rd H1 a (.dK kvs) ∧ ∀ q, H1 q = none → Q (.ref q) (upd H1 q (.tup (kvs.map (·.2))))
variable {o : Expr} {td : TE} {p apos mpos pos : Pos}
theorem pe_tupVals (hc : X.calm = true) (hg : Gl X "tuple") (hm : X.mg "tuple" = none) (hd : PE X o td) (hbase : attributeBase o "values" X.env (eval o X.env) = eval o X.env := by rfl) (hline : (apos.endLine == mpos.line) = true := by rfl)
    (hse : starEach [Expr.Call (.Attribute o "values" apos) [] [] mpos] X.env = (false, eval (Expr.Call (.Attribute o "values" apos) [] [] mpos) X.env) :: starEach [] X.env := by rfl) :
    PE X (.Call (.Name "tuple" p) [.Call (.Attribute o "values" apos) [] [] mpos] [] pos) (tTupVals td) := by
  refine ⟨fun pins s σ H Q I h => ?_⟩
  refine wpAny_Call_Name_kw (ld_blt I hg hm (by decide +kernel : bootBuiltins "tuple" = some (.type "tuple")) ?_)
  refine PyProof.Rows.callWith_type1 ?_ hse rfl
  rw [hse]
  show wpAny _ _ (spliced ((false, eval (.Call (.Attribute o "values" apos) [] [] mpos) X.env) :: backTo pos (starEach [] X.env))) _ _ s
  refine Calls.spliced_cons (wpAny_Call_method0_late hbase hline (thn (hd.run pins s σ H _ I h) fun v s1 ⟨x, H1, I1, r1, a, kvs, ex, ha, q⟩ => ?_))
  subst ex
  obtain rfl : v = Value.ref a := r1
  obtain ⟨hz, hsys, vs, rel, dof⟩ := (show ObjOk X.prog X.w H1 s1.heap a (.dK kvs) from ha.ok I1.hok)
  obtain ⟨ep, dat⟩ := dof.dictAt
  have dat' := dat
  obtain ⟨ob, es, ho, ex, hdat, hko, hpr, hnd⟩ := dat'
  refine ⟨"dict", "dict.values", F.plainAttrs_dict, F.slot_dict_values, F.type_dict_values, ⟨ob, ho, ex.1⟩, fun b e => ?_, Calls.callWith_builtin rfl (PySem.evalArgs_none ?_)⟩
  · cases e
    exact ⟨ob, ho, ex.2.1⟩
  refine call_meetsIn F.slot_dict_values ⟨ob, ho, ex.1⟩ F.entry_dict_values (F.args_dict_values_1 _) (meets_dict_values (mixKind X.prog X.w) a hsys) ⟨⟨vs, dof⟩, ?_⟩
  refine Calls.spliced_nil ?_
  have k1 : ∀ b u, s1.heap.get? b = some u → (s1.heap.push { cls := .type "dict_values", data := .fields #[.ref a] }).get? b = some u := fun b u e => Heap.get?_push_of_some _ e
  have dat1 : (s1.heap.push { cls := .type "dict_values", data := .fields #[.ref a] }).DictAt (mixKind X.prog X.w) a vs ep := dat.keep k1
  have I2 : Inv X pins σ H1 { s1 with heap := s1.heap.push { cls := .type "dict_values", data := .fields #[.ref a] } } := I1.kept (t' := s1.toks) k1
  have hl : kvs.length = vs.length := Paired.length rel
  refine call_tuple_kdl (PySem.W.kdl_values (knd := mixKind X.prog X.w) (kvs := vs) (ep := ep)) (I.ok.hd hc) ⟨⟨_, Heap.get?_push_size _ rfl, rfl, rfl⟩, dat1⟩ (by rw [← hl]; exact hz) fun h' tk acc hkeep hacc => ?_
  have I3 : Inv X pins σ H1 { s1 with heap := h', toks := tk } := I2.kept (t' := tk) hkeep
  refine ⟨.ref h'.objs.size, upd H1 h'.objs.size (.tup (kvs.map (·.2))), I3.laid (t' := tk) (fun b o e => Heap.get?_push_of_some _ e) (Nat.le_refl _) (show ObjOk X.prog X.w _ _ _ (.tup (kvs.map (·.2))) from ⟨?_, acc.toList, ?_, ?_⟩), rfl, q _ (I3.hok.fresh (Nat.le_refl _))⟩
  · rw [List.length_map]; exact hz
  · have el : acc.toList.length = acc.size := by simp
    refine vals_of_at (by rw [List.length_map, el, hacc.1, hl]) fun j x w h1 h2 => ?_
    obtain ⟨k, hk⟩ := hacc.2 j w (by rw [← Array.getElem?_toList]; exact h2)
    obtain ⟨y, e1, e2⟩ := KV.at' rel hk
    rw [List.getElem?_map, e1] at h1
    cases h1
    exact e2
  · rw [Array.toArray_toList]; exact IsTup.new _ _
end
end TdX
/-! ## DTown0 -/
namespace Tx
open PySem PySem.Spec PyProof.Rows L2
/-! ### what stands when one instance gets a field -/
section
variable {K : PySem.W.Frag} {H H' : Hp} {x C dx : Addr} {fs : List (Str × V)}
theorem sxT {a : Addr} {xs : List V} (hx : H x = some (.ins C dx fs)) (s : SameX x H H') (h : SqT K H a xs) : SqT K H' a xs := by
  rcases h with (h | ⟨o, h⟩) | h
  · exact .inl (.inl (s a _ (fun z => by rw [z, hx] at h; cases h) h))
  · exact .inl (.inr ⟨o, s a _ (fun z => by rw [z, hx] at h; cases h) h⟩)
  · exact .inr h
theorem sxL {a : Addr} {xs : List V} (hx : H x = some (.ins C dx fs)) (s : SameX x H H') (h : SqL K H a xs) : SqL K H' a xs := by
  rcases h with (h | ⟨o, h⟩) | h
  · exact .inl (.inl (s a _ (fun z => by rw [z, hx] at h; cases h) h))
  · exact .inl (.inr ⟨o, s a _ (fun z => by rw [z, hx] at h; cases h) h⟩)
  · exact .inr h
theorem sxD {d : Addr} {kvs : List (L2.Key × V)} (hx : H x = some (.ins C dx fs)) (s : SameX x H H') (h : H d = some (.dK kvs)) : H' d = some (.dK kvs) := s d _ (fun z => by rw [z, hx] at h; cases h) h
end
/-- all corners of the rows, each once -/
structure Cn (L : List Row) (cs : List Str) : Prop where
  nd : cs.Nodup
  mem : ∀ e, e ∈ cs ↔ ∃ r ∈ L, e = r.2.lo ∨ e = r.2.hi
def dC (cs : List Str) : List (L2.Key × V) := cs.map fun e => (Sum.inr e, .int 0)
theorem dC_key (cs : List Str) : (dC cs).map (·.1) = cs.map Sum.inr := by unfold dC; rw [List.map_map]; rfl
theorem dC_old {cs : List Str} {e : Str} (h : e ∈ cs) : putK (dC cs) (Sum.inr e) (.int 0) = dC cs := by
  have a : ((dC cs).any fun kv => decide (kv.1 = Sum.inr e)) = true := by
    rw [List.any_eq_true]
    exact ⟨(Sum.inr e, .int 0), List.mem_map.mpr ⟨e, h, rfl⟩, by simp⟩
  unfold putK
  rw [if_pos a]
  unfold dC
  rw [List.map_map]
  apply List.map_congr_left
  intro y _
  simp only [Function.comp]
  split
  · rename_i z
    rw [z]
  · rfl
theorem dC_new {cs : List Str} {e : Str} (h : e ∉ cs) : putK (dC cs) (Sum.inr e) (.int 0) = dC (cs ++ [e]) := by
  rw [putK_new]
  · unfold dC; rw [List.map_append]; rfl
  · refine valV_no fun z => h ?_
    rw [dC_key] at z
    obtain ⟨y, h1, h2⟩ := List.mem_map.mp z
    cases h2
    exact h1
/-- .. one more -/
def addC (cs : List Str) (e : Str) : List Str := if e ∈ cs then cs else cs ++ [e]
theorem dC_add (cs : List Str) (e : Str) : putK (dC cs) (Sum.inr e) (.int 0) = dC (addC cs e) := by
  unfold addC
  by_cases h : e ∈ cs
  · rw [if_pos h, dC_old h]
  · rw [if_neg h, dC_new h]
theorem addC_mem {cs : List Str} {e z : Str} : z ∈ addC cs e ↔ z ∈ cs ∨ z = e := by
  unfold addC
  by_cases h : e ∈ cs
  · rw [if_pos h]
    exact ⟨.inl, fun q => q.elim id fun q => q ▸ h⟩
  · rw [if_neg h, List.mem_append, List.mem_singleton]
theorem addC_nd {cs : List Str} {e : Str} (h : cs.Nodup) : (addC cs e).Nodup := by
  unfold addC
  by_cases z : e ∈ cs
  · rw [if_pos z]; exact h
  · rw [if_neg z, List.nodup_append]
    exact ⟨h, by simp, fun a ha b hb e' => z (by rw [List.mem_singleton] at hb; rw [← hb, ← e']; exact ha)⟩
theorem addC_len {cs : List Str} {e : Str} : (addC cs e).length ≤ cs.length + 1 := by
  unfold addC
  split
  · omega
  · rw [List.length_append, List.length_singleton]; omega
/-- {end: 0 for p in L for end in p.ends} -/
theorem dc2_ends {K : PySem.W.Frag} {J : It} {H1 : Hp} {L : List Row} {D : Addr} {σ : L2.St} {Qd : Hp → Prop} {i0 i1 : Nat} {wi1 : TI} (h1 : i1 < σ.length) (O : Over J H1 (fun r : Row => r.1) L) (hD : H1 D = none) (hn : L.length ≤ 60)
    (hs : ∀ (p : Row) H (R : It → Hp → Prop), p ∈ L → Same H1 H → (∀ t, SqT K H t [.str p.2.lo, .str p.2.hi] → R (Itt K t) H) → wi1 ((wipe σ [i0, i1]).set i0 (some p.1)) H R)
    (hne : i0 ≠ i1)
    (hd : ∀ H cs, Same H1 H → H D = some (.dK (dC cs)) → Cn L cs → Qd H) :
    ∃ W : Nat → Nat → Hp → Prop, (∃ m, W 0 m (upd H1 D (.dK []))) ∧ ∀ i m H, W i m H →
      (J.stop i H ∧ Qd H) ∨ (J.go i H ∧ ∃ Nx : Hp → Prop, (∀ H', Nx H' → ∃ m', m' < m ∧ W (i + 1) m' H') ∧ ∀ x H', J.yld i H x H' → gName i0 x (wipe σ [i0, i1]) H' fun σ2 H2 => wipe σ2 [i0, i1] = wipe σ [i0, i1] ∧ tYes σ2 H2 fun b H3 =>
        if b = true then wi1 σ2 H3 fun J1 H4 => ∃ W1 : Nat → Nat → Hp → Prop, (∃ m, W1 0 m H4) ∧ ∀ j k H, W1 j k H →
          (J1.stop j H ∧ Nx H) ∨ (J1.go j H ∧ ∃ Nx1 : Hp → Prop, (∀ H', Nx1 H' → ∃ k', k' < k ∧ W1 (j + 1) k' H') ∧ ∀ x H', J1.yld j H x H' → gName i1 x (wipe σ2 [i1]) H' fun σ3 H5 => wipe σ3 [i1] = wipe σ2 [i1] ∧ tYes σ3 H5 fun b H6 =>
            if b = true then tVar i1 σ3 H6 fun y H7 => tC (.int 0) σ3 H7 fun z H8 => ∃ kvs k, y = kV k ∧ H8 D = some (.dK kvs) ∧ kvs.length < sizeLine ∧ Nx1 (upd H8 D (.dK (putK kvs k z))) else Nx1 H6)
        else Nx H3) := by
  have keep : ∀ H kvs, Same H1 H → Same H1 (upd H D (.dK kvs)) := fun H kvs s a o ha => by
    rw [upd_ne (ne_of_none ha hD)]
    exact s _ _ ha
  refine ⟨fun i m H => m = L.length - i ∧ i ≤ L.length ∧ Same H1 H ∧ ∃ cs, H D = some (.dK (dC cs)) ∧ cs.length ≤ 2 * i ∧ Cn (L.take i) cs, ⟨L.length, by simp, Nat.zero_le _, same_new hD, [], upd_same, Nat.le_refl _, .nil, fun e => by simp⟩, ?_⟩
  rintro i m H ⟨rfl, hi, s, cs, e, hl, c⟩
  by_cases hlt : i < L.length
  · refine .inr ⟨O.go i H hlt s, fun H' => i + 1 ≤ L.length ∧ Same H1 H' ∧ ∃ cs, H' D = some (.dK (dC cs)) ∧ cs.length ≤ 2 * (i + 1) ∧ Cn (L.take (i + 1)) cs, fun H' p' => ⟨L.length - (i + 1), by omega, rfl, p'⟩, fun x H' y => ?_⟩
    obtain ⟨rfl, p, hp, rfl⟩ := O.y i x H H' s y
    refine ⟨by simp only [wipe]; rw [List.set_comm _ _ hne, List.set_set, List.set_comm _ _ hne, List.set_set, List.set_set], d_yes (hs p H' _ (List.mem_of_getElem? hp) s fun t ht => ?_)⟩
    have tk : L.take (i + 1) = L.take i ++ [p] := by rw [List.take_succ, hp]; rfl
    refine ⟨fun j k H => k = 2 - j ∧ j ≤ 2 ∧ Same H1 H ∧ SqT K H t [.str p.2.lo, .str p.2.hi] ∧ ∃ cs', H D = some (.dK (dC cs')) ∧ cs'.length ≤ 2 * i + j ∧ cs'.Nodup ∧ ∀ e, e ∈ cs' ↔ e ∈ cs ∨ e ∈ [p.2.lo, p.2.hi].take j, ⟨2, rfl, Nat.zero_le _, s, ht, cs, e, hl, c.nd, fun e => by simp⟩, ?_⟩
    rintro j k H4 ⟨rfl, hj, s4, ht4, cs4, e4, hl4, nd4, m4⟩
    by_cases hj2 : j < 2
    · have hlen : j < [V.str p.2.lo, V.str p.2.hi].length := hj2
      refine .inr ⟨⟨_, _, ht4, List.getElem?_eq_getElem hlen⟩, fun H' => j + 1 ≤ 2 ∧ Same H1 H' ∧ SqT K H' t [.str p.2.lo, .str p.2.hi] ∧ ∃ cs', H' D = some (.dK (dC cs')) ∧ cs'.length ≤ 2 * i + (j + 1) ∧ cs'.Nodup ∧ ∀ e, e ∈ cs' ↔ e ∈ cs ∨ e ∈ [p.2.lo, p.2.hi].take (j + 1), fun H' p' => ⟨2 - (j + 1), by omega, rfl, p'⟩, fun x H5 y => ?_⟩
      obtain ⟨rfl, hx⟩ := y
      have hx := hx _ ht4
      obtain ⟨z, hz, hz2⟩ : ∃ z, [p.2.lo, p.2.hi][j]? = some z ∧ x = .str z := by
        have : [V.str p.2.lo, V.str p.2.hi] = [p.2.lo, p.2.hi].map V.str := rfl
        rw [this, List.getElem?_map] at hx
        obtain ⟨z, h1, h2⟩ := Option.map_eq_some_iff.mp hx
        exact ⟨z, h1, h2.symm⟩
      subst hz2
      refine ⟨by simp [wipe], d_yes ⟨_, set_at (by rw [List.length_set, wipe_length]; exact h1), ?_⟩⟩
      refine ⟨dC cs4, Sum.inr z, rfl, e4, ?_, ?_⟩
      · unfold dC; rw [List.length_map, sizeLine_eq]; omega
      · rw [dC_add]
        have hne2 : ∀ a o, H5 a = some o → o ≠ .dK (dC cs4) → upd H5 D (.dK (dC (addC cs4 z))) a = some o := fun a o h n => by
          rw [upd_ne (fun q => by rw [q, e4] at h; exact n (Option.some.inj h).symm)]
          exact h
        refine ⟨hj2, keep _ _ s4, ?_, addC cs4 z, upd_same, Nat.le_trans addC_len (by omega), addC_nd nd4, fun e => ?_⟩
        · rcases ht4 with (q | ⟨o, q⟩) | q
          · exact .inl (.inl (hne2 _ _ q (by intro z; cases z)))
          · exact .inl (.inr ⟨o, hne2 _ _ q (by intro z; cases z)⟩)
          · exact .inr q
        · rw [addC_mem, m4, List.take_succ, hz, List.mem_append, Option.toList_some, List.mem_singleton, or_assoc]
    · obtain rfl : j = 2 := by omega
      refine .inl ⟨⟨_, ht4, Nat.le_refl _⟩, hlt, s4, cs4, e4, by omega, nd4, fun e => ?_⟩
      rw [m4, tk, c.mem]
      simp only [List.take, List.mem_cons, List.not_mem_nil, or_false, List.mem_append]
      constructor
      · rintro (⟨r, h1, h2⟩ | h)
        · exact ⟨r, .inl h1, h2⟩
        · exact ⟨p, .inr rfl, h⟩
      · rintro ⟨r, h1 | h1, h2⟩
        · exact .inl ⟨r, h1, h2⟩
        · rw [h1] at h2; exact .inr h2
  · obtain rfl : i = L.length := by omega
    exact .inl ⟨O.st H s, hd H cs s e (by rw [List.take_length] at c; exact c)⟩
end Tx
/-! ## DTown1 -/
namespace Tx
open PySem PySem.Spec PyProof.Rows L2
section
variable {w : World} {K : PySem.W.Frag} {mg : Str → Option Value} {base : Heap} (T : Txt K mg)
def fdT (d t c : Addr) : List (Str × V) := [("own_streets", .ref d), ("own_rows", .ref t), ("own_corners", .ref c)]
/-- good rows for a town -/
structure RowsOk (L : List Row) : Prop where
  ok : ∀ r ∈ L, r.2.Ok
  nd : (L.map nmR).Nodup
  few : L.length ≤ 14
  cn : ∀ cs, Cn L cs → cs.length ≤ 7
theorem Cn.perm {L L' : List Row} {cs : List Str} (h : Cn L cs) (p : L'.Perm L) : Cn L' cs := ⟨h.nd, fun e => (h.mem e).trans ⟨fun ⟨r, a, b⟩ => ⟨r, p.mem_iff.mpr a, b⟩, fun ⟨r, a, b⟩ => ⟨r, p.mem_iff.mp a, b⟩⟩⟩
theorem RowsOk.perm {L L' : List Row} (h : RowsOk L) (p : L'.Perm L) : RowsOk L' := ⟨fun r hr => h.ok r (p.mem_iff.mp hr), (p.map nmR).nodup_iff.mpr h.nd, by rw [p.length_eq]; exact h.few, fun cs c => h.cn cs (c.perm p.symm)⟩
/-- the fields of a town of the rows L -/
structure TF (K : PySem.W.Frag) (H : Hp) (d t c : Addr) (L : List Row) (cs : List Str) : Prop where
  hd : DV H d (dN L)
  ht : SqT K H t (L.map (·.1))
  hc : DV H c (dC cs)
  rows : Rows K H L
  so : sortedS (L.map nmR) = true
  cn : Cn L cs
def spTB (K : PySem.W.Frag) : Sp := fun vs H Q _ => ∃ x dx p L, vs = [.ref x, .ref p] ∧ H x = some (.ins (He.ga K "Town") dx []) ∧ H p = some (.tup (L.map (·.1))) ∧ Rows K H L ∧ RowsOk L ∧
  ∀ d t c L' cs H', SameX x H H' → H' x = some (.ins (He.ga K "Town") dx (fdT d t c)) → L'.Perm L → H' d = some (.dK (dN L')) → H' c = some (.dK (dC cs)) → TF K H' d t c L' cs → Q .non H'
def spTI (K : PySem.W.Frag) : Sp := fun vs H Q _ => ∃ x dx L, vs = .ref x :: L.map (·.1) ∧ H x = some (.ins (He.ga K "Town") dx []) ∧ Rows K H L ∧ RowsOk L ∧
  ∀ d t c L' cs H', SameX x H H' → H' x = some (.ins (He.ga K "Town") dx (fdT d t c)) → L'.Perm L → H' d = some (.dK (dN L')) → H' c = some (.dK (dC cs)) → TF K H' d t c L' cs → Q .non H'
theorem sxSt {H H' : Hp} {x dx : Addr} {fs : List (Str × V)} {v : V} {s : St} (T : Txt K mg) (hx : H x = some (.ins (He.ga K "Town") dx fs)) (l : SameX x H H') (h : IsSt K H v s) : IsSt K H' v s := by
  obtain ⟨y, dy, t, e, h1, h2⟩ := h
  refine ⟨y, dy, t, e, l y _ (fun z => ?_) h1, sxT hx l h2⟩
  rw [z, hx] at h1
  injection h1 with h1
  injection h1 with h1 _ _
  cases s with
  | lane => exact T.ne_Lane h1
  | avenue => exact T.ne_Avenue h1
  | road => exact T.ne_Road h1
theorem sxRows {H H' : Hp} {x dx : Addr} {fs : List (Str × V)} {L : List Row} (T : Txt K mg) (hx : H x = some (.ins (He.ga K "Town") dx fs)) (l : SameX x H H') (h : Rows K H L) : Rows K H' L := fun p hp => sxSt T hx l (h p hp)
theorem St.isSt (T : Txt K mg) (s : St) : PySem.W.kitOne K (.ref (He.ga K s.cls)) (.ref (He.ga K "Street")) = some true := match s with | .lane .. => T.is_Lane_Street | .avenue .. => T.is_Avenue_Street | .road .. => T.is_Road_Street
theorem St.pEnds (T : Txt K mg) (s : St) : PropOf K (He.ga K s.cls) "ends" (He.ma K (He.ga K "Street") "ends") (pgA K (He.ga K "Street") "ends") := match s with | .lane .. => T.p_Lane_ends | .avenue .. => T.p_Avenue_ends | .road .. => T.p_Road_ends
/-- isinstance(v, Street) -/
theorem isi_street {H : Hp} {v : V} {s : St} {Q : VK} (T : Txt K mg) (h : IsSt K H v s) (q : Q (.bl true) H) : AtR (rIsi K) [v, .ref (He.ga K "Street")] H Q := by
  obtain ⟨x, dx, t, rfl, h1, h2⟩ := h
  exact isi_own h1 (s.cl T) (s.tyc T) (s.isSt T) q
theorem sc_Town_init : FnScope ["self", "streets", "street", "end"] ["self", "streets"] (defScope (mth 64 2)) := ⟨rfl, rfl, rfl, by decide +kernel, rfl, by decide +kernel, by decide +kernel⟩
include T in
theorem ok_Town_init : Fn w K mg base 5 (He.ma K (He.ga K "Town") "__init__") (spTI K) := by
  refine starR (ps := ["self"]) (pv := "streets") (sp := spTB K) T.f_Town_init sc_Town_init (fun _ _ _ _ _ _ us rest hl => match us, rest, hl with | [_], [], _ => rfl | [_], _ :: _, _ => rfl) (fun vs H Q E h => ?_) (fun cdv A outer s H vs Q E hr h => ?_)
  · obtain ⟨x, dx, L, rfl, hx, hrows, hok, q⟩ := h
    refine ⟨[.ref x], L.map (·.1), rfl, rfl, by rw [List.length_map, sizeLine_eq]; have := hok.few; omega, fun p hp => ⟨x, dx, p, L, rfl, ?_, upd_same, hrows.lx (lx (same_new hp)), hok, fun d t c L' cs H' s e1 e2 e3 e4 e5 => q d t c L' cs H' (fun a o n e => s a o n ?_) e1 e2 e3 e4 e5⟩⟩
    · rw [upd_ne (ne_of_none hx hp)]; exact hx
    · rw [upd_ne (ne_of_none e hp)]; exact e
  obtain ⟨x, dx, p, L, rfl, hx, hp, hrows, hok, q⟩ := h
  refine ⟨_, (pss_cons (ps_if (pt_not (pt_val (p_b1 (cr_all rfl) bt_all T.n_all (pe_lc (own := [("street", 2)]) (g := gName 2) (tt := tYes) rfl sc_Town_init.nd (pi_tup (pv 1)) (blkOk_by (N := ["self", "streets", "street", "end"]) (sc := defScope (mth 64 2)) (by decide +kernel)) (fun _ _ _ _ _ => pg_name (i := 2) sc_Town_init.nd rfl (Or.inl rfl)) (fun _ _ _ _ _ => pts_nil)
      (fun _ _ _ _ _ => isiB K T.n_isinstance (pv 2) (p_cl T.g_Street)))))) pss_never pss_nil)
    (pss_cons (ps_fld (pv 0) (Own.pe_call (ok_gathered T) hr (by rfl) T.g_gathered T.k_gathered (pa_cons (pv 1) pa_nil)) rfl)
    (pss_cons (ps_fld (pv 0) (TdX.pe_tupVals rfl (by rfl) T.n_tuple (p_fld (pv 0))) rfl)
    (pss_cons (ps_fld (pv 0) (pe_dc2 (own := [("street", 2), ("end", 3)]) (vs1 := [3]) (g := gName 2) (g1 := gName 3) (tt := tYes) (tt1 := tYes) rfl sc_Town_init.nd (pi_tup (pv 1)) (blkOk_by (N := ["self", "streets", "street", "end"]) (sc := defScope (mth 64 2)) (by decide +kernel)) (by decide) (fun _ _ _ _ _ => pg_name (i := 2) sc_Town_init.nd rfl (Or.inl rfl)) (fun _ _ _ _ _ => pts_nil)
      (fun _ _ _ _ _ => tupB K (propB K (p := He.ma K (He.ga K "Street") "ends") (pv 2) (ok_Street_ends T) (hr.mono (by decide)))) (fun _ _ _ _ _ => pg_name (i := 3) sc_Town_init.nd rfl (Or.inl rfl)) (fun _ _ _ _ _ => pts_nil) (fun _ _ _ _ _ => pv 3) (fun _ _ _ _ _ => pe_int)) rfl)
    (pss_cons (ps_if (pt_cmpR op_gt (p_b1 call_lenD bt_len T.n_len (p_fld (pv 0))) (ClX.pe_cval (p_cl T.g_Town)) (nomark _)) pss_never pss_nil)
    (pss_one (ps_if (pt_cmpR op_gt (p_b1 call_lenD bt_len T.n_len (p_fld (pv 0))) (ClX.pe_cval (p_cl T.g_Town)) (nomark _)) pss_never pss_nil))))))), ?_⟩
  have hp0 : SqT K H p (L.map (·.1)) := .inl (.inl hp)
  have few := hok.few
  refine ⟨_, rfl, p, rfl, ⟨_, hp0⟩, fun D hD => ?_⟩
  refine lc_rep (b := true) (overT hp0) hD (by omega) (fun r H2 K2 hr2 s2 k2 => ⟨by simp [wipe], _, rfl, isi_street T ((hrows r hr2).lx (lx s2)) (k2 _ (Same.refl _))⟩) (fun H2 s2 e2 => all_true e2 ⟨true, rfl, iteF ?_⟩)
  refine ⟨_, rfl, ⟨⟨p, L, rfl, lx_t (lx s2) hp0, hrows.lx (lx s2), hok.ok, hok.nd, by omega, fun d L' H3 s3 hd0 pm so hd3 => ?_⟩⟩⟩
  have sA := s2.trans s3
  have hx3 := sA _ _ hx
  refine ⟨_, rfl, x, _, dx, _, rfl, hx3, T.c_Town, T.na_Town_own_streets, by show 0 < 1000; decide, ?_⟩
  have rows3 : Rows K H3 L := hrows.lx (lx sA)
  have sx4 : SameX x H3 (upd H3 x (.ins (He.ga K "Town") dx (putF "own_streets" (.ref d) []))) := sameX_upd
  have hx4 : (upd H3 x (.ins (He.ga K "Town") dx (putF "own_streets" (.ref d) []))) x = some (.ins (He.ga K "Town") dx [("own_streets", .ref d)]) := upd_same
  have rows4 := sxRows T hx3 sx4 rows3
  have hp4 := sxT hx3 sx4 (lx_t (lx sA) hp0)
  have hd4 := sxD hx3 sx4 hd3
  refine ⟨_, rfl, fldR hx4 T.c_Town T.na_Town_own_streets rfl ⟨d, _, rfl, .inl hd4, fun t ht => ?_⟩⟩
  have xt : x ≠ t := ne_of_none hx4 ht
  have hx5 := same_new (o := .tup ((dN L').map (·.2))) ht _ _ hx4
  have dn : (dN L').map (·.2) = L'.map (·.1) := by unfold dN; rw [List.map_map]; rfl
  refine ⟨_, rfl, x, _, dx, _, rfl, hx5, T.c_Town, T.na_Town_own_rows, by show 1 < 1000; decide, ?_⟩
  have sx6 : SameX x H3 (upd (upd (upd H3 x (.ins (He.ga K "Town") dx (putF "own_streets" (.ref d) []))) t (.tup ((dN L').map (·.2)))) x (.ins (He.ga K "Town") dx (putF "own_rows" (.ref t) [("own_streets", .ref d)]))) := (sx4.trans (same_x (same_new ht))).trans sameX_upd
  have hx6 : (upd (upd (upd H3 x (.ins (He.ga K "Town") dx (putF "own_streets" (.ref d) []))) t (.tup ((dN L').map (·.2)))) x (.ins (He.ga K "Town") dx (putF "own_rows" (.ref t) [("own_streets", .ref d)]))) x = some (.ins (He.ga K "Town") dx [("own_streets", .ref d), ("own_rows", .ref t)]) := upd_same
  have ht6 : (upd (upd (upd H3 x (.ins (He.ga K "Town") dx (putF "own_streets" (.ref d) []))) t (.tup ((dN L').map (·.2)))) x (.ins (He.ga K "Town") dx (putF "own_rows" (.ref t) [("own_streets", .ref d)]))) t = some (.tup (L'.map (·.1))) := by rw [upd_ne (Ne.symm xt), upd_same, dn]
  have rows6 := sxRows T hx3 sx6 rows3
  have hp6 := sxT hx3 sx6 (lx_t (lx sA) hp0)
  have hd6 := sxD hx3 sx6 hd3
  refine ⟨_, rfl, p, rfl, ⟨_, hp6⟩, fun c hc => ?_⟩
  refine dc2_ends (K := K) (i0 := 2) (i1 := 3) (by show 3 < 4; decide) (overT hp6) hc (by omega) (fun r H R hr2 s k => ?_) (by decide) (fun H7 cs s7 hc7 cn => ?_)
  · obtain ⟨y, dy, u, e, h1, h2⟩ := (rows6 r hr2).lx (lx s)
    refine ⟨_, rfl, y, He.ga K r.2.cls, e, ⟨_, _, h1⟩, r.2.cl T, r.2.pEnds T, ⟨⟨_, r.2, rfl, ⟨y, dy, u, rfl, h1, h2⟩, fun t ht => ⟨t, rfl, ⟨_, ht⟩, k t ht⟩⟩⟩⟩
  have hx7 := s7 _ _ hx6
  have xc : x ≠ c := fun z => by rw [← z, hx7] at hc7; cases hc7
  refine ⟨_, rfl, x, _, dx, _, rfl, hx7, T.c_Town, T.na_Town_own_corners, by show 2 < 1000; decide, ?_⟩
  have sx8 : SameX x H3 (upd H7 x (.ins (He.ga K "Town") dx (putF "own_corners" (.ref c) [("own_streets", .ref d), ("own_rows", .ref t)]))) := (sx6.trans (same_x s7)).trans sameX_upd
  have sy8 : SameX x H7 (upd H7 x (.ins (He.ga K "Town") dx (putF "own_corners" (.ref c) [("own_streets", .ref d), ("own_rows", .ref t)]))) := sameX_upd
  have hx8 : (upd H7 x (.ins (He.ga K "Town") dx (putF "own_corners" (.ref c) [("own_streets", .ref d), ("own_rows", .ref t)]))) x = some (.ins (He.ga K "Town") dx (fdT d t c)) := upd_same
  have hc8 := sxD hx7 sy8 hc7
  have hd8 := sxD hx3 sx8 hd3
  obtain ⟨u1, r1, r2⟩ := T.cv_CORNERS
  obtain ⟨u2, r3, r4⟩ := T.cv_STREETS
  have l1 := hok.cn cs cn
  have l2 : (dN L').length ≤ 14 := by unfold dN; rw [List.length_map, pm.length_eq]; exact few
  refine ⟨_, rfl, fldR hx8 T.c_Town T.na_Town_own_corners rfl ⟨⟨c, _, rfl, hc8, _, _, _, _, rfl, r1, r2, _, _, rfl, rfl, _, rfl, ?_⟩⟩⟩
  have l1' : (dC cs).length ≤ 7 := by unfold dC; rw [List.length_map]; exact l1
  show if decide (((dC cs).length : Int) > 7) = true then _ else _
  rw [decide_eq_false (by omega)]
  refine iteF ?_
  refine ⟨_, rfl, fldR hx8 T.c_Town T.na_Town_own_streets rfl ⟨⟨d, _, rfl, hd8, _, _, _, _, rfl, r3, r4, _, _, rfl, rfl, _, rfl, ?_⟩⟩⟩
  show if decide (((dN L').length : Int) > 14) = true then _ else _
  rw [decide_eq_false (by omega)]
  refine iteF ?_
  refine q d t c L' cs _ ((same_x sA).trans sx8) hx8 pm hd8 hc8 ⟨.inl hd8, .inl (.inl ?_), .inl hc8, sxRows T hx3 sx8 (fun r hr2 => rows3 r (pm.mem_iff.mp hr2)), so, cn.perm pm⟩
  rw [upd_ne (Ne.symm xt)]
  exact s7 _ _ ht6
end
end Tx
/-! ## DWard -/
namespace Tx
open PySem PySem.Spec PyProof.Rows L2
section
variable {w : World} {K : PySem.W.Frag} {mg : Str → Option Value} {base : Heap} (T : Txt K mg)
/-- the sorted list of the same texts -/
structure Wd (cs ys : List Str) : Prop where
  so : sortedS ys = true
  nd : ys.Nodup
  mem : ∀ k, k ∈ ys ↔ k ∈ cs
/-- what Ward(..) is given: names, seven at most -/
structure Cs (cs : List Str) : Prop where
  nm : ∀ c ∈ cs, nameB c = true
  ne : cs ≠ []
  few : ∀ ys, Wd cs ys → ys.length ≤ 7
  len : cs.length < 60
def spWB (K : PySem.W.Frag) : Sp := fun vs H Q _ => ∃ x dx p cs, vs = [.ref x, .ref p] ∧ H x = some (.ins (He.ga K "Ward") dx []) ∧ H p = some (.tup (cs.map V.str)) ∧ Cs cs ∧
  ∀ t ys H', SameX x H H' → H' x = some (.ins (He.ga K "Ward") dx [("own_corners", .ref t)]) → H' t = some (.tup (ys.map V.str)) → Wd cs ys → Q .non H'
def spWI (K : PySem.W.Frag) : Sp := fun vs H Q _ => ∃ x dx cs, vs = .ref x :: cs.map V.str ∧ H x = some (.ins (He.ga K "Ward") dx []) ∧ Cs cs ∧
  ∀ t ys H', SameX x H H' → H' x = some (.ins (He.ga K "Ward") dx [("own_corners", .ref t)]) → H' t = some (.tup (ys.map V.str)) → Wd cs ys → Q .non H'
theorem sc_Ward_init : FnScope ["self", "corners", "corner", "found"] ["self", "corners"] (defScope (mth 60 0)) := ⟨rfl, rfl, rfl, by decide +kernel, rfl, by decide +kernel, by decide +kernel⟩
include T in
theorem ok_Ward_init : Fn w K mg base 2 (He.ma K (He.ga K "Ward") "__init__") (spWI K) := by
  refine starR (ps := ["self"]) (pv := "corners") (sp := spWB K) T.f_Ward_init sc_Ward_init (fun _ _ _ _ _ _ us rest hl => match us, rest, hl with | [_], [], _ => rfl | [_], _ :: _, _ => rfl) (fun vs H Q E h => ?_) (fun cdv A outer s H vs Q E hr h => ?_)
  · obtain ⟨x, dx, cs, rfl, hx, hc, q⟩ := h
    refine ⟨[.ref x], cs.map V.str, rfl, rfl, by rw [List.length_map, sizeLine_eq]; have := hc.len; omega, fun p hp => ⟨x, dx, p, cs, rfl, ?_, upd_same, hc, fun t ys H' s e1 e2 e3 => q t ys H' (fun a o n e => s a o n ?_) e1 e2 e3⟩⟩
    · rw [upd_ne (ne_of_none hx hp)]; exact hx
    · rw [upd_ne (ne_of_none e hp)]; exact e
  obtain ⟨x, dx, p, cs, rfl, hx, hp, hc, q⟩ := h
  refine ⟨_, (pss_cons (ps_if (pt_not (pt_val (p_b1 (cr_all rfl) bt_all T.n_all (pe_lc (own := [("corner", 2)]) (g := gName 2) (tt := tYes) rfl sc_Ward_init.nd (pi_tup (pv 1)) (blkOk_by (N := ["self", "corners", "corner", "found"]) (sc := defScope (mth 60 0)) (by decide +kernel)) (fun _ _ _ _ _ => pg_name (i := 2) sc_Ward_init.nd rfl (Or.inl rfl)) (fun _ _ _ _ _ => pts_nil)
      (fun _ _ _ _ _ => Own.pe_call (ok_is_name T) hr (by rfl) T.g_is_name T.k_is_name (pa_cons (pv 2) pa_nil)))))) pss_never pss_nil)
    (pss_cons (ps_set (i := 3) sc_Ward_init.nd rfl (Or.inl rfl) (pe_tupleOf (by rfl) T.n_tuple (p_b1 (STx.cr_sortedTx rfl) bt_sorted T.n_sorted (p_t1 (STx.cr_setTx rfl) bt_set T.n_set (pe_lc (own := [("corner", 2)]) (g := gName 2) (tt := tYes) rfl sc_Ward_init.nd (pi_tup (pv 1)) (blkOk_by (N := ["self", "corners", "corner", "found"]) (sc := defScope (mth 60 0)) (by decide +kernel)) (fun _ _ _ _ _ => pg_name (i := 2) sc_Ward_init.nd rfl (Or.inl rfl)) (fun _ _ _ _ _ => pts_nil)
      (fun _ _ _ _ _ => p_t1 SkE.call_str_str bt_str T.n_str (pv 2)))))))
    (pss_cons (ps_if (pt_cmpR op_eq (p_b1 call_len_seq bt_len T.n_len (pv 3)) pe_int (nomark _)) pss_never pss_nil)
    (pss_cons (ps_if (pt_cmpR op_gt (p_b1 call_len_seq bt_len T.n_len (pv 3)) (p_int T.i_MOST_CORNERS) (nomark _)) pss_never pss_nil)
    (pss_one (ps_fld (pv 0) (pv 3) rfl)))))), ?_⟩
  have hp1 : SqT K H p (cs.map V.str) := .inl (.inl hp)
  have hlen := hc.len
  refine ⟨_, rfl, p, rfl, ⟨_, hp1⟩, fun D hD => ?_⟩
  refine lc_true (n := cs.length) hD (by omega) (fun j H hj s => itt_go hp1 (by simpa using hj) s) (fun H s => by have := itt_st hp1 s; rwa [List.length_map] at this) (fun j v H2 H3 K2 hj s y k2 => ?_) (fun H2 s2 e => all_true e ⟨true, rfl, iteF ?_⟩) mg_name
  · obtain ⟨rfl, hv⟩ := itt_y hp1 s y
    rw [List.getElem?_map] at hv
    obtain ⟨z, hz, rfl⟩ := Option.map_eq_some_iff.mp hv
    exact ⟨rfl, ⟨_, rfl, ⟨⟨z, rfl, hc.nm z (List.mem_of_getElem? hz), fun H4 s4 => k2 H4 s4⟩⟩⟩⟩
  have hp2 := lx_t (lx s2) hp1
  refine ⟨_, rfl, p, rfl, ⟨_, hp2⟩, fun D2 hD2 => ?_⟩
  refine lc_strT (by show 2 < 4; decide) hD2 hp2 (by omega) (fun H4 s4 e4 => ?_)
  refine ⟨⟨D2, cs, rfl, .inl (.inl e4), by unfold scanBound; omega, fun a ls ha nd mem ll => ?_⟩⟩
  refine ⟨⟨a, ls, rfl, upd_same, by omega, fun ys b pm so hb => ?_⟩⟩
  refine tupK (.inl (.inl upd_same)) fun t ht => ?_
  have wd : Wd cs ys := ⟨so, pm.nodup_iff.mpr nd, fun k => (pm.mem_iff).trans (mem k)⟩
  have f1 := hc.few ys wd
  have f0 : 0 < ys.length := by
    cases ys with
    | nil =>
      exfalso
      cases cs with
      | nil => exact hc.ne rfl
      | cons c r => exact List.not_mem_nil ((wd.mem c).mpr List.mem_cons_self)
    | cons _ _ => simp
  refine ⟨_, rfl, ⟨⟨t, ys.map V.str, rfl, .inr (.inl (.inl upd_same)), rfl, _, rfl, ?_⟩⟩⟩
  rw [List.length_map, decide_eq_false (fun z => by injection z with z; omega)]
  refine iteF ⟨_, rfl, ⟨⟨t, ys.map V.str, rfl, .inr (.inl (.inl upd_same)), _, _, rfl, rfl, _, rfl, ?_⟩⟩⟩
  rw [List.length_map]
  show if decide ((ys.length : Int) > 7) = true then _ else _
  rw [decide_eq_false (fun z => by omega)]
  refine iteF ?_
  have sA := (((s2.trans s4).trans (same_new ha)).trans (same_new hb)).trans (same_new (o := .tup (ys.map V.str)) ht)
  have hxF := sA _ _ hx
  have xt : x ≠ t := fun z => by rw [← z, upd_same] at hxF; cases hxF
  refine ⟨_, rfl, _, rfl, x, _, dx, _, rfl, hxF, T.c_Ward, T.na_Ward_own_corners, by show 0 < 1000; decide, ?_⟩
  exact q t ys _ ((same_x sA).trans sameX_upd) upd_same (by rw [upd_ne (Ne.symm xt), upd_same]) wd
/-- the value v is the ward of the corners ys -/
def IsW (K : PySem.W.Frag) (H : Hp) (v : V) (ys : List Str) : Prop := ∃ x dx t, v = .ref x ∧ H x = some (.ins (He.ga K "Ward") dx [("own_corners", .ref t)]) ∧ SqT K H t (ys.map V.str)
theorem IsW.lx {H H' : Hp} {v : V} {ys : List Str} (h : IsW K H v ys) (l : Lx H H') : IsW K H' v ys := by
  obtain ⟨x, dx, t, e, h1, h2⟩ := h
  exact ⟨x, dx, t, e, lx_i l h1, lx_t l h2⟩
end
end Tx
/-! ## Plain1 -/
/-! Sorted lists of texts, plainly. -/
namespace Tx
open PySem PySem.Spec PyProof.Rows L2
def leS (a b : Str) : Prop := ¬ b.cps.toList < a.cps.toList
theorem leS_iff (a b : Str) : ltCps b.cps.toList a.cps.toList = false ↔ leS a b := by
  unfold leS
  rw [ltCps_eq, decide_eq_false_iff_not]
theorem str_ext {a b : Str} (h : a.cps.toList = b.cps.toList) : a = b := by
  cases a; cases b
  simp only at h
  congr 1
  exact Array.toList_inj.mp h
theorem leS_refl (a : Str) : leS a a := List.lt_irrefl _
theorem leS_trans {a b c : Str} (h1 : leS a b) (h2 : leS b c) : leS a c := by
  unfold leS at *
  exact List.not_lt.mpr (List.le_trans (List.not_lt.mp h1) (List.not_lt.mp h2))
theorem leS_anti {a b : Str} (h1 : leS a b) (h2 : leS b a) : a = b := by
  unfold leS at *
  exact str_ext (List.le_antisymm (List.not_lt.mp h1) (List.not_lt.mp h2))
theorem leS_total (a b : Str) : leS a b ∨ leS b a := by
  unfold leS
  rcases List.le_total a.cps.toList b.cps.toList with h | h
  · exact .inl (List.not_lt.mpr h)
  · exact .inr (List.not_lt.mpr h)
theorem rising_pw : ∀ (r : List Str) (x : Str), risingS x r = true → (x :: r).Pairwise leS
  | [], x, _ => by simp
  | y :: r, x, h => by
    unfold risingS at h
    rw [Bool.and_eq_true, Bool.not_eq_true'] at h
    have ih := rising_pw r y h.2
    rw [List.pairwise_cons]
    refine ⟨fun z hz => ?_, ih⟩
    have h1 := (leS_iff _ _).mp h.1
    rcases List.mem_cons.mp hz with e | hz
    · rw [e]; exact h1
    · exact leS_trans h1 ((List.pairwise_cons.mp ih).1 z hz)
theorem sorted_pw {l : List Str} (h : sortedS l = true) : l.Pairwise leS := by
  cases l with
  | nil => simp
  | cons x r => exact rising_pw r x h
theorem pw_sorted {l : List Str} (h : l.Pairwise leS) : sortedS l = true := sortedS_of_pairwise l (h.imp fun h => (leS_iff _ _).mpr h)
theorem sorted_eq {xs ys : List Str} (hx : sortedS xs = true) (hy : sortedS ys = true) (p : xs.Perm ys) : xs = ys :=
  List.Perm.eq_of_pairwise (fun a b _ _ h1 h2 => leS_anti h1 h2) (sorted_pw hx) (sorted_pw hy) p
theorem Wd.eq {cs xs ys : List Str} (hx : Wd cs xs) (hy : Wd cs ys) : xs = ys :=
  sorted_eq hx.so hy.so ((List.perm_ext_iff_of_nodup hx.nd hy.nd).mpr fun k => (hx.mem k).trans (hy.mem k).symm)
theorem sorted_sub {xs ys : List Str} (h : sortedS ys = true) (s : xs.Sublist ys) : sortedS xs = true := pw_sorted ((sorted_pw h).sublist s)
theorem lohi_sorted (a b : Str) : sortedS [loS a b, hiS a b] = true := by
  refine pw_sorted ?_
  rw [List.pairwise_cons]
  refine ⟨fun z hz => ?_, by simp⟩
  rw [List.mem_singleton] at hz
  subst hz
  unfold loS hiS
  by_cases h : ltS a b = true
  · rw [if_pos h, if_pos h]
    unfold ltS at h
    rw [decide_eq_true_eq] at h
    unfold leS
    exact List.not_lt.mpr (List.le_of_lt h)
  · rw [if_neg h, if_neg h]
    unfold ltS at h
    rw [decide_eq_true_eq] at h
    exact h
theorem lohi_perm (a b : Str) : [loS a b, hiS a b].Perm [a, b] := by
  rcases lohi a b with ⟨e1, e2⟩ | ⟨e1, e2⟩ <;> rw [e1, e2]
  exact List.Perm.swap _ _ _
/-- two sorted texts are lo, hi -/
theorem two_sorted {a b : Str} {ys : List Str} (p : ys.Perm [a, b]) (s : sortedS ys = true) : ys = [loS a b, hiS a b] :=
  sorted_eq s (lohi_sorted a b) (p.trans (lohi_perm a b).symm)
end Tx
/-! ## DTown2 -/
namespace Tx
open PySem PySem.Spec PyProof.Rows L2
section
variable {X : Cx}
theorem call_lenR : CallR X (.builtin "len") (fun xs H Q => ∃ a kvs, xs = [V.ref a] ∧ Rd H a (.dK kvs) ∧ Q (.int kvs.length) H) := by
  intro pins s σ H xs us Q I r h
  obtain ⟨a, kvs, rfl, hd, q⟩ := h
  rw [Vals.ref1 r]
  exact d_len I hd fun t s' I' => ⟨.int _, H, I', ⟨t, rfl⟩, q⟩
end
/-- a town to read -/
def TG (K : PySem.W.Frag) (H : Hp) (v : V) (L : List Row) : Prop := ∃ x dx d t c, v = .ref x ∧ H x = some (.ins (He.ga K "Town") dx (fdT d t c)) ∧ DV H d (dN L) ∧ SqT K H t (L.map (·.1)) ∧ Rows K H L ∧ sortedS (L.map nmR) = true
theorem TG.lx {K : PySem.W.Frag} {H H' : Hp} {v : V} {L : List Row} (h : TG K H v L) (l : Lx H H') : TG K H' v L := by
  obtain ⟨x, dx, d, t, c, e, h1, h2, h3, h4, h5⟩ := h
  exact ⟨x, dx, d, t, c, e, lx_i l h1, lx_d l h2, lx_t l h3, h4.lx l, h5⟩
/-- a town -/
def IsT (K : PySem.W.Frag) (H : Hp) (v : V) (L : List Row) (cs : List Str) : Prop := ∃ x dx d t c, v = .ref x ∧ H x = some (.ins (He.ga K "Town") dx (fdT d t c)) ∧ TF K H d t c L cs ∧ H c = some (.dK (dC cs))
theorem IsT.same {K : PySem.W.Frag} {H H' : Hp} {v : V} {L : List Row} {cs : List Str} (h : IsT K H v L cs) (s : Same H H') : IsT K H' v L cs := by
  obtain ⟨x, dx, d, t, c, e, h1, h2, h3⟩ := h
  exact ⟨x, dx, d, t, c, e, s _ _ h1, ⟨lx_d (lx s) h2.hd, lx_t (lx s) h2.ht, lx_d (lx s) h2.hc, h2.rows.lx (lx s), h2.so, h2.cn⟩, s _ _ h3⟩
theorem IsT.tg {K : PySem.W.Frag} {H : Hp} {v : V} {L : List Row} {cs : List Str} (h : IsT K H v L cs) : TG K H v L := by
  obtain ⟨x, dx, d, t, c, e, h1, h2, h3⟩ := h
  exact ⟨x, dx, d, t, c, e, h1, h2.hd, h2.ht, h2.rows, h2.so⟩
def isRd : St → Bool
  | .road .. => true
  | _ => false
def rdN (L : List Row) : List Str := L.filterMap fun r => if isRd r.2 = true then some (nmR r) else none
section
variable {w : World} {K : PySem.W.Frag} {mg : Str → Option Value} {base : Heap} (T : Txt K mg)
/-- isinstance(v, Road) -/
theorem isi_road {H : Hp} {v : V} {s : St} {Q : VK} (T : Txt K mg) (h : IsSt K H v s) (q : Q (.bl (isRd s)) H) : AtR (rIsi K) [v, .ref (He.ga K "Road")] H Q := by
  obtain ⟨x, dx, t, rfl, h1, h2⟩ := h
  refine isi_own h1 (s.cl T) (s.tyc T) (b := isRd s) ?_ q
  cases s with
  | lane => exact T.is_Lane_Road
  | avenue => exact T.is_Avenue_Road
  | road => exact T.is_Road_Road
def isLn : St → Bool
  | .lane .. => true
  | _ => false
theorem isi_lane {H : Hp} {v : V} {s : St} {Q : VK} (T : Txt K mg) (h : IsSt K H v s) (q : Q (.bl (isLn s)) H) : AtR (rIsi K) [v, .ref (He.ga K "Lane")] H Q := by
  obtain ⟨x, dx, t, rfl, h1, h2⟩ := h
  refine isi_own h1 (s.cl T) (s.tyc T) (b := isLn s) ?_ q
  cases s with
  | lane => exact T.is_Lane_Lane
  | avenue => exact T.is_Avenue_Lane
  | road => exact T.is_Road_Lane
def spTStreets (K : PySem.W.Frag) : Sp := fun vs H Q _ => ∃ v L, vs = [v] ∧ TG K H v L ∧ ∀ t, SqT K H t (L.map (·.1)) → Q (.ref t) H
theorem sc_Town_streets : FnScope ["self"] ["self"] (defScope (mth 64 4)) := ⟨rfl, rfl, rfl, by decide +kernel, rfl, by decide +kernel, by decide +kernel⟩
include T in
theorem ok_Town_streets : Fn w K mg base 1 (pgA K (He.ga K "Town") "streets") (spTStreets K) := by
  refine funR T.f_Town_streets sc_Town_streets (fun _ _ _ _ _ _ us hl => match us, hl with | [_], _ => rfl) (fun vs H Q E h => ?_) (fun cdv A outer s H vs Q E hr h => ?_)
  · obtain ⟨v, L, rfl, _⟩ := h; rfl
  obtain ⟨v, L, rfl, ⟨x, dx, d, t, c, rfl, h1, h2, h3, h4, h5⟩, q⟩ := h
  refine ⟨_, pss_one (ps_ret (p_fld (pv 0))), ?_⟩
  exact ⟨_, rfl, fldR h1 T.c_Town T.na_Town_own_rows rfl (q t h3)⟩
def spTCorners (K : PySem.W.Frag) : Sp := fun vs H Q _ => ∃ v L cs, vs = [v] ∧ IsT K H v L cs ∧ cs.length < 60 ∧ ∀ t ys H', Same H H' → H t = none → H' t = some (.tup (ys.map V.str)) → Wd cs ys → Q (.ref t) H'
theorem sc_Town_corners : FnScope ["self", "corner"] ["self"] (defScope (mth 64 5)) := ⟨rfl, rfl, rfl, by decide +kernel, rfl, by decide +kernel, by decide +kernel⟩
include T in
theorem ok_Town_corners : Fn w K mg base 1 (pgA K (He.ga K "Town") "corners") (spTCorners K) := by
  refine funR T.f_Town_corners sc_Town_corners (fun _ _ _ _ _ _ us hl => match us, hl with | [_], _ => rfl) (fun vs H Q E h => ?_) (fun cdv A outer s H vs Q E hr h => ?_)
  · obtain ⟨v, L, cs, rfl, _⟩ := h; rfl
  obtain ⟨v, L, cs, rfl, ⟨x, dx, d, t, c, rfl, h1, h2, h3⟩, hl, q⟩ := h
  refine ⟨_, pss_one (ps_ret (pe_tupleOf (by rfl) T.n_tuple (p_b1 cr_sortedS bt_sorted T.n_sorted (pe_lock (pe_lc (own := [("corner", 1)]) (g := gName 1) (tt := tYes) rfl sc_Town_corners.nd (pi_keys (p_fld (pv 0))) (blkOk_by (N := ["self", "corner"]) (sc := defScope (mth 64 5)) (by decide +kernel)) (fun _ _ _ _ _ => pg_name (i := 1) sc_Town_corners.nd rfl (Or.inl rfl)) (fun _ _ _ _ _ => pts_nil) (fun _ _ _ _ _ => p_t1 SkE.call_str_str bt_str T.n_str (pv 1))))))), ?_⟩
  refine ⟨c, _, h3, trivial, fun od => ?_⟩
  have lk : Lx H (upd H c (.frz od (.dK (dC cs)))) := Lx.lock h3
  refine ⟨_, rfl, fldR (lx_i lk h1) T.c_Town T.na_Town_own_corners rfl ⟨c, od, rfl, .inl ⟨_, upd_same, fun D hD => ?_⟩⟩⟩
  refine lc_mapV (overK upd_same) hD (by unfold dC; rw [List.length_map]; omega) (fun p => kV p.1) (fun p H2 K2 hp s2 k2 => ?_) (fun H2 s2 e2 => ?_)
  · unfold dC at hp
    obtain ⟨e, he, rfl⟩ := List.mem_map.mp hp
    exact ⟨rfl, _, rfl, ⟨⟨e, rfl, k2 _ (Same.refl _)⟩⟩⟩
  have e3 : H2 D = some (.lst (cs.map V.str)) := by rw [e2]; unfold dC; rw [List.map_map]; rfl
  refine ⟨s2 _ _ upd_same, ⟨⟨D, cs, rfl, .inl (.inl ?_), by omega, fun ys b pm so hb => ?_⟩⟩⟩
  · have : D ≠ c := fun z => by rw [z, upd_same] at hD; cases hD
    rw [upd_ne this]; exact e3
  refine tupK (.inl (.inl upd_same)) fun t2 ht2 => ?_
  have sU : Same H (upd H2 c (.dK (dC cs))) := fun a o ha => by
    by_cases hc : a = c
    · rw [hc, upd_same, ← h3, ← hc]; exact ha
    · rw [upd_ne hc]
      exact s2 _ _ (by rw [upd_ne hc]; exact ha)
  have sF := (sU.trans (same_new hb)).trans (same_new (o := .tup (ys.map V.str)) ht2)
  refine q t2 ys _ sF ?_ upd_same ⟨so, pm.nodup_iff.mpr h2.cn.nd, fun k => pm.mem_iff⟩
  exact (sU.trans (same_new hb)).free ht2
def spTRoads (K : PySem.W.Frag) : Sp := fun vs H Q _ => ∃ v L, vs = [v] ∧ TG K H v L ∧ L.length < 60 ∧ ∀ t H', Same H H' → H' t = some (.tup ((rdN L).map V.str)) → Q (.ref t) H'
theorem sc_Town_roads : FnScope ["self", "street"] ["self"] (defScope (mth 64 6)) := ⟨rfl, rfl, rfl, by decide +kernel, rfl, by decide +kernel, by decide +kernel⟩
include T in
theorem ok_Town_roads : Fn w K mg base 1 (pgA K (He.ga K "Town") "roads") (spTRoads K) := by
  refine funR T.f_Town_roads sc_Town_roads (fun _ _ _ _ _ _ us hl => match us, hl with | [_], _ => rfl) (fun vs H Q E h => ?_) (fun cdv A outer s H vs Q E hr h => ?_)
  · obtain ⟨v, L, rfl, _⟩ := h; rfl
  obtain ⟨v, L, rfl, ⟨x, dx, d, t, c, rfl, h1, h2, h3, h4, h5⟩, hl, q⟩ := h
  refine ⟨_, pss_one (ps_ret (pe_tupleOf (by rfl) T.n_tuple (pe_lc (own := [("street", 1)]) (g := gName 1) rfl sc_Town_roads.nd (pi_tup (p_fld (pv 0))) (blkOk_by (N := ["self", "street"]) (sc := defScope (mth 64 6)) (by decide +kernel)) (fun _ _ _ _ _ => pg_name (i := 1) sc_Town_roads.nd rfl (Or.inl rfl)) (fun _ _ _ _ _ => pts_one (pt_val (isiB K T.n_isinstance (pv 1) (p_cl T.g_Road)))) (fun _ _ _ _ _ => fldB K (pv 1))))), ?_⟩
  refine ⟨_, rfl, fldR h1 T.c_Town T.na_Town_own_rows rfl ⟨t, rfl, ⟨_, h3⟩, fun D hD => ?_⟩⟩
  refine lc_map (overT (f := fun r : Row => r.1) h3) hD (by omega) (fun r => if isRd r.2 = true then some (.str (nmR r)) else none) (fun r H2 K1 K2 hr2 s2 k2 k1 => ?_) (fun H2 s2 e2 => ?_)
  · have hs := (h4 r hr2).lx (lx s2)
    refine ⟨rfl, _, rfl, isi_road T hs ⟨_, rfl, ?_⟩⟩
    cases hb : isRd r.2 with
    | true =>
      obtain ⟨y, dy, u, e, g1, g2⟩ := hs
      refine iteT ⟨_, rfl, ?_⟩
      rw [e]
      exact fld_name T g1 (k2 _ _ (by rw [if_pos hb]; rfl) (Same.refl _))
    | false => exact iteF (k1 _ (if_neg (by rw [hb]; decide)) (Same.refl _))
  refine tupK (.inl (.inl e2)) fun t2 ht2 => q t2 _ (s2.trans (same_new ht2)) ?_
  rw [upd_same]
  unfold rdN
  rw [List.map_filterMap]
  congr 3
  funext r
  by_cases hb : isRd r.2 = true
  · rw [if_pos hb, if_pos hb]; rfl
  · rw [if_neg hb, if_neg hb]; rfl
def spTLen (K : PySem.W.Frag) : Sp := fun vs H Q _ => ∃ v L, vs = [v] ∧ TG K H v L ∧ Q (.int (L.length : Nat)) H
theorem sc_Town_len : FnScope ["self"] ["self"] (defScope (mth 64 8)) := ⟨rfl, rfl, rfl, by decide +kernel, rfl, by decide +kernel, by decide +kernel⟩
include T in
theorem ok_Town_len : Fn w K mg base 1 (He.ma K (He.ga K "Town") "__len__") (spTLen K) := by
  refine funR T.f_Town_len sc_Town_len (fun _ _ _ _ _ _ us hl => match us, hl with | [_], _ => rfl) (fun vs H Q E h => ?_) (fun cdv A outer s H vs Q E hr h => ?_)
  · obtain ⟨v, L, rfl, _⟩ := h; rfl
  obtain ⟨v, L, rfl, ⟨x, dx, d, t, c, rfl, h1, h2, h3, h4, h5⟩, q⟩ := h
  refine ⟨_, pss_one (ps_ret (p_b1 call_lenR bt_len T.n_len (p_fld (pv 0)))), ?_⟩
  refine ⟨_, rfl, fldR h1 T.c_Town T.na_Town_own_streets rfl ⟨⟨d, _, rfl, h2, ?_⟩⟩⟩
  have e : (dN L).length = L.length := by unfold dN; rw [List.length_map]
  rw [e]
  exact q
end
end Tx
/-! ## DTown3 -/
namespace Tx
open PySem PySem.Spec PyProof.Rows L2
theorem new2 {H : Hp} {x dx C : Addr} (hx : H x = none) (hd : H dx = none) : Same H (upd (upd H dx (.own x)) x (.ins C dx [])) := fun a o ha => by
  rw [upd_ne (ne_of_none ha hx), upd_ne (ne_of_none ha hd)]
  exact ha
theorem made_same {H H' : Hp} {x dx C : Addr} (hx : H x = none) (hd : H dx = none) (s : SameX x (upd (upd H dx (.own x)) x (.ins C dx [])) H') : Same H H' := fun a o ha => s a o (ne_of_none ha hx) (new2 hx hd a o ha)
section
variable {w : World} {K : PySem.W.Frag} {mg : Str → Option Value} {base : Heap} (T : Txt K mg)
theorem make_town {H : Hp} {L : List Row} {Q : VK} (h : Rows K H L) (ok : RowsOk L) (q : ∀ v L' cs H', Same H H' → IsT K H' v L' cs → L'.Perm L → Q v H') : MakeS (He.ga K "Town") (spTI K) (L.map (·.1)) H Q :=
  ⟨fun x dx hx hd ne => ⟨x, dx, L, rfl, upd_same, h.lx (lx (new2 hx hd)), ok, fun d t c L' cs H' s e1 pm e2 e3 tf => ⟨rfl, q _ _ _ _ (made_same hx hd s) ⟨x, dx, d, t, c, rfl, e1, tf, e3⟩ pm⟩⟩⟩
theorem make_ward {H : Hp} {cs : List Str} {Q : VK} (ok : Cs cs) (q : ∀ v ys H', Same H H' → IsW K H' v ys → Wd cs ys → Q v H') : MakeS (He.ga K "Ward") (spWI K) (cs.map V.str) H Q :=
  ⟨fun x dx hx hd ne => ⟨x, dx, cs, rfl, upd_same, ok, fun t ys H' s e1 e2 wd => ⟨rfl, q _ _ _ (made_same hx hd s) ⟨x, dx, t, rfl, e1, .inl (.inl e2)⟩ wd⟩⟩⟩
def spTIn (K : PySem.W.Frag) : Sp := fun vs H Q _ => ∃ v L n, vs = [v, .str n] ∧ TG K H v L ∧ Q (.bl (decide (n ∈ L.map nmR))) H
theorem dN_key (L : List Row) : (dN L).map (·.1) = (L.map nmR).map Sum.inr := by unfold dN; rw [List.map_map, List.map_map]; rfl
theorem valV_mem {kvs : List (L2.Key × V)} {k : L2.Key} (h : k ∈ kvs.map (·.1)) : (valV kvs k).isSome = true := by
  induction kvs with
  | nil => cases h
  | cons p r ih =>
    by_cases e : p.1 = k
    · rw [valV_pos e]; rfl
    · rw [valV_neg e]
      rw [List.map_cons, List.mem_cons] at h
      exact ih (h.resolve_left fun z => e z.symm)
theorem dN_some (L : List Row) (n : Str) : (valV (dN L) (Sum.inr n)).isSome = decide (n ∈ L.map nmR) := by
  by_cases h : n ∈ L.map nmR
  · rw [decide_eq_true h]
    exact valV_mem (by rw [dN_key]; exact List.mem_map_of_mem h)
  · rw [decide_eq_false h, valV_no]
    · rfl
    · rw [dN_key]
      intro z
      obtain ⟨y, h1, h2⟩ := List.mem_map.mp z
      cases h2
      exact h h1
theorem sc_Town_contains : FnScope ["self", "name"] ["self", "name"] (defScope (mth 64 10)) := ⟨rfl, rfl, rfl, by decide +kernel, rfl, by decide +kernel, by decide +kernel⟩
include T in
theorem ok_Town_contains : Fn w K mg base 1 (He.ma K (He.ga K "Town") "__contains__") (spTIn K) := by
  refine funR T.f_Town_contains sc_Town_contains (fun _ _ _ _ _ _ us hl => match us, hl with | [_, _], _ => rfl) (fun vs H Q E h => ?_) (fun cdv A outer s H vs Q E hr h => ?_)
  · obtain ⟨v, L, n, rfl, _⟩ := h; rfl
  obtain ⟨v, L, n, rfl, ⟨x, dx, d, t, c, rfl, h1, h2, h3, h4, h5⟩, q⟩ := h
  refine ⟨_, pss_one (ps_ret (pe_and (p_isi T.n_isinstance (pv 1) (p_ty "str" T.n_str bt_str)) (pe_one (pe_cmp (pc_din (hu1 hr) (pv 1) (p_fld (pv 0))))))), ?_⟩
  refine ⟨_, rfl, isi_str ⟨true, rfl, iteT ⟨_, rfl, _, rfl, fldR h1 T.c_Town T.na_Town_own_streets rfl ⟨d, _, rfl, .inl ⟨_, Sum.inr n, h2, rfl, rfl⟩, ?_⟩⟩⟩⟩
  rw [dN_some]
  exact q
def spTGet (K : PySem.W.Frag) : Sp := fun vs H Q _ => ∃ v L r, vs = [v, .str (nmR r)] ∧ TG K H v L ∧ (L.map nmR).Nodup ∧ r ∈ L ∧ Q r.1 H
theorem sc_Town_getitem : FnScope ["self", "name"] ["self", "name"] (defScope (mth 64 11)) := ⟨rfl, rfl, rfl, by decide +kernel, rfl, by decide +kernel, by decide +kernel⟩
theorem dN_get {L : List Row} {r : Row} (nd : (L.map nmR).Nodup) (h : r ∈ L) : valV (dN L) (Sum.inr (nmR r)) = some r.1 := by
  obtain ⟨j, hj⟩ := List.mem_iff_getElem?.mp h
  refine valV_get (j := j) ?_ ?_
  · rw [dN_key, List.Nodup, List.pairwise_map]
    exact List.Pairwise.imp (fun h z => h (Sum.inr.inj z)) nd
  · unfold dN
    rw [List.getElem?_map, hj]; rfl
include T in
theorem ok_Town_getitem : Fn w K mg base 2 (He.ma K (He.ga K "Town") "__getitem__") (spTGet K) := by
  refine funR T.f_Town_getitem sc_Town_getitem (fun _ _ _ _ _ _ us hl => match us, hl with | [_, _], _ => rfl) (fun vs H Q E h => ?_) (fun cdv A outer s H vs Q E hr h => ?_)
  · obtain ⟨v, L, n, rfl, _⟩ := h; rfl
  obtain ⟨v, L, r, rfl, ⟨x, dx, d, t, c, rfl, h1, h2, h3, h4, h5⟩, nd, hr2, q⟩ := h
  refine ⟨_, pss_cons (ps_if (pt_cmpR (Own.op_notIn T.o_Town_contains.at_ T.o_Town_contains.fn (ok_Town_contains T) hr) (pv 1) (pv 0) (by rfl)) pss_never pss_nil)
    (pss_one (ps_ret (pe_dget (hu1 hr) (p_fld (pv 0)) (pv 1) (fun _ _ => rfl)))), ?_⟩
  refine ⟨_, rfl, _, rfl, x, rfl, ⟨dx, _, h1⟩, ⟨⟨_, L, nmR r, rfl, ⟨x, dx, d, t, c, rfl, h1, h2, h3, h4, h5⟩, _, rfl, ?_⟩⟩⟩
  rw [decide_eq_true (List.mem_map_of_mem hr2)]
  refine ⟨false, rfl, iteF ⟨_, rfl, fldR h1 T.c_Town T.na_Town_own_streets rfl ⟨_, rfl, d, r.1, rfl, dget h2 (dN_get nd hr2), q⟩⟩⟩
def spTOr (K : PySem.W.Frag) : Sp := fun vs H Q _ => ∃ v L u s, vs = [v, u] ∧ TG K H v L ∧ IsSt K H u s ∧ RowsOk (L ++ [(u, s)]) ∧ ∀ v' L' cs' H', Same H H' → IsT K H' v' L' cs' → L'.Perm (L ++ [(u, s)]) → Q v' H'
theorem sc_Town_or : FnScope ["self", "value"] ["self", "value"] (defScope (mth 64 13)) := ⟨rfl, rfl, rfl, by decide +kernel, rfl, by decide +kernel, by decide +kernel⟩
include T in
theorem ok_Town_or : Fn w K mg base 7 (He.ma K (He.ga K "Town") "__or__") (spTOr K) := by
  refine funR T.f_Town_or sc_Town_or (fun _ _ _ _ _ _ us hl => match us, hl with | [_, _], _ => rfl) (fun vs H Q E h => ?_) (fun cdv A outer s H vs Q E hr h => ?_)
  · obtain ⟨v, L, u, s, rfl, _⟩ := h; rfl
  obtain ⟨v, L, u, st, rfl, ⟨x, dx, d, t, c, rfl, h1, h2, h3, h4, h5⟩, hu, ok, q⟩ := h
  refine ⟨_, pss_cons (ps_if (pt_val (p_isi T.n_isinstance (pv 1) (p_cl T.g_Street))) (pss_one (ps_ret (p_mkSm T.mk_Town (ok_Town_init T) hr T.g_Town (StX.pa_star (p_fld (pv 0)) (pa_cons (pv 1) pa_nil))))) pss_nil) pss_never, ?_⟩
  refine ⟨_, rfl, isi_street T hu ⟨true, rfl, iteT ⟨_, rfl, fldR h1 T.c_Town T.na_Town_own_rows rfl ⟨t, _, rfl, .inl h3, _, rfl, ?_⟩⟩⟩⟩
  have e : L.map (·.1) ++ [u] = (L ++ [(u, st)]).map (·.1) := by rw [List.map_append]; rfl
  show MakeS _ _ (L.map (·.1) ++ [u]) _ _
  rw [e]
  refine make_town (fun p hp => ?_) ok q
  rcases List.mem_append.mp hp with hp | hp
  · exact h4 p hp
  · rw [List.mem_singleton] at hp
    subst hp
    exact hu
end
end Tx
/-! ## DWard2 -/
namespace Tx
open PySem PySem.Spec PyProof.Rows L2
theorem inV_strs (c : Str) (ys : List Str) : inV (.str c) (ys.map V.str) = decide (c ∈ ys) := by
  unfold inV
  induction ys with
  | nil => rfl
  | cons y r ih =>
    rw [List.map_cons, List.any_cons, ih]
    by_cases h : y = c
    · subst h
      simp [eqV]
    · have h' : ¬ c = y := fun z => h z.symm
      simp [eqV, h, h']
theorem flat_strs (ys : List Str) : (ys.map V.str).all flatV = true := by
  rw [List.all_eq_true]
  intro x hx
  obtain ⟨y, _, rfl⟩ := List.mem_map.mp hx
  rfl
/-- c in a tuple of texts -/
theorem inT {K : PySem.W.Frag} {H : Hp} {t : Addr} {c : Str} {ys : List Str} {Q : VK} (h : SqT K H t (ys.map V.str)) (q : Q (.bl (decide (c ∈ ys))) H) : rIn K false (.str c) (.ref t) H Q :=
  ⟨t, _, rfl, .inr h, rfl, flat_strs ys, by rw [if_neg (by decide), inV_strs]; exact q⟩
theorem inL {K : PySem.W.Frag} {H : Hp} {t : Addr} {c : Str} {ys : List Str} {Q : VK} (h : SqL K H t (ys.map V.str)) (q : Q (.bl (decide (c ∈ ys))) H) : rIn K false (.str c) (.ref t) H Q :=
  ⟨t, _, rfl, .inl h, rfl, flat_strs ys, by rw [if_neg (by decide), inV_strs]; exact q⟩
theorem niT {K : PySem.W.Frag} {H : Hp} {t : Addr} {c : Str} {ys : List Str} {Q : VK} (h : SqT K H t (ys.map V.str)) (q : Q (.bl (!decide (c ∈ ys))) H) : rIn K true (.str c) (.ref t) H Q :=
  ⟨t, _, rfl, .inr h, rfl, flat_strs ys, by rw [if_pos rfl, inV_strs]; exact q⟩
theorem all_bl {K : PySem.W.Frag} {H : Hp} {D : Addr} {bs : List Bool} {Q : VK} (e : H D = some (.lst (bs.map V.bl))) (q : Q (.bl (bs.all id)) H) : AtR (rAll K) [.ref D] H Q := ⟨⟨D, bs, rfl, .inl (.inl e), q⟩⟩
theorem any_bl {K : PySem.W.Frag} {H : Hp} {D : Addr} {bs : List Bool} {Q : VK} (e : H D = some (.lst (bs.map V.bl))) (q : Q (.bl (bs.any id)) H) : AtR (rAny K) [.ref D] H Q := ⟨⟨D, bs, rfl, .inl (.inl e), q⟩⟩
theorem IsW.same {K : PySem.W.Frag} {H H' : Hp} {v : V} {ys : List Str} (h : IsW K H v ys) (s : Same H H') : IsW K H' v ys := h.lx (Tx.lx s)
section
variable {w : World} {K : PySem.W.Frag} {mg : Str → Option Value} {base : Heap} (T : Txt K mg)
def spWCorners (K : PySem.W.Frag) : Sp := fun vs H Q _ => ∃ v ys, vs = [v] ∧ IsW K H v ys ∧ ∀ t, SqT K H t (ys.map V.str) → Q (.ref t) H
theorem sc_Ward_corners : FnScope ["self"] ["self"] (defScope (mth 60 1)) := ⟨rfl, rfl, rfl, by decide +kernel, rfl, by decide +kernel, by decide +kernel⟩
include T in
theorem ok_Ward_corners : Fn w K mg base 1 (pgA K (He.ga K "Ward") "corners") (spWCorners K) := by
  refine funR T.f_Ward_corners sc_Ward_corners (fun _ _ _ _ _ _ us hl => match us, hl with | [_], _ => rfl) (fun vs H Q E h => ?_) (fun cdv A outer s H vs Q E hr h => ?_)
  · obtain ⟨v, ys, rfl, _⟩ := h; rfl
  obtain ⟨v, ys, rfl, ⟨x, dx, t, rfl, h1, h2⟩, q⟩ := h
  refine ⟨_, pss_one (ps_ret (p_fld (pv 0))), ?_⟩
  exact ⟨_, rfl, fldR h1 T.c_Ward T.na_Ward_own_corners rfl (q t h2)⟩
/-- v.corners -/
theorem w_corners {H : Hp} {v : V} {ys : List Str} {Q : VK} (T : Txt K mg) (h : IsW K H v ys) (q : ∀ t, SqT K H t (ys.map V.str) → Q (.ref t) H) :
    ∃ a C, v = .ref a ∧ Own.IsI H a C ∧ Cls K C ∧ PropOf K C "corners" (He.ma K (He.ga K "Ward") "corners") (pgA K (He.ga K "Ward") "corners") ∧ Own.Sat (spWCorners K) [.ref a] H Q := by
  obtain ⟨x, dx, t, rfl, h1, h2⟩ := h
  exact ⟨x, _, rfl, ⟨dx, _, h1⟩, T.c_Ward, T.p_Ward_corners, ⟨⟨_, ys, rfl, ⟨x, dx, t, rfl, h1, h2⟩, q⟩⟩⟩
theorem t_corners {H : Hp} {v : V} {L : List Row} {cs : List Str} {Q : VK} (T : Txt K mg) (h : IsT K H v L cs) (hl : cs.length < 60) (q : ∀ t ys H', Same H H' → H' t = some (.tup (ys.map V.str)) → Wd cs ys → Q (.ref t) H') :
    ∃ a C, v = .ref a ∧ Own.IsI H a C ∧ Cls K C ∧ PropOf K C "corners" (He.ma K (He.ga K "Town") "corners") (pgA K (He.ga K "Town") "corners") ∧ Own.Sat (spTCorners K) [.ref a] H Q := by
  obtain ⟨x, dx, d, t, c, rfl, h1, h2⟩ := h
  exact ⟨x, _, rfl, ⟨dx, _, h1⟩, T.c_Town, T.p_Town_corners, ⟨⟨_, L, cs, rfl, ⟨x, dx, d, t, c, rfl, h1, h2⟩, hl, fun t ys H' s _ e wd => q t ys H' s e wd⟩⟩⟩
/-- need_place(town) -/
def spPlace (K : PySem.W.Frag) : Sp := fun vs H Q _ => ∃ v L, vs = [v] ∧ TG K H v L ∧ Q .non H
theorem isi_place {H : Hp} {v : V} {L : List Row} {Q : VK} (T : Txt K mg) (h : TG K H v L) (q : Q (.bl true) H) : AtR (rIsi K) [v, .ref (He.ga K "Place")] H Q := by
  obtain ⟨x, dx, d, t, c, rfl, h1, _⟩ := h
  exact isi_own h1 T.c_Town T.ty_Town T.is_Town_Place q
theorem isi_town {H : Hp} {v : V} {L : List Row} {Q : VK} (T : Txt K mg) (h : TG K H v L) (q : Q (.bl true) H) : AtR (rIsi K) [v, .ref (He.ga K "Town")] H Q := by
  obtain ⟨x, dx, d, t, c, rfl, h1, _⟩ := h
  exact isi_own h1 T.c_Town T.ty_Town T.is_Town_Town q
theorem isi_ward {H : Hp} {v : V} {ys : List Str} {Q : VK} (T : Txt K mg) (h : IsW K H v ys) (q : Q (.bl true) H) : AtR (rIsi K) [v, .ref (He.ga K "Ward")] H Q := by
  obtain ⟨x, dx, t, rfl, h1, _⟩ := h
  exact isi_own h1 T.c_Ward T.ty_Ward T.is_Ward_Ward q
theorem sc_need_place : FnScope ["town"] ["town"] (defScope (top 58)) := ⟨rfl, rfl, rfl, by decide +kernel, rfl, by decide +kernel, by decide +kernel⟩
include T in
theorem ok_need_place : Fn w K mg base 1 (He.ga K "need_place") (spPlace K) := by
  refine funR T.f_need_place sc_need_place (fun _ _ _ _ _ _ us hl => match us, hl with | [_], _ => rfl) (fun vs H Q E h => ?_) (fun cdv A outer s H vs Q E hr h => ?_)
  · obtain ⟨v, L, rfl, _⟩ := h; rfl
  obtain ⟨v, L, rfl, hv, q⟩ := h
  refine ⟨_, pss_one (ps_if (pt_not (pt_val (p_isi T.n_isinstance (pv 0) (p_cl T.g_Place)))) pss_never pss_nil), ?_⟩
  exact ⟨_, rfl, isi_place T hv ⟨true, rfl, iteF q⟩⟩
def spNW (K : PySem.W.Frag) : Sp := fun vs H Q _ => ∃ v u ys, vs = [v, u] ∧ IsW K H u ys ∧ Q .non H
theorem sc_Ward_need_ward : FnScope ["self", "other"] ["self", "other"] (defScope (mth 60 3)) := ⟨rfl, rfl, rfl, by decide +kernel, rfl, by decide +kernel, by decide +kernel⟩
include T in
theorem ok_Ward_need_ward : Fn w K mg base 1 (He.ma K (He.ga K "Ward") "need_ward") (spNW K) := by
  refine funR T.f_Ward_need_ward sc_Ward_need_ward (fun _ _ _ _ _ _ us hl => match us, hl with | [_, _], _ => rfl) (fun vs H Q E h => ?_) (fun cdv A outer s H vs Q E hr h => ?_)
  · obtain ⟨v, u, ys, rfl, _⟩ := h; rfl
  obtain ⟨v, u, ys, rfl, hu, q⟩ := h
  refine ⟨_, pss_one (ps_if (pt_not (pt_val (p_isi T.n_isinstance (pv 1) (p_cl T.g_Ward)))) pss_never pss_nil), ?_⟩
  exact ⟨_, rfl, isi_ward T hu ⟨true, rfl, iteF q⟩⟩
/-- a ward of the town -/
structure WOf (cs ys : List Str) : Prop where
  lt : ys.length < cs.length
  sub : ∀ y ∈ ys, y ∈ cs
  few : cs.length ≤ 7
theorem Wd.len {cs ys : List Str} (h : Wd cs ys) (nd : cs.Nodup) : ys.length = cs.length := ((List.perm_ext_iff_of_nodup h.nd nd).mpr h.mem).length_eq
def spIsOf (K : PySem.W.Frag) : Sp := fun vs H Q _ => ∃ v u ys L cs, vs = [v, u] ∧ IsW K H v ys ∧ IsT K H u L cs ∧ cs.Nodup ∧ WOf cs ys ∧ ∀ H', Same H H' → Q (.bl true) H'
theorem sc_Ward_is_of : FnScope ["self", "town", "corner"] ["self", "town"] (defScope (mth 60 6)) := ⟨rfl, rfl, rfl, by decide +kernel, rfl, by decide +kernel, by decide +kernel⟩
include T in
theorem ok_Ward_is_of : Fn w K mg base 3 (He.ma K (He.ga K "Ward") "is_of") (spIsOf K) := by
  refine funR T.f_Ward_is_of sc_Ward_is_of (fun _ _ _ _ _ _ us hl => match us, hl with | [_, _], _ => rfl) (fun vs H Q E h => ?_) (fun cdv A outer s H vs Q E hr h => ?_)
  · obtain ⟨v, u, ys, L, cs, rfl, _⟩ := h; rfl
  obtain ⟨v, u, ys, L, cs, rfl, hv, hu, nd, wo, q⟩ := h
  refine ⟨_, pss_cons (ps_if (PW.pt (pw_or (pt_not (pt_val (p_isi T.n_isinstance (pv 1) (p_cl T.g_Place)))) (pw_or1 (pt_cmpR op_ge (p_b1 call_len_seq bt_len T.n_len (Own.pe_prop (p := He.ma K (He.ga K "Ward") "corners") (pv 0) (ok_Ward_corners T) (by exact hr))) (p_b1 call_len_seq bt_len T.n_len (Own.pe_prop (p := He.ma K (He.ga K "Town") "corners") (pv 1) (ok_Town_corners T) (by exact hr))) (nomark _))))) (pss_one (ps_ret pe_bl)) pss_nil)
    (pss_one (ps_ret (p_b1 (cr_all rfl) bt_all T.n_all (pe_lc (own := [("corner", 2)]) (g := gName 2) (tt := tYes) rfl sc_Ward_is_of.nd (pi_tup (Own.pe_prop (p := He.ma K (He.ga K "Ward") "corners") (pv 0) (ok_Ward_corners T) (by exact hr))) (blkOk_by (N := ["self", "town", "corner"]) (sc := defScope (mth 60 6)) (by decide +kernel)) (fun _ _ _ _ _ => pg_name (i := 2) sc_Ward_is_of.nd rfl (Or.inl rfl)) (fun _ _ _ _ _ => pts_nil)
      (fun _ _ _ _ _ => pe_cmpR (opB_in K) (pv 2) (propB K (p := He.ma K (He.ga K "Town") "corners") (pv 1) (ok_Town_corners T) (by exact hr)) (by rfl)))))), ?_⟩
  have few := wo.few
  have lt := wo.lt
  refine ⟨_, rfl, isi_place T hu.tg ⟨true, rfl, iteF ⟨_, rfl, w_corners T hv fun t ht => ⟨⟨t, _, rfl, .inr ht, _, rfl, t_corners T hu (by omega) fun t2 zs H2 s2 e2 wd => ⟨⟨t2, _, rfl, .inr (.inl (.inl e2)), _, _, rfl, rfl, _, rfl, ?_⟩⟩⟩⟩⟩⟩⟩
  have hz := wd.len nd
  rw [List.length_map, List.length_map]
  show if decide (((zs.length : Nat) : Int) ≤ ((ys.length : Nat) : Int)) = true then _ else _
  rw [decide_eq_false (by omega)]
  refine iteF ⟨_, rfl, w_corners T (hv.same s2) fun t3 ht3 => ⟨t3, rfl, ⟨_, ht3⟩, fun D hD => ?_⟩⟩
  refine lc_rep (b := true) (overT ht3) hD (by omega) (fun c H3 K2 hc s3 k2 => ?_) (fun H3 s3 e3 => all_true e3 (q _ (s2.trans s3)))
  refine ⟨rfl, _, rfl, _, rfl, t_corners T (hu.same (s2.trans s3)) (by omega) fun t4 zs4 H4 s4 e4 wd4 => inT (.inl (.inl e4)) ?_⟩
  rw [decide_eq_true ((wd4.mem c).mpr (wo.sub c hc))]
  exact k2 _ s4
/-- need_town -/
def spWNT (K : PySem.W.Frag) : Sp := fun vs H Q _ => ∃ v u ys L cs, vs = [v, u] ∧ IsW K H v ys ∧ IsT K H u L cs ∧ cs.Nodup ∧ WOf cs ys ∧ ∀ H', Same H H' → Q .non H'
theorem sc_Ward_need_town : FnScope ["self", "town"] ["self", "town"] (defScope (mth 60 4)) := ⟨rfl, rfl, rfl, by decide +kernel, rfl, by decide +kernel, by decide +kernel⟩
/-- v.m(..) of a ward -/
theorem w_ins {H : Hp} {v : V} {ys : List Str} (h : IsW K H v ys) : ∃ a dx fs, v = .ref a ∧ H a = some (.ins (He.ga K "Ward") dx fs) ∧ ∃ t, fs = [(("own_corners" : Str), V.ref t)] := by
  obtain ⟨x, dx, t, rfl, h1, h2⟩ := h
  exact ⟨x, dx, _, rfl, h1, t, rfl⟩
include T in
theorem ok_Ward_need_town : Fn w K mg base 4 (He.ma K (He.ga K "Ward") "need_town") (spWNT K) := by
  refine funR T.f_Ward_need_town sc_Ward_need_town (fun _ _ _ _ _ _ us hl => match us, hl with | [_, _], _ => rfl) (fun vs H Q E h => ?_) (fun cdv A outer s H vs Q E hr h => ?_)
  · obtain ⟨v, u, ys, L, cs, rfl, _⟩ := h; rfl
  obtain ⟨v, u, ys, L, cs, rfl, hv, hu, nd, wo, q⟩ := h
  refine ⟨_, pss_cons (ps_expr (Own.pe_call (ok_need_place T) (hr.mono (by decide)) (by rfl) T.g_need_place T.k_need_place (pa_cons (pv 1) pa_nil)))
    (pss_one (ps_if (pt_not (pt_val (Own.pe_meth (pv 0) (ok_Ward_is_of T) hr (pa_cons (pv 1) pa_nil)))) pss_never pss_nil)), ?_⟩
  obtain ⟨a, dx, fs, e, h1, t, ef⟩ := w_ins hv
  refine ⟨_, rfl, ⟨⟨_, L, rfl, hu.tg, _, rfl, a, _, dx, fs, e, h1, T.c_Ward, T.m_Ward_is_of, by subst ef; rfl, _, rfl, ⟨⟨_, _, ys, L, cs, rfl, hv, hu, nd, wo, fun H' s => ⟨true, rfl, iteF (q H' s)⟩⟩⟩⟩⟩⟩
def spWLe (K : PySem.W.Frag) : Sp := fun vs H Q _ => ∃ v u ys zs, vs = [v, u] ∧ IsW K H v ys ∧ IsW K H u zs ∧ ys.length < 60 ∧ ∀ H', Same H H' → Q (.bl (ys.all fun y => decide (y ∈ zs))) H'
theorem sc_Ward_le : FnScope ["self", "other", "corner"] ["self", "other"] (defScope (mth 60 14)) := ⟨rfl, rfl, rfl, by decide +kernel, rfl, by decide +kernel, by decide +kernel⟩
include T in
theorem ok_Ward_le : Fn w K mg base 3 (He.ma K (He.ga K "Ward") "__le__") (spWLe K) := by
  refine funR T.f_Ward_le sc_Ward_le (fun _ _ _ _ _ _ us hl => match us, hl with | [_, _], _ => rfl) (fun vs H Q E h => ?_) (fun cdv A outer s H vs Q E hr h => ?_)
  · obtain ⟨v, u, ys, zs, rfl, _⟩ := h; rfl
  obtain ⟨v, u, ys, zs, rfl, hv, hu, few, q⟩ := h
  refine ⟨_, pss_cons (ps_expr (Own.pe_meth (pv 0) (ok_Ward_need_ward T) (hr.mono (by decide)) (pa_cons (pv 1) pa_nil)))
    (pss_one (ps_ret (p_b1 (cr_all rfl) bt_all T.n_all (pe_lc (own := [("corner", 2)]) (g := gName 2) (tt := tYes) rfl sc_Ward_le.nd (pi_tup (Own.pe_prop (p := He.ma K (He.ga K "Ward") "corners") (pv 0) (ok_Ward_corners T) (by exact hr))) (blkOk_by (N := ["self", "other", "corner"]) (sc := defScope (mth 60 14)) (by decide +kernel)) (fun _ _ _ _ _ => pg_name (i := 2) sc_Ward_le.nd rfl (Or.inl rfl)) (fun _ _ _ _ _ => pts_nil)
      (fun _ _ _ _ _ => pe_cmpR (opB_in K) (pv 2) (propB K (p := He.ma K (He.ga K "Ward") "corners") (pv 1) (ok_Ward_corners T) (by exact hr)) (by rfl)))))), ?_⟩
  obtain ⟨a, dx, fs, e, h1, t, ef⟩ := w_ins hv
  refine ⟨_, rfl, a, _, dx, fs, e, h1, T.c_Ward, T.m_Ward_need_ward, by subst ef; rfl, _, rfl, ⟨⟨_, _, zs, rfl, hu, ?_⟩⟩⟩
  refine ⟨_, rfl, w_corners T hv fun t3 ht3 => ⟨t3, rfl, ⟨_, ht3⟩, fun D hD => ?_⟩⟩
  refine lc_bl (overT ht3) hD (by omega) (fun y => decide (y ∈ zs)) (fun c H3 K2 hc s3 k2 => ?_) (fun H3 s3 e3 => all_bl e3 ?_)
  · exact ⟨rfl, _, rfl, _, rfl, w_corners T (hu.same s3) fun t4 ht4 => inT ht4 (k2 _ (Same.refl _))⟩
  · rw [List.all_map]; exact q _ s3
end
end Tx
/-! ## DWard3 -/
namespace Tx
open PySem PySem.Spec PyProof.Rows L2
section
variable {w : World} {K : PySem.W.Frag} {mg : Str → Option Value} {base : Heap} (T : Txt K mg)
theorem w_isi {H : Hp} {v : V} {ys : List Str} (h : IsW K H v ys) : ∃ a, v = .ref a ∧ Own.IsI H a (He.ga K "Ward") := by
  obtain ⟨x, dx, t, rfl, h1, h2⟩ := h
  exact ⟨x, rfl, dx, _, h1⟩
def spWOr (K : PySem.W.Frag) (f : List Str → List Str → List Str) : Sp := fun vs H Q _ => ∃ v u ys zs, vs = [v, u] ∧ IsW K H v ys ∧ IsW K H u zs ∧ Cs (f ys zs) ∧ ys.length < 30 ∧ zs.length < 30 ∧ ∀ v' us H', Same H H' → IsW K H' v' us → Wd (f ys zs) us → Q v' H'
theorem sc_Ward_or : FnScope ["self", "other", "found"] ["self", "other"] (defScope (mth 60 11)) := ⟨rfl, rfl, rfl, by decide +kernel, rfl, by decide +kernel, by decide +kernel⟩
include T in
theorem ok_Ward_or : Fn w K mg base 4 (He.ma K (He.ga K "Ward") "__or__") (spWOr K fun ys zs => ys ++ zs) := by
  refine funR T.f_Ward_or sc_Ward_or (fun _ _ _ _ _ _ us hl => match us, hl with | [_, _], _ => rfl) (fun vs H Q E h => ?_) (fun cdv A outer s H vs Q E hr h => ?_)
  · obtain ⟨v, u, ys, zs, rfl, _⟩ := h; rfl
  obtain ⟨v, u, ys, zs, rfl, hv, hu, cs, l1, l2, q⟩ := h
  refine ⟨_, pss_cons (ps_expr (Own.pe_meth (pv 0) (ok_Ward_need_ward T) (hr.mono (by decide)) (pa_cons (pv 1) pa_nil)))
    (pss_cons (ps_set (i := 2) sc_Ward_or.nd rfl (Or.inl rfl) (pe_lst (StX.pa_star (Own.pe_prop (p := He.ma K (He.ga K "Ward") "corners") (pv 0) (ok_Ward_corners T) (hr.mono (by decide))) (StX.pa_star (Own.pe_prop (p := He.ma K (He.ga K "Ward") "corners") (pv 1) (ok_Ward_corners T) (hr.mono (by decide))) pa_nil))))
    (pss_one (ps_ret (p_mkS T.mk_Ward (ok_Ward_init T) hr T.g_Ward (pv 2))))), ?_⟩
  obtain ⟨a, dx, fs, e, h1, t, ef⟩ := w_ins hv
  refine ⟨_, rfl, a, _, dx, fs, e, h1, T.c_Ward, T.m_Ward_need_ward, by subst ef; rfl, _, rfl, ⟨⟨_, _, zs, rfl, hu, ?_⟩⟩⟩
  refine ⟨_, rfl, w_corners T hv fun t3 ht3 => ⟨t3, _, rfl, .inl ht3, _, rfl, w_corners T hu fun t4 ht4 => ⟨t4, _, rfl, .inl ht4, by simp only [List.length_append, List.length_map, List.length_nil, sizeLine_eq]; omega, fun p hp => ?_⟩⟩⟩
  have e2 : ys.map V.str ++ (zs.map V.str ++ []) = (ys ++ zs).map V.str := by rw [List.append_nil, List.map_append]
  refine ⟨_, rfl, p, _, rfl, .inr (.inl (.inl upd_same)), ?_⟩
  show MakeS _ _ (ys.map V.str ++ (zs.map V.str ++ [])) _ _
  rw [e2]
  exact make_ward cs fun v' us H' s iw wd => q v' us H' ((same_new hp).trans s) iw wd
theorem sc_Ward_and : FnScope ["self", "other", "found", "corner"] ["self", "other"] (defScope (mth 60 12)) := ⟨rfl, rfl, rfl, by decide +kernel, rfl, by decide +kernel, by decide +kernel⟩
include T in
theorem ok_Ward_and : Fn w K mg base 4 (He.ma K (He.ga K "Ward") "__and__") (spWOr K fun ys zs => ys.filter fun y => decide (y ∈ zs)) := by
  refine funR T.f_Ward_and sc_Ward_and (fun _ _ _ _ _ _ us hl => match us, hl with | [_, _], _ => rfl) (fun vs H Q E h => ?_) (fun cdv A outer s H vs Q E hr h => ?_)
  · obtain ⟨v, u, ys, zs, rfl, _⟩ := h; rfl
  obtain ⟨v, u, ys, zs, rfl, hv, hu, cs, l1, l2, q⟩ := h
  refine ⟨_, pss_cons (ps_expr (Own.pe_meth (pv 0) (ok_Ward_need_ward T) (hr.mono (by decide)) (pa_cons (pv 1) pa_nil)))
    (pss_cons (ps_setLc (i := 2) (own := [("corner", 3)]) (g := gName 3) rfl sc_Ward_and.nd rfl rfl (sw_true rfl rfl rfl rfl) (pi_tup (Own.pe_prop (p := He.ma K (He.ga K "Ward") "corners") (pv 0) (ok_Ward_corners T) (hr.mono (by decide)))) (blkOk_by (N := ["self", "other", "found", "corner"]) (sc := defScope (mth 60 12)) (by decide +kernel)) (fun _ _ _ _ _ => pg_name (i := 3) sc_Ward_and.nd rfl (Or.inl rfl))
      (fun _ _ _ _ _ => pts_one (pt_cmpR (opB_in K) (pv 3) (propB K (p := He.ma K (He.ga K "Ward") "corners") (pv 1) (ok_Ward_corners T) (hr.mono (by decide))) (by rfl))) (fun _ _ _ _ _ => pv 3))
    (pss_one (ps_ret (p_mkS T.mk_Ward (ok_Ward_init T) hr T.g_Ward (pv 2))))), ?_⟩
  obtain ⟨a, dx, fs, e, h1, t, ef⟩ := w_ins hv
  refine ⟨_, rfl, a, _, dx, fs, e, h1, T.c_Ward, T.m_Ward_need_ward, by subst ef; rfl, _, rfl, ⟨⟨_, _, zs, rfl, hu, ?_⟩⟩⟩
  refine ⟨_, rfl, w_corners T hv fun t3 ht3 => ⟨t3, rfl, ⟨_, ht3⟩, fun D hD => ?_⟩⟩
  refine lc_map (overT ht3) hD (by omega) (fun y => if y ∈ zs then some (.str y) else none) (fun c H3 K1 K2 hc s3 k2 k1 => ?_) (fun H3 s3 e3 => ?_)
  · refine ⟨rfl, _, rfl, _, rfl, w_corners T (hu.same s3) fun t4 ht4 => inT ht4 ⟨_, rfl, ?_⟩⟩
    by_cases hm : c ∈ zs
    · rw [decide_eq_true hm]
      exact iteT ⟨_, rfl, k2 _ _ (if_pos hm) (Same.refl _)⟩
    · rw [decide_eq_false hm]
      exact iteF (k1 _ (if_neg hm) (Same.refl _))
  have e2 : ys.filterMap (fun y => if y ∈ zs then some (V.str y) else none) = (ys.filter fun y => decide (y ∈ zs)).map V.str := by
    rw [← List.filterMap_eq_map, List.filterMap_filter]
    congr 1
    funext y
    by_cases hm : y ∈ zs <;> simp [hm]
  rw [e2] at e3
  refine ⟨_, rfl, D, _, rfl, .inr (.inl (.inl e3)), make_ward cs fun v' us H' s iw wd => q v' us H' (s3.trans s) iw wd⟩
def joinC (ys : List Str) : Str := Txt.join "," ys
def spWStr (K : PySem.W.Frag) : Sp := fun vs H Q _ => ∃ v ys, vs = [v] ∧ IsW K H v ys ∧ ys.length < 30 ∧ (∀ y ∈ ys, nameB y = true) ∧ ∀ H', Same H H' → Q (.str (joinC ys)) H'
theorem sc_Ward_str : FnScope ["self", "corner"] ["self"] (defScope (mth 60 17)) := ⟨rfl, rfl, rfl, by decide +kernel, rfl, by decide +kernel, by decide +kernel⟩
theorem sum_len : ∀ ys : List Str, (∀ y ∈ ys, nameB y = true) → (ys.map (·.length)).sum ≤ 8 * ys.length
  | [], _ => Nat.le_refl _
  | y :: r, h => by
    have := name_len (h y List.mem_cons_self)
    have := sum_len r fun z hz => h z (List.mem_cons_of_mem _ hz)
    simp only [List.map_cons, List.sum_cons, List.length_cons]
    omega
include T in
theorem ok_Ward_str : Fn w K mg base 1 (He.ma K (He.ga K "Ward") "__str__") (spWStr K) := by
  refine funR T.f_Ward_str sc_Ward_str (fun _ _ _ _ _ _ us hl => match us, hl with | [_], _ => rfl) (fun vs H Q E h => ?_) (fun cdv A outer s H vs Q E hr h => ?_)
  · obtain ⟨v, ys, rfl, _⟩ := h; rfl
  obtain ⟨v, ys, rfl, ⟨x, dx, t, rfl, h1, h2⟩, hl, hn, q⟩ := h
  refine ⟨_, pss_one (ps_ret (pe_join pe_str (pe_lc (own := [("corner", 1)]) (g := gName 1) (tt := tYes) rfl sc_Ward_str.nd (pi_tup (p_fld (pv 0))) (blkOk_by (N := ["self", "corner"]) (sc := defScope (mth 60 17)) (by decide +kernel)) (fun _ _ _ _ _ => pg_name (i := 1) sc_Ward_str.nd rfl (Or.inl rfl)) (fun _ _ _ _ _ => pts_nil) (fun _ _ _ _ _ => p_t1 SkE.call_str_str bt_str T.n_str (pv 1))))), ?_⟩
  refine ⟨⟨_, rfl⟩, _, rfl, fldR h1 T.c_Ward T.na_Ward_own_corners rfl ⟨t, rfl, ⟨_, h2⟩, fun D hD => ?_⟩⟩
  refine lc_strT (by show 1 < 2; decide) hD h2 (by omega) (fun H2 s2 e2 => ⟨_, D, ys, rfl, rfl, .inl (.inl (.inl e2)), ?_, q _ s2⟩)
  have := sum_len ys hn
  have e1 : (Str.ofString ",").length = 1 := by decide +kernel
  rw [e1]
  omega
/-- do two wards cross -/
def crossB (ys zs cs : List Str) : Bool := (ys.any fun y => decide (y ∈ zs)) && !(ys.all fun y => decide (y ∈ zs)) && !(zs.all fun y => decide (y ∈ ys)) && !(cs.all fun y => decide (y ∈ ys ++ zs))
def spWCross (K : PySem.W.Frag) : Sp := fun vs H Q _ => ∃ v u o ys zs L cs, vs = [v, u, o] ∧ IsW K H v ys ∧ IsW K H u zs ∧ IsT K H o L cs ∧ cs.Nodup ∧ WOf cs ys ∧ WOf cs zs ∧ ∀ H', Same H H' → Q (.bl (crossB ys zs cs)) H'
theorem sc_Ward_crosses : FnScope ["self", "other", "town", "corner", "both"] ["self", "other", "town"] (defScope (mth 60 7)) := ⟨rfl, rfl, rfl, by decide +kernel, rfl, by decide +kernel, by decide +kernel⟩
theorem perm_all {l m : List Str} {p : Str → Bool} (h : ∀ k, k ∈ l ↔ k ∈ m) : l.all p = m.all p := by
  rw [Bool.eq_iff_iff, List.all_eq_true, List.all_eq_true]
  exact ⟨fun q k hk => q k ((h k).mpr hk), fun q k hk => q k ((h k).mp hk)⟩
include T in
theorem ok_Ward_crosses : Fn w K mg base 5 (He.ma K (He.ga K "Ward") "crosses") (spWCross K) := by
  refine funR T.f_Ward_crosses sc_Ward_crosses (fun _ _ _ _ _ _ us hl => match us, hl with | [_, _, _], _ => rfl) (fun vs H Q E h => ?_) (fun cdv A outer s H vs Q E hr h => ?_)
  · obtain ⟨v, u, o, ys, zs, L, cs, rfl, _⟩ := h; rfl
  obtain ⟨v, u, o, ys, zs, L, cs, rfl, hv, hu, ho, nd, wy, wz, q⟩ := h
  refine ⟨_, pss_cons (ps_expr (Own.pe_meth (pv 0) (ok_Ward_need_ward T) (hr.mono (by decide)) (pa_cons (pv 1) pa_nil)))
    (pss_cons (ps_expr (Own.pe_meth (pv 0) (ok_Ward_need_town T) hr (pa_cons (pv 2) pa_nil)))
    (pss_cons (ps_expr (Own.pe_meth (pv 1) (ok_Ward_need_town T) hr (pa_cons (pv 2) pa_nil)))
    (pss_cons (ps_if (PW.pt (pw_or (pt_not (pt_val (p_b1 (cr_any rfl) bt_any T.n_any (pe_lc (own := [("corner", 3)]) (g := gName 3) (tt := tYes) rfl sc_Ward_crosses.nd (pi_tup (Own.pe_prop (p := He.ma K (He.ga K "Ward") "corners") (pv 0) (ok_Ward_corners T) (hr.mono (by decide)))) (blkOk_by (N := ["self", "other", "town", "corner", "both"]) (sc := defScope (mth 60 7)) (by decide +kernel)) (fun _ _ _ _ _ => pg_name (i := 3) sc_Ward_crosses.nd rfl (Or.inl rfl)) (fun _ _ _ _ _ => pts_nil)
        (fun _ _ _ _ _ => pe_cmpR (opB_in K) (pv 3) (propB K (p := He.ma K (He.ga K "Ward") "corners") (pv 1) (ok_Ward_corners T) (hr.mono (by decide))) (by rfl))))))
      (pw_or (pt_cmpR (Own.op_cmp (C := He.ga K "Ward") (fun _ _ => rfl) T.o_Ward_le.at_ T.o_Ward_le.fn (ok_Ward_le T) (hr.mono (by decide))) (pv 0) (pv 1) (nomark _))
      (pw_or1 (pt_cmpR (Own.op_cmp (C := He.ga K "Ward") (fun _ _ => rfl) T.o_Ward_le.at_ T.o_Ward_le.fn (ok_Ward_le T) (hr.mono (by decide))) (pv 1) (pv 0) (nomark _)))))) (pss_one (ps_ret pe_bl)) pss_nil)
    (pss_cons (ps_set (i := 4) sc_Ward_crosses.nd rfl (Or.inr rfl) (pe_lst (StX.pa_star (Own.pe_prop (p := He.ma K (He.ga K "Ward") "corners") (pv 0) (ok_Ward_corners T) (hr.mono (by decide))) (StX.pa_star (Own.pe_prop (p := He.ma K (He.ga K "Ward") "corners") (pv 1) (ok_Ward_corners T) (hr.mono (by decide))) pa_nil))))
    (pss_one (ps_ret (pe_not (p_b1 (cr_all rfl) bt_all T.n_all (pe_lc (own := [("corner", 3)]) (g := gName 3) (tt := tYes) rfl sc_Ward_crosses.nd (pi_tup (Own.pe_prop (p := He.ma K (He.ga K "Town") "corners") (pv 2) (ok_Town_corners T) (hr.mono (by decide)))) (blkOk_by (N := ["self", "other", "town", "corner", "both"]) (sc := defScope (mth 60 7)) (by decide +kernel)) (fun _ _ _ _ _ => pg_name (i := 3) sc_Ward_crosses.nd rfl (Or.inl rfl)) (fun _ _ _ _ _ => pts_nil)
        (fun _ _ _ _ _ => pe_cmpR (opB_in K) (pv 3) (pv 4) (by rfl))))))))))), ?_⟩
  have f1 := wy.few
  have f2 := wy.lt
  have f3 := wz.lt
  obtain ⟨a, dx, fs, e, h1, t, ef⟩ := w_ins hv
  obtain ⟨a2, dx2, fs2, e2, h2, t2, ef2⟩ := w_ins hu
  refine ⟨_, rfl, a, _, dx, fs, e, h1, T.c_Ward, T.m_Ward_need_ward, by subst ef; rfl, _, rfl, ⟨⟨_, _, zs, rfl, hu, ?_⟩⟩⟩
  refine ⟨_, rfl, a, _, dx, fs, e, h1, T.c_Ward, T.m_Ward_need_town, by subst ef; rfl, _, rfl, ⟨⟨_, _, ys, L, cs, rfl, hv, ho, nd, wy, fun H2 s2 => ?_⟩⟩⟩
  refine ⟨_, rfl, a2, _, dx2, fs2, e2, s2 _ _ h2, T.c_Ward, T.m_Ward_need_town, by subst ef2; rfl, _, rfl, ⟨⟨_, _, zs, L, cs, rfl, hu.same s2, ho.same s2, nd, wz, fun H3 s3 => ?_⟩⟩⟩
  have sA := s2.trans s3
  refine ⟨_, rfl, w_corners T (hv.same sA) fun t3 ht3 => ⟨t3, rfl, ⟨_, ht3⟩, fun D hD => ?_⟩⟩
  refine lc_bl (overT ht3) hD (by omega) (fun y => decide (y ∈ zs)) (fun c H4 K2 hc s4 k2 => ?_) (fun H4 s4 e4 => any_bl e4 ⟨_, rfl, ?_⟩)
  · exact ⟨rfl, _, rfl, _, rfl, w_corners T (hu.same (sA.trans s4)) fun t4 ht4 => inT ht4 (k2 _ (Same.refl _))⟩
  rw [List.any_map]
  have sB := sA.trans s4
  have c1 : crossB ys zs cs = ((ys.any fun y => decide (y ∈ zs)) && !(ys.all fun y => decide (y ∈ zs)) && !(zs.all fun y => decide (y ∈ ys)) && !(cs.all fun y => decide (y ∈ ys ++ zs))) := rfl
  show if (!(ys.any fun y => decide (y ∈ zs))) = true then _ else _
  cases b1 : (ys.any fun y => decide (y ∈ zs)) with
  | false =>
    rw [b1] at c1
    refine iteT (iteT ?_)
    have z := q H4 sB
    rw [c1] at z
    exact z
  | true =>
    refine iteF ?_
    obtain ⟨x1, g1, i1⟩ := w_isi hv
    obtain ⟨x2, g2, i2⟩ := w_isi hu
    have keepI : ∀ {H H' : Hp} {x C : Addr}, Own.IsI H x C → Same H H' → Own.IsI H' x C := fun ⟨d, f, h⟩ s => ⟨d, f, s _ _ h⟩
    refine ⟨_, rfl, _, rfl, x1, x2, g1, g2, keepI i1 sB, keepI i2 sB, ⟨⟨v, u, ys, zs, rfl, hv.same sB, hu.same sB, by omega, fun H5 s5 => ⟨_, rfl, ?_⟩⟩⟩⟩
    have sC := sB.trans s5
    cases b2 : (ys.all fun y => decide (y ∈ zs)) with
    | true =>
      rw [b1, b2] at c1
      refine iteT (iteT ?_)
      have z := q H5 sC
      rw [c1] at z
      exact z
    | false =>
      refine iteF ⟨_, rfl, _, rfl, x2, x1, g2, g1, keepI i2 sC, keepI i1 sC, ⟨⟨u, v, zs, ys, rfl, hu.same sC, hv.same sC, by omega, fun H6 s6 => ⟨_, rfl, ?_⟩⟩⟩⟩
      have sD := sC.trans s6
      cases b3 : (zs.all fun y => decide (y ∈ ys)) with
      | true =>
        rw [b1, b2, b3] at c1
        refine iteT ?_
        have z := q H6 sD
        rw [c1] at z
        exact z
      | false =>
        rw [b1, b2, b3] at c1
        refine iteF ?_
        refine ⟨_, rfl, w_corners T (hv.same sD) fun t3 ht3 => ⟨t3, _, rfl, .inl ht3, _, rfl, w_corners T (hu.same sD) fun t4 ht4 => ⟨t4, _, rfl, .inl ht4, by simp only [List.length_append, List.length_map, List.length_nil, sizeLine_eq]; omega, fun p hp => ?_⟩⟩⟩
        have e5 : ys.map V.str ++ (zs.map V.str ++ []) = (ys ++ zs).map V.str := by rw [List.append_nil, List.map_append]
        have sE := sD.trans (same_new (o := .lst (ys.map V.str ++ (zs.map V.str ++ []))) hp)
        refine ⟨_, rfl, t_corners T (ho.same sE) (by omega) fun t5 ks H7 s7 e7 wd => ⟨t5, rfl, ⟨_, .inl (.inl e7)⟩, fun D2 hD2 => ?_⟩⟩
        have hk := wd.len nd
        have hp7 : SqL K H7 p ((ys ++ zs).map V.str) := .inl (.inl (s7 _ _ (by rw [upd_same, e5])))
        refine lc_bl (overT (.inl (.inl e7))) hD2 (by omega) (fun y => decide (y ∈ ys ++ zs)) (fun c H8 K2 hc s8 k2 => ?_) (fun H8 s8 e8 => all_bl e8 ⟨_, rfl, ?_⟩)
        · exact ⟨rfl, _, rfl, _, rfl, inL (lx_l (lx s8) hp7) (k2 _ (Same.refl _))⟩
        · rw [List.all_map, show (ks.all (id ∘ fun y => decide (y ∈ ys ++ zs))) = cs.all fun y => decide (y ∈ ys ++ zs) from perm_all wd.mem]
          have z := q H8 ((sE.trans s7).trans s8)
          rw [c1] at z
          exact z
end
end Tx
/-! ## EnumT -/
/-! enumerate(tuple). -/
namespace EnT
open PySem PySem.Spec PyProof.Rows L2
open AutoSeq1 (wpAny_loadPart')
theorem meets_enumerate_newT (l : Addr) (items : Array Value) (n : Nat) (dct : Option Addr) (sl : Array (Option Value)) :
    Meets (Builtin.«enumerate.__new__» ⟨[.type "enumerate", .ref l], []⟩) (fun _ R s => s.heap.get? l = some { cls := .type "tuple", dict := dct, data := .seq items n, slots := sl } ∧
      R (.ok (.ret (.ref (s.heap.push { cls := .type "tuple_iterator", data := .fields #[.ref l, .int 0 0] }).objs.size)))
        { s with heap := (s.heap.push { cls := .type "tuple_iterator", data := .fields #[.ref l, .int 0 0] }).push { cls := .type "enumerate", data := .fields #[.none, .bool false, .ref s.heap.objs.size, rawInt 0, .none, .none] } }) :=
  .of_wp fun prog w A R s h => by
    obtain ⟨hp, g, d, tk, os⟩ := s; obtain ⟨hl, h⟩ := h
    have hsub := sub_enumerate
    have hL : Heap.IsTuple (Shared.heap ⟨hp, g, d, tk, os⟩) l items := ⟨_, hl, rfl, n, rfl⟩
    wp_walk using wpAny_loadPart' hl
    refine wpAny_stack_any fun st => wpAny_pure ?_
    split
    · rename_i c _ _ _ _ _
      cases (c == Value.type "enumerate")
      · wp_walk using wpAny_loadPart' hl, wpAny_pyIter_tuple hL
        exact ⟨_, rfl, h⟩
      · wp_walk using wpAny_loadPart' hl, wpAny_pyIter_tuple hL
        exact ⟨_, rfl, h⟩
    · wp_walk using wpAny_loadPart' hl, wpAny_pyIter_tuple hL
      exact ⟨_, rfl, h⟩
section
variable {prog : Program} {w : World} {A : Around} {E : Value → Shared → Prop} {s : Shared}
theorem call_enumerate_tuple {l : Addr} {items : Array Value} {Q : Value → Shared → Prop} (hL : s.heap.IsTuple l items)
    (h : ∀ h', IsEnum h' (s.heap.objs.size + 1) s.heap.objs.size 0 .none → h'.IsTupleIter s.heap.objs.size l 0 → h'.objs.size = s.heap.objs.size + 2 →
      (∀ b o, s.heap.get? b = some o → h'.get? b = some o) → Q (.ref (s.heap.objs.size + 1)) { s with heap := h' }) :
    wpAny (model prog w) A (call (.type "enumerate") [.ref l]) Q E s := by
  obtain ⟨⟨c, dct, dt, sl⟩, hl, hc, n, hd⟩ := hL
  replace hc : c = .type "tuple" := hc
  replace hd : dt = .seq items n := hd
  subst hc hd
  refine callType_new F.called_enumerate (by decide) (F.typeCall_enumerate_1 _) (F.newCall_enumerate_1 _) (fun obj => F.args_object_init_2 obj _) F.entry_enumerate_new
    (meets_enumerate_newT l items n dct sl) ⟨hl, ?_⟩
  have hz : (s.heap.push { cls := .type "tuple_iterator", data := .fields #[.ref l, .int 0 0] }).objs.size = s.heap.objs.size + 1 := Heap.size_push ..
  show _ ∧ _
  rw [hz]
  have he : IsEnum ((s.heap.push { cls := .type "tuple_iterator", data := .fields #[.ref l, .int 0 0] }).push
      { cls := .type "enumerate", data := .fields #[.none, .bool false, .ref s.heap.objs.size, rawInt 0, .none, .none] }) (s.heap.objs.size + 1) s.heap.objs.size 0 .none := by
    have := Heap.get?_push_size (s.heap.push { cls := .type "tuple_iterator", data := .fields #[.ref l, .int 0 0] })
      (o := { cls := .type "enumerate", data := .fields #[.none, .bool false, .ref s.heap.objs.size, rawInt 0, .none, .none] }) rfl
    rw [hz] at this; exact this
  refine ⟨⟨_, he, rfl⟩, h _ he ⟨_, Heap.get?_push_of_some _ (Heap.get?_push_size _ rfl), rfl, rfl⟩ (by rw [Heap.size_push, hz]) fun b o x => Heap.get?_push_of_some _ (Heap.get?_push_of_some _ x)⟩
end
/-- the tuple at a, each item in a new pair -/
def Itet (K : PySem.W.Frag) (a : Addr) : It :=
  ⟨fun i H => ∃ (xs : List V) (x : V), SqT K H a xs ∧ xs[i]? = some x, fun i H v H' => ∃ T x, v = .ref T ∧ H T = none ∧ H' = upd H T (.tup [.int (i : Nat), x]) ∧ ∀ xs, SqT K H a xs → xs[i]? = some x, fun i H => ∃ xs : List V, SqT K H a xs ∧ xs.length = i⟩
theorem turn_enumT {P : Program} {w : World} {K : PySem.W.Frag} {elts : List Expr} {kk : Nat} {tpos : Pos} (a e it : Addr) :
    Turn P w K (.Tuple elts kk tpos) (Itet K a) [e, it] e (fun i h => (∃ old, IsEnum h e it ((i : Nat) : Int) old) ∧ h.IsTupleIter it a i ∧ e ≠ it) where
  mem := by simp
  obj := fun i h st b hb => by
    obtain ⟨⟨old, he⟩, ⟨o, ho, hc, hd⟩, _⟩ := st
    have e' : b = e ∨ b = it := by simpa using hb
    rcases e' with z | z
    · rw [z]; exact ⟨_, he, fun v q => nomatch q⟩
    · rw [z]; exact ⟨o, ho, fun v q => by rw [hd] at q; cases q⟩
  keep := fun i h h' st k => let ⟨⟨old, he⟩, hi, hne⟩ := st; ⟨⟨old, k e (by simp) _ he⟩, hi.at fun o q => k it (by simp) o q, hne⟩
  item := by
    intro X hP hw hK hc i pins s σ H E I hf st hg
    subst hP hw hK
    obtain ⟨⟨old, he⟩, hit, hne⟩ := st
    obtain ⟨xs, x, hq, hx⟩ := hg
    obtain ⟨its, rv, p, hz⟩ := I.tuple hq
    obtain ⟨u, hu, ru⟩ := rv.get hx
    have hel : e < s.heap.objs.size := Heap.lt_size he
    have hil : it < s.heap.objs.size := by obtain ⟨_, q, _⟩ := hit; exact Heap.lt_size q
    have pt : s.heap.IsTuple a its.toArray := p
    have ai : a ≠ it := fun z => by
      obtain ⟨o1, h1, c1, _⟩ := pt
      obtain ⟨o2, h2, c2, _⟩ := hit
      rw [z, h2] at h1
      cases h1
      rw [c2] at c1
      exact absurd c1 (by decide)
    have ae : e ≠ a := fun z => by
      obtain ⟨o1, h1, c1, _⟩ := pt
      have he' : s.heap.get? e = some _ := he
      rw [z, h1] at he'
      cases he'
      exact absurd c1 (show ¬ (Value.type "enumerate" = Value.type "tuple") by decide)
    have hlt : i < its.toArray.size := by
      have := (List.getElem?_eq_some_iff.mp hu).1
      simpa using this
    refine wpAny_pyNext_enum_itemD (Draws.tuple (prog := X.prog) (w := X.w) (A := X.A.in1) (I.ok.hd hc) it a ai its.toArray) he ⟨hit, pt⟩ hlt hne (by simp only [List.mem_cons, List.not_mem_nil, or_false, not_or]; exact ⟨hne, ae⟩) fun x' h' tk hP ho hit' hT hsz hk => ?_
    have hxu : x' = u := by
      have : its[i]? = some x' := by simpa using hP
      rw [hu] at this
      exact (Option.some.inj this).symm
    subst hxu
    refine ⟨_, rfl, wpAny_letOwnedTupleGo_enum (s := { s with heap := h', toks := tk + 1 }) ho fun h'' he' sb => ?_⟩
    have hT2 : h''.get? s.heap.objs.size = some { cls := .type "tuple", data := .seq #[.int i tk, x'] } := (sb.2 _ (Nat.ne_of_gt hel)).trans hT
    have new : ObjOk X.prog X.w (upd H s.heap.objs.size (.tup [.int (i : Nat), x])) h'' s.heap.objs.size (.tup [.int (i : Nat), x]) :=
      ⟨by show 2 ≤ sizeLine; decide, [.int i tk, x'], .cons ⟨_, rfl⟩ (.cons ru .nil), ⟨_, hT2, rfl, _, rfl⟩⟩
    have I1 : Inv X pins σ (upd H s.heap.objs.size (.tup [.int (i : Nat), x])) { s with heap := h'', toks := tk + 1 } :=
      I.turnedNew (ch := [e, it]) (fun b ob hb q => (sb.2 b (fun z => hb (by simp [z]))).trans (hk b ob (fun z => hb (by simp [z])) (fun z => hb (by simp [z])) q)) hf (Nat.le_refl _) new
    refine ⟨.ref s.heap.objs.size, _, I1, rfl, ⟨_, x, rfl, I.hok.fresh (Nat.le_refl _), rfl, fun ys hy => by rw [I.tuple_inj hy hq]; exact hx⟩, ⟨⟨x', ?_⟩, hit'.1.at fun o q => (sb.2 it (Ne.symm hne)).trans q, hne⟩, fun b hb => ?_⟩
    · have e1 : ((i + 1 : Nat) : Int) = (i : Int) + 1 := by omega
      rw [e1]; exact he'
    · have hb' : b < s.heap.objs.size := by
        have e' : b = e ∨ b = it := by simpa using hb
        rcases e' with z | z
        · rw [z]; exact hel
        · rw [z]; exact hil
      rw [upd_ne (Nat.ne_of_lt hb')]
      exact (hf b hb).1
  done := by
    intro X hP hw hK hc i pins s σ H E I hf st hg
    subst hP hw hK
    obtain ⟨⟨old, he⟩, hit, hne⟩ := st
    obtain ⟨xs, hq, hx⟩ := hg
    obtain ⟨its, rv, p, hz⟩ := I.tuple hq
    obtain ⟨f0, f1, f2, f3, f4, f5⟩ := hf it (by simp)
    have hl := rv.length
    have pt : s.heap.IsTuple a its.toArray := p
    have ai : a ≠ it := fun z => by
      obtain ⟨o1, h1, c1, _⟩ := pt
      obtain ⟨o2, h2, c2, _⟩ := hit
      rw [z, h2] at h1
      cases h1
      rw [c2] at c1
      exact absurd c1 (by decide)
    have hn : its.toArray.size = i := by simp; omega
    refine wpAny_pyNext_enum_endD (Draws.tuple (prog := X.prog) (w := X.w) (A := X.A.in1) (I.ok.hd hc) it a ai its.toArray) he (by rw [hn]; exact ⟨hit, pt⟩) fun h' eb => ⟨rfl, I.turned (t' := s.toks) (fun b o hb q => eb b o hb q) f0 f1 f3 f4 f5⟩
  self := fun A i s Q E st h => let ⟨⟨_, he⟩, _⟩ := st; wpAny_pyIter_enum he h
def iEnumT (K : PySem.W.Frag) (ta : TA) : TI := fun σ H R => ta σ H fun vs H1 => ∃ a xs, vs = [.ref a] ∧ SqT K H1 a xs ∧ R (Itet K a) H1
theorem pi_enumT {X : Cx} {e : Expr} {ta : TA} {p pos tpos : Pos} {elts : List Expr} {kk : Nat} (hg : Gl X "enumerate") (hm : X.mg "enumerate" = none) (ha : PA X [e] ta) (hs : starEach [e] X.env = [(false, eval e X.env)] := by rfl) :
    PI X (.Tuple elts kk tpos) (.Call (.Name "enumerate" p) [e] [] pos) (iEnumT X.K ta) := by
  refine ⟨fun pins s σ H R I h => ?_⟩
  refine Call_ (ld_blt I hg hm boot_enumerate (PyProof.Rows.callWith_type1 (thn (ha.run pos pins s σ H _ I h) fun us s1 ⟨vs, H1, I1, r1, q1⟩ => ?_) hs rfl))
  obtain ⟨a, xs, ex, hq, q⟩ := q1
  subst ex
  cases r1 with
  | cons r rr =>
    cases rr
    cases r
    obtain ⟨its, rv, p', hz⟩ := I1.tuple hq
    refine call_enumerate_tuple (show s1.heap.IsTuple a its.toArray from p') fun h' he hit hsz hk => wpAny_pyIter_enum he ?_
    have I2 : Inv X pins σ H1 { s1 with heap := h' } := I1.kept (t' := s1.toks) hk
    refine ⟨s1.heap.objs.size + 1, [s1.heap.objs.size + 1, s1.heap.objs.size], _, _, H1, rfl, I2, turn_enumT a (s1.heap.objs.size + 1) s1.heap.objs.size, ⟨⟨.none, he⟩, hit, Nat.succ_ne_self _⟩, fun b hb => ?_, q⟩
    have e' : b = s1.heap.objs.size + 1 ∨ b = s1.heap.objs.size := by simpa using hb
    have hle : s1.heap.objs.size ≤ b := by
      rcases e' with z | z
      · rw [z]; exact Nat.le_add_right _ _
      · rw [z]; exact Nat.le_refl _
    exact I1.fpOk hle (I1.hok.fresh hle)
end EnT
/-! ## BlkG -/
/-! More rules with the written part told; generator defs. -/
namespace Tx
open PySem PySem.Spec PyProof.Rows L2
section
variable {X : Cx} (K : PySem.W.Frag)
abbrev rLenS (K : PySem.W.Frag) : List V → Hp → VK → Prop := fun xs H Q => ∃ p ys, xs = [V.ref p] ∧ (SqL K H p ys ∨ SqT K H p ys) ∧ Q (.int ys.length) H
theorem lenB (hK : X.K = K := by rfl) : CallR X (.builtin "len") (rLenS K) := by
  subst hK
  exact call_len_seq
theorem slTB (hK : X.K = K := by rfl) : SlR X (rSlA K) := by
  subst hK
  exact sl_tupA
theorem enumB {e : Expr} {ta : TA} {p pos tpos : Pos} {elts : List Expr} {kk : Nat} (hg : Gl X "enumerate") (hm : X.mg "enumerate" = none) (ha : PA X [e] ta) (hs : starEach [e] X.env = [(false, eval e X.env)] := by rfl) (hK : X.K = K := by rfl) :
    PI X (.Tuple elts kk tpos) (.Call (.Name "enumerate" p) [e] [] pos) (EnT.iEnumT K ta) := by
  subst hK
  exact EnT.pi_enumT hg hm ha hs
theorem gtupB {es : List Expr} {k : Nat} {t : TGs} {n : Nat} {pos : Pos} (hc : X.calm = true) (h : PGs X es t)
    (hn : (assignEach es X.env).length = n := by rfl) (hst : (assignEach es X.env).findIdx? (·.1) = none := by rfl) (hK : X.K = K := by rfl) : PG X (.Tuple es k pos) (gTup K n t) := by
  subst hK
  exact pg_tup hc h hn hst
theorem starB {e : Expr} {es : List Expr} {p : Pos} {te : TE} {t : TA} (he : PE X e te) (hr : PA X es t) (hs : starEach (.Starred e p :: es) X.env = (true, eval e X.env) :: starEach es X.env := by rfl) (hK : X.K = K := by rfl) : PA X (.Starred e p :: es) (StX.tStar K te t) := by
  subst hK
  exact StX.pa_star he hr hs
theorem mkSB {k : Nat} {C f : Addr} {sp : Sp} {x : Str} {e : Expr} {te : TE} {p p2 pos : Pos} (M : Mk X.K C f) (F : Own.FR X k f sp) (hr : Room (k + 1) X.A) (hm : X.mg x = some (.ref C)) (ha : PE X e te) (hg : Gl X x := by rfl) (hdb : (x == ("__debug__" : Str)) = false := by decide)
    (hst : starEach [.Starred e p2] X.env = [(true, eval e X.env)] := by rfl) (hK : X.K = K := by rfl) : PE X (.Call (.Name x p) [.Starred e p2] [] pos) (tMkS K C sp te) := by
  subst hK
  exact p_mkS M F hr hm ha hg hdb hst
end
open GFor
/-- a generator def -/
def Gn (w : World) (K : PySem.W.Frag) (mg : Str → Option Value) (base : Heap) (k : Nat) (f : Addr) (ps : List Str) (sp : SpF) : Prop := ∃ fd, GFnF PG0 w K mg base k f fd ps sp ∧ Binds K fd ps []
section
variable {w : World} {K : PySem.W.Frag} {mg : Str → Option Value} {base : Heap} {k : Nat} {f : Addr} {x qual : Str} {params : Arguments} {body : List Stmt} {scope : Scope} {N ps : List Str} {sp : SpF}
theorem genR (F : ∃ fd, FunD K x qual params body scope [] [] f fd) (S : GScope N ps scope) (hnc : ∀ n, cellsFrom n scope.names [] = [])
    (hb : ∀ (kV doc pm : Value) (an : Option Addr) (cdv ct : Value) (us : List Value), us.length = ps.length → bindArgs (PySem.W.fnOf x qual params body scope .none kV doc pm an cdv ct) ⟨us, []⟩ = pure (ps.zip us))
    (len : ∀ vs H N It, sp vs H N It → vs.length = ps.length)
    (hbody : ∀ (cdv : Value) (A : Around) (outer : List Env) (s : Shared) (H : Hp) (vs : List V) (n : Nat) (It : Its) (pn : List (Addr × Obj)), Room k (A.deeper (envOfC qual scope s.heap.objs.size f cdv)) → sp vs H n It →
      ∃ t, GSs true (xOf PG0 w K mg base N qual scope f cdv A outer s H pn) body t ∧ ∀ H2, Same H H2 → t { N := n, It := It, nx := fun i _ _ => i = n, rt := fun i _ => i = n } 0 (start N vs) H2) : Gn w K mg base (k + 1) f ps sp := by
  obtain ⟨fd, F⟩ := F
  have B := F.bindsN hb
  obtain ⟨oc, od, dV, kV, doc, pm, an, cdv, ct, osl, rfl, lk, hcd, hD, hK⟩ := F.ex
  exact ⟨_, gfnF_of lk hcd S hnc len fun A outer s H vs n It pn hr h => hbody cdv A outer s H vs n It pn hr h, B⟩
theorem Gn.mono {j : Nat} (h : Gn w K mg base k f ps sp) (hj : k ≤ j) : Gn w K mg base j f ps sp := by
  obtain ⟨fd, G, B⟩ := h
  refine ⟨fd, ⟨G.len, fun A outer s H args us vs N It hr e0 hb r hsp => codeAny_mono (G.run A outer s H args us vs N It (hr.mono hj) e0 hb r hsp) fun r s' q => ?_⟩, B⟩
  cases r with
  | error e => exact q
  | ok fl =>
    cases fl with
    | ret u =>
      obtain ⟨q1, q2, q3, a, g, c, q4, q5, q6, q7, q8, q9, q10, q11, wk⟩ := q
      exact ⟨q1, q2, q3, a, g, c, q4, q5, q6, q7, q8, q9, q10, q11, fun A Ss s2 H2 hr => wk A Ss s2 H2 (hr.mono hj)⟩
    | next => exact q
    | brk => exact q
    | cont => exact q
end
/-- the walk of enumerate(tuple) in a generator -/
theorem for_enT {K : PySem.W.Frag} {a : Addr} {xs : List V} {g : L2.TG} {tb : GFor.TGn} {D : GFor.GEnds} {i0 : Nat} {σ : L2.St} {H : Hp} (P : Nat → Nat → L2.St → Hp → Prop) (h0 : P 0 i0 σ H) (hq : ∀ j i σ H, P j i σ H → SqT K H a xs)
    (hs : ∀ j i σ H T x, P j i σ H → xs[j]? = some x → H T = none → g (.ref T) σ (upd H T (.tup [.int (j : Nat), x])) fun σ2 H2 => Same (upd H T (.tup [.int (j : Nat), x])) H2 ∧ tb { D with nx := P (j + 1), ct := P (j + 1), bk := D.nx } i σ2 H2)
    (hd : ∀ i σ H, P xs.length i σ H → D.nx i σ H) :
    ∃ W : Nat → Nat → Nat → L2.St → Hp → Prop, (∃ m, W 0 m i0 σ H) ∧ ∀ j m i σ H, W j m i σ H →
      ((EnT.Itet K a).stop j H ∧ D.nx i σ H) ∨ ((EnT.Itet K a).go j H ∧ ∃ N : Nat → L2.St → Hp → Prop, (∀ i' σ' H', N i' σ' H' → ∃ m', m' < m ∧ W (j + 1) m' i' σ' H') ∧
        ∀ x H', (EnT.Itet K a).yld j H x H' → Same H H' ∧ g x σ H' fun σ2 H2 => Same H' H2 ∧ tb { D with nx := N, ct := N, bk := D.nx } i σ2 H2) := by
  refine ⟨fun j m i σ H => m = xs.length - j ∧ j ≤ xs.length ∧ P j i σ H, ⟨xs.length, rfl, Nat.zero_le _, h0⟩, ?_⟩
  rintro j m i σ H ⟨rfl, hj, p⟩
  have q := hq _ _ _ _ p
  by_cases hlt : j < xs.length
  · refine .inr ⟨⟨xs, xs[j], q, List.getElem?_eq_getElem hlt⟩, P (j + 1), fun i' σ' H' p' => ⟨xs.length - (j + 1), by omega, rfl, hlt, p'⟩, fun x H' y => ?_⟩
    obtain ⟨T, z, rfl, hT, rfl, hx⟩ := y
    exact ⟨same_new hT, hs j i σ H T z p (hx xs q) hT⟩
  · obtain rfl : j = xs.length := by omega
    exact .inl ⟨⟨xs, q, rfl⟩, hd i σ H p⟩
end Tx
/-! ## DPicks -/
namespace Tx
open PySem PySem.Spec PyProof.Rows L2
/-- the lists of m of l, in order -/
def goC (f : List Str → List (List Str)) : List Str → List (List Str)
  | [] => []
  | a :: r => (f r).map (a :: ·) ++ goC f r
def combs : Nat → List Str → List (List Str)
  | 0 => fun _ => [[]]
  | m + 1 => goC (combs m)
theorem combs_nil : ∀ {m : Nat} {l : List Str}, l.length < m → combs m l = []
  | 0, _, h => by omega
  | m + 1, [], _ => rfl
  | m + 1, a :: r, h => by
    show (combs m r).map (a :: ·) ++ combs (m + 1) r = []
    rw [combs_nil (m := m) (l := r) (by simpa using h), combs_nil (m := m + 1) (l := r) (by simp at h; omega)]
    rfl
theorem combs_drop {m j : Nat} {l : List Str} {a : Str} (h : l[j]? = some a) : combs (m + 1) (l.drop j) = (combs m (l.drop (j + 1))).map (a :: ·) ++ combs (m + 1) (l.drop (j + 1)) := by
  have hj := (List.getElem?_eq_some_iff.mp h).1
  have e : l.drop j = a :: l.drop (j + 1) := by
    rw [List.drop_eq_getElem_cons hj]
    congr 1
    rw [List.getElem?_eq_getElem hj] at h
    exact Option.some.inj h
  rw [e]
  rfl
theorem combs_len : ∀ {m : Nat} {l c : List Str}, c ∈ combs m l → c.length = m
  | 0, _, c, h => by
    have : c ∈ [([] : List Str)] := h
    rw [List.mem_singleton.mp this]; rfl
  | m + 1, [], c, h => by cases h
  | m + 1, a :: r, c, h => by
    have h : c ∈ (combs m r).map (a :: ·) ++ combs (m + 1) r := h
    rcases List.mem_append.mp h with h | h
    · obtain ⟨d, hd, rfl⟩ := List.mem_map.mp h
      simp [combs_len hd]
    · exact combs_len h
section
variable {K : PySem.W.Frag} {H : Hp} {a : Addr} {xs : List V} {v : Int} {Q : VK}
theorem sIx_pos {n d : Nat} {v : Int} (h : 0 ≤ v) : HT.sIx n d (some v) = min v.toNat n := by
  show (if v < 0 then (v + (n : Int)).toNat else min v.toNat n) = _
  rw [if_neg (by omega)]
theorem sl_to (h : SqT K H a xs) (hv : 0 ≤ v) (q : ∀ a' H', Same H H' → SqT K H' a' (xs.take v.toNat) → Q (.ref a') H') : rSlA K (.ref a) none (some v) H Q := by
  refine ⟨a, xs, rfl, h, fun hw => q a H (Same.refl _) ?_, fun _ p hp => q p _ (same_new hp) (.inl (.inl ?_))⟩
  · have := hw.2
    rw [sIx_pos hv] at this
    rw [List.take_of_length_le (by omega)]
    exact h
  · rw [upd_same]
    unfold cutV
    rw [sIx_pos hv, HT.sIx_none, List.drop_zero, Nat.sub_zero]
    congr 2
    rcases Nat.le_total v.toNat xs.length with z | z
    · rw [Nat.min_eq_left z]
    · rw [Nat.min_eq_right z, List.take_of_length_le (Nat.le_refl _), List.take_of_length_le z]
theorem sl_from (h : SqT K H a xs) (hv : 0 ≤ v) (q : ∀ a' H', Same H H' → SqT K H' a' (xs.drop v.toNat) → Q (.ref a') H') : rSlA K (.ref a) (some v) none H Q := by
  refine ⟨a, xs, rfl, h, fun hw => q a H (Same.refl _) ?_, fun _ p hp => q p _ (same_new hp) (.inl (.inl ?_))⟩
  · have := hw.1
    rw [sIx_pos hv] at this
    rcases Nat.eq_zero_or_pos xs.length with z | z
    · rw [List.length_eq_zero_iff.mp z] at h ⊢
      simpa using h
    · rw [show v.toNat = 0 by omega]
      exact h
  · rw [upd_same]
    unfold cutV
    rw [sIx_pos hv, HT.sIx_none]
    congr 2
    rcases Nat.le_total v.toNat xs.length with z | z
    · rw [Nat.min_eq_left z, List.take_of_length_le (by rw [List.length_drop]; omega)]
    · rw [Nat.min_eq_right z, List.drop_of_length_le (Nat.le_refl _), List.drop_of_length_le z]
      simp
theorem sl_fromN {σ : L2.St} (h : SqT K H a xs) (hv : 0 ≤ v) (q : ∀ a' H', Same H H' → SqT K H' a' (xs.drop v.toNat) → Q (.ref a') H') : tNoPart σ H (fun u H3 => rSlA K (.ref a) (some v) u H3 Q) := sl_from h hv q
end
open GFor
abbrev ItC (K : PySem.W.Frag) (cl : List (List Str)) : GFor.Its := fun j x H' => ∃ p c, x = .ref p ∧ cl[j]? = some c ∧ SqT K H' p (c.map V.str)
def spPk (K : PySem.W.Frag) (M : Nat) : GFor.SpF := fun vs H N It => ∃ t l m, vs = [.ref t, .int (m : Nat)] ∧ SqT K H t (l.map V.str) ∧ m ≤ M ∧ m ≤ l.length ∧ l.length < 60 ∧ N = (combs m l).length ∧ It = ItC K (combs m l)
section
variable {w : World} {K : PySem.W.Frag} {mg : Str → Option Value} {base : Heap} (T : Txt K mg)
theorem sc_picks : GScope ["names", "many", "at", "name", "rest"] ["names", "many"] (defScope (top 63)) := ⟨rfl, rfl, rfl, by decide +kernel, rfl, by decide +kernel, by decide +kernel⟩
theorem nc_picks : ∀ n, cellsFrom n (defScope (top 63)).names [] = [] := fun n => rfl
include T in
theorem pk_zero {k : Nat} {cdv : Value} {A : Around} {outer : List Env} {s : Shared} {H : Hp} {pn : List (Addr × Obj)} {t : Addr} {l : List Str} (ht : SqT K H t (l.map V.str)) (hl : l.length < 60) :
    ∃ tr, GSs true (xOf PG0 w K mg base ["names", "many", "at", "name", "rest"] "picks" (defScope (top 63)) (He.ga K "picks") cdv A outer s H pn) (defBody (top 63)) tr ∧
      ∀ H2, Same H H2 → tr { N := (combs 0 l).length, It := ItC K (combs 0 l), nx := fun i _ _ => i = (combs 0 l).length, rt := fun i _ => i = (combs 0 l).length } 0 (start ["names", "many", "at", "name", "rest"] [.ref t, .int ((0 : Nat) : Int)]) H2 := by
  refine ⟨_, gss_cons (gs_if (fun _ _ => pt_cmpR op_eq (pv 1) pe_int (nomark _)) (gss_one (gs_yield (fun _ _ => pe_tup pa_nil))) gss_nil)
    (gss_one (gs_for rfl (fun _ _ => enumB K (by rfl) T.n_enumerate (pa_cons (pe_slice (slTB K) (pv 0) po_none (po_some (pe_add (pe_sub (p_b1 (lenB K) bt_len T.n_len (pv 0)) (pv 1)) pe_int))) pa_nil)) (fun _ _ => gtupB (n := 2) K rfl (pgs_cons (pg_name (i := 2) sc_picks.nd rfl (Or.inl rfl)) (pgs_cons (pg_name (i := 3) sc_picks.nd rfl (Or.inl rfl)) pgs_nil)))
      (gss_one (gs_if (fun _ _ => pt_cmpR op_gt (pv 1) pe_int (nomark _)) gss_never gss_nil)))), fun H2 s2 => ?_⟩
  have ht2 := lx_t (lx s2) ht
  refine ⟨_, rfl, rfl, _, rfl, Same.refl _, ?_⟩
  rw [decide_eq_true (show V.int ((0 : Nat) : Int) = V.int 0 from rfl)]
  refine iteT ⟨by decide, fun p hp => ⟨by show 0 < 1; decide, same_new hp, ⟨p, [], rfl, rfl, .inl (.inl upd_same)⟩, fun H3 s3 => ?_⟩⟩
  have s4 := (same_new (o := .tup []) hp).trans s3
  have ht3 := lx_t (lx s4) ht2
  refine ⟨_, rfl, _, rfl, ⟨⟨t, _, rfl, .inr ht3, _, rfl, _, _, rfl, rfl, _, _, rfl, rfl, _, rfl, ?_⟩⟩⟩
  refine sl_to ht3 (by rw [List.length_map]; omega) fun a' H4 s5 ht4 => ⟨a', _, rfl, ht4, s5, ?_⟩
  refine for_enT (fun j i σ H => Same H4 H ∧ i = 1 ∧ ∃ u v, σ = [some (.ref t), some (.int ((0 : Nat) : Int)), u, v, none]) ⟨Same.refl _, rfl, _, _, rfl⟩ (fun j i σ H p => lx_t (lx p.1) ht4) (fun j i σ H T' x p hx hT => ?_) (fun i σ H p => p.2.1)
  obtain ⟨s6, rfl, u, v, rfl⟩ := p
  refine ⟨T', _, rfl, .inl (.inl upd_same), rfl, _, _, rfl, _, _, rfl, rfl, Same.refl _, ?_⟩
  refine ⟨_, rfl, _, _, rfl, rfl, _, rfl, Same.refl _, ?_⟩
  rw [decide_eq_false (by decide)]
  exact iteF ⟨s6.trans (same_new hT), rfl, _, _, rfl⟩
include T in
theorem ok_picks : ∀ M : Nat, Gn w K mg base (2 * M + 2) (He.ga K "picks") ["names", "many"] (spPk K M) := by
  intro M
  induction M with
  | zero =>
    refine genR T.f_picks sc_picks nc_picks (fun _ _ _ _ _ _ us hl => match us, hl with | [_, _], _ => rfl) (fun vs H N It h => ?_) (fun cdv A outer s H vs n It pn hr h => ?_)
    · obtain ⟨t, l, m, rfl, _⟩ := h; rfl
    obtain ⟨t, l, m, rfl, ht, hm, hml, hl, rfl, rfl⟩ := h
    obtain rfl : m = 0 := by omega
    exact pk_zero T (k := 0) ht hl
  | succ M ih =>
    obtain ⟨fdI, GI, BI⟩ := ih
    refine genR T.f_picks sc_picks nc_picks (fun _ _ _ _ _ _ us hl => match us, hl with | [_, _], _ => rfl) (fun vs H N It h => ?_) (fun cdv A outer s H vs n It pn hr h => ?_)
    · obtain ⟨t, l, m, rfl, _⟩ := h; rfl
    obtain ⟨t, l, m, rfl, ht, hm, hml, hl, rfl, rfl⟩ := h
    cases m with
    | zero => exact pk_zero T (k := 0) ht hl
    | succ m =>
    refine ⟨_, gss_cons (gs_if (fun _ _ => pt_cmpR op_eq (pv 1) pe_int (nomark _)) (gss_one (gs_yield (fun _ _ => pe_tup pa_nil))) gss_nil)
      (gss_one (gs_for rfl (fun _ _ => enumB K (by rfl) T.n_enumerate (pa_cons (pe_slice (slTB K) (pv 0) po_none (po_some (pe_add (pe_sub (p_b1 (lenB K) bt_len T.n_len (pv 0)) (pv 1)) pe_int))) pa_nil)) (fun _ _ => gtupB (n := 2) K rfl (pgs_cons (pg_name (i := 2) sc_picks.nd rfl (Or.inl rfl)) (pgs_cons (pg_name (i := 3) sc_picks.nd rfl (Or.inl rfl)) pgs_nil)))
        (gss_one (gs_if (fun _ _ => pt_cmpR op_gt (pv 1) pe_int (nomark _))
          (gss_one (gs_forG rfl hr (fun _ _ => pgenF_call (dvs := []) GI (hr.mono (by omega)) (by rfl) T.g_picks T.k_picks BI .nil (pa_cons (pe_slice (slTB K) (pv 0) (po_some (pe_add (pv 2) pe_int)) po_none) (pa_cons (pe_sub (pv 1) pe_int) pa_nil)))
            (fun _ _ => pg_name (i := 4) sc_picks.nd rfl (Or.inl rfl)) (gss_one (gs_yield (fun _ _ => pe_tup (pa_cons (pv 3) (starB K (pv 4) pa_nil)))))))
          gss_nil)))), fun H2 s2 => ?_⟩
    have ht2 := lx_t (lx s2) ht
    refine ⟨_, rfl, rfl, _, rfl, Same.refl _, ?_⟩
    rw [decide_eq_false (by intro z; injection z with z; omega)]
    refine iteF ?_
    refine ⟨_, rfl, _, rfl, ⟨⟨t, _, rfl, .inr ht2, _, rfl, _, _, rfl, rfl, _, _, rfl, rfl, _, rfl, ?_⟩⟩⟩
    refine sl_to ht2 (by rw [List.length_map]; omega) fun a' H4 s5 ht4 => ⟨a', _, rfl, ht4, s5, ?_⟩
    have e0 : (((l.map V.str).length : Nat) : Int) - ((m + 1 : Nat) : Int) + 1 = ((l.length - m : Nat) : Int) := by rw [List.length_map]; omega
    rw [e0, Int.toNat_natCast] at ht4
    have hlen : ((l.map V.str).take (l.length - m)).length = l.length - m := by rw [List.length_take, List.length_map]; omega
    refine for_enT (xs := (l.map V.str).take (l.length - m)) (fun j i σ H => Same H4 H ∧ (∃ dn, combs (m + 1) l = dn ++ combs (m + 1) (l.drop j) ∧ dn.length = i) ∧ ∃ u v y, σ = [some (.ref t), some (.int ((m + 1 : Nat) : Int)), u, v, y])
      ⟨Same.refl _, ⟨[], rfl, rfl⟩, _, _, _, rfl⟩ (fun j i σ H p => lx_t (lx p.1) ht4) (fun j i σ H T' x p hx hT => ?_) (fun i σ H p => ?_)
    · obtain ⟨s6, ⟨dn, hdn, hdl⟩, u, v, y, rfl⟩ := p
      obtain ⟨a, ha, rfl⟩ : ∃ a, l[j]? = some a ∧ x = .str a := by
        have hj := (List.getElem?_eq_some_iff.mp hx).1
        rw [hlen] at hj
        rw [List.getElem?_take_of_lt hj, List.getElem?_map] at hx
        obtain ⟨a, h1, h2⟩ := Option.map_eq_some_iff.mp hx
        exact ⟨a, h1, h2.symm⟩
      have hjl : j < l.length - m := by have := (List.getElem?_eq_some_iff.mp hx).1; rw [hlen] at this; exact this
      have s7 := s6.trans (same_new (o := .tup [.int (j : Nat), .str a]) hT)
      have ht7 : SqT K (upd H T' (.tup [.int (j : Nat), .str a])) t (l.map V.str) := lx_t (lx (s5.trans s7)) ht2
      refine ⟨T', _, rfl, .inl (.inl upd_same), rfl, _, _, rfl, _, _, rfl, rfl, Same.refl _, ?_⟩
      refine ⟨_, rfl, _, _, rfl, rfl, _, rfl, Same.refl _, ?_⟩
      rw [decide_eq_true (by omega)]
      refine iteT ⟨_, rfl, _, rfl, _, _, rfl, rfl, _, rfl, ?_⟩
      refine sl_fromN ht7 (by omega) fun a2 H8 s8 ht8 => ⟨_, rfl, _, _, rfl, rfl, ?_⟩
      have e1 : ((j : Nat) : Int) + 1 = ((j + 1 : Nat) : Int) := by omega
      rw [e1, Int.toNat_natCast, ← List.map_drop] at ht8
      have e2 : ((m + 1 : Nat) : Int) - 1 = ((m : Nat) : Int) := by omega
      have hdrop := combs_drop (m := m) ha
      refine ⟨(combs m (l.drop (j + 1))).length, ItC K (combs m (l.drop (j + 1))), ⟨a2, l.drop (j + 1), m, by rw [e2]; rfl, ht8, by omega, by rw [List.length_drop]; omega, by rw [List.length_drop]; omega, rfl, rfl⟩, s8, ?_⟩
      refine ⟨fun k i' σ' Hw => Same H8 Hw ∧ i' = i + k ∧ ∃ y, σ' = [some (.ref t), some (.int ((m + 1 : Nat) : Int)), some (.int (j : Nat)), some (.str a), y], ⟨Same.refl _, rfl, _, rfl⟩, fun i' σ' Hw H9 p s9 => ?_, fun k i' σ' Hw H9 x p1 p2 s9 it => ?_⟩
      · obtain ⟨s10, rfl, y', rfl⟩ := p
        refine ⟨((s7.trans s8).trans s10).trans s9, ⟨dn ++ (combs m (l.drop (j + 1))).map (a :: ·), ?_, ?_⟩, _, _, _, rfl⟩
        · rw [hdn, hdrop, List.append_assoc]
        · rw [List.length_append, List.length_map, hdl]
      · obtain ⟨s10, rfl, y', rfl⟩ := p2
        obtain ⟨p, c, rfl, hc, hp⟩ := it
        have hcl := combs_len (List.mem_of_getElem? hc)
        have hge : (combs (m + 1) l)[i + k]? = some (a :: c) := by
          rw [hdn, hdrop, List.getElem?_append_right (by omega), hdl, List.getElem?_append_left (by rw [List.length_map]; omega), List.getElem?_map]
          rw [show i + k - i = k by omega, hc]
          rfl
        refine ⟨Same.refl _, _, rfl, _, rfl, p, _, rfl, .inl hp, ?_, fun q hq => ⟨(List.getElem?_eq_some_iff.mp hge).1, same_new hq, ⟨q, a :: c, rfl, hge, .inl (.inl ?_)⟩, fun H' s' => ⟨(same_new hq).trans s', ((s10.trans s9).trans (same_new hq)).trans s', by omega, _, rfl⟩⟩⟩
        · simp only [List.length_cons, List.length_append, List.length_map, List.length_nil, sizeLine_eq]
          omega
        · rw [upd_same, List.append_nil]; rfl
    · obtain ⟨s6, ⟨dn, hdn, hdl⟩, _⟩ := p
      have hz : combs (m + 1) (l.drop (l.length - m)) = [] := combs_nil (by rw [List.length_drop]; omega)
      rw [hlen, hz, List.append_nil] at hdn
      show i = (combs (m + 1) l).length
      rw [hdn, hdl]
end
end Tx
/-! ## DWards -/
namespace Tx
open PySem PySem.Spec PyProof.Rows L2
theorem combs_sub : ∀ {m : Nat} {l c : List Str}, c ∈ combs m l → c.Sublist l
  | 0, l, c, h => by
    have : c ∈ [([] : List Str)] := h
    rw [List.mem_singleton.mp this]
    exact List.nil_sublist _
  | m + 1, [], c, h => by cases h
  | m + 1, a :: r, c, h => by
    have h : c ∈ (combs m r).map (a :: ·) ++ combs (m + 1) r := h
    rcases List.mem_append.mp h with h | h
    · obtain ⟨d, hd, rfl⟩ := List.mem_map.mp h
      exact (combs_sub hd).cons_cons a
    · exact (combs_sub h).cons a
theorem combs_mem : ∀ {l c : List Str}, c.Sublist l → c ∈ combs c.length l
  | _, _, .slnil => List.mem_singleton.mpr rfl
  | a :: r, c, .cons _ h => by
    have ih := combs_mem h
    cases c with
    | nil => exact List.mem_singleton.mpr rfl
    | cons b d => exact List.mem_append_right _ ih
  | a :: r, _ :: d, .cons_cons _ h => by
    refine List.mem_append_left _ ?_
    exact List.mem_map.mpr ⟨d, combs_mem h, rfl⟩
/-- the wards' corners, in order -/
def wardsL (ys : List Str) : List (List Str) := (List.range (ys.length - 1)).flatMap fun i => combs (i + 1) ys
theorem wards_mem {ys c : List Str} : c ∈ wardsL ys ↔ c.Sublist ys ∧ 1 ≤ c.length ∧ c.length < ys.length := by
  unfold wardsL
  rw [List.mem_flatMap]
  constructor
  · rintro ⟨i, hi, hc⟩
    rw [List.mem_range] at hi
    have := combs_len hc
    exact ⟨combs_sub hc, by omega, by omega⟩
  · rintro ⟨h1, h2, h3⟩
    refine ⟨c.length - 1, List.mem_range.mpr (by omega), ?_⟩
    rw [show c.length - 1 + 1 = c.length by omega]
    exact combs_mem h1
theorem gfor_any {J : It} {n : Nat} {g : L2.TG} {tb : GFor.TGn} {D : GFor.GEnds} {i0 : Nat} {σ : L2.St} {H : Hp} (P : Nat → Nat → L2.St → Hp → Prop) (h0 : P 0 i0 σ H) (go : ∀ j i σ H, j < n → P j i σ H → J.go j H) (st : ∀ i σ H, P n i σ H → J.stop n H)
    (hs : ∀ j i σ H x H', j < n → P j i σ H → J.yld j H x H' → Same H H' ∧ g x σ H' fun σ2 H2 => Same H' H2 ∧ tb { D with nx := P (j + 1), ct := P (j + 1), bk := D.nx } i σ2 H2)
    (hd : ∀ i σ H, P n i σ H → D.nx i σ H) :
    ∃ W : Nat → Nat → Nat → L2.St → Hp → Prop, (∃ m, W 0 m i0 σ H) ∧ ∀ j m i σ H, W j m i σ H →
      (J.stop j H ∧ D.nx i σ H) ∨ (J.go j H ∧ ∃ N : Nat → L2.St → Hp → Prop, (∀ i' σ' H', N i' σ' H' → ∃ m', m' < m ∧ W (j + 1) m' i' σ' H') ∧
        ∀ x H', J.yld j H x H' → Same H H' ∧ g x σ H' fun σ2 H2 => Same H' H2 ∧ tb { D with nx := N, ct := N, bk := D.nx } i σ2 H2) := by
  refine ⟨fun j m i σ H => m = n - j ∧ j ≤ n ∧ P j i σ H, ⟨n, rfl, Nat.zero_le _, h0⟩, ?_⟩
  rintro j m i σ H ⟨rfl, hj, p⟩
  by_cases hlt : j < n
  · exact .inr ⟨go j i σ H hlt p, P (j + 1), fun i' σ' H' p' => ⟨n - (j + 1), by omega, rfl, hlt, p'⟩, fun x H' y => hs j i σ H x H' hlt p y⟩
  · obtain rfl : j = n := by omega
    exact .inl ⟨st i σ H p, hd i σ H p⟩
theorem Wd.self {cs ys c : List Str} (h : Wd cs ys) (s : c.Sublist ys) : Wd c c := ⟨sorted_sub h.so s, h.nd.sublist s, fun _ => Iff.rfl⟩
open GFor
abbrev ItW (K : PySem.W.Frag) (cl : List (List Str)) : GFor.Its := fun j x H' => ∃ c, cl[j]? = some c ∧ IsW K H' x c
def spWards (K : PySem.W.Frag) : GFor.SpF := fun vs H N It => ∃ v L cs ys, vs = [v] ∧ IsT K H v L cs ∧ cs.length ≤ 7 ∧ (∀ c ∈ cs, nameB c = true) ∧ cs.Nodup ∧ Wd cs ys ∧ N = (wardsL ys).length ∧ It = ItW K (wardsL ys)
section
variable {w : World} {K : PySem.W.Frag} {mg : Str → Option Value} {base : Heap} (T : Txt K mg)
theorem sc_Town_wards : GScope ["self", "names", "many", "corners"] ["self"] (defScope (mth 64 25)) := ⟨rfl, rfl, rfl, by decide +kernel, rfl, by decide +kernel, by decide +kernel⟩
include T in
theorem ok_Town_wards : Gn w K mg base 16 (He.ma K (He.ga K "Town") "wards") ["self"] (spWards K) := by
  obtain ⟨fdI, GI, BI⟩ := ok_picks (w := w) (base := base) T 6
  refine genR T.f_Town_wards sc_Town_wards (fun n => rfl) (fun _ _ _ _ _ _ us hl => match us, hl with | [_], _ => rfl) (fun vs H N It h => ?_) (fun cdv A outer s H vs n It pn hr h => ?_)
  · obtain ⟨v, L, cs, ys, rfl, _⟩ := h; rfl
  obtain ⟨v, L, cs, ys, rfl, hv, hfew, hnm, hnd, wd, rfl, rfl⟩ := h
  refine ⟨_, gss_cons (gs_ps (fun _ _ => ps_set (i := 1) sc_Town_wards.nd rfl (Or.inl rfl) (propB K (p := He.ma K (He.ga K "Town") "corners") (pv 0) (ok_Town_corners T) (hr.mono (by decide)))))
    (gss_one (gs_for rfl (fun _ _ => pi_range2 (by rfl) T.n_range (pa_cons pe_int (pa_cons (p_b1 (lenB K) bt_len T.n_len (pv 1)) pa_nil))) (fun _ _ => pg_name (i := 2) sc_Town_wards.nd rfl (Or.inl rfl))
      (gss_one (gs_forG rfl hr (fun _ _ => pgenF_call (dvs := []) GI (hr.mono (by decide)) (by rfl) T.g_picks T.k_picks BI .nil (pa_cons (pv 1) (pa_cons (pv 2) pa_nil)))
        (fun _ _ => pg_name (i := 3) sc_Town_wards.nd rfl (Or.inl rfl)) (gss_one (gs_yield (fun _ _ => mkSB K T.mk_Ward (ok_Ward_init T) (hr.mono (by decide)) T.g_Ward (pv 3)))))))), fun H2 s2 => ?_⟩
  have hyl := wd.len hnd
  refine ⟨_, rfl, t_corners T (hv.same s2) (by omega) fun t zs H3 s3 e3 wz => ?_⟩
  obtain rfl := wz.eq wd
  have ht3 : SqT K H3 t (zs.map V.str) := .inl (.inl e3)
  refine ⟨s3, _, rfl, ⟨⟨t, _, rfl, .inr ht3, ?_⟩⟩⟩
  refine ⟨_, _, rfl, ⟨by omega, by omega, by omega, by rw [List.length_map]; omega⟩, Same.refl _, ?_⟩
  refine gfor_any (n := zs.length - 1) (fun j i σ H => Same H3 H ∧ (i = (((List.range j).flatMap fun i => combs (i + 1) zs)).length) ∧ ∃ u y, σ = [some v, some (.ref t), u, y]) ⟨Same.refl _, rfl, _, _, rfl⟩ (fun j i σ H hj p => by show j < _; rw [List.length_map]; omega) (fun i σ H p => by show _ ≤ _; rw [List.length_map]; omega) (fun j i σ H x H' hj p y => ?_) (fun i σ H p => p.2.1)
  obtain ⟨s6, hi, u, y', rfl⟩ := p
  obtain ⟨rfl, rfl⟩ := y
  refine ⟨Same.refl _, Same.refl _, _, rfl, _, rfl, ?_⟩
  have ht6 := lx_t (lx s6) ht3
  have split : wardsL zs = ((List.range j).flatMap fun i => combs (i + 1) zs) ++ (combs (j + 1) zs ++ ((List.range' (j + 1) (zs.length - 1 - (j + 1))).flatMap fun i => combs (i + 1) zs)) := by
    unfold wardsL
    have e : List.range (zs.length - 1) = List.range j ++ (j :: List.range' (j + 1) (zs.length - 1 - (j + 1))) := by
      rw [List.range_eq_range', List.range_eq_range', ← List.range'_succ]
      have q := List.range'_append_1 (s := 0) (m := j) (n := zs.length - 1 - (j + 1) + 1)
      rw [Nat.zero_add] at q
      rw [q]
      congr 1
      omega
    rw [e, List.flatMap_append, List.flatMap_cons]
  refine ⟨_, _, ⟨t, zs, j + 1, by rw [show (1 : Int) + (j : Nat) = ((j + 1 : Nat) : Int) by omega]; rfl, ht6, by omega, by omega, by omega, rfl, rfl⟩, Same.refl _, ?_⟩
  refine ⟨fun k i' σ' Hw => Same H' Hw ∧ i' = i + k ∧ ∃ y, σ' = [some v, some (.ref t), some (.int (1 + (j : Nat))), y], ⟨Same.refl _, rfl, _, rfl⟩, fun i' σ' Hw H9 p s9 => ?_, fun k i' σ' Hw H9 x p1 p2 s9 it => ?_⟩
  · obtain ⟨s10, rfl, y2, rfl⟩ := p
    refine ⟨(s6.trans s10).trans s9, ?_, _, _, rfl⟩
    rw [hi, List.range_succ, List.flatMap_append, List.length_append]
    simp
  · obtain ⟨s10, rfl, y2, rfl⟩ := p2
    obtain ⟨p, c, rfl, hc, hp⟩ := it
    have hcm := List.mem_of_getElem? hc
    have hcl := combs_len hcm
    have hsub := combs_sub hcm
    have hge : (wardsL zs)[i + k]? = some c := by
      rw [split, List.getElem?_append_right (by omega), ← hi, List.getElem?_append_left (by omega)]
      rw [show i + k - i = k by omega]
      exact hc
    have wc := wd.self hsub
    refine ⟨Same.refl _, _, rfl, p, _, rfl, .inl hp, make_ward { nm := fun z hz => hnm z ((wd.mem z).mp (hsub.subset hz)), ne := (fun z => by rw [z] at hcl; cases hcl), few := (fun us wu => by rw [wu.eq wc]; have := hsub.length_le; omega), len := (by have := hsub.length_le; omega) } fun v' us H10 s11 iw wu => ?_⟩
    obtain rfl := wu.eq wc
    exact ⟨(List.getElem?_eq_some_iff.mp hge).1, s11, ⟨_, hge, iw⟩, fun H' s' => ⟨s11.trans s', ((s10.trans s9).trans s11).trans s', by omega, _, rfl⟩⟩
end
end Tx
/-! ## DSigns1 -/
namespace Tx
open PySem PySem.Spec PyProof.Rows L2
/-- v is the pair of the sign s (its name, tail and goal as those of a road) -/
def Pr (K : PySem.W.Frag) (H : Hp) (v : V) (s : St) : Prop := ∃ t, v = .ref t ∧ SqT K H t [.str s.e1, .str s.e2]
def Prs (K : PySem.W.Frag) (H : Hp) (L : List Row) : Prop := ∀ p ∈ L, Pr K H p.1 p.2
theorem Pr.lx {K : PySem.W.Frag} {H H' : Hp} {v : V} {s : St} (h : Pr K H v s) (l : Lx H H') : Pr K H' v s := by
  obtain ⟨t, e, h1⟩ := h
  exact ⟨t, e, lx_t l h1⟩
theorem Prs.lx {K : PySem.W.Frag} {H H' : Hp} {L : List Row} (h : Prs K H L) (l : Lx H H') : Prs K H' L := fun p hp => (h p hp).lx l
/-- dicts by ascending names -/
theorem dN_of {L : List Row} {ys : List Str} {kvs : List (L2.Key × V)} (hnd : (L.map nmR).Nodup) (ymem : ∀ y, y ∈ ys ↔ y ∈ L.map nmR) (ypm : ys.Perm (L.map nmR)) (hk : kvs.map (·.1) = ys.map Sum.inr)
    (hv : ∀ (j : Nat) (y : Str) (q : L2.Key × V), ys[j]? = some y → kvs[j]? = some q → ∃ r : Row, q.2 = r.1 ∧ r ∈ L ∧ nmR r = y) : kvs = dN (byN L ys) := by
  have hnm : (byN L ys).map nmR = ys := byN_names fun y hy => (ymem y).mp hy
  have hpm : (byN L ys).Perm L := byN_perm hnd ypm
  have hl1 : kvs.length = ys.length := by have := congrArg List.length hk; simpa using this
  have hl2 : (byN L ys).length = ys.length := by have := congrArg List.length hnm; simpa using this
  apply List.ext_getElem (by rw [hl1]; unfold dN; rw [List.length_map, hl2])
  intro j h1 h2
  have hj : j < ys.length := by omega
  obtain ⟨r, e1, e2, e3⟩ := hv j ys[j] kvs[j] (List.getElem?_eq_getElem hj) (List.getElem?_eq_getElem h1)
  have z : (kvs.map (·.1))[j]? = (ys.map Sum.inr)[j]? := by rw [hk]
  rw [List.getElem?_map, List.getElem?_map, List.getElem?_eq_getElem hj, List.getElem?_eq_getElem h1] at z
  have z2 : ((byN L ys).map nmR)[j]? = ys[j]? := by rw [hnm]
  rw [List.getElem?_map, List.getElem?_eq_getElem hj, List.getElem?_eq_getElem (by omega : j < (byN L ys).length)] at z2
  injection z with z
  injection z2 with z2
  have hr' : (byN L ys)[j] ∈ L := hpm.mem_iff.mp (List.getElem_mem _)
  have same : (byN L ys)[j] = r := by
    have f1 := find_name L _ hnd hr'
    have f2 := find_name L r hnd e2
    rw [e3] at f2
    rw [z2, f2] at f1
    exact (Option.some.inj f1).symm
  have e9 : (dN (byN L ys))[j] = (Sum.inr (nmR (byN L ys)[j]), ((byN L ys)[j]).1) := List.getElem_map ..
  rw [e9]
  show kvs[j] = (Sum.inr (nmR (byN L ys)[j]), ((byN L ys)[j]).1)
  rw [z2, same, ← e1, ← z]
theorem lock_back {H H2 : Hp} {c : Addr} {kvs : List (L2.Key × V)} {od : Obj} (h : H c = some (.dK kvs)) (s : Same (upd H c (.frz od (.dK kvs))) H2) : Same H (upd H2 c (.dK kvs)) := fun a o ha => by
  by_cases hc : a = c
  · rw [hc, upd_same, ← h, ← hc]; exact ha
  · rw [upd_ne hc]
    exact s _ _ (by rw [upd_ne hc]; exact ha)
section
variable {w : World} {K : PySem.W.Frag} {mg : Str → Option Value} {base : Heap} (T : Txt K mg)
def spSign (K : PySem.W.Frag) : Sp := fun vs H Q _ => ∃ v s, vs = [v] ∧ Pr K H v s ∧ s.Ok ∧ ∀ H', Same H H' → Q (.bl true) H'
theorem sc_is_sign : FnScope ["value"] ["value"] (defScope (top 36)) := ⟨rfl, rfl, rfl, by decide +kernel, rfl, by decide +kernel, by decide +kernel⟩
include T in
theorem ok_is_sign : Fn w K mg base 2 (He.ga K "is_sign") (spSign K) := by
  refine funR T.f_is_sign sc_is_sign (fun _ _ _ _ _ _ us hl => match us, hl with | [_], _ => rfl) (fun vs H Q E h => ?_) (fun cdv A outer s H vs Q E hr h => ?_)
  · obtain ⟨v, st, rfl, _⟩ := h; rfl
  obtain ⟨v, st, rfl, ⟨t, rfl, ht⟩, ok, q⟩ := h
  refine ⟨_, pss_cons (ps_if (PW.pt (pw_or (pt_not (pt_val (p_isi T.n_isinstance (pv 0) (p_ty "tuple" T.n_tuple bt_tuple)))) (pw_or1 (pt_cmpR op_ne (p_b1 call_len_seq bt_len T.n_len (pv 0)) (p_int T.i_PAIR) (nomark _))))) (pss_one (ps_ret pe_bl)) pss_nil)
    (pss_one (ps_ret (pe_and (Own.pe_call (ok_is_name T) hr (by rfl) T.g_is_name T.k_is_name (pa_cons (pe_ix ix_tup (pv 0) pe_int (fun _ _ => rfl)) pa_nil)) (pe_and (Own.pe_call (ok_is_name T) hr (by rfl) T.g_is_name T.k_is_name (pa_cons (pe_ix ix_tup (pv 0) pe_int (fun _ _ => rfl)) pa_nil))
      (pe_one (pe_cmpR op_ne (pe_ix ix_tup (pv 0) pe_int (fun _ _ => rfl)) (pe_ix ix_tup (pv 0) pe_int (fun _ _ => rfl)) (nomark _))))))), ?_⟩
  refine ⟨_, rfl, isi_tup ht ⟨true, rfl, iteF ⟨_, rfl, ⟨⟨t, _, rfl, .inr ht, rfl, _, rfl, iteF ?_⟩⟩⟩⟩⟩
  refine ⟨_, rfl, t, _, 0, _, rfl, rfl, ht, atI_nat (j := 0) rfl, ⟨⟨st.e1, rfl, ok.a, fun H2 s2 => ⟨true, rfl, iteT ?_⟩⟩⟩⟩
  refine ⟨_, rfl, t, _, 1, _, rfl, rfl, lx_t (lx s2) ht, atI_nat (j := 1) rfl, ⟨⟨st.e2, rfl, ok.b, fun H3 s3 => ⟨true, rfl, iteT ?_⟩⟩⟩⟩
  have ht3 := lx_t (lx (s2.trans s3)) ht
  refine ⟨_, rfl, t, _, 0, _, rfl, rfl, ht3, atI_nat (j := 0) rfl, _, rfl, t, _, 1, _, rfl, rfl, ht3, atI_nat (j := 1) rfl, rfl, ?_⟩
  rw [decide_eq_false (by intro z; injection z with z; exact ok.ne z)]
  exact q H3 (s2.trans s3)
def fdS (d t : Addr) : List (Str × V) := [("own_parts", .ref d), ("own_names", .ref t)]
def spSI (K : PySem.W.Frag) : Sp := fun vs H Q _ => ∃ x dx d L, vs = [.ref x, .ref d] ∧ H x = some (.ins (He.ga K "Signs") dx []) ∧ H d = some (.dK (dN L)) ∧ Prs K H L ∧ (∀ r ∈ L, r.2.Ok) ∧ (L.map nmR).Nodup ∧ L.length ≤ 14 ∧
  ∀ d' t L' H', SameX x H H' → H' x = some (.ins (He.ga K "Signs") dx (fdS d' t)) → H' d' = some (.dK (dN L')) → SqT K H' t ((L'.map nmR).map V.str) → L'.Perm L → sortedS (L'.map nmR) = true → Prs K H' L' → Q .non H'
theorem sc_Signs_init : FnScope ["self", "parts", "name"] ["self", "parts"] (defScope (mth 38 0)) := ⟨rfl, rfl, rfl, by decide +kernel, rfl, by decide +kernel, by decide +kernel⟩
include T in
theorem ok_Signs_init : Fn w K mg base 4 (He.ma K (He.ga K "Signs") "__init__") (spSI K) := by
  refine funR T.f_Signs_init sc_Signs_init (fun _ _ _ _ _ _ us hl => match us, hl with | [_, _], _ => rfl) (fun vs H Q E h => ?_) (fun cdv A outer s H vs Q E hr h => ?_)
  · obtain ⟨x, dx, d, L, rfl, _⟩ := h; rfl
  obtain ⟨x, dx, d, L, rfl, hx, hd, hprs, hok, hnd, hfew, q⟩ := h
  refine ⟨_, pss_cons (ps_if (PW.pt (pw_or (pt_not (pt_val (p_isi T.n_isinstance (pv 1) (p_ty "dict" T.n_dict bt_dict)))) (pw_or1 (pt_not (pt_val (p_b1 (cr_all rfl) bt_all T.n_all (pe_lock (pe_lc (own := [("name", 2)]) (g := gName 2) (tt := tYes) rfl sc_Signs_init.nd (pi_keys (pv 1)) (blkOk_by (N := ["self", "parts", "name"]) (sc := defScope (mth 38 0)) (by decide +kernel)) (fun _ _ _ _ _ => pg_name (i := 2) sc_Signs_init.nd rfl (Or.inl rfl)) (fun _ _ _ _ _ => pts_nil)
      (fun _ _ _ _ _ => pe_and (Own.pe_call (ok_is_name T) (hr.mono (by decide)) (by rfl) T.g_is_name T.k_is_name (pa_cons (pv 2) pa_nil)) (pe_one (Own.pe_call (ok_is_sign T) (hr.mono (by decide)) (by rfl) T.g_is_sign T.k_is_sign (pa_cons (pe_dget (hu1 hr) (pv 1) (pv 2) (fun _ _ => rfl)) pa_nil))))))))))))
      pss_never pss_nil)
    (pss_cons (ps_if (pt_cmpR op_gt (p_b1 call_lenR bt_len T.n_len (pv 1)) (p_int T.i_MOST_SIGNS) (nomark _)) pss_never pss_nil)
    (pss_cons (ps_fld (pv 0) (pe_dc (own := [("name", 2)]) (g := gName 2) (tt := tYes) rfl sc_Signs_init.nd (pi_list (p_b1 cr_sortedS bt_sorted T.n_sorted (pe_lock (pe_lc (own := [("name", 2)]) (g := gName 2) (tt := tYes) rfl sc_Signs_init.nd (pi_keys (pv 1)) (blkOk_by (N := ["self", "parts", "name"]) (sc := defScope (mth 38 0)) (by decide +kernel)) (fun _ _ _ _ _ => pg_name (i := 2) sc_Signs_init.nd rfl (Or.inl rfl)) (fun _ _ _ _ _ => pts_nil) (fun _ _ _ _ _ => p_t1 SkE.call_str_str bt_str T.n_str (pv 2))))))
      (blkOk_by (N := ["self", "parts", "name"]) (sc := defScope (mth 38 0)) (by decide +kernel)) (fun _ _ _ _ _ => pg_name (i := 2) sc_Signs_init.nd rfl (Or.inl rfl)) (fun _ _ _ _ _ => pts_nil) (fun _ _ _ _ _ => pv 2) (fun _ _ _ _ _ => pe_dget (hu1 hr) (pv 1) (pv 2) (fun _ _ => rfl))) rfl)
    (pss_one (ps_fld (pv 0) (p_t1 (TdX.call_tup_dK rfl) bt_tuple T.n_tuple (p_fld (pv 0))) rfl)))), ?_⟩
  have dl : (dN L).length = L.length := by unfold dN; rw [List.length_map]
  refine ⟨_, rfl, isi_dic (.inl hd) ⟨true, rfl, iteF ?_⟩⟩
  refine ⟨d, _, hd, trivial, fun od => ?_⟩
  have lk : Lx H (upd H d (.frz od (.dK (dN L)))) := Lx.lock hd
  refine ⟨_, rfl, d, od, rfl, .inl ⟨_, upd_same, fun D hD => ?_⟩⟩
  refine lc_rep (b := true) (overK upd_same) hD (by omega) (fun p H2 K2 hp s2 k2 => ?_) (fun H2 s2 e2 => ?_)
  · obtain ⟨r, hr2, rfl⟩ := List.mem_map.mp hp
    have hd2 : ∀ {H4 : Hp}, Same H2 H4 → DV H4 d (dN L) := fun s4 => .inr ⟨od, s4 _ _ (s2 _ _ upd_same)⟩
    refine ⟨rfl, _, rfl, ⟨⟨nmR r, rfl, (hok r hr2).n, fun H4 s4 => ⟨true, rfl, iteT ?_⟩⟩⟩⟩
    exact ⟨_, rfl, _, rfl, d, r.1, rfl, dget (hd2 s4) (dN_get hnd hr2), ⟨⟨r.1, r.2, rfl, (hprs r hr2).lx (lk.trans (lx (s2.trans s4))), hok r hr2, fun H5 s5 => k2 _ (s4.trans s5)⟩⟩⟩
  have Dd : D ≠ d := fun z => by rw [z, upd_same] at hD; cases hD
  refine ⟨s2 _ _ upd_same, all_true (by rw [upd_ne Dd]; exact e2) ⟨true, rfl, iteF ?_⟩⟩
  have sA := lock_back hd s2
  have hdA : (upd H2 d (.dK (dN L))) d = some (.dK (dN L)) := upd_same
  refine ⟨_, rfl, ⟨⟨d, _, rfl, .inl hdA, _, _, rfl, rfl, _, rfl, ?_⟩⟩⟩
  show if decide (((dN L).length : Int) > 14) = true then _ else _
  rw [decide_eq_false (by omega)]
  refine iteF ?_
  refine ⟨d, _, hdA, trivial, fun od2 => ?_⟩
  have lk2 : Lx H (upd (upd H2 d (.dK (dN L))) d (.frz od2 (.dK (dN L)))) := (lx sA).trans (Lx.lock hdA)
  refine ⟨_, rfl, d, od2, rfl, .inl ⟨_, upd_same, fun D2 hD2 => ?_⟩⟩
  refine lc_mapV (overK upd_same) hD2 (by omega) (fun p => kV p.1) (fun p H3 K2 hp s3 k3 => ?_) (fun H3 s3 e3 => ?_)
  · obtain ⟨r, hr2, rfl⟩ := List.mem_map.mp hp
    exact ⟨rfl, _, rfl, ⟨⟨nmR r, rfl, k3 _ (Same.refl _)⟩⟩⟩
  have e3' : H3 D2 = some (.lst ((L.map nmR).map V.str)) := by rw [e3]; unfold dN; rw [List.map_map, List.map_map]; rfl
  have D2d : D2 ≠ d := fun z => by rw [z, upd_same] at hD2; cases hD2
  have sB := sA.trans (lock_back hdA s3)
  have hdB : (upd H3 d (.dK (dN L))) d = some (.dK (dN L)) := upd_same
  refine ⟨s3 _ _ upd_same, ⟨⟨D2, L.map nmR, rfl, .inl (.inl (by rw [upd_ne D2d]; exact e3')), by rw [List.length_map]; omega, fun ys b pm so hb => ?_⟩⟩⟩
  have ynd : ys.Nodup := pm.nodup_iff.mpr hnd
  have ymem : ∀ y, y ∈ ys ↔ y ∈ L.map nmR := fun y => pm.mem_iff
  have ylen : ys.length = L.length := by rw [pm.length_eq, List.length_map]
  have ynd' : (ys.map (Sum.inr : Str → L2.Key)).Nodup := by
    rw [List.Nodup, List.pairwise_map]
    exact List.Pairwise.imp (fun h z => h (Sum.inr.inj z)) ynd
  have sC := sB.trans (same_new (o := .lst (ys.map V.str)) hb)
  have hdC := same_new (o := .lst (ys.map V.str)) hb _ _ hdB
  refine ⟨b, rfl, ⟨_, .inl (.inl upd_same)⟩, fun d2 hd2 => ?_⟩
  refine dc_map (overL (f := V.str) (.inl (.inl upd_same))) hd2 (by omega) (Sum.inr : Str → L2.Key) ynd' (fun y v _ => ∃ r : Row, v = r.1 ∧ r ∈ L ∧ nmR r = y) (fun _ _ _ _ _ _ _ h => h) (fun _ _ _ _ _ h => h)
    (fun y H6 K2 hy s6 k2 => ?_) (fun H6 kvs s6 e6 hk hv => ?_)
  · obtain ⟨r, hr2, hn⟩ := List.mem_map.mp ((ymem y).mp hy)
    refine ⟨rfl, _, rfl, _, rfl, _, rfl, d, r.1, rfl, dget (k := Sum.inr y) (.inl (s6 _ _ hdC)) (by rw [← hn]; exact dN_get hnd hr2), k2 _ _ (Same.refl _) ⟨r, rfl, hr2, hn⟩⟩
  have hL' := byN_perm hnd pm
  have hnm : (byN L ys).map nmR = ys := byN_names fun y hy => (ymem y).mp hy
  have e6' : H6 d2 = some (.dK (dN (byN L ys))) := by rw [e6, dN_of hnd ymem pm hk hv]
  have sD := sC.trans s6
  have hxD := sD _ _ hx
  have xd2 : x ≠ d2 := fun z => by rw [← z, hxD] at e6'; cases e6'
  refine ⟨_, rfl, x, _, dx, _, rfl, hxD, T.c_Signs, T.na_Signs_own_parts, by show 0 < 1000; decide, ?_⟩
  have sx7 : SameX x H6 (upd H6 x (.ins (He.ga K "Signs") dx (putF "own_parts" (.ref d2) []))) := sameX_upd
  have hx7 : (upd H6 x (.ins (He.ga K "Signs") dx (putF "own_parts" (.ref d2) []))) x = some (.ins (He.ga K "Signs") dx [("own_parts", .ref d2)]) := upd_same
  have hd7 := sxD hxD sx7 e6'
  refine ⟨_, rfl, fldR hx7 T.c_Signs T.na_Signs_own_parts rfl ⟨⟨d2, _, rfl, .inl hd7, fun t ht => ?_⟩⟩⟩
  have xt := ne_of_none hx7 ht
  have hx8 := same_new (o := .tup ((dN (byN L ys)).map fun kv => kV kv.1)) ht _ _ hx7
  refine ⟨_, rfl, x, _, dx, _, rfl, hx8, T.c_Signs, T.na_Signs_own_names, by show 1 < 1000; decide, ?_⟩
  have sx9 : SameX x H6 (upd (upd (upd H6 x (.ins (He.ga K "Signs") dx (putF "own_parts" (.ref d2) []))) t (.tup ((dN (byN L ys)).map fun kv => kV kv.1))) x (.ins (He.ga K "Signs") dx (putF "own_names" (.ref t) [("own_parts", .ref d2)]))) := (sx7.trans (same_x (same_new ht))).trans sameX_upd
  refine q d2 t (byN L ys) _ ((same_x sD).trans sx9) upd_same (sxD hxD sx9 e6') (.inl (.inl ?_)) hL' (by rw [hnm]; exact so) (fun r hr2 => ?_)
  · rw [upd_ne (Ne.symm xt), upd_same]
    unfold dN
    rw [List.map_map, List.map_map]
    rfl
  · obtain ⟨u, e, hu⟩ := (hprs r (hL'.mem_iff.mp hr2)).lx (lx sD)
    exact ⟨u, e, sxT hxD sx9 hu⟩
end
end Tx
/-! ## DSigns2 -/
namespace Tx
open PySem PySem.Spec PyProof.Rows L2
/-- signs to read -/
def SG (K : PySem.W.Frag) (H : Hp) (v : V) (L : List Row) : Prop := ∃ x dx d t, v = .ref x ∧ H x = some (.ins (He.ga K "Signs") dx (fdS d t)) ∧ DV H d (dN L) ∧ SqT K H t ((L.map nmR).map V.str) ∧ Prs K H L
theorem SG.lx {K : PySem.W.Frag} {H H' : Hp} {v : V} {L : List Row} (h : SG K H v L) (l : Lx H H') : SG K H' v L := by
  obtain ⟨x, dx, d, t, e, h1, h2, h3, h4⟩ := h
  exact ⟨x, dx, d, t, e, lx_i l h1, lx_d l h2, lx_t l h3, h4.lx l⟩
/-- signs -/
def IsS (K : PySem.W.Frag) (H : Hp) (v : V) (L : List Row) : Prop := ∃ x dx d t, v = .ref x ∧ H x = some (.ins (He.ga K "Signs") dx (fdS d t)) ∧ H d = some (.dK (dN L)) ∧ SqT K H t ((L.map nmR).map V.str) ∧ Prs K H L
theorem IsS.same {K : PySem.W.Frag} {H H' : Hp} {v : V} {L : List Row} (h : IsS K H v L) (s : Same H H') : IsS K H' v L := by
  obtain ⟨x, dx, d, t, e, h1, h2, h3, h4⟩ := h
  exact ⟨x, dx, d, t, e, s _ _ h1, s _ _ h2, lx_t (lx s) h3, h4.lx (lx s)⟩
theorem IsS.sg {K : PySem.W.Frag} {H : Hp} {v : V} {L : List Row} (h : IsS K H v L) : SG K H v L := by
  obtain ⟨x, dx, d, t, e, h1, h2, h3, h4⟩ := h
  exact ⟨x, dx, d, t, e, h1, .inl h2, h3, h4⟩
section
variable {w : World} {K : PySem.W.Frag} {mg : Str → Option Value} {base : Heap} (T : Txt K mg)
theorem make_signs {H : Hp} {d : Addr} {L : List Row} {Q : VK} (hd : H d = some (.dK (dN L))) (h : Prs K H L) (ok : ∀ r ∈ L, r.2.Ok) (nd : (L.map nmR).Nodup) (few : L.length ≤ 14) (q : ∀ v L' H', Same H H' → IsS K H' v L' → L'.Perm L → sortedS (L'.map nmR) = true → Q v H') : MakeS (He.ga K "Signs") (spSI K) [.ref d] H Q :=
  ⟨fun x dx hx hdx ne => ⟨x, dx, d, L, rfl, upd_same, new2 hx hdx _ _ hd, h.lx (lx (new2 hx hdx)), ok, nd, few, fun d' t L' H' s e1 e2 e3 pm so prs => ⟨rfl, q _ _ _ (made_same hx hdx s) ⟨x, dx, d', t, rfl, e1, e2, e3, prs⟩ pm so⟩⟩⟩
theorem isi_signs {H : Hp} {v : V} {L : List Row} {Q : VK} (T : Txt K mg) (h : SG K H v L) (q : Q (.bl true) H) : AtR (rIsi K) [v, .ref (He.ga K "Signs")] H Q := by
  obtain ⟨x, dx, d, t, rfl, h1, _⟩ := h
  exact isi_own h1 T.c_Signs T.ty_Signs T.is_Signs_Signs q
def spSNames (K : PySem.W.Frag) : Sp := fun vs H Q _ => ∃ v L, vs = [v] ∧ SG K H v L ∧ ∀ t, SqT K H t ((L.map nmR).map V.str) → Q (.ref t) H
theorem sc_Signs_names : FnScope ["self"] ["self"] (defScope (mth 38 3)) := ⟨rfl, rfl, rfl, by decide +kernel, rfl, by decide +kernel, by decide +kernel⟩
include T in
theorem ok_Signs_names : Fn w K mg base 1 (pgA K (He.ga K "Signs") "names") (spSNames K) := by
  refine funR T.f_Signs_names sc_Signs_names (fun _ _ _ _ _ _ us hl => match us, hl with | [_], _ => rfl) (fun vs H Q E h => ?_) (fun cdv A outer s H vs Q E hr h => ?_)
  · obtain ⟨v, L, rfl, _⟩ := h; rfl
  obtain ⟨v, L, rfl, ⟨x, dx, d, t, rfl, h1, h2, h3, h4⟩, q⟩ := h
  refine ⟨_, pss_one (ps_ret (p_fld (pv 0))), ?_⟩
  exact ⟨_, rfl, fldR h1 T.c_Signs T.na_Signs_own_names rfl (q t h3)⟩
def spSIn (K : PySem.W.Frag) : Sp := fun vs H Q _ => ∃ v L n, vs = [v, .str n] ∧ SG K H v L ∧ Q (.bl (decide (n ∈ L.map nmR))) H
theorem sc_Signs_contains : FnScope ["self", "name"] ["self", "name"] (defScope (mth 38 7)) := ⟨rfl, rfl, rfl, by decide +kernel, rfl, by decide +kernel, by decide +kernel⟩
include T in
theorem ok_Signs_contains : Fn w K mg base 1 (He.ma K (He.ga K "Signs") "__contains__") (spSIn K) := by
  refine funR T.f_Signs_contains sc_Signs_contains (fun _ _ _ _ _ _ us hl => match us, hl with | [_, _], _ => rfl) (fun vs H Q E h => ?_) (fun cdv A outer s H vs Q E hr h => ?_)
  · obtain ⟨v, L, n, rfl, _⟩ := h; rfl
  obtain ⟨v, L, n, rfl, ⟨x, dx, d, t, rfl, h1, h2, h3, h4⟩, q⟩ := h
  refine ⟨_, pss_one (ps_ret (pe_and (p_isi T.n_isinstance (pv 1) (p_ty "str" T.n_str bt_str)) (pe_one (pe_cmp (pc_din (hu1 hr) (pv 1) (p_fld (pv 0))))))), ?_⟩
  refine ⟨_, rfl, isi_str ⟨true, rfl, iteT ⟨_, rfl, _, rfl, fldR h1 T.c_Signs T.na_Signs_own_parts rfl ⟨d, _, rfl, .inl ⟨_, Sum.inr n, h2, rfl, rfl⟩, ?_⟩⟩⟩⟩
  rw [dN_some]
  exact q
def spSGet (K : PySem.W.Frag) (f : St → Str) : Sp := fun vs H Q _ => ∃ v L r, vs = [v, .str (nmR r)] ∧ SG K H v L ∧ (L.map nmR).Nodup ∧ r ∈ L ∧ Q (.str (f r.2)) H
theorem sc_Signs_getitem : FnScope ["self", "name"] ["self", "name"] (defScope (mth 38 8)) := ⟨rfl, rfl, rfl, by decide +kernel, rfl, by decide +kernel, by decide +kernel⟩
theorem sc_Signs_tail : FnScope ["self", "name"] ["self", "name"] (defScope (mth 38 9)) := ⟨rfl, rfl, rfl, by decide +kernel, rfl, by decide +kernel, by decide +kernel⟩
include T in
theorem ok_Signs_getitem : Fn w K mg base 2 (He.ma K (He.ga K "Signs") "__getitem__") (spSGet K St.e2) := by
  refine funR T.f_Signs_getitem sc_Signs_getitem (fun _ _ _ _ _ _ us hl => match us, hl with | [_, _], _ => rfl) (fun vs H Q E h => ?_) (fun cdv A outer s H vs Q E hr h => ?_)
  · obtain ⟨v, L, n, rfl, _⟩ := h; rfl
  obtain ⟨v, L, r, rfl, hs, nd, hr2, q⟩ := h
  have hs' := hs
  obtain ⟨x, dx, d, t, rfl, h1, h2, h3, h4⟩ := hs'
  refine ⟨_, pss_cons (ps_if (pt_cmpR (Own.op_notIn T.o_Signs_contains.at_ T.o_Signs_contains.fn (ok_Signs_contains T) hr) (pv 1) (pv 0) (by rfl)) pss_never pss_nil)
    (pss_one (ps_ret (pe_ix ix_tup (pe_dget (hu1 hr) (p_fld (pv 0)) (pv 1) (fun _ _ => rfl)) pe_int (fun _ _ => rfl)))), ?_⟩
  obtain ⟨u, eu, hu⟩ := h4 r hr2
  refine ⟨_, rfl, _, rfl, x, rfl, ⟨dx, _, h1⟩, ⟨⟨_, L, nmR r, rfl, hs, _, rfl, ?_⟩⟩⟩
  rw [decide_eq_true (List.mem_map_of_mem hr2)]
  refine ⟨false, rfl, iteF ⟨_, rfl, fldR h1 T.c_Signs T.na_Signs_own_parts rfl ⟨_, rfl, d, r.1, rfl, dget h2 (dN_get nd hr2), u, _, 1, _, eu, rfl, hu, atI_nat (j := 1) rfl, q⟩⟩⟩
include T in
theorem ok_Signs_tail : Fn w K mg base 2 (He.ma K (He.ga K "Signs") "tail") (spSGet K St.e1) := by
  refine funR T.f_Signs_tail sc_Signs_tail (fun _ _ _ _ _ _ us hl => match us, hl with | [_, _], _ => rfl) (fun vs H Q E h => ?_) (fun cdv A outer s H vs Q E hr h => ?_)
  · obtain ⟨v, L, n, rfl, _⟩ := h; rfl
  obtain ⟨v, L, r, rfl, hs, nd, hr2, q⟩ := h
  have hs' := hs
  obtain ⟨x, dx, d, t, rfl, h1, h2, h3, h4⟩ := hs'
  refine ⟨_, pss_cons (ps_if (pt_cmpR (Own.op_notIn T.o_Signs_contains.at_ T.o_Signs_contains.fn (ok_Signs_contains T) hr) (pv 1) (pv 0) (by rfl)) pss_never pss_nil)
    (pss_one (ps_ret (pe_ix ix_tup (pe_dget (hu1 hr) (p_fld (pv 0)) (pv 1) (fun _ _ => rfl)) pe_int (fun _ _ => rfl)))), ?_⟩
  obtain ⟨u, eu, hu⟩ := h4 r hr2
  refine ⟨_, rfl, _, rfl, x, rfl, ⟨dx, _, h1⟩, ⟨⟨_, L, nmR r, rfl, hs, _, rfl, ?_⟩⟩⟩
  rw [decide_eq_true (List.mem_map_of_mem hr2)]
  refine ⟨false, rfl, iteF ⟨_, rfl, fldR h1 T.c_Signs T.na_Signs_own_parts rfl ⟨_, rfl, d, r.1, rfl, dget h2 (dN_get nd hr2), u, _, 0, _, eu, rfl, hu, atI_nat (j := 0) rfl, q⟩⟩⟩
def spAlong (K : PySem.W.Frag) : Sp := fun vs H Q _ => ∃ v L r u, vs = [v, .str (nmR r), .ref u] ∧ SG K H v L ∧ (L.map nmR).Nodup ∧ r ∈ L ∧ r.2.Ok ∧ SqT K H u [.str r.2.lo, .str r.2.hi] ∧ ∀ H', Same H H' → Q (.bl true) H'
theorem sc_Signs_is_along : FnScope ["self", "name", "ends", "corner"] ["self", "name", "ends"] (defScope (mth 38 18)) := ⟨rfl, rfl, rfl, by decide +kernel, rfl, by decide +kernel, by decide +kernel⟩
include T in
theorem ok_Signs_is_along : Fn w K mg base 1 (He.ma K (He.ga K "Signs") "is_along") (spAlong K) := by
  refine funR T.f_Signs_is_along sc_Signs_is_along (fun _ _ _ _ _ _ us hl => match us, hl with | [_, _, _], _ => rfl) (fun vs H Q E h => ?_) (fun cdv A outer s H vs Q E hr h => ?_)
  · obtain ⟨v, L, r, u, rfl, _⟩ := h; rfl
  obtain ⟨v, L, r, u, rfl, ⟨x, dx, d, t, rfl, h1, h2, h3, h4⟩, nd, hr2, ok, hu, q⟩ := h
  refine ⟨_, pss_one (ps_ret (pe_cmpR (op_eqD (hu_ hr)) (pe_tupleOf (by rfl) T.n_tuple (p_b1 cr_sortedS bt_sorted T.n_sorted (pe_lc (own := [("corner", 3)]) (g := gName 3) (tt := tYes) rfl sc_Signs_is_along.nd (pi_tup (pe_dget (hu1 hr) (p_fld (pv 0)) (pv 1) (fun _ _ => rfl))) (blkOk_by (N := ["self", "name", "ends", "corner"]) (sc := defScope (mth 38 18)) (by decide +kernel)) (fun _ _ _ _ _ => pg_name (i := 3) sc_Signs_is_along.nd rfl (Or.inl rfl)) (fun _ _ _ _ _ => pts_nil) (fun _ _ _ _ _ => p_t1 SkE.call_str_str bt_str T.n_str (pv 3))))) (pv 2) (nomark _))), ?_⟩
  obtain ⟨y, ey, hy⟩ := h4 r hr2
  refine ⟨_, rfl, fldR h1 T.c_Signs T.na_Signs_own_parts rfl ⟨_, rfl, d, r.1, rfl, dget h2 (dN_get nd hr2), y, ey, ⟨_, hy⟩, fun D hD => ?_⟩⟩
  refine lc_strT (ss := [r.2.e1, r.2.e2]) (by show 3 < 4; decide) hD hy (by show 2 ≤ 100000; decide) (fun H2 s2 e2 => ⟨⟨D, [r.2.e1, r.2.e2], rfl, .inl (.inl e2), by show 2 < 64; decide, fun ys b pm so hb => ?_⟩⟩)
  obtain rfl := two_sorted pm so
  refine tupK (.inl (.inl upd_same)) fun t2 ht2 => ⟨_, rfl, ?_⟩
  have sF := (s2.trans (same_new (o := .lst ([loS r.2.e1 r.2.e2, hiS r.2.e1 r.2.e2].map V.str)) hb)).trans (same_new (o := .tup ([loS r.2.e1 r.2.e2, hiS r.2.e1 r.2.e2].map V.str)) ht2)
  have hs := shaped_strs (ss := [r.2.lo, r.2.hi]) (by simp only [List.mem_cons, List.not_mem_nil, or_false]; rintro z (rfl | rfl); exact ok.lo; exact ok.hi)
  refine ⟨_, _, dp_strs (ss := [r.2.lo, r.2.hi]) (.inl (.inl upd_same)), dp_strs (ss := [r.2.lo, r.2.hi]) (lx_t (lx sF) hu), hs, hs, ?_⟩
  rw [eqv_strs, decide_eq_true rfl]
  exact q _ sF
/-- the signs fit the town -/
structure Fits (Ls Lt : List Row) : Prop where
  nm : Ls.map nmR = rdN Lt
  ends : ∀ r ∈ Ls, ∃ u ∈ Lt, nmR u = nmR r ∧ u.2.lo = r.2.lo ∧ u.2.hi = r.2.hi
def spFits (K : PySem.W.Frag) : Sp := fun vs H Q _ => ∃ v u Ls Lt cs, vs = [v, u] ∧ IsS K H v Ls ∧ IsT K H u Lt cs ∧ (Ls.map nmR).Nodup ∧ (Lt.map nmR).Nodup ∧ (∀ r ∈ Ls, r.2.Ok) ∧ Ls.length < 60 ∧ Lt.length < 60 ∧ Fits Ls Lt ∧ ∀ H', Same H H' → Q (.bl true) H'
theorem s_names {H : Hp} {v : V} {L : List Row} {Q : VK} (T : Txt K mg) (h : SG K H v L) (q : ∀ t, SqT K H t ((L.map nmR).map V.str) → Q (.ref t) H) :
    ∃ a C, v = .ref a ∧ Own.IsI H a C ∧ Cls K C ∧ PropOf K C "names" (He.ma K (He.ga K "Signs") "names") (pgA K (He.ga K "Signs") "names") ∧ Own.Sat (spSNames K) [.ref a] H Q := by
  have h' := h
  obtain ⟨x, dx, d, t, rfl, h1, _⟩ := h'
  exact ⟨x, _, rfl, ⟨dx, _, h1⟩, T.c_Signs, T.p_Signs_names, ⟨⟨_, L, rfl, h, q⟩⟩⟩
theorem t_roads {H : Hp} {v : V} {L : List Row} {Q : VK} (T : Txt K mg) (h : TG K H v L) (hl : L.length < 60) (q : ∀ t H', Same H H' → H' t = some (.tup ((rdN L).map V.str)) → Q (.ref t) H') :
    ∃ a C, v = .ref a ∧ Own.IsI H a C ∧ Cls K C ∧ PropOf K C "roads" (He.ma K (He.ga K "Town") "roads") (pgA K (He.ga K "Town") "roads") ∧ Own.Sat (spTRoads K) [.ref a] H Q := by
  have h' := h
  obtain ⟨x, dx, d, t, c, rfl, h1, _⟩ := h'
  exact ⟨x, _, rfl, ⟨dx, _, h1⟩, T.c_Town, T.p_Town_roads, ⟨⟨_, L, rfl, h, hl, q⟩⟩⟩
theorem tg_isi {H : Hp} {v : V} {L : List Row} (h : TG K H v L) : ∃ a, v = .ref a ∧ Own.IsI H a (He.ga K "Town") := by
  obtain ⟨x, dx, d, t, c, rfl, h1, _⟩ := h
  exact ⟨x, rfl, dx, _, h1⟩
theorem tg_rows {H : Hp} {v : V} {L : List Row} (h : TG K H v L) : Rows K H L := by
  obtain ⟨x, dx, d, t, c, rfl, h1, _, _, h4, _⟩ := h
  exact h4
theorem sc_Signs_fits : FnScope ["self", "town", "name"] ["self", "town"] (defScope (mth 38 20)) := ⟨rfl, rfl, rfl, by decide +kernel, rfl, by decide +kernel, by decide +kernel⟩
include T in
theorem ok_Signs_fits : Fn w K mg base 4 (He.ma K (He.ga K "Signs") "fits") (spFits K) := by
  refine funR T.f_Signs_fits sc_Signs_fits (fun _ _ _ _ _ _ us hl => match us, hl with | [_, _], _ => rfl) (fun vs H Q E h => ?_) (fun cdv A outer s H vs Q E hr h => ?_)
  · obtain ⟨v, u, Ls, Lt, cs, rfl, _⟩ := h; rfl
  obtain ⟨v, u, Ls, Lt, cs, rfl, hv, hu, nds, ndt, oks, ls, lt, fit, q⟩ := h
  refine ⟨_, pss_cons (ps_if (PW.pt (pw_or (pt_not (pt_val (p_isi T.n_isinstance (pv 1) (p_cl T.g_Place)))) (pw_or1 (pt_cmpR (op_neD (hu_ hr)) (Own.pe_prop (p := He.ma K (He.ga K "Signs") "names") (pv 0) (ok_Signs_names T) (hr.mono (by decide))) (Own.pe_prop (p := He.ma K (He.ga K "Town") "roads") (pv 1) (ok_Town_roads T) (hr.mono (by decide))) (nomark _))))) (pss_one (ps_ret pe_bl)) pss_nil)
    (pss_one (ps_ret (p_b1 (cr_all rfl) bt_all T.n_all (pe_lock (pe_lc (own := [("name", 2)]) (g := gName 2) (tt := tYes) rfl sc_Signs_fits.nd (pi_keys (p_fld (pv 0))) (blkOk_by (N := ["self", "town", "name"]) (sc := defScope (mth 38 20)) (by decide +kernel)) (fun _ _ _ _ _ => pg_name (i := 2) sc_Signs_fits.nd rfl (Or.inl rfl)) (fun _ _ _ _ _ => pts_nil)
      (fun _ _ _ _ _ => methB K (pv 0) (ok_Signs_is_along T) (hr.mono (by decide)) (pa_cons (pv 2) (pa_cons (propB K (p := He.ma K (He.ga K "Street") "ends") (Own.pe_get (C := He.ga K "Town") T.o_Town_getitem.at_ T.o_Town_getitem.fi T.o_Town_getitem.fn (ok_Town_getitem T) hr (pv 1) (pv 2) (fun _ _ => rfl)) (ok_Street_ends T) (hr.mono (by decide))) pa_nil)))))))), ?_⟩
  have names_ok : ∀ z ∈ Ls.map nmR, nameB z = true := fun z hz => by
    obtain ⟨r, hr2, rfl⟩ := List.mem_map.mp hz
    exact (oks r hr2).n
  refine ⟨_, rfl, isi_place T hu.tg ⟨true, rfl, iteF ⟨_, rfl, s_names T hv.sg fun t ht => ⟨_, rfl, t_roads T hu.tg lt fun t2 H2 s2 e2 => ?_⟩⟩⟩⟩
  refine ⟨_, _, dp_strs (lx_t (lx s2) ht), dp_strs (.inl (.inl e2)), shaped_strs names_ok, by rw [← fit.nm]; exact shaped_strs names_ok, _, rfl, ?_⟩
  rw [eqv_strs, decide_eq_true fit.nm]
  refine iteF ?_
  have hv2 := hv.same s2
  obtain ⟨x, dx, d, tn, rfl, h1, h2, h3, h4⟩ := hv2
  refine ⟨d, _, h2, trivial, fun od => ?_⟩
  have lk : Lx H2 (upd H2 d (.frz od (.dK (dN Ls)))) := Lx.lock h2
  refine ⟨_, rfl, fldR (lx_i lk h1) T.c_Signs T.na_Signs_own_parts rfl ⟨d, od, rfl, .inl ⟨_, upd_same, fun D hD => ?_⟩⟩⟩
  refine lc_rep (b := true) (overK upd_same) hD (by unfold dN; rw [List.length_map]; omega) (fun p H3 K2 hp s3 k2 => ?_) (fun H3 s3 e3 => ?_)
  · obtain ⟨r, hr2, rfl⟩ := List.mem_map.mp hp
    obtain ⟨ru, hru, hn, hlo, hhi⟩ := fit.ends r hr2
    have lx3 : Lx H2 H3 := lk.trans (lx s3)
    have tg3 := hu.tg.lx ((lx s2).trans lx3)
    obtain ⟨xt, ext, isi⟩ := tg_isi tg3
    obtain ⟨y, dy, t', e, g1, g2⟩ := tg_rows tg3 ru hru
    refine ⟨rfl, _, rfl, x, _, dx, _, rfl, lx_i lx3 h1, T.c_Signs, T.m_Signs_is_along, rfl, _, rfl, _, rfl, _, rfl, xt, ext, isi, ⟨⟨u, Lt, ru, by rw [hn]; rfl, tg3, ndt, hru, ?_⟩⟩⟩
    refine ⟨y, He.ga K ru.2.cls, e, ⟨_, _, g1⟩, ru.2.cl T, ru.2.pEnds T, ⟨⟨_, ru.2, rfl, ⟨y, dy, t', rfl, g1, g2⟩, fun t4 ht4 => ?_⟩⟩⟩
    exact ⟨⟨_, Ls, r, t4, rfl, ⟨x, dx, d, tn, rfl, lx_i lx3 h1, .inr ⟨od, s3 _ _ upd_same⟩, lx_t lx3 h3, h4.lx lx3⟩, nds, hr2, oks r hr2, by rw [← hlo, ← hhi]; exact ht4, fun H' s' => k2 _ s'⟩⟩
  · have Dd : D ≠ d := fun z => by rw [z, upd_same] at hD; cases hD
    exact ⟨s3 _ _ upd_same, all_true (by rw [upd_ne Dd]; exact e3) (q _ (s2.trans (lock_back h2 s3)))⟩
end
end Tx
/-! ## DArcs -/
namespace Tx
open PySem PySem.Spec PyProof.Rows L2
/-- all but lists stand -/
def NL (H H' : Hp) : Prop := ∀ a o, (∀ l, o ≠ .lst l) → H a = some o → H' a = some o
theorem NL.refl (H : Hp) : NL H H := fun _ _ _ h => h
theorem NL.trans {H H1 H2 : Hp} (a : NL H H1) (b : NL H1 H2) : NL H H2 := fun x o n h => b x o n (a x o n h)
theorem nl_same {H H' : Hp} (s : Same H H') : NL H H' := fun a o _ h => s a o h
theorem nl_upd {H : Hp} {D : Addr} {l l' : List V} (h : H D = some (.lst l)) : NL H (upd H D (.lst l')) := fun a o n e => by
  rw [upd_ne (fun z => by rw [z, h] at e; exact n l (Option.some.inj e).symm)]
  exact e
theorem NL.sqT {K : PySem.W.Frag} {H H' : Hp} (s : NL H H') {a : Addr} {xs : List V} (h : SqT K H a xs) : SqT K H' a xs := by
  rcases h with (h | ⟨o, h⟩) | h
  · exact .inl (.inl (s _ _ (fun l z => by cases z) h))
  · exact .inl (.inr ⟨o, s _ _ (fun l z => by cases z) h⟩)
  · exact .inr h
theorem NL.dv {H H' : Hp} (s : NL H H') {d : Addr} {kvs : List (L2.Key × V)} (h : DV H d kvs) : DV H' d kvs := by
  rcases h with h | ⟨o, h⟩
  · exact .inl (s _ _ (fun l z => by cases z) h)
  · exact .inr ⟨o, s _ _ (fun l z => by cases z) h⟩
theorem NL.ins {H H' : Hp} (s : NL H H') {a C dx : Addr} {fs : List (Str × V)} (h : H a = some (.ins C dx fs)) : H' a = some (.ins C dx fs) := s _ _ (fun l z => by cases z) h
theorem NL.st {K : PySem.W.Frag} {H H' : Hp} (s : NL H H') {v : V} {st : St} (h : IsSt K H v st) : IsSt K H' v st := by
  obtain ⟨x, dx, t, e, h1, h2⟩ := h
  exact ⟨x, dx, t, e, s.ins h1, s.sqT h2⟩
theorem NL.rows {K : PySem.W.Frag} {H H' : Hp} (s : NL H H') {L : List Row} (h : Rows K H L) : Rows K H' L := fun p hp => s.st (h p hp)
theorem NL.prs {K : PySem.W.Frag} {H H' : Hp} (s : NL H H') {L : List Row} (h : Prs K H L) : Prs K H' L := fun p hp => by
  obtain ⟨t, e, h1⟩ := h p hp
  exact ⟨t, e, s.sqT h1⟩
theorem NL.sg {K : PySem.W.Frag} {H H' : Hp} (s : NL H H') {v : V} {L : List Row} (h : SG K H v L) : SG K H' v L := by
  obtain ⟨x, dx, d, t, e, h1, h2, h3, h4⟩ := h
  exact ⟨x, dx, d, t, e, s.ins h1, s.dv h2, s.sqT h3, s.prs h4⟩
theorem NL.tg {K : PySem.W.Frag} {H H' : Hp} (s : NL H H') {v : V} {L : List Row} (h : TG K H v L) : TG K H' v L := by
  obtain ⟨x, dx, d, t, c, e, h1, h2, h3, h4, h5⟩ := h
  exact ⟨x, dx, d, t, c, e, s.ins h1, s.dv h2, s.sqT h3, s.rows h4, h5⟩
theorem NL.w {K : PySem.W.Frag} {H H' : Hp} (s : NL H H') {v : V} {ys : List Str} (h : IsW K H v ys) : IsW K H' v ys := by
  obtain ⟨x, dx, t, e, h1, h2⟩ := h
  exact ⟨x, dx, t, e, s.ins h1, s.sqT h2⟩
/-- the walk of a tuple -/
theorem ittGo {K : PySem.W.Frag} {H : Hp} {a : Addr} {α : Type} {f : α → V} {L : List α} (h : SqT K H a (L.map f)) {i : Nat} (hi : i < L.length) : (Itt K a).go i H := ⟨_, f L[i], h, by rw [List.getElem?_map, List.getElem?_eq_getElem hi]; rfl⟩
theorem ittSt {K : PySem.W.Frag} {H : Hp} {a : Addr} {α : Type} {f : α → V} {L : List α} (h : SqT K H a (L.map f)) : (Itt K a).stop L.length H := ⟨_, h, by rw [List.length_map]; exact Nat.le_refl _⟩
theorem ittY {K : PySem.W.Frag} {H H' : Hp} {a : Addr} {α : Type} {f : α → V} {L : List α} (h : SqT K H a (L.map f)) {i : Nat} {x : V} (y : (Itt K a).yld i H x H') : H' = H ∧ ∃ p, L[i]? = some p ∧ x = f p := by
  refine ⟨y.1, ?_⟩
  have := y.2 _ h
  rw [List.getElem?_map] at this
  obtain ⟨z, h1, h2⟩ := Option.map_eq_some_iff.mp this
  exact ⟨z, h1, h2.symm⟩
/-! ### arcs -/
abbrev Arc : Type := Str × Str × Str
def IsA (K : PySem.W.Frag) (H : Hp) (v : V) (a : Arc) : Prop := ∃ t, v = .ref t ∧ SqT K H t [.str a.1, .str a.2.1, .str a.2.2]
/-- the values are these arcs, one by one -/
def IsAs (K : PySem.W.Frag) (H : Hp) : List V → List Arc → Prop
  | [], [] => True
  | v :: vs, a :: as => IsA K H v a ∧ IsAs K H vs as
  | _, _ => False
theorem IsAs.nl {K : PySem.W.Frag} {H H' : Hp} (s : NL H H') : ∀ {vs : List V} {as : List Arc}, IsAs K H vs as → IsAs K H' vs as
  | [], [], h => h
  | v :: vs, a :: as, h => by
    obtain ⟨⟨t, e, h1⟩, h2⟩ := h
    exact ⟨⟨t, e, s.sqT h1⟩, IsAs.nl s h2⟩
  | [], _ :: _, h => h.elim
  | _ :: _, [], h => h.elim
theorem IsAs.append {K : PySem.W.Frag} {H : Hp} : ∀ {vs : List V} {as : List Arc} {ws : List V} {bs : List Arc}, IsAs K H vs as → IsAs K H ws bs → IsAs K H (vs ++ ws) (as ++ bs)
  | [], [], _, _, _, h => h
  | v :: vs, a :: as, _, _, h, g => ⟨h.1, IsAs.append h.2 g⟩
  | [], _ :: _, _, _, h, _ => h.elim
  | _ :: _, [], _, _, h, _ => h.elim
theorem IsAs.len {K : PySem.W.Frag} {H : Hp} : ∀ {vs : List V} {as : List Arc}, IsAs K H vs as → vs.length = as.length
  | [], [], _ => rfl
  | v :: vs, a :: as, h => by rw [List.length_cons, List.length_cons, IsAs.len h.2]
  | [], _ :: _, h => h.elim
  | _ :: _, [], h => h.elim
theorem IsAs.get {K : PySem.W.Frag} {H : Hp} : ∀ {vs : List V} {as : List Arc} {i : Nat} {v : V}, IsAs K H vs as → vs[i]? = some v → ∃ a, as[i]? = some a ∧ IsA K H v a
  | v :: vs, a :: as, 0, x, h, e => by
    simp at e
    subst e
    exact ⟨a, rfl, h.1⟩
  | v :: vs, a :: as, i + 1, x, h, e => IsAs.get (i := i) h.2 (by simpa using e)
  | [], [], _, _, _, e => by simp at e
  | [], _ :: _, _, _, h, _ => h.elim
  | _ :: _, [], _, _, h, _ => h.elim
/-- the sign of a road -/
def signOf (Ls : List Row) (n : Str) : Option Row := Ls.find? fun r => decide (nmR r = n)
/-- the directions of a street -/
def arcsOf (Ls : List Row) : St → List Arc
  | .lane n s g => [(n, s, g)]
  | .avenue n a b => [(n, loS a b, hiS a b), (n, hiS a b, loS a b)]
  | .road n a b _ _ => match signOf Ls n with
    | some r => [(n, r.2.e1, r.2.e2)]
    | none => []
def arcsL (Lt Ls : List Row) : List Arc := Lt.flatMap fun r => arcsOf Ls r.2
theorem arcsOf_len (Ls : List Row) (s : St) : (arcsOf Ls s).length ≤ 2 := by
  cases s with
  | lane => show 1 ≤ 2; decide
  | avenue => show 2 ≤ 2; decide
  | road n a b p q =>
    unfold arcsOf
    simp only
    split <;> simp
theorem arcsL_len (Lt Ls : List Row) : (arcsL Lt Ls).length ≤ 2 * Lt.length := by
  unfold arcsL
  induction Lt with
  | nil => simp
  | cons r q ih =>
    rw [List.flatMap_cons, List.length_append, List.length_cons]
    have := arcsOf_len Ls r.2
    omega
section
variable {w : World} {K : PySem.W.Frag} {mg : Str → Option Value} {base : Heap} (T : Txt K mg)
theorem fld_st {H : Hp} {v : V} {s : St} {f : Str} {x : V} {Q : VK} (T : Txt K mg) (h : IsSt K H v s) (na : NoAttr K (He.ga K s.cls) f) (l : ∀ t, (s.fds t).lookup f = some x) (q : Q x H) : FldR K f v H Q := by
  obtain ⟨y, dy, t, rfl, h1, h2⟩ := h
  exact fldR h1 (s.cl T) na (l t) q
theorem sg_ins {H : Hp} {v : V} {L : List Row} (h : SG K H v L) : ∃ a dx d t, v = .ref a ∧ H a = some (.ins (He.ga K "Signs") dx (fdS d t)) := by
  obtain ⟨x, dx, d, t, rfl, h1, _⟩ := h
  exact ⟨x, dx, d, t, rfl, h1⟩
theorem rd_mem {L : List Row} {r : Row} (h : r ∈ L) (hr : isRd r.2 = true) : nmR r ∈ rdN L := List.mem_filterMap.mpr ⟨r, h, by rw [if_pos hr]⟩
/-- one more arc behind the list -/
theorem app_arc {H1 H : Hp} {D p : Addr} {acc : List V} {as : List Arc} {a : Arc} (sx : SameX D H1 H) (hD : H D = some (.lst acc)) (ha : IsAs K H acc as) (hp : H p = none) :
    D ≠ p ∧ (upd H p (.tup [.str a.1, .str a.2.1, .str a.2.2])) D = some (.lst acc) ∧ SameX D H1 (upd (upd H p (.tup [.str a.1, .str a.2.1, .str a.2.2])) D (.lst (acc ++ [.ref p]))) ∧
      (upd (upd H p (.tup [.str a.1, .str a.2.1, .str a.2.2])) D (.lst (acc ++ [.ref p]))) D = some (.lst (acc ++ [.ref p])) ∧ IsAs K (upd (upd H p (.tup [.str a.1, .str a.2.1, .str a.2.2])) D (.lst (acc ++ [.ref p]))) (acc ++ [.ref p]) (as ++ [a]) := by
  have Dp : D ≠ p := ne_of_none hD hp
  have hD2 : (upd H p (.tup [.str a.1, .str a.2.1, .str a.2.2])) D = some (.lst acc) := same_new hp _ _ hD
  refine ⟨Dp, hD2, (sx.trans (same_x (same_new hp))).trans sameX_upd, upd_same, ?_⟩
  have nl : NL H (upd (upd H p (.tup [.str a.1, .str a.2.1, .str a.2.2])) D (.lst (acc ++ [.ref p]))) := (nl_same (same_new hp)).trans (nl_upd hD2)
  exact (ha.nl nl).append ⟨⟨p, rfl, .inl (.inl (by rw [upd_ne (Ne.symm Dp), upd_same]))⟩, trivial⟩
def spArcs (K : PySem.W.Frag) : Sp := fun vs H Q _ => ∃ u v Lt Ls, vs = [u, v] ∧ TG K H u Lt ∧ SG K H v Ls ∧ (Ls.map nmR).Nodup ∧ Lt.length < 60 ∧ Ls.map nmR = rdN Lt ∧
  ∀ D acc H', Same H H' → H' D = some (.lst acc) → IsAs K H' acc (arcsL Lt Ls) → Q (.ref D) H'
theorem sc_arcs : FnScope ["town", "signs", "found", "street"] ["town", "signs"] (defScope (top 72)) := ⟨rfl, rfl, rfl, by decide +kernel, rfl, by decide +kernel, by decide +kernel⟩
include T in
theorem ok_arcs : Fn w K mg base 4 (He.ga K "arcs") (spArcs K) := by
  refine funR T.f_arcs sc_arcs (fun _ _ _ _ _ _ us hl => match us, hl with | [_, _], _ => rfl) (fun vs H Q E h => ?_) (fun cdv A outer s H vs Q E hr h => ?_)
  · obtain ⟨u, v, Lt, Ls, rfl, _⟩ := h; rfl
  obtain ⟨u, v, Lt, Ls, rfl, hu, hv, nds, lt, hnm, q⟩ := h
  refine ⟨_, pss_cons (ps_set (i := 2) sc_arcs.nd rfl (Or.inl rfl) (pe_lst pa_nil))
    (pss_cons (ps_for PassesOwn.never rfl (pi_tup (Own.pe_prop (p := He.ma K (He.ga K "Town") "streets") (pv 0) (ok_Town_streets T) (hr.mono (by decide)))) (pg_name (i := 3) sc_arcs.nd rfl (Or.inl rfl))
      (pss_one (ps_if (pt_val (p_isi T.n_isinstance (pv 3) (p_cl T.g_Lane)))
        (pss_one (ps_expr (pe_bm F.plainAttrs_list F.slot_list_append F.type_list_append mt_append (pv 2) (pa_cons (pe_tup (pa_cons (p_fld (pv 3)) (pa_cons (p_fld (pv 3)) (pa_cons (p_fld (pv 3)) pa_nil)))) pa_nil))))
        (pss_one (ps_if (pt_val (p_isi T.n_isinstance (pv 3) (p_cl T.g_Road)))
          (pss_one (ps_expr (pe_bm F.plainAttrs_list F.slot_list_append F.type_list_append mt_append (pv 2) (pa_cons (pe_tup (pa_cons (p_fld (pv 3)) (pa_cons (Own.pe_meth (pv 1) (ok_Signs_tail T) (hr.mono (by decide)) (pa_cons (p_fld (pv 3)) pa_nil)) (pa_cons (Own.pe_get (C := He.ga K "Signs") T.o_Signs_getitem.at_ T.o_Signs_getitem.fi T.o_Signs_getitem.fn (ok_Signs_getitem T) hr (pv 1) (p_fld (pv 3)) (fun _ _ => rfl)) pa_nil)))) pa_nil))))
          (pss_one (ps_expr (pe_bm F.plainAttrs_list F.slot_list_extend F.type_list_extend mt_extend (pv 2) (pa_cons (pe_lst (pa_cons (pe_tup (pa_cons (p_fld (pv 3)) (pa_cons (p_fld (pv 3)) (pa_cons (p_fld (pv 3)) pa_nil)))) (pa_cons (pe_tup (pa_cons (p_fld (pv 3)) (pa_cons (p_fld (pv 3)) (pa_cons (p_fld (pv 3)) pa_nil)))) pa_nil))) pa_nil)))))))))
    (pss_one (ps_ret (pv 2)))), ?_⟩
  refine ⟨by decide, fun D hD => ?_⟩
  have hv1 := hv.lx (lx (same_new (o := .lst []) hD))
  have hu1 := hu.lx (lx (same_new (o := .lst []) hD))
  have hu1' := hu1
  obtain ⟨x, dx, d, t, c, rfl, h1, h2, h3, h4, h5⟩ := hu1'
  refine ⟨_, rfl, x, _, rfl, ⟨dx, _, h1⟩, T.c_Town, T.p_Town_streets, ⟨⟨_, Lt, rfl, hu1, fun t' ht' => ⟨t', rfl, ⟨_, ht'⟩, ?_⟩⟩⟩⟩
  have nlx : ∀ {H'}, SameX D (upd H D (.lst [])) H' → NL (upd H D (.lst [])) H' := fun {H'} s a o n e => s a o (fun z => by rw [z, upd_same] at e; exact n [] (Option.some.inj e).symm) e
  refine for_any (n := Lt.length) (fun i σ H' => SameX D (upd H D (.lst [])) H' ∧ (∃ acc, H' D = some (.lst acc) ∧ IsAs K H' acc (arcsL (Lt.take i) Ls)) ∧ ∃ y, σ = [some (.ref x), some v, some (.ref D), y])
    ⟨fun _ _ _ h => h, ⟨[], upd_same, trivial⟩, _, rfl⟩ (fun i σ H' hi p => ittGo (f := fun r : Row => r.1) ((nlx p.1).sqT ht') hi) (fun σ H' p => ittSt (f := fun r : Row => r.1) ((nlx p.1).sqT ht')) (fun i z σ H2 H3 hi p y => ?_) (fun σ H2 p => ?_)
  · obtain ⟨sx, ⟨acc, hDa, ha⟩, y', rfl⟩ := p
    obtain ⟨rfl, p0, hp, rfl⟩ := ittY (f := fun r : Row => r.1) ((nlx sx).sqT ht') y
    obtain ⟨vr, st⟩ := p0
    have hst : IsSt K H3 vr st := (nlx sx).st (h4 _ (List.mem_of_getElem? hp))
    have hs3 := (nlx sx).sg hv1
    have tk : arcsL (Lt.take (i + 1)) Ls = arcsL (Lt.take i) Ls ++ arcsOf Ls st := by
      unfold arcsL
      rw [List.take_succ, hp, List.flatMap_append]
      simp
    have alen : acc.length < 1000 := by
      have := ha.len
      have := arcsL_len (Lt.take i) Ls
      rw [List.length_take] at this
      omega
    have hz : acc.length < sizeLine := by rw [sizeLine_eq]; omega
    refine ⟨_, rfl, isi_lane T hst ?_⟩
    cases st with
    | lane n a b =>
      refine ⟨true, rfl, iteT ⟨_, rfl, .inl ⟨rfl, _, .inl (.inl hDa)⟩, _, rfl, fld_st T hst T.na_Lane_name (fun _ => rfl) ⟨_, rfl, fld_st T hst T.na_Lane_start (fun _ => rfl) ⟨_, rfl, fld_st T hst T.na_Lane_goal (fun _ => rfl) ⟨by show 3 ≤ sizeLine; decide, fun p hp => ?_⟩⟩⟩⟩⟩
      obtain ⟨g1, g2, g3, g4, g5⟩ := app_arc (a := (n, a, b)) sx hDa ha hp
      exact ⟨D, acc, _, rfl, rfl, g2, hz, g3, ⟨_, g4, by rw [tk]; exact g5⟩, _, rfl⟩
    | road n a b pp qq =>
      refine ⟨false, rfl, iteF ⟨_, rfl, isi_road T hst ⟨true, rfl, iteT ?_⟩⟩⟩
      obtain ⟨sa, sdx, sd, stt, rfl, hsi⟩ := sg_ins hs3
      have hm : n ∈ Ls.map nmR := by
        rw [hnm]
        exact rd_mem (List.mem_of_getElem? hp) rfl
      obtain ⟨r, hr2, hn⟩ := List.mem_map.mp hm
      have hso : arcsOf Ls (.road n a b pp qq) = [(n, r.2.e1, r.2.e2)] := by
        have := find_name Ls r nds hr2
        rw [hn] at this
        show (match signOf Ls n with | some r => [(n, r.2.e1, r.2.e2)] | none => []) = _
        unfold signOf
        rw [this]
      refine ⟨_, rfl, .inl ⟨rfl, _, .inl (.inl hDa)⟩, _, rfl, fld_st T hst T.na_Road_name (fun _ => rfl) ⟨_, rfl, sa, _, sdx, _, rfl, hsi, T.c_Signs, T.m_Signs_tail, rfl, _, rfl, fld_st T hst T.na_Road_name (fun _ => rfl) ?_⟩⟩
      refine ⟨⟨_, Ls, r, by rw [hn], hs3, nds, hr2, ?_⟩⟩
      refine ⟨_, rfl, _, rfl, fld_st T hst T.na_Road_name (fun _ => rfl) ⟨sa, rfl, ⟨sdx, _, hsi⟩, ⟨⟨_, Ls, r, by rw [hn], hs3, nds, hr2, ⟨by show 3 ≤ sizeLine; decide, fun p hp => ?_⟩⟩⟩⟩⟩
      obtain ⟨g1, g2, g3, g4, g5⟩ := app_arc (a := (n, r.2.e1, r.2.e2)) sx hDa ha hp
      exact ⟨D, acc, _, rfl, rfl, g2, hz, g3, ⟨_, g4, by rw [tk, hso]; exact g5⟩, _, rfl⟩
    | avenue n a b =>
      refine ⟨false, rfl, iteF ⟨_, rfl, isi_road T hst ⟨false, rfl, iteF ?_⟩⟩⟩
      refine ⟨_, rfl, .inl ⟨rfl, _, .inl (.inl hDa)⟩, _, rfl, fld_st T hst T.na_Avenue_name (fun _ => rfl) ⟨_, rfl, fld_st T hst T.na_Avenue_one (fun _ => rfl) ⟨_, rfl, fld_st T hst T.na_Avenue_other (fun _ => rfl) ⟨by show 3 ≤ sizeLine; decide, fun p hp => ?_⟩⟩⟩⟩
      have hst2 := hst.lx (lx (same_new (o := .tup [.str n, .str (loS a b), .str (hiS a b)]) hp))
      refine ⟨_, rfl, fld_st T hst2 T.na_Avenue_name (fun _ => rfl) ⟨_, rfl, fld_st T hst2 T.na_Avenue_other (fun _ => rfl) ⟨_, rfl, fld_st T hst2 T.na_Avenue_one (fun _ => rfl) ⟨by show 3 ≤ sizeLine; decide, fun p2 hp2 => ⟨by show 2 ≤ sizeLine; decide, fun l hl => ?_⟩⟩⟩⟩⟩
      have Dp := ne_of_none hDa hp
      have s1 := same_new (o := .tup [.str n, .str (loS a b), .str (hiS a b)]) hp
      have s2 := s1.trans (same_new (o := .tup [.str n, .str (hiS a b), .str (loS a b)]) hp2)
      have s3 := s2.trans (same_new (o := .lst [V.ref p, V.ref p2]) hl)
      have hD3 := s3 _ _ hDa
      refine ⟨D, l, acc, [.ref p, .ref p2], rfl, rfl, hD3, upd_same, by show acc.length + 2 ≤ sizeLine; rw [sizeLine_eq]; omega, ((sx.trans (same_x s3)).trans sameX_upd), ⟨_, upd_same, ?_⟩, _, rfl⟩
      rw [tk]
      have nl := (nl_same s3).trans (nl_upd (l' := acc ++ [.ref p, .ref p2]) hD3)
      have np : p ≠ p2 := fun z => by rw [← z, upd_same] at hp2; cases hp2
      have npl : p ≠ l := ne_of_none (o := .tup [.str n, .str (loS a b), .str (hiS a b)]) (by rw [upd_ne np, upd_same]) hl
      have np2l : p2 ≠ l := fun z => by rw [← z, upd_same] at hl; cases hl
      have Dp2 : D ≠ p2 := ne_of_none (s1 _ _ hDa) hp2
      refine (ha.nl nl).append ⟨⟨p, rfl, .inl (.inl ?_)⟩, ⟨p2, rfl, .inl (.inl ?_)⟩, trivial⟩
      · rw [upd_ne (Ne.symm Dp), upd_ne npl, upd_ne np, upd_same]
      · rw [upd_ne (Ne.symm Dp2), upd_ne np2l, upd_same]
  · obtain ⟨sx, ⟨acc, hDa, ha⟩, y', rfl⟩ := p
    rw [List.take_length] at ha
    refine ⟨_, rfl, q D acc H2 (fun a o e => sx a o (ne_of_none e hD) (same_new hD a o e)) hDa ha⟩
end
end Tx
/-! ## DChecks -/
namespace Tx
open PySem PySem.Spec PyProof.Rows L2
section
variable {w : World} {K : PySem.W.Frag} {mg : Str → Option Value} {base : Heap} (T : Txt K mg)
def spNT (K : PySem.W.Frag) : Sp := fun vs H Q _ => ∃ u L, vs = [u] ∧ TG K H u L ∧ Q .non H
theorem sc_need_town : FnScope ["town"] ["town"] (defScope (top 66)) := ⟨rfl, rfl, rfl, by decide +kernel, rfl, by decide +kernel, by decide +kernel⟩
include T in
theorem ok_need_town : Fn w K mg base 1 (He.ga K "need_town") (spNT K) := by
  refine funR T.f_need_town sc_need_town (fun _ _ _ _ _ _ us hl => match us, hl with | [_], _ => rfl) (fun vs H Q E h => ?_) (fun cdv A outer s H vs Q E hr h => ?_)
  · obtain ⟨v, L, rfl, _⟩ := h; rfl
  obtain ⟨v, L, rfl, hv, q⟩ := h
  refine ⟨_, pss_one (ps_if (pt_not (pt_val (p_isi T.n_isinstance (pv 0) (p_cl T.g_Town)))) pss_never pss_nil), ?_⟩
  exact ⟨_, rfl, isi_town T hv ⟨true, rfl, iteF q⟩⟩
def FitP (K : PySem.W.Frag) (H : Hp) (u v : V) (Lt Ls : List Row) (cs : List Str) : Prop := IsS K H v Ls ∧ IsT K H u Lt cs ∧ (Ls.map nmR).Nodup ∧ (Lt.map nmR).Nodup ∧ (∀ r ∈ Ls, r.2.Ok) ∧ Ls.length < 60 ∧ Lt.length < 60 ∧ Fits Ls Lt
theorem FitP.same {H H' : Hp} {u v : V} {Lt Ls : List Row} {cs : List Str} (h : FitP K H u v Lt Ls cs) (s : Same H H') : FitP K H' u v Lt Ls cs := ⟨h.1.same s, h.2.1.same s, h.2.2⟩
def spNF (K : PySem.W.Frag) : Sp := fun vs H Q _ => ∃ u v Lt Ls cs, vs = [u, v] ∧ FitP K H u v Lt Ls cs ∧ ∀ H', Same H H' → Q .non H'
theorem sc_need_fit : FnScope ["town", "signs"] ["town", "signs"] (defScope (top 67)) := ⟨rfl, rfl, rfl, by decide +kernel, rfl, by decide +kernel, by decide +kernel⟩
include T in
theorem ok_need_fit : Fn w K mg base 5 (He.ga K "need_fit") (spNF K) := by
  refine funR T.f_need_fit sc_need_fit (fun _ _ _ _ _ _ us hl => match us, hl with | [_, _], _ => rfl) (fun vs H Q E h => ?_) (fun cdv A outer s H vs Q E hr h => ?_)
  · obtain ⟨u, v, Lt, Ls, cs, rfl, _⟩ := h; rfl
  obtain ⟨u, v, Lt, Ls, cs, rfl, ⟨hv, hu, h3, h4, h5, h6, h7, h8⟩, q⟩ := h
  refine ⟨_, pss_cons (ps_if (pt_not (pt_val (p_isi T.n_isinstance (pv 1) (p_cl T.g_Signs)))) pss_never pss_nil)
    (pss_one (ps_if (pt_not (pt_val (Own.pe_meth (pv 1) (ok_Signs_fits T) hr (pa_cons (pv 0) pa_nil)))) pss_never pss_nil)), ?_⟩
  obtain ⟨a, dx, d, t, e, h1⟩ := sg_ins hv.sg
  refine ⟨_, rfl, isi_signs T hv.sg ⟨true, rfl, iteF ⟨_, rfl, a, _, dx, _, e, h1, T.c_Signs, T.m_Signs_fits, rfl, _, rfl, ⟨⟨_, _, Ls, Lt, cs, rfl, hv, hu, h3, h4, h5, h6, h7, h8, fun H' s => ⟨true, rfl, iteF (q H' s)⟩⟩⟩⟩⟩⟩
def spNN : Sp := fun vs H Q _ => ∃ i : Int, vs = [.int i] ∧ 1 ≤ i ∧ i ≤ 20 ∧ Q .non H
theorem sc_need_need : FnScope ["need"] ["need"] (defScope (top 68)) := ⟨rfl, rfl, rfl, by decide +kernel, rfl, by decide +kernel, by decide +kernel⟩
include T in
theorem ok_need_need : Fn w K mg base 4 (He.ga K "need_need") spNN := by
  refine funR T.f_need_need sc_need_need (fun _ _ _ _ _ _ us hl => match us, hl with | [_], _ => rfl) (fun vs H Q E h => ?_) (fun cdv A outer s H vs Q E hr h => ?_)
  · obtain ⟨i, rfl, _⟩ := h; rfl
  obtain ⟨i, rfl, h1, h2, q⟩ := h
  refine ⟨_, pss_one (ps_if (pt_not (pt_val (Own.pe_call (ok_is_need T) hr (by rfl) T.g_is_need T.k_is_need (pa_cons (pv 0) pa_nil)))) pss_never pss_nil), ?_⟩
  exact ⟨_, rfl, ⟨⟨i, rfl, h1, h2, true, rfl, iteF q⟩⟩⟩
def spNWT (K : PySem.W.Frag) : Sp := fun vs H Q _ => ∃ u v ys L cs, vs = [u, v] ∧ IsW K H v ys ∧ IsT K H u L cs ∧ cs.Nodup ∧ WOf cs ys ∧ ∀ H', Same H H' → Q .non H'
theorem sc_need_ward : FnScope ["town", "ward"] ["town", "ward"] (defScope (top 69)) := ⟨rfl, rfl, rfl, by decide +kernel, rfl, by decide +kernel, by decide +kernel⟩
include T in
theorem ok_need_ward : Fn w K mg base 4 (He.ga K "need_ward") (spNWT K) := by
  refine funR T.f_need_ward sc_need_ward (fun _ _ _ _ _ _ us hl => match us, hl with | [_, _], _ => rfl) (fun vs H Q E h => ?_) (fun cdv A outer s H vs Q E hr h => ?_)
  · obtain ⟨u, v, ys, L, cs, rfl, _⟩ := h; rfl
  obtain ⟨u, v, ys, L, cs, rfl, hv, hu, nd, wo, q⟩ := h
  refine ⟨_, pss_cons (ps_if (pt_not (pt_val (p_isi T.n_isinstance (pv 1) (p_cl T.g_Ward)))) pss_never pss_nil)
    (pss_one (ps_if (pt_not (pt_val (Own.pe_meth (pv 1) (ok_Ward_is_of T) hr (pa_cons (pv 0) pa_nil)))) pss_never pss_nil)), ?_⟩
  obtain ⟨a, dx, fs, e, h1, t, ef⟩ := w_ins hv
  refine ⟨_, rfl, isi_ward T hv ⟨true, rfl, iteF ⟨_, rfl, a, _, dx, fs, e, h1, T.c_Ward, T.m_Ward_is_of, by subst ef; rfl, _, rfl, ⟨⟨_, _, ys, L, cs, rfl, hv, hu, nd, wo, fun H' s => ⟨true, rfl, iteF (q H' s)⟩⟩⟩⟩⟩⟩
def spNS (K : PySem.W.Frag) : Sp := fun vs H Q _ => ∃ u L, vs = [u] ∧ TG K H u L ∧ L ≠ [] ∧ L.length < 60 ∧ Q .non H
theorem sc_need_streets : FnScope ["town"] ["town"] (defScope (top 70)) := ⟨rfl, rfl, rfl, by decide +kernel, rfl, by decide +kernel, by decide +kernel⟩
include T in
theorem ok_need_streets : Fn w K mg base 3 (He.ga K "need_streets") (spNS K) := by
  refine funR T.f_need_streets sc_need_streets (fun _ _ _ _ _ _ us hl => match us, hl with | [_], _ => rfl) (fun vs H Q E h => ?_) (fun cdv A outer s H vs Q E hr h => ?_)
  · obtain ⟨v, L, rfl, _⟩ := h; rfl
  obtain ⟨v, L, rfl, hv, hne, hl, q⟩ := h
  refine ⟨_, pss_one (ps_if (pt_cmpR op_eq (p_b1 (Own.cr_lenO (C := He.ga K "Town") T.o_Town_len.at_ T.o_Town_len.fn (ok_Town_len T) hr) bt_len T.n_len (pv 0)) pe_int (nomark _)) pss_never pss_nil), ?_⟩
  obtain ⟨a, e, isi⟩ := tg_isi hv
  subst e
  refine ⟨_, rfl, ⟨⟨a, rfl, isi, ⟨⟨_, L, rfl, hv, L.length, rfl, by omega, rfl, _, rfl, ?_⟩⟩⟩⟩⟩
  rw [decide_eq_false (fun z => by injection z with z; cases L with | nil => exact hne rfl | cons _ _ => simp at z; omega)]
  exact iteF q
/-! ### counts -/
def inB (ys : List Str) (a : Arc) : Bool := !decide (a.2.1 ∈ ys) && decide (a.2.2 ∈ ys)
def cnt (as : List Arc) (ys : List Str) : Nat := (as.filter (inB ys)).length
def spCnt (K : PySem.W.Frag) : Sp := fun vs H Q _ => ∃ D acc as v ys, vs = [.ref D, v] ∧ SqL K H D acc ∧ IsAs K H acc as ∧ as.length < 1000 ∧ IsW K H v ys ∧ ∀ H', Same H H' → Q (.int (cnt as ys : Nat)) H'
theorem sc_count_into : FnScope ["rows", "ward", "held", "name", "start", "goal"] ["rows", "ward"] (defScope (top 73)) := ⟨rfl, rfl, rfl, by decide +kernel, rfl, by decide +kernel, by decide +kernel⟩
theorem cnt_len (as : List Arc) (ys : List Str) : (as.filterMap fun a => if inB ys a = true then some (V.str a.1) else none).length = cnt as ys := by
  unfold cnt
  induction as with
  | nil => rfl
  | cons a r ih =>
    by_cases h : inB ys a = true
    · rw [List.filterMap_cons_some (by rw [if_pos h]), List.filter_cons_of_pos h, List.length_cons, List.length_cons, ih]
    · rw [List.filterMap_cons_none (by rw [if_neg h]), List.filter_cons_of_neg h, ih]
include T in
theorem ok_count_into : Fn w K mg base 3 (He.ga K "count_into") (spCnt K) := by
  refine funR T.f_count_into sc_count_into (fun _ _ _ _ _ _ us hl => match us, hl with | [_, _], _ => rfl) (fun vs H Q E h => ?_) (fun cdv A outer s H vs Q E hr h => ?_)
  · obtain ⟨D, acc, as, v, ys, rfl, _⟩ := h; rfl
  obtain ⟨D0, acc, as, v, ys, rfl, hD0, has, hlen, hv, q⟩ := h
  refine ⟨_, pss_cons (ps_set (i := 2) sc_count_into.nd rfl (Or.inr rfl) (Own.pe_prop (p := He.ma K (He.ga K "Ward") "corners") (pv 1) (ok_Ward_corners T) (hr.mono (by decide))))
    (pss_one (ps_ret (p_b1 call_len_seq bt_len T.n_len (pe_lc (own := [("name", 3), ("start", 4), ("goal", 5)]) (g := gTup K 3 (gCons (gName 3) (gCons (gName 4) (gCons (gName 5) gNil)))) rfl sc_count_into.nd (pi_list (pv 0)) (blkOk_by (N := ["rows", "ward", "held", "name", "start", "goal"]) (sc := defScope (top 73)) (by decide +kernel))
      (fun _ _ _ _ _ => gtupB (n := 3) K rfl (pgs_cons (pg_name (i := 3) sc_count_into.nd rfl (Or.inl rfl)) (pgs_cons (pg_name (i := 4) sc_count_into.nd rfl (Or.inl rfl)) (pgs_cons (pg_name (i := 5) sc_count_into.nd rfl (Or.inl rfl)) pgs_nil))))
      (fun _ _ _ _ _ => pts_one (PW.pt (pw_and (pt_cmpR (opB_notIn K) (pv 4) (pv 2) (by rfl)) (pw_and1 (pt_cmpR (opB_in K) (pv 5) (pv 2) (by rfl)))))) (fun _ _ _ _ _ => pv 3))))), ?_⟩
  have hl := has.len
  refine ⟨_, rfl, w_corners T hv fun t ht => ⟨_, rfl, D0, rfl, ⟨_, hD0⟩, fun D hD => ?_⟩⟩
  refine lc_pure (n := as.length) (fun i => as[i]?.bind fun a => if inB ys a = true then some (V.str a.1) else none) hD (by omega) (fun i H2 hi s => itl_go hD0 (by omega) s) (fun H2 s => by have := itl_st hD0 s; rwa [hl] at this) (fun i x H2 H3 K1 K2 hi s y k2 k1 => ?_) (fun H2 s2 e2 => ?_)
  · obtain ⟨rfl, hx⟩ := itl_y hD0 s y
    obtain ⟨a, ha, u, rfl, hu⟩ := has.get hx
    rw [ha] at k2 k1
    have hu3 := lx_t (lx s) hu
    have ht3 := lx_t (lx s) ht
    refine ⟨u, _, rfl, hu3, rfl, _, _, rfl, _, _, rfl, _, _, rfl, rfl, rfl, _, rfl, _, rfl, niT ht3 ⟨_, rfl, ?_⟩⟩
    have e0 : inB ys a = (!decide (a.2.1 ∈ ys) && decide (a.2.2 ∈ ys)) := rfl
    cases b1 : decide (a.2.1 ∈ ys) with
    | true =>
      rw [b1] at e0
      refine iteF (iteF (k1 _ ?_ (Same.refl _)))
      show (if inB ys a = true then some (V.str a.1) else none) = none
      rw [e0]; rfl
    | false =>
      rw [b1] at e0
      refine iteT ⟨_, rfl, _, rfl, inT ht3 ⟨_, rfl, ?_⟩⟩
      cases b2 : decide (a.2.2 ∈ ys) with
      | true =>
        rw [b2] at e0
        refine iteT ⟨_, rfl, k2 _ _ ?_ (Same.refl _)⟩
        show (if inB ys a = true then some (V.str a.1) else none) = _
        rw [e0]; rfl
      | false =>
        rw [b2] at e0
        refine iteF (k1 _ ?_ (Same.refl _))
        show (if inB ys a = true then some (V.str a.1) else none) = none
        rw [e0]; rfl
  · rw [range_map] at e2
    refine ⟨⟨D, _, rfl, .inl (.inl (.inl e2)), ?_⟩⟩
    rw [cnt_len]
    exact q _ s2
end
end Tx
/-! ## DGood -/
namespace Tx
open PySem PySem.Spec PyProof.Rows L2 GFor
section
variable {w : World} {K : PySem.W.Frag} {mg : Str → Option Value} {base : Heap} (T : Txt K mg)
def spInto (K : PySem.W.Frag) : Sp := fun vs H Q _ => ∃ u v z Lt Ls cs ys, vs = [u, v, z] ∧ FitP K H u v Lt Ls cs ∧ IsW K H z ys ∧ cs.Nodup ∧ WOf cs ys ∧ ∀ H', Same H H' → Q (.int (cnt (arcsL Lt Ls) ys : Nat)) H'
theorem sc_into : FnScope ["town", "signs", "ward"] ["town", "signs", "ward"] (defScope (top 74)) := ⟨rfl, rfl, rfl, by decide +kernel, rfl, by decide +kernel, by decide +kernel⟩
include T in
theorem ok_into : Fn w K mg base 6 (He.ga K "into") (spInto K) := by
  refine funR T.f_into sc_into (fun _ _ _ _ _ _ us hl => match us, hl with | [_, _, _], _ => rfl) (fun vs H Q E h => ?_) (fun cdv A outer s H vs Q E hr h => ?_)
  · obtain ⟨u, v, z, Lt, Ls, cs, ys, rfl, _⟩ := h; rfl
  obtain ⟨u, v, z, Lt, Ls, cs, ys, rfl, hf, hz, nd, wo, q⟩ := h
  refine ⟨_, pss_cons (ps_expr (Own.pe_call (ok_need_town T) (hr.mono (by decide)) (by rfl) T.g_need_town T.k_need_town (pa_cons (pv 0) pa_nil)))
    (pss_cons (ps_expr (Own.pe_call (ok_need_fit T) (hr.mono (by decide)) (by rfl) T.g_need_fit T.k_need_fit (pa_cons (pv 0) (pa_cons (pv 1) pa_nil))))
    (pss_cons (ps_expr (Own.pe_call (ok_need_ward T) (hr.mono (by decide)) (by rfl) T.g_need_ward T.k_need_ward (pa_cons (pv 0) (pa_cons (pv 2) pa_nil))))
    (pss_one (ps_ret (Own.pe_call (ok_count_into T) (hr.mono (by decide)) (by rfl) T.g_count_into T.k_count_into (pa_cons (Own.pe_call (ok_arcs T) (hr.mono (by decide)) (by rfl) T.g_arcs T.k_arcs (pa_cons (pv 0) (pa_cons (pv 1) pa_nil))) (pa_cons (pv 2) pa_nil))))))), ?_⟩
  refine ⟨_, rfl, ⟨⟨_, Lt, rfl, hf.2.1.tg, _, rfl, _, rfl, ⟨⟨_, _, Lt, Ls, cs, rfl, hf, fun H2 s2 => ?_⟩⟩⟩⟩⟩
  refine ⟨_, rfl, _, rfl, ⟨⟨_, _, ys, Lt, cs, rfl, hz.same s2, hf.2.1.same s2, nd, wo, fun H3 s3 => ?_⟩⟩⟩
  have hf3 := hf.same (s2.trans s3)
  obtain ⟨f1, f2, f3, f4, f5, f6, f7, f8⟩ := hf3
  refine ⟨_, rfl, _, rfl, ⟨⟨_, _, Lt, Ls, rfl, f2.tg, f1.sg, f3, f7, f8.nm, fun D acc H4 s4 hD has => ?_⟩⟩⟩
  have := arcsL_len Lt Ls
  refine ⟨_, rfl, ⟨⟨D, acc, _, _, ys, rfl, .inl (.inl hD), has, by omega, hz.same ((s2.trans s3).trans s4), fun H5 s5 => q _ (((s2.trans s3).trans s4).trans s5)⟩⟩⟩
/-- the least count -/
structure Least (as : List Arc) (wl : List (List Str)) (m : Nat) : Prop where
  le : ∀ c ∈ wl, m ≤ cnt as c
  ex : ∃ c ∈ wl, m = cnt as c
/-- what the wards ask -/
structure TownW (cs ys : List Str) : Prop where
  few : cs.length ≤ 7
  nm : ∀ c ∈ cs, nameB c = true
  nd : cs.Nodup
  wd : Wd cs ys
  two : 2 ≤ cs.length
def spWk (K : PySem.W.Frag) : Sp := fun vs H Q _ => ∃ u v Lt Ls cs ys, vs = [u, v] ∧ FitP K H u v Lt Ls cs ∧ TownW cs ys ∧ ∀ t (m : Nat) x H', Same H H' → SqT K H' t [.int m, x] → Least (arcsL Lt Ls) (wardsL ys) m → Q (.ref t) H'
theorem sc_weakest : FnScope ["town", "signs", "rows", "least", "found", "ward", "many"] ["town", "signs"] (defScope (top 76)) := ⟨rfl, rfl, rfl, by decide +kernel, rfl, by decide +kernel, by decide +kernel⟩
include T in
theorem ok_weakest : Fn w K mg base 18 (He.ga K "weakest") (spWk K) := by
  obtain ⟨fdI, GI, BI⟩ := ok_Town_wards (w := w) (base := base) T
  refine funR T.f_weakest sc_weakest (fun _ _ _ _ _ _ us hl => match us, hl with | [_, _], _ => rfl) (fun vs H Q E h => ?_) (fun cdv A outer s H vs Q E hr h => ?_)
  · obtain ⟨u, v, Lt, Ls, cs, ys, rfl, _⟩ := h; rfl
  obtain ⟨u, v, Lt, Ls, cs, ys, rfl, hf, tw, q⟩ := h
  refine ⟨_, pss_cons (ps_set (i := 2) sc_weakest.nd rfl (Or.inl rfl) (Own.pe_call (ok_arcs T) (hr.mono (by decide)) (by rfl) T.g_arcs T.k_arcs (pa_cons (pv 0) (pa_cons (pv 1) pa_nil))))
    (pss_cons (ps_asg (pe_tup (pa_cons pe_non (pa_cons pe_non pa_nil))) (pg_tup rfl (pgs_cons (pg_name (i := 3) sc_weakest.nd rfl (Or.inl rfl)) (pgs_cons (pg_name (i := 4) sc_weakest.nd rfl (Or.inl rfl)) pgs_nil))))
    (pss_cons (ps_forG rfl hr (pgenF_meth0 (dvs := []) (pv 0) T.c_Town T.m_Town_wards GI (hr.mono (by decide)) BI .nil) (pg_name (i := 5) sc_weakest.nd rfl (Or.inl rfl))
      (pss_cons (ps_set (i := 6) sc_weakest.nd rfl (Or.inl rfl) (Own.pe_call (ok_count_into T) (hr.mono (by decide)) (by rfl) T.g_count_into T.k_count_into (pa_cons (pv 2) (pa_cons (pv 5) pa_nil))))
      (pss_one (ps_if (PW.pt (pw_or (pt_cmpR op_isN (pv 3) pe_non (nomark _)) (pw_or1 (pt_cmpR op_lt (pv 6) (pv 3) (nomark _))))) (pss_one (ps_par (i := 3) (j := 4) rfl sc_weakest.nd rfl rfl (by decide) rfl rfl (pa_cons (pv 6) (pa_cons (pv 5) pa_nil)) (by rfl))) pss_nil))))
    (pss_one (ps_ret (pe_tup (pa_cons (pv 3) (pa_cons (pv 4) pa_nil))))))), ?_⟩
  have hf' := hf
  obtain ⟨f1, f2, f3, f4, f5, f6, f7, f8⟩ := hf'
  refine ⟨_, rfl, _, rfl, ⟨⟨_, _, Lt, Ls, rfl, f2.tg, f1.sg, f3, f7, f8.nm, fun D acc H2 s2 hD has => ?_⟩⟩⟩
  refine ⟨by show 2 ≤ sizeLine; decide, fun p hp => ⟨p, _, rfl, .inl (.inl upd_same), rfl, _, _, rfl, _, _, rfl, rfl, ?_⟩⟩
  have s3 := s2.trans (same_new (o := .tup [.non, .non]) hp)
  have hD3 := same_new (o := .tup [.non, .non]) hp _ _ hD
  have has3 := has.nl (nl_same (same_new (o := .tup [.non, .non]) hp))
  have hu3 := f2.same s3
  have hu3' := hu3
  obtain ⟨x, dx, d, t, c, rfl, h1, h2⟩ := hu3'
  refine ⟨_, rfl, x, dx, _, rfl, h1, rfl, _, _, ⟨_, Lt, cs, ys, rfl, hu3, tw.few, tw.nm, tw.nd, tw.wd, rfl, rfl⟩, ?_⟩
  have alen : (arcsL Lt Ls).length < 1000 := by have := arcsL_len Lt Ls; omega
  refine ⟨fun i σ Hw => Same (upd H2 p (.tup [.non, .non])) Hw ∧ ∃ y z a b, σ = [some (.ref x), some v, some (.ref D), some y, some z, a, b] ∧ ((i = 0 ∧ y = .non) ∨ ∃ m : Nat, y = .int m ∧ Least (arcsL Lt Ls) ((wardsL ys).take i) m),
    ⟨Same.refl _, _, _, _, _, rfl, .inl ⟨rfl, rfl⟩⟩, fun σ Hw H4 w4 s4 => ?_, fun i σ Hw H4 z hi w4 s4 it => ?_⟩
  · obtain ⟨sw, y, z, a, b, rfl, hy⟩ := w4
    have hwl : (wardsL ys).length ≠ 0 := by
      intro hz
      have hyl := tw.wd.len tw.nd
      have : wardsL ys = [] := List.length_eq_zero_iff.mp hz
      cases ys with
      | nil => have := tw.two; rw [← hyl] at this; simp at this
      | cons y0 r =>
        have hm : [y0] ∈ wardsL (y0 :: r) := wards_mem.mpr ⟨(List.nil_sublist r).cons_cons y0, by simp, by have := tw.two; rw [← hyl] at this; simp at this ⊢; omega⟩
        rw [this] at hm
        cases hm
    rcases hy with ⟨h0, _⟩ | ⟨m, rfl, hm⟩
    · exact absurd h0 hwl
    · rw [List.take_length] at hm
      refine ⟨_, rfl, _, rfl, by show 2 ≤ sizeLine; decide, fun p2 hp2 => q p2 m z _ (((s3.trans sw).trans s4).trans (same_new hp2)) (.inl (.inl upd_same)) hm⟩
  · obtain ⟨sw, y, z', a, b, rfl, hy⟩ := w4
    obtain ⟨c0, hc0, iw⟩ := it
    have sA := sw.trans s4
    refine ⟨Same.refl _, _, rfl, _, rfl, ⟨⟨D, acc, _, _, c0, rfl, .inl (.inl (sA _ _ hD3)), has3.nl (nl_same sA), alen, iw, fun H5 s5 => ?_⟩⟩⟩
    have tk : (wardsL ys).take (i + 1) = (wardsL ys).take i ++ [c0] := by rw [List.take_succ, hc0]; rfl
    refine ⟨_, rfl, rfl, _, rfl, ?_⟩
    rcases hy with ⟨rfl, rfl⟩ | ⟨m, rfl, hm⟩
    · rw [decide_eq_true rfl]
      refine iteT (iteT ⟨_, rfl, _, rfl, _, _, rfl, s5, sA.trans s5, _, _, _, _, rfl, .inr ⟨_, rfl, ?_⟩⟩)
      rw [tk]
      exact ⟨fun c hc => by simp at hc; rw [hc]; exact Nat.le_refl _, ⟨c0, by simp, rfl⟩⟩
    · rw [decide_eq_false (by intro z; cases z)]
      refine iteF ⟨_, rfl, _, rfl, _, _, rfl, rfl, _, rfl, ?_⟩
      by_cases hlt : cnt (arcsL Lt Ls) c0 < m
      · rw [decide_eq_true (by omega)]
        refine iteT ⟨_, rfl, _, rfl, _, _, rfl, s5, sA.trans s5, _, _, _, _, rfl, .inr ⟨_, rfl, ?_⟩⟩
        rw [tk]
        refine ⟨fun c hc => ?_, ⟨c0, by simp, rfl⟩⟩
        rcases List.mem_append.mp hc with hc | hc
        · have := hm.le c hc; omega
        · rw [List.mem_singleton.mp hc]; exact Nat.le_refl _
      · rw [decide_eq_false (by omega)]
        refine iteF ⟨s5, sA.trans s5, _, _, _, _, rfl, .inr ⟨m, rfl, ?_⟩⟩
        rw [tk]
        refine ⟨fun c hc => ?_, ?_⟩
        · rcases List.mem_append.mp hc with hc | hc
          · exact hm.le c hc
          · rw [List.mem_singleton.mp hc]; omega
        · obtain ⟨c, h1, h2⟩ := hm.ex
          exact ⟨c, List.mem_append_left _ h1, h2⟩
def spIG (K : PySem.W.Frag) : Sp := fun vs H Q _ => ∃ u v Lt Ls cs ys m, vs = [u, v, .int (m : Nat)] ∧ FitP K H u v Lt Ls cs ∧ TownW cs ys ∧ Least (arcsL Lt Ls) (wardsL ys) m ∧ ∀ H', Same H H' → Q (.bl true) H'
theorem Least.eq {as : List Arc} {wl : List (List Str)} {m n : Nat} (h : Least as wl m) (g : Least as wl n) : m = n := by
  obtain ⟨c, h1, h2⟩ := h.ex
  obtain ⟨c', g1, g2⟩ := g.ex
  have := h.le c' g1
  have := g.le c h1
  omega
theorem sc_is_good : FnScope ["town", "signs", "need"] ["town", "signs", "need"] (defScope (top 77)) := ⟨rfl, rfl, rfl, by decide +kernel, rfl, by decide +kernel, by decide +kernel⟩
include T in
theorem ok_is_good : Fn w K mg base 19 (He.ga K "is_good") (spIG K) := by
  refine funR T.f_is_good sc_is_good (fun _ _ _ _ _ _ us hl => match us, hl with | [_, _, _], _ => rfl) (fun vs H Q E h => ?_) (fun cdv A outer s H vs Q E hr h => ?_)
  · obtain ⟨u, v, Lt, Ls, cs, ys, m, rfl, _⟩ := h; rfl
  obtain ⟨u, v, Lt, Ls, cs, ys, m, rfl, hf, tw, lm, q⟩ := h
  refine ⟨_, pss_one (ps_ret (pe_cmpR op_ge (pe_ix ix_tup (Own.pe_call (ok_weakest T) hr (by rfl) T.g_weakest T.k_weakest (pa_cons (pv 0) (pa_cons (pv 1) pa_nil))) pe_int (fun _ _ => rfl)) (pv 2) (nomark _))), ?_⟩
  refine ⟨_, rfl, _, rfl, ⟨⟨_, _, Lt, Ls, cs, ys, rfl, hf, tw, fun t m' x H2 s2 ht lm' => ?_⟩⟩⟩
  obtain rfl := lm'.eq lm
  refine ⟨t, _, 0, _, rfl, rfl, ht, atI_nat (j := 0) rfl, _, rfl, _, _, rfl, rfl, ?_⟩
  show Q (.bl (decide (((m' : Nat) : Int) ≤ ((m' : Nat) : Int)))) H2
  rw [decide_eq_true (Int.le_refl _)]
  exact q H2 s2
def spNG (K : PySem.W.Frag) : Sp := fun vs H Q _ => ∃ u v Lt Ls cs ys m, vs = [u, v, .int (m : Nat)] ∧ FitP K H u v Lt Ls cs ∧ TownW cs ys ∧ Least (arcsL Lt Ls) (wardsL ys) m ∧ ∀ H', Same H H' → Q .non H'
theorem sc_need_good : FnScope ["town", "signs", "need"] ["town", "signs", "need"] (defScope (top 78)) := ⟨rfl, rfl, rfl, by decide +kernel, rfl, by decide +kernel, by decide +kernel⟩
include T in
theorem ok_need_good : Fn w K mg base 20 (He.ga K "need_good") (spNG K) := by
  refine funR T.f_need_good sc_need_good (fun _ _ _ _ _ _ us hl => match us, hl with | [_, _, _], _ => rfl) (fun vs H Q E h => ?_) (fun cdv A outer s H vs Q E hr h => ?_)
  · obtain ⟨u, v, Lt, Ls, cs, ys, m, rfl, _⟩ := h; rfl
  obtain ⟨u, v, Lt, Ls, cs, ys, m, rfl, hf, tw, lm, q⟩ := h
  refine ⟨_, pss_one (ps_if (pt_not (pt_val (Own.pe_call (ok_is_good T) hr (by rfl) T.g_is_good T.k_is_good (pa_cons (pv 0) (pa_cons (pv 1) (pa_cons (pv 2) pa_nil)))))) pss_never pss_nil), ?_⟩
  exact ⟨_, rfl, _, rfl, _, rfl, ⟨⟨_, _, Lt, Ls, cs, ys, m, rfl, hf, tw, lm, fun H2 s2 => ⟨true, rfl, iteF (q H2 s2)⟩⟩⟩⟩
end
end Tx
/-! ## DNarrow -/
namespace Tx
open PySem PySem.Spec PyProof.Rows L2 GFor
def narL (as : List Arc) (ys : List Str) (m : Nat) : List (List Str) := (wardsL ys).filter fun c => cnt as c == m
section
variable {w : World} {K : PySem.W.Frag} {mg : Str → Option Value} {base : Heap} (T : Txt K mg)
def spNar (K : PySem.W.Frag) : GFor.SpF := fun vs H N It => ∃ u v Lt Ls cs ys m, vs = [u, v, .int (m : Nat)] ∧ FitP K H u v Lt Ls cs ∧ TownW cs ys ∧ Least (arcsL Lt Ls) (wardsL ys) m ∧ 1 ≤ m ∧ m ≤ 20 ∧ Lt ≠ [] ∧ N = (narL (arcsL Lt Ls) ys m).length ∧ It = ItW K (narL (arcsL Lt Ls) ys m)
theorem sc_narrow_wards : GScope ["town", "signs", "need", "rows", "ward"] ["town", "signs", "need"] (defScope (top 80)) := ⟨rfl, rfl, rfl, by decide +kernel, rfl, by decide +kernel, by decide +kernel⟩
include T in
theorem ok_narrow_wards : Gn w K mg base 21 (He.ga K "narrow_wards") ["town", "signs", "need"] (spNar K) := by
  obtain ⟨fdI, GI, BI⟩ := ok_Town_wards (w := w) (base := base) T
  refine genR T.f_narrow_wards sc_narrow_wards (fun n => rfl) (fun _ _ _ _ _ _ us hl => match us, hl with | [_, _, _], _ => rfl) (fun vs H N It h => ?_) (fun cdv A outer s H vs n It pn hr h => ?_)
  · obtain ⟨u, v, Lt, Ls, cs, ys, m, rfl, _⟩ := h; rfl
  obtain ⟨u, v, Lt, Ls, cs, ys, m, rfl, hf, tw, lm, hm1, hm2, hne, rfl, rfl⟩ := h
  refine ⟨_, gss_cons (gs_ps (fun _ _ => ps_expr (Own.pe_call (ok_need_town T) (hr.mono (by decide)) (by rfl) T.g_need_town T.k_need_town (pa_cons (pv 0) pa_nil))))
    (gss_cons (gs_ps (fun _ _ => ps_expr (Own.pe_call (ok_need_fit T) (hr.mono (by decide)) (by rfl) T.g_need_fit T.k_need_fit (pa_cons (pv 0) (pa_cons (pv 1) pa_nil)))))
    (gss_cons (gs_ps (fun _ _ => ps_expr (Own.pe_call (ok_need_need T) (hr.mono (by decide)) (by rfl) T.g_need_need T.k_need_need (pa_cons (pv 2) pa_nil))))
    (gss_cons (gs_ps (fun _ _ => ps_expr (Own.pe_call (ok_need_streets T) (hr.mono (by decide)) (by rfl) T.g_need_streets T.k_need_streets (pa_cons (pv 0) pa_nil))))
    (gss_cons (gs_ps (fun _ _ => ps_expr (Own.pe_call (ok_need_good T) hr (by rfl) T.g_need_good T.k_need_good (pa_cons (pv 0) (pa_cons (pv 1) (pa_cons (pv 2) pa_nil))))))
    (gss_cons (gs_ps (fun _ _ => ps_set (i := 3) sc_narrow_wards.nd rfl (Or.inl rfl) (Own.pe_call (ok_arcs T) (hr.mono (by decide)) (by rfl) T.g_arcs T.k_arcs (pa_cons (pv 0) (pa_cons (pv 1) pa_nil)))))
    (gss_one (gs_forG rfl (hr.mono (by decide)) (fun _ _ => pgenF_meth0 (dvs := []) (pv 0) T.c_Town T.m_Town_wards GI (hr.mono (by decide)) BI .nil) (fun _ _ => pg_name (i := 4) sc_narrow_wards.nd rfl (Or.inl rfl))
      (gss_one (gs_if (fun _ _ => pt_cmpR op_eq (Own.pe_call (ok_count_into T) (hr.mono (by decide)) (by rfl) T.g_count_into T.k_count_into (pa_cons (pv 3) (pa_cons (pv 4) pa_nil))) (pv 2) (nomark _)) (gss_one (gs_yield (fun _ _ => pv 4))) gss_nil))))))))), fun H2 s2 => ?_⟩
  have hf2 := hf.same s2
  refine ⟨_, rfl, ⟨⟨_, Lt, rfl, hf2.2.1.tg, Same.refl _, _, rfl, _, rfl, ⟨⟨_, _, Lt, Ls, cs, rfl, hf2, fun H3 s3 => ⟨s3, ?_⟩⟩⟩⟩⟩⟩
  have hf3 := hf2.same s3
  refine ⟨_, rfl, ⟨⟨_, rfl, by omega, by omega, Same.refl _, _, rfl, ⟨⟨_, Lt, rfl, hf3.2.1.tg, hne, hf3.2.2.2.2.2.2.1, Same.refl _, ?_⟩⟩⟩⟩⟩
  refine ⟨_, rfl, _, rfl, _, rfl, ⟨⟨_, _, Lt, Ls, cs, ys, m, rfl, hf3, tw, lm, fun H4 s4 => ⟨s4, ?_⟩⟩⟩⟩
  have hf4 := hf3.same s4
  have hf4' := hf4
  obtain ⟨f1, f2, f3, f4, f5, f6, f7, f8⟩ := hf4'
  refine ⟨_, rfl, _, rfl, ⟨⟨_, _, Lt, Ls, rfl, f2.tg, f1.sg, f3, f7, f8.nm, fun D acc H5 s5 hD has => ⟨s5, ?_⟩⟩⟩⟩
  have hu5 := f2.same s5
  have hu5' := hu5
  obtain ⟨x, dx, d, t, c, rfl, h1, h2⟩ := hu5'
  have alen : (arcsL Lt Ls).length < 1000 := by have := arcsL_len Lt Ls; omega
  refine ⟨_, rfl, x, dx, _, rfl, h1, rfl, _, _, ⟨_, Lt, cs, ys, rfl, hu5, tw.few, tw.nm, tw.nd, tw.wd, rfl, rfl⟩, Same.refl _, ?_⟩
  refine ⟨fun j i σ Hw => Same H5 Hw ∧ i = (((wardsL ys).take j).filter fun c => cnt (arcsL Lt Ls) c == m).length ∧ ∃ y, σ = [some (.ref x), some v, some (.int (m : Nat)), some (.ref D), y], ⟨Same.refl _, rfl, _, rfl⟩, fun i σ Hw H6 w6 s6 => ?_, fun j i σ Hw H6 z hj w6 s6 it => ?_⟩
  · obtain ⟨_, hi, _⟩ := w6
    rw [List.take_length] at hi
    exact hi
  · obtain ⟨sw, hi, y, rfl⟩ := w6
    obtain ⟨c0, hc0, iw⟩ := it
    have sA := sw.trans s6
    refine ⟨Same.refl _, _, rfl, _, rfl, ⟨⟨D, acc, _, _, c0, rfl, .inl (.inl (sA _ _ hD)), has.nl (nl_same sA), alen, iw, fun H7 s7 => ?_⟩⟩⟩
    have tk : (wardsL ys).take (j + 1) = (wardsL ys).take j ++ [c0] := by rw [List.take_succ, hc0]; rfl
    refine ⟨_, rfl, rfl, _, rfl, s7, ?_⟩
    by_cases he : cnt (arcsL Lt Ls) c0 = m
    · rw [decide_eq_true (by rw [he])]
      have hsplit : narL (arcsL Lt Ls) ys m = ((wardsL ys).take j).filter (fun c => cnt (arcsL Lt Ls) c == m) ++ (c0 :: ((wardsL ys).drop (j + 1)).filter (fun c => cnt (arcsL Lt Ls) c == m)) := by
        unfold narL
        conv => lhs; rw [← List.take_append_drop j (wardsL ys), List.filter_append]
        congr 1
        have hd : (wardsL ys).drop j = c0 :: (wardsL ys).drop (j + 1) := by
          have hlt := (List.getElem?_eq_some_iff.mp hc0).1
          rw [List.drop_eq_getElem_cons hlt]
          congr 1
          rw [List.getElem?_eq_getElem hlt] at hc0
          exact Option.some.inj hc0
        rw [hd, List.filter_cons_of_pos (by simpa using he)]
      have hge : (narL (arcsL Lt Ls) ys m)[i]? = some c0 := by
        rw [hsplit, List.getElem?_append_right (by omega), ← hi, Nat.sub_self]
        rfl
      refine iteT ⟨_, rfl, (List.getElem?_eq_some_iff.mp hge).1, Same.refl _, ⟨c0, hge, iw.same s7⟩, fun H8 s8 => ⟨s7.trans s8, (sA.trans s7).trans s8, ?_, _, rfl⟩⟩
      rw [tk, List.filter_append, List.length_append, ← hi, List.filter_cons_of_pos (by simpa using he)]
      rfl
    · rw [decide_eq_false (by intro z; injection z with z; omega)]
      refine iteF ⟨s7, sA.trans s7, ?_, _, rfl⟩
      rw [tk, List.filter_append, List.length_append, ← hi, List.filter_cons_of_neg (by simpa using he)]
      rfl
end
end Tx
/-! ## DLaw1 -/
namespace Tx
open PySem PySem.Spec PyProof.Rows L2
section
variable {w : World} {K : PySem.W.Frag} {mg : Str → Option Value} {base : Heap} (T : Txt K mg)
/-- the pen at p: cells, index at most k0, the rest of a great one -/
def Pen (K : PySem.W.Frag) (H : Hp) (p c : Addr) (k0 : Nat) : Prop := ∃ cs k l, H p = some (.lst [.ref c, .int (k : Nat), .int l]) ∧ H c = some (.lst ((cs : List Int).map V.int)) ∧ c ≠ p ∧ k ≤ k0
theorem Pen.up {H : Hp} {p c : Addr} {j k : Nat} (h : Pen K H p c j) (l : j ≤ k) : Pen K H p c k := by
  obtain ⟨cs, k, r, h1, h2, h3, h4⟩ := h
  exact ⟨cs, k, r, h1, h2, h3, by omega⟩
/-- lists but that at p stand -/
theorem sqL_x {H H' : Hp} {p a : Addr} {xs : List V} (s : SameX p H H') (n : a ≠ p) (h : SqL K H a xs) : SqL K H' a xs := by
  rcases h with (h | ⟨o, h⟩) | h
  · exact .inl (.inl (s a _ n h))
  · exact .inl (.inr ⟨o, s a _ n h⟩)
  · exact .inr h
theorem Pen.same {H H' : Hp} {p c : Addr} {k : Nat} (h : Pen K H p c k) (s : Same H H') : Pen K H' p c k := by
  obtain ⟨cs, k, r, h1, h2, h3, h4⟩ := h
  exact ⟨cs, k, r, s _ _ h1, s _ _ h2, h3, h4⟩
def spPen (K : PySem.W.Frag) : Sp := fun vs H Q _ => ∃ a ns, vs = [.ref a] ∧ SqL K H a ((ns : List Int).map V.int) ∧ ∀ p c H', Same H H' → H p = none → H c = none → Pen K H' p c 0 → Q (.ref p) H'
theorem sc__law_pen : FnScope ["_law_script"] ["_law_script"] (defScope (top 82)) := ⟨rfl, rfl, rfl, by decide +kernel, rfl, by decide +kernel, by decide +kernel⟩
include T in
theorem ok__law_pen : Fn w K mg base 1 (He.ga K "_law_pen") (spPen K) := by
  refine funR T.f__law_pen sc__law_pen (fun _ _ _ _ _ _ us hl => match us, hl with | [_], _ => rfl) (fun vs H Q E h => ?_) (fun cdv A outer s H vs Q E hr h => ?_)
  · obtain ⟨a, ns, rfl, _⟩ := h; rfl
  obtain ⟨a, ns, rfl, ha, q⟩ := h
  refine ⟨_, pss_one (ps_ret (pe_lst (pa_cons (p_t1 call_list_of bt_list T.n_list (pe_slice sl_list (pv 0) po_none (po_some pe_int))) (pa_cons pe_int (pa_cons pe_int pa_nil))))), ?_⟩
  refine ⟨_, rfl, _, rfl, a, _, rfl, ha, fun p1 hp1 => ⟨⟨p1, _, rfl, .inl (.inl (.inl upd_same)), fun c hc => ⟨by show 3 ≤ sizeLine; decide, fun p hp => ?_⟩⟩⟩⟩
  have s1 := (same_new (o := .lst (cutV (ns.map V.int) none (some 63))) hp1).trans (same_new (o := .lst (cutV (ns.map V.int) none (some 63))) hc)
  have s2 := s1.trans (same_new (o := .lst [.ref c, .int 0, .int 0]) hp)
  have cp : c ≠ p := fun z => by rw [← z, upd_same] at hp; cases hp
  refine q p c _ s2 (s1.free hp) ((same_new (o := .lst (cutV (ns.map V.int) none (some 63))) hp1).free hc) ⟨ns.take 63, 0, 0, upd_same, ?_, cp, Nat.le_refl _⟩
  rw [upd_ne cp, upd_same]
  congr 2
  unfold cutV
  rw [sIx_pos (by decide), HT.sIx_none, List.drop_zero, Nat.sub_zero, List.length_map, ← List.map_take]
  congr 1
  rcases Nat.le_total 63 ns.length with z | z
  · rw [Nat.min_eq_left (by exact z)]; rfl
  · rw [Nat.min_eq_right (by exact z), List.take_of_length_le (Nat.le_refl _), List.take_of_length_le z]
end
end Tx
/-! ## DLaw2 -/
namespace Tx
open PySem PySem.Spec PyProof.Rows L2
theorem ite_both {c : Bool} {P Q : Prop} (h1 : c = true → P) (h2 : c = false → Q) : if c = true then P else Q := by
  cases c with
  | true => rw [if_pos rfl]; exact h1 rfl
  | false => rw [if_neg (by decide)]; exact h2 rfl
theorem dp_ints {K : PySem.W.Frag} {H : Hp} : ∀ ns : List Int, DpAll K H (ns.map V.int) (ns.map PyData.int)
  | [] => .nil
  | x :: r => .cons (.int x) (dp_ints r)
theorem shaped_ints (ns : List Int) : SeqAt.shaped (.list (ns.map PyData.int)) = true := by
  have h1 : ∀ l : List Int, PyData.canLayAll0 (l.map PyData.int) = true := by
    intro l
    induction l with
    | nil => simp [PyData.canLayAll0]
    | cons x r ih => simp only [List.map_cons, PyData.canLayAll0, PyData.canLay0, Bool.true_and]; exact ih
  have h2 : ∀ l : List Int, PyData.depthAll (l.map PyData.int) ≤ 1 := by
    intro l
    induction l with
    | nil => simp [PyData.depthAll]
    | cons x r ih =>
      simp only [List.map_cons, PyData.depthAll, PyData.depth]
      omega
  unfold SeqAt.shaped
  rw [Bool.and_eq_true, decide_eq_true_eq]
  refine ⟨by simp only [PyData.canLay0]; exact h1 ns, ?_⟩
  simp only [PyData.depth]
  have := h2 ns
  omega
section
variable {w : World} {K : PySem.W.Frag} {mg : Str → Option Value} {base : Heap} (T : Txt K mg)
def spDraw (K : PySem.W.Frag) : Sp := fun vs H Q _ => ∃ p c m k0, vs = [.ref p, .int m] ∧ Pen K H p c k0 ∧ k0 ≤ 100000 ∧ 1 ≤ m ∧ m ≤ 1000000000000 ∧ ∀ (r : Nat) H', SameX p H H' → Pen K H' p c (k0 + 1) → (r : Int) < m → Q (.int (r : Nat)) H'
theorem sc__law_draw : FnScope ["_law_pen_here", "_law_many", "_law_digit", "_law_place_so", "_law_cell", "_law_great", "_law_mixed"] ["_law_pen_here", "_law_many"] (defScope (top 83)) := ⟨rfl, rfl, rfl, by decide +kernel, rfl, by decide +kernel, by decide +kernel⟩
include T in
theorem ok__law_draw : Fn w K mg base 1 (He.ga K "_law_draw") (spDraw K) := by
  refine funR T.f__law_draw sc__law_draw (fun _ _ _ _ _ _ us hl => match us, hl with | [_, _], _ => rfl) (fun vs H Q E h => ?_) (fun cdv A outer s H vs Q E hr h => ?_)
  · obtain ⟨p, c, m, k0, rfl, _⟩ := h; rfl
  obtain ⟨p, c, m, k0, rfl, ⟨cs, k, l, hp, hc0, ncp, hk⟩, hk0, hm1, hm2, q⟩ := h
  have hc : SqL K H c (cs.map V.int) := .inl (.inl hc0)
  refine ⟨_, pss_cons (ps_if (pt_cmpR op_gt (pe_ix ix_list (pv 0) pe_int (fun _ _ => rfl)) pe_int (nomark _))
      (pss_cons (ps_set (i := 2) sc__law_draw.nd rfl (Or.inl rfl) (pe_op op_mod (p_t1 call_int1 bt_int T.n_int (pe_ix ix_list (pv 0) pe_int (fun _ _ => rfl))) (pv 1)))
      (pss_cons (ps_asg (pe_op op_fdivW (p_t1 call_int1 bt_int T.n_int (pe_ix ix_list (pv 0) pe_int (fun _ _ => rfl))) (pv 1)) (pg_sub (pv 0) pe_int set_list))
      (pss_one (ps_ret (pv 2))))) pss_nil)
    (pss_cons (ps_set (i := 3) sc__law_draw.nd rfl (Or.inl rfl) (pe_ix ix_list (pv 0) pe_int (fun _ _ => rfl)))
    (pss_cons (ps_asg (pe_add (pv 3) pe_int) (pg_sub (pv 0) pe_int set_list))
    (pss_cons (ps_set (i := 4) sc__law_draw.nd rfl (Or.inl rfl) (pe_add (pe_mul pe_int (pv 3)) pe_int))
    (pss_cons (ps_if (pt_cmpR (op_neD (hu_ hr)) (pe_ix ix_list (pv 0) pe_int (fun _ _ => rfl)) (pe_lst pa_nil) (nomark _))
      (pss_one (ps_set (i := 4) sc__law_draw.nd rfl (Or.inl rfl) (pe_ix ix_list (pe_ix ix_list (pv 0) pe_int (fun _ _ => rfl)) (pe_op op_mod (p_t1 call_int1 bt_int T.n_int (pv 3)) (p_b1 call_len_seq bt_len T.n_len (pe_ix ix_list (pv 0) pe_int (fun _ _ => rfl)))) (fun _ _ => rfl)))) pss_nil)
    (pss_cons (ps_if (PW.pt (pw_and (pt_cmpR op_lt (pv 3) (p_b1 call_len_seq bt_len T.n_len (pe_ix ix_list (pv 0) pe_int (fun _ _ => rfl))) (nomark _)) (pw_and1 (pt_cmpR op_ge (p_b1 call_abs bt_abs T.n_abs (pv 4)) (pe_op op_pow pe_int pe_int) (nomark _)))))
      (pss_cons (ps_set (i := 5) sc__law_draw.nd rfl (Or.inl rfl) (pe_add (pe_mul pe_int (pe_sub (p_b1 call_abs bt_abs T.n_abs (pv 4)) (pe_op op_pow pe_int pe_int))) (p_t1 call_int1 bt_int T.n_int (pe_cmpR op_lt (pv 4) pe_int (nomark _)))))
      (pss_cons (ps_asg (pe_op op_fdivW (p_t1 call_int1 bt_int T.n_int (pv 5)) (pv 1)) (pg_sub (pv 0) pe_int set_list))
      (pss_one (ps_ret (pe_op op_mod (p_t1 call_int1 bt_int T.n_int (pv 5)) (pv 1)))))) pss_nil)
    (pss_cons (ps_set (i := 6) sc__law_draw.nd rfl (Or.inl rfl) (pe_op op_mod (p_t1 call_int1 bt_int T.n_int (pe_op op_pow (pe_add (pe_add (pe_op op_mod (p_t1 call_int1 bt_int T.n_int (pv 4)) pe_int) (pe_mul pe_int (pv 3))) pe_int) pe_int)) pe_int))
    (pss_cons (ps_set (i := 6) sc__law_draw.nd rfl (Or.inl rfl) (pe_add (pe_add (pe_mul (pv 6) (pe_add (pe_mul pe_int (pv 3)) pe_int)) (pe_mul (pe_mul pe_int (pv 3)) (pv 3))) pe_int))
    (pss_cons (ps_set (i := 6) sc__law_draw.nd rfl (Or.inl rfl) (pe_op op_mod (p_t1 call_int1 bt_int T.n_int (pe_op op_pow (pv 6) pe_int)) pe_int))
    (pss_one (ps_ret (pe_op op_mod (p_t1 call_int1 bt_int T.n_int (pe_op op_fdivW (pv 6) pe_int)) (pv 1)))))))))))), ?_⟩
  have hpL : SqL K H p [.ref c, .int (k : Nat), .int l] := .inl (.inl hp)
  have nat : ∀ (z : Int) (H' : Hp), SameX p H H' → Pen K H' p c (k0 + 1) → Q (.int (z % m)) H' := fun z H' s pn => by
    have h0 := Int.emod_nonneg z (show m ≠ 0 by omega)
    have h1 := Int.emod_lt_of_pos z (show 0 < m by omega)
    have e : z % m = (((z % m).toNat : Nat) : Int) := (Int.toNat_of_nonneg h0).symm
    rw [e]
    exact q _ H' s pn (by rw [← e]; exact h1)
  have cd : ∀ i, CDivW i m := fun i => ⟨by omega, Nat.lt_of_lt_of_le (PySem.Flt.log2_lt_of (k := 64) (by decide) (by omega)) (by decide)⟩
  refine ⟨_, rfl, p, _, 2, .int l, rfl, rfl, hpL, atI_nat (j := 2) rfl, _, _, rfl, rfl, _, rfl, ?_⟩
  by_cases hl0 : 0 < l
  · rw [decide_eq_true hl0]
    refine iteT ⟨_, rfl, p, _, 2, _, rfl, rfl, hpL, atI_nat (j := 2) rfl, ⟨.inl ⟨l, rfl, _, rfl, _, _, rfl, rfl, (show 0 < m by omega), ?_⟩⟩⟩
    refine ⟨_, rfl, p, _, 2, _, rfl, rfl, hpL, atI_nat (j := 2) rfl, ⟨.inl ⟨l, rfl, _, rfl, _, _, rfl, rfl, cd _, _, rfl, p, _, 2, 2, rfl, rfl, hp, rfl, _, rfl, ?_⟩⟩⟩
    exact nat l _ sameX_upd ⟨cs, k, l / m, upd_same, sameX_upd c _ ncp hc0, ncp, by omega⟩
  · rw [decide_eq_false hl0]
    refine iteF ⟨_, rfl, p, _, 1, _, rfl, rfl, hpL, atI_nat (j := 1) rfl, ?_⟩
    refine ⟨_, rfl, _, _, rfl, rfl, _, rfl, p, _, 1, 1, rfl, rfl, hp, rfl, ?_⟩
    have sx1 : SameX p H (upd H p (.lst ([V.ref c, V.int (k : Nat), V.int l].set 1 (.int ((k : Nat) + 1))))) := sameX_upd
    have hp1 : (upd H p (.lst ([V.ref c, V.int (k : Nat), V.int l].set 1 (.int ((k : Nat) + 1))))) p = some (.lst [.ref c, .int ((k : Nat) + 1), .int l]) := upd_same
    have hc1 := sqL_x sx1 ncp hc
    refine ⟨_, rfl, _, _, rfl, rfl, ⟨by decide, by decide⟩, _, _, rfl, rfl, ?_⟩
    refine ⟨_, rfl, p, _, 0, _, rfl, rfl, .inl (.inl hp1), atI_nat (j := 0) rfl, by decide, fun e he => ?_⟩
    refine ⟨_, _, .lst (lx_l (lx (same_new he)) hc1) (dp_ints cs), .lst (.inl (.inl upd_same)) .nil, shaped_ints cs, shaped_ints [], _, rfl, ?_⟩
    have s2 := same_new (o := .lst []) he
    have hp2 := s2 _ _ hp1
    have hc2 := lx_l (lx s2) hc1
    have hc20 := s2 _ _ (sx1 c _ ncp hc0)
    have sx2 := sx1.trans (same_x s2)
    generalize upd (upd H p (.lst ([V.ref c, V.int (k : Nat), V.int l].set 1 (.int ((k : Nat) + 1))))) e (.lst []) = H2 at hp2 hc2 hc20 sx2 ⊢
    have pn2 : Pen K H2 p c (k0 + 1) := ⟨cs, k + 1, l, by rw [hp2]; rfl, hc20, ncp, by omega⟩
    have hpL2 : SqL K H2 p [.ref c, .int ((k : Nat) + 1), .int l] := .inl (.inl hp2)
    have cp1 : ∀ z : Int, CPow (z % 2147483587 + 81203 * (k : Nat) + 617) 5 := fun z => by
      have h0 := Int.emod_nonneg z (show (2147483587 : Int) ≠ 0 by decide)
      have h1 := Int.emod_lt_of_pos z (show (0 : Int) < 2147483587 by decide)
      exact ⟨by decide, by decide, by omega⟩
    have hatI : ∀ cs : List Int, cs ≠ [] → ∃ zz : Int, atI (cs.map V.int) (((k : Nat) : Int) % ((cs.map V.int).length : Nat)) = some (.int zz) := fun cs hne => by
      have hpos : 0 < cs.length := List.length_pos_iff.mpr hne
      have hlt : k % cs.length < cs.length := Nat.mod_lt _ hpos
      refine ⟨cs[k % cs.length], ?_⟩
      rw [List.length_map, ← Int.natCast_emod]
      exact atI_nat (by rw [List.getElem?_map, List.getElem?_eq_getElem hlt]; rfl)
    have cp10 : CPow 10 18 := ⟨by decide, by decide, by decide⟩
    have bd : ∀ z : Int, -(2 ^ 64) < z % 2147483549 ∧ z % 2147483549 < 2 ^ 64 := fun z => by
      have h0 := Int.emod_nonneg z (show (2147483549 : Int) ≠ 0 by decide)
      have h1 := Int.emod_lt_of_pos z (show (0 : Int) < 2147483549 by decide)
      omega
    have bk : -(2 ^ 64) < (90533 * ((k : Nat) : Int)) ∧ (90533 * ((k : Nat) : Int)) < 2 ^ 64 := by omega
    have cp3 : ∀ z : Int, CPow (z % 2147483549 * (2 * ((k : Nat) : Int) + 107) + 90533 * ((k : Nat) : Int) * ((k : Nat) : Int) + 37) 3 := fun z => by
      have h0 := Int.emod_nonneg z (show (2147483549 : Int) ≠ 0 by decide)
      have h1 := Int.emod_lt_of_pos z (show (0 : Int) < 2147483549 by decide)
      have a1 : z % 2147483549 * (2 * ((k : Nat) : Int) + 107) ≤ 2147483549 * 200107 := Int.mul_le_mul (by omega) (by omega) (by omega) (by decide)
      have a2 : 0 ≤ z % 2147483549 * (2 * ((k : Nat) : Int) + 107) := Int.mul_nonneg h0 (by omega)
      have a3 : 90533 * ((k : Nat) : Int) * ((k : Nat) : Int) ≤ 9053300000 * 100000 := Int.mul_le_mul (by omega) (by omega) (by omega) (by decide)
      have a4 : 0 ≤ 90533 * ((k : Nat) : Int) * ((k : Nat) : Int) := Int.mul_nonneg (by omega) (by omega)
      exact ⟨by decide, by decide, by omega⟩
    have cd32 : ∀ z : Int, CDivW z 32 := fun z => ⟨by decide, by decide⟩
    rcases hcs : cs with _ | ⟨z0, r⟩
    · have e0 : (!PyData.eqv (.list (([] : List Int).map PyData.int)) (.list [])) = false := by simp [PyData.eqv, PyData.eqvAll]
      rw [e0]
      refine iteF ?_
      rw [hcs] at hc2
      refine ⟨_, rfl, _, rfl, p, _, 0, _, rfl, rfl, hpL2, atI_nat (j := 0) rfl, ⟨⟨c, _, rfl, .inl hc2, _, _, rfl, rfl, _, rfl, ite_both (fun _ => ⟨_, rfl, ⟨⟨_, rfl, _, _, rfl, rfl, cp10, _, _, rfl, rfl, _, rfl, ite_both (fun _ => ?A) (fun _ => ?r1)⟩⟩⟩) (fun _ => iteF ?r2)⟩⟩⟩
      case A =>
        refine ⟨_, rfl, ⟨⟨_, rfl, _, _, rfl, rfl, cp10, _, _, rfl, rfl, _, _, rfl, rfl, ⟨by decide, by decide⟩, _, rfl, _, _, rfl, rfl, ⟨.inr ⟨_, rfl, _, _, rfl, rfl, ?_⟩⟩⟩⟩⟩
        refine ⟨_, rfl, ⟨.inl ⟨_, rfl, _, rfl, _, _, rfl, rfl, cd _, _, rfl, p, _, 2, 2, rfl, rfl, hp2, rfl, ?_⟩⟩⟩
        refine ⟨_, rfl, ⟨.inl ⟨_, rfl, _, rfl, _, _, rfl, rfl, (show 0 < m by omega), nat _ _ (sx2.trans sameX_upd) ⟨_, k + 1, _, by rw [upd_same]; rfl, sameX_upd c _ ncp hc20, ncp, by omega⟩⟩⟩⟩
      all_goals
        refine ⟨_, rfl, ⟨.inl ⟨_, rfl, _, _, rfl, rfl, (show (0 : Int) < 2147483587 by decide), _, rfl, _, _, rfl, rfl, ⟨by decide, by decide⟩, _, _, rfl, rfl, _, _, rfl, rfl, _, _, rfl, rfl, cp1 _, ⟨.inl ⟨_, rfl, _, _, rfl, rfl, (show (0 : Int) < 2147483549 by decide), ?_⟩⟩⟩⟩⟩
        refine ⟨_, rfl, _, rfl, _, _, rfl, rfl, ⟨by decide, by decide⟩, _, _, rfl, rfl, _, _, rfl, rfl, bd _, _, rfl, _, _, rfl, rfl, ⟨by decide, by decide⟩, _, rfl, _, _, rfl, rfl, bk, _, _, rfl, rfl, _, _, rfl, rfl, ?_⟩
        refine ⟨_, rfl, _, _, rfl, rfl, cp3 _, ⟨.inl ⟨_, rfl, _, _, rfl, rfl, (show (0 : Int) < 2147483647 by decide), ?_⟩⟩⟩
        refine ⟨_, rfl, _, _, rfl, rfl, cd32 _, ⟨.inl ⟨_, rfl, _, rfl, _, _, rfl, rfl, (show 0 < m by omega), nat _ _ sx2 pn2⟩⟩⟩
    · have e0 : (!PyData.eqv (.list ((z0 :: r).map PyData.int)) (.list [])) = true := by simp [PyData.eqv, PyData.eqvAll]
      rw [e0]
      rw [hcs] at hc2
      obtain ⟨zz, hat⟩ := hatI (z0 :: r) (by simp)
      refine iteT ⟨_, rfl, p, _, 0, _, rfl, rfl, hpL2, atI_nat (j := 0) rfl, _, rfl, ⟨.inl ⟨_, rfl, _, rfl, p, _, 0, _, rfl, rfl, hpL2, atI_nat (j := 0) rfl, ⟨⟨c, _, rfl, .inl hc2, _, _, rfl, rfl, (by show (0 : Int) < _; simp <;> omega), c, _, _, .int zz, rfl, rfl, hc2, hat, ?_⟩⟩⟩⟩⟩
      refine ⟨_, rfl, _, rfl, p, _, 0, _, rfl, rfl, hpL2, atI_nat (j := 0) rfl, ⟨⟨c, _, rfl, .inl hc2, _, _, rfl, rfl, _, rfl, ite_both (fun _ => ⟨_, rfl, ⟨⟨_, rfl, _, _, rfl, rfl, cp10, _, _, rfl, rfl, _, rfl, ite_both (fun _ => ?A2) (fun _ => ?r12)⟩⟩⟩) (fun _ => iteF ?r22)⟩⟩⟩
      case A2 =>
        refine ⟨_, rfl, ⟨⟨_, rfl, _, _, rfl, rfl, cp10, _, _, rfl, rfl, _, _, rfl, rfl, ⟨by decide, by decide⟩, _, rfl, _, _, rfl, rfl, ⟨.inr ⟨_, rfl, _, _, rfl, rfl, ?_⟩⟩⟩⟩⟩
        refine ⟨_, rfl, ⟨.inl ⟨_, rfl, _, rfl, _, _, rfl, rfl, cd _, _, rfl, p, _, 2, 2, rfl, rfl, hp2, rfl, ?_⟩⟩⟩
        refine ⟨_, rfl, ⟨.inl ⟨_, rfl, _, rfl, _, _, rfl, rfl, (show 0 < m by omega), nat _ _ (sx2.trans sameX_upd) ⟨_, k + 1, _, by rw [upd_same]; rfl, sameX_upd c _ ncp hc20, ncp, by omega⟩⟩⟩⟩
      all_goals
        refine ⟨_, rfl, ⟨.inl ⟨_, rfl, _, _, rfl, rfl, (show (0 : Int) < 2147483587 by decide), _, rfl, _, _, rfl, rfl, ⟨by decide, by decide⟩, _, _, rfl, rfl, _, _, rfl, rfl, _, _, rfl, rfl, cp1 _, ⟨.inl ⟨_, rfl, _, _, rfl, rfl, (show (0 : Int) < 2147483549 by decide), ?_⟩⟩⟩⟩⟩
        refine ⟨_, rfl, _, rfl, _, _, rfl, rfl, ⟨by decide, by decide⟩, _, _, rfl, rfl, _, _, rfl, rfl, bd _, _, rfl, _, _, rfl, rfl, ⟨by decide, by decide⟩, _, rfl, _, _, rfl, rfl, bk, _, _, rfl, rfl, _, _, rfl, rfl, ?_⟩
        refine ⟨_, rfl, _, _, rfl, rfl, cp3 _, ⟨.inl ⟨_, rfl, _, _, rfl, rfl, (show (0 : Int) < 2147483647 by decide), ?_⟩⟩⟩
        refine ⟨_, rfl, _, _, rfl, rfl, cd32 _, ⟨.inl ⟨_, rfl, _, rfl, _, _, rfl, rfl, (show 0 < m by omega), nat _ _ sx2 pn2⟩⟩⟩
end
end Tx
/-! ## DLaw3 -/
namespace Tx
open PySem PySem.Spec PyProof.Rows L2
section
variable {w : World} {K : PySem.W.Frag} {mg : Str → Option Value} {base : Heap} (T : Txt K mg)
/-- a call of draw: what is asked -/
def DrawP (K : PySem.W.Frag) (H : Hp) (p c : Addr) (m : Int) (k0 : Nat) (Q : VK) : Prop := Pen K H p c k0 ∧ k0 ≤ 100000 ∧ 1 ≤ m ∧ m ≤ 1000000000000 ∧ ∀ (r : Nat) H', SameX p H H' → Pen K H' p c (k0 + 1) → (r : Int) < m → Q (.int (r : Nat)) H'
theorem draw_sat {H : Hp} {p c : Addr} {m : Int} {k0 : Nat} {Q : VK} (h : DrawP K H p c m k0 Q) : Own.Sat (spDraw K) [.ref p, .int m] H Q := ⟨⟨p, c, m, k0, rfl, h⟩⟩
def spPick (K : PySem.W.Frag) : Sp := fun vs H Q _ => ∃ p c a xs k0, vs = [.ref p, .ref a] ∧ Pen K H p c k0 ∧ k0 ≤ 100000 ∧ SqL K H a xs ∧ a ≠ p ∧ xs ≠ [] ∧ xs.length ≤ 1000 ∧ ∀ x H', x ∈ xs → SameX p H H' → Pen K H' p c (k0 + 1) → Q x H'
theorem sc__law_pick : FnScope ["_law_pen_here", "_law_some"] ["_law_pen_here", "_law_some"] (defScope (top 84)) := ⟨rfl, rfl, rfl, by decide +kernel, rfl, by decide +kernel, by decide +kernel⟩
include T in
theorem ok__law_pick : Fn w K mg base 2 (He.ga K "_law_pick") (spPick K) := by
  refine funR T.f__law_pick sc__law_pick (fun _ _ _ _ _ _ us hl => match us, hl with | [_, _], _ => rfl) (fun vs H Q E h => ?_) (fun cdv A outer s H vs Q E hr h => ?_)
  · obtain ⟨p, c, a, xs, k0, rfl, _⟩ := h; rfl
  obtain ⟨p, c, a, xs, k0, rfl, hp, hk, ha, nap, hne, hlen, q⟩ := h
  refine ⟨_, pss_one (ps_ret (pe_ix ix_list (pv 1) (Own.pe_call (ok__law_draw T) hr (by rfl) T.g__law_draw T.k__law_draw (pa_cons (pv 0) (pa_cons (p_b1 call_len_seq bt_len T.n_len (pv 1)) pa_nil))) (fun _ _ => rfl))), ?_⟩
  have hpos : 0 < xs.length := List.length_pos_iff.mpr hne
  refine ⟨_, rfl, _, rfl, _, rfl, ⟨⟨a, xs, rfl, .inl ha, draw_sat ⟨hp, hk, by omega, by omega, fun r H' s pn hlt => ?_⟩⟩⟩⟩
  have hr2 : r < xs.length := by omega
  exact ⟨a, xs, _, xs[r], rfl, rfl, sqL_x s nap ha, atI_nat (List.getElem?_eq_getElem hr2), q _ _ (List.getElem_mem _) s pn⟩
end
end Tx
/-! ## KitP -/
namespace Tx
open PySem PySem.Spec PyProof.Rows L2
section
variable {K : PySem.W.Frag}
theorem Pen.at_ {H : Hp} {p c : Addr} {k : Nat} (h : Pen K H p c k) : ∃ l, H p = some (.lst l) := by
  obtain ⟨cs, j, l, h1, _⟩ := h
  exact ⟨_, h1⟩
/-- another list changes -/
theorem Pen.sx {H H' : Hp} {p c D : Addr} {k : Nat} (h : Pen K H p c k) (s : SameX D H H') (n1 : p ≠ D) (n2 : c ≠ D) : Pen K H' p c k := by
  obtain ⟨cs, j, l, h1, h2, h3, h4⟩ := h
  exact ⟨cs, j, l, s _ _ n1 h1, s _ _ n2 h2, h3, h4⟩
theorem nl_x {H H' : Hp} {p : Addr} {l : List V} (h : H p = some (.lst l)) (s : SameX p H H') : NL H H' := fun a o n e => s a o (fun z => by rw [z, h] at e; exact n l (Option.some.inj e).symm) e
/-- a list comprehension while the pen draws: at most q draws a turn -/
theorem lc_pen {J : It} {n q k : Nat} {g : L2.TG} {te : TE} {vs : List Nat} {σ : L2.St} {H1 : Hp} {D p c : Addr} {Qd : Hp → Prop} (P : Nat → List V → Prop) (hD : H1 D = none) (hn : n ≤ 100000) (hp : Pen K H1 p c k) (h0 : P 0 [])
    (go : ∀ i H, i < n → SameX p H1 H → J.go i H) (st : ∀ H, SameX p H1 H → J.stop n H)
    (hs : ∀ i acc x H H' (K2 : VK), i < n → SameX p H1 H → Pen K H p c (k + q * i) → P i acc → J.yld i H x H' → (∀ v H4, SameX p H H4 → Pen K H4 p c (k + q * (i + 1)) → P (i + 1) (acc ++ [v]) → K2 v H4) →
      g x (wipe σ vs) H' fun σ2 H2 => wipe σ2 vs = wipe σ vs ∧ te σ2 H2 K2)
    (hd : ∀ H acc, SameX p H1 H → Pen K H p c (k + q * n) → H D = some (.lst acc) → P n acc → Qd H)
    (mg : ∀ x σ H (Q Q' : L2.St → Hp → Prop), (∀ σ' H', Q σ' H' → Q' σ' H') → g x σ H Q → g x σ H Q' := by exact mg_name) : LcR J g tYes te vs σ H1 D Qd := by
  have pD : p ≠ D := by
    obtain ⟨l, h⟩ := hp.at_
    exact ne_of_none h hD
  have hc : c ≠ D := by
    obtain ⟨cs, j, l, _, h2, _⟩ := hp
    exact ne_of_none h2 hD
  have up : ∀ H (l : List V), SameX p H1 H → SameX p H1 (upd H D (.lst l)) := fun H l s a o na ha => by
    rw [upd_ne (ne_of_none ha hD)]
    exact s a o na ha
  refine lc_any (n := n) (fun i H => SameX p H1 H ∧ Pen K H p c (k + q * i) ∧ ∃ acc, H D = some (.lst acc) ∧ acc.length ≤ i ∧ P i acc) ⟨up H1 [] (fun _ _ _ h => h), (by simpa using hp.sx sameX_upd pD hc), [], upd_same, Nat.le_refl _, h0⟩ (fun i H hi h => go i H hi h.1) (fun H h => st H h.1) (fun i x H H' hi ⟨s, pn, acc, e, hl, hP⟩ y => ?_) fun H ⟨s, pn, acc, e, _, hP⟩ => hd H acc s pn e hP
  refine mg _ _ _ _ _ (fun σ' H2 ⟨e, qq⟩ => ⟨e, t_yes qq⟩) (hs i acc x H H' _ hi s pn hP y fun v H4 s4 p4 hP4 => ?_)
  have e4 : H4 D = some (.lst acc) := s4 D _ (Ne.symm pD) e
  exact ⟨acc, e4, by rw [sizeLine_eq]; omega, up H4 _ (s.trans s4), p4.sx sameX_upd pD hc, acc ++ [v], upd_same, by rw [List.length_append, List.length_singleton]; omega, hP4⟩
end
end Tx
/-! ## PlainT -/
/-! The law's titles, plainly: unlike names. -/
namespace Tx
open PySem PySem.Spec PyProof.Rows L2
theorem toL_app (x y : Str) : (x ++ y).cps.toList = x.cps.toList ++ y.cps.toList := by
  show (Str.append x y).cps.toList = _
  simp [Str.append]
theorem str_len (x : Str) : x.length = x.cps.toList.length := by
  show x.cps.size = _
  simp
theorem toL_pre {z : Str} {n : Nat} (h : n ≤ z.length) : (cutS z none (some (n : Nat))).cps.toList = z.cps.toList.take n := by
  unfold cutS
  rw [HT.sIx_none, HT.sIx_nat, List.drop_zero, Nat.sub_zero, Nat.min_eq_left h]
theorem toL_suf {z : Str} {n : Nat} (h : n ≤ z.length) : (cutS z (some (n : Nat)) none).cps.toList = z.cps.toList.drop n := by
  unfold cutS
  rw [HT.sIx_none, HT.sIx_nat, Nat.min_eq_left h]
  show (z.cps.toList.drop n).take (z.length - n) = _
  rw [List.take_of_length_le (by rw [List.length_drop, str_len]; exact Nat.le_refl _)]
/-- all letters -/
def lets (x : Str) : Prop := ∀ c ∈ x.cps.toList, letterB c = true
theorem nameB_of {x : Str} (h1 : 1 ≤ x.length) (h2 : x.length ≤ 8) (h3 : lets x) : nameB x = true := by
  unfold nameB
  rw [Bool.and_eq_true, Bool.and_eq_true, decide_eq_true_eq, decide_eq_true_eq, List.all_eq_true]
  exact ⟨⟨h1, h2⟩, h3⟩
theorem join_lets : ∀ ss : List Str, (∀ s ∈ ss, s.length = 1 ∧ lets s) → (Txt.join (Str.ofString "") ss).length = ss.length ∧ lets (Txt.join (Str.ofString "") ss) := by
  have key : ∀ ss : List Str, (∀ s ∈ ss, s.length = 1 ∧ lets s) → (Str.join (Str.ofString "") ss).length = ss.length ∧ lets (Str.join (Str.ofString "") ss) := by
    intro ss
    induction ss with
    | nil => intro _; exact ⟨rfl, fun c hc => by cases hc⟩
    | cons x r ih =>
      intro h
      cases r with
      | nil => exact ⟨(h x List.mem_cons_self).1, (h x List.mem_cons_self).2⟩
      | cons y q =>
        have i := ih fun s hs => h s (List.mem_cons_of_mem _ hs)
        have hx := h x List.mem_cons_self
        have e : (Str.join (Str.ofString "") (x :: y :: q)).cps.toList = x.cps.toList ++ (Str.join (Str.ofString "") (y :: q)).cps.toList := by
          show (x ++ Str.ofString "" ++ Str.join (Str.ofString "") (y :: q)).cps.toList = _
          rw [toL_app, toL_app]
          have e0 : (Str.ofString "").cps.toList = [] := by decide +kernel
          rw [e0, List.append_nil]
        refine ⟨?_, fun c hc => ?_⟩
        · rw [str_len, e, List.length_append, ← str_len, ← str_len, hx.1, i.1, List.length_cons, List.length_cons, List.length_cons]
          omega
        · rw [e] at hc
          rcases List.mem_append.mp hc with hc | hc
          · exact hx.2 c hc
          · exact i.2 c hc
  intro ss h
  have e : Txt.join (Str.ofString "") ss = Str.join (Str.ofString "") ss := PySem.StrLaws.glued_eq_join _ _
  rw [e]
  exact key ss h
theorem lets_e : lets (Str.ofString "") := by
  unfold lets
  decide +kernel
theorem lets_z : lets (Str.ofString "z") := by
  unfold lets
  decide +kernel
theorem lets_a : lets (Str.ofString "a") := by
  unfold lets
  decide +kernel
theorem sum_one : ∀ ss : List Str, (∀ s ∈ ss, s.length = 1 ∧ lets s) → (ss.map (·.length)).sum = ss.length
  | [], _ => rfl
  | x :: r, h => by
    have := (h x List.mem_cons_self).1
    have := sum_one r fun s hs => h s (List.mem_cons_of_mem _ hs)
    simp only [List.map_cons, List.sum_cons, List.length_cons]
    omega
/-- a title: the word with a letter at n, and a tail behind it -/
def titleS (z ch t : Str) (n : Nat) : Str := cutS z none (some (n : Nat)) ++ (ch ++ (cutS z (some (n : Nat)) none ++ t))
theorem title_list {z t : Str} {n c : Nat} (h : n ≤ z.length) : (titleS z ⟨#[c]⟩ t n).cps.toList = z.cps.toList.take n ++ c :: (z.cps.toList.drop n ++ t.cps.toList) := by
  unfold titleS
  rw [toL_app, toL_app, toL_app, toL_pre h, toL_suf h]
  rfl
theorem title_ok {z t : Str} {n c : Nat} (h : n ≤ z.length) (hz : lets z) (hz6 : z.length ≤ 6) (hc : letterB c = true) (ht : lets t) (ht1 : t.length ≤ 1) : nameB (titleS z ⟨#[c]⟩ t n) = true := by
  have e := title_list (t := t) (c := c) h
  have hl : (titleS z ⟨#[c]⟩ t n).length = z.length + 1 + t.length := by
    rw [str_len, e, List.length_append, List.length_cons, List.length_append, List.length_take, List.length_drop, ← str_len, ← str_len]
    omega
  refine nameB_of (by omega) (by omega) fun d hd => ?_
  rw [e, List.mem_append, List.mem_cons, List.mem_append] at hd
  rcases hd with hd | hd | hd | hd
  · exact hz d (List.mem_of_mem_take hd)
  · rw [hd]; exact hc
  · exact hz d (List.mem_of_mem_drop hd)
  · exact ht d hd
theorem title_inj {z t t' : Str} {n c c' : Nat} (h : n ≤ z.length) (e : titleS z ⟨#[c]⟩ t n = titleS z ⟨#[c']⟩ t' n) : c = c' := by
  have e2 := congrArg (fun x : Str => x.cps.toList[n]?) e
  simp only [title_list h] at e2
  have hl : (z.cps.toList.take n).length = n := by rw [List.length_take, ← str_len]; omega
  rw [List.getElem?_append_right (by omega), List.getElem?_append_right (by omega), hl, Nat.sub_self] at e2
  exact Option.some.inj e2
def abc : List Nat := (Str.ofString "abcdefghijklmnopqrstuvwxyz").cps.toList
theorem abc_len : abc.length = 26 := by decide +kernel
theorem abc_nd : abc.Nodup := by decide +kernel
theorem abc_let : ∀ c ∈ abc, letterB c = true := fun c hc => by unfold letterB; rw [decide_eq_true_eq]; exact hc
theorem abc_at {i : Nat} (h : i < 26) : ∃ c, abc[i]? = some c ∧ letterB c = true := by
  have h' : i < abc.length := by rw [abc_len]; exact h
  exact ⟨abc[i], List.getElem?_eq_getElem h', abc_let _ (List.getElem_mem h')⟩
theorem abc_inj {i j c : Nat} (hi : abc[i]? = some c) (hj : abc[j]? = some c) : i = j := by
  obtain ⟨h1, e1⟩ := List.getElem?_eq_some_iff.mp hi
  obtain ⟨h2, e2⟩ := List.getElem?_eq_some_iff.mp hj
  exact (List.getElem_inj abc_nd).mp (e1.trans e2.symm)
/-- the i-th title's letter -/
def chr (f i : Nat) : Nat := abc.getD ((f + i) % 26) 97
theorem chr_at (f i : Nat) : abc[(f + i) % 26]? = some (chr f i) ∧ letterB (chr f i) = true := by
  obtain ⟨c, h1, h2⟩ := abc_at (Nat.mod_lt (f + i) (by decide : 0 < 26))
  have : chr f i = c := by unfold chr; rw [List.getD_eq_getElem?_getD, h1]; rfl
  rw [this]
  exact ⟨h1, h2⟩
theorem chr_inj {f i j : Nat} (hi : i < 14) (hj : j < 14) (e : chr f i = chr f j) : i = j := by
  have := abc_inj (chr_at f i).1 (by rw [e]; exact (chr_at f j).1)
  omega
def tlS (t : Str) (i : Nat) : Str := if i % 2 = 0 then Str.empty else t
/-- all titles -/
def titlesL (z t : Str) (n f m : Nat) : List Str := (List.range m).map fun i => titleS z ⟨#[chr f i]⟩ (tlS t i) n
theorem titles_nd {z t : Str} {n f m : Nat} (h : n ≤ z.length) (hm : m ≤ 14) : (titlesL z t n f m).Nodup := by
  unfold titlesL
  rw [List.Nodup, List.pairwise_map]
  refine List.Pairwise.imp_of_mem (fun {a b} ha hb hne e => ?_) (List.nodup_range (n := m))
  rw [List.mem_range] at ha hb
  exact hne (chr_inj (by omega) (by omega) (title_inj h e))
theorem titles_ok {z t : Str} {n f m : Nat} (h : n ≤ z.length) (hz : lets z) (hz6 : z.length ≤ 6) (ht : lets t) (ht1 : t.length ≤ 1) : ∀ s ∈ titlesL z t n f m, nameB s = true := fun s hs => by
  obtain ⟨i, _, rfl⟩ := List.mem_map.mp hs
  refine title_ok h hz hz6 (chr_at f i).2 ?_ ?_
  · unfold tlS
    split
    · intro c hc; cases hc
    · exact ht
  · unfold tlS
    split
    · exact Nat.zero_le _
    · exact ht1
end Tx
/-! ## DTitles -/
namespace Tx
open PySem PySem.Spec PyProof.Rows L2
section
variable {w : World} {K : PySem.W.Frag} {mg : Str → Option Value} {base : Heap} (T : Txt K mg)
def spTitles (K : PySem.W.Frag) : Sp := fun vs H Q _ => ∃ p c n k, vs = [.ref p, .int (n : Nat)] ∧ Pen K H p c k ∧ k ≤ 99000 ∧ n ≤ 14 ∧ ∀ D (ss : List Str) H', SameX p H H' → Pen K H' p c (k + 10) → H D = none → H' D = some (.lst (ss.map V.str)) → ss.length = n → ss.Nodup → (∀ s ∈ ss, nameB s = true) → Q (.ref D) H'
theorem sc__law_titles : FnScope ["_law_pen_here", "_law_many", "_law_letters", "_law_word", "_law_first", "_law_place_so", "_law_tail_so", "_law_tails", "_law_ends", "_law_k", "_law_end"] ["_law_pen_here", "_law_many"] (defScope (top 85)) := ⟨rfl, rfl, rfl, by decide +kernel, rfl, by decide +kernel, by decide +kernel⟩
include T in
theorem ok__law_titles : Fn w K mg base 3 (He.ga K "_law_titles") (spTitles K) := by
  refine funR T.f__law_titles sc__law_titles (fun _ _ _ _ _ _ us hl => match us, hl with | [_, _], _ => rfl) (fun vs H Q E h => ?_) (fun cdv A outer s H vs Q E hr h => ?_)
  · obtain ⟨p, c, n, k, rfl, _⟩ := h; rfl
  obtain ⟨p, c, n, k, rfl, hp, hk, hn, q⟩ := h
  refine ⟨_, pss_cons (ps_set (i := 2) sc__law_titles.nd rfl (Or.inr rfl) pe_str)
    (pss_cons (ps_set (i := 3) sc__law_titles.nd rfl (Or.inr rfl) (pe_join pe_str (pe_lc (own := [("_law_k", 9)]) (g := gName 9) (tt := tYes) rfl sc__law_titles.nd (pi_range1 (by rfl) T.n_range (pa_cons (Own.pe_call (ok__law_draw T) (hr.mono (by decide)) (by rfl) T.g__law_draw T.k__law_draw (pa_cons (pv 0) (pa_cons pe_int pa_nil))) pa_nil))
      (blkOk_by (N := ["_law_pen_here", "_law_many", "_law_letters", "_law_word", "_law_first", "_law_place_so", "_law_tail_so", "_law_tails", "_law_ends", "_law_k", "_law_end"]) (sc := defScope (top 85)) (by decide +kernel)) (fun _ _ _ _ _ => pg_name (i := 9) sc__law_titles.nd rfl (Or.inl rfl)) (fun _ _ _ _ _ => pts_nil)
      (fun _ _ _ _ _ => pe_ix ix_str (pv 2) (Own.pe_call (ok__law_draw T) (hr.mono (by decide)) (by rfl) T.g__law_draw T.k__law_draw (pa_cons (pv 0) (pa_cons pe_int pa_nil))) (fun _ _ => rfl)))))
    (pss_cons (ps_asg (pe_tup (pa_cons (Own.pe_call (ok__law_draw T) (hr.mono (by decide)) (by rfl) T.g__law_draw T.k__law_draw (pa_cons (pv 0) (pa_cons pe_int pa_nil))) (pa_cons (Own.pe_call (ok__law_draw T) (hr.mono (by decide)) (by rfl) T.g__law_draw T.k__law_draw (pa_cons (pv 0) (pa_cons (pe_add (p_b1 call_len_str bt_len T.n_len (pv 3)) pe_int) pa_nil)))
        (pa_cons (Own.pe_call (ok__law_pick T) hr (by rfl) T.g__law_pick T.k__law_pick (pa_cons (pv 0) (pa_cons (pe_lst (pa_cons pe_str (pa_cons pe_str (pa_cons pe_str (pa_cons pe_str pa_nil))))) pa_nil))) pa_nil))))
      (pg_tup rfl (pgs_cons (pg_name (i := 4) sc__law_titles.nd rfl (Or.inr rfl)) (pgs_cons (pg_name (i := 5) sc__law_titles.nd rfl (Or.inr rfl)) (pgs_cons (pg_name (i := 6) sc__law_titles.nd rfl (Or.inl rfl)) pgs_nil)))))
    (pss_cons (ps_set (i := 7) sc__law_titles.nd rfl (Or.inr rfl) (pe_lst (pa_cons (pe_slice sl_str (pv 3) (po_some (pv 5)) po_none) (pa_cons (pe_op op_add_str (pe_slice sl_str (pv 3) (po_some (pv 5)) po_none) (pv 6)) pa_nil))))
    (pss_cons (ps_setLc (i := 8) (own := [("_law_k", 9)]) (g := gName 9) (tt := tYes) rfl sc__law_titles.nd rfl rfl (sw_true rfl rfl rfl rfl) (pi_range1 (by rfl) T.n_range (pa_cons (pv 1) pa_nil)) (blkOk_by (N := ["_law_pen_here", "_law_many", "_law_letters", "_law_word", "_law_first", "_law_place_so", "_law_tail_so", "_law_tails", "_law_ends", "_law_k", "_law_end"]) (sc := defScope (top 85)) (by decide +kernel)) (fun _ _ _ _ _ => pg_name (i := 9) sc__law_titles.nd rfl (Or.inl rfl)) (fun _ _ _ _ _ => pts_nil)
      (fun _ _ _ _ _ => pe_op op_add_str (pe_ix ix_str (pv 2) (pe_op op_mod (p_t1 call_int1 bt_int T.n_int (pe_add (pv 4) (pv 9))) pe_int) (fun _ _ => rfl)) (pe_ix (ixB_list K) (pv 7) (pe_op op_mod (pv 9) pe_int) (fun _ _ => rfl))))
    (pss_one (ps_ret (pe_lc (own := [("_law_end", 10)]) (g := gName 10) (tt := tYes) rfl sc__law_titles.nd (pi_list (pv 8)) (blkOk_by (N := ["_law_pen_here", "_law_many", "_law_letters", "_law_word", "_law_first", "_law_place_so", "_law_tail_so", "_law_tails", "_law_ends", "_law_k", "_law_end"]) (sc := defScope (top 85)) (by decide +kernel)) (fun _ _ _ _ _ => pg_name (i := 10) sc__law_titles.nd rfl (Or.inl rfl)) (fun _ _ _ _ _ => pts_nil)
      (fun _ _ _ _ _ => pe_op op_add_str (pe_slice sl_str (pv 3) po_none (po_some (pv 5))) (pv 10))))))))), ?_⟩
  refine ⟨⟨_, rfl⟩, _, rfl, draw_sat ⟨hp, by omega, by decide, by decide, fun r1 H1 s1 pn1 hr1 => ⟨(r1 : Nat), rfl, by omega, by omega, fun D hD => ?_⟩⟩⟩
  have ok1 : ∀ {z : Int}, 0 ≤ z → z < 26 → ∃ ch : Nat, atI (Str.ofString "abcdefghijklmnopqrstuvwxyz").cps.toList z = some ch ∧ letterB ch = true := fun {z} h0 h1 => by
    obtain ⟨ch, e1, e2⟩ := abc_at (i := z.toNat) (by omega)
    refine ⟨ch, ?_, e2⟩
    have : z = ((z.toNat : Nat) : Int) := (Int.toNat_of_nonneg h0).symm
    rw [this]
    exact atI_nat e1
  have alen : (Str.ofString "abcdefghijklmnopqrstuvwxyz").length ≤ sizeLine := by decide +kernel
  refine lc_pen (n := r1) (q := 1) (fun i acc => ∃ ss : List Str, acc = ss.map V.str ∧ ss.length = i ∧ ∀ s ∈ ss, s.length = 1 ∧ lets s) hD (by omega) pn1 ⟨[], rfl, rfl, fun _ h => by cases h⟩ (fun i H hi s => hi) (fun H s => Nat.le_refl _) (fun i acc x H2 H3 K2 hi s2 pn2 ⟨ss, e1, e2, e3⟩ y k2 => ?_) (fun H2 acc s2 pn2 hD2 ⟨ss, e1, e2, e3⟩ => ?_)
  · obtain ⟨rfl, rfl⟩ := y
    refine ⟨by simp [wipe], _, rfl, _, rfl, draw_sat ⟨pn2, by omega, by decide, by decide, fun r2 H4 s4 pn4 hr2 => ?_⟩⟩
    obtain ⟨ch, g1, g2⟩ := ok1 (z := (r2 : Nat)) (by omega) hr2
    refine ⟨_, _, ch, rfl, rfl, alen, g1, k2 _ _ s4 (pn4.up (by omega)) ⟨ss ++ [⟨#[ch]⟩], ?_, ?_, ?_⟩⟩
    · rw [e1, List.map_append]; rfl
    · rw [List.length_append, e2]; rfl
    · intro s hs
      rcases List.mem_append.mp hs with hs | hs
      · exact e3 s hs
      · rw [List.mem_singleton.mp hs]
        exact ⟨rfl, fun d hd => by
          have : d ∈ [ch] := hd
          rw [List.mem_singleton.mp this]; exact g2⟩
  subst e1
  obtain ⟨j1, j2⟩ := join_lets ss e3
  have hsum := sum_one ss e3
  have e0 : (Str.ofString "").length = 0 := by decide +kernel
  refine ⟨_, D, ss, rfl, rfl, .inl (.inl (.inl hD2)), by rw [e0]; omega, ?_⟩
  generalize Txt.join (Str.ofString "") ss = wd at j1 j2 ⊢
  have wlen : wd.length ≤ 6 := by omega
  have wz : wd.length ≤ sizeLine := by rw [sizeLine_eq]; omega
  refine ⟨_, rfl, draw_sat ⟨pn2, by omega, by decide, by decide, fun f H3 s3 pn3 hf => ?_⟩⟩
  refine ⟨_, rfl, _, rfl, ⟨⟨wd, rfl, wz, _, _, rfl, rfl, draw_sat ⟨pn3, by omega, by omega, by omega, fun ps H4 s4 pn4 hps => ?_⟩⟩⟩⟩
  refine ⟨_, rfl, by show 4 ≤ sizeLine; decide, fun a ha => ⟨⟨p, c, a, _, _, rfl, pn4.same (same_new ha), by omega, .inl (.inl upd_same), ?_, by simp, by show 4 ≤ 1000; decide, fun x H5 hx s5 pn5 => ?_⟩⟩⟩
  · obtain ⟨l4, h4⟩ := pn4.at_
    exact (ne_of_none h4 ha).symm
  refine ⟨by show 3 ≤ sizeLine; decide, fun t ht => ⟨t, _, rfl, .inl (.inl upd_same), rfl, _, _, rfl, _, _, rfl, _, _, rfl, rfl, ?_⟩⟩
  obtain ⟨tt, rfl, tl1, tl2⟩ : ∃ tt : Str, x = .str tt ∧ tt.length ≤ 1 ∧ lets tt := by
    simp only [List.mem_cons, List.not_mem_nil, or_false] at hx
    rcases hx with h | h | h | h <;> subst h
    · exact ⟨_, rfl, by decide +kernel, lets_e⟩
    · exact ⟨_, rfl, by decide +kernel, lets_e⟩
    · exact ⟨_, rfl, by decide +kernel, lets_z⟩
    · exact ⟨_, rfl, by decide +kernel, lets_a⟩
  have psl : ps ≤ wd.length := by omega
  have sx6 := ((((((s1.trans s2).trans s3).trans s4).trans (same_x (D := p) (same_new (o := .lst [V.str (Str.ofString ""), V.str (Str.ofString ""), V.str (Str.ofString "z"), V.str (Str.ofString "a")]) ha))).trans s5).trans (same_x (D := p) (same_new (o := .tup [V.int (f : Nat), V.int (ps : Nat), V.str tt]) ht)))
  have pn6 := pn5.same (same_new (o := .tup [V.int (f : Nat), V.int (ps : Nat), V.str tt]) ht)
  have cutz : ∀ lo hi, (cutS wd lo hi).length ≤ sizeLine := fun lo hi => Nat.le_trans (cutS_length wd lo hi) wz
  have cut6 : ∀ lo hi, (cutS wd lo hi).length ≤ 6 := fun lo hi => Nat.le_trans (cutS_length wd lo hi) wlen
  refine ⟨_, rfl, _, rfl, _, rfl, wd, rfl, wz, _, rfl, _, rfl, _, rfl, wd, rfl, wz, _, rfl, _, _, rfl, rfl, ?_, by show 2 ≤ sizeLine; decide, fun e he => ?_⟩
  · have := cut6 (some (ps : Nat)) none
    rw [sizeLine_eq]; omega
  have hpe : p ≠ e := by
    obtain ⟨l6, h6⟩ := pn6.at_
    exact ne_of_none h6 he
  have s7 := same_new (o := .lst [.str (cutS wd (some (ps : Nat)) none), .str (cutS wd (some (ps : Nat)) none ++ tt)]) he
  have pn7 := pn6.same s7
  have sx7 := sx6.trans (same_x (D := p) s7)
  have he7 : (upd (upd H5 t (.tup [.int (f : Nat), .int (ps : Nat), .str tt])) e (.lst [.str (cutS wd (some (ps : Nat)) none), .str (cutS wd (some (ps : Nat)) none ++ tt)])) e = some (.lst [.str (cutS wd (some (ps : Nat)) none), .str (cutS wd (some (ps : Nat)) none ++ tt)]) := upd_same
  let tO : Nat → Str := fun i => if i % 2 = 0 then cutS wd (some (ps : Nat)) none else cutS wd (some (ps : Nat)) none ++ tt
  have tOl : ∀ i, (tO i).length ≤ 7 := fun i => by
    have := cut6 (some (ps : Nat)) none
    show (if i % 2 = 0 then cutS wd (some (ps : Nat)) none else cutS wd (some (ps : Nat)) none ++ tt).length ≤ 7
    split
    · omega
    · rw [str_len, toL_app, List.length_append, ← str_len, ← str_len]; omega
  refine ⟨_, rfl, (n : Nat), rfl, by omega, by omega, fun D8 hD8 => ?_⟩
  refine lc_val (n := n) (fun i => .str (⟨#[chr f i]⟩ ++ tO i)) hD8 (by omega) (fun i H hi s => hi) (fun H s => Nat.le_refl _) (fun i x H8 H9 K2 hi s8 y k2 => ?_) (fun H8 s8 e8 => ?_) mg_name
  · obtain ⟨rfl, rfl⟩ := y
    have hidx : (((f : Nat) : Int) + (0 + (i : Nat))) % 26 = (((f + i) % 26 : Nat) : Int) := by omega
    have hidx2 : ((0 : Int) + (i : Nat)) % 2 = ((i % 2 : Nat) : Int) := by omega
    have hat : atI (Str.ofString "abcdefghijklmnopqrstuvwxyz").cps.toList ((((f : Nat) : Int) + (0 + (i : Nat))) % 26) = some (chr f i) := by
      rw [hidx]
      exact atI_nat (chr_at f i).1
    have hat2 : atI [V.str (cutS wd (some (ps : Nat)) none), V.str (cutS wd (some (ps : Nat)) none ++ tt)] (((0 : Int) + (i : Nat)) % 2) = some (.str (tO i)) := by
      rw [hidx2]
      refine atI_nat ?_
      show _ = some (V.str (if i % 2 = 0 then _ else _))
      rcases Nat.mod_two_eq_zero_or_one i with z | z <;> rw [z] <;> rfl
    refine ⟨by simp [wipe], _, rfl, _, rfl, _, rfl, _, _, rfl, rfl, ⟨.inl ⟨_, rfl, _, _, rfl, rfl, (show (0 : Int) < 26 by decide), _, _, chr f i, rfl, rfl, alen, hat, _, rfl, _, rfl, _, _, rfl, rfl, (show (0 : Int) < 2 by decide), e, _, _, .str (tO i), rfl, rfl, .inl (.inl (s8 _ _ he7)), hat2, _, _, rfl, rfl, ?_, k2 _ (Same.refl _)⟩⟩⟩
    have := tOl i
    show 1 + (tO i).length ≤ sizeLine
    rw [sizeLine_eq]; omega
  have s8' := same_x (D := p) s8
  refine ⟨_, rfl, D8, rfl, ⟨_, .inl (.inl e8)⟩, fun D9 hD9 => ?_⟩
  refine lc_mapV (overL (L := List.range n) (f := fun i => V.str (⟨#[chr f i]⟩ ++ tO i)) (.inl (.inl e8))) hD9 (by rw [List.length_range]; omega) (fun i => .str (cutS wd none (some (ps : Nat)) ++ (⟨#[chr f i]⟩ ++ tO i))) (fun i H9 K2 hi s9 k2 => ?_) (fun H9 s9 e9 => ?_)
  · refine ⟨by simp [wipe], _, rfl, _, rfl, _, rfl, wd, rfl, wz, _, rfl, _, _, rfl, rfl, ?_, k2 _ (Same.refl _)⟩
    have a1 := cut6 none (some (ps : Nat))
    have a2 := tOl i
    have a3 : ((⟨#[chr f i]⟩ : Str) ++ tO i).length = 1 + (tO i).length := by
      rw [str_len, toL_app, List.length_append, ← str_len, ← str_len]; rfl
    show (cutS wd none (some (ps : Nat))).length + ((⟨#[chr f i]⟩ : Str) ++ tO i).length ≤ sizeLine
    rw [a3, sizeLine_eq]; omega
  have eT : ∀ i, cutS wd none (some (ps : Nat)) ++ (⟨#[chr f i]⟩ ++ tO i) = titleS wd ⟨#[chr f i]⟩ (tlS tt i) ps := fun i => by
    unfold titleS tlS
    congr 2
    show (if i % 2 = 0 then cutS wd (some (ps : Nat)) none else cutS wd (some (ps : Nat)) none ++ tt) = _
    split
    · refine str_ext ?_
      rw [toL_app]
      have : Str.empty.cps.toList = [] := rfl
      rw [this, List.append_nil]
    · rfl
  have e9' : H9 D9 = some (.lst ((titlesL wd tt ps f n).map V.str)) := by
    rw [e9]
    unfold titlesL
    rw [List.map_map]
    congr 2
    apply List.map_congr_left
    intro i _
    show V.str (cutS wd none (some (ps : Nat)) ++ (⟨#[chr f i]⟩ ++ tO i)) = V.str (titleS wd ⟨#[chr f i]⟩ (tlS tt i) ps)
    rw [eT i]
  have sxF := (sx7.trans s8').trans (same_x (D := p) s9)
  have hDn : H D9 = none := by
    cases hz : H D9 with
    | none => rfl
    | some o =>
      have npD : D9 ≠ p := fun z => by
        obtain ⟨l8, h8⟩ := (pn7.same s8).at_
        rw [z, h8] at hD9
        cases hD9
      have := (sx7.trans s8') D9 o npD hz
      rw [hD9] at this
      cases this
  exact q D9 _ H9 sxF (((pn7.same s8).same s9).up (by omega)) hDn e9' (by unfold titlesL; rw [List.length_map, List.length_range]) (titles_nd psl hn) (titles_ok psl j2 wlen tl2 tl1)
end
end Tx
/-! ## DPairs -/
namespace Tx
open PySem PySem.Spec PyProof.Rows L2
section
variable {X : Cx} (K : PySem.W.Frag)
theorem bmB {o e : Expr} {es : List Expr} {to : TE} {t : TA} {name : Str} {apos cpos : Pos} {T id : String} {r : V → List V → Hp → VK → Prop} (pa : PlainAttrs T) (slot : Slot T name id) (hty : typeOf (.builtin id) = pure (.type "method_descriptor")) (hm : MtR X id r) (ho : PE X o to) (ha : PA X (e :: es) t)
    (hbase : attributeBase o name X.env (eval o X.env) = eval o X.env := by rfl)
    (hfew : ((backTo cpos (starEach (e :: es) X.env)).all (fun x => !x.1) && (backToKw cpos (keywordEach [] X.env)).all (fun x => x.1.isSome)
      && decide ((e :: es).length + ([] : List Keyword).length + (if ([] : List Keyword).isEmpty then 0 else 1) < 30)) = true := by rfl)
    (hline : (apos.endLine == cpos.line) = true := by rfl) (hs : starEach (e :: es) X.env = (false, eval e X.env) :: starEach es X.env := by rfl) (hplain : (backTo cpos (starEach es X.env)).any (·.1) = false := by rfl) (hK : X.K = K := by rfl) :
    PE X (.Call (.Attribute o name apos) (e :: es) [] cpos) (tBM K T r to t) := by
  subst hK
  exact pe_bm pa slot hty hm ho ha hbase hfew hline hs hplain
end
section
variable {w : World} {K : PySem.W.Frag} {mg : Str → Option Value} {base : Heap} (T : Txt K mg)
/-- the value is a pair of texts -/
def IsP (K : PySem.W.Frag) (H : Hp) (v : V) (a : Str × Str) : Prop := ∃ t, v = .ref t ∧ SqT K H t [.str a.1, .str a.2]
def IsPs (K : PySem.W.Frag) (H : Hp) : List V → List (Str × Str) → Prop
  | [], [] => True
  | v :: vs, a :: as => IsP K H v a ∧ IsPs K H vs as
  | _, _ => False
/-- good pairs: unlike ends among the spots -/
def PairOk (sp : List Str) (a : Str × Str) : Prop := a.1 ∈ sp ∧ a.2 ∈ sp ∧ a.1 ≠ a.2
theorem er_map (xs : List Str) (d : Nat) : (xs.map V.str).eraseIdx d = (xs.eraseIdx d).map V.str := by
  rw [List.eraseIdx_eq_take_drop_succ, List.eraseIdx_eq_take_drop_succ, List.map_append, List.map_take, List.map_drop]
theorem er_perm {xs : List Str} {d : Nat} (h : d < xs.length) : (xs[d] :: xs.eraseIdx d).Perm xs := by
  rw [List.eraseIdx_eq_take_drop_succ]
  refine List.Perm.trans List.perm_middle.symm ?_
  rw [← List.drop_eq_getElem_cons h, List.take_append_drop]
theorem sq_nat {d n : Nat} (h : d < n) : seqIndex? ((d : Nat) : Int) n = some d := by
  unfold seqIndex?
  have h1 : ¬ (((d : Nat) : Int) < 0) := by omega
  simp [h1, h]
/-- all but two stand -/
def SX2 (p l : Addr) (H H' : Hp) : Prop := ∀ a o, a ≠ p → a ≠ l → H a = some o → H' a = some o
theorem IsPs.nl {H H' : Hp} (s : NL H H') : ∀ {vs : List V} {as : List (Str × Str)}, IsPs K H vs as → IsPs K H' vs as
  | [], [], h => h
  | v :: vs, a :: as, h => by
    obtain ⟨⟨t, e, h1⟩, h2⟩ := h
    exact ⟨⟨t, e, s.sqT h1⟩, IsPs.nl s h2⟩
  | [], _ :: _, h => h.elim
  | _ :: _, [], h => h.elim
theorem IsPs.append {H : Hp} : ∀ {vs : List V} {as : List (Str × Str)} {ws : List V} {bs : List (Str × Str)}, IsPs K H vs as → IsPs K H ws bs → IsPs K H (vs ++ ws) (as ++ bs)
  | [], [], _, _, _, h => h
  | v :: vs, a :: as, _, _, h, g => ⟨h.1, IsPs.append h.2 g⟩
  | [], _ :: _, _, _, h, _ => h.elim
  | _ :: _, [], _, _, h, _ => h.elim
theorem IsPs.len {H : Hp} : ∀ {vs : List V} {as : List (Str × Str)}, IsPs K H vs as → vs.length = as.length
  | [], [], _ => rfl
  | v :: vs, a :: as, h => by rw [List.length_cons, List.length_cons, IsPs.len h.2]
  | [], _ :: _, h => h.elim
  | _ :: _, [], h => h.elim
/-- the walk once round -/
def roundP (o : List Str) : List (Str × Str) := (List.range o.length).map fun i => (o.getD i Str.empty, o.getD ((i + 1) % o.length) Str.empty)
theorem round_len (o : List Str) : (roundP o).length = o.length := by unfold roundP; rw [List.length_map, List.length_range]
theorem round_ok {sp o : List Str} (pm : o.Perm sp) (nd : sp.Nodup) (two : 2 ≤ sp.length) : ∀ a ∈ roundP o, PairOk sp a := fun a ha => by
  obtain ⟨i, hi, rfl⟩ := List.mem_map.mp ha
  rw [List.mem_range] at hi
  have hl := pm.length_eq
  have hj : (i + 1) % o.length < o.length := Nat.mod_lt _ (by omega)
  have g1 : o.getD i Str.empty = o[i] := by rw [List.getD_eq_getElem?_getD, List.getElem?_eq_getElem hi]; rfl
  have g2 : o.getD ((i + 1) % o.length) Str.empty = o[(i + 1) % o.length] := by rw [List.getD_eq_getElem?_getD, List.getElem?_eq_getElem hj]; rfl
  refine ⟨?_, ?_, ?_⟩
  · show o.getD i Str.empty ∈ sp
    rw [g1]; exact pm.mem_iff.mp (List.getElem_mem _)
  · show o.getD ((i + 1) % o.length) Str.empty ∈ sp
    rw [g2]; exact pm.mem_iff.mp (List.getElem_mem _)
  · show o.getD i Str.empty ≠ o.getD ((i + 1) % o.length) Str.empty
    rw [g1, g2]
    intro z
    have := (List.getElem_inj (pm.nodup_iff.mpr nd)).mp z
    rcases Nat.lt_or_ge (i + 1) o.length with q | q
    · rw [Nat.mod_eq_of_lt q] at this; omega
    · rw [show i + 1 = o.length by omega, Nat.mod_self] at this; omega
def spPairs (K : PySem.W.Frag) : Sp := fun vs H Q _ => ∃ (p c : Addr) (k : Nat) (S : Addr) (sp : List Str) (r : Nat), vs = [.ref p, .ref S, .int (r : Nat)] ∧ Pen K H p c k ∧ k ≤ 99000 ∧ H S = some (.lst (sp.map V.str)) ∧ S ≠ p ∧ sp.Nodup ∧ 2 ≤ sp.length ∧ sp.length ≤ 5 ∧ r ≤ 4 ∧
  ∀ D vs' ps H', SameX p H H' → Pen K H' p c (k + 20) → H D = none → H' D = some (.lst vs') → IsPs K H' vs' ps → ps.length = r * sp.length → (∀ a ∈ ps, PairOk sp a) → Q (.ref D) H'
theorem sc__law_pairs : FnScope ["_law_pen_here", "_law_spots_here", "_law_rounds", "_law_pairs_here", "_law_lap", "_law_left", "_law_order", "_law_k"] ["_law_pen_here", "_law_spots_here", "_law_rounds"] (defScope (top 86)) := ⟨rfl, rfl, rfl, by decide +kernel, rfl, by decide +kernel, by decide +kernel⟩
include T in
theorem ok__law_pairs : Fn w K mg base 2 (He.ga K "_law_pairs") (spPairs K) := by
  refine funR T.f__law_pairs sc__law_pairs (fun _ _ _ _ _ _ us hl => match us, hl with | [_, _, _], _ => rfl) (fun vs H Q E h => ?_) (fun cdv A outer s H vs Q E hr h => ?_)
  · obtain ⟨p, c, k, S, sp, r, rfl, _⟩ := h; rfl
  obtain ⟨p, c, k, S, sp, r, rfl, hp, hk, hS, nSp, nd, two, five, hr4, q⟩ := h
  refine ⟨_, pss_cons (ps_set (i := 3) sc__law_pairs.nd rfl (Or.inl rfl) (pe_lst pa_nil))
    (pss_cons (ps_for PassesOwn.never rfl (pi_range1 (by rfl) T.n_range (pa_cons (pv 2) pa_nil)) (pg_name (i := 4) sc__law_pairs.nd rfl (Or.inl rfl))
      (pss_cons (ps_set (i := 5) sc__law_pairs.nd rfl (Or.inr rfl) (p_t1 call_list_of bt_list T.n_list (pv 1)))
      (pss_cons (ps_set (i := 6) sc__law_pairs.nd rfl (Or.inr rfl) (pe_lc (own := [("_law_k", 7)]) (g := gName 7) (tt := tYes) rfl sc__law_pairs.nd (pi_range1 (by rfl) T.n_range (pa_cons (p_b1 call_len_seq bt_len T.n_len (pv 1)) pa_nil)) (blkOk_by (N := ["_law_pen_here", "_law_spots_here", "_law_rounds", "_law_pairs_here", "_law_lap", "_law_left", "_law_order", "_law_k"]) (sc := defScope (top 86)) (by decide +kernel)) (fun _ _ _ _ _ => pg_name (i := 7) sc__law_pairs.nd rfl (Or.inl rfl)) (fun _ _ _ _ _ => pts_nil)
        (fun _ _ _ _ _ => bmB K F.plainAttrs_list F.slot_list_pop F.type_list_pop mt_popAt (pv 5) (pa_cons (Own.pe_call (ok__law_draw T) hr (by rfl) T.g__law_draw T.k__law_draw (pa_cons (pv 0) (pa_cons (p_b1 (lenB K) bt_len T.n_len (pv 5)) pa_nil))) pa_nil))))
      (pss_one (ps_set (i := 3) sc__law_pairs.nd rfl (Or.inl rfl) (pe_op op_cat (pv 3) (pe_lc (own := [("_law_k", 7)]) (g := gName 7) (tt := tYes) rfl sc__law_pairs.nd (pi_range1 (by rfl) T.n_range (pa_cons (p_b1 call_len_seq bt_len T.n_len (pv 6)) pa_nil)) (blkOk_by (N := ["_law_pen_here", "_law_spots_here", "_law_rounds", "_law_pairs_here", "_law_lap", "_law_left", "_law_order", "_law_k"]) (sc := defScope (top 86)) (by decide +kernel)) (fun _ _ _ _ _ => pg_name (i := 7) sc__law_pairs.nd rfl (Or.inl rfl)) (fun _ _ _ _ _ => pts_nil)
        (fun _ _ _ _ _ => pe_tup (pa_cons (pe_ix (ixB_list K) (pv 6) (pv 7) (fun _ _ => rfl)) (pa_cons (pe_ix (ixB_list K) (pv 6) (pe_op op_mod (p_t1 call_int1 bt_int T.n_int (pe_add (pv 7) pe_int)) (p_b1 (lenB K) bt_len T.n_len (pv 6))) (fun _ _ => rfl)) pa_nil))))))))))
    (pss_one (ps_ret (pv 3)))), ?_⟩
  have pnz : ∀ {H : Hp} {k : Nat} {D : Addr}, Pen K H p c k → H D = none → p ≠ D ∧ c ≠ D := fun {H k D} pn hD => by
    obtain ⟨cs, j, l, h1, h2, _⟩ := pn
    exact ⟨ne_of_none h1 hD, ne_of_none h2 hD⟩
  refine ⟨by decide, fun D0 hD0 => ?_⟩
  refine ⟨_, rfl, (r : Nat), rfl, by omega, by omega, ?_⟩
  refine for_any (n := r) (fun i σ H' => SameX p H H' ∧ Pen K H' p c (k + 5 * i) ∧ (∃ a vs ps, H a = none ∧ H' a = some (.lst vs) ∧ IsPs K H' vs ps ∧ ps.length = i * sp.length ∧ (∀ z ∈ ps, PairOk sp z) ∧ ∃ u1 u2 u3 u4, σ = [some (.ref p), some (.ref S), some (.int (r : Nat)), some (.ref a), u1, u2, u3, u4]))
    ⟨same_x (same_new hD0), hp.same (same_new hD0), D0, [], [], hD0, upd_same, trivial, by simp, (fun z h => absurd h List.not_mem_nil), _, _, _, _, rfl⟩ (fun i σ H' hi pv => hi) (fun σ H' pv => Nat.le_refl _) (fun i x σ H2 H3 hi pv y => ?_) (fun σ H2 pv => ?_)
  · obtain ⟨rfl, rfl⟩ := y
    obtain ⟨sx, pn, a, vs, ps, ha0, ha, hps, hlen, hok, u1, u2, u3, u4, rfl⟩ := pv
    have hS3 := sx S _ nSp hS
    refine ⟨_, rfl, ⟨⟨S, _, rfl, .inl (.inl (.inl hS3)), fun l hl => ?_⟩⟩⟩
    obtain ⟨pl, cl⟩ := pnz pn hl
    have pn1 := pn.same (same_new (o := .lst (sp.map V.str)) hl)
    have hl1 : (upd H3 l (.lst (sp.map V.str))) l = some (.lst (sp.map V.str)) := upd_same
    refine ⟨_, rfl, ⟨⟨S, _, rfl, .inl (.inl (.inl (same_new hl _ _ hS3))), (sp.length : Nat), by rw [List.length_map], by omega, by omega, fun D hD => ?_⟩⟩⟩
    obtain ⟨pD, cD⟩ := pnz pn1 hD
    have lD : l ≠ D := ne_of_none hl1 hD
    refine lc_any (n := sp.length) (fun j H => SX2 p l (upd H3 l (.lst (sp.map V.str))) H ∧ Pen K H p c (k + 5 * i + j) ∧ ∃ acc rest : List Str, H D = some (.lst (acc.map V.str)) ∧ H l = some (.lst (rest.map V.str)) ∧ (acc ++ rest).Perm sp ∧ acc.length = j)
      ⟨fun b o n1 n2 e => by rw [upd_ne (ne_of_none e hD)]; exact e, pn1.sx sameX_upd pD cD, [], sp, upd_same, by rw [upd_ne lD]; exact hl1, List.Perm.refl _, rfl⟩ (fun j H hj pv => hj) (fun H pv => Nat.le_refl _) (fun j x H4 H5 hj pv y => ?_) (fun H4 pv => ?_)
    · obtain ⟨rfl, rfl⟩ := y
      obtain ⟨sx4, pn4, acc, rest, hDa, hlr, pm, hal⟩ := pv
      have hlen := pm.length_eq
      rw [List.length_append] at hlen
      refine ⟨by simp [wipe], t_yes ⟨_, rfl, .inl ⟨rfl, _, .inl (.inl hlr)⟩, _, rfl, _, rfl, ⟨⟨l, _, rfl, .inl (.inl (.inl hlr)), draw_sat ⟨pn4, by omega, by rw [List.length_map]; omega, by rw [List.length_map]; omega, fun d H6 s6 pn6 hd => ?_⟩⟩⟩⟩⟩
      rw [List.length_map] at hd
      have hdl : d < rest.length := by omega
      have hl6 : H6 l = some (.lst (rest.map V.str)) := s6 l _ (Ne.symm pl) hlr
      have hD6 : H6 D = some (.lst (acc.map V.str)) := s6 D _ (Ne.symm pD) hDa
      have hsq : seqIndex? ((d : Nat) : Int) (rest.map V.str).length = some d := by
        rw [List.length_map]
        exact sq_nat hdl
      refine ⟨l, _, _, d, .str rest[d], rfl, rfl, hl6, by omega, by omega, hsq, by rw [List.getElem?_map, List.getElem?_eq_getElem hdl]; rfl, ?_⟩
      have pn7 := pn6.sx (sameX_upd (D := l) (u := .lst ((rest.map V.str).eraseIdx d))) pl cl
      have hD7 : (upd H6 l (.lst ((rest.map V.str).eraseIdx d))) D = some (.lst (acc.map V.str)) := by rw [upd_ne (Ne.symm lD)]; exact hD6
      refine ⟨_, hD7, by rw [List.length_map, sizeLine_eq]; omega, fun b o n1 n2 e => ?_, (pn7.sx sameX_upd pD cD).up (by omega), acc ++ [rest[d]], rest.eraseIdx d, by rw [upd_same, List.map_append]; rfl, by rw [upd_ne lD, upd_same, er_map], ?_, by rw [List.length_append, hal]; rfl⟩
      · rw [upd_ne (ne_of_none e hD), upd_ne n2]
        exact s6 _ _ n1 (sx4 _ _ n1 n2 e)
      · refine List.Perm.trans ?_ pm
        rw [List.append_assoc]
        refine List.Perm.append_left acc ?_
        exact er_perm hdl
    · obtain ⟨sx4, pn4, acc, rest, hDa, hlr, pm, hal⟩ := pv
      have hre : rest = [] := by
        have := pm.length_eq
        rw [List.length_append, hal] at this
        exact List.length_eq_zero_iff.mp (by omega)
      subst hre
      rw [List.append_nil] at pm
      have sx5 : SameX p H3 H4 := fun b o n e => sx4 b o n (ne_of_none e hl) (same_new hl b o e)
      have ha4 : H4 a = some (.lst vs) := sx5 a _ (fun z => by obtain ⟨q1, h1⟩ := hp.at_; rw [z, h1] at ha0; cases ha0) ha
      obtain ⟨lp, hlp⟩ := pn.at_
      have nl4 := nl_x hlp sx5
      have hps4 := hps.nl nl4
      refine ⟨_, rfl, _, rfl, ⟨⟨D, _, rfl, .inl (.inl (.inl hDa)), (acc.length : Nat), by rw [List.length_map], by omega, by omega, fun D2 hD2 => ?_⟩⟩⟩
      refine lc_gen (n := acc.length) (fun j vv H => IsPs K H vv ((roundP acc).take j)) hD2 (by omega) trivial (fun j vv lv H H' e s h => h.nl (nl_x e s)) (fun j H hj s => hj) (fun H s => Nat.le_refl _) (fun j vv x H5 H6 K1 K2 hj s5 hP y k2 k1 => ?_) (fun H5 vv s5 e5 hP => ?_)
      · obtain ⟨rfl, rfl⟩ := y
        have hDs : SqL K H6 D (acc.map V.str) := .inl (.inl (s5 _ _ hDa))
        have hm : (j + 1) % acc.length < acc.length := Nat.mod_lt _ (by omega)
        have hat1 : atI (acc.map V.str) ((0 : Int) + (j : Nat)) = some (.str (acc.getD j Str.empty)) := by
          rw [Int.zero_add]
          exact atI_nat (by rw [List.getElem?_map, List.getD_eq_getElem?_getD, List.getElem?_eq_getElem hj]; rfl)
        have hat2 : atI (acc.map V.str) (((0 : Int) + (j : Nat) + 1) % ((acc.map V.str).length : Nat)) = some (.str (acc.getD ((j + 1) % acc.length) Str.empty)) := by
          have : ((0 : Int) + (j : Nat) + 1) % ((acc.map V.str).length : Nat) = (((j + 1) % acc.length : Nat) : Int) := by
            rw [List.length_map, Int.natCast_emod]
            congr 1
            omega
          rw [this]
          exact atI_nat (by rw [List.getElem?_map, List.getD_eq_getElem?_getD, List.getElem?_eq_getElem hm]; rfl)
        refine ⟨by simp [wipe], t_yes ⟨_, rfl, _, rfl, D, _, _, _, rfl, rfl, hDs, hat1, _, rfl, _, rfl, _, _, rfl, rfl, ⟨.inl ⟨_, rfl, _, rfl, ⟨⟨D, _, rfl, .inl hDs, _, _, rfl, rfl, (by show (0 : Int) < _; rw [List.length_map]; omega), D, _, _, _, rfl, rfl, hDs, hat2, by show 2 ≤ sizeLine; decide, fun t ht => k2 _ _ (same_new ht) ?_⟩⟩⟩⟩⟩⟩
        have tk : (roundP acc).take (j + 1) = (roundP acc).take j ++ [(acc.getD j Str.empty, acc.getD ((j + 1) % acc.length) Str.empty)] := by
          have : (roundP acc)[j]? = some (acc.getD j Str.empty, acc.getD ((j + 1) % acc.length) Str.empty) := by
            unfold roundP
            rw [List.getElem?_map, List.getElem?_range hj]; rfl
          rw [List.take_succ, this]; rfl
        rw [tk]
        exact (hP.nl (nl_same (same_new ht))).append ⟨⟨t, rfl, .inl (.inl upd_same)⟩, trivial⟩
      · rw [List.take_of_length_le (by rw [round_len]; exact Nat.le_refl _)] at hP
        have ha5 := s5 _ _ ha4
        have hps5 := hps4.nl (nl_same s5)
        have l1 := hps.len
        have l2 := hP.len
        rw [round_len] at l2
        refine ⟨a, D2, vs, vv, rfl, rfl, ha5, e5, ?_, fun e he => ?_⟩
        · have : i * sp.length ≤ 4 * 5 := Nat.mul_le_mul (by omega) five
          rw [sizeLine_eq]; omega
        · have s6 := same_new (o := .lst (vs ++ vv)) he
          have sx7 : SameX p H (upd H5 e (.lst (vs ++ vv))) := ((sx.trans sx5).trans (same_x s5)).trans (same_x s6)
          have pn7 := (pn4.same s5).same s6
          refine ⟨sx7, pn7.up (by omega), e, vs ++ vv, ps ++ roundP acc, ?_, upd_same, (hps5.append hP).nl (nl_same s6), ?_, ?_, _, _, _, _, rfl⟩
          · cases hz : H e with
            | none => rfl
            | some o =>
              have npe : e ≠ p := fun z => by
                obtain ⟨l8, h8⟩ := (pn4.same s5).at_
                rw [z, h8] at he
                cases he
              have := ((sx.trans sx5).trans (same_x (D := p) s5)) e o npe hz
              rw [he] at this
              cases this
          · rw [List.length_append, round_len, hlen, hal, Nat.succ_mul]
          · intro z hz
            rcases List.mem_append.mp hz with hz | hz
            · exact hok z hz
            · exact round_ok pm nd two z hz
  · obtain ⟨sx, pn, a, vs, ps, ha0, ha, hps, hlen, hok, u1, u2, u3, u4, rfl⟩ := pv
    exact ⟨_, rfl, q a vs ps H2 sx (pn.up (by omega)) ha0 ha hps hlen hok⟩
end
end Tx
/-! ## DSite1 -/
namespace Tx
open PySem PySem.Spec PyProof.Rows L2
section
variable {w : World} {K : PySem.W.Frag} {mg : Str → Option Value} {base : Heap} (T : Txt K mg)
def spLPrice (K : PySem.W.Frag) : Sp := fun vs H Q _ => ∃ p c k, vs = [.ref p] ∧ Pen K H p c k ∧ k ≤ 99000 ∧ ∀ i H', SameX p H H' → Pen K H' p c (k + 2) → priceB i → Q (.int i) H'
theorem sc__law_price : FnScope ["_law_pen_here"] ["_law_pen_here"] (defScope (top 87)) := ⟨rfl, rfl, rfl, by decide +kernel, rfl, by decide +kernel, by decide +kernel⟩
include T in
theorem ok__law_price : Fn w K mg base 3 (He.ga K "_law_price") (spLPrice K) := by
  refine funR T.f__law_price sc__law_price (fun _ _ _ _ _ _ us hl => match us, hl with | [_], _ => rfl) (fun vs H Q E h => ?_) (fun cdv A outer s H vs Q E hr h => ?_)
  · obtain ⟨p, c, k, rfl, _⟩ := h; rfl
  obtain ⟨p, c, k, rfl, hp, hk, q⟩ := h
  refine ⟨_, pss_one (ps_ret (Own.pe_call (ok__law_pick T) hr (by rfl) T.g__law_pick T.k__law_pick (pa_cons (pv 0) (pa_cons (pe_lst (pa_cons pe_int (pa_cons pe_int (pa_cons pe_int (pa_cons pe_int (pa_cons (pe_un un_neg pe_int) (pa_cons pe_int (pa_cons pe_int (pa_cons (pe_un un_neg pe_int) (pa_cons (Own.pe_call (ok__law_draw T) (hr.mono (by decide)) (by rfl) T.g__law_draw T.k__law_draw (pa_cons (pv 0) (pa_cons (pe_op op_pow pe_int pe_int) pa_nil))) pa_nil)))))))))) pa_nil)))), ?_⟩
  refine ⟨_, rfl, _, rfl, _, rfl, _, rfl, _, _, rfl, rfl, ⟨by decide, by decide, by decide⟩, draw_sat ⟨hp, by omega, by decide, by decide, fun r H1 s1 pn1 hr1 => ⟨by show 9 ≤ sizeLine; decide, fun a ha => ⟨⟨p, c, a, _, _, rfl, pn1.same (same_new ha), by omega, .inl (.inl upd_same), ?_, by simp, by show 9 ≤ 1000; decide, fun x H2 hx s2 pn2 => ?_⟩⟩⟩⟩⟩
  · obtain ⟨l4, h4⟩ := pn1.at_
    exact (ne_of_none h4 ha).symm
  have hr1 : (r : Int) < 1000000000000 := hr1
  have sF := (s1.trans (same_x (D := p) (same_new ha))).trans s2
  have fin : ∀ i : Int, x = .int i → priceB i → Q x H2 := fun i e b => by rw [e]; exact q i H2 sF pn2 b
  simp only [List.mem_cons, List.not_mem_nil, or_false] at hx
  rcases hx with h | h | h | h | h | h | h | h | h
  all_goals exact fin _ h ⟨by omega, by omega⟩
end
end Tx
/-! ## DSite2 -/
namespace Tx
open PySem PySem.Spec PyProof.Rows L2
/-- a row of the law: kind, name, start, goal, prices -/
structure LRow where
  kd : Str
  nm : Str
  a : Str
  b : Str
  p : Int
  q : Int
def LRow.vs (r : LRow) : List V := [.str r.kd, .str r.nm, .str r.a, .str r.b, .int r.p, .int r.q]
def IsR (K : PySem.W.Frag) (H : Hp) (v : V) (r : LRow) : Prop := ∃ t, v = .ref t ∧ SqT K H t r.vs
def IsRs (K : PySem.W.Frag) (H : Hp) : List V → List LRow → Prop
  | [], [] => True
  | v :: vs, a :: as => IsR K H v a ∧ IsRs K H vs as
  | _, _ => False
section
variable {K : PySem.W.Frag} {H H' : Hp}
theorem IsRs.nl (s : NL H H') : ∀ {vs : List V} {as : List LRow}, IsRs K H vs as → IsRs K H' vs as
  | [], [], h => h
  | v :: vs, a :: as, h => by
    obtain ⟨⟨t, e, h1⟩, h2⟩ := h
    exact ⟨⟨t, e, s.sqT h1⟩, IsRs.nl s h2⟩
  | [], _ :: _, h => h.elim
  | _ :: _, [], h => h.elim
theorem IsRs.append : ∀ {vs : List V} {as : List LRow} {ws : List V} {bs : List LRow}, IsRs K H vs as → IsRs K H ws bs → IsRs K H (vs ++ ws) (as ++ bs)
  | [], [], _, _, _, h => h
  | v :: vs, a :: as, _, _, h, g => ⟨h.1, IsRs.append h.2 g⟩
  | [], _ :: _, _, _, h, _ => h.elim
  | _ :: _, [], _, _, h, _ => h.elim
theorem IsRs.len : ∀ {vs : List V} {as : List LRow}, IsRs K H vs as → vs.length = as.length
  | [], [], _ => rfl
  | v :: vs, a :: as, h => by rw [List.length_cons, List.length_cons, IsRs.len h.2]
  | [], _ :: _, h => h.elim
  | _ :: _, [], h => h.elim
theorem IsRs.get : ∀ {vs : List V} {as : List LRow} {i : Nat} {v : V}, IsRs K H vs as → vs[i]? = some v → ∃ a, as[i]? = some a ∧ IsR K H v a
  | v :: vs, a :: as, 0, x, h, e => by
    simp at e
    subst e
    exact ⟨a, rfl, h.1⟩
  | v :: vs, a :: as, i + 1, x, h, e => IsRs.get (i := i) h.2 (by simpa using e)
  | [], [], _, _, _, e => by simp at e
  | [], _ :: _, _, _, h, _ => h.elim
  | _ :: _, [], _, _, h, _ => h.elim
theorem IsPs.get : ∀ {vs : List V} {as : List (Str × Str)} {i : Nat} {a : Str × Str}, IsPs K H vs as → as[i]? = some a → ∃ v, vs[i]? = some v ∧ IsP K H v a
  | v :: vs, a :: as, 0, x, h, e => by
    simp at e
    subst e
    exact ⟨v, rfl, h.1⟩
  | v :: vs, a :: as, i + 1, x, h, e => IsPs.get (i := i) h.2 (by simpa using e)
  | [], [], _, _, _, e => by simp at e
  | [], _ :: _, _, _, h, _ => h.elim
  | _ :: _, [], _, _, h, _ => h.elim
end
/-- good rows of the law -/
structure RowsG (sp : List Str) (rs : List LRow) : Prop where
  kd : ∀ r ∈ rs, r.kd = "road" ∨ r.kd = "lane" ∨ r.kd = "avenue"
  nd : (rs.map (·.nm)).Nodup
  nm : ∀ r ∈ rs, nameB r.nm = true
  ab : ∀ r ∈ rs, PairOk sp (r.a, r.b)
  pr : ∀ r ∈ rs, priceB r.p ∧ priceB r.q
  ne : rs ≠ []
  few : rs.length ≤ 14
/-- good spots -/
structure SpotsG (sp : List Str) : Prop where
  nd : sp.Nodup
  nm : ∀ s ∈ sp, nameB s = true
  two : 2 ≤ sp.length
  five : sp.length ≤ 5
end Tx
/-! ## DSite3 -/
namespace Tx
open PySem PySem.Spec PyProof.Rows L2
section
variable {w : World} {K : PySem.W.Frag} {mg : Str → Option Value} {base : Heap} (T : Txt K mg)
/-- calls by their promises -/
theorem titles_sat {H : Hp} {p c : Addr} {n k : Nat} {i : Int} {Q : VK} (e : i = (n : Nat)) (hp : Pen K H p c k) (hk : k ≤ 99000) (hn : n ≤ 14)
    (q : ∀ D (ss : List Str) H', SameX p H H' → Pen K H' p c (k + 10) → H D = none → H' D = some (.lst (ss.map V.str)) → ss.length = n → ss.Nodup → (∀ s ∈ ss, nameB s = true) → Q (.ref D) H') : Own.Sat (spTitles K) [.ref p, .int i] H Q := by
  subst e
  exact ⟨⟨p, c, n, k, rfl, hp, hk, hn, q⟩⟩
theorem pairs_sat {H : Hp} {p c S : Addr} {k r : Nat} {sp : List Str} {i : Int} {Q : VK} (e : i = (r : Nat)) (hp : Pen K H p c k) (hk : k ≤ 99000) (hS : H S = some (.lst (sp.map V.str))) (n : S ≠ p) (g : SpotsG sp) (hr : r ≤ 4)
    (q : ∀ D vs' ps H', SameX p H H' → Pen K H' p c (k + 20) → H D = none → H' D = some (.lst vs') → IsPs K H' vs' ps → ps.length = r * sp.length → (∀ a ∈ ps, PairOk sp a) → Q (.ref D) H') : Own.Sat (spPairs K) [.ref p, .ref S, .int i] H Q := by
  subst e
  exact ⟨⟨p, c, k, S, sp, r, rfl, hp, hk, hS, n, g.nd, g.two, g.five, hr, q⟩⟩
theorem pick_sat {H : Hp} {p c a : Addr} {k : Nat} {xs : List V} {Q : VK} (hp : Pen K H p c k) (hk : k ≤ 99000) (ha : SqL K H a xs) (n : a ≠ p) (ne : xs ≠ []) (hl : xs.length ≤ 1000)
    (q : ∀ x H', x ∈ xs → SameX p H H' → Pen K H' p c (k + 1) → Q x H') : Own.Sat (spPick K) [.ref p, .ref a] H Q := ⟨⟨p, c, a, xs, k, rfl, hp, by omega, ha, n, ne, hl, q⟩⟩
theorem price_sat {H : Hp} {p c : Addr} {k : Nat} {Q : VK} (hp : Pen K H p c k) (hk : k ≤ 99000) (q : ∀ i H', SameX p H H' → Pen K H' p c (k + 2) → priceB i → Q (.int i) H') : Own.Sat (spLPrice K) [.ref p] H Q := ⟨⟨p, c, k, rfl, hp, hk, q⟩⟩
theorem rounds_ok {n : Nat} (h2 : 2 ≤ n) (h5 : n ≤ 5) : ∃ m : Nat, (if (14 : Int) / (n : Nat) < 4 then (14 : Int) / (n : Nat) else 4) = (m : Nat) ∧ 1 ≤ m ∧ m ≤ 4 ∧ m * n ≤ 14 := by
  have : n = 2 ∨ n = 3 ∨ n = 4 ∨ n = 5 := by omega
  rcases this with rfl | rfl | rfl | rfl
  · exact ⟨4, by decide, by decide, by decide, by decide⟩
  · exact ⟨4, by decide, by decide, by decide, by decide⟩
  · exact ⟨3, by decide, by decide, by decide, by decide⟩
  · exact ⟨2, by decide, by decide, by decide, by decide⟩
def kindsV : List V := [.str "road", .str "road", .str "lane", .str "avenue"]
def spSite (K : PySem.W.Frag) : Sp := fun vs H Q _ => ∃ p c k a, vs = [.ref p, .ref a, .int 5] ∧ Pen K H p c k ∧ k ≤ 90000 ∧ SqL K H a kindsV ∧ a ≠ p ∧
  ∀ t D rd vs' rs sp H', SameX p H H' → Pen K H' p c (k + 300) → H D = none → SqT K H' t [.ref D, .int rd] → H' D = some (.lst vs') → IsRs K H' vs' rs → SpotsG sp → RowsG sp rs → Q (.ref t) H'
theorem sc__law_site : FnScope ["_law_pen_here", "_law_kinds", "_law_many", "_law_spots_here", "_law_rounds", "_law_pairs_here", "_law_k", "_law_titles_here", "_law_rows", "_law_kind", "_law_ahead", "_law_behind"] ["_law_pen_here", "_law_kinds", "_law_many"] (defScope (top 88)) := ⟨rfl, rfl, rfl, by decide +kernel, rfl, by decide +kernel, by decide +kernel⟩
include T in
theorem ok__law_site : Fn w K mg base 4 (He.ga K "_law_site") (spSite K) := by
  refine funR T.f__law_site sc__law_site (fun _ _ _ _ _ _ us hl => match us, hl with | [_, _, _], _ => rfl) (fun vs H Q E h => ?_) (fun cdv A outer s H vs Q E hr h => ?_)
  · obtain ⟨p, c, k, a, rfl, _⟩ := h; rfl
  obtain ⟨p, c, k, a, rfl, hp, hk, ha, nap, q⟩ := h
  refine ⟨_, pss_cons (ps_set (i := 3) sc__law_site.nd rfl (Or.inl rfl) (Own.pe_call (ok__law_titles T) hr (by rfl) T.g__law_titles T.k__law_titles (pa_cons (pv 0) (pa_cons (pe_add pe_int (Own.pe_call (ok__law_draw T) (hr.mono (by decide)) (by rfl) T.g__law_draw T.k__law_draw (pa_cons (pv 0) (pa_cons (pe_sub (pv 2) pe_int) pa_nil)))) pa_nil))))
    (pss_cons (ps_set (i := 4) sc__law_site.nd rfl (Or.inl rfl) (pe_add pe_int (Own.pe_call (ok__law_draw T) (hr.mono (by decide)) (by rfl) T.g__law_draw T.k__law_draw (pa_cons (pv 0) (pa_cons (p_bn (call_min2 rfl) bt_min T.n_min (pa_cons pe_int (pa_cons (pe_op op_fdiv pe_int (p_b1 call_len_seq bt_len T.n_len (pv 3))) pa_nil))) pa_nil)))))
    (pss_cons (ps_set (i := 5) sc__law_site.nd rfl (Or.inl rfl) (Own.pe_call (ok__law_pairs T) (hr.mono (by decide)) (by rfl) T.g__law_pairs T.k__law_pairs (pa_cons (pv 0) (pa_cons (pv 3) (pa_cons (pv 4) pa_nil)))))
    (pss_cons (ps_for PassesOwn.never rfl (pi_range1 (by rfl) T.n_range (pa_cons (Own.pe_call (ok__law_draw T) (hr.mono (by decide)) (by rfl) T.g__law_draw T.k__law_draw (pa_cons (pv 0) (pa_cons pe_int pa_nil))) pa_nil)) (pg_name (i := 6) sc__law_site.nd rfl (Or.inl rfl))
      (pss_one (ps_if (pt_cmpR op_lt (p_b1 call_len_seq bt_len T.n_len (pv 5)) pe_int (nomark _)) (pss_one (ps_expr (pe_bm F.plainAttrs_list F.slot_list_append F.type_list_append mt_append (pv 5) (pa_cons (pe_ix ix_list (Own.pe_call (ok__law_pairs T) (hr.mono (by decide)) (by rfl) T.g__law_pairs T.k__law_pairs (pa_cons (pv 0) (pa_cons (pv 3) (pa_cons pe_int pa_nil)))) pe_int (fun _ _ => rfl)) pa_nil)))) pss_nil)))
    (pss_cons (ps_par (i := 7) (j := 8) rfl sc__law_site.nd rfl rfl (by decide) rfl rfl (pa_cons (Own.pe_call (ok__law_titles T) hr (by rfl) T.g__law_titles T.k__law_titles (pa_cons (pv 0) (pa_cons (p_b1 call_len_seq bt_len T.n_len (pv 5)) pa_nil))) (pa_cons (pe_lst pa_nil) pa_nil)) (by rfl))
    (pss_cons (ps_for PassesOwn.never rfl (pi_range1 (by rfl) T.n_range (pa_cons (p_b1 call_len_seq bt_len T.n_len (pv 5)) pa_nil)) (pg_name (i := 6) sc__law_site.nd rfl (Or.inl rfl))
      (pss_cons (ps_par3 (i := 9) (j := 10) (l := 11) rfl sc__law_site.nd rfl rfl rfl (by decide) (by decide) (by decide) rfl rfl rfl (pa_cons (Own.pe_call (ok__law_pick T) (hr.mono (by decide)) (by rfl) T.g__law_pick T.k__law_pick (pa_cons (pv 0) (pa_cons (pv 1) pa_nil))) (pa_cons (Own.pe_call (ok__law_price T) hr (by rfl) T.g__law_price T.k__law_price (pa_cons (pv 0) pa_nil)) (pa_cons (Own.pe_call (ok__law_price T) hr (by rfl) T.g__law_price T.k__law_price (pa_cons (pv 0) pa_nil)) pa_nil))) (by rfl))
      (pss_one (ps_expr (pe_bm F.plainAttrs_list F.slot_list_append F.type_list_append mt_append (pv 8) (pa_cons (pe_tup (pa_cons (pv 9) (pa_cons (pe_ix ix_list (pv 7) (pv 6) (fun _ _ => rfl)) (pa_cons (pe_ix ix_tup (pe_ix ix_list (pv 5) (pv 6) (fun _ _ => rfl)) pe_int (fun _ _ => rfl)) (pa_cons (pe_ix ix_tup (pe_ix ix_list (pv 5) (pv 6) (fun _ _ => rfl)) pe_int (fun _ _ => rfl)) (pa_cons (pv 10) (pa_cons (pv 11) pa_nil))))))) pa_nil))))))
    (pss_one (ps_ret (pe_tup (pa_cons (pv 8) (pa_cons (pv 4) pa_nil)))))))))), ?_⟩
  refine ⟨_, rfl, _, rfl, _, rfl, _, _, rfl, rfl, draw_sat ⟨hp, by omega, by decide, by decide, fun r1 H1 s1 pn1 hr1 => ⟨_, _, rfl, rfl, titles_sat (n := 2 + r1) (by omega) pn1 (by omega) (by have : (r1 : Int) < 5 - 1 := hr1; omega) fun D3 sp H2 s2 pn2 hD3 e3 l3 nd3 nm3 => ?_⟩⟩⟩
  have hr1 : (r1 : Int) < 5 - 1 := hr1
  have g : SpotsG sp := ⟨nd3, nm3, by omega, by omega⟩
  obtain ⟨m, em, m1, m4, m14⟩ := rounds_ok g.two g.five
  have sA := s1.trans s2
  have nz : ∀ {H' : Hp} {k : Nat} {D : Addr}, Pen K H' p c k → H' D = none → p ≠ D := fun {H' k D} pn hD => by
    obtain ⟨l, h⟩ := pn.at_
    exact ne_of_none h hD
  have hn : ∀ {H' : Hp} {k : Nat} {D : Addr}, SameX p H H' → Pen K H' p c k → H' D = none → H D = none := fun {H' k D} s pn hD => by
    cases hz : H D with
    | none => rfl
    | some o =>
      have := s D o (Ne.symm (nz pn hD)) hz
      rw [hD] at this
      cases this
  have n3 : D3 ≠ p := Ne.symm (nz pn1 hD3)
  refine ⟨_, rfl, _, rfl, ⟨⟨D3, _, rfl, .inl (.inl (.inl e3)), _, _, rfl, rfl, ⟨by rw [List.length_map]; have := g.two; omega, by rw [List.length_map]; have := g.five; omega⟩, ⟨⟨_, _, rfl, ?_⟩⟩⟩⟩⟩
  rw [List.length_map, em]
  refine draw_sat ⟨pn2, by omega, by omega, by omega, fun r2 H3 s3 pn3 hr2 => ⟨_, _, rfl, rfl, ?_⟩⟩
  have e33 := s3 D3 _ n3 e3
  refine ⟨_, rfl, _, rfl, _, rfl, pairs_sat (r := 1 + r2) (by omega) pn3 (by omega) e33 n3 g (by omega) fun D5 v5 p5 H4 s4 pn4 hD5 e5 ip5 lp5 ok5 => ?_⟩
  have e34 := s4 D3 _ n3 e33
  have sB := (sA.trans s3).trans s4
  have n5 : D5 ≠ p := Ne.symm (nz pn3 hD5)
  have l14 : p5.length ≤ 14 := by
    rw [lp5]
    exact Nat.le_trans (Nat.mul_le_mul_right _ (by omega)) m14
  have l1 : 1 ≤ p5.length := by
    rw [lp5]
    have := g.two
    exact Nat.le_trans (by omega) (Nat.mul_le_mul (show 1 ≤ 1 + r2 by omega) this)
  refine ⟨_, rfl, draw_sat ⟨pn4, by omega, by decide, by decide, fun r6 H5 s5 pn5 hr6 => ⟨(r6 : Nat), rfl, by omega, by omega, ?_⟩⟩⟩
  have hr6 : (r6 : Int) < 4 := hr6
  have n35 : D3 ≠ D5 := ne_of_none e33 hD5
  have hn5 : H D5 = none := hn (sA.trans s3) pn3 hD5
  refine for_any (n := r6) (fun i σ H' => SameX p H H' ∧ Pen K H' p c (k + 33 + 20 * i) ∧ H' D3 = some (.lst (sp.map V.str)) ∧ (∃ vs ps, H' D5 = some (.lst vs) ∧ IsPs K H' vs ps ∧ 1 ≤ ps.length ∧ ps.length ≤ 14 ∧ ∀ z ∈ ps, PairOk sp z) ∧
      ∃ u6 u7 u8 u9 u10 u11, σ = [some (.ref p), some (.ref a), some (.int 5), some (.ref D3), some (.int (1 + (r2 : Nat))), some (.ref D5), u6, u7, u8, u9, u10, u11])
    ⟨sB.trans s5, pn5.up (by omega), s5 D3 _ n3 e34, ⟨v5, p5, s5 D5 _ n5 e5, (by obtain ⟨lp, hlp⟩ := pn4.at_; exact ip5.nl (nl_x hlp s5)), l1, l14, ok5⟩, _, _, _, _, _, _, rfl⟩ (fun i σ H' hi pv => hi) (fun σ H' pv => Nat.le_refl _) (fun i x σ H6 H7 hi pv y => ?_) (fun σ H6 pv => ?_)
  · obtain ⟨rfl, rfl⟩ := y
    obtain ⟨sx, pn, h3, ⟨vs, ps, h5, ips, g1, g2, g3⟩, u6, u7, u8, u9, u10, u11, rfl⟩ := pv
    have lv := ips.len
    refine ⟨_, rfl, ⟨⟨D5, vs, rfl, .inl (.inl (.inl h5)), _, _, rfl, rfl, _, rfl, ite_both (fun hc => ?_) (fun hc => ?_)⟩⟩⟩
    · have hc : ((vs.length : Nat) : Int) < 14 := of_decide_eq_true hc
      refine ⟨_, rfl, .inl ⟨rfl, _, .inl (.inl h5)⟩, _, rfl, _, rfl, pairs_sat (r := 1) rfl pn (by omega) h3 n3 g (by omega) fun D7 v7 p7 H8 s8 pn8 hD7 e7 ip7 lp7 ok7 => ?_⟩
      obtain ⟨lp, hlp⟩ := pn.at_
      have l7 : 0 < p7.length := by rw [lp7]; have := g.two; omega
      obtain ⟨w, hw, iw⟩ := ip7.get (i := 0) (a := p7[0]) (List.getElem?_eq_getElem l7)
      have h58 := s8 D5 _ n5 h5
      refine ⟨D7, v7, 0, w, rfl, rfl, .inl (.inl e7), atI_nat (j := 0) hw, D5, vs, w, rfl, rfl, h58, by rw [sizeLine_eq]; omega, ?_⟩
      have nlu : NL H8 (upd H8 D5 (.lst (vs ++ [w]))) := nl_upd h58
      refine ⟨fun b o nb hb => ?_, ?_, ?_, ⟨vs ++ [w], ps ++ [p7[0]], upd_same, ?_, ?_, ?_, fun z hz => ?_⟩, _, _, _, _, _, _, rfl⟩
      · rw [upd_ne (ne_of_none hb hn5)]
        exact s8 _ _ nb (sx _ _ nb hb)
      · refine (pn8.sx (sameX_upd (D := D5)) (Ne.symm n5) ?_).up (by omega)
        obtain ⟨cs, j, l, q1, q2, _⟩ := hp
        exact ne_of_none q2 hn5
      · rw [upd_ne n35]; exact s8 D3 _ n3 h3
      · obtain ⟨t, et, ht⟩ := iw
        exact ((ips.nl (nl_x hlp s8)).nl nlu).append ⟨⟨t, et, nlu.sqT ht⟩, trivial⟩
      · rw [List.length_append]; omega
      · rw [List.length_append, List.length_singleton]; omega
      · rcases List.mem_append.mp hz with hz | hz
        · exact g3 z hz
        · rw [List.mem_singleton.mp hz]
          exact ok7 _ (List.getElem_mem _)
    · exact ⟨sx, pn.up (by omega), h3, ⟨vs, ps, h5, ips, g1, g2, g3⟩, _, _, _, _, _, _, rfl⟩
  obtain ⟨sx, pn, h3, ⟨vs, ps, h5, ips, g1, g2, g3⟩, u6, u7, u8, u9, u10, u11, rfl⟩ := pv
  have lv := ips.len
  refine ⟨_, rfl, _, rfl, ⟨⟨D5, vs, rfl, .inl (.inl (.inl h5)), titles_sat (n := ps.length) (by rw [lv]) pn (by omega) g2 fun D7 ss H7 s7 pn7 hD7 e7 l7 nd7 nm7 => ⟨by decide, fun D8 hD8 => ?_⟩⟩⟩⟩
  obtain ⟨lp, hlp⟩ := pn.at_
  have h37 := s7 D3 _ n3 h3
  have h57 := s7 D5 _ n5 h5
  have ips7 := ips.nl (nl_x hlp s7)
  have n7 : D7 ≠ p := Ne.symm (nz pn hD7)
  have n8 : D8 ≠ p := Ne.symm (nz pn7 hD8)
  have n58 : D5 ≠ D8 := ne_of_none h57 hD8
  have n78 : D7 ≠ D8 := ne_of_none e7 hD8
  have sxF := sx.trans s7
  have hn8 : H D8 = none := hn sxF pn7 hD8
  have s8 := same_new (o := .lst []) hD8
  refine ⟨_, _, rfl, ?_⟩
  refine ⟨_, rfl, ⟨⟨D5, vs, rfl, .inl (.inl (.inl (s8 _ _ h57))), (ps.length : Nat), by rw [lv], by omega, by omega, ?_⟩⟩⟩
  refine for_any (n := ps.length) (fun i σ H' => SameX p H H' ∧ Pen K H' p c (k + 110 + 5 * i) ∧ H' D5 = some (.lst vs) ∧ IsPs K H' vs ps ∧ H' D7 = some (.lst (ss.map V.str)) ∧
      (∃ ws rs, H' D8 = some (.lst ws) ∧ IsRs K H' ws rs ∧ rs.map (fun r => r.nm) = ss.take i ∧ rs.map (fun r => (r.a, r.b)) = ps.take i ∧ (∀ r ∈ rs, r.kd = "road" ∨ r.kd = "lane" ∨ r.kd = "avenue") ∧ ∀ r ∈ rs, priceB r.p ∧ priceB r.q) ∧
      ∃ u6 u9 u10 u11, σ = [some (.ref p), some (.ref a), some (.int 5), some (.ref D3), some (.int (1 + (r2 : Nat))), some (.ref D5), u6, some (.ref D7), some (.ref D8), u9, u10, u11])
    ⟨sxF.trans (same_x s8), (pn7.same s8).up (by omega), s8 _ _ h57, ips7.nl (nl_same s8), s8 _ _ e7, ⟨[], [], upd_same, trivial, by simp, by simp, (fun r h => absurd h List.not_mem_nil), fun r h => absurd h List.not_mem_nil⟩, _, _, _, _, rfl⟩ (fun i σ H' hi pv => hi) (fun σ H' pv => Nat.le_refl _) (fun i x σ H9 H10 hi pv y => ?_) (fun σ H9 pv => ?_)
  · obtain ⟨rfl, rfl⟩ := y
    obtain ⟨sx, pn, h5, ips, h7, ⟨ws, rs, h8, irs, en, eab, kd, pr⟩, u6, u9, u10, u11, rfl⟩ := pv
    have lw := irs.len
    have lr : rs.length = i := by
      have := congrArg List.length eab
      rw [List.length_map, List.length_take] at this
      omega
    have hi7 : i < ss.length := by omega
    refine ⟨_, rfl, _, rfl, pick_sat pn (by omega) (sqL_x sx nap ha) nap (by simp [kindsV]) (by simp [kindsV]) fun x H11 hx s11 pn11 => ⟨_, rfl, price_sat pn11 (by omega) fun i1 H12 s12 pn12 b1 => ⟨_, rfl, price_sat pn12 (by omega) fun i2 H13 s13 pn13 b2 => ⟨_, _, _, rfl, ?_⟩⟩⟩⟩
    obtain ⟨kd0, rfl, hk⟩ : ∃ kd, x = V.str kd ∧ (kd = "road" ∨ kd = "lane" ∨ kd = "avenue") := by
      simp only [kindsV, List.mem_cons, List.not_mem_nil, or_false] at hx
      rcases hx with h | h | h | h
      · exact ⟨_, h, .inl rfl⟩
      · exact ⟨_, h, .inl rfl⟩
      · exact ⟨_, h, .inr (.inl rfl)⟩
      · exact ⟨_, h, .inr (.inr rfl)⟩
    obtain ⟨lp, hlp⟩ := pn.at_
    have sy := (s11.trans s12).trans s13
    have nly := nl_x hlp sy
    have h5y := sy D5 _ n5 h5
    have h7y := sy D7 _ n7 h7
    have h8y := sy D8 _ n8 h8
    have ipsy := ips.nl nly
    obtain ⟨w, hw, iw⟩ := ipsy.get (i := i) (a := ps[i]) (List.getElem?_eq_getElem hi)
    obtain ⟨t, rfl, ht⟩ := iw
    have hat1 : atI (ss.map V.str) ((0 : Int) + (i : Nat)) = some (.str ss[i]) := by
      rw [Int.zero_add]
      exact atI_nat (by rw [List.getElem?_map, List.getElem?_eq_getElem hi7]; rfl)
    have hat2 : atI vs ((0 : Int) + (i : Nat)) = some (.ref t) := by
      rw [Int.zero_add]
      exact atI_nat hw
    refine ⟨_, rfl, .inl ⟨rfl, _, .inl (.inl h8y)⟩, _, rfl, _, rfl, _, rfl, D7, _, _, _, rfl, rfl, .inl (.inl h7y), hat1, _, rfl, _, rfl, D5, _, _, _, rfl, rfl, .inl (.inl h5y), hat2, t, _, 0, _, rfl, rfl, ht, atI_nat (j := 0) rfl, _, rfl, _, rfl, D5, _, _, _, rfl, rfl, .inl (.inl h5y), hat2, t, _, 1, _, rfl, rfl, ht, atI_nat (j := 1) rfl, _, rfl, _, rfl, ⟨by show 6 ≤ sizeLine; decide, fun u hu => ⟨D8, ws, _, rfl, rfl, same_new hu _ _ h8y, by rw [sizeLine_eq]; omega, ?_⟩⟩⟩
    let r0 : LRow := ⟨kd0, ss[i], ps[i].1, ps[i].2, i1, i2⟩
    have su := same_new (o := .tup r0.vs) hu
    have h8u : (upd H13 u (.tup r0.vs)) D8 = some (.lst ws) := su _ _ h8y
    have nlu : NL (upd H13 u (.tup r0.vs)) (upd (upd H13 u (.tup r0.vs)) D8 (.lst (ws ++ [.ref u]))) := nl_upd h8u
    have nlz : NL H10 (upd (upd H13 u (.tup r0.vs)) D8 (.lst (ws ++ [.ref u]))) := (nly.trans (nl_same su)).trans nlu
    have nu8 : u ≠ D8 := Ne.symm (ne_of_none h8y hu)
    show SameX p H (upd (upd H13 u (.tup r0.vs)) D8 (.lst (ws ++ [.ref u]))) ∧ _
    refine ⟨fun b o nb hb => ?_, ?_, ?_, ips.nl nlz, ?_, ⟨ws ++ [.ref u], rs ++ [r0], upd_same, (irs.nl nlz).append ⟨⟨u, rfl, .inl (.inl (by rw [upd_ne nu8, upd_same]))⟩, trivial⟩, ?_, ?_, fun r hr => ?_, fun r hr => ?_⟩, _, _, _, _, rfl⟩
    · rw [upd_ne (ne_of_none hb hn8)]
      exact su _ _ (sy _ _ nb (sx _ _ nb hb))
    · refine ((pn13.same su).sx (sameX_upd (D := D8)) (Ne.symm n8) ?_).up (by omega)
      obtain ⟨cs, j, l, q1, q2, _⟩ := hp
      exact ne_of_none q2 hn8
    · rw [upd_ne n58]; exact su _ _ h5y
    · rw [upd_ne n78]; exact su _ _ h7y
    · rw [List.map_append, en, List.take_succ, List.getElem?_eq_getElem hi7]; rfl
    · rw [List.map_append, eab, List.take_succ, List.getElem?_eq_getElem hi]; rfl
    · rcases List.mem_append.mp hr with hr | hr
      · exact kd r hr
      · rw [List.mem_singleton.mp hr]; exact hk
    · rcases List.mem_append.mp hr with hr | hr
      · exact pr r hr
      · rw [List.mem_singleton.mp hr]; exact ⟨b1, b2⟩
  obtain ⟨sx, pn, h5, ips, h7, ⟨ws, rs, h8, irs, en, eab, kd, pr⟩, u6, u9, u10, u11, rfl⟩ := pv
  rw [List.take_of_length_le (by omega)] at en
  rw [List.take_length] at eab
  have lr : rs.length = ps.length := by rw [← eab, List.length_map]
  have inps : ∀ r ∈ rs, (r.a, r.b) ∈ ps := fun r hr => by
    rw [← eab]
    exact List.mem_map_of_mem (f := fun r : LRow => (r.a, r.b)) hr
  have inss : ∀ r ∈ rs, r.nm ∈ ss := fun r hr => by
    rw [← en]
    exact List.mem_map_of_mem (f := fun r : LRow => r.nm) hr
  refine ⟨_, rfl, _, rfl, ⟨by show 2 ≤ sizeLine; decide, fun t ht => ?_⟩⟩
  have st := same_new (o := .tup [.ref D8, .int (1 + (r2 : Nat))]) ht
  refine q t D8 _ ws rs sp _ (sx.trans (same_x st)) ((pn.same st).up (by omega)) hn8 (.inl (.inl upd_same)) (st _ _ h8) (irs.nl (nl_same st)) g ⟨kd, by rw [en]; exact nd7, fun r hr => nm7 _ (inss r hr), fun r hr => g3 _ (inps r hr), pr, fun z => ?_, by omega⟩
  rw [z] at lr
  have : ps.length = 0 := lr.symm
  omega
end
end Tx
/-! ## PlainG -/
/-! Plain laws of lists, with no program in sight. -/
namespace PlG
section
variable {α : Type} [DecidableEq α]
/-- does an arc lead into a list -/
def inA (ys : List α) (u v : α) : Bool := !decide (u ∈ ys) && decide (v ∈ ys)
theorem ind_le (A B I U : List α) (hI : ∀ x, x ∈ I ↔ x ∈ A ∧ x ∈ B) (hU : ∀ x, x ∈ U ↔ x ∈ A ∨ x ∈ B) (u v : α) :
    (inA I u v).toNat + (inA U u v).toNat ≤ (inA A u v).toNat + (inA B u v).toNat := by
  unfold inA
  simp only [hI, hU]
  by_cases a1 : u ∈ A <;> by_cases b1 : u ∈ B <;> by_cases a2 : v ∈ A <;> by_cases b2 : v ∈ B <;> simp [a1, b1, a2, b2]
def cntA (as : List (α × α)) (ys : List α) : Nat := (as.filter fun a => inA ys a.1 a.2).length
theorem cntA_cons (a : α × α) (as : List (α × α)) (ys : List α) : cntA (a :: as) ys = (inA ys a.1 a.2).toNat + cntA as ys := by
  unfold cntA
  rw [List.filter_cons]
  cases h : inA ys a.1 a.2 with
  | true => simp [Nat.add_comm]
  | false => simp
theorem sub_mod (A B I U : List α) (hI : ∀ x, x ∈ I ↔ x ∈ A ∧ x ∈ B) (hU : ∀ x, x ∈ U ↔ x ∈ A ∨ x ∈ B) : ∀ as : List (α × α), cntA as I + cntA as U ≤ cntA as A + cntA as B
  | [] => Nat.le_refl _
  | a :: r => by
    have h1 := ind_le A B I U hI hU a.1 a.2
    have h2 := sub_mod A B I U hI hU r
    simp only [cntA_cons]
    omega
/-! ### crossing -/
def lawCross (ys zs ss : List α) : Bool := decide ((ys.filter fun y => decide (y ∈ zs)) ≠ []) && decide ((ys.filter fun y => decide (y ∈ zs)).length < min ys.length zs.length) && decide (ys.length + zs.length - (ys.filter fun y => decide (y ∈ zs)).length < ss.length)
def crossG (ys zs cs : List α) : Bool := (ys.any fun y => decide (y ∈ zs)) && !(ys.all fun y => decide (y ∈ zs)) && !(zs.all fun y => decide (y ∈ ys)) && !(cs.all fun y => decide (y ∈ ys ++ zs))
theorem flt_all {p : α → Bool} : ∀ {l : List α}, (l.filter p).length = l.length ↔ l.all p = true := by
  intro l
  rw [List.all_eq_true]
  constructor
  · intro h
    have := List.filter_sublist (p := p) (l := l) |>.eq_of_length h
    intro x hx
    rw [← this] at hx
    exact (List.mem_filter.mp hx).2
  · intro h
    rw [List.filter_eq_self.mpr h]
theorem flt_any {p : α → Bool} {l : List α} : l.filter p ≠ [] ↔ l.any p = true := by
  rw [List.any_eq_true]
  constructor
  · intro h
    cases e : l.filter p with
    | nil => exact absurd e h
    | cons x r =>
      have : x ∈ l.filter p := by rw [e]; exact List.mem_cons_self
      exact ⟨x, List.mem_filter.mp this⟩
  · rintro ⟨x, hx, hp⟩ e
    have : x ∈ l.filter p := List.mem_filter.mpr ⟨hx, hp⟩
    rw [e] at this
    cases this
theorem two_parts (p : α → Bool) (l : List α) : (l.filter p).length + (l.filter fun x => !p x).length = l.length := by
  induction l with
  | nil => rfl
  | cons x r ih =>
    cases h : p x with
    | true => simp [h]; omega
    | false => simp [h]; omega
theorem nodup_len {l m : List α} (h1 : l.Nodup) (h2 : m.Nodup) (h : ∀ x, x ∈ l ↔ x ∈ m) : l.length = m.length := ((List.perm_ext_iff_of_nodup h1 h2).mpr h).length_eq
/-- the two words of crossing say the same -/
theorem cross_eq {ys zs ss cs : List α} (ny : ys.Nodup) (nz : zs.Nodup) (ns : ss.Nodup) (sy : ∀ x ∈ ys, x ∈ ss) (sz : ∀ x ∈ zs, x ∈ ss) (hc : ∀ x, x ∈ cs ↔ x ∈ ss) : lawCross ys zs ss = crossG ys zs cs := by
  have l1 : (ys.filter fun y => decide (y ∈ zs)).length = (zs.filter fun y => decide (y ∈ ys)).length := by
    refine nodup_len (ny.filter _) (nz.filter _) fun x => ?_
    simp only [List.mem_filter, decide_eq_true_eq]
    exact And.comm
  have l2 := List.length_filter_le (fun y => decide (y ∈ zs)) ys
  have l3 := List.length_filter_le (fun y => decide (y ∈ ys)) zs
  have l4 : (ss.filter fun x => decide (x ∈ ys ++ zs)).length = ys.length + (zs.filter fun x => !decide (x ∈ ys)).length := by
    rw [← List.length_append]
    refine nodup_len (ns.filter _) ?_ fun x => ?_
    · rw [List.nodup_append]
      refine ⟨ny, nz.filter _, fun a ha b hb e => ?_⟩
      rw [List.mem_filter, Bool.not_eq_true', decide_eq_false_iff_not] at hb
      exact hb.2 (e ▸ ha)
    · simp only [List.mem_filter, decide_eq_true_eq, List.mem_append, Bool.not_eq_true', decide_eq_false_iff_not]
      constructor
      · rintro ⟨_, h | h⟩
        · exact .inl h
        · by_cases q : x ∈ ys
          · exact .inl q
          · exact .inr ⟨h, q⟩
      · rintro (h | ⟨h, _⟩)
        · exact ⟨sy x h, .inl h⟩
        · exact ⟨sz x h, .inr h⟩
  have l5 := two_parts (fun y => decide (y ∈ ys)) zs
  have a1 : ((ys.filter fun y => decide (y ∈ zs)) ≠ []) ↔ (ys.any fun y => decide (y ∈ zs)) = true := flt_any
  have a2 := flt_all (p := fun y => decide (y ∈ zs)) (l := ys)
  have a3 := flt_all (p := fun y => decide (y ∈ ys)) (l := zs)
  have a4 := flt_all (p := fun x => decide (x ∈ ys ++ zs)) (l := ss)
  have a5 : cs.all (fun y => decide (y ∈ ys ++ zs)) = ss.all (fun y => decide (y ∈ ys ++ zs)) := by
    rw [Bool.eq_iff_iff, List.all_eq_true, List.all_eq_true]
    exact ⟨fun q k hk => q k ((hc k).mpr hk), fun q k hk => q k ((hc k).mp hk)⟩
  have l6 := List.length_filter_le (fun x => decide (x ∈ ys ++ zs)) ss
  unfold lawCross crossG
  rw [a5, Bool.eq_iff_iff]
  simp only [Bool.and_eq_true, decide_eq_true_eq, Bool.not_eq_true']
  rw [a1, ← Bool.not_eq_true, ← Bool.not_eq_true, ← Bool.not_eq_true, ← a2, ← a3, ← a4]
  constructor
  · rintro ⟨⟨h1, h2⟩, h3⟩
    refine ⟨⟨⟨h1, ?_⟩, ?_⟩, ?_⟩ <;> omega
  · rintro ⟨⟨⟨h1, h2⟩, h3⟩, h4⟩
    refine ⟨⟨h1, ?_⟩, ?_⟩ <;> omega
/-! ### all parts of a list -/
def subsL : List α → List (List α)
  | [] => [[]]
  | a :: r => (subsL r).map (a :: ·) ++ subsL r
end
end PlG
/-! ## PlainM -/
/-! The law's plain part: streets, signs, directions, wards. -/
namespace Tx
open PySem PySem.Spec PyProof.Rows L2
/-! ### what the law builds of its rows -/
/-- the street of a row -/
def StOf (r : LRow) (s : St) : Prop :=
  (r.kd = "lane" ∧ s = .lane r.nm r.a r.b) ∨ (r.kd = "avenue" ∧ (s = .avenue r.nm r.a r.b ∨ s = .avenue r.nm r.b r.a)) ∨
  (r.kd = "road" ∧ (s = .road r.nm r.a r.b r.p r.q ∨ s = .road r.nm r.b r.a r.q r.p))
inductive Sts : List LRow → List Row → Prop
  | nil : Sts [] []
  | snoc {rs : List LRow} {L : List Row} {r : LRow} {v : V} {s : St} : Sts rs L → StOf r s → Sts (rs ++ [r]) (L ++ [(v, s)])
theorem StOf.name {r : LRow} {s : St} (h : StOf r s) : s.name = r.nm := by
  rcases h with ⟨_, rfl⟩ | ⟨_, rfl | rfl⟩ | ⟨_, rfl | rfl⟩ <;> rfl
theorem StOf.ends {r : LRow} {s : St} (h : StOf r s) : (s.e1 = r.a ∧ s.e2 = r.b) ∨ (s.e1 = r.b ∧ s.e2 = r.a) := by
  rcases h with ⟨_, rfl⟩ | ⟨_, rfl | rfl⟩ | ⟨_, rfl | rfl⟩
  · exact .inl ⟨rfl, rfl⟩
  · exact .inl ⟨rfl, rfl⟩
  · exact .inr ⟨rfl, rfl⟩
  · exact .inl ⟨rfl, rfl⟩
  · exact .inr ⟨rfl, rfl⟩
theorem road_lane : ¬ (("road" : Str) = "lane") := by decide +kernel
theorem road_av : ¬ (("road" : Str) = "avenue") := by decide +kernel
theorem lane_av : ¬ (("lane" : Str) = "avenue") := by decide +kernel
theorem StOf.rd {r : LRow} {s : St} (h : StOf r s) : isRd s = decide (r.kd = ("road" : Str)) := by
  rcases h with ⟨e, rfl⟩ | ⟨e, rfl | rfl⟩ | ⟨e, rfl | rfl⟩ <;> rw [e]
  · rw [decide_eq_false (fun z => road_lane z.symm)]; rfl
  · rw [decide_eq_false (fun z => road_av z.symm)]; rfl
  · rw [decide_eq_false (fun z => road_av z.symm)]; rfl
  · rw [decide_eq_true rfl]; rfl
  · rw [decide_eq_true rfl]; rfl
theorem Sts.len {rs : List LRow} {L : List Row} (h : Sts rs L) : L.length = rs.length := by
  induction h with
  | nil => rfl
  | snoc h _ ih => rw [List.length_append, List.length_append, ih]; rfl
theorem Sts.names {rs : List LRow} {L : List Row} (h : Sts rs L) : L.map nmR = rs.map (·.nm) := by
  induction h with
  | nil => rfl
  | snoc h e ih =>
    rw [List.map_append, List.map_append, ih]
    show _ ++ [St.name _] = _
    rw [e.name]; rfl
theorem Sts.mem {rs : List LRow} {L : List Row} (h : Sts rs L) : ∀ x ∈ L, ∃ r ∈ rs, StOf r x.2 := by
  induction h with
  | nil => intro x hx; cases hx
  | snoc h e ih =>
    intro x hx
    rcases List.mem_append.mp hx with hx | hx
    · obtain ⟨r, hr, q⟩ := ih x hx
      exact ⟨r, List.mem_append_left _ hr, q⟩
    · rw [List.mem_singleton.mp hx]
      exact ⟨_, List.mem_append_right _ List.mem_cons_self, e⟩
theorem Sts.mem' {rs : List LRow} {L : List Row} (h : Sts rs L) : ∀ r ∈ rs, ∃ x ∈ L, StOf r x.2 := by
  induction h with
  | nil => intro x hx; cases hx
  | snoc h e ih =>
    intro x hx
    rcases List.mem_append.mp hx with hx | hx
    · obtain ⟨r, hr, q⟩ := ih x hx
      exact ⟨r, List.mem_append_left _ hr, q⟩
    · rw [List.mem_singleton.mp hx]
      exact ⟨_, List.mem_append_right _ List.mem_cons_self, e⟩
theorem loS_comm {a b : Str} : loS a b = loS b a ∧ hiS a b = hiS b a := by
  have h1 := two_sorted (List.Perm.refl [loS a b, hiS a b] |>.trans ((lohi_perm a b).trans (List.Perm.swap b a []))) (lohi_sorted a b)
  injection h1 with h1 h2
  injection h2 with h2 _
  exact ⟨h1, h2⟩
theorem ends_lohi {s : St} {a b : Str} (h : (s.e1 = a ∧ s.e2 = b) ∨ (s.e1 = b ∧ s.e2 = a)) : s.lo = loS a b ∧ s.hi = hiS a b := by
  unfold St.lo St.hi
  rcases h with ⟨e1, e2⟩ | ⟨e1, e2⟩ <;> rw [e1, e2]
  · exact ⟨rfl, rfl⟩
  · exact ⟨loS_comm.1, loS_comm.2⟩
theorem lohi_mem {a b e : Str} : (e = loS a b ∨ e = hiS a b) ↔ (e = a ∨ e = b) := by
  rcases lohi a b with ⟨e1, e2⟩ | ⟨e1, e2⟩ <;> rw [e1, e2]
  exact Or.comm
theorem StOf.ok {sp : List Str} {r : LRow} {s : St} (h : StOf r s) (ab : PairOk sp (r.a, r.b)) (nsp : ∀ x ∈ sp, nameB x = true) (hn : nameB r.nm = true) : s.Ok := by
  have n1 := nsp _ ab.1
  have n2 := nsp _ ab.2.1
  have n3 : r.a ≠ r.b := ab.2.2
  refine ⟨by rw [h.name]; exact hn, ?_, ?_, ?_⟩ <;> rcases h.ends with ⟨e1, e2⟩ | ⟨e1, e2⟩
  · rw [e1]; exact n1
  · rw [e1]; exact n2
  · rw [e2]; exact n2
  · rw [e2]; exact n1
  · rw [e1, e2]; exact n3
  · rw [e1, e2]; exact fun z => n3 z.symm
/-- the corners of rows' streets -/
theorem Sts.cn {rs : List LRow} {L L' : List Row} {cs : List Str} (h : Sts rs L) (pm : L'.Perm L) (c : Cn L' cs) : ∀ e, e ∈ cs ↔ ∃ r ∈ rs, e = r.a ∨ e = r.b := by
  intro e
  rw [c.mem]
  constructor
  · rintro ⟨x, hx, he⟩
    obtain ⟨r, hr, so⟩ := h.mem x (pm.mem_iff.mp hx)
    have := ends_lohi so.ends
    rw [this.1, this.2] at he
    exact ⟨r, hr, lohi_mem.mp he⟩
  · rintro ⟨r, hr, he⟩
    obtain ⟨x, hx, so⟩ := h.mem' r hr
    have := ends_lohi so.ends
    refine ⟨x, pm.mem_iff.mpr hx, ?_⟩
    rw [this.1, this.2]
    exact lohi_mem.mpr he
theorem sub_len {xs ys : List Str} (nd : xs.Nodup) (h : ∀ x ∈ xs, x ∈ ys) : xs.length ≤ ys.length := by
  induction xs generalizing ys with
  | nil => exact Nat.zero_le _
  | cons a r ih =>
    rw [List.nodup_cons] at nd
    have ha := h a List.mem_cons_self
    have := ih (ys := ys.erase a) nd.2 fun x hx => (List.mem_erase_of_ne (fun z => nd.1 (by rw [← z]; exact hx))).mpr (h x (List.mem_cons_of_mem _ hx))
    rw [List.length_erase_of_mem ha] at this
    have : 0 < ys.length := List.length_pos_of_mem ha
    rw [List.length_cons]
    omega
/-- rows so far: good for a town -/
theorem Sts.rowsOk {sp : List Str} {rs : List LRow} {L : List Row} (h : Sts rs L) (ab : ∀ r ∈ rs, PairOk sp (r.a, r.b)) (nm : ∀ r ∈ rs, nameB r.nm = true) (nd : (rs.map (·.nm)).Nodup) (few : rs.length ≤ 14) (g : SpotsG sp) : RowsOk L where
  ok := fun x hx => by
    obtain ⟨r, hr, so⟩ := h.mem x hx
    exact so.ok (ab r hr) g.nm (nm r hr)
  nd := by rw [h.names]; exact nd
  few := by rw [h.len]; exact few
  cn := fun cs c => by
    have := sub_len c.nd (ys := sp) fun e he => by
      obtain ⟨r, hr, q⟩ := (h.cn (List.Perm.refl _) c e).mp he
      rcases q with rfl | rfl
      · exact (ab r hr).1
      · exact (ab r hr).2.1
    have := g.five
    omega
/-! ### signs -/
/-- the roads' signs, each from its start to its goal -/
def toldL (rs : List LRow) : List St := (rs.filter fun r => decide (r.kd = ("road" : Str))).map fun r => St.road r.nm r.a r.b 0 0
/-- .. some of them turned -/
structure Bent (ss : List St) (L : List Row) : Prop where
  nm : L.map nmR = ss.map St.name
  ends : ∀ x ∈ L, ∃ s ∈ ss, s.name = nmR x ∧ ((x.2.e1 = s.e1 ∧ x.2.e2 = s.e2) ∨ (x.2.e1 = s.e2 ∧ x.2.e2 = s.e1))
theorem told_names (rs : List LRow) : (toldL rs).map St.name = (rs.filter fun r => decide (r.kd = ("road" : Str))).map (·.nm) := by
  unfold toldL
  rw [List.map_map]
  rfl
theorem told_mem {rs : List LRow} {s : St} (h : s ∈ toldL rs) : ∃ r ∈ rs, r.kd = "road" ∧ s = St.road r.nm r.a r.b 0 0 := by
  unfold toldL at h
  obtain ⟨r, hr, rfl⟩ := List.mem_map.mp h
  rw [List.mem_filter, decide_eq_true_eq] at hr
  exact ⟨r, hr.1, hr.2, rfl⟩
theorem told_nd {rs : List LRow} (nd : (rs.map (·.nm)).Nodup) : ((toldL rs).map St.name).Nodup := by
  rw [told_names]
  exact nd.sublist ((List.filter_sublist).map _)
theorem Bent.nd {rs : List LRow} {B : List Row} (h : Bent (toldL rs) B) (nd : (rs.map (·.nm)).Nodup) : (B.map nmR).Nodup := by
  rw [h.nm]; exact told_nd nd
theorem nm_inj {rs : List LRow} (nd : (rs.map (·.nm)).Nodup) {r s : LRow} (hr : r ∈ rs) (hs : s ∈ rs) (e : r.nm = s.nm) : r = s := by
  induction rs with
  | nil => cases hr
  | cons a q ih =>
    rw [List.map_cons, List.nodup_cons] at nd
    rcases List.mem_cons.mp hr with e1 | h1 <;> rcases List.mem_cons.mp hs with e2 | h2
    · rw [e1, e2]
    · exact absurd (by have := List.mem_map_of_mem (f := fun x : LRow => x.nm) h2; rw [← e, e1] at this; exact this) nd.1
    · exact absurd (by have := List.mem_map_of_mem (f := fun x : LRow => x.nm) h1; rw [e, e2] at this; exact this) nd.1
    · exact ih nd.2 h1 h2
theorem Bent.row {rs : List LRow} {B : List Row} (h : Bent (toldL rs) B) {x : Row} (hx : x ∈ B) : ∃ r ∈ rs, r.kd = "road" ∧ r.nm = nmR x ∧ ((x.2.e1 = r.a ∧ x.2.e2 = r.b) ∨ (x.2.e1 = r.b ∧ x.2.e2 = r.a)) := by
  obtain ⟨s, hs, e, q⟩ := h.ends x hx
  obtain ⟨r, hr, hk, rfl⟩ := told_mem hs
  exact ⟨r, hr, hk, e, q⟩
/-- the signs fit the town -/
theorem fits_of {sp : List Str} {rs : List LRow} {L Lt B Ls : List Row} (g : RowsG sp rs) (h : Sts rs L) (pm : Lt.Perm L) (so : sortedS (Lt.map nmR) = true) (hb : Bent (toldL rs) B) (pb : Ls.Perm B) (sb : sortedS (Ls.map nmR) = true) : Fits Ls Lt where
  nm := by
    refine sorted_eq sb (sorted_sub so ?_) ?_
    · unfold rdN
      have : Lt.filterMap (fun r => if isRd r.2 = true then some (nmR r) else none) = (Lt.filter fun r => isRd r.2).map nmR := by
        rw [← List.filterMap_eq_map, List.filterMap_filter]
        rfl
      rw [this]
      exact (List.filter_sublist).map _
    · refine (pb.map nmR).trans ?_
      rw [hb.nm, told_names]
      have e2 : rdN L = (rs.filter fun r => decide (r.kd = ("road" : Str))).map (·.nm) := by
        clear pm so hb pb sb g
        induction h with
        | nil => rfl
        | @snoc rs L r v s h e ih =>
          unfold rdN at ih ⊢
          rw [List.filterMap_append, ih, List.filter_append, List.map_append]
          congr 1
          rw [List.filterMap_cons, List.filterMap_nil, List.filter_cons]
          have e1 : nmR (v, s) = r.nm := e.name
          have e2 : isRd (v, s).2 = decide (r.kd = ("road" : Str)) := e.rd
          rw [e1, e2]
          by_cases hk : r.kd = ("road" : Str)
          · simp [hk]
          · simp [hk]
      rw [← e2]
      unfold rdN
      exact (pm.filterMap _).symm
  ends := fun x hx => by
    obtain ⟨r, hr, hk, hn, he⟩ := hb.row (pb.mem_iff.mp hx)
    obtain ⟨u, hu, so⟩ := h.mem' r hr
    have e1 := ends_lohi so.ends
    have e2 := ends_lohi he
    refine ⟨u, pm.mem_iff.mpr hu, ?_, ?_, ?_⟩
    · show u.2.name = _
      rw [so.name, hn]
    · rw [e1.1, e2.1]
    · rw [e1.2, e2.2]
/-! ### directions -/
def triOf (B : List Row) (r : LRow) : List Arc :=
  if r.kd = "road" then (match signOf B r.nm with
    | some x => [(r.nm, x.2.e1, x.2.e2)]
    | none => [])
  else if r.kd = "avenue" then [(r.nm, r.a, r.b), (r.nm, r.b, r.a)] else [(r.nm, r.a, r.b)]
def triL (B : List Row) (rs : List LRow) : List Arc := rs.flatMap (triOf B)
theorem sign_perm {B Ls : List Row} (nd : (B.map nmR).Nodup) (pb : Ls.Perm B) (n : Str) : signOf Ls n = signOf B n := by
  have nd2 : (Ls.map nmR).Nodup := (pb.map nmR).nodup_iff.mpr nd
  unfold signOf
  cases h : B.find? (fun r => decide (nmR r = n)) with
  | none =>
    rw [List.find?_eq_none] at h ⊢
    exact fun x hx => h x (pb.mem_iff.mp hx)
  | some x =>
    have hx := List.mem_of_find?_eq_some h
    have e : nmR x = n := by simpa using List.find?_some h
    rw [← e]
    exact find_name Ls x nd2 (pb.mem_iff.mpr hx)
theorem av_perm (n a b : Str) : [(n, loS a b, hiS a b), (n, hiS a b, loS a b)].Perm [(n, a, b), (n, b, a)] := by
  rcases lohi a b with ⟨e1, e2⟩ | ⟨e1, e2⟩ <;> rw [e1, e2]
  exact List.Perm.swap _ _ _
theorem arc_perm {B Ls : List Row} (nd : (B.map nmR).Nodup) (pb : Ls.Perm B) {r : LRow} {s : St} (h : StOf r s) : (arcsOf Ls s).Perm (triOf B r) := by
  unfold triOf
  rcases h with ⟨e, rfl⟩ | ⟨e, rfl | rfl⟩ | ⟨e, rfl | rfl⟩ <;> rw [e]
  · rw [if_neg (fun z => road_lane z.symm), if_neg lane_av]
    exact List.Perm.refl _
  · rw [if_neg (fun z => road_av z.symm), if_pos rfl]
    exact av_perm _ _ _
  · rw [if_neg (fun z => road_av z.symm), if_pos rfl]
    exact (av_perm _ _ _).trans (List.Perm.swap _ _ _)
  · rw [if_pos rfl, ← sign_perm nd pb]
    exact List.Perm.refl _
  · rw [if_pos rfl, ← sign_perm nd pb]
    exact List.Perm.refl _
theorem arcs_perm {rs : List LRow} {L Lt B Ls : List Row} (h : Sts rs L) (pm : Lt.Perm L) (nd : (B.map nmR).Nodup) (pb : Ls.Perm B) : (arcsL Lt Ls).Perm (triL B rs) := by
  unfold arcsL
  refine (pm.flatMap_right _).trans ?_
  clear pm
  unfold triL
  induction h with
  | nil => exact List.Perm.refl _
  | @snoc rs L r v s h e ih =>
    rw [List.flatMap_append, List.flatMap_append]
    refine ih.append ?_
    simp only [List.flatMap_cons, List.flatMap_nil, List.append_nil]
    exact arc_perm nd pb e
theorem cnt_perm {as bs : List Arc} (h : as.Perm bs) (ys : List Str) : cnt as ys = cnt bs ys := (h.filter _).length_eq
theorem cnt_nil (ys : List Str) : cnt [] ys = 0 := rfl
theorem cnt_app (as bs : List Arc) (ys : List Str) : cnt (as ++ bs) ys = cnt as ys + cnt bs ys := by
  unfold cnt
  rw [List.filter_append, List.length_append]
theorem cnt_le (as : List Arc) (ys : List Str) : cnt as ys ≤ as.length := List.length_filter_le _ _
/-- into a ward leads a street once at most -/
theorem cnt_few (Lt Ls : List Row) (ys : List Str) : cnt (arcsL Lt Ls) ys ≤ Lt.length := by
  unfold arcsL
  induction Lt with
  | nil => exact Nat.le_refl _
  | cons r q ih =>
    rw [List.flatMap_cons, cnt_app, List.length_cons]
    have : cnt (arcsOf Ls r.2) ys ≤ 1 := by
      cases r.2 with
      | lane n a b => exact cnt_le _ _
      | avenue n a b =>
        show cnt [(n, loS a b, hiS a b), (n, hiS a b, loS a b)] ys ≤ 1
        unfold cnt inB
        by_cases h1 : loS a b ∈ ys <;> by_cases h2 : hiS a b ∈ ys <;> simp [h1, h2]
      | road n a b p q =>
        unfold arcsOf
        simp only
        split
        · exact cnt_le _ _
        · rw [cnt_nil]; exact Nat.zero_le _
    omega
theorem cnt_G (as : List Arc) (ys : List Str) : cnt as ys = PlG.cntA (as.map (·.2)) ys := by
  unfold cnt PlG.cntA
  rw [List.filter_map, List.length_map]
  rfl
/-! ### wards -/
theorem subs_filter : ∀ (l : List Str) (m : Nat), (PlG.subsL l).filter (fun g => decide (g.length = m)) = combs m l := by
  intro l
  induction l with
  | nil =>
    intro m
    cases m with
    | zero => rfl
    | succ m => rfl
  | cons a r ih =>
    intro m
    unfold PlG.subsL
    rw [List.filter_append, ih, List.filter_map]
    cases m with
    | zero =>
      have : (PlG.subsL r).filter ((fun g : List Str => decide (g.length = 0)) ∘ (a :: ·)) = [] := by
        rw [List.filter_eq_nil_iff]
        intro x _
        simp
      rw [this]
      rfl
    | succ m =>
      have : (fun g : List Str => decide (g.length = m + 1)) ∘ (a :: ·) = fun g => decide (g.length = m) := by
        funext g
        simp
      rw [this, ih]
      rfl
/-- narrow wards that cross: both of them, too -/
structure Meet (as : List Arc) (ys : List Str) (m : Nat) (us : List Str) : Prop where
  mem : us ∈ wardsL ys
  eq : cnt as us = m
theorem ward_of {ys us : List Str} (so : sortedS ys = true) (nd : ys.Nodup) (su : sortedS us = true) (nu : us.Nodup) (sub : ∀ x ∈ us, x ∈ ys) (ne : us ≠ []) (ex : ∃ x ∈ ys, x ∉ us) : us ∈ wardsL ys := by
  have e : us = ys.filter fun x => decide (x ∈ us) := by
    refine Wd.eq (cs := us) ⟨su, nu, fun _ => Iff.rfl⟩ ⟨sorted_sub so (List.filter_sublist), nd.filter _, fun k => ?_⟩
    rw [List.mem_filter, decide_eq_true_eq]
    exact ⟨fun h => h.2, fun h => ⟨sub k h, h⟩⟩
  rw [wards_mem]
  refine ⟨by rw [e]; exact List.filter_sublist, List.length_pos_iff.mpr ne, ?_⟩
  obtain ⟨x, hx, hn⟩ := ex
  rw [e]
  rw [List.length_filter_lt_length_iff_exists]
  exact ⟨x, hx, by simpa using hn⟩
theorem meet_both {as : List Arc} {ys A B I U : List Str} {m : Nat} (so : sortedS ys = true) (nd : ys.Nodup) (lm : Least as (wardsL ys) m) (hA : A ∈ narL as ys m) (hB : B ∈ narL as ys m) (hc : crossB A B ys = true)
    (wi : Wd (A.filter fun x => decide (x ∈ B)) I) (wu : Wd (A ++ B) U) : Meet as ys m I ∧ Meet as ys m U := by
  unfold narL at hA hB
  rw [List.mem_filter, beq_iff_eq] at hA hB
  have wA := wards_mem.mp hA.1
  have wB := wards_mem.mp hB.1
  unfold crossB at hc
  rw [Bool.and_eq_true, Bool.and_eq_true, Bool.and_eq_true, List.any_eq_true, Bool.not_eq_true', Bool.not_eq_true', Bool.not_eq_true'] at hc
  obtain ⟨⟨⟨⟨x, hx, hxB⟩, h2⟩, h3⟩, h4⟩ := hc
  rw [decide_eq_true_eq] at hxB
  obtain ⟨y, hy, hyU⟩ : ∃ y ∈ ys, y ∉ A ++ B := by
    rw [List.all_eq_false] at h4
    obtain ⟨y, hy, q⟩ := h4
    exact ⟨y, hy, by simpa using q⟩
  have iI : ∀ k, k ∈ I ↔ k ∈ A ∧ k ∈ B := fun k => by rw [wi.mem, List.mem_filter, decide_eq_true_eq]
  have iU : ∀ k, k ∈ U ↔ k ∈ A ∨ k ∈ B := fun k => by rw [wu.mem, List.mem_append]
  have mI : I ∈ wardsL ys := ward_of so nd wi.so wi.nd (fun k hk => wA.1.subset ((iI k).mp hk).1) (fun z => by have := (iI x).mpr ⟨hx, hxB⟩; rw [z] at this; cases this) ⟨y, hy, fun hk => hyU (List.mem_append_left _ ((iI y).mp hk).1)⟩
  have mU : U ∈ wardsL ys := ward_of so nd wu.so wu.nd (fun k hk => by
    rcases (iU k).mp hk with h | h
    · exact wA.1.subset h
    · exact wB.1.subset h) (fun z => by have := (iU x).mpr (.inl hx); rw [z] at this; cases this) ⟨y, hy, fun hk => hyU (List.mem_append.mpr ((iU y).mp hk))⟩
  have s := PlG.sub_mod A B I U iI iU (as.map (·.2))
  rw [← cnt_G, ← cnt_G, ← cnt_G, ← cnt_G] at s
  have l1 := lm.le I mI
  have l2 := lm.le U mU
  exact ⟨⟨mI, by omega⟩, ⟨mU, by omega⟩⟩
theorem cross_law {ys A B : List Str} (nd : ys.Nodup) (hA : A ∈ wardsL ys) (hB : B ∈ wardsL ys) {cs : List Str} (hc : ∀ x, x ∈ cs ↔ x ∈ ys) : PlG.lawCross A B ys = crossB A B cs :=
  PlG.cross_eq (nd.sublist (wards_mem.mp hA).1) (nd.sublist (wards_mem.mp hB).1) nd (fun x h => (wards_mem.mp hA).1.subset h) (fun x h => (wards_mem.mp hB).1.subset h) hc
end Tx
/-! ## DTownL -/
namespace Tx
open PySem PySem.Spec PyProof.Rows L2
section
variable {K : PySem.W.Frag} {H H' : Hp}
theorem NL.isT (s : NL H H') {v : V} {L : List Row} {cs : List Str} (h : IsT K H v L cs) : IsT K H' v L cs := by
  obtain ⟨x, dx, d, t, c, e, h1, h2, h3⟩ := h
  exact ⟨x, dx, d, t, c, e, s.ins h1, ⟨s.dv h2.hd, s.sqT h2.ht, s.dv h2.hc, s.rows h2.rows, h2.so, h2.cn⟩, s _ _ (fun l z => by cases z) h3⟩
theorem NL.isS (s : NL H H') {v : V} {L : List Row} (h : IsS K H v L) : IsS K H' v L := by
  obtain ⟨x, dx, d, t, e, h1, h2, h3, h4⟩ := h
  exact ⟨x, dx, d, t, e, s.ins h1, s _ _ (fun l z => by cases z) h2, s.sqT h3, s.prs h4⟩
end
section
variable {w : World} {K : PySem.W.Frag} {mg : Str → Option Value} {base : Heap} (T : Txt K mg)
theorem make_lane {H : Hp} {n a b : Str} {Q : VK} (h1 : nameB n = true) (h2 : nameB a = true) (h3 : nameB b = true) (h4 : a ≠ b) (q : ∀ v H', Same H H' → IsSt K H' v (.lane n a b) → Q v H') : MakeS (He.ga K "Lane") (spI (He.ga K "Lane") fdL) [.str n, .str a, .str b] H Q :=
  ⟨fun x dx hx hd ne => ⟨x, dx, n, a, b, rfl, upd_same, h1, h2, h3, h4, fun t H' s e1 e2 => ⟨rfl, q _ _ (made_same hx hd s) ⟨x, dx, t, rfl, e1, .inl (.inl e2)⟩⟩⟩⟩
theorem make_avenue {H : Hp} {n a b : Str} {Q : VK} (h1 : nameB n = true) (h2 : nameB a = true) (h3 : nameB b = true) (h4 : a ≠ b) (q : ∀ v H', Same H H' → IsSt K H' v (.avenue n a b) → Q v H') : MakeS (He.ga K "Avenue") (spI (He.ga K "Avenue") fdE) [.str n, .str a, .str b] H Q :=
  ⟨fun x dx hx hd ne => ⟨x, dx, n, a, b, rfl, upd_same, h1, h2, h3, h4, fun t H' s e1 e2 => ⟨rfl, q _ _ (made_same hx hd s) ⟨x, dx, t, rfl, e1, .inl (.inl e2)⟩⟩⟩⟩
theorem make_road {H : Hp} {n a b : Str} {i j : Int} {Q : VK} (h1 : nameB n = true) (h2 : nameB a = true) (h3 : nameB b = true) (h4 : a ≠ b) (h5 : priceB i) (h6 : priceB j) (q : ∀ v H', Same H H' → IsSt K H' v (.road n a b i j) → Q v H') : MakeS (He.ga K "Road") (spR K) [.str n, .str a, .str b, .int i, .int j] H Q :=
  ⟨fun x dx hx hd ne => ⟨x, dx, n, a, b, i, j, rfl, upd_same, h1, h2, h3, h4, h5, h6, fun t H' s e1 e2 => ⟨rfl, q _ _ (made_same hx hd s) ⟨x, dx, t, rfl, e1, .inl (.inl e2)⟩⟩⟩⟩
theorem st_isi {H : Hp} {v : V} {s : St} (h : IsSt K H v s) : ∃ a, v = .ref a ∧ Own.IsI H a (He.ga K s.cls) := by
  obtain ⟨x, dx, t, rfl, h1, _⟩ := h
  exact ⟨x, rfl, dx, _, h1⟩
theorem St.nn (T : Txt K mg) (s : St) : He.ga K "Town" ≠ He.ga K s.cls ∧ Own.noNum K (He.ga K s.cls) (Operator.BitOr.info.2) = true := match s with
  | .lane .. => ⟨T.ne_Lane, T.nn_Lane⟩
  | .avenue .. => ⟨T.ne_Avenue, T.nn_Avenue⟩
  | .road .. => ⟨T.ne_Road, T.nn_Road⟩
/-- town | street -/
theorem bin_town {H : Hp} {v u : V} {L : List Row} {s : St} {Q : VK} (T : Txt K mg) (h : TG K H v L) (hu : IsSt K H u s) (ok : RowsOk (L ++ [(u, s)])) (q : ∀ v' L' cs' H', Same H H' → IsT K H' v' L' cs' → L'.Perm (L ++ [(u, s)]) → Q v' H') :
    Own.rBin K (He.ga K "Town") .BitOr (spTOr K) v u H Q := by
  obtain ⟨a, rfl, ha⟩ := tg_isi h
  obtain ⟨b, rfl, hb⟩ := st_isi hu
  exact ⟨a, b, _, rfl, rfl, ha, hb, .inr (s.nn T), ⟨⟨_, L, _, s, rfl, h, hu, ok, q⟩⟩⟩
def spTownL (K : PySem.W.Frag) : Sp := fun vs H Q _ => ∃ p c k D vs' rs sp, vs = [.ref p, .ref D] ∧ Pen K H p c k ∧ k ≤ 90000 ∧ H D = some (.lst vs') ∧ D ≠ p ∧ IsRs K H vs' rs ∧ SpotsG sp ∧ RowsG sp rs ∧
  ∀ v L M cs H', SameX p H H' → Pen K H' p c (k + 20) → IsT K H' v L cs → L.Perm M → Sts rs M → Q v H'
theorem sc__law_town : FnScope ["_law_pen_here", "_law_rows", "_law_made", "_law_kind", "_law_title", "_law_first", "_law_last", "_law_ahead", "_law_behind", "_law_is_back"] ["_law_pen_here", "_law_rows"] (defScope (top 89)) := ⟨rfl, rfl, rfl, by decide +kernel, rfl, by decide +kernel, by decide +kernel⟩
include T in
theorem ok__law_town : Fn w K mg base 9 (He.ga K "_law_town") (spTownL K) := by
  refine funR T.f__law_town sc__law_town (fun _ _ _ _ _ _ us hl => match us, hl with | [_, _], _ => rfl) (fun vs H Q E h => ?_) (fun cdv A outer s H vs Q E hr h => ?_)
  · obtain ⟨p, c, k, D, vs', rs, sp, rfl, _⟩ := h; rfl
  obtain ⟨p, c, k, D, vs, rs, sp, rfl, hp, hk, hD, nD, irs, g, rg, q⟩ := h
  have nd := sc__law_town.nd
  refine ⟨_, pss_cons (ps_set (i := 2) nd rfl (Or.inl rfl) (p_mk0 T.mk_Town (ok_Town_init T) (hr.mono (by decide)) T.g_Town))
    (pss_cons (ps_for PassesOwn.never rfl (pi_list (pv 1)) (pg_tup rfl (pgs_cons (pg_name (i := 3) nd rfl (Or.inl rfl)) (pgs_cons (pg_name (i := 4) nd rfl (Or.inl rfl)) (pgs_cons (pg_name (i := 5) nd rfl (Or.inl rfl)) (pgs_cons (pg_name (i := 6) nd rfl (Or.inl rfl)) (pgs_cons (pg_name (i := 7) nd rfl (Or.inl rfl)) (pgs_cons (pg_name (i := 8) nd rfl (Or.inl rfl)) pgs_nil)))))))
      (pss_cons (ps_set (i := 9) nd rfl (Or.inl rfl) (pe_cmpR op_eq (Own.pe_call (ok__law_draw T) (hr.mono (by decide)) (by rfl) T.g__law_draw T.k__law_draw (pa_cons (pv 0) (pa_cons pe_int pa_nil))) pe_int (nomark _)))
      (pss_one (ps_if (pt_cmpR op_eq (pv 3) pe_str (nomark _))
        (pss_one (ps_set (i := 2) nd rfl (Or.inl rfl) (pe_op (Own.op_bin T.b_Town_or (ok_Town_or T) (hr.mono (by decide))) (pv 2) (p_mk T.mk_Lane (ok_Lane T) (hr.mono (by decide)) T.g_Lane (pa_cons (pv 4) (pa_cons (pv 5) (pa_cons (pv 6) pa_nil)))))))
        (pss_one (ps_if (pt_cmpR op_eq (pv 3) pe_str (nomark _))
          (pss_one (ps_set (i := 2) nd rfl (Or.inl rfl) (pe_op (Own.op_bin T.b_Town_or (ok_Town_or T) (hr.mono (by decide))) (pv 2) (pe_ifExp (pt_val (pv 9)) (p_mk T.mk_Avenue (ok_Avenue T) (hr.mono (by decide)) T.g_Avenue (pa_cons (pv 4) (pa_cons (pv 6) (pa_cons (pv 5) pa_nil)))) (p_mk T.mk_Avenue (ok_Avenue T) (hr.mono (by decide)) T.g_Avenue (pa_cons (pv 4) (pa_cons (pv 5) (pa_cons (pv 6) pa_nil))))))))
          (pss_one (ps_if (pt_val (pv 9))
            (pss_one (ps_set (i := 2) nd rfl (Or.inl rfl) (pe_op (Own.op_bin T.b_Town_or (ok_Town_or T) (hr.mono (by decide))) (pv 2) (p_mk T.mk_Road (ok_Road T) (hr.mono (by decide)) T.g_Road (pa_cons (pv 4) (pa_cons (pv 6) (pa_cons (pv 5) (pa_cons (pv 8) (pa_cons (pv 7) pa_nil)))))))))
            (pss_one (ps_set (i := 2) nd rfl (Or.inl rfl) (pe_op (Own.op_bin T.b_Town_or (ok_Town_or T) (hr.mono (by decide))) (pv 2) (p_mk T.mk_Road (ok_Road T) (hr.mono (by decide)) T.g_Road (pa_cons (pv 4) (pa_cons (pv 5) (pa_cons (pv 6) (pa_cons (pv 7) (pa_cons (pv 8) pa_nil)))))))))))))))))
    (pss_one (ps_ret (pv 2)))), ?_⟩
  refine make_town (L := []) (fun p hp => absurd hp List.not_mem_nil) ⟨fun r hr => absurd hr List.not_mem_nil, by simp, by simp, fun cs c => by
    have : cs = [] := by
      cases cs with
      | nil => rfl
      | cons x r => obtain ⟨r, hr, _⟩ := (c.mem x).mp List.mem_cons_self; cases hr
    rw [this]; decide⟩ fun v0 L0 cs0 H1 s1 iT0 pm0 => ?_
  refine ⟨_, rfl, D, rfl, ⟨_, .inl (.inl (s1 _ _ hD))⟩, ?_⟩
  have nlx : ∀ {H' : Hp}, SameX p H H' → NL H H' := fun {H'} sx => by obtain ⟨lp, hlp⟩ := hp.at_; exact nl_x hlp sx
  have lv := irs.len
  have hfew := rg.few
  have rok : ∀ {i : Nat} {M : List Row}, Sts (rs.take i) M → RowsOk M := fun {i M} hs => hs.rowsOk (sp := sp) (fun r hr => rg.ab r (List.mem_of_mem_take hr)) (fun r hr => rg.nm r (List.mem_of_mem_take hr)) (rg.nd.sublist ((List.take_sublist i rs).map _)) (by rw [List.length_take]; omega) g
  refine for_any (n := vs.length) (fun i σ H' => SameX p H H' ∧ Pen K H' p c (k + i) ∧ H' D = some (.lst vs) ∧ IsRs K H' vs rs ∧ ∃ v L M cs, IsT K H' v L cs ∧ L.Perm M ∧ Sts (rs.take i) M ∧ ∃ u3 u4 u5 u6 u7 u8 u9, σ = [some (.ref p), some (.ref D), some v, u3, u4, u5, u6, u7, u8, u9])
    ⟨same_x s1, hp.same s1, s1 _ _ hD, irs.nl (nl_same s1), v0, L0, [], cs0, iT0, pm0, (by rw [List.take_zero]; exact .nil), _, _, _, _, _, _, _, rfl⟩ (fun i σ H' hi pv => ⟨vs, vs[i], .inl (.inl pv.2.2.1), List.getElem?_eq_getElem hi⟩) (fun σ H' pv => ⟨vs, .inl (.inl pv.2.2.1), Nat.le_refl _⟩) (fun i x σ H2 H3 hi pv y => ?_) (fun σ H2 pv => ?_)
  · obtain ⟨sx, pn, hD3, ir3, v, L, M, cs, iT, pm, hs, u3, u4, u5, u6, u7, u8, u9, rfl⟩ := pv
    obtain ⟨rfl, hx⟩ := y
    have hx := hx vs (.inl (.inl hD3))
    obtain ⟨r, hr, t, rfl, ht⟩ := ir3.get hx
    have hrm : r ∈ rs := List.mem_of_getElem? hr
    have tk : rs.take (i + 1) = rs.take i ++ [r] := by rw [List.take_succ, hr]; rfl
    refine ⟨t, r.vs, rfl, ht, rfl, _, _, rfl, _, _, rfl, _, _, rfl, _, _, rfl, _, _, rfl, _, _, rfl, rfl, ?_⟩
    refine ⟨_, rfl, draw_sat ⟨pn, by omega, by decide, by decide, fun rr H4 s4 pn4 hrr => ⟨rfl, ?_⟩⟩⟩
    obtain ⟨lp, hlp⟩ := pn.at_
    have nl4 := nl_x hlp s4
    have hD4 := s4 D _ nD hD3
    have iT4 := nl4.isT iT
    have ir4 := ir3.nl nl4
    have sx4 := sx.trans s4
    have hab := rg.ab r hrm
    have hnm := rg.nm r hrm
    have na : nameB r.a = true := g.nm _ hab.1
    have nb : nameB r.b = true := g.nm _ hab.2.1
    have nab : r.a ≠ r.b := hab.2.2
    have hpr := rg.pr r hrm
    have fin : ∀ {s : St} {u : V} {H5 : Hp}, StOf r s → Same H4 H5 → IsSt K H5 u s → ∀ (Q' : VK), (∀ v' L' cs' H', Same H5 H' → IsT K H' v' L' cs' → L'.Perm (M ++ [(u, s)]) → Q' v' H') → Own.rBin K (He.ga K "Town") .BitOr (spTOr K) v u H5 Q' := fun {s u H5} so s5 hu Q' hq => by
      have pm2 : (L ++ [(u, s)]).Perm (M ++ [(u, s)]) := pm.append_right _
      have h1 : Sts (rs.take (i + 1)) (M ++ [(u, s)]) := by rw [tk]; exact .snoc hs so
      exact bin_town T (iT4.same s5).tg hu ((rok h1).perm pm2) fun v' L' cs' H' s6 iT' pm' => hq v' L' cs' H' s6 iT' (pm'.trans pm2)
    have done : ∀ {s : St} {u : V} {v' : V} {L' : List Row} {cs' : List Str} {H5 H6 : Hp}, StOf r s → Same H4 H5 → Same H5 H6 → IsT K H6 v' L' cs' → L'.Perm (M ++ [(u, s)]) → ∀ {σ' : L2.St}, (∃ u3 u4 u5 u6 u7 u8 u9, σ' = [some (.ref p), some (.ref D), some v', u3, u4, u5, u6, u7, u8, u9]) →
        (SameX p H H6 ∧ Pen K H6 p c (k + (i + 1)) ∧ H6 D = some (.lst vs) ∧ IsRs K H6 vs rs ∧ ∃ v L M cs, IsT K H6 v L cs ∧ L.Perm M ∧ Sts (rs.take (i + 1)) M ∧ ∃ u3 u4 u5 u6 u7 u8 u9, σ' = [some (.ref p), some (.ref D), some v, u3, u4, u5, u6, u7, u8, u9]) := fun {s u v' L' cs' H5 H6} so s5 s6 iT' pm' {σ'} e => by
      have s7 := s5.trans s6
      exact ⟨sx4.trans (same_x s7), (pn4.same s7).up (by omega), s7 _ _ hD4, ir4.nl (nl_same s7), v', L', _, cs', iT', pm', (by rw [tk]; exact .snoc hs so), e⟩
    refine ⟨_, rfl, rfl, _, rfl, ite_both (fun hc => ?_) (fun hc => ?_)⟩
    · have hc : r.kd = "lane" := by have := of_decide_eq_true hc; injection this
      refine ⟨_, rfl, _, rfl, _, rfl, _, rfl, make_lane hnm na nb nab fun u H5 s5 hu => fin (.inl ⟨hc, rfl⟩) s5 hu _ fun v' L' cs' H6 s6 iT' pm' => done (.inl ⟨hc, rfl⟩) s5 s6 iT' pm' ⟨_, _, _, _, _, _, _, rfl⟩⟩
    · have hc : r.kd ≠ "lane" := fun z => by rw [decide_eq_true (by rw [z])] at hc; cases hc
      refine ⟨_, rfl, rfl, _, rfl, ite_both (fun hd => ?_) (fun hd => ?_)⟩
      · have hd : r.kd = "avenue" := by have := of_decide_eq_true hd; injection this
        refine ⟨_, rfl, _, rfl, _, rfl, ite_both (fun hb => ?_) (fun hb => ?_)⟩
        · refine ⟨_, rfl, _, rfl, _, rfl, make_avenue hnm nb na nab.symm fun u H5 s5 hu => fin (.inr (.inl ⟨hd, .inr rfl⟩)) s5 hu _ fun v' L' cs' H6 s6 iT' pm' => done (.inr (.inl ⟨hd, .inr rfl⟩)) s5 s6 iT' pm' ⟨_, _, _, _, _, _, _, rfl⟩⟩
        · refine ⟨_, rfl, _, rfl, _, rfl, make_avenue hnm na nb nab fun u H5 s5 hu => fin (.inr (.inl ⟨hd, .inl rfl⟩)) s5 hu _ fun v' L' cs' H6 s6 iT' pm' => done (.inr (.inl ⟨hd, .inl rfl⟩)) s5 s6 iT' pm' ⟨_, _, _, _, _, _, _, rfl⟩⟩
      · have hd : r.kd ≠ "avenue" := fun z => by rw [decide_eq_true (by rw [z])] at hd; cases hd
        have he : r.kd = "road" := by
          rcases rg.kd r hrm with h | h | h
          · exact h
          · exact absurd h hc
          · exact absurd h hd
        refine ⟨_, rfl, _, rfl, ite_both (fun hb => ?_) (fun hb => ?_)⟩
        · refine ⟨_, rfl, _, rfl, _, rfl, _, rfl, _, rfl, _, rfl, make_road hnm nb na nab.symm hpr.2 hpr.1 fun u H5 s5 hu => fin (.inr (.inr ⟨he, .inr rfl⟩)) s5 hu _ fun v' L' cs' H6 s6 iT' pm' => done (.inr (.inr ⟨he, .inr rfl⟩)) s5 s6 iT' pm' ⟨_, _, _, _, _, _, _, rfl⟩⟩
        · refine ⟨_, rfl, _, rfl, _, rfl, _, rfl, _, rfl, _, rfl, make_road hnm na nb nab hpr.1 hpr.2 fun u H5 s5 hu => fin (.inr (.inr ⟨he, .inl rfl⟩)) s5 hu _ fun v' L' cs' H6 s6 iT' pm' => done (.inr (.inr ⟨he, .inl rfl⟩)) s5 s6 iT' pm' ⟨_, _, _, _, _, _, _, rfl⟩⟩
  obtain ⟨sx, pn, hD3, ir3, v, L, M, cs, iT, pm, hs, u3, u4, u5, u6, u7, u8, u9, rfl⟩ := pv
  rw [List.take_of_length_le (by omega)] at hs
  exact ⟨_, rfl, q v L M cs H2 sx (pn.up (by omega)) iT pm hs⟩
end
end Tx
/-! ## RevT -/
/-! t[::-1] of a pair. -/
namespace RevT
open PySem PySem.Spec PyProof.Rows L2
section
variable {prog : Program} {w : World} {A : Around} {E : Value → Shared → Prop} {s : Shared}
theorem sliceApplied_rev {sl : Addr} {vs : Value} {Q : Int × Int × Nat → Shared → Prop} (hs : s.heap.IsSliceOf sl .none .none vs) (ps : IsPart vs (some (-1)))
    (h : Q (1, -1, 2) s) : wpAny (model prog w) A (Builtin.Slice.sliceApplied (.ref sl) (pure 2)) Q E s := by
  obtain ⟨os, hos, hcs, hds⟩ := id hs
  unfold Builtin.Slice.sliceApplied Builtin.Slice.sliceFields
  refine wpAny_bind (wpAny_bind (wpAny_field hos hds (x := .none) rfl (wpAny_bind (wpAny_field hos hds (x := .none) rfl (wpAny_bind (wpAny_field hos hds (x := vs) rfl (wpAny_pure ?_)))))))
  refine wpAny_bind (HT.slicePart_ ps ?_)
  show wpAny _ _ (if ((-1 : Int) == 0) = true then _ else _) _ _ s
  rw [if_neg (by decide)]
  refine wpAny_bind (slicePart_none (wpAny_bind (slicePart_none (wpAny_bind (wpAny_pure ?_)))))
  exact wpAny_pure h
theorem getItem_tuple_rev {t sl : Addr} {x y vs : Value} {Q : Value → Shared → Prop} (ht : IsTup s.heap t #[x, y]) (hs : s.heap.IsSliceOf sl .none .none vs) (ps : IsPart vs (some (-1)))
    (h : Q (.ref s.heap.objs.size) { s with heap := s.heap.push { cls := .type "tuple", data := .seq #[y, x] } }) : wpAny (model prog w) A (getItem (.ref t) (.ref sl)) Q E s := by
  have htake : sizeOk (.seq #[y, x]) := by
    show 2 ≤ sizeLine
    decide
  obtain ⟨os, hos, hcs, hds⟩ := id hs
  have hTs : s.TypeIs (.ref sl) "slice" := ⟨os, hos, hcs⟩
  unfold getItem
  try with_reducible refine wpAny_holding ?_
  first | refine wpAny_bind (wpAny_pure ?_) | skip
  refine wpAny_bind (wpAny_sequenceKey ht.typeIs (by decide) ?_)
  refine wpAny_bind (wpAny_callSpecial?_slot (name := Str.ofString "__getitem__") ht.typeIs PyProof.Rows.slot_tuple_getitem
    (wpAny_call_entry PyProof.Rows.slot_tuple_getitem ht.typeIs entry_tuple_getitem ?_ (args_tuple_getitem _ _)))
  show wpAny _ _ (Builtin.Tuple.tupleItemsOf (.ref t) >>= _) _ _ s
  refine wpAny_bind (tupleItemsOf_ ht ?_)
  refine wpAny_bind (wpAny_typeOf hTs ?_)
  rw [if_pos (by decide)]
  refine wpAny_bind (sliceApplied_rev hs ps ?_)
  show wpAny _ _ (if ((1 : Int) == 0 && (-1 : Int) == 1 && (2 : Nat) == 2) = true then _ else _) _ _ s
  rw [if_neg (by decide)]
  have e : ((List.range 2).filterMap fun (m : Nat) => (#[x, y] : Array Value)[((1 : Int) + (m : Int) * (-1)).toNat]?).toArray = #[y, x] := rfl
  rw [e]
  first
    | exact wpAny_bind (m := Builtin.Tuple.tupleExact _) (wpAny_newObj_type (wpAny_pure ⟨_, rfl, wpAny_pure h⟩) htake)
    | exact wpAny_bind (m := Builtin.Tuple.tupleExact _) (wpAny_newObj_type (wpAny_bind (wpAny_pure (wpAny_pure ⟨_, rfl, wpAny_pure h⟩))) htake)
    | exact wpAny_bind (wpAny_bind (m := Builtin.Tuple.tupleExact _) (wpAny_newObj_type (wpAny_pure (wpAny_pure ⟨_, rfl, wpAny_pure h⟩)) htake))
    | exact wpAny_bind (wpAny_bind (m := Builtin.Tuple.tupleExact _) (wpAny_newObj_type (wpAny_pure ⟨_, rfl, wpAny_pure h⟩) htake))
end
section
variable {X : Cx}
def tRevT (K : PySem.W.Frag) (te : TE) : TE := fun σ H Q => te σ H fun x H1 => ∃ a u v, x = .ref a ∧ SqT K H1 a [u, v] ∧ ∀ p, H1 p = none → Q (.ref p) (upd H1 p (.tup [v, u]))
theorem pe_revT {e : Expr} {te : TE} {k : Nat} {p1 p2 p3 pos : Pos} (he : PE X e te) : PE X (.Subscript e (.Slice none none (some (.UnaryOp .USub (.Constant (.int 1) k p1) p2)) p3) pos) (tRevT X.K te) := by
  refine ⟨fun pins s σ H Q I h => ?_⟩
  refine Subscript_ (thn (he.run pins s σ H _ I h) fun v s1 ⟨x, H1, I1, r1, q1⟩ => ?_)
  obtain ⟨a, u1, u2, ex, hx, q⟩ := q1
  subst ex
  cases r1
  have hst : PO X (some (.UnaryOp .USub (.Constant (.int 1) k p1) p2)) (tPart (tUn (rU fun i => .int (-i)) (tC (.int 1)))) := po_some (pe_un un_neg pe_int)
  refine wpAny_Slice (thn (po_none.run pins s1 σ H1 (fun o H2 => o = none ∧ H2 = H1) I1 ⟨rfl, rfl⟩) fun vl s2 ⟨l, H2, I2, pl, el, e2⟩ => ?_)
  subst el e2
  refine thn (po_none.run pins s2 σ H2 (fun o H3 => o = none ∧ H3 = H2) I2 ⟨rfl, rfl⟩) fun vu s3 ⟨u, H3, I3, pu, eu, e3⟩ => ?_
  subst eu e3
  refine thn (hst.run pins s3 σ H3 (fun o H4 => o = some (-1) ∧ H4 = H3) I3 ⟨1, rfl, -1, rfl, rfl, rfl⟩) fun vs s4 ⟨o, H4, I4, ps, eo, e4⟩ => ?_
  subst eo e4
  cases pl
  cases pu
  have I5 : Inv X pins σ H4 { s4 with heap := s4.heap.push { cls := .type "slice", data := .fields #[.none, .none, vs] } } := I4.kept (t' := s4.toks) fun b ob q => Heap.get?_push_of_some _ q
  obtain ⟨its, r, ht, hz⟩ := I5.tuple hx
  obtain ⟨w1, w2, rfl, rw1, rw2⟩ : ∃ w1 w2, its = [w1, w2] ∧ RelV u1 w1 ∧ RelV u2 w2 := by
    cases r with
    | cons h1 t1 => cases t1 with
      | cons h2 t2 => cases t2 with
        | nil => exact ⟨_, _, rfl, h1, h2⟩
  show wpAny (model X.prog X.w) X.A (subscriptTail e (.Slice none none (some (.UnaryOp .USub (.Constant (.int 1) k p1) p2)) p3) (.ref a) (.ref s4.heap.objs.size)) (EP X pins σ Q) X.xe { s4 with heap := s4.heap.push { cls := .type "slice", data := .fields #[.none, .none, vs] } }
  refine tail_any (ops := [.ref a, .ref s4.heap.objs.size]) ht.typeIs (PyProof.Rows.slot_tuple_getitem.lookup) ?_ (by with_unfolding_all rfl)
  refine getItem_tuple_rev ht (Heap.IsSliceOf.new _ .none .none vs) ps ?_
  refine ⟨.ref _, _, I5.laid (t' := s4.toks) (o := .tup [u2, u1]) (fun b ob q => Heap.get?_push_of_some _ q) (Nat.le_refl _) ?_, rfl, q _ (I5.hok.fresh (Nat.le_refl _))⟩
  exact ⟨by show 2 ≤ sizeLine; decide, _, .cons rw2 (.cons rw1 .nil), IsTup.new _ _⟩
end
end RevT
/-! ## DTold -/
namespace Tx
open PySem PySem.Spec PyProof.Rows L2
theorem merge_new : ∀ (more acc : List (L2.Key × V)), ((acc ++ more).map (·.1)).Nodup → mergeK acc more = acc ++ more
  | [], acc, _ => by rw [List.append_nil]; rfl
  | q :: r, acc, h => by
    have hq : valV acc q.1 = none := by
      refine valV_no fun z => ?_
      rw [List.map_append, List.nodup_append] at h
      exact h.2.2 _ z _ (by rw [List.map_cons]; exact List.mem_cons_self) rfl
    have e : mergeK acc (q :: r) = mergeK (putK acc q.1 q.2) r := rfl
    rw [e, putK_new _ hq]
    have := merge_new r (acc ++ [(q.1, q.2)]) (by rw [List.append_assoc]; exact h)
    rw [this, List.append_assoc]
    rfl
theorem merge_dN {L : List Row} (h : (L.map nmR).Nodup) : mergeK [] (dN L) = dN L := by
  have := merge_new (dN L) [] (by
    rw [List.nil_append, dN_key, List.Nodup, List.pairwise_map]
    exact List.Pairwise.imp (fun h z => h (Sum.inr.inj z)) h)
  rw [this, List.nil_append]
theorem toldL_take {rs : List LRow} {i : Nat} {r : LRow} (h : rs[i]? = some r) : toldL (rs.take (i + 1)) = toldL (rs.take i) ++ (if r.kd = "road" then [St.road r.nm r.a r.b 0 0] else []) := by
  unfold toldL
  rw [List.take_succ, h, List.filter_append, List.map_append]
  congr 1
  by_cases e : r.kd = "road"
  · simp [e]
  · simp [e]
section
variable {w : World} {K : PySem.W.Frag} {mg : Str → Option Value} {base : Heap} (T : Txt K mg)
def spToldL (K : PySem.W.Frag) : Sp := fun vs H Q _ => ∃ D vs' rs sp, vs = [.ref D] ∧ H D = some (.lst vs') ∧ IsRs K H vs' rs ∧ RowsG sp rs ∧
  ∀ d L H', Same H H' → H' d = some (.dK (dN L)) → Prs K H' L → L.map (·.2) = toldL rs → Q (.ref d) H'
theorem sc__law_told : FnScope ["_law_rows", "_law_row"] ["_law_rows"] (defScope (top 90)) := ⟨rfl, rfl, rfl, by decide +kernel, rfl, by decide +kernel, by decide +kernel⟩
include T in
theorem ok__law_told : Fn w K mg base 1 (He.ga K "_law_told") (spToldL K) := by
  refine funR T.f__law_told sc__law_told (fun _ _ _ _ _ _ us hl => match us, hl with | [_], _ => rfl) (fun vs H Q E h => ?_) (fun cdv A outer s H vs Q E hr h => ?_)
  · obtain ⟨D, vs', rs, sp, rfl, _⟩ := h; rfl
  obtain ⟨D, vs, rs, sp, rfl, hD, irs, rg, q⟩ := h
  have nd := sc__law_told.nd
  refine ⟨_, pss_one (ps_ret (p_t1 (call_dictP rfl) bt_dict T.n_dict (pe_lc (own := [("_law_row", 1)]) (g := gName 1) rfl nd (pi_list (pv 0)) (blkOk_by (N := ["_law_rows", "_law_row"]) (sc := defScope (top 90)) (by decide +kernel)) (fun _ _ _ _ _ => pg_name (i := 1) nd rfl (Or.inl rfl))
      (fun _ _ _ _ _ => pts_one (pt_cmpR op_eq (pe_ix (ixB_tup K) (pv 1) pe_int (fun _ _ => rfl)) pe_str (by rfl)))
      (fun _ _ _ _ _ => pe_tup (pa_cons (pe_ix (ixB_tup K) (pv 1) pe_int (fun _ _ => rfl)) (pa_cons (pe_tup (pa_cons (pe_ix (ixB_tup K) (pv 1) pe_int (fun _ _ => rfl)) (pa_cons (pe_ix (ixB_tup K) (pv 1) pe_int (fun _ _ => rfl)) pa_nil))) pa_nil)))))), ?_⟩
  have lv := irs.len
  have hfew := rg.few
  refine ⟨_, rfl, D, rfl, ⟨_, .inl (.inl hD)⟩, fun D2 hD2 => ?_⟩
  have hLs : SqL K H D vs := .inl (.inl hD)
  refine lc_gen (n := vs.length) (fun i acc H' => ∃ (L : List Row) (ps : List Addr), acc = ps.map V.ref ∧ Paired (fun p kv => SqT K H' p [kV kv.1, kv.2]) ps (dN L) ∧ Prs K H' L ∧ L.map (·.2) = toldL (rs.take i)) hD2 (by omega)
    ⟨[], [], rfl, .nil, (fun p hp => absurd hp List.not_mem_nil), rfl⟩ (fun i acc l H1 H2 e s h => ?_) (fun i H' hi s => itl_go hLs hi s) (fun H' s => itl_st hLs s) (fun i acc x H1 H2 K1 K2 hi s hP y k2 k1 => ?_) (fun H1 acc s e hP => ?_)
  · obtain ⟨L, ps, h1, h2, h3, h4⟩ := h
    have nl := nl_x e s
    exact ⟨L, ps, h1, L2.Paired.mapP h2 fun a b z => nl.sqT z, nl.prs h3, h4⟩
  · obtain ⟨rfl, hx⟩ := itl_y hLs s y
    obtain ⟨L, ps, h1, h2, h3, h4⟩ := hP
    obtain ⟨r, hr, t, rfl, ht⟩ := (irs.nl (nl_same s)).get hx
    have tk := toldL_take hr
    refine ⟨rfl, _, rfl, t, _, 0, _, rfl, rfl, ht, atI_nat (j := 0) rfl, rfl, _, rfl, ite_both (fun hc => ?_) (fun hc => ?_)⟩
    · have hc : r.kd = "road" := by have := of_decide_eq_true hc; injection this
      rw [if_pos hc] at tk
      refine ⟨_, rfl, t, _, 1, _, rfl, rfl, ht, atI_nat (j := 1) rfl, _, rfl, t, _, 2, _, rfl, rfl, ht, atI_nat (j := 2) rfl, _, rfl, t, _, 3, _, rfl, rfl, ht, atI_nat (j := 3) rfl, by show 2 ≤ sizeLine; decide, fun u hu => ⟨by show 2 ≤ sizeLine; decide, fun v hv => ?_⟩⟩
      have s1 := same_new (o := .tup [.str r.a, .str r.b]) hu
      have s2 := s1.trans (same_new (o := .tup [.str r.nm, .ref u]) hv)
      have uv : u ≠ v := ne_of_none (o := .tup [.str r.a, .str r.b]) upd_same hv
      refine k2 _ _ s2 ⟨L ++ [(.ref u, St.road r.nm r.a r.b 0 0)], ps ++ [v], by rw [h1, List.map_append]; rfl, ?_, fun z hz => ?_, by rw [List.map_append, h4, tk]; rfl⟩
      · unfold dN
        rw [List.map_append]
        exact Paired.snoc (L2.Paired.mapP h2 fun a b z => (nl_same s2).sqT z) (.inl (.inl upd_same))
      · rcases List.mem_append.mp hz with hz | hz
        · exact (h3 z hz).lx (lx s2)
        · rw [List.mem_singleton.mp hz]
          exact ⟨u, rfl, .inl (.inl (by rw [upd_ne uv, upd_same]; rfl))⟩
    · have hc : r.kd ≠ "road" := fun z => by rw [decide_eq_true (by rw [z])] at hc; cases hc
      rw [if_neg hc, List.append_nil] at tk
      exact k1 _ (Same.refl _) ⟨L, ps, h1, h2, h3, by rw [tk]; exact h4⟩
  · obtain ⟨L, ps, h1, h2, h3, h4⟩ := hP
    rw [List.take_of_length_le (by omega)] at h4
    subst h1
    have hnd : (L.map nmR).Nodup := by
      have e2 : L.map nmR = (toldL rs).map St.name := by rw [← h4, List.map_map]; rfl
      rw [e2]
      exact told_nd rg.nd
    refine ⟨⟨D2, ps, dN L, rfl, .inl (.inl e), h2, fun d hd => ?_⟩⟩
    rw [merge_dN hnd]
    have s2 := same_new (o := .dK (dN L)) hd
    exact q d L _ (s.trans s2) upd_same (h3.lx (lx s2)) h4
end
end Tx
/-! ## DBent -/
namespace Tx
open PySem PySem.Spec PyProof.Rows L2
theorem sxk_t {K : PySem.W.Frag} {H H' : Hp} {d a : Addr} {kvs : List (L2.Key × V)} {xs : List V} (hd : H d = some (.dK kvs)) (s : SameX d H H') (h : SqT K H a xs) : SqT K H' a xs := by
  rcases h with (h | ⟨o, h⟩) | h
  · exact .inl (.inl (s a _ (fun z => by rw [z, hd] at h; cases h) h))
  · exact .inl (.inr ⟨o, s a _ (fun z => by rw [z, hd] at h; cases h) h⟩)
  · exact .inr h
theorem sxk_prs {K : PySem.W.Frag} {H H' : Hp} {d : Addr} {kvs : List (L2.Key × V)} {L : List Row} (hd : H d = some (.dK kvs)) (s : SameX d H H') (h : Prs K H L) : Prs K H' L := fun p hp => by
  obtain ⟨t, e, ht⟩ := h p hp
  exact ⟨t, e, sxk_t hd s ht⟩
/-- one sign turned -/
def turnR (n : Str) (v : V) (r : Row) : Row := if nmR r = n then (v, St.road n r.2.e2 r.2.e1 0 0) else r
theorem turn_nm (n : Str) (v : V) (r : Row) : nmR (turnR n v r) = nmR r := by
  unfold turnR
  by_cases h : nmR r = n
  · rw [if_pos h]; exact h.symm
  · rw [if_neg h]
theorem turn_put {L : List Row} {n : Str} {v : V} (h : n ∈ L.map nmR) : putK (dN L) (Sum.inr n) v = dN (L.map (turnR n v)) := by
  unfold putK
  have a : ((dN L).any fun kv => decide (kv.1 = Sum.inr n)) = true := by
    rw [List.any_eq_true]
    obtain ⟨r, hr, e⟩ := List.mem_map.mp h
    exact ⟨(Sum.inr (nmR r), r.1), List.mem_map.mpr ⟨r, hr, rfl⟩, by rw [e]; simp⟩
  rw [if_pos a]
  unfold dN
  rw [List.map_map, List.map_map]
  apply List.map_congr_left
  intro r _
  simp only [Function.comp]
  unfold turnR
  by_cases q : nmR r = n
  · rw [if_pos (by rw [q]), if_pos q, q]
    rfl
  · rw [if_neg (fun z => q (Sum.inr.inj z)), if_neg q]
theorem bent_turn {ss : List St} {B : List Row} {n : Str} {v : V} (h : Bent ss B) : Bent ss (B.map (turnR n v)) where
  nm := by
    rw [List.map_map, ← h.nm]
    apply List.map_congr_left
    intro r _
    exact turn_nm n v r
  ends := fun x hx => by
    obtain ⟨y, hy, rfl⟩ := List.mem_map.mp hx
    obtain ⟨s, hs, e, q⟩ := h.ends y hy
    refine ⟨s, hs, by rw [turn_nm]; exact e, ?_⟩
    unfold turnR
    by_cases g : nmR y = n
    · rw [if_pos g]
      rcases q with ⟨q1, q2⟩ | ⟨q1, q2⟩
      · exact .inr ⟨q2, q1⟩
      · exact .inl ⟨q2, q1⟩
    · rw [if_neg g]; exact q
theorem bent_self (L : List Row) : Bent (L.map (·.2)) L where
  nm := by rw [List.map_map]; rfl
  ends := fun x hx => ⟨x.2, List.mem_map_of_mem hx, rfl, .inl ⟨rfl, rfl⟩⟩
theorem shaped_strsL {ss : List Str} (h : ∀ x ∈ ss, nameB x = true) : SeqAt.shaped (.list (ss.map PyData.str)) = true := by
  have h1 : ∀ l : List Str, (∀ x ∈ l, nameB x = true) → PyData.canLayAll0 (l.map PyData.str) = true := by
    intro l
    induction l with
    | nil => intro _; simp [PyData.canLayAll0]
    | cons x r ih =>
      intro hl
      simp only [List.map_cons, PyData.canLayAll0, PyData.canLay0, Bool.and_eq_true]
      exact ⟨strOk_name (hl x List.mem_cons_self), ih fun y hy => hl y (List.mem_cons_of_mem _ hy)⟩
  have h2 : ∀ l : List Str, PyData.depthAll (l.map PyData.str) ≤ 1 := by
    intro l
    induction l with
    | nil => simp [PyData.depthAll]
    | cons x r ih =>
      simp only [List.map_cons, PyData.depthAll, PyData.depth]
      omega
  unfold SeqAt.shaped
  rw [Bool.and_eq_true, decide_eq_true_eq]
  refine ⟨by simp only [PyData.canLay0]; exact h1 ss h, ?_⟩
  simp only [PyData.depth]
  have := h2 ss
  omega
theorem ne_nilL (ss : List Str) : (!PyData.eqv (.list (ss.map PyData.str)) (.list [])) = decide (ss ≠ []) := by
  cases ss <;> simp [PyData.eqv, PyData.eqvAll]
section
variable {w : World} {K : PySem.W.Frag} {mg : Str → Option Value} {base : Heap} (T : Txt K mg)
def spBentL (K : PySem.W.Frag) : Sp := fun vs H Q _ => ∃ p c k d L m, vs = [.ref p, .ref d, .int (m : Nat)] ∧ Pen K H p c k ∧ k ≤ 90000 ∧ H d = some (.dK (dN L)) ∧ Prs K H L ∧ (L.map nmR).Nodup ∧ L.length ≤ 14 ∧ (∀ r ∈ L, nameB (nmR r) = true) ∧ m ≤ 1 ∧
  ∀ d' B H', SameX p H H' → Pen K H' p c (k + 5) → H' d' = some (.dK (dN B)) → Prs K H' B → Bent (L.map (·.2)) B → Q (.ref d') H'
theorem sc__law_bent : FnScope ["_law_pen_here", "_law_told_here", "_law_many", "_law_found", "_law_titles_here", "_law_k", "_law_title"] ["_law_pen_here", "_law_told_here", "_law_many"] (defScope (top 91)) := ⟨rfl, rfl, rfl, by decide +kernel, rfl, by decide +kernel, by decide +kernel⟩
include T in
theorem ok__law_bent : Fn w K mg base 3 (He.ga K "_law_bent") (spBentL K) := by
  refine funR T.f__law_bent sc__law_bent (fun _ _ _ _ _ _ us hl => match us, hl with | [_, _, _], _ => rfl) (fun vs H Q E h => ?_) (fun cdv A outer s H vs Q E hr h => ?_)
  · obtain ⟨p, c, k, d, L, m, rfl, _⟩ := h; rfl
  obtain ⟨p, c, k, d, L, m, rfl, hp, hk, hd, hprs, hnd, hfew, hnm, hm, q⟩ := h
  have nd := sc__law_bent.nd
  refine ⟨_, pss_cons (ps_par (i := 3) (j := 4) rfl nd rfl rfl (by decide) rfl rfl (pa_cons (p_t1 call_dictD bt_dict T.n_dict (pv 1)) (pa_cons (p_t1 (call_listD rfl) bt_list T.n_list (pv 1)) pa_nil)) (by rfl))
    (pss_cons (ps_for PassesOwn.never rfl (pi_range1 (by rfl) T.n_range (pa_cons (pv 2) pa_nil)) (pg_name (i := 5) nd rfl (Or.inl rfl))
      (pss_one (ps_if (pt_cmpR (op_neD (hu_ hr)) (pv 4) (pe_lst pa_nil) (nomark _))
        (pss_cons (ps_set (i := 6) nd rfl (Or.inl rfl) (Own.pe_call (ok__law_pick T) hr (by rfl) T.g__law_pick T.k__law_pick (pa_cons (pv 0) (pa_cons (pv 4) pa_nil))))
        (pss_one (ps_asg (RevT.pe_revT (pe_dget (hu1 hr) (pv 3) (pv 6) (fun _ _ => rfl))) (pg_sub (pv 3) (pv 6) (set_dict (hu1 hr)))))) pss_nil)))
    (pss_one (ps_ret (pv 3)))), ?_⟩
  refine ⟨_, rfl, ⟨⟨d, _, rfl, .inl hd, fun d2 hd2 => ⟨_, rfl, ?_⟩⟩⟩⟩
  have n2 : p ≠ d2 ∧ c ≠ d2 := by
    obtain ⟨cs, j, l, h1, h2, _⟩ := hp
    exact ⟨ne_of_none h1 hd2, ne_of_none h2 hd2⟩
  have s1 := same_new (o := .dK (dN L)) hd2
  refine ⟨⟨d, _, rfl, .inl (s1 _ _ hd), fun D hD => ⟨_, _, rfl, ?_⟩⟩⟩
  have s2 := same_new (o := .lst ((dN L).map fun kv => kV kv.1)) hD
  have eD : ((dN L).map fun kv => kV kv.1) = (L.map nmR).map V.str := by unfold dN; rw [List.map_map, List.map_map]; rfl
  have nDp : D ≠ p := fun z => by
    obtain ⟨l, h⟩ := (hp.same s1).at_
    rw [z, h] at hD; cases hD
  have n2D : d2 ≠ D := ne_of_none (o := .dK (dN L)) upd_same hD
  refine ⟨_, rfl, (m : Nat), rfl, by omega, by omega, ?_⟩
  have hDk : (upd (upd H d2 (.dK (dN L))) D (.lst ((dN L).map fun kv => kV kv.1))) D = some (.lst ((L.map nmR).map V.str)) := by rw [upd_same, eD]
  refine for_any (n := m) (fun i σ H' => SameX p H H' ∧ Pen K H' p c (k + i) ∧ H' D = some (.lst ((L.map nmR).map V.str)) ∧ (∃ B, H' d2 = some (.dK (dN B)) ∧ Prs K H' B ∧ Bent (L.map (·.2)) B) ∧ ∃ u5 u6, σ = [some (.ref p), some (.ref d), some (.int (m : Nat)), some (.ref d2), some (.ref D), u5, u6])
    ⟨same_x (s1.trans s2), hp.same (s1.trans s2), hDk, ⟨L, s2 _ _ upd_same, hprs.lx (lx (s1.trans s2)), bent_self L⟩, _, _, rfl⟩ (fun i σ H' hi pv => hi) (fun σ H' pv => Nat.le_refl _) (fun i x σ H2 H3 hi pv y => ?_) (fun σ H2 pv => ?_)
  · obtain ⟨rfl, rfl⟩ := y
    obtain ⟨sx, pn, hD3, ⟨B, hB, pB, bB⟩, u5, u6, rfl⟩ := pv
    have eN : L.map nmR = B.map nmR := by rw [bB.nm, List.map_map]; rfl
    have hndB : (B.map nmR).Nodup := by rw [← eN]; exact hnd
    refine ⟨_, rfl, by decide, fun e he => ?_⟩
    have se := same_new (o := .lst []) he
    have hshape : SeqAt.shaped (.list ((L.map nmR).map PyData.str)) = true := shaped_strsL fun x hx => by
      obtain ⟨r, hr, rfl⟩ := List.mem_map.mp hx
      exact hnm r hr
    refine ⟨_, _, .lst (.inl (.inl (se _ _ hD3))) (dpAll_strs _), .lst (.inl (.inl upd_same)) .nil, hshape, by decide, _, rfl, ?_⟩
    rw [ne_nilL]
    refine ite_both (fun hc => ?_) (fun hc => ?_)
    · have hne : L.map nmR ≠ [] := of_decide_eq_true hc
      refine ⟨_, rfl, _, rfl, pick_sat (pn.same se) (by omega) (.inl (.inl (se _ _ hD3))) nDp (by simpa using hne) (by rw [List.length_map, List.length_map]; omega) fun x H4 hx s4 pn4 => ?_⟩
      obtain ⟨n, hn, rfl⟩ := List.mem_map.mp hx
      have hnB : n ∈ B.map nmR := by rw [← eN]; exact hn
      obtain ⟨r, hr, e1⟩ := List.mem_map.mp hnB
      have sx4 := (same_x (D := p) se).trans s4
      have hB4 : H4 d2 = some (.dK (dN B)) := sx4 d2 _ (Ne.symm n2.1) hB
      have hD4 : H4 D = some (.lst ((L.map nmR).map V.str)) := sx4 D _ nDp hD3
      have nl4 : NL H3 H4 := by
        obtain ⟨lp, hlp⟩ := pn.at_
        exact nl_x hlp sx4
      have pB4 := nl4.prs pB
      obtain ⟨t, et, ht⟩ := pB4 r hr
      refine ⟨_, rfl, _, rfl, d2, r.1, rfl, dget (k := Sum.inr n) (.inl hB4) (by rw [← e1]; exact dN_get hndB hr), t, _, _, et, ht, fun u hu => ?_⟩
      have su := same_new (o := .tup [.str r.2.e2, .str r.2.e1]) hu
      have hBu := su _ _ hB4
      have lB : B.length = L.length := by have := congrArg List.length eN; simpa using this.symm
      refine ⟨_, rfl, _, rfl, d2, _, rfl, .k (k := Sum.inr n) hBu (by unfold dN; rw [List.length_map, sizeLine_eq]; omega), ?_⟩
      rw [turn_put hnB]
      have sd : SameX d2 (upd H4 u (.tup [.str r.2.e2, .str r.2.e1])) (upd (upd H4 u (.tup [.str r.2.e2, .str r.2.e1])) d2 (.dK (dN (B.map (turnR n (.ref u)))))) := sameX_upd
      have nu : u ≠ d2 := Ne.symm (ne_of_none hB4 hu)
      have hn2 : H d2 = none := hd2
      refine ⟨fun b o nb hb => ?_, ((pn4.same su).sx sd n2.1 n2.2).up (by omega), ?_, ⟨B.map (turnR n (.ref u)), upd_same, fun z hz => ?_, bent_turn bB⟩, _, _, rfl⟩
      · rw [upd_ne (ne_of_none hb hn2)]
        exact su _ _ (sx4 _ _ nb (sx _ _ nb hb))
      · rw [upd_ne (Ne.symm n2D)]; exact su _ _ hD4
      · obtain ⟨y, hy, rfl⟩ := List.mem_map.mp hz
        unfold turnR
        by_cases g : nmR y = n
        · rw [if_pos g]
          have : y = r := by
            have f1 := find_name B y hndB hy
            have f2 := find_name B r hndB hr
            rw [g] at f1
            rw [e1] at f2
            rw [f1] at f2
            exact Option.some.inj f2
          subst this
          exact ⟨u, rfl, .inl (.inl (by rw [upd_ne nu, upd_same]; rfl))⟩
        · rw [if_neg g]
          exact sxk_prs hBu sd (pB4.lx (lx su)) y hy
    · exact ⟨sx.trans (same_x se), (pn.same se).up (by omega), se _ _ hD3, ⟨B, se _ _ hB, pB.lx (lx se), bB⟩, _, _, rfl⟩
  obtain ⟨sx, pn, hD3, ⟨B, hB, pB, bB⟩, u5, u6, rfl⟩ := pv
  exact ⟨_, rfl, q d2 B H2 sx (pn.up (by omega)) hB pB bB⟩
end
end Tx
/-! ## DTri -/
namespace Tx
open PySem PySem.Spec PyProof.Rows L2
theorem triOf_len (B : List Row) (r : LRow) : (triOf B r).length ≤ 2 := by
  unfold triOf
  split
  · split <;> simp
  · split <;> simp
theorem triL_len (B : List Row) (rs : List LRow) : (triL B rs).length ≤ 2 * rs.length := by
  unfold triL
  induction rs with
  | nil => simp
  | cons r q ih =>
    rw [List.flatMap_cons, List.length_append, List.length_cons]
    have := triOf_len B r
    omega
section
variable {w : World} {K : PySem.W.Frag} {mg : Str → Option Value} {base : Heap} (T : Txt K mg)
def spTri (K : PySem.W.Frag) : Sp := fun vs H Q _ => ∃ D d vs' rs sp B, vs = [.ref D, .ref d] ∧ H D = some (.lst vs') ∧ IsRs K H vs' rs ∧ RowsG sp rs ∧ H d = some (.dK (dN B)) ∧ Prs K H B ∧ Bent (toldL rs) B ∧
  ∀ D' acc H', Same H H' → H' D' = some (.lst acc) → IsAs K H' acc (triL B rs) → Q (.ref D') H'
theorem sc__law_triples : FnScope ["_law_rows", "_law_told_here", "_law_found", "_law_kind", "_law_title", "_law_first", "_law_last", "_law_ahead", "_law_behind"] ["_law_rows", "_law_told_here"] (defScope (top 92)) := ⟨rfl, rfl, rfl, by decide +kernel, rfl, by decide +kernel, by decide +kernel⟩
include T in
theorem ok__law_triples : Fn w K mg base 1 (He.ga K "_law_triples") (spTri K) := by
  refine funR T.f__law_triples sc__law_triples (fun _ _ _ _ _ _ us hl => match us, hl with | [_, _], _ => rfl) (fun vs H Q E h => ?_) (fun cdv A outer s H vs Q E hr h => ?_)
  · obtain ⟨D, d, vs', rs, sp, B, rfl, _⟩ := h; rfl
  obtain ⟨D, d, vs, rs, sp, B, rfl, hD, irs, rg, hd, hprs, bB, q⟩ := h
  have nd := sc__law_triples.nd
  refine ⟨_, pss_cons (ps_set (i := 2) nd rfl (Or.inl rfl) (pe_lst pa_nil))
    (pss_cons (ps_for PassesOwn.never rfl (pi_list (pv 0)) (pg_tup rfl (pgs_cons (pg_name (i := 3) nd rfl (Or.inl rfl)) (pgs_cons (pg_name (i := 4) nd rfl (Or.inl rfl)) (pgs_cons (pg_name (i := 5) nd rfl (Or.inl rfl)) (pgs_cons (pg_name (i := 6) nd rfl (Or.inl rfl)) (pgs_cons (pg_name (i := 7) nd rfl (Or.inl rfl)) (pgs_cons (pg_name (i := 8) nd rfl (Or.inl rfl)) pgs_nil)))))))
      (pss_cons (ps_if (pt_cmpR op_eq (pv 3) pe_str (nomark _))
        (pss_one (ps_expr (pe_bm F.plainAttrs_list F.slot_list_append F.type_list_append mt_append (pv 2) (pa_cons (pe_tup (pa_cons (pv 4) (pa_cons (pe_ix ix_tup (pe_dget (hu1 hr) (pv 1) (pv 4) (fun _ _ => rfl)) pe_int (fun _ _ => rfl)) (pa_cons (pe_ix ix_tup (pe_dget (hu1 hr) (pv 1) (pv 4) (fun _ _ => rfl)) pe_int (fun _ _ => rfl)) pa_nil)))) pa_nil))))
        (pss_one (ps_expr (pe_bm F.plainAttrs_list F.slot_list_append F.type_list_append mt_append (pv 2) (pa_cons (pe_tup (pa_cons (pv 4) (pa_cons (pv 5) (pa_cons (pv 6) pa_nil)))) pa_nil)))))
      (pss_one (ps_if (pt_cmpR op_eq (pv 3) pe_str (nomark _))
        (pss_one (ps_expr (pe_bm F.plainAttrs_list F.slot_list_append F.type_list_append mt_append (pv 2) (pa_cons (pe_tup (pa_cons (pv 4) (pa_cons (pv 6) (pa_cons (pv 5) pa_nil)))) pa_nil)))) pss_nil))))
    (pss_one (ps_ret (pv 2)))), ?_⟩
  refine ⟨by decide, fun D2 hD2 => ?_⟩
  have s1 := same_new (o := .lst []) hD2
  have n2 : D ≠ D2 := ne_of_none hD hD2
  have lv := irs.len
  have hfew := rg.few
  have nlx : ∀ {H'}, SameX D2 (upd H D2 (.lst [])) H' → NL (upd H D2 (.lst [])) H' := fun {H'} s => nl_x upd_same s
  have bnd := bB.nd rg.nd
  refine ⟨_, rfl, D, rfl, ⟨_, .inl (.inl (s1 _ _ hD))⟩, ?_⟩
  refine for_any (n := vs.length) (fun i σ H' => SameX D2 (upd H D2 (.lst [])) H' ∧ (∃ acc, H' D2 = some (.lst acc) ∧ IsAs K H' acc (triL B (rs.take i))) ∧ ∃ u3 u4 u5 u6 u7 u8, σ = [some (.ref D), some (.ref d), some (.ref D2), u3, u4, u5, u6, u7, u8])
    ⟨fun _ _ _ h => h, ⟨[], upd_same, trivial⟩, _, _, _, _, _, _, rfl⟩ (fun i σ H' hi pv => ⟨vs, vs[i], .inl (.inl (pv.1 _ _ n2 (s1 _ _ hD))), List.getElem?_eq_getElem hi⟩) (fun σ H' pv => ⟨vs, .inl (.inl (pv.1 _ _ n2 (s1 _ _ hD))), Nat.le_refl _⟩) (fun i x σ H2 H3 hi pv y => ?_) (fun σ H2 pv => ?_)
  · obtain ⟨sx, ⟨acc, hA, ia⟩, u3, u4, u5, u6, u7, u8, rfl⟩ := pv
    obtain ⟨rfl, hx⟩ := y
    have hx := hx vs (.inl (.inl (sx _ _ n2 (s1 _ _ hD))))
    have nl := (nl_same s1).trans (nlx sx)
    obtain ⟨r, hr2, t, rfl, ht⟩ := (irs.nl nl).get hx
    have hrm : r ∈ rs := List.mem_of_getElem? hr2
    have tk : triL B (rs.take (i + 1)) = triL B (rs.take i) ++ triOf B r := by
      unfold triL
      rw [List.take_succ, hr2, List.flatMap_append]
      simp
    have alen : acc.length ≤ 28 := by
      have := ia.len
      have := triL_len B (rs.take i)
      rw [List.length_take] at this
      omega
    have hz : acc.length < sizeLine := by rw [sizeLine_eq]; omega
    refine ⟨t, r.vs, rfl, ht, rfl, _, _, rfl, _, _, rfl, _, _, rfl, _, _, rfl, _, _, rfl, _, _, rfl, rfl, ?_⟩
    refine ⟨_, rfl, rfl, _, rfl, ite_both (fun hc => ?_) (fun hc => ?_)⟩
    · have hc : r.kd = "road" := by have := of_decide_eq_true hc; injection this
      have hdk : H3 d = some (.dK (dN B)) := nl _ _ (fun l z => by cases z) hd
      obtain ⟨x, hx2, so, e⟩ : ∃ x ∈ B, signOf B r.nm = some x ∧ nmR x = r.nm := by
        have h1 : r.nm ∈ B.map nmR := by
          rw [bB.nm, told_names]
          exact List.mem_map_of_mem (f := fun r : LRow => r.nm) (List.mem_filter.mpr ⟨hrm, decide_eq_true hc⟩)
        obtain ⟨x, hx2, e⟩ := List.mem_map.mp h1
        refine ⟨x, hx2, ?_, e⟩
        have := find_name B x bnd hx2
        rw [e] at this
        exact this
      have tr : triOf B r = [(r.nm, x.2.e1, x.2.e2)] := by
        unfold triOf
        rw [if_pos hc, so]
      obtain ⟨t2, et, ht2⟩ := nl.prs hprs x hx2
      have dg : DGet H3 d (kV (Sum.inr r.nm)) (some x.1) := dget (.inl hdk) (by rw [← e]; exact dN_get bnd hx2)
      rw [et] at dg
      refine ⟨_, rfl, .inl ⟨rfl, _, .inl (.inl hA)⟩, _, rfl, _, rfl, _, rfl, d, .ref t2, rfl, dg, t2, _, 0, _, rfl, rfl, ht2, atI_nat (j := 0) rfl, _, rfl, _, rfl, d, .ref t2, rfl, dg, t2, _, 1, _, rfl, rfl, ht2, atI_nat (j := 1) rfl, by show 3 ≤ sizeLine; decide, fun p hp => ?_⟩
      obtain ⟨g1, g2, g3, g4, g5⟩ := app_arc (a := (r.nm, x.2.e1, x.2.e2)) sx hA ia hp
      refine ⟨D2, acc, _, rfl, rfl, g2, hz, ?_⟩
      refine ⟨_, rfl, rfl, _, rfl, ?_⟩
      rw [decide_eq_false (fun z => by injection z with z; rw [hc] at z; exact road_av z)]
      exact iteF ⟨g3, ⟨_, g4, by rw [tk, tr]; exact g5⟩, _, _, _, _, _, _, rfl⟩
    · have hc : r.kd ≠ "road" := fun z => by rw [decide_eq_true (by rw [z])] at hc; cases hc
      refine ⟨_, rfl, .inl ⟨rfl, _, .inl (.inl hA)⟩, _, rfl, _, rfl, _, rfl, by show 3 ≤ sizeLine; decide, fun p hp => ?_⟩
      obtain ⟨g1, g2, g3, g4, g5⟩ := app_arc (a := (r.nm, r.a, r.b)) sx hA ia hp
      refine ⟨D2, acc, _, rfl, rfl, g2, hz, ?_⟩
      refine ⟨_, rfl, rfl, _, rfl, ite_both (fun he => ?_) (fun he => ?_)⟩
      · have he : r.kd = "avenue" := by have := of_decide_eq_true he; injection this
        have tr : triOf B r = [(r.nm, r.a, r.b), (r.nm, r.b, r.a)] := by
          unfold triOf
          rw [if_neg hc, if_pos he]
        refine ⟨_, rfl, .inl ⟨rfl, _, .inl (.inl g4)⟩, _, rfl, _, rfl, _, rfl, by show 3 ≤ sizeLine; decide, fun p2 hp2 => ?_⟩
        obtain ⟨k1, k2, k3, k4, k5⟩ := app_arc (a := (r.nm, r.b, r.a)) g3 g4 g5 hp2
        refine ⟨D2, _, _, rfl, rfl, k2, by rw [List.length_append, List.length_singleton, sizeLine_eq]; omega, k3, ⟨_, k4, ?_⟩, _, _, _, _, _, _, rfl⟩
        have e3 : triL B (rs.take i) ++ [(r.nm, r.a, r.b), (r.nm, r.b, r.a)] = triL B (rs.take i) ++ [(r.nm, r.a, r.b)] ++ [(r.nm, r.b, r.a)] := by
          rw [List.append_assoc]; rfl
        rw [tk, tr, e3]
        exact k5
      · have he : r.kd ≠ "avenue" := fun z => by rw [decide_eq_true (by rw [z])] at he; cases he
        have tr : triOf B r = [(r.nm, r.a, r.b)] := by
          unfold triOf
          rw [if_neg hc, if_neg he]
        exact ⟨g3, ⟨_, g4, by rw [tk, tr]; exact g5⟩, _, _, _, _, _, _, rfl⟩
  obtain ⟨sx, ⟨acc, hA, ia⟩, u3, u4, u5, u6, u7, u8, rfl⟩ := pv
  rw [List.take_of_length_le (by omega)] at ia
  exact ⟨_, rfl, q D2 acc H2 (fun a o e => sx a o (ne_of_none e hD2) (s1 a o e)) hA ia⟩
end
end Tx
/-! ## DSpots -/
namespace Tx
open PySem PySem.Spec PyProof.Rows L2
section
variable {w : World} {K : PySem.W.Frag} {mg : Str → Option Value} {base : Heap} (T : Txt K mg)
/-- [f(row) for row in rows] -/
theorem lc_rows {te : TE} {i : Nat} {σ : L2.St} {H1 : Hp} {D Dr : Addr} {Qd : Hp → Prop} {vs : List V} {rs : List LRow} (f : LRow → Str) (hD : H1 D = none) (hv : H1 Dr = some (.lst vs)) (irs : IsRs K H1 vs rs) (hl : rs.length ≤ 1000)
    (hs : ∀ (r : LRow) (t : Addr) H (K2 : VK), r ∈ rs → SqT K H t r.vs → K2 (.str (f r)) H → gName i (.ref t) (wipe σ [i]) H fun σ2 H2 => wipe σ2 [i] = wipe σ [i] ∧ te σ2 H2 K2)
    (hd : ∀ H, Same H1 H → H D = some (.lst ((rs.map f).map V.str)) → Qd H) : LcR (Itl K Dr) (gName i) tYes te [i] σ H1 D Qd := by
  have hq : SqL K H1 Dr vs := .inl (.inl hv)
  have hlen := irs.len
  refine lc_val (n := vs.length) (fun j => .str ((rs.map f).getD j Str.empty)) hD (by omega) (fun j H hj s => itl_go hq hj s) (fun H s => itl_st hq s) (fun j x H H' K2 hj s y k2 => ?_) (fun H s e => hd H s ?_) mg_name
  · obtain ⟨rfl, hx⟩ := itl_y hq s y
    obtain ⟨r, hr, t, rfl, ht⟩ := (irs.nl (nl_same s)).get hx
    refine hs r t H' K2 (List.mem_of_getElem? hr) ht ?_
    have := k2 H' (Same.refl _)
    rw [List.getD_eq_getElem?_getD, List.getElem?_map, hr] at this
    exact this
  · rw [e]
    congr 2
    apply List.ext_getElem (by simp [hlen])
    intro j h1 h2
    simp only [List.getElem_map, List.getElem_range, List.getD_eq_getElem?_getD]
    rw [List.getElem?_eq_getElem (by simp at h2 ⊢; exact h2)]
    simp
def spSpots (K : PySem.W.Frag) : Sp := fun vs H Q _ => ∃ D vs' rs sp, vs = [.ref D] ∧ H D = some (.lst vs') ∧ IsRs K H vs' rs ∧ RowsG sp rs ∧
  ∀ D' ys H', Same H H' → H' D' = some (.lst (ys.map V.str)) → Wd (rs.map (fun r => r.a) ++ rs.map fun r => r.b) ys → Q (.ref D') H'
theorem sc__law_spots : FnScope ["_law_rows", "_law_ends", "_law_row", "_law_end"] ["_law_rows"] (defScope (top 93)) := ⟨rfl, rfl, rfl, by decide +kernel, rfl, by decide +kernel, by decide +kernel⟩
include T in
theorem ok__law_spots : Fn w K mg base 1 (He.ga K "_law_spots") (spSpots K) := by
  refine funR T.f__law_spots sc__law_spots (fun _ _ _ _ _ _ us hl => match us, hl with | [_], _ => rfl) (fun vs H Q E h => ?_) (fun cdv A outer s H vs Q E hr h => ?_)
  · obtain ⟨D, vs', rs, sp, rfl, _⟩ := h; rfl
  obtain ⟨D, vs, rs, sp, rfl, hD, irs, rg, q⟩ := h
  have nd := sc__law_spots.nd
  refine ⟨_, pss_cons (ps_set (i := 1) nd rfl (Or.inl rfl) (pe_op op_cat
      (pe_lc (own := [("_law_row", 2)]) (g := gName 2) (tt := tYes) rfl nd (pi_list (pv 0)) (blkOk_by (N := ["_law_rows", "_law_ends", "_law_row", "_law_end"]) (sc := defScope (top 93)) (by decide +kernel)) (fun _ _ _ _ _ => pg_name (i := 2) nd rfl (Or.inl rfl)) (fun _ _ _ _ _ => pts_nil) (fun _ _ _ _ _ => pe_ix (ixB_tup K) (pv 2) pe_int (fun _ _ => rfl)))
      (pe_lc (own := [("_law_row", 2)]) (g := gName 2) (tt := tYes) rfl nd (pi_list (pv 0)) (blkOk_by (N := ["_law_rows", "_law_ends", "_law_row", "_law_end"]) (sc := defScope (top 93)) (by decide +kernel)) (fun _ _ _ _ _ => pg_name (i := 2) nd rfl (Or.inl rfl)) (fun _ _ _ _ _ => pts_nil) (fun _ _ _ _ _ => pe_ix (ixB_tup K) (pv 2) pe_int (fun _ _ => rfl)))))
    (pss_one (ps_ret (p_b1 (STx.cr_sortedTx rfl) bt_sorted T.n_sorted (p_t1 (STx.cr_setTx rfl) bt_set T.n_set (pe_lc (own := [("_law_end", 3)]) (g := gName 3) (tt := tYes) rfl nd (pi_list (pv 1)) (blkOk_by (N := ["_law_rows", "_law_ends", "_law_row", "_law_end"]) (sc := defScope (top 93)) (by decide +kernel)) (fun _ _ _ _ _ => pg_name (i := 3) nd rfl (Or.inl rfl)) (fun _ _ _ _ _ => pts_nil)
      (fun _ _ _ _ _ => p_t1 SkE.call_str_str bt_str T.n_str (pv 3))))))), ?_⟩
  have lv := irs.len
  have hfew := rg.few
  refine ⟨_, rfl, D, rfl, ⟨_, .inl (.inl hD)⟩, fun D1 hD1 => ?_⟩
  refine lc_rows (fun r => r.a) hD1 hD irs (by omega) (fun r t H2 K2 hr2 ht k2 => ⟨rfl, _, rfl, t, _, 2, _, rfl, rfl, ht, atI_nat (j := 2) rfl, k2⟩) (fun H2 s2 e2 => ?_)
  refine ⟨_, rfl, D, rfl, ⟨_, .inl (.inl (s2 _ _ hD))⟩, fun D3 hD3 => ?_⟩
  refine lc_rows (fun r => r.b) hD3 (s2 _ _ hD) (irs.nl (nl_same s2)) (by omega) (fun r t H3 K3 hr3 ht k3 => ⟨rfl, _, rfl, t, _, 3, _, rfl, rfl, ht, atI_nat (j := 3) rfl, k3⟩) (fun H4 s4 e4 => ?_)
  refine ⟨D1, D3, _, _, rfl, rfl, s4 _ _ e2, e4, by simp only [List.length_map, sizeLine_eq]; omega, fun D5 hD5 => ?_⟩
  have e5 : (rs.map fun r => r.a).map V.str ++ (rs.map fun r => r.b).map V.str = (rs.map (fun r => r.a) ++ rs.map fun r => r.b).map V.str := by rw [List.map_append]
  have lcs : (rs.map (fun r => r.a) ++ rs.map fun r => r.b).length ≤ 28 := by rw [List.length_append, List.length_map, List.length_map]; omega
  generalize hcs : (rs.map (fun r => r.a) ++ rs.map fun r => r.b) = cs at q e5 lcs
  rw [e5]
  have s5 := (s2.trans s4).trans (same_new (o := .lst (cs.map V.str)) hD5)
  have h5 : SqL K (upd H4 D5 (.lst (cs.map V.str))) D5 (cs.map V.str) := .inl (.inl upd_same)
  refine ⟨_, rfl, D5, rfl, ⟨_, h5⟩, fun D6 hD6 => ?_⟩
  refine lc_mapV (overL (f := V.str) h5) hD6 (by omega) V.str (fun e H6 K2 he s6 k2 => ⟨rfl, _, rfl, ⟨⟨e, rfl, k2 _ (Same.refl _)⟩⟩⟩) (fun H6 s6 e6 => ?_)
  refine ⟨⟨D6, cs, rfl, .inl (.inl e6), by unfold scanBound; omega, fun a ls ha nd2 mem ll => ?_⟩⟩
  refine ⟨⟨a, ls, rfl, upd_same, by omega, fun ys b pm so hb => ?_⟩⟩
  refine q b ys _ (((s5.trans s6).trans (same_new ha)).trans (same_new hb)) upd_same ⟨so, pm.nodup_iff.mpr nd2, fun k => (pm.mem_iff).trans (mem k)⟩
end
end Tx
/-! ## DGroups -/
namespace Tx
open PySem PySem.Spec PyProof.Rows L2
/-- the value is a tuple of texts -/
def IsG (K : PySem.W.Frag) (H : Hp) (v : V) (g : List Str) : Prop := ∃ t, v = .ref t ∧ SqT K H t (g.map V.str)
def IsGs (K : PySem.W.Frag) (H : Hp) : List V → List (List Str) → Prop
  | [], [] => True
  | v :: vs, a :: as => IsG K H v a ∧ IsGs K H vs as
  | _, _ => False
section
variable {K : PySem.W.Frag} {H H' : Hp}
theorem IsG.nl (s : NL H H') {v : V} {g : List Str} (h : IsG K H v g) : IsG K H' v g := by
  obtain ⟨t, e, h1⟩ := h
  exact ⟨t, e, s.sqT h1⟩
theorem IsGs.nl (s : NL H H') : ∀ {vs : List V} {as : List (List Str)}, IsGs K H vs as → IsGs K H' vs as
  | [], [], h => h
  | v :: vs, a :: as, h => ⟨h.1.nl s, IsGs.nl s h.2⟩
  | [], _ :: _, h => h.elim
  | _ :: _, [], h => h.elim
theorem IsGs.append : ∀ {vs : List V} {as : List (List Str)} {ws : List V} {bs : List (List Str)}, IsGs K H vs as → IsGs K H ws bs → IsGs K H (vs ++ ws) (as ++ bs)
  | [], [], _, _, _, h => h
  | v :: vs, a :: as, _, _, h, g => ⟨h.1, IsGs.append h.2 g⟩
  | [], _ :: _, _, _, h, _ => h.elim
  | _ :: _, [], _, _, h, _ => h.elim
theorem IsGs.len : ∀ {vs : List V} {as : List (List Str)}, IsGs K H vs as → vs.length = as.length
  | [], [], _ => rfl
  | v :: vs, a :: as, h => by rw [List.length_cons, List.length_cons, IsGs.len h.2]
  | [], _ :: _, h => h.elim
  | _ :: _, [], h => h.elim
theorem IsGs.get : ∀ {vs : List V} {as : List (List Str)} {i : Nat} {v : V}, IsGs K H vs as → vs[i]? = some v → ∃ a, as[i]? = some a ∧ IsG K H v a
  | v :: vs, a :: as, 0, x, h, e => by
    simp at e
    subst e
    exact ⟨a, rfl, h.1⟩
  | v :: vs, a :: as, i + 1, x, h, e => IsGs.get (i := i) h.2 (by simpa using e)
  | [], [], _, _, _, e => by simp at e
  | [], _ :: _, _, _, h, _ => h.elim
  | _ :: _, [], _, _, h, _ => h.elim
end
theorem subs_len : ∀ l : List Str, (PlG.subsL l).length = 2 ^ l.length
  | [] => rfl
  | a :: r => by
    unfold PlG.subsL
    rw [List.length_append, List.length_map, subs_len r, List.length_cons, Nat.pow_succ]
    omega
theorem subs_in : ∀ {l g : List Str}, g ∈ PlG.subsL l → g.length ≤ l.length
  | [], g, h => by
    have : g = [] := by simpa [PlG.subsL] using h
    rw [this]; exact Nat.zero_le _
  | a :: r, g, h => by
    unfold PlG.subsL at h
    rcases List.mem_append.mp h with h | h
    · obtain ⟨d, hd, rfl⟩ := List.mem_map.mp h
      have := subs_in hd
      simp only [List.length_cons]
      omega
    · have := subs_in h
      simp only [List.length_cons]
      omega
theorem fm_some_id {α β : Type} (l : List α) (f : α → β) : l.filterMap (fun x => some (f x)) = l.map f := by
  show l.filterMap (some ∘ f) = l.map f
  rw [List.filterMap_eq_map]
theorem fm_if : ∀ (l : List (List Str)) (m : Nat), l.filterMap (fun g => if g.length = m then some g else none) = l.filter fun g => decide (g.length = m)
  | [], _ => rfl
  | g :: r, m => by
    by_cases h : g.length = m
    · rw [List.filterMap_cons_some (b := g) (by rw [if_pos h]), List.filter_cons_of_pos (by simpa using h), fm_if r m]
    · rw [List.filterMap_cons_none (by rw [if_neg h]), List.filter_cons_of_neg (by simpa using h), fm_if r m]
section
variable {X : Cx} (K : PySem.W.Frag)
theorem opCatTB (hK : X.K = K := by rfl) : OpR X (binaryOp .Add) (rCatT K) := by
  subst hK
  exact op_catT
end
section
variable {w : World} {K : PySem.W.Frag} {mg : Str → Option Value} {base : Heap} (T : Txt K mg)
/-- [.. for group in found ..], over groups -/
theorem lc_groups {tt : TT} {te : TE} {i : Nat} {σ : L2.St} {H1 : Hp} {D Df : Addr} {Qd : Hp → Prop} {vs : List V} {gs : List (List Str)} (F : List Str → Option (List Str)) (hD : H1 D = none) (hv : H1 Df = some (.lst vs)) (igs : IsGs K H1 vs gs) (hl : gs.length ≤ 1000)
    (hs : ∀ (g : List Str) (t : Addr) H (K1 : Hp → Prop) (K2 : VK), g ∈ gs → Same H1 H → SqT K H t (g.map V.str) → (∀ v g' H4, F g = some g' → Same H H4 → IsG K H4 v g' → K2 v H4) → (F g = none → K1 H) →
      gName i (.ref t) (wipe σ [i]) H fun σ2 H2 => wipe σ2 [i] = wipe σ [i] ∧ tt σ2 H2 fun b H3 => if b = true then te σ2 H3 K2 else K1 H3)
    (hd : ∀ H acc, Same H1 H → H D = some (.lst acc) → IsGs K H acc (gs.filterMap F) → Qd H) : LcR (Itl K Df) (gName i) tt te [i] σ H1 D Qd := by
  have hq : SqL K H1 Df vs := .inl (.inl hv)
  have hlen := igs.len
  refine lc_gen (n := vs.length) (fun j acc H => IsGs K H acc ((gs.take j).filterMap F)) hD (by omega) trivial (fun j acc l H H' e s h => h.nl (nl_x e s)) (fun j H hj s => itl_go hq hj s) (fun H s => itl_st hq s) (fun j acc x H H' K1 K2 hj s hP y k2 k1 => ?_) (fun H acc s e hP => hd H acc s e (by rw [List.take_of_length_le (by omega)] at hP; exact hP))
  obtain ⟨rfl, hx⟩ := itl_y hq s y
  obtain ⟨g, hg, t, rfl, ht⟩ := (igs.nl (nl_same s)).get hx
  have tk : gs.take (j + 1) = gs.take j ++ [g] := by rw [List.take_succ, hg]; rfl
  rw [tk, List.filterMap_append] at k2 k1
  refine hs g t H' K1 K2 (List.mem_of_getElem? hg) s ht (fun v g' H4 e s4 ig => k2 v H4 s4 ?_) (fun e => k1 H' (Same.refl _) ?_)
  · rw [List.filterMap_cons_some e, List.filterMap_nil]
    exact (hP.nl (nl_same s4)).append ⟨ig, trivial⟩
  · rw [List.filterMap_cons_none e, List.filterMap_nil, List.append_nil]
    exact hP
def spGroups (K : PySem.W.Frag) : Sp := fun vs H Q _ => ∃ D ys, vs = [.ref D] ∧ H D = some (.lst (ys.map V.str)) ∧ ys.length ≤ 5 ∧
  ∀ D' acc H', Same H H' → H' D' = some (.lst acc) → IsGs K H' acc (wardsL ys) → Q (.ref D') H'
theorem sc__law_groups : FnScope ["_law_spots_here", "_law_found", "_law_ordered", "_law_spot", "_law_size", "_law_group"] ["_law_spots_here"] (defScope (top 94)) := ⟨rfl, rfl, rfl, by decide +kernel, rfl, by decide +kernel, by decide +kernel⟩
include T in
theorem ok__law_groups : Fn w K mg base 1 (He.ga K "_law_groups") (spGroups K) := by
  refine funR T.f__law_groups sc__law_groups (fun _ _ _ _ _ _ us hl => match us, hl with | [_], _ => rfl) (fun vs H Q E h => ?_) (fun cdv A outer s H vs Q E hr h => ?_)
  · obtain ⟨D, ys, rfl, _⟩ := h; rfl
  obtain ⟨D, ys, rfl, hD, hfew, q⟩ := h
  have nd := sc__law_groups.nd
  refine ⟨_, pss_cons (ps_par (i := 1) (j := 2) rfl nd rfl rfl (by decide) rfl rfl (pa_cons (pe_lst (pa_cons (pe_tup pa_nil) pa_nil)) (pa_cons (pe_lst pa_nil) pa_nil)) (by rfl))
    (pss_cons (ps_for PassesOwn.never rfl (pi_list (pe_revL (pv 0))) (pg_name (i := 3) nd rfl (Or.inr rfl))
      (pss_one (ps_set (i := 1) nd rfl (Or.inl rfl) (pe_op op_cat (pe_lc (own := [("_law_group", 5)]) (g := gName 5) (tt := tYes) rfl nd (pi_list (pv 1)) (blkOk_by (N := ["_law_spots_here", "_law_found", "_law_ordered", "_law_spot", "_law_size", "_law_group"]) (sc := defScope (top 94)) (by decide +kernel)) (fun _ _ _ _ _ => pg_name (i := 5) nd rfl (Or.inl rfl)) (fun _ _ _ _ _ => pts_nil)
        (fun _ _ _ _ _ => pe_op (opCatTB K) (pe_tup (pa_cons (pv 3) pa_nil)) (pv 5))) (pv 1)))))
    (pss_cons (ps_for PassesOwn.never rfl (pi_range2 (by rfl) T.n_range (pa_cons pe_int (pa_cons (p_b1 call_len_seq bt_len T.n_len (pv 0)) pa_nil))) (pg_name (i := 4) nd rfl (Or.inr rfl))
      (pss_one (ps_set (i := 2) nd rfl (Or.inl rfl) (pe_op op_cat (pv 2) (pe_lc (own := [("_law_group", 5)]) (g := gName 5) rfl nd (pi_list (pv 1)) (blkOk_by (N := ["_law_spots_here", "_law_found", "_law_ordered", "_law_spot", "_law_size", "_law_group"]) (sc := defScope (top 94)) (by decide +kernel)) (fun _ _ _ _ _ => pg_name (i := 5) nd rfl (Or.inl rfl)) (fun _ _ _ _ _ => pts_one (pt_cmpR op_eq (p_b1 (lenB K) bt_len T.n_len (pv 5)) (pv 4) (by rfl)))
        (fun _ _ _ _ _ => pv 5))))))
    (pss_one (ps_ret (pv 2))))), ?_⟩
  refine ⟨by decide, fun t0 ht0 => ⟨by show 1 ≤ sizeLine; decide, fun F0 hF0 => ⟨by decide, fun O0 hO0 => ⟨_, _, rfl, ?_⟩⟩⟩⟩
  have s1 := same_new (o := .tup []) ht0
  have s2 := s1.trans (same_new (o := .lst [V.ref t0]) hF0)
  have s3 := s2.trans (same_new (o := .lst []) hO0)
  have hO : (upd (upd (upd H t0 (.tup [])) F0 (.lst [V.ref t0])) O0 (.lst [])) O0 = some (.lst []) := upd_same
  have hF : (upd (upd (upd H t0 (.tup [])) F0 (.lst [V.ref t0])) O0 (.lst [])) F0 = some (.lst [V.ref t0]) := same_new hO0 _ _ upd_same
  have hT : (upd (upd (upd H t0 (.tup [])) F0 (.lst [V.ref t0])) O0 (.lst [])) t0 = some (.tup []) := same_new hO0 _ _ (same_new hF0 _ _ upd_same)
  generalize (upd (upd (upd H t0 (.tup [])) F0 (.lst [V.ref t0])) O0 (.lst [])) = H1 at s3 hO hF hT
  refine ⟨_, rfl, D, _, rfl, .inl (.inl (s3 _ _ hD)), fun R hR => ⟨R, rfl, ⟨_, .inl (.inl upd_same)⟩, ?_⟩⟩
  have s4 := same_new (o := .lst (ys.map V.str).reverse) hR
  have eR : (ys.map V.str).reverse = ys.reverse.map V.str := List.map_reverse.symm
  have hR1 : (upd H1 R (.lst (ys.map V.str).reverse)) R = some (.lst (ys.reverse.map V.str)) := by rw [upd_same, eR]
  have p5 : ∀ n, n ≤ 5 → 2 ^ n ≤ 32 := fun n hn => Nat.le_trans (Nat.pow_le_pow_right (by decide) hn) (by decide)
  refine for_any (n := ys.length) (fun i σ H' => Same H H' ∧ H' R = some (.lst (ys.reverse.map V.str)) ∧ H' O0 = some (.lst []) ∧ ∃ f fv, H' f = some (.lst fv) ∧ IsGs K H' fv (PlG.subsL (ys.reverse.take i).reverse) ∧ ∃ u3 u4 u5, σ = [some (.ref D), some (.ref f), some (.ref O0), u3, u4, u5])
    ⟨s3.trans s4, hR1, s4 _ _ hO, F0, [V.ref t0], s4 _ _ hF, ⟨⟨t0, rfl, .inl (.inl (s4 _ _ hT))⟩, trivial⟩, _, _, _, rfl⟩ (fun i σ H' hi pv => ⟨_, V.str (ys.reverse[i]'(by simpa using hi)), .inl (.inl pv.2.1), by rw [List.getElem?_map, List.getElem?_eq_getElem]; rfl⟩) (fun σ H' pv => ⟨_, .inl (.inl pv.2.1), by simp⟩) (fun i x σ H2 H3 hi pv y => ?_) (fun σ H2 pv => ?_)
  · obtain ⟨sx, hR3, hO3, f, fv, hf, igs, u3, u4, u5, rfl⟩ := pv
    obtain ⟨rfl, hx⟩ := y
    have hx := hx _ (.inl (.inl hR3))
    rw [List.getElem?_map] at hx
    obtain ⟨z, hz, rfl⟩ := Option.map_eq_some_iff.mp hx
    have gl := igs.len
    have sl := subs_len (ys.reverse.take i).reverse
    have li : (ys.reverse.take i).reverse.length ≤ 5 := by simp only [List.length_reverse, List.length_take]; omega
    have := p5 _ li
    have tk : (ys.reverse.take (i + 1)).reverse = z :: (ys.reverse.take i).reverse := by
      rw [List.take_succ, hz, List.reverse_append]; rfl
    refine ⟨_, rfl, f, rfl, ⟨_, .inl (.inl hf)⟩, fun D2 hD2 => ?_⟩
    refine lc_groups (fun g => some (z :: g)) hD2 hf igs (by omega) (fun g t H4 K1 K2 hg s4 ht k2 k1 => ⟨rfl, t_yes ⟨_, rfl, by show 1 ≤ sizeLine; decide, fun u hu => ?_⟩⟩) (fun H4 acc s4 e4 ia => ?_)
    · have su := same_new (o := .tup [.str z]) hu
      have gl5 : g.length ≤ 5 := Nat.le_trans (subs_in hg) li
      refine ⟨_, rfl, u, t, [.str z], g.map V.str, rfl, rfl, .inl (.inl upd_same), lx_t (lx su) ht, by simp, by rw [List.length_map, sizeLine_eq]; simp; omega, fun hn => k2 _ _ _ rfl su ⟨u, rfl, .inl (.inl ?_)⟩, fun hn p hp => k2 _ _ _ rfl (su.trans (same_new hp)) ⟨p, rfl, .inl (.inl ?_)⟩⟩
      · have : g = [] := by simpa using hn
        rw [this]; exact upd_same
      · rw [upd_same]; rfl
    · have gl4 := ia.len
      rw [fm_some_id] at ia gl4
      rw [List.length_map] at gl4
      refine ⟨_, rfl, D2, f, _, _, rfl, rfl, e4, s4 _ _ hf, by rw [sizeLine_eq]; omega, fun p hp => ?_⟩
      have sp := same_new (o := .lst (acc ++ fv)) hp
      refine ⟨(sx.trans s4).trans sp, sp _ _ (s4 _ _ hR3), sp _ _ (s4 _ _ hO3), p, acc ++ fv, upd_same, ?_, _, _, _, rfl⟩
      rw [tk]
      exact ((ia.nl (nl_same sp)).append (igs.nl (nl_same (s4.trans sp))))
  obtain ⟨sx, hR3, hO3, f, fv, hf, igs, u3, u4, u5, rfl⟩ := pv
  have ey : (ys.reverse.take ys.length).reverse = ys := by rw [List.take_of_length_le (by simp), List.reverse_reverse]
  rw [ey] at igs
  have gl := igs.len
  have sl := subs_len ys
  have := p5 _ hfew
  refine ⟨_, rfl, ⟨⟨D, _, rfl, .inl (.inl (.inl (sx _ _ hD))), 1, (ys.length : Nat), by rw [List.length_map], ⟨by omega, by omega, by omega, by omega⟩, ?_⟩⟩⟩
  refine for_any (n := ys.length - 1) (fun i σ H' => Same H H' ∧ H' f = some (.lst fv) ∧ IsGs K H' fv (PlG.subsL ys) ∧ ∃ o ov, H' o = some (.lst ov) ∧ ov.length ≤ 32 * i ∧ IsGs K H' ov ((List.range i).flatMap fun j => combs (j + 1) ys) ∧ ∃ u3 u4 u5, σ = [some (.ref D), some (.ref f), some (.ref o), u3, u4, u5])
    ⟨sx, hf, igs, O0, [], hO3, by simp, trivial, _, _, _, rfl⟩ (fun i σ H' hi pv => by show i < _; omega) (fun σ H' pv => by show _ ≤ _; omega) (fun i x σ H4 H5 hi pv y => ?_) (fun σ H4 pv => ?_)
  · obtain ⟨sx, hf, igs, o, ov, ho, hol, iov, u3, u4, u5, rfl⟩ := pv
    obtain ⟨rfl, rfl⟩ := y
    refine ⟨_, rfl, _, rfl, f, rfl, ⟨_, .inl (.inl hf)⟩, fun D2 hD2 => ?_⟩
    refine lc_groups (fun g => if g.length = i + 1 then some g else none) hD2 hf igs (by omega) (fun g t H6 K1 K2 hg s6 ht k2 k1 => ⟨rfl, _, rfl, ⟨⟨t, _, rfl, .inr ht, _, rfl, rfl, _, rfl, ?_⟩⟩⟩) (fun H6 acc s6 e6 ia => ?_)
    · by_cases e : g.length = i + 1
      · rw [decide_eq_true (by rw [List.length_map, e]; congr 1; omega)]
        exact iteT ⟨_, rfl, k2 _ _ _ (if_pos e) (Same.refl _) ⟨t, rfl, ht⟩⟩
      · rw [decide_eq_false (by rw [List.length_map]; intro z; injection z with z; omega)]
        exact iteF (k1 (if_neg e))
    · have ef : (PlG.subsL ys).filterMap (fun g => if g.length = i + 1 then some g else none) = combs (i + 1) ys := by
        rw [← subs_filter, fm_if]
      rw [ef] at ia
      have gl6 := ia.len
      have cl : (combs (i + 1) ys).length ≤ 32 := by
        rw [← subs_filter]
        exact Nat.le_trans (List.length_filter_le _ _) (by omega)
      refine ⟨o, D2, ov, acc, rfl, rfl, s6 _ _ ho, e6, by rw [sizeLine_eq]; omega, fun p hp => ?_⟩
      have sp := same_new (o := .lst (ov ++ acc)) hp
      refine ⟨(sx.trans s6).trans sp, sp _ _ (s6 _ _ hf), igs.nl (nl_same (s6.trans sp)), p, ov ++ acc, upd_same, by rw [List.length_append]; omega, ?_, _, _, _, rfl⟩
      rw [List.range_succ, List.flatMap_append]
      simp only [List.flatMap_cons, List.flatMap_nil, List.append_nil]
      exact (iov.nl (nl_same (s6.trans sp))).append (ia.nl (nl_same sp))
  obtain ⟨sx, hf, igs, o, ov, ho, hol, iov, u3, u4, u5, rfl⟩ := pv
  exact ⟨_, rfl, q o ov H4 sx ho iov⟩
end
end Tx
/-! ## DCross -/
namespace Tx
open PySem PySem.Spec PyProof.Rows L2
section
variable {w : World} {K : PySem.W.Frag} {mg : Str → Option Value} {base : Heap} (T : Txt K mg)
def spEnter (K : PySem.W.Frag) : Sp := fun vs H Q _ => ∃ D acc as t g, vs = [.ref D, .ref t] ∧ H D = some (.lst acc) ∧ IsAs K H acc as ∧ as.length ≤ 1000 ∧ SqT K H t (g.map V.str) ∧ ∀ H', Same H H' → Q (.int (cnt as g : Nat)) H'
theorem sc__law_enter : FnScope ["_law_triples_here", "_law_group", "_law_row"] ["_law_triples_here", "_law_group"] (defScope (top 95)) := ⟨rfl, rfl, rfl, by decide +kernel, rfl, by decide +kernel, by decide +kernel⟩
include T in
theorem ok__law_enter : Fn w K mg base 1 (He.ga K "_law_enter") (spEnter K) := by
  refine funR T.f__law_enter sc__law_enter (fun _ _ _ _ _ _ us hl => match us, hl with | [_, _], _ => rfl) (fun vs H Q E h => ?_) (fun cdv A outer s H vs Q E hr h => ?_)
  · obtain ⟨D, acc, as, t, g, rfl, _⟩ := h; rfl
  obtain ⟨D, acc, as, t, g, rfl, hD, ia, hl, ht, q⟩ := h
  have nd := sc__law_enter.nd
  refine ⟨_, pss_one (ps_ret (p_b1 call_len_seq bt_len T.n_len (pe_lc (own := [("_law_row", 2)]) (g := gName 2) rfl nd (pi_list (pv 0)) (blkOk_by (N := ["_law_triples_here", "_law_group", "_law_row"]) (sc := defScope (top 95)) (by decide +kernel)) (fun _ _ _ _ _ => pg_name (i := 2) nd rfl (Or.inl rfl))
      (fun _ _ _ _ _ => pts_one (PW.pt (pw_and (pt_cmpR (opB_in K) (pe_ix (ixB_tup K) (pv 2) pe_int (fun _ _ => rfl)) (pv 1) (by rfl)) (pw_and1 (pt_cmpR (opB_notIn K) (pe_ix (ixB_tup K) (pv 2) pe_int (fun _ _ => rfl)) (pv 1) (by rfl))))))
      (fun _ _ _ _ _ => pv 2)))), ?_⟩
  have lv := ia.len
  have hLs : SqL K H D acc := .inl (.inl hD)
  refine ⟨_, rfl, D, rfl, ⟨_, .inl (.inl hD)⟩, fun D2 hD2 => ?_⟩
  refine lc_gen (n := acc.length) (fun i l H' => l.length = cnt (as.take i) g) hD2 (by omega) (by simp [cnt]) (fun i l x H1 H2 e s h => h) (fun i H' hi s => itl_go hLs hi s) (fun H' s => itl_st hLs s) (fun i l x H1 H2 K1 K2 hi s hP y k2 k1 => ?_) (fun H1 l s e hP => ?_)
  · obtain ⟨rfl, hx⟩ := itl_y hLs s y
    obtain ⟨a, ha, u, rfl, hu⟩ := (ia.nl (nl_same s)).get hx
    have ht2 := lx_t (lx s) ht
    have tk : cnt (as.take (i + 1)) g = cnt (as.take i) g + (inB g a).toNat := by
      rw [List.take_succ, ha]
      unfold cnt
      rw [List.filter_append, List.length_append]
      congr 1
      simp only [Option.toList_some, List.filter_cons, List.filter_nil]
      cases inB g a <;> rfl
    have ib : inB g a = (!decide (a.2.1 ∈ g) && decide (a.2.2 ∈ g)) := rfl
    refine ⟨rfl, _, rfl, u, _, 2, _, rfl, rfl, hu, atI_nat (j := 2) rfl, _, rfl, inT ht2 ⟨_, rfl, ite_both (fun h1 => ?_) (fun h1 => ?_)⟩⟩
    · refine ⟨_, rfl, u, _, 1, _, rfl, rfl, hu, atI_nat (j := 1) rfl, _, rfl, niT ht2 ⟨_, rfl, ite_both (fun h2 => ?_) (fun h2 => ?_)⟩⟩
      · rw [h1, h2] at ib
        exact ⟨_, rfl, k2 _ _ (Same.refl _) (by rw [List.length_append, hP, tk, ib]; rfl)⟩
      · rw [h1, h2] at ib
        exact k1 _ (Same.refl _) (by rw [hP, tk, ib]; rfl)
    · rw [h1, Bool.and_false] at ib
      exact k1 _ (Same.refl _) (by rw [hP, tk, ib]; rfl)
  · rw [List.take_of_length_le (by omega)] at hP
    refine ⟨⟨D2, l, rfl, .inl (.inl (.inl e)), ?_⟩⟩
    rw [hP]
    exact q _ s
def spWkL (K : PySem.W.Frag) : Sp := fun vs H Q _ => ∃ D acc as S ys, vs = [.ref D, .ref S] ∧ H D = some (.lst acc) ∧ IsAs K H acc as ∧ as.length ≤ 1000 ∧ H S = some (.lst (ys.map V.str)) ∧ 2 ≤ ys.length ∧ ys.length ≤ 5 ∧ ∀ (m : Nat) H', Same H H' → Least as (wardsL ys) m → Q (.int (m : Nat)) H'
theorem wards_len {ys : List Str} (h : ys.length ≤ 5) : (wardsL ys).length ≤ 200 := by
  unfold wardsL
  rw [List.length_flatMap]
  have : ∀ l : List Nat, ((l.map fun i => (combs (i + 1) ys).length).sum) ≤ 32 * l.length := by
    intro l
    induction l with
    | nil => simp
    | cons i r ih =>
      have cl : (combs (i + 1) ys).length ≤ 32 := by
        rw [← subs_filter]
        refine Nat.le_trans (List.length_filter_le _ _) ?_
        rw [subs_len]
        exact Nat.le_trans (Nat.pow_le_pow_right (by decide) h) (by decide)
      simp only [List.map_cons, List.sum_cons, List.length_cons]
      omega
  have := this (List.range (ys.length - 1))
  rw [List.length_range] at this
  omega
theorem wards_ne {ys : List Str} (h : 2 ≤ ys.length) : wardsL ys ≠ [] := by
  cases ys with
  | nil => simp at h
  | cons a r =>
    intro z
    have : [a] ∈ wardsL (a :: r) := wards_mem.mpr ⟨by simp, by simp, by simp at h ⊢; omega⟩
    rw [z] at this
    cases this
theorem sc__law_weakest : FnScope ["_law_triples_here", "_law_spots_here", "_law_group"] ["_law_triples_here", "_law_spots_here"] (defScope (top 96)) := ⟨rfl, rfl, rfl, by decide +kernel, rfl, by decide +kernel, by decide +kernel⟩
include T in
theorem ok__law_weakest : Fn w K mg base 2 (He.ga K "_law_weakest") (spWkL K) := by
  refine funR T.f__law_weakest sc__law_weakest (fun _ _ _ _ _ _ us hl => match us, hl with | [_, _], _ => rfl) (fun vs H Q E h => ?_) (fun cdv A outer s H vs Q E hr h => ?_)
  · obtain ⟨D, acc, as, S, ys, rfl, _⟩ := h; rfl
  obtain ⟨D, acc, as, S, ys, rfl, hD, ia, hl, hS, h2, h5, q⟩ := h
  have nd := sc__law_weakest.nd
  refine ⟨_, pss_one (ps_ret (p_b1 (cr_min rfl) bt_min T.n_min (pe_lc (own := [("_law_group", 2)]) (g := gName 2) (tt := tYes) rfl nd (pi_list (Own.pe_call (ok__law_groups T) hr (by rfl) T.g__law_groups T.k__law_groups (pa_cons (pv 1) pa_nil))) (blkOk_by (N := ["_law_triples_here", "_law_spots_here", "_law_group"]) (sc := defScope (top 96)) (by decide +kernel)) (fun _ _ _ _ _ => pg_name (i := 2) nd rfl (Or.inl rfl)) (fun _ _ _ _ _ => pts_nil)
      (fun _ _ _ _ _ => p_t1 call_int1 bt_int T.n_int (Own.pe_call (ok__law_enter T) hr (by rfl) T.g__law_enter T.k__law_enter (pa_cons (pv 0) (pa_cons (pv 2) pa_nil))))))), ?_⟩
  refine ⟨_, rfl, ⟨⟨S, ys, rfl, hS, h5, fun G gv H1 s1 hG ig => ⟨G, rfl, ⟨_, .inl (.inl hG)⟩, fun D2 hD2 => ?_⟩⟩⟩⟩
  have gl := ig.len
  have wl := wards_len h5
  have hLs : SqL K H1 G gv := .inl (.inl hG)
  refine lc_val (n := gv.length) (fun j => .int (((wardsL ys).map (fun g => ((cnt as g : Nat) : Int))).getD j 0)) hD2 (by omega) (fun j H hj s => itl_go hLs hj s) (fun H s => itl_st hLs s) (fun j x H3 H4 K2 hj s y k2 => ?_) (fun H3 s e => ?_) mg_name
  · obtain ⟨rfl, hx⟩ := itl_y hLs s y
    obtain ⟨g, hg, t, rfl, ht⟩ := (ig.nl (nl_same s)).get hx
    have sA := s1.trans s
    have eF : ((wardsL ys).map (fun g => ((cnt as g : Nat) : Int))).getD j 0 = ((cnt as g : Nat) : Int) := by
      rw [List.getD_eq_getElem?_getD, List.getElem?_map, hg]; rfl
    refine ⟨rfl, _, rfl, _, rfl, ⟨⟨D, acc, as, t, g, rfl, sA _ _ hD, ia.nl (nl_same sA), hl, ht, fun H5 s5 => ⟨.inl ⟨_, rfl, ?_⟩⟩⟩⟩⟩
    have := k2 H5 s5
    rw [eF] at this
    exact this
  · have e2 : (List.range gv.length).map (fun j => V.int (((wardsL ys).map (fun g => ((cnt as g : Nat) : Int))).getD j 0)) = ((wardsL ys).map (fun g => ((cnt as g : Nat) : Int))).map V.int := by
      apply List.ext_getElem (by simp [gl])
      intro j h1 h2
      simp only [List.getElem_map, List.getElem_range, List.getD_eq_getElem?_getD]
      rw [List.getElem?_eq_getElem (by simp at h2 ⊢; exact h2)]
      simp
    rw [e2] at e
    refine ⟨⟨D2, (wardsL ys).map (fun g => ((cnt as g : Nat) : Int)), rfl, .inl (.inl e), by rw [List.length_map]; exact List.length_pos_iff.mpr (wards_ne h2), fun m hm hle => ?_⟩⟩
    obtain ⟨g, hg, rfl⟩ := List.mem_map.mp hm
    refine q (cnt as g) H3 (s1.trans s) ⟨fun c hc => ?_, g, hg, rfl⟩
    have := hle _ (List.mem_map_of_mem (f := fun g => ((cnt as g : Nat) : Int)) hc)
    omega
def spCrossL (K : PySem.W.Frag) : Sp := fun vs H Q _ => ∃ t u D ys zs ss, vs = [.ref t, .ref u, .ref D] ∧ SqT K H t (ys.map V.str) ∧ SqT K H u (zs.map V.str) ∧ SqL K H D (ss.map V.str) ∧ ys.length ≤ 60 ∧ zs.length ≤ 60 ∧ (∀ y ∈ ys, nameB y = true) ∧ ∀ H', Same H H' → Q (.bl (PlG.lawCross ys zs ss)) H'
theorem sc__law_cross : FnScope ["_law_one", "_law_two", "_law_spots_here", "_law_both", "_law_spot"] ["_law_one", "_law_two", "_law_spots_here"] (defScope (top 97)) := ⟨rfl, rfl, rfl, by decide +kernel, rfl, by decide +kernel, by decide +kernel⟩
include T in
theorem ok__law_cross : Fn w K mg base 1 (He.ga K "_law_cross") (spCrossL K) := by
  refine funR T.f__law_cross sc__law_cross (fun _ _ _ _ _ _ us hl => match us, hl with | [_, _, _], _ => rfl) (fun vs H Q E h => ?_) (fun cdv A outer s H vs Q E hr h => ?_)
  · obtain ⟨t, u, D, ys, zs, ss, rfl, _⟩ := h; rfl
  obtain ⟨t, u, D, ys, zs, ss, rfl, ht, hu, hD, l1, l2, nm, q⟩ := h
  have nd := sc__law_cross.nd
  refine ⟨_, pss_cons (ps_setLc (i := 3) (own := [("_law_spot", 4)]) (g := gName 4) rfl nd rfl rfl (sw_true rfl rfl rfl rfl) (pi_tup (pv 0)) (blkOk_by (N := ["_law_one", "_law_two", "_law_spots_here", "_law_both", "_law_spot"]) (sc := defScope (top 97)) (by decide +kernel)) (fun _ _ _ _ _ => pg_name (i := 4) nd rfl (Or.inl rfl))
      (fun _ _ _ _ _ => pts_one (pt_cmpR (opB_in K) (pv 4) (pv 1) (by rfl))) (fun _ _ _ _ _ => pv 4))
    (pss_one (ps_ret (pe_and (pe_cmpR (op_neD (hu_ hr)) (pv 3) (pe_lst pa_nil) (nomark _)) (pe_and (pe_cmpR op_lt (p_b1 call_len_seq bt_len T.n_len (pv 3)) (p_bn (call_min2 rfl) bt_min T.n_min (pa_cons (p_b1 call_len_seq bt_len T.n_len (pv 0)) (pa_cons (p_b1 call_len_seq bt_len T.n_len (pv 1)) pa_nil))) (nomark _))
      (pe_one (pe_cmpR op_lt (pe_sub (pe_add (p_b1 call_len_seq bt_len T.n_len (pv 0)) (p_b1 call_len_seq bt_len T.n_len (pv 1))) (p_b1 call_len_seq bt_len T.n_len (pv 3))) (p_b1 call_len_seq bt_len T.n_len (pv 2)) (nomark _))))))), ?_⟩
  refine ⟨_, rfl, t, rfl, ⟨_, ht⟩, fun D2 hD2 => ?_⟩
  refine lc_map (overT (f := V.str) ht) hD2 (by omega) (fun y => if y ∈ zs then some (.str y) else none) (fun y H2 K1 K2 hy s2 k2 k1 => ⟨rfl, _, rfl, _, rfl, inT (lx_t (lx s2) hu) ⟨_, rfl, ite_both (fun h => ⟨_, rfl, k2 _ _ (if_pos (of_decide_eq_true h)) (Same.refl _)⟩) (fun h => k1 _ (if_neg (of_decide_eq_false h)) (Same.refl _))⟩⟩) (fun H2 s2 e2 => ?_)
  have eb : ys.filterMap (fun y => if y ∈ zs then some (V.str y) else none) = (ys.filter fun y => decide (y ∈ zs)).map V.str := by
    rw [← List.filterMap_eq_map, List.filterMap_filter]
    congr 1
    funext y
    by_cases h : y ∈ zs
    · rw [if_pos h, if_pos (decide_eq_true h)]; rfl
    · rw [if_neg h, if_neg (by rw [decide_eq_false h]; decide)]
  rw [eb] at e2
  have lb : (ys.filter fun y => decide (y ∈ zs)).length ≤ ys.length := List.length_filter_le _ _
  have nb : ∀ y ∈ ys.filter (fun y => decide (y ∈ zs)), nameB y = true := fun y hy => nm y (List.mem_filter.mp hy).1
  have lc : PlG.lawCross ys zs ss = (decide ((ys.filter fun y => decide (y ∈ zs)) ≠ []) && decide ((ys.filter fun y => decide (y ∈ zs)).length < min ys.length zs.length) && decide (ys.length + zs.length - (ys.filter fun y => decide (y ∈ zs)).length < ss.length)) := rfl
  rw [lc] at q
  generalize (ys.filter fun y => decide (y ∈ zs)) = bs at e2 lb nb q
  refine ⟨_, rfl, by decide, fun e he => ?_⟩
  have se := same_new (o := .lst []) he
  have sA := s2.trans se
  refine ⟨_, _, .lst (.inl (.inl (se _ _ e2))) (dpAll_strs _), .lst (.inl (.inl upd_same)) .nil, shaped_strsL nb, by decide, _, rfl, ?_⟩
  have hb := se _ _ e2
  rw [ne_nilL]
  refine ite_both (fun h1 => ?_) (fun h1 => ?_)
  · rw [h1, Bool.true_and] at q
    refine ⟨_, rfl, ⟨⟨D2, _, rfl, .inl (.inl (.inl hb)), _, rfl, ⟨⟨t, _, rfl, .inr (lx_t (lx sA) ht), _, rfl, ⟨⟨u, _, rfl, .inr (lx_t (lx sA) hu), ⟨⟨_, _, rfl, _, _, rfl, rfl, _, rfl, ?_⟩⟩⟩⟩⟩⟩⟩⟩⟩
    have e2 : decide (((bs.map V.str).length : Int) < (if ((zs.map V.str).length : Int) < ((ys.map V.str).length : Int) then ((zs.map V.str).length : Int) else ((ys.map V.str).length : Int))) = decide (bs.length < min ys.length zs.length) := by
      rw [List.length_map, List.length_map, List.length_map]
      congr 1
      split <;> apply propext <;> constructor <;> intro _ <;> omega
    rw [e2]
    refine ite_both (fun h2 => ?_) (fun h2 => ?_)
    · rw [h2, Bool.true_and] at q
      refine ⟨_, rfl, ⟨⟨t, _, rfl, .inr (lx_t (lx sA) ht), _, rfl, ⟨⟨u, _, rfl, .inr (lx_t (lx sA) hu), _, _, rfl, rfl, _, rfl, ⟨⟨D2, _, rfl, .inl (.inl (.inl hb)), _, _, rfl, rfl, _, rfl, ⟨⟨D, _, rfl, .inl (lx_l (lx sA) hD), _, _, rfl, rfl, ?_⟩⟩⟩⟩⟩⟩⟩⟩⟩
      have e3 : decide (((ys.map V.str).length : Int) + ((zs.map V.str).length : Int) - ((bs.map V.str).length : Int) < ((ss.map V.str).length : Int)) = decide (ys.length + zs.length - bs.length < ss.length) := by
        rw [List.length_map, List.length_map, List.length_map, List.length_map]
        congr 1
        apply propext
        constructor <;> intro _ <;> omega
      have z := q _ sA
      rw [← e3] at z
      exact z
    · rw [h2, Bool.false_and] at q
      exact q _ sA
  · rw [h1, Bool.false_and, Bool.false_and] at q
    exact q _ sA
end
end Tx
/-! ## PlainL -/
/-! What a lap of the law has built, plainly; found == []. -/
namespace Tx
open PySem PySem.Spec PyProof.Rows L2
section
variable {X : Cx}
/-- xs == [], xs not empty -/
def rEqNil (K : PySem.W.Frag) : R2 := fun x y H Q => ∃ a b xs, x = .ref a ∧ y = .ref b ∧ SqL K H a xs ∧ SqL K H b [] ∧ xs ≠ [] ∧ Q (.bl false) H
theorem op_eqNil (hu : X.A.units < cLine) : OpR X (compareOp .Eq) (rEqNil X.K) := by
  intro pins s σ H x y v u Q I rx ry h
  obtain ⟨a, b, xs, rfl, rfl, ha, hb, hne, q⟩ := h
  cases (show v = Value.ref a from rx)
  cases (show u = Value.ref b from ry)
  obtain ⟨its, r1, l1, _⟩ := I.list ha
  obtain ⟨jts, r2, l2, _⟩ := I.list hb
  have e1 := r1.length
  have e2 := r2.length
  refine PySem.SeqAt.eq_list_lengthsAt l1.isList l2.isList ?_ hu (fin_bl I q rfl)
  rw [List.size_toArray, List.size_toArray, ← e1, ← e2]
  have : 0 < xs.length := List.length_pos_iff.mpr hne
  simp only [List.length_nil, bne_iff_ne, ne_eq]
  omega
end
theorem crossB_symm (ys zs cs : List Str) : crossB ys zs cs = crossB zs ys cs := by
  unfold crossB
  have h1 : (ys.any fun y => decide (y ∈ zs)) = (zs.any fun y => decide (y ∈ ys)) := by
    rw [Bool.eq_iff_iff, List.any_eq_true, List.any_eq_true]
    constructor
    · rintro ⟨x, a, b⟩
      exact ⟨x, of_decide_eq_true b, decide_eq_true a⟩
    · rintro ⟨x, a, b⟩
      exact ⟨x, of_decide_eq_true b, decide_eq_true a⟩
  have h2 : (cs.all fun y => decide (y ∈ ys ++ zs)) = (cs.all fun y => decide (y ∈ zs ++ ys)) := by
    congr 1
    funext y
    congr 1
    rw [List.mem_append, List.mem_append]
    exact propext Or.comm
  rw [h1, h2]
  cases (zs.any fun y => decide (y ∈ ys)) <;> cases (ys.all fun y => decide (y ∈ zs)) <;> cases (zs.all fun y => decide (y ∈ ys)) <;> rfl
theorem Bent.ok {sp : List Str} {rs : List LRow} {B : List Row} (h : Bent (toldL rs) B) (g : SpotsG sp) (rg : RowsG sp rs) : ∀ x ∈ B, x.2.name = nmR x → x.2.Ok := fun x hx _ => by
  obtain ⟨r, hr, _, e, q⟩ := h.row hx
  have ab := rg.ab r hr
  have n1 := g.nm _ ab.1
  have n2 := g.nm _ ab.2.1
  have n3 : r.a ≠ r.b := ab.2.2
  have n0 : nameB x.2.name = true := by
    have : x.2.name = r.nm := e.symm
    rw [this]; exact rg.nm r hr
  rcases q with ⟨e1, e2⟩ | ⟨e1, e2⟩
  · exact ⟨n0, by rw [e1]; exact n1, by rw [e2]; exact n2, by rw [e1, e2]; exact n3⟩
  · exact ⟨n0, by rw [e1]; exact n2, by rw [e2]; exact n1, by rw [e1, e2]; exact n3.symm⟩
theorem Bent.len {rs : List LRow} {B : List Row} (h : Bent (toldL rs) B) : B.length ≤ rs.length := by
  have := congrArg List.length h.nm
  rw [List.length_map, List.length_map] at this
  rw [this]
  unfold toldL
  rw [List.length_map]
  exact List.length_filter_le _ _
section
variable {K : PySem.W.Frag} {H H' : Hp}
theorem NL.fit (s : NL H H') {u v : V} {Lt Ls : List Row} {cs : List Str} (h : FitP K H u v Lt Ls cs) : FitP K H' u v Lt Ls cs := ⟨s.isS h.1, s.isT h.2.1, h.2.2⟩
/-- a lap's things -/
structure Lap (K : PySem.W.Frag) (H : Hp) (u v : V) (Lt Ls : List Row) (cs ys : List Str) (m : Nat) : Prop where
  fit : FitP K H u v Lt Ls cs
  tw : TownW cs ys
  lm : Least (arcsL Lt Ls) (wardsL ys) m
  l5 : ys.length ≤ 5
  m14 : m ≤ 14
  ne : Lt ≠ []
theorem Lap.nl {u v : V} {Lt Ls : List Row} {cs ys : List Str} {m : Nat} (h : Lap K H u v Lt Ls cs ys m) (s : NL H H') : Lap K H' u v Lt Ls cs ys m := ⟨s.fit h.fit, h.tw, h.lm, h.l5, h.m14, h.ne⟩
theorem mem_ends {rs : List LRow} {e : Str} : e ∈ rs.map (fun r => r.a) ++ rs.map (fun r => r.b) ↔ ∃ r ∈ rs, e = r.a ∨ e = r.b := by
  rw [List.mem_append, List.mem_map, List.mem_map]
  constructor
  · rintro (⟨r, hr, rfl⟩ | ⟨r, hr, rfl⟩)
    · exact ⟨r, hr, .inl rfl⟩
    · exact ⟨r, hr, .inr rfl⟩
  · rintro ⟨r, hr, rfl | rfl⟩
    · exact .inl ⟨r, hr, rfl⟩
    · exact .inr ⟨r, hr, rfl⟩
theorem ends_in {sp ys : List Str} {rs : List LRow} (rg : RowsG sp rs) (wd : Wd (rs.map (fun r => r.a) ++ rs.map fun r => r.b) ys) : ∀ y ∈ ys, y ∈ sp := fun y hy => by
  obtain ⟨r, hr, e⟩ := mem_ends.mp ((wd.mem y).mp hy)
  have ab := rg.ab r hr
  rcases e with e | e <;> rw [e]
  · exact ab.1
  · exact ab.2.1
theorem ends_len {sp ys : List Str} {rs : List LRow} (g : SpotsG sp) (rg : RowsG sp rs) (wd : Wd (rs.map (fun r => r.a) ++ rs.map fun r => r.b) ys) : 2 ≤ ys.length ∧ ys.length ≤ 5 := by
  constructor
  · cases h : rs with
    | nil => exact absurd h rg.ne
    | cons r q =>
      have hr : r ∈ rs := by rw [h]; exact List.mem_cons_self
      have ab := rg.ab r hr
      have i1 := (wd.mem r.a).mpr (mem_ends.mpr ⟨r, hr, .inl rfl⟩)
      have i2 := (wd.mem r.b).mpr (mem_ends.mpr ⟨r, hr, .inr rfl⟩)
      exact sub_len (xs := [r.a, r.b]) (by have := ab.2.2; simp only [List.nodup_cons, List.mem_singleton, List.not_mem_nil, not_false_eq_true, List.nodup_nil, and_true]; exact this) (fun x hx => by
        simp only [List.mem_cons, List.not_mem_nil, or_false] at hx
        rcases hx with rfl | rfl
        · exact i1
        · exact i2)
  · exact Nat.le_trans (sub_len wd.nd (ends_in rg wd)) g.five
theorem lap_of {sp ys cs : List Str} {rs : List LRow} {M Lt B Ls : List Row} {u v : V} {m : Nat} (g : SpotsG sp) (rg : RowsG sp rs) (hs : Sts rs M) (pm : Lt.Perm M) (iT : IsT K H u Lt cs) (bB : Bent (toldL rs) B) (pb : Ls.Perm B) (sb : sortedS (Ls.map nmR) = true) (iS : IsS K H v Ls)
    (wd : Wd (rs.map (fun r => r.a) ++ rs.map fun r => r.b) ys) (lm : Least (triL B rs) (wardsL ys) m) : Lap K H u v Lt Ls cs ys m := by
  have iT' := iT
  obtain ⟨x, dx, d, t, c, _, _, tf, _⟩ := iT'
  have rok : RowsOk M := hs.rowsOk rg.ab rg.nm rg.nd rg.few g
  have rok2 := rok.perm pm
  have bnd := bB.nd rg.nd
  have hmem := hs.cn pm tf.cn
  have wd2 : Wd cs ys := ⟨wd.so, wd.nd, fun k => (wd.mem k).trans (mem_ends.trans (hmem k).symm)⟩
  have cl := wd2.len tf.cn.nd
  have le := ends_len g rg wd
  have lt14 : Lt.length ≤ 14 := rok2.few
  have ap := arcs_perm hs pm bnd pb
  have lm2 : Least (arcsL Lt Ls) (wardsL ys) m := by
    obtain ⟨c, hc, e⟩ := lm.ex
    exact ⟨fun c hc => by rw [cnt_perm ap]; exact lm.le c hc, c, hc, by rw [cnt_perm ap]; exact e⟩
  refine ⟨⟨iS, iT, (pb.map nmR).nodup_iff.mpr bnd, rok2.nd, fun r hr => bB.ok g rg r (pb.mem_iff.mp hr) rfl, ?_, by omega, fits_of rg hs pm tf.so bB pb sb⟩, ⟨by omega, fun e he => ?_, tf.cn.nd, wd2, by omega⟩, lm2, le.2, ?_, fun z => ?_⟩
  · rw [pb.length_eq]
    have := bB.len
    have := rg.few
    omega
  · exact g.nm e (ends_in rg wd e ((wd2.mem e).mpr he))
  · obtain ⟨c, hc, e⟩ := lm2.ex
    have := cnt_few Lt Ls c
    omega
  · have hl : Lt.length = rs.length := pm.length_eq.trans hs.len
    rw [z] at hl
    exact rg.ne (List.length_eq_zero_iff.mp hl.symm)
/-- wards, one by one -/
def IsWs (K : PySem.W.Frag) (H : Hp) (vs : List V) (cl : List (List Str)) : Prop := vs.length = cl.length ∧ ∀ (j : Nat) (x : V), vs[j]? = some x → ∃ c, cl[j]? = some c ∧ IsW K H x c
theorem IsWs.nl {vs : List V} {cl : List (List Str)} (h : IsWs K H vs cl) (s : NL H H') : IsWs K H' vs cl := ⟨h.1, fun j x e => by
  obtain ⟨c, h1, h2⟩ := h.2 j x e
  exact ⟨c, h1, s.w h2⟩⟩
theorem IsWs.mem {vs : List V} {cl : List (List Str)} (h : IsWs K H vs cl) {x : V} (hx : x ∈ vs) : ∃ c ∈ cl, IsW K H x c := by
  obtain ⟨j, hj⟩ := List.mem_iff_getElem?.mp hx
  obtain ⟨c, h1, h2⟩ := h.2 j x hj
  exact ⟨c, List.mem_of_getElem? h1, h2⟩
end
end Tx
/-! ## DLawY -/
namespace Tx
open PySem PySem.Spec PyProof.Rows L2
structure WFacts (cs us : List Str) : Prop where
  wof : WOf cs us
  l5 : us.length ≤ 5
  nm : ∀ y ∈ us, nameB y = true
  nd : us.Nodup
  ne : us ≠ []
theorem ward_facts {cs ys us : List Str} (tw : TownW cs ys) (l5 : ys.length ≤ 5) (h : us ∈ wardsL ys) : WFacts cs us := by
  have w := wards_mem.mp h
  have hl := tw.wd.len tw.nd
  refine ⟨⟨by omega, fun y hy => (tw.wd.mem y).mp (w.1.subset hy), tw.few⟩, by omega, fun y hy => tw.nm y ((tw.wd.mem y).mp (w.1.subset hy)), tw.wd.nd.sublist w.1, fun z => by rw [z] at w; simp at w⟩
theorem nar_wards {as : List Arc} {ys c : List Str} {m : Nat} (h : c ∈ narL as ys m) : c ∈ wardsL ys := (List.mem_filter.mp h).1
theorem niL {K : PySem.W.Frag} {H : Hp} {t : Addr} {c : Str} {ys : List Str} {Q : VK} (h : SqL K H t (ys.map V.str)) (q : Q (.bl (!decide (c ∈ ys))) H) : rIn K true (.str c) (.ref t) H Q :=
  ⟨t, _, rfl, .inl h, rfl, flat_strs ys, by rw [if_pos rfl, inV_strs]; exact q⟩
section
variable {w : World} {K : PySem.W.Frag} {mg : Str → Option Value} {base : Heap} (T : Txt K mg)
theorem cs_of {cs ys zs : List Str} (tw : TownW cs ys) (l5 : ys.length ≤ 5) (sub : ∀ x ∈ zs, x ∈ ys) (ne : zs ≠ []) (l : zs.length < 60) : Cs zs where
  nm := fun c hc => tw.nm c ((tw.wd.mem c).mp (sub c hc))
  ne := ne
  few := fun us wd => by
    have := sub_len wd.nd (ys := ys) fun x hx => sub x ((wd.mem x).mp hx)
    omega
  len := l
theorem bin_and {H : Hp} {v u : V} {cs ys A B : List Str} {Q : VK} (tw : TownW cs ys) (l5 : ys.length ≤ 5) (hA : A ∈ wardsL ys) (hB : B ∈ wardsL ys) (hc : crossB A B ys = true) (iA : IsW K H v A) (iB : IsW K H u B) (q : ∀ v' us H', Same H H' → IsW K H' v' us → Wd (A.filter fun y => decide (y ∈ B)) us → Q v' H') :
    Own.rBin K (He.ga K "Ward") .BitAnd (spWOr K fun ys zs => ys.filter fun y => decide (y ∈ zs)) v u H Q := by
  obtain ⟨a, rfl, ia⟩ := w_isi iA
  obtain ⟨b, rfl, ib⟩ := w_isi iB
  have fA := ward_facts tw l5 hA
  have fB := ward_facts tw l5 hB
  have wA := wards_mem.mp hA
  have lf := List.length_filter_le (fun y => decide (y ∈ B)) A
  unfold crossB at hc
  rw [Bool.and_eq_true, Bool.and_eq_true, Bool.and_eq_true] at hc
  have h1 := hc.1.1.1
  exact ⟨a, b, _, rfl, rfl, ia, ib, .inl rfl, ⟨⟨_, _, A, B, rfl, iA, iB, cs_of tw l5 (fun x hx => wA.1.subset (List.mem_filter.mp hx).1) (PlG.flt_any.mpr h1) (Nat.lt_of_le_of_lt lf (by have := fA.l5; omega)), by have := fA.l5; omega, by have := fB.l5; omega, q⟩⟩⟩
theorem bin_or {H : Hp} {v u : V} {cs ys A B : List Str} {Q : VK} (tw : TownW cs ys) (l5 : ys.length ≤ 5) (hA : A ∈ wardsL ys) (hB : B ∈ wardsL ys) (iA : IsW K H v A) (iB : IsW K H u B) (q : ∀ v' us H', Same H H' → IsW K H' v' us → Wd (A ++ B) us → Q v' H') :
    Own.rBin K (He.ga K "Ward") .BitOr (spWOr K fun ys zs => ys ++ zs) v u H Q := by
  obtain ⟨a, rfl, ia⟩ := w_isi iA
  obtain ⟨b, rfl, ib⟩ := w_isi iB
  have fA := ward_facts tw l5 hA
  have fB := ward_facts tw l5 hB
  have wA := wards_mem.mp hA
  have wB := wards_mem.mp hB
  exact ⟨a, b, _, rfl, rfl, ia, ib, .inl rfl, ⟨⟨_, _, A, B, rfl, iA, iB, cs_of tw l5 (fun x hx => by
    rcases List.mem_append.mp hx with h | h
    · exact wA.1.subset h
    · exact wB.1.subset h) (fun z => fA.ne (List.append_eq_nil_iff.mp z).1) (show (A ++ B).length < 60 by rw [List.length_append]; have := fA.l5; have := fB.l5; omega), by have := fA.l5; omega, by have := fB.l5; omega, q⟩⟩⟩
theorem str_w {H : Hp} {v : V} {us : List Str} {Q : VK} (iw : IsW K H v us) (l : us.length ≤ 5) (nm : ∀ y ∈ us, nameB y = true) (q : ∀ H', Same H H' → Q (.str (joinC us)) H') : AtR (Own.rStrO (He.ga K "Ward") (spWStr K)) [v] H Q := by
  obtain ⟨a, rfl, ia⟩ := w_isi iw
  exact ⟨⟨a, rfl, ia, ⟨⟨_, us, rfl, iw, by omega, nm, fun H' s => ⟨_, rfl, q H' s⟩⟩⟩⟩⟩
theorem into_sat {H : Hp} {v u z : V} {Lt Ls : List Row} {cs ys us : List Str} {m : Nat} {Q : VK} (lap : Lap K H v u Lt Ls cs ys m) (iw : IsW K H z us) (h : us ∈ wardsL ys) (q : ∀ H', Same H H' → Q (.int (cnt (arcsL Lt Ls) us : Nat)) H') : Own.Sat (spInto K) [v, u, z] H Q :=
  ⟨⟨v, u, z, Lt, Ls, cs, us, rfl, lap.fit, iw, lap.tw.nd, (ward_facts lap.tw lap.l5 h).wof, q⟩⟩
theorem meet_I {as : List Arc} {ys cs A B I : List Str} {m : Nat} (tw : TownW cs ys) (lm : Least as (wardsL ys) m) (hA : A ∈ narL as ys m) (hB : B ∈ narL as ys m) (hc : crossB A B ys = true)
    (wi : Wd (A.filter fun x => decide (x ∈ B)) I) : Meet as ys m I := by
  have wA := wards_mem.mp (nar_wards hA)
  have wB := wards_mem.mp (nar_wards hB)
  refine (meet_both (U := ys.filter fun x => decide (x ∈ A ++ B)) tw.wd.so tw.wd.nd lm hA hB hc wi ⟨sorted_sub tw.wd.so List.filter_sublist, tw.wd.nd.filter _, fun k => ?_⟩).1
  rw [List.mem_filter, decide_eq_true_eq]
  refine ⟨fun h => h.2, fun h => ⟨?_, h⟩⟩
  rcases List.mem_append.mp h with h | h
  · exact wA.1.subset h
  · exact wB.1.subset h
theorem meet_U {as : List Arc} {ys cs A B U : List Str} {m : Nat} (tw : TownW cs ys) (lm : Least as (wardsL ys) m) (hA : A ∈ narL as ys m) (hB : B ∈ narL as ys m) (hc : crossB A B ys = true)
    (wu : Wd (A ++ B) U) : Meet as ys m U := by
  have wA := wards_mem.mp (nar_wards hA)
  refine (meet_both (I := ys.filter fun x => decide (x ∈ A.filter fun x => decide (x ∈ B))) tw.wd.so tw.wd.nd lm hA hB hc ⟨sorted_sub tw.wd.so List.filter_sublist, tw.wd.nd.filter _, fun k => ?_⟩ wu).2
  rw [List.mem_filter, decide_eq_true_eq]
  exact ⟨fun h => h.2, fun h => ⟨wA.1.subset (List.mem_filter.mp h).1, h⟩⟩
theorem Meet.nar {as : List Arc} {ys us : List Str} {m : Nat} (h : Meet as ys m us) : us ∈ narL as ys m := List.mem_filter.mpr ⟨h.mem, by rw [h.eq]; simp⟩
theorem Meet.txt {as : List Arc} {ys us : List Str} {m : Nat} (h : Meet as ys m us) : (!decide (joinC us ∈ (narL as ys m).map joinC)) = false := by
  rw [decide_eq_true (List.mem_map_of_mem h.nar)]
  rfl
theorem Wd.comm {A B us : List Str} (h : Wd (B ++ A) us) : Wd (A ++ B) us := ⟨h.so, h.nd, fun k => (h.mem k).trans (by rw [List.mem_append, List.mem_append]; exact Or.comm)⟩
/-- the state of the law's loops over the narrow wards -/
structure LawS (K : PySem.W.Frag) (p c : Addr) (v u : V) (Lt Ls : List Row) (cs ys : List Str) (m : Nat) (S Ds Dx : Addr) (out : List V) (k : Nat) (H : Hp) : Prop where
  pen : Pen K H p c k
  lap : Lap K H v u Lt Ls cs ys m
  hS : H S = some (.lst out)
  iw : IsWs K H out (narL (arcsL Lt Ls) ys m)
  hDs : H Ds = some (.lst (ys.map V.str))
  hDx : H Dx = some (.lst (((narL (arcsL Lt Ls) ys m).map joinC).map V.str))
variable {p c : Addr} {v u : V} {Lt Ls : List Row} {cs ys : List Str} {m : Nat} {S Ds Dx : Addr} {out : List V} {k : Nat} {H H' : Hp}
theorem LawS.same (h : LawS K p c v u Lt Ls cs ys m S Ds Dx out k H) (s : Same H H') : LawS K p c v u Lt Ls cs ys m S Ds Dx out k H' := ⟨h.pen.same s, h.lap.nl (nl_same s), s _ _ h.hS, h.iw.nl (nl_same s), s _ _ h.hDs, s _ _ h.hDx⟩
theorem LawS.sx {k' : Nat} (h : LawS K p c v u Lt Ls cs ys m S Ds Dx out k H) (s : SameX p H H') (pn : Pen K H' p c k') (n1 : S ≠ p) (n2 : Ds ≠ p) (n3 : Dx ≠ p) : LawS K p c v u Lt Ls cs ys m S Ds Dx out k' H' := by
  obtain ⟨lp, hlp⟩ := h.pen.at_
  have nl := nl_x hlp s
  exact ⟨pn, h.lap.nl nl, s _ _ n1 h.hS, h.iw.nl nl, s _ _ n2 h.hDs, s _ _ n3 h.hDx⟩
theorem LawS.up {k' : Nat} (h : LawS K p c v u Lt Ls cs ys m S Ds Dx out k H) (l : k ≤ k') : LawS K p c v u Lt Ls cs ys m S Ds Dx out k' H := ⟨h.pen.up l, h.lap, h.hS, h.iw, h.hDs, h.hDx⟩
/-- a call of _law_cross on two narrow wards -/
theorem cross_sat {x1 x2 : V} {A B : List Str} {t1 t2 : Addr} {Q : VK} (h : LawS K p c v u Lt Ls cs ys m S Ds Dx out k H) (hA : A ∈ wardsL ys) (hB : B ∈ wardsL ys) (ht1 : SqT K H t1 (A.map V.str)) (ht2 : SqT K H t2 (B.map V.str)) (q : ∀ H', Same H H' → Q (.bl (crossB A B ys)) H') :
    Own.Sat (spCrossL K) [.ref t1, .ref t2, .ref Ds] H Q := by
  have fA := ward_facts h.lap.tw h.lap.l5 hA
  have fB := ward_facts h.lap.tw h.lap.l5 hB
  refine ⟨⟨t1, t2, Ds, A, B, ys, rfl, ht1, ht2, .inl (.inl h.hDs), by have := fA.l5; omega, by have := fB.l5; omega, fA.nm, fun H' s => ?_⟩⟩
  rw [cross_law h.lap.tw.wd.nd hA hB (cs := ys) (fun _ => Iff.rfl)]
  exact q H' s
/-- a call of crosses -/
theorem crosses_sat {x1 x2 : V} {A B : List Str} {Q : VK} (h : LawS K p c v u Lt Ls cs ys m S Ds Dx out k H) (hA : A ∈ wardsL ys) (hB : B ∈ wardsL ys) (i1 : IsW K H x1 A) (i2 : IsW K H x2 B) (q : ∀ H', Same H H' → Q (.bl (crossB A B ys)) H') :
    Own.Sat (spWCross K) [x1, x2, v] H Q := by
  have fA := ward_facts h.lap.tw h.lap.l5 hA
  have fB := ward_facts h.lap.tw h.lap.l5 hB
  refine ⟨⟨x1, x2, v, A, B, Lt, cs, rfl, i1, i2, h.lap.fit.2.1, h.lap.tw.nd, fA.wof, fB.wof, fun H' s => ?_⟩⟩
  rw [← cross_law h.lap.tw.wd.nd hA hB (cs := cs) (fun x => (h.lap.tw.wd.mem x).symm), cross_law h.lap.tw.wd.nd hA hB (cs := ys) (fun _ => Iff.rfl)]
  exact q H' s
end
end Tx
/-! ## DLawZ -/
set_option maxHeartbeats 4000000
namespace Tx
open PySem PySem.Spec PyProof.Rows L2 GFor
section
variable {w : World} {K : PySem.W.Frag} {mg : Str → Option Value} {base : Heap} (T : Txt K mg)
/-- THE RULE for a plain def, its function object told -/
theorem funOkD {k : Nat} {f : Addr} {fd : FuncData} {x qual : Str} {params : Arguments} {body : List Stmt} {scope : Scope} {N ps : List Str} {sp : Sp} (F : FunD K x qual params body scope [] [] f fd) (S : FnScope N ps scope) (len : ∀ vs H Q E, sp vs H Q E → vs.length = ps.length)
    (hbody : ∀ (cdv : Value) (A : Around) (outer : List Env) (s : Shared) (H : Hp) (vs : List V) (Q : VK) (E : XK), Room k (A.deeper (envOfC qual scope s.heap.objs.size f cdv)) → sp vs H Q E →
      ∃ t, PSs (cx w K mg base N qual scope f cdv A outer s H E) body t ∧ t { nx := fun _ H' => Q .non H', rt := Q } (start N vs) H) : FnOk PG0 w K mg base CX0 (k + 1) f fd ps sp :=
  F.ok S len fun cdv A outer s H vs Q E hr h => by
    obtain ⟨t, h1, h2⟩ := hbody cdv A outer s H vs Q E hr h
    exact ⟨t, h1.nox, h2⟩
def spLaw (K : PySem.W.Frag) : Sp := fun vs H Q _ => ∃ a ns, vs = [.ref a] ∧ SqL K H a ((ns : List Int).map V.int) ∧ ∀ H', Q (.bl true) H'
abbrev NLaw : List Str := ["_law_script", "_law_pen_here", "_law_lap", "_law_rows", "_law_told_here", "_law_place", "_law_made", "_law_triples_here", "_law_spots_here", "_law_just", "_law_found", "_law_texts", "_law_one", "_law_two", "_law_is_so", "_law_group"]
theorem sc_law : FnScope ["_law_script", "_law_pen_here", "_law_lap", "_law_rows", "_law_told_here", "_law_place", "_law_made", "_law_triples_here", "_law_spots_here", "_law_just", "_law_found", "_law_texts", "_law_one", "_law_two", "_law_is_so", "_law_group"] ["_law_script"] (defScope (top 98)) := ⟨rfl, rfl, rfl, by decide +kernel, rfl, by decide +kernel, by decide +kernel⟩
include T in
theorem ok_law {fd : FuncData} (F : FunD K "law" "law" (defArgs (top 98)) (defBody (top 98)) (defScope (top 98)) [] [] (He.ga K "law") fd) : FnOk PG0 w K mg base CX0 25 (He.ga K "law") fd ["_law_script"] (spLaw K) := by
  obtain ⟨fdN, GN, BN⟩ := ok_narrow_wards (w := w) (base := base) T
  refine funOkD F sc_law (fun vs H Q E h => ?_) (fun cdv A outer s H vs Q E hr h => ?_)
  · obtain ⟨a, ns, rfl, _⟩ := h; rfl
  obtain ⟨a, ns, rfl, ha, q⟩ := h
  have nd := sc_law.nd
  refine ⟨_, pss_cons (ps_set (i := 1) nd rfl (Or.inl rfl) (Own.pe_call (ok__law_pen T) (hr.mono (by decide)) (by rfl) T.g__law_pen T.k__law_pen (pa_cons (pv 0) pa_nil)))
    (pss_cons (ps_for PassesOwn.never rfl (pi_range1 (by rfl) T.n_range (pa_cons pe_int pa_nil)) (pg_name (i := 2) nd rfl (Or.inl rfl))
      (pss_cons (ps_set (i := 3) nd rfl (Or.inl rfl) (pe_ix ix_tup (Own.pe_call (ok__law_site T) (hr.mono (by decide)) (by rfl) T.g__law_site T.k__law_site (pa_cons (pv 1) (pa_cons (pe_lst (pa_cons pe_str (pa_cons pe_str (pa_cons pe_str (pa_cons pe_str pa_nil))))) (pa_cons pe_int pa_nil)))) pe_int (fun _ _ => rfl)))
      (pss_cons (ps_set (i := 4) nd rfl (Or.inl rfl) (Own.pe_call (ok__law_bent T) (hr.mono (by decide)) (by rfl) T.g__law_bent T.k__law_bent (pa_cons (pv 1) (pa_cons (Own.pe_call (ok__law_told T) (hr.mono (by decide)) (by rfl) T.g__law_told T.k__law_told (pa_cons (pv 3) pa_nil)) (pa_cons (Own.pe_call (ok__law_draw T) (hr.mono (by decide)) (by rfl) T.g__law_draw T.k__law_draw (pa_cons (pv 1) (pa_cons pe_int pa_nil))) pa_nil)))))
      (pss_cons (ps_par (i := 5) (j := 6) rfl nd rfl rfl (by decide) rfl rfl (pa_cons (Own.pe_call (ok__law_town T) (hr.mono (by decide)) (by rfl) T.g__law_town T.k__law_town (pa_cons (pv 1) (pa_cons (pv 3) pa_nil))) (pa_cons (p_mk T.mk_Signs (ok_Signs_init T) (hr.mono (by decide)) T.g_Signs (pa_cons (p_t1 call_dictD bt_dict T.n_dict (pv 4)) pa_nil)) pa_nil)) (by rfl))
      (pss_cons (ps_par (i := 7) (j := 8) rfl nd rfl rfl (by decide) rfl rfl (pa_cons (Own.pe_call (ok__law_triples T) (hr.mono (by decide)) (by rfl) T.g__law_triples T.k__law_triples (pa_cons (pv 3) (pa_cons (pv 4) pa_nil))) (pa_cons (Own.pe_call (ok__law_spots T) (hr.mono (by decide)) (by rfl) T.g__law_spots T.k__law_spots (pa_cons (pv 3) pa_nil)) pa_nil)) (by rfl))
      (pss_cons (ps_set (i := 9) nd rfl (Or.inl rfl) (Own.pe_call (ok__law_weakest T) (hr.mono (by decide)) (by rfl) T.g__law_weakest T.k__law_weakest (pa_cons (pv 7) (pa_cons (pv 8) pa_nil))))
      (pss_cons (ps_set (i := 10) nd rfl (Or.inl rfl) (pe_ifExp (pt_cmpR op_gt (pv 9) pe_int (nomark _)) (pe_listF (k := 21) (pgenF_call (dvs := []) GN (hr.mono (by decide)) (by rfl) T.g_narrow_wards T.k_narrow_wards BN .nil (pa_cons (pv 5) (pa_cons (pv 6) (pa_cons (pv 9) pa_nil)))) rfl hr (by rfl) T.n_list bt_list) (pe_lst pa_nil)))
      (pss_cons (ps_if (PW.pt (pw_and (pt_cmpR op_gt (pv 9) pe_int (nomark _)) (pw_and1 (pt_cmpR (op_eqNil (hr.units0)) (pv 10) (pe_lst pa_nil) (nomark _))))) (pss_one (ps_ret pe_bl)) pss_nil)
      (pss_cons (ps_setLc (i := 11) (own := [("_law_group", 15)]) (g := gName 15) (tt := tYes) rfl nd rfl rfl (sw_true rfl rfl rfl rfl) (pi_list (pv 10)) (blkOk_by (N := NLaw) (sc := defScope (top 98)) (by decide +kernel)) (fun _ _ _ _ _ => pg_name (i := 15) nd rfl (Or.inl rfl)) (fun _ _ _ _ _ => pts_nil) (fun _ _ _ _ _ => p_t1 (Own.cr_strO T.o_Ward_str.at_ T.o_Ward_str.fn (ok_Ward_str T) (hr.mono (by decide))) bt_str T.n_str (pv 15)))
      (pss_one (ps_for PassesOwn.never rfl (pi_list (pv 10)) (pg_name (i := 12) nd rfl (Or.inl rfl))
        (pss_cons (ps_set (i := 13) nd rfl (Or.inl rfl) (Own.pe_call (ok__law_pick T) (hr.mono (by decide)) (by rfl) T.g__law_pick T.k__law_pick (pa_cons (pv 1) (pa_cons (pv 10) pa_nil))))
        (pss_cons (ps_set (i := 14) nd rfl (Or.inl rfl) (Own.pe_call (ok__law_cross T) (hr.mono (by decide)) (by rfl) T.g__law_cross T.k__law_cross (pa_cons (Own.pe_prop (p := He.ma K (He.ga K "Ward") "corners") (pv 12) (ok_Ward_corners T) (hr.mono (by decide))) (pa_cons (Own.pe_prop (p := He.ma K (He.ga K "Ward") "corners") (pv 13) (ok_Ward_corners T) (hr.mono (by decide))) (pa_cons (pv 8) pa_nil)))))
        (pss_cons (ps_if (PW.pt (pw_or (pt_cmpR op_ne (Own.pe_meth (pv 12) (ok_Ward_crosses T) (hr.mono (by decide)) (pa_cons (pv 13) (pa_cons (pv 5) pa_nil))) (pv 14) (nomark _)) (pw_or1 (pt_cmpR op_ne (Own.pe_meth (pv 13) (ok_Ward_crosses T) (hr.mono (by decide)) (pa_cons (pv 12) (pa_cons (pv 5) pa_nil))) (pv 14) (nomark _))))) (pss_one (ps_ret pe_bl)) pss_nil)
        (pss_one (ps_for PassesOwn.never rfl (pi_list (pv 10)) (pg_name (i := 13) nd rfl (Or.inl rfl))
          (pss_one (ps_if (pt_val (Own.pe_call (ok__law_cross T) (hr.mono (by decide)) (by rfl) T.g__law_cross T.k__law_cross (pa_cons (Own.pe_prop (p := He.ma K (He.ga K "Ward") "corners") (pv 12) (ok_Ward_corners T) (hr.mono (by decide))) (pa_cons (Own.pe_prop (p := He.ma K (He.ga K "Ward") "corners") (pv 13) (ok_Ward_corners T) (hr.mono (by decide))) (pa_cons (pv 8) pa_nil)))))
            (pss_cons (ps_if (PW.pt (pw_or (pt_cmpR op_notIn_seq (p_t1 (Own.cr_strO T.o_Ward_str.at_ T.o_Ward_str.fn (ok_Ward_str T) (hr.mono (by decide))) bt_str T.n_str (pe_op (Own.op_bin T.b_Ward_and (ok_Ward_and T) (hr.mono (by decide))) (pv 12) (pv 13))) (pv 11) (by rfl))
                (pw_or1 (pt_cmpR op_notIn_seq (p_t1 (Own.cr_strO T.o_Ward_str.at_ T.o_Ward_str.fn (ok_Ward_str T) (hr.mono (by decide))) bt_str T.n_str (pe_op (Own.op_bin T.b_Ward_or (ok_Ward_or T) (hr.mono (by decide))) (pv 13) (pv 12))) (pv 11) (by rfl))))) (pss_one (ps_ret pe_bl)) pss_nil)
            (pss_one (ps_if (PW.pt (pw_or (pt_cmpR op_ne (Own.pe_call (ok_into T) (hr.mono (by decide)) (by rfl) T.g_into T.k_into (pa_cons (pv 5) (pa_cons (pv 6) (pa_cons (pe_op (Own.op_bin T.b_Ward_and (ok_Ward_and T) (hr.mono (by decide))) (pv 12) (pv 13)) pa_nil)))) (pv 9) (nomark _))
                (pw_or1 (pt_cmpR op_ne (Own.pe_call (ok_into T) (hr.mono (by decide)) (by rfl) T.g_into T.k_into (pa_cons (pv 5) (pa_cons (pv 6) (pa_cons (pe_op (Own.op_bin T.b_Ward_or (ok_Ward_or T) (hr.mono (by decide))) (pv 12) (pv 13)) pa_nil)))) (pv 9) (nomark _))))) (pss_one (ps_ret pe_bl)) pss_nil)))
            pss_nil))))))))))))))))))
    (pss_one (ps_ret pe_bl))), ?_⟩
  refine ⟨_, rfl, ⟨⟨a, ns, rfl, ha, fun p c H1 s1 np nc pn1 => ?_⟩⟩⟩
  refine ⟨2, rfl, by decide, by decide, ?_⟩
  refine for_any (n := 2) (fun i σ H' => Pen K H' p c (1000 * i) ∧ ∃ u2 u3 u4 u5 u6 u7 u8 u9 u10 u11 u12 u13 u14 u15, σ = [some (.ref a), some (.ref p), u2, u3, u4, u5, u6, u7, u8, u9, u10, u11, u12, u13, u14, u15])
    ⟨pn1, _, _, _, _, _, _, _, _, _, _, _, _, _, _, rfl⟩ (fun i σ H' hi pv => hi) (fun σ H' pv => Nat.le_refl _) (fun i x σ H2 H3 hi pv y => ?_) (fun σ H2 pv => ?_)
  · obtain ⟨rfl, rfl⟩ := y
    obtain ⟨pn, u2, u3, u4, u5, u6, u7, u8, u9, u10, u11, u12, u13, u14, u15, rfl⟩ := pv
    refine ⟨_, rfl, by show 4 ≤ sizeLine; decide, fun A hA => ?_⟩
    have pnA := pn.same (same_new (o := .lst kindsV) hA)
    have nAp : A ≠ p := by
      obtain ⟨l, h⟩ := pn.at_
      exact (ne_of_none h hA).symm
    refine ⟨⟨p, c, _, A, rfl, pnA, by omega, .inl (.inl upd_same), nAp, fun t D rd vs rs sp H4 s4 pn4 hD0 ht hD irs g rg => ⟨t, _, 0, _, rfl, rfl, ht, atI_nat (j := 0) rfl, ?_⟩⟩⟩
    have nDp : D ≠ p := by
      obtain ⟨l, h⟩ := pnA.at_
      exact (ne_of_none h hD0).symm
    clear ht s4 hA nAp pnA pn hD0
    refine ⟨_, rfl, _, rfl, ⟨⟨D, vs, rs, sp, rfl, hD, irs, rg, fun d1 L1 H5 s5 hd1 pr1 eL1 => ?_⟩⟩⟩
    have pn5 := pn4.same s5
    refine ⟨_, rfl, draw_sat ⟨pn5, by omega, by decide, by decide, fun r H6 s6 pn6 hr6 => ?_⟩⟩
    have hr6 : (r : Int) < 2 := hr6
    have nl6 : NL H4 H6 := by
      obtain ⟨lp, hlp⟩ := pn5.at_
      exact (nl_same s5).trans (nl_x hlp s6)
    have hD6 : H6 D = some (.lst vs) := s6 D _ nDp (s5 _ _ hD)
    have irs6 := irs.nl nl6
    have hdp : d1 ≠ p := by
      obtain ⟨lp, hlp⟩ := pn5.at_
      intro z
      rw [z, hlp] at hd1
      cases hd1
    have hd16 := s6 d1 _ hdp hd1
    have nl56 : NL H5 H6 := by
      obtain ⟨lp, hlp⟩ := pn5.at_
      exact nl_x hlp s6
    have nmL1 : L1.map nmR = (rs.filter fun r => decide (r.kd = ("road" : Str))).map (·.nm) := by
      rw [← told_names, ← eL1, List.map_map]; rfl
    have ndL1 : (L1.map nmR).Nodup := by
      have e2 : L1.map nmR = (toldL rs).map St.name := by rw [← eL1, List.map_map]; rfl
      rw [e2]
      exact told_nd rg.nd
    have lenL1 : L1.length ≤ 14 := by
      have e := congrArg List.length nmL1
      rw [List.length_map, List.length_map] at e
      rw [e]
      exact Nat.le_trans (List.length_filter_le _ _) rg.few
    have okL1 : ∀ x ∈ L1, nameB (nmR x) = true := fun x hx => by
      have : nmR x ∈ L1.map nmR := List.mem_map_of_mem hx
      rw [nmL1] at this
      obtain ⟨q, hq, e⟩ := List.mem_map.mp this
      rw [← e]
      exact rg.nm q (List.mem_filter.mp hq).1
    refine ⟨⟨p, c, _, d1, L1, r, rfl, pn6, by omega, hd16, nl56.prs pr1, ndL1, lenL1, okL1, by omega, fun d2 B H7 s7 pn7 hd2 pB bB => ?_⟩⟩
    rw [eL1] at bB
    have nl7 : NL H6 H7 := by
      obtain ⟨lp, hlp⟩ := pn6.at_
      exact nl_x hlp s7
    have hD7 := s7 D _ nDp hD6
    have irs7 := irs6.nl nl7
    clear eL1 pr1 hd16 hd1 nl56 okL1 lenL1 ndL1 nmL1 hdp irs6 nl6 hD6 s6 s5 irs hD
    refine ⟨_, rfl, _, rfl, ⟨⟨p, c, _, D, vs, rs, sp, rfl, pn7, by omega, hD7, nDp, irs7, g, rg, fun v Lt M cs H8 s8 pn8 iT pm hs => ?_⟩⟩⟩
    have nl8 : NL H7 H8 := by
      obtain ⟨lp, hlp⟩ := pn7.at_
      exact nl_x hlp s8
    have nd2p : d2 ≠ p := by
      obtain ⟨lp, hlp⟩ := pn7.at_
      intro z
      rw [z, hlp] at hd2
      cases hd2
    have hd28 := s8 d2 _ nd2p hd2
    have pB8 := nl8.prs pB
    have hD8 := s8 D _ nDp hD7
    have irs8 := irs7.nl nl8
    refine ⟨_, rfl, ⟨⟨d2, _, rfl, .inl hd28, fun d3 hd3 => ?_⟩⟩⟩
    have s9 := same_new (o := .dK (dN B)) hd3
    have bnd := bB.nd rg.nd
    refine make_signs upd_same (pB8.lx (lx s9)) (fun x hx => bB.ok g rg x hx rfl) bnd (by have := bB.len; have := rg.few; omega) fun u Ls H10 s10 iS pb sb => ⟨_, _, rfl, ?_⟩
    have s11 := s9.trans s10
    have hD10 := s11 _ _ hD8
    have irs10 := irs8.nl (nl_same s11)
    have pn10 := pn8.same s11
    have iT10 := iT.same s11
    have hd210 := s11 _ _ hd28
    have pB10 := pB8.lx (lx s11)
    clear irs8 hD8 pB8 hd28 hd3 iT s9 s10 s11 pn8 nl8 nl7 s8 s7 irs7 hD7 pn7 pn6 pn5 pn4 hd2 pB
    refine ⟨_, rfl, _, rfl, ⟨⟨D, d2, vs, rs, sp, B, rfl, hD10, irs10, rg, hd210, pB10, bB, fun Dt acc H11 s11 hDt iat => ?_⟩⟩⟩
    refine ⟨_, rfl, ⟨⟨D, vs, rs, sp, rfl, s11 _ _ hD10, irs10.nl (nl_same s11), rg, fun Ds ys H12 s12 hDs wd => ⟨_, _, rfl, ?_⟩⟩⟩⟩
    have le := ends_len g rg wd
    have s13 := s11.trans s12
    refine ⟨_, rfl, _, rfl, ⟨⟨Dt, acc, triL B rs, Ds, ys, rfl, s12 _ _ hDt, iat.nl (nl_same s12), by have := triL_len B rs; have := rg.few; omega, hDs, le.1, le.2, fun m H14 s14 lm => ?_⟩⟩⟩
    have s15 := s13.trans s14
    have lap : Lap K H14 v u Lt Ls cs ys m := lap_of g rg hs pm (iT10.same s15) bB pb sb (iS.same s15) wd lm
    have hDs14 := s14 _ _ hDs
    have pn14 := pn10.same s15
    have nDsp : Ds ≠ p := by
      intro z
      obtain ⟨cs', j, l, h1, _⟩ := pn10.same s13
      rw [z, h1] at hDs
      cases ys with
      | nil => simp at hDs
      | cons y r => simp at hDs
    clear irs10 hD10 hd210 pB10 iT10 iS s15 s14 s13 s12 s11 hDt iat hDs bnd lm
    refine ⟨_, rfl, _, _, rfl, rfl, _, rfl, ?_⟩
    by_cases hm : 0 < m
    · rw [decide_eq_true (show ((m : Nat) : Int) > 0 by omega)]
      refine iteT ⟨_, rfl, _, rfl, _, rfl, _, _, ⟨v, u, Lt, Ls, cs, ys, m, rfl, lap.fit, lap.tw, lap.lm, hm, by have := lap.m14; omega, lap.ne, rfl, rfl⟩, ?_, fun S out H15 hS0 hS s15 ol got => ?_⟩
      · have := wards_len lap.l5
        have := List.length_filter_le (fun c => cnt (arcsL Lt Ls) c == m) (wardsL ys)
        show (narL (arcsL Lt Ls) ys m).length ≤ sizeLine
        unfold narL
        rw [sizeLine_eq]; omega
      have s16 := same_new (o := .lst out) hS
      have sA := s15.trans s16
      have nSp : S ≠ p := by
        obtain ⟨lp, hlp⟩ := pn14.at_
        exact (ne_of_none hlp hS0).symm
      have iw : IsWs K (upd H15 S (.lst out)) out (narL (arcsL Lt Ls) ys m) := by
        refine ⟨ol, fun j x hj => ?_⟩
        obtain ⟨Hj, sj, c', hc', iw'⟩ := got j x hj
        exact ⟨c', hc', (iw'.same sj).same s16⟩
      have hS16 : (upd H15 S (.lst out)) S = some (.lst out) := upd_same
      have pn16 := pn14.same sA
      have lap16 := lap.nl (nl_same sA)
      have hDs16 := sA _ _ hDs14
      have one : 1 ≤ out.length := by
        obtain ⟨c', hc', e⟩ := lap.lm.ex
        have : c' ∈ narL (arcsL Lt Ls) ys m := List.mem_filter.mpr ⟨hc', by rw [← e]; simp⟩
        have := List.length_pos_of_mem this
        omega
      have few : out.length ≤ 200 := by
        have := wards_len lap.l5
        have h2 := List.length_filter_le (fun c => cnt (arcsL Lt Ls) c == m) (wardsL ys)
        have h3 : (narL (arcsL Lt Ls) ys m).length ≤ (wardsL ys).length := h2
        omega
      generalize upd H15 S (.lst out) = H16 at iw hS16 pn16 lap16 hDs16
      clear got s16 sA hS hS0 s15 hDs14 pn14 lap
      refine ⟨_, rfl, _, _, rfl, rfl, _, rfl, ?_⟩
      rw [decide_eq_true (show ((m : Nat) : Int) > 0 by omega)]
      refine iteT ⟨_, rfl, by decide, fun e he => ⟨S, e, out, rfl, rfl, .inl (.inl (same_new he _ _ hS16)), .inl (.inl upd_same), fun z => by rw [z] at one; simp at one, _, rfl, iteF ?_⟩⟩
      have s17 := same_new (o := .lst []) he
      have iw17 := iw.nl (nl_same s17)
      have hS17 := s17 _ _ hS16
      have pn17 := pn16.same s17
      have lap17 := lap16.nl (nl_same s17)
      have hDs17 := s17 _ _ hDs16
      generalize upd H16 e (.lst []) = H17 at iw17 hS17 pn17 lap17 hDs17
      clear iw hS16 pn16 lap16 hDs16 he s17
      refine ⟨_, rfl, S, rfl, ⟨_, .inl (.inl hS17)⟩, fun Dx hDx => ?_⟩
      have hSs : SqL K H17 S out := .inl (.inl hS17)
      have nDxp : Dx ≠ p := by
        obtain ⟨lp, hlp⟩ := pn17.at_
        exact (ne_of_none hlp hDx).symm
      refine lc_val (n := out.length) (fun j => .str (((narL (arcsL Lt Ls) ys m).map joinC).getD j Str.empty)) hDx (by omega) (fun j H hj s => itl_go hSs hj s) (fun H s => itl_st hSs s) (fun j x H18 H19 K2 hj s18 y k2 => ?_) (fun H18 s18 e18 => ?_) mg_name
      · obtain ⟨rfl, hx⟩ := itl_y hSs s18 y
        obtain ⟨c', hc', iw'⟩ := (iw17.nl (nl_same s18)).2 j x hx
        have fc := ward_facts lap17.tw lap17.l5 (nar_wards (List.mem_of_getElem? hc'))
        have e' : ((narL (arcsL Lt Ls) ys m).map joinC).getD j Str.empty = joinC c' := by
          rw [List.getD_eq_getElem?_getD, List.getElem?_map, hc']; rfl
        refine ⟨rfl, _, rfl, str_w iw' fc.l5 fc.nm fun H20 s20 => ?_⟩
        have := k2 H20 s20
        rw [e'] at this
        exact this
      · have e19 : (List.range out.length).map (fun j => V.str (((narL (arcsL Lt Ls) ys m).map joinC).getD j Str.empty)) = ((narL (arcsL Lt Ls) ys m).map joinC).map V.str := by
          apply List.ext_getElem (by simp [ol])
          intro j h1 h2
          simp only [List.getElem_map, List.getElem_range, List.getD_eq_getElem?_getD]
          rw [List.getElem?_eq_getElem (by simp at h2 ⊢; exact h2)]
          simp
        rw [e19] at e18
        have st : LawS K p c v u Lt Ls cs ys m S Ds Dx out (1000 * i + 400) H18 := ⟨(pn17.same s18).up (by omega), lap17.nl (nl_same s18), s18 _ _ hS17, iw17.nl (nl_same s18), s18 _ _ hDs17, e18⟩
        clear e18 e19 s18 hSs hDx iw17 hS17 pn17 lap17 hDs17
        refine ⟨_, rfl, S, rfl, ⟨_, .inl (.inl st.hS)⟩, ?_⟩
        refine for_any (n := out.length) (fun j σ H' => LawS K p c v u Lt Ls cs ys m S Ds Dx out (1000 * i + 400 + j) H' ∧ ∃ u12 u13 u14 u15, σ = [some (.ref a), some (.ref p), some (.int (0 + (i : Nat))), some (.ref D), some (.ref d2), some v, some u, some (.ref Dt), some (.ref Ds), some (.int (m : Nat)), some (.ref S), some (.ref Dx), u12, u13, u14, u15])
          ⟨st, _, _, _, _, rfl⟩ (fun j σ H' hj pv => ⟨out, out[j], .inl (.inl pv.1.hS), List.getElem?_eq_getElem hj⟩) (fun σ H' pv => ⟨out, .inl (.inl pv.1.hS), Nat.le_refl _⟩) (fun j x σ H19 H20 hj pv y => ?_) (fun σ H19 pv => ?_)
        · obtain ⟨st, u12, u13, u14, u15, rfl⟩ := pv
          obtain ⟨rfl, hx⟩ := y
          have hx := hx out (.inl (.inl st.hS))
          obtain ⟨A, hA, iA⟩ := st.iw.mem (List.mem_of_getElem? hx)
          have wA := nar_wards hA
          refine ⟨_, rfl, _, rfl, pick_sat st.pen (by omega) (.inl (.inl st.hS)) nSp (fun z => by rw [z] at one; simp at one) (by omega) fun x2 H21 hx2 s21 pn21 => ?_⟩
          have st1 : LawS K p c v u Lt Ls cs ys m S Ds Dx out (1000 * i + 400 + (j + 1)) H21 := st.sx s21 pn21 nSp nDsp nDxp
          have iA1 : IsW K H21 x A := by
            obtain ⟨lp, hlp⟩ := st.pen.at_
            exact (nl_x hlp s21).w iA
          obtain ⟨B2, hB2, iB2⟩ := st1.iw.mem hx2
          have wB2 := nar_wards hB2
          refine ⟨_, rfl, w_corners T iA1 fun t1 ht1 => ⟨_, rfl, w_corners T iB2 fun t2 ht2 => ⟨_, rfl, cross_sat (x1 := x) (x2 := x2) st1 wA wB2 ht1 ht2 fun H22 s22 => ?_⟩⟩⟩
          have st2 := st1.same s22
          have iA2 := iA1.same s22
          have iB22 := iB2.same s22
          obtain ⟨a1, dx1, fs1, e1, h1, t1', ef1⟩ := w_ins iA2
          obtain ⟨a2, dx2, fs2, e2, h2, t2', ef2⟩ := w_ins iB22
          refine ⟨_, rfl, a1, _, dx1, fs1, e1, h1, T.c_Ward, T.m_Ward_crosses, by subst ef1; rfl, _, rfl, _, rfl, crosses_sat st2 wA wB2 iA2 iB22 fun H23 s23 => ⟨_, rfl, ⟨rfl, _, rfl, ?_⟩⟩⟩
          rw [decide_eq_true rfl]
          have st3 := st2.same s23
          refine iteF ⟨_, rfl, a2, _, dx2, fs2, e2, s23 _ _ h2, T.c_Ward, T.m_Ward_crosses, by subst ef2; rfl, _, rfl, _, rfl, crosses_sat st3 wB2 wA (iB22.same s23) (iA2.same s23) fun H24 s24 => ⟨_, rfl, ⟨rfl, _, rfl, ?_⟩⟩⟩
          rw [crossB_symm B2 A, decide_eq_true rfl]
          have st4 := st3.same s24
          have iA4 := (iA2.same s23).same s24
          refine iteF ?_
          refine ⟨_, rfl, S, rfl, ⟨_, .inl (.inl st4.hS)⟩, ?_⟩
          clear st st1 st2 st3 iA iA1 iA2 iB2 iB22 ht1 ht2 s21 s22 s23 s24 h1 h2 e1 e2 ef1 ef2 hx2 pn21
          refine for_any (n := out.length) (fun l σ H' => LawS K p c v u Lt Ls cs ys m S Ds Dx out (1000 * i + 400 + (j + 1)) H' ∧ IsW K H' x A ∧ ∃ u13 u14 u15, σ = [some (.ref a), some (.ref p), some (.int (0 + (i : Nat))), some (.ref D), some (.ref d2), some v, some u, some (.ref Dt), some (.ref Ds), some (.int (m : Nat)), some (.ref S), some (.ref Dx), some x, u13, u14, u15])
            ⟨st4, iA4, _, _, _, rfl⟩ (fun l σ H' hl pv => ⟨out, out[l], .inl (.inl pv.1.hS), List.getElem?_eq_getElem hl⟩) (fun σ H' pv => ⟨out, .inl (.inl pv.1.hS), Nat.le_refl _⟩) (fun l z σ H25 H26 hl pv y => ?_) (fun σ H25 pv => ?_)
          · obtain ⟨st, iA, u13, u14, u15, rfl⟩ := pv
            obtain ⟨rfl, hz⟩ := y
            have hz := hz out (.inl (.inl st.hS))
            obtain ⟨B, hB, iB⟩ := st.iw.mem (List.mem_of_getElem? hz)
            have wB := nar_wards hB
            refine ⟨_, rfl, w_corners T iA fun t1 ht1 => ⟨_, rfl, w_corners T iB fun t2 ht2 => ⟨_, rfl, cross_sat (x1 := x) (x2 := z) st wA wB ht1 ht2 fun H27 s27 => ⟨_, rfl, ite_both (fun hc => ?_) (fun hc => ⟨st.same s27, iA.same s27, _, _, _, rfl⟩)⟩⟩⟩⟩
            have st1 := st.same s27
            have iA1 := iA.same s27
            have iB1 := iB.same s27
            have tw := st1.lap.tw
            have l5 := st1.lap.l5
            have lm := st1.lap.lm
            refine ⟨_, rfl, _, rfl, bin_and tw l5 wA wB hc iA1 iB1 fun vI usI H28 s28 iI wdI => ?_⟩
            have mI := meet_I tw lm hA hB hc wdI
            have fI := ward_facts tw l5 mI.mem
            refine str_w iI fI.l5 fI.nm fun H29 s29 => ?_
            have sA := s28.trans s29
            refine ⟨_, rfl, niL (.inl (.inl (sA _ _ st1.hDx))) ⟨_, rfl, ?_⟩⟩
            rw [mI.txt]
            refine iteF ⟨_, rfl, _, rfl, bin_or tw l5 wB wA (iB1.same sA) (iA1.same sA) fun vU usU H30 s30 iU wdU => ?_⟩
            have mU := meet_U tw lm hA hB hc wdU.comm
            have fU := ward_facts tw l5 mU.mem
            refine str_w iU fU.l5 fU.nm fun H31 s31 => ?_
            have sB := (sA.trans s30).trans s31
            refine ⟨_, rfl, niL (.inl (.inl (sB _ _ st1.hDx))) ⟨_, rfl, ?_⟩⟩
            rw [mU.txt]
            refine iteF ?_
            have st2 := st1.same sB
            have iA2 := iA1.same sB
            have iB2 := iB1.same sB
            refine ⟨_, rfl, _, rfl, _, rfl, _, rfl, bin_and tw l5 wA wB hc iA2 iB2 fun vJ usJ H32 s32 iJ wdJ => ?_⟩
            have mJ := meet_I tw lm hA hB hc wdJ
            refine into_sat (st2.same s32).lap iJ mJ.mem fun H33 s33 => ⟨_, rfl, ⟨rfl, _, rfl, ?_⟩⟩
            rw [mJ.eq, decide_eq_true rfl]
            have sC := s32.trans s33
            refine iteF ⟨_, rfl, _, rfl, _, rfl, _, rfl, bin_or tw l5 wA wB (iA2.same sC) (iB2.same sC) fun vV usV H34 s34 iV wdV => ?_⟩
            have mV := meet_U tw lm hA hB hc wdV
            refine into_sat ((st2.same sC).same s34).lap iV mV.mem fun H35 s35 => ⟨_, rfl, ⟨rfl, _, rfl, ?_⟩⟩
            rw [mV.eq, decide_eq_true rfl]
            have sD := (sC.trans s34).trans s35
            exact iteF ⟨st2.same sD, iA2.same sD, _, _, _, rfl⟩
          · obtain ⟨st, iA, u13, u14, u15, rfl⟩ := pv
            exact ⟨st, _, _, _, _, rfl⟩
        · obtain ⟨st, u12, u13, u14, u15, rfl⟩ := pv
          exact ⟨st.pen.up (by omega), _, _, _, _, _, _, _, _, _, _, _, _, _, _, rfl⟩
    · rw [decide_eq_false (show ¬ ((m : Nat) : Int) > 0 by omega)]
      refine iteF ⟨by decide, fun S hS => ?_⟩
      have s16 := same_new (o := .lst []) hS
      have nSp : S ≠ p := by
        obtain ⟨lp, hlp⟩ := pn14.at_
        exact (ne_of_none hlp hS).symm
      have hS16 : (upd H14 S (.lst [])) S = some (.lst []) := upd_same
      have pn16 := pn14.same s16
      generalize upd H14 S (.lst []) = H16 at hS16 pn16
      refine ⟨_, rfl, _, _, rfl, rfl, _, rfl, ?_⟩
      rw [decide_eq_false (show ¬ ((m : Nat) : Int) > 0 by omega)]
      refine iteF ⟨_, rfl, S, rfl, ⟨_, .inl (.inl hS16)⟩, fun Dx hDx => ?_⟩
      have hSs : SqL K H16 S [] := .inl (.inl hS16)
      refine lc_val (n := 0) (fun j => .int 0) hDx (by omega) (fun j H hj s => absurd hj (Nat.not_lt_zero _)) (fun H s => itl_st hSs s) (fun j x H18 H19 K2 hj s18 y k2 => absurd hj (Nat.not_lt_zero _)) (fun H18 s18 e18 => ?_) mg_name
      refine ⟨_, rfl, S, rfl, ⟨_, .inl (.inl (s18 _ _ hS16))⟩, ?_⟩
      refine for_any (n := 0) (fun j σ H' => SqL K H' S [] ∧ Pen K H' p c (1000 * i + 400) ∧ ∃ u2 u3 u4 u5 u6 u7 u8 u9 u10 u11 u12 u13 u14 u15, σ = [some (.ref a), some (.ref p), u2, u3, u4, u5, u6, u7, u8, u9, u10, u11, u12, u13, u14, u15])
        ⟨.inl (.inl (s18 _ _ hS16)), (pn16.same s18).up (by omega), _, _, _, _, _, _, _, _, _, _, _, _, _, _, rfl⟩ (fun j σ H' hj pv => absurd hj (Nat.not_lt_zero _)) (fun σ H' pv => ⟨[], pv.1, Nat.le_refl _⟩) (fun j x σ H19 H20 hj pv y => absurd hj (Nat.not_lt_zero _)) (fun σ H19 pv => ?_)
      obtain ⟨_, pn, u2, u3, u4, u5, u6, u7, u8, u9, u10, u11, u12, u13, u14, u15, rfl⟩ := pv
      exact ⟨pn.up (by omega), _, _, _, _, _, _, _, _, _, _, _, _, _, _, rfl⟩
  obtain ⟨pn, u2, u3, u4, u5, u6, u7, u8, u9, u10, u11, u12, u13, u14, u15, rfl⟩ := pv
  exact q H2
end
end Tx
/-! ## EndL -/
set_option maxHeartbeats 0
namespace HdT
open PySem PySem.Spec PyProof.Rows L2 Tx Fx
section
variable {w : World} {K : PySem.W.Frag} {mg : Str → Option Value} {base : Heap}
theorem law_ok (T : Txt K mg) : ∃ fd : FuncData, (∀ (s : Shared) (v : Value), BindsTo s fd ⟨[v], []⟩ [("_law_script", v)]) ∧ ∀ base : Heap, K.In base → base.Ns mainGlobals mg → FnOk PG0 w K mg base CX0 25 (He.ga K "law") fd ["_law_script"] (spLaw K) := by
  obtain ⟨fd, F⟩ := T.f_law
  have b := FunD.bindsA (ps := ["_law_script"]) F fun _ _ _ _ _ _ us hl => match us, hl with | [_], _ => rfl
  exact ⟨fd, fun s v => b s [v] rfl, fun base _ _ => ok_law T F⟩
end
end HdT
open PySem PySem.W PySem.Calls PyProof.Rows
theorem PySem.Challenge.cw_signtown_k45_whole_narrow_wards_meet_holds : PySem.Challenge.rw_signtown_k45_whole_narrow_wards_meet.Holds := by
  w_on; o_law
  refine HandSHeadRun.head_any (r := HdT.R) (q := HdT.qv) (H := HdT.hk) (ob := HdT.ob) (M := 14000) (loose := HdT.names) (d := HandSHeadRun.topDef HdT.R.prog 98) (kwd := []) HdT.ob_eq
    (by kernel_rfl) (fun s => by kernel_rfl) HdT.run (by kernel_rfl) (by kernel_rfl) (by kernel_rfl) (by rfl) (by first | assumption | decide +kernel) (by decide +kernel) ⟨rfl, rfl, rfl, rfl, rfl, by decide +kernel⟩ ?hw ?hc
  case hw => w_witness2
  case hc =>
    refine L2.walk_ofE (l := PySem.Challenge.rw_signtown_k45_whole_narrow_wards_meet) (n := 63) (k := 25) (x := "_law_script") (CX := L2.CX0) rfl (by decide) (by kernel_rfl) ⟨rfl, by decide, by decide⟩ ?F (fun _ _ _ _ z => z)
    intro w mg fa h Y G hmg0
    obtain ⟨K, KX, c⟩ := Y
    have hmg : mg ("law" : PySem.Str) = some (.ref fa) := by
      have e : (HandSHeadRun.topDef HdT.R.prog 98).name = ("law" : PySem.Str) := by kernel_rfl
      rw [← e]
      exact hmg0
    have T := HdT.txt_of KX G c
    have e := hmg.symm.trans T.g_law
    cases e
    obtain ⟨fd, hb, hF⟩ := HdT.law_ok (w := w) T
    exact ⟨K, fd, Tx.spLaw K, KX, hb, fun H a ns hl _ hS => ⟨a, ns, rfl, hS, fun _ => rfl⟩, hF⟩
