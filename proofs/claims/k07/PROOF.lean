import PyProof.Rows.All
import Wide.All
import OpenK.AllK
import Wide.FinOn
import HandS.ForMost
import HandS.Exc
import HandS.ExcOwn
import HandS.TryOnly
import HandS.WordsExc
import HandS.CallSlots
import HandS.Flow
import HandS.IsInst
import HandS.TupAny
import HandS.More
import HandS.Zip
import HandS.Deep
import HandS.Style
import HandS.Dict
import HandS.SetKeys
import HandS.Strs
import HandS.Text
import HandS.ExcInit
import HandS.ExcIs
import HandS.ExcField
import KE.KExcIs
import KE.KStateDown
import HandS.Head0
import HandS.Head1
import HandS.Head2
import HandS.HeadEnd
import HandS.HeadHook1
import HandS.HeadHook2
import HandS.Defaults
import HandS.ClsMeth
import KE.SortData
import HandS.Conv
import HandS.SetFor
import HandS.ExcCtx
import HandS.Comp
import KE.GoesComp
import KE.GoesRaise
import KE.KAsSuite
import HandS.HotCalls
import KE.GoesMore
import KE.GoesEnum
import HandS.Hot
import HandS.DeepEq
import KE.KEqNest
import KE.DataFind
import HandS.SortInts
import HandS.ListItems
import HandS.Sort
import KE.KDictSum
import PySem.Challenge.RW_allonge_k07_purses
set_option Elab.async false
set_option linter.all false
set_option maxRecDepth 100000
set_option maxHeartbeats 0
namespace Mn
open PySem L2
open PySem L2
def fnCode (g : Addr → Option Obj) (v : Value) : List Addr := match v with
  | .ref f => (match g f with
    | some ⟨_, _, .func fd, _⟩ => f :: He.refV fd.code
    | _ => [f])
  | _ => []
def nsVals (g : Addr → Option Obj) (a : Addr) : List Value := match g a with
  | some ⟨_, _, .dict es _, _⟩ => es.toList.map (·.val)
  | _ => []
def clsMore (g : Addr → Option Obj) (v : Value) : List Addr := match v with
  | .ref c => (match g c with
    | some ⟨_, _, .cls cd, _⟩ => cd.ns :: (nsVals g cd.ns).flatMap (fnCode g)
    | _ => [])
  | _ => []
def asM (g : Addr → Option Obj) : List Addr := mainGlobals :: cStatics :: ((nsVals g mainGlobals).flatMap (fnCode g) ++ (nsVals g mainGlobals).flatMap (clsMore g))
/-- facts of classes of exceptions -/
inductive Fx where
  | oex (c : Str)
  | nof (c f : Str)
  | mro (c : Str)
  | exc (c : Str)
  | bas (c : Str)
  | dis (l : List Str)
def oexB (K : PySem.W.Frag) (C : Addr) : Bool := (match K.lookup C with
  | some ⟨.type "type", _, .cls cd, sl⟩ => (match cd.mro, sl.toList with
    | .ref D :: bm, [_, _, _, _, some (.builtin n), _] => decide (D = C) && (decide (n = "ValueError.__new__") && (!cd.hasDel && (cd.hasDict && PySem.HandSPX.refsVE bm)))
    | _, _ => false)
  | _ => false) && (He.eqO (PySem.W.findIn K (.ref C) "__setattr__") (some (some (.builtin "object.__setattr__"))) && (decide (PySem.W.subIn K (.ref C) (.type "BaseException") = some true) && (decide (PySem.W.typeIn K (.ref C) = some (.type "type")) && PySem.W.keepIn K (.ref C))))
def veT : List Value := [.type "ValueError", .type "Exception", .type "BaseException", .type "object"]
def exTop : Str := "HallError"
def mroL (K : PySem.W.Frag) (c : Str) : List Value := if c = exTop then .ref (He.ga K c) :: veT else .ref (He.ga K c) :: .ref (He.ga K exTop) :: veT
def Fx.ok (K : PySem.W.Frag) : Fx → Bool
  | .oex c => oexB K (He.ga K c) && (He.eqO (PySem.W.findIn K (.ref (He.ga K c)) "__init__") (some (some (.ref (He.ma K (He.ga K c) "__init__")))) && decide (PySem.W.typeIn K (.ref (He.ma K (He.ga K c) "__init__")) = some (.type "function")))
  | .nof c f => He.eqO (PySem.W.findIn K (.ref (He.ga K c)) f) (some none)
  | .mro c => decide ((PySem.W.clsIn K (He.ga K c)).map (·.mro) = some (mroL K c)) && (decide (PySem.W.typeIn K (.ref (He.ga K c)) = some (.type "type")) && PySem.W.hasDictIn K (He.ga K c))
  | .exc c => He.eqO (PySem.W.findIn K (.ref (He.ga K c)) "__getattribute__") (some (some (.builtin "BaseException.__getattribute__"))) && (He.eqO (PySem.W.findIn K (.ref (He.ga K c)) "__getattr__") (some none) && (PySem.W.hasDictIn K (He.ga K c) && (He.eqO (PySem.W.findIn K (.ref (He.ga K c)) "__class__") (some (some (.builtin "object.__class__"))) &&
      (He.eqO (PySem.W.specialIn K (.builtin "object.__class__") "__get__") (some (some (.builtin "getset_descriptor.__get__"))) && decide (PySem.W.takesIn K (.builtin "object.__class__") = some true)))))
  | .bas c => PySem.W.readsIn K (He.ga K c) (.type "type") && (He.eqO (PySem.W.specialIn K (.ref (He.ga K c)) "__getattribute__") (some (some (.builtin "type.__getattribute__"))) && (match PySem.W.findCls K (.ref (He.ga K c)) (.type "type") "__init__" with
    | some (.val (.ref f)) => decide (f = He.ma K (He.ga K c) "__init__")
    | _ => false))
  | .dis l => decide ((l.map (He.ga K)).Nodup)
abbrev AlM : Type := Bool × He.AlD
def obsMG (fa : List He.Fa) (fx : List Fx) (fn : List He.DefD) (g : Addr → Option Obj) : AlM := (fx.all (fun f => f.ok (He.frG g (asM g))), He.obsD fa fn (He.frG g (asM g)))
/-- what the head leaves -/
structure SaysM (fa : List He.Fa) (fx : List Fx) (fn : List He.DefD) (K : PySem.W.Frag) : Prop where
  d : He.SaysD fa fn K
  x : ∀ f ∈ fx, f.ok K = true
def hookM (fa : List He.Fa) (fx : List Fx) (fn : List He.DefD) : PySem.W.Hook where
  α := AlM
  obs := fun s => obsMG fa fx fn s.heap.get?
  val := fun _ => (true, He.valD fn)
  says := fun _ h => ∃ K : PySem.W.Frag, K.In h ∧ SaysM fa fx fn K
  of := fun _ _ e => ⟨_, He.frG_in, ⟨congrArg (fun z : AlM => z.2) e, List.all_eq_true.mp (congrArg (fun z : AlM => z.1) e)⟩⟩
  keeps := fun _ _ _ ⟨K, hK, c⟩ k => ⟨K, PySem.W.Frag.In.keeps hK k, c⟩
theorem obsMG_eq {fa : List He.Fa} {fx : List Fx} {fn : List He.DefD} {g : Addr → Option Obj} {s : Shared} (h : ∀ a, g a = s.heap.get? a) : obsMG fa fx fn g = (hookM fa fx fn).obs s := by
  have e : g = s.heap.get? := funext h
  rw [e]; rfl
def frees : List Str := ["len", "abs", "int", "max", "sum", "all", "list", "isinstance", "tuple", "bool", "str", "range", "enumerate", "min", "any", "sorted", "dict", "zip", "set"]
def clsSt (s : Stmt) (j : Nat) : Stmt := match s with
  | .ClassDef _ _ _ b _ _ _ _ _ _ _ => b.getD j (.Pass ⟨0, 0, 0, 0⟩)
  | _ => .Pass ⟨0, 0, 0, 0⟩
/-- which exceptions there are: those of one text, and BadLine -/
structure Xc where
  xs : List Str
  bl : Bool
def blL (X : Xc) : List Str := if X.bl = true then ["BadLine"] else []
def exA (X : Xc) : List Str := blL X ++ X.xs
def exU (X : Xc) : List Str := exTop :: exA X
def fldL : List (Str × Str) := [("Purses", "held"), ("Hall", "chest"), ("Hall", "down"), ("Hall", "clock"), ("Hall", "bills"), ("Hall", "done"), ("Bill", "drawer"), ("Bill", "drawee"), ("Bill", "payee"), ("Bill", "amount"), ("Bill", "due"), ("Bill", "slip"), ("Bill", "keeper"), ("Bill", "stage"), ("Bill", "edition"), ("Bill", "blank")]
/-- the facts that the head must tell -/
def faX (X : Xc) (fl : List (Str × Str)) : List He.Fa := (exU X).map .glo ++ (fl.map fun q => He.Fa.cls q.1) ++ ((fl.map fun q => He.Fa.noat q.1 q.2) ++ [He.Fa.free "ValueError"])
def fxX (X : Xc) : List Fx := (exA X).map .oex ++ (((exA X).map fun c => Fx.nof c "why") ++ (((exA X).map fun c => Fx.nof c "word") ++ ((exU X).map .mro ++ ((exU X).map .exc ++ ([.bas exTop, .dis (exU X)] ++ (blL X).map fun c => Fx.nof c "at")))))
def ex25 : List Str := ["BadName", "Taken", "BadCoins", "Full", "NoHouse", "NoCoins", "Failed", "Standing", "BadCount", "BadDay", "NoBill", "Void", "Closed", "Accepted", "Same", "NotBlank", "NotYet", "NotPresented", "Protested", "TooLate", "NotBound", "CantPay", "NotProtested", "IsBound", "Twice"]
/-- the exceptions of the hall, and others -/
def xc (ys : List Str) (yb : Bool) : Xc := ⟨ex25 ++ ys, yb⟩
def cmb (a b : AlM) : AlM := (a.1 && b.1, (a.2.1 && b.2.1, a.2.2 ++ b.2.2))
theorem obs_app {fa fa' : List He.Fa} {fx fx' : List Fx} {fn fn' : List He.DefD} {g : Addr → Option Obj} : obsMG (fa ++ fa') (fx ++ fx') (fn ++ fn') g = cmb (obsMG fa fx fn g) (obsMG fa' fx' fn' g) := by
  unfold obsMG cmb He.obsD
  simp only [List.all_append, List.map_append, Prod.mk.injEq, true_and, and_true]
  generalize (fa.all fun f => f.ok (He.frG g (asM g))) = a
  generalize (fa'.all fun f => f.ok (He.frG g (asM g))) = b
  generalize (fn.all fun d => d.ok (He.frG g (asM g))) = c
  generalize (fn'.all fun d => d.ok (He.frG g (asM g))) = d
  cases a <;> cases b <;> cases c <;> cases d <;> rfl
def obM (fa : List He.Fa) (fx : List Fx) (fn : List He.DefD) (s : PySem.W.SharedT) : AlM := obsMG fa fx fn (HandSHeadRun.getT s)
theorem obM_eq {fa : List He.Fa} {fx : List Fx} {fn : List He.DefD} (s : PySem.W.SharedT) : obM fa fx fn s = (hookM fa fx fn).obs s.abs := obsMG_eq (HandSHeadRun.getT_eq s)
theorem run_app {r : PySem.W.OpenRow} {q : Program} {M : Nat} {nm : List PySem.Str} {w : World} {fa fa' : List He.Fa} {fx fx' : List Fx} {fn fn' : List He.DefD} (h1 : HandSHeadRun.RunEq r q (hookM fa fx fn) (obM fa fx fn) M nm w) (h2 : HandSHeadRun.RunEq r q (hookM fa' fx' fn') (obM fa' fx' fn') M nm w) :
    HandSHeadRun.RunEq r q (hookM (fa ++ fa') (fx ++ fx') (fn ++ fn')) (obM (fa ++ fa') (fx ++ fx') (fn ++ fn')) M nm w := by
  intro os
  obtain ⟨s, hs, e⟩ := Option.map_eq_some_iff.mp (h1 os)
  obtain ⟨s', hs', e'⟩ := Option.map_eq_some_iff.mp (h2 os)
  obtain rfl : s = s' := Option.some.inj (hs.symm.trans hs')
  refine Option.map_eq_some_iff.mpr ⟨s, hs, ?_⟩
  have e1 := congrArg (fun z => z.1) e
  have e2 := congrArg (fun z => z.2.1) e
  have e3 : obM fa fx fn s = (hookM fa fx fn).val w := congrArg (fun z => z.2.2) e
  have e4 : obM fa' fx' fn' s = (hookM fa' fx' fn').val w := congrArg (fun z => z.2.2) e'
  refine Prod.ext e1 (Prod.ext e2 ?_)
  show obM (fa ++ fa') (fx ++ fx') (fn ++ fn') s = (true, He.valD (fn ++ fn'))
  unfold obM at e3 e4 ⊢
  rw [obs_app, e3, e4]
  show cmb (true, He.valD fn) (true, He.valD fn') = _
  unfold cmb He.valD
  simp
end Mn
namespace Mn
open PySem L2
def stAt (i : Nat) : Stmt := PySem.Challenge.pw_allonge_k07_purses.main.body.getD i (.Pass ⟨0, 0, 0, 0⟩)
def d_Purses___init__ : He.DefD := ⟨("Purses", some "__init__"), "__init__", "Purses.__init__", defArgs (clsSt (stAt 8) 0), defBody (clsSt (stAt 8) 0), defScope (clsSt (stAt 8) 0), [], []⟩
def d_Purses_need : He.DefD := ⟨("Purses", some "need"), "need", "Purses.need", defArgs (clsSt (stAt 8) 1), defBody (clsSt (stAt 8) 1), defScope (clsSt (stAt 8) 1), [], []⟩
def d_Purses_look_at : He.DefD := ⟨("Purses", some "look_at"), "look_at", "Purses.look_at", defArgs (clsSt (stAt 8) 2), defBody (clsSt (stAt 8) 2), defScope (clsSt (stAt 8) 2), [], []⟩
def d_Purses_add_purse : He.DefD := ⟨("Purses", some "add_purse"), "add_purse", "Purses.add_purse", defArgs (clsSt (stAt 8) 3), defBody (clsSt (stAt 8) 3), defScope (clsSt (stAt 8) 3), [], []⟩
def d_Purses_coins : He.DefD := ⟨("Purses", some "coins"), "coins", "Purses.coins", defArgs (clsSt (stAt 8) 4), defBody (clsSt (stAt 8) 4), defScope (clsSt (stAt 8) 4), [], []⟩
def d_Purses_fill : He.DefD := ⟨("Purses", some "fill"), "fill", "Purses.fill", defArgs (clsSt (stAt 8) 5), defBody (clsSt (stAt 8) 5), defScope (clsSt (stAt 8) 5), [], []⟩
def d_Purses_spend : He.DefD := ⟨("Purses", some "spend"), "spend", "Purses.spend", defArgs (clsSt (stAt 8) 6), defBody (clsSt (stAt 8) 6), defScope (clsSt (stAt 8) 6), [], []⟩
def d_Purses_pay : He.DefD := ⟨("Purses", some "pay"), "pay", "Purses.pay", defArgs (clsSt (stAt 8) 7), defBody (clsSt (stAt 8) 7), defScope (clsSt (stAt 8) 7), [], []⟩
def d_Purses_total : He.DefD := ⟨("Purses", some "total"), "total", "Purses.total", defArgs (clsSt (stAt 8) 8), defBody (clsSt (stAt 8) 8), defScope (clsSt (stAt 8) 8), [], []⟩
def d_Purses_all_names : He.DefD := ⟨("Purses", some "all_names"), "all_names", "Purses.all_names", defArgs (clsSt (stAt 8) 9), defBody (clsSt (stAt 8) 9), defScope (clsSt (stAt 8) 9), [], []⟩
def d__law_feed : He.DefD := ⟨("_law_feed", none), "_law_feed", "_law_feed", defArgs (stAt 10), defBody (stAt 10), defScope (stAt 10), [], []⟩
def d__law_name : He.DefD := ⟨("_law_name", none), "_law_name", "_law_name", defArgs (stAt 11), defBody (stAt 11), defScope (stAt 11), [], []⟩
def d__law_same : He.DefD := ⟨("_law_same", none), "_law_same", "_law_same", defArgs (stAt 12), defBody (stAt 12), defScope (stAt 12), [], []⟩
def d__law_do : He.DefD := ⟨("_law_do", none), "_law_do", "_law_do", defArgs (stAt 13), defBody (stAt 13), defScope (stAt 13), [], []⟩
def d__law_kinds : He.DefD := ⟨("_law_kinds", none), "_law_kinds", "_law_kinds", defArgs (stAt 14), defBody (stAt 14), defScope (stAt 14), [], []⟩
def d__law_due : He.DefD := ⟨("_law_due", none), "_law_due", "_law_due", defArgs (stAt 15), defBody (stAt 15), defScope (stAt 15), [], []⟩
def d__law_moved : He.DefD := ⟨("_law_moved", none), "_law_moved", "_law_moved", defArgs (stAt 16), defBody (stAt 16), defScope (stAt 16), [], []⟩
def d__law_strange : He.DefD := ⟨("_law_strange", none), "_law_strange", "_law_strange", defArgs (stAt 17), defBody (stAt 17), defScope (stAt 17), [], []⟩
def d__law_right : He.DefD := ⟨("_law_right", none), "_law_right", "_law_right", defArgs (stAt 18), defBody (stAt 18), defScope (stAt 18), [], []⟩
def d_law : He.DefD := ⟨("law", none), "law", "law", defArgs (stAt 19), defBody (stAt 19), defScope (stAt 19), [], []⟩
def x_HallError : He.DefD := ⟨("HallError", some "__init__"), "__init__", "HallError.__init__", defArgs (clsSt (stAt 2) 0), defBody (clsSt (stAt 2) 0), defScope (clsSt (stAt 2) 0), [], []⟩
def x_Taken : He.DefD := ⟨("Taken", some "__init__"), "__init__", "Taken.__init__", defArgs (clsSt (stAt 3) 0), defBody (clsSt (stAt 3) 0), defScope (clsSt (stAt 3) 0), [], []⟩
def x_BadCoins : He.DefD := ⟨("BadCoins", some "__init__"), "__init__", "BadCoins.__init__", defArgs (clsSt (stAt 4) 0), defBody (clsSt (stAt 4) 0), defScope (clsSt (stAt 4) 0), [], []⟩
def x_NoHouse : He.DefD := ⟨("NoHouse", some "__init__"), "__init__", "NoHouse.__init__", defArgs (clsSt (stAt 5) 0), defBody (clsSt (stAt 5) 0), defScope (clsSt (stAt 5) 0), [], []⟩
def x_NoCoins : He.DefD := ⟨("NoCoins", some "__init__"), "__init__", "NoCoins.__init__", defArgs (clsSt (stAt 6) 0), defBody (clsSt (stAt 6) 0), defScope (clsSt (stAt 6) 0), [], []⟩
def fn0_0 : List He.DefD := [d_Purses___init__, d_Purses_need, d_Purses_look_at, d_Purses_add_purse, d_Purses_coins, d_Purses_fill, d_Purses_spend, d_Purses_pay, d_Purses_total, d_Purses_all_names]
def fnP0 : List He.DefD := fn0_0
def fn1_0 : List He.DefD := [d__law_feed, d__law_name, d__law_same, d__law_do, d__law_kinds, d__law_due, d__law_moved, d__law_strange, d__law_right, d_law]
def fnP1 : List He.DefD := fn1_0
def fn2_0 : List He.DefD := [x_HallError, x_Taken, x_BadCoins, x_NoHouse, x_NoCoins]
def fnP2 : List He.DefD := fn2_0
def fnA : List He.DefD := fnP0 ++ (fnP1 ++ (fnP2))
def fa0_0 : List He.Fa := [.glo "Purses", .cls "Purses", .mkr "Purses", .meth "Purses" "need", .meth "Purses" "look_at", .meth "Purses" "add_purse", .meth "Purses" "coins", .meth "Purses" "fill", .meth "Purses" "spend", .meth "Purses" "pay", .meth "Purses" "total"]
def faQ0 : List He.Fa := fa0_0
def fa1_0 : List He.Fa := [.meth "Purses" "all_names", .glo "_law_feed", .glo "_law_name", .glo "_law_same", .glo "_law_do", .glo "_law_kinds", .glo "_law_due", .glo "_law_moved", .glo "_law_strange", .glo "_law_right", .glo "law"]
def faQ1 : List He.Fa := fa1_0
def flA : List (Str × Str) := [("Purses", "held")]
def XA : Xc := ⟨["Taken", "BadCoins", "NoHouse", "NoCoins"], false⟩
def faP0 : List He.Fa := frees.map He.Fa.free ++ faQ0
def faP1 : List He.Fa := faQ1
def faP2 : List He.Fa := faX XA flA
def fxP0 : List Fx := []
def fxP1 : List Fx := []
def fxP2 : List Fx := fxX XA
def faA : List He.Fa := faP0 ++ (faP1 ++ (faP2))
def fxA : List Fx := fxP0 ++ (fxP1 ++ (fxP2))
def nm0 : List PySem.Str := ["_wall", "__name__", "HallError", "Taken", "BadCoins", "NoHouse", "NoCoins", "Purses", "_law_feed", "_law_name", "_law_same", "_law_do", "_law_kinds", "_law_due", "_law_moved", "_law_strange", "_law_right"]
def nmZ : List PySem.Str := nm0
abbrev R0 : PySem.W.OpenRow := PySem.W.OpenLaw.row PySem.Challenge.rw_allonge_k07_purses
/-- the head's run, looked at by a hook alone -/
def RunOb (r : PySem.W.OpenRow) (H : PySem.W.Hook) (ob : PySem.W.SharedT → H.α) (M : Nat) (w : World) : Prop :=
  ∀ os : OsState, (HandSHeadRun.endF (HandSHeadRun.stepQ (HandSHeadRun.denQ HandSHeadRun.tabQ) r.prog w) M r.prog w os).map ob = some (H.val w)
theorem ob_app {r : PySem.W.OpenRow} {M : Nat} {w : World} {fa fa' : List He.Fa} {fx fx' : List Fx} {fn fn' : List He.DefD} (h1 : RunOb r (hookM fa fx fn) (obM fa fx fn) M w) (h2 : RunOb r (hookM fa' fx' fn') (obM fa' fx' fn') M w) :
    RunOb r (hookM (fa ++ fa') (fx ++ fx') (fn ++ fn')) (obM (fa ++ fa') (fx ++ fx') (fn ++ fn')) M w := by
  intro os
  obtain ⟨s, hs, e3⟩ := Option.map_eq_some_iff.mp (h1 os)
  obtain ⟨s', hs', e4⟩ := Option.map_eq_some_iff.mp (h2 os)
  obtain rfl : s = s' := Option.some.inj (hs.symm.trans hs')
  refine Option.map_eq_some_iff.mpr ⟨s, hs, ?_⟩
  replace e3 : obM fa fx fn s = (true, He.valD fn) := e3
  replace e4 : obM fa' fx' fn' s = (true, He.valD fn') := e4
  show obM (fa ++ fa') (fx ++ fx') (fn ++ fn') s = (true, He.valD (fn ++ fn'))
  unfold obM at e3 e4 ⊢
  rw [obs_app, e3, e4]
  show cmb (true, He.valD fn) (true, He.valD fn') = _
  unfold cmb He.valD
  simp
theorem run_ob {r : PySem.W.OpenRow} {q : Program} {M : Nat} {nm : List PySem.Str} {w : World} {fa : List He.Fa} {fx : List Fx} {fn : List He.DefD} (h1 : RunOb r (hookM fa fx fn) (obM fa fx fn) M w) (h2 : HandSHeadRun.RunEq r q (hookM [] [] []) (obM [] [] []) M nm w) :
    HandSHeadRun.RunEq r q (hookM fa fx fn) (obM fa fx fn) M nm w := by
  intro os
  obtain ⟨s, hs, e3⟩ := Option.map_eq_some_iff.mp (h1 os)
  obtain ⟨s', hs', e'⟩ := Option.map_eq_some_iff.mp (h2 os)
  obtain rfl : s = s' := Option.some.inj (hs.symm.trans hs')
  exact Option.map_eq_some_iff.mpr ⟨s, hs, Prod.ext (congrArg (fun z => z.1) e') (Prod.ext (congrArg (fun z => z.2.1) e') e3)⟩
theorem runP0 (w : World) : RunOb R0 (hookM faP0 fxP0 fnP0) (obM faP0 fxP0 fnP0) 200000 w := by
  intro os
  kernel_rfl
theorem runP1 (w : World) : RunOb R0 (hookM faP1 fxP1 fnP1) (obM faP1 fxP1 fnP1) 200000 w := by
  intro os
  kernel_rfl
theorem runP2 (w : World) : RunOb R0 (hookM faP2 fxP2 fnP2) (obM faP2 fxP2 fnP2) 200000 w := by
  intro os
  kernel_rfl
abbrev hkA : PySem.W.Hook := hookM faA fxA fnA
def obA (s : PySem.W.SharedT) : AlM := obM faA fxA fnA s
theorem obA_eq (s : PySem.W.SharedT) : obA s = hkA.obs s.abs := obM_eq s
theorem runE (w : World) : HandSHeadRun.RunEq R0 (PySem.W.view R0.prog [19]) (hookM [] [] []) (obM [] [] []) 200000 nmZ w := by
  intro os
  kernel_rfl
theorem runA (w : World) : HandSHeadRun.RunEq R0 (PySem.W.view R0.prog [19]) hkA obA 200000 nmZ w := run_ob (ob_app (runP0 w) (ob_app (runP1 w) (runP2 w))) (runE w)
inductive D where
  | non | bl (b : Bool) | int (i : Int) | str (x : Str) | ty (n : String) | ref (a : Addr)
  | tup (xs : List D) | lst (xs : List D) | scr (ns : List Int)
inductive MO where
  | lst (xs : List D)
  | dct (kvs : List (Key × D))
  | dcT (kvs : List (List Key × D))
  | ins (c : Str) (fs : List (Str × D))
  /-- a dict that is walked: read, not written -/
  | ldc (o : Obj) (ks : List (Key × V)) (kvs : List (Key × D))
abbrev Sto := Addr → Option MO
section
variable {κ α : Type} [DecidableEq κ]
def gv (kvs : List (κ × α)) (k : κ) : Option α := (kvs.find? fun kv => decide (kv.1 = k)).map (·.2)
def gp (kvs : List (κ × α)) (k : κ) (v : α) : List (κ × α) := if (kvs.any fun kv => decide (kv.1 = k)) = true then kvs.map (fun kv => if kv.1 = k then (kv.1, v) else kv) else kvs ++ [(k, v)]
def pf (f : κ) (v : α) : List (κ × α) → List (κ × α)
  | [] => [(f, v)]
  | (g, x) :: r => if g = f then (g, v) :: r else (g, x) :: pf f v r
end
abbrev Env := List (Option D)
def put (S : Sto) (a : Addr) (o : MO) : Sto := fun b => if b = a then some o else S b
def rm (S : Sto) (a : Addr) : Sto := fun b => if b = a then none else S b
theorem put_same {S : Sto} {a : Addr} {o : MO} : put S a o a = some o := by unfold put; rw [if_pos rfl]
theorem put_ne {S : Sto} {a b : Addr} {o : MO} (h : b ≠ a) : put S a o b = S b := by unfold put; rw [if_neg h]
theorem rm_same {S : Sto} {a : Addr} : rm S a a = none := by unfold rm; rw [if_pos rfl]
theorem rm_ne {S : Sto} {a b : Addr} (h : b ≠ a) : rm S a b = S b := by unfold rm; rw [if_neg h]
theorem put_put {S : Sto} {a : Addr} {o u : MO} : put (put S a o) a u = put S a u := by
  funext b; unfold put; split <;> rfl
theorem rm_put {S : Sto} {a : Addr} {o : MO} (h : S a = none) : rm (put S a o) a = S := by
  funext b; unfold rm put; split
  · rename_i e; rw [e, h]
  · rfl
/-- where one stands: the written part, the classes' addresses, the lists that are being made -/
structure Cc where
  K : PySem.W.Frag
  ga : Str → Addr
  Z : Addr → Prop
def KT (K : PySem.W.Frag) (a : Addr) (xs : List V) : Prop := ∃ (o : Obj) (its : Array Value) (n : Nat), K.lookup a = some o ∧ o.cls = .type "tuple" ∧ o.data = .seq its n ∧ its.size ≤ sizeLine ∧ Vals xs its.toList
def KL (K : PySem.W.Frag) (a : Addr) (xs : List V) : Prop := ∃ (o : Obj) (its : Array Value) (n : Nat), K.lookup a = some o ∧ o.cls = .type "list" ∧ o.dict = none ∧ o.data = .seq its n ∧ its.size ≤ sizeLine ∧ Vals xs its.toList
def FzT (C : Cc) (H : Hp) (S : Sto) (a : Addr) (vs : List V) : Prop := H a = some (.tup vs) ∧ S a = none
def FzL (C : Cc) (H : Hp) (S : Sto) (a : Addr) (vs : List V) : Prop := H a = some (.lst vs) ∧ S a = none ∧ ¬ C.Z a
theorem FzT.sq {C : Cc} {H : Hp} {S : Sto} {a : Addr} {vs : List V} (h : FzT C H S a vs) : SqT C.K H a vs := by
  exact .inl (.inl h.1)
theorem FzL.sq {C : Cc} {H : Hp} {S : Sto} {a : Addr} {vs : List V} (h : FzL C H S a vs) : SqL C.K H a vs := .inl (.inl h.1)
mutual
def RelD (C : Cc) (H : Hp) (S : Sto) : D → V → Prop
  | .non, v => v = .non
  | .bl b, v => v = .bl b
  | .int i, v => v = .int i
  | .str x, v => v = .str x ∧ PySem.PyData.strOk x = true
  | .ty n, v => v = .ty n
  | .ref a, v => v = .ref a
  | .tup ds, v => ∃ a vs, v = .ref a ∧ FzT C H S a vs ∧ RelDs C H S ds vs
  | .lst ds, v => ∃ a vs, v = .ref a ∧ FzL C H S a vs ∧ RelDs C H S ds vs
  | .scr ns, v => ∃ a, v = .ref a ∧ ((Rd H a (.lst (ns.map V.int)) ∧ S a = none ∧ ¬ C.Z a) ∨ KL C.K a (ns.map V.int))
def RelDs (C : Cc) (H : Hp) (S : Sto) : List D → List V → Prop
  | [], vs => vs = []
  | d :: ds, vs => ∃ v r, vs = v :: r ∧ RelD C H S d v ∧ RelDs C H S ds r
end
/-- what is tracked and not in the store stays -/
def Ext (H : Hp) (S : Sto) (H' : Hp) (S' : Sto) : Prop := ∀ b u, H b = some u → S b = none → H' b = some u ∧ S' b = none
theorem Ext.refl (H : Hp) (S : Sto) : Ext H S H S := fun _ _ h s => ⟨h, s⟩
theorem Ext.trans {H H1 H2 : Hp} {S S1 S2 : Sto} (a : Ext H S H1 S1) (b : Ext H1 S1 H2 S2) : Ext H S H2 S2 := fun c u h s => by
  obtain ⟨h1, s1⟩ := a c u h s
  exact b c u h1 s1
theorem Ext.new {H : Hp} {S : Sto} {p : Addr} {o : HO} (h : H p = none) : Ext H S (upd H p o) S := fun b u e s => ⟨by rw [upd_ne (ne_of_none e h)]; exact e, s⟩
theorem Ext.newM {H : Hp} {S : Sto} {p : Addr} {o : HO} {m : MO} (h : H p = none) : Ext H S (upd H p o) (put S p m) := fun b u e s => by
  have n := ne_of_none e h
  exact ⟨by rw [upd_ne n]; exact e, by rw [put_ne n]; exact s⟩
theorem Ext.set {H : Hp} {S : Sto} {p : Addr} {o : HO} {m m' : MO} (h : S p = some m') : Ext H S (upd H p o) (put S p m) := fun b u e s => by
  have n : b ≠ p := fun z => by subst z; rw [h] at s; cases s
  exact ⟨by rw [upd_ne n]; exact e, by rw [put_ne n]; exact s⟩
theorem Ext.rm {H : Hp} {S : Sto} {p : Addr} : Ext H S H (rm S p) := fun b u e s => ⟨e, by unfold Mn.rm; split <;> first | rfl | exact s⟩
section
variable {C : Cc} {H H' : Hp} {S S' : Sto}
theorem Rd.ext {a : Addr} {u : HO} (h : Rd H a u) (s : S a = none) (e : Ext H S H' S') : Rd H' a u ∧ S' a = none := by
  rcases h with h | ⟨o, h⟩
  · exact ⟨.inl (e _ _ h s).1, (e _ _ h s).2⟩
  · exact ⟨.inr ⟨o, (e _ _ h s).1⟩, (e _ _ h s).2⟩
theorem FzT.ext {a : Addr} {vs : List V} (h : FzT C H S a vs) (e : Ext H S H' S') : FzT C H' S' a vs := by
  exact e _ _ h.1 h.2
theorem FzL.ext {a : Addr} {vs : List V} (h : FzL C H S a vs) (e : Ext H S H' S') : FzL C H' S' a vs :=
  ⟨(e _ _ h.1 h.2.1).1, (e _ _ h.1 h.2.1).2, h.2.2⟩
mutual
theorem RelD.ext (e : Ext H S H' S') : ∀ {d : D} {v : V}, RelD C H S d v → RelD C H' S' d v
  | .non, _, h => by unfold RelD at h ⊢; exact h
  | .bl _, _, h => by unfold RelD at h ⊢; exact h
  | .int _, _, h => by unfold RelD at h ⊢; exact h
  | .str _, _, h => by unfold RelD at h ⊢; exact h
  | .ty _, _, h => by unfold RelD at h ⊢; exact h
  | .ref _, _, h => by unfold RelD at h ⊢; exact h
  | .tup _, _, h => by
    unfold RelD at h ⊢
    obtain ⟨a, vs, rfl, f, r⟩ := h
    exact ⟨a, vs, rfl, f.ext e, RelDs.ext e r⟩
  | .lst _, _, h => by
    unfold RelD at h ⊢
    obtain ⟨a, vs, rfl, f, r⟩ := h
    exact ⟨a, vs, rfl, f.ext e, RelDs.ext e r⟩
  | .scr _, _, h => by
    unfold RelD at h ⊢
    obtain ⟨a, rfl, ⟨f, r, z⟩ | f⟩ := h
    · exact ⟨a, rfl, .inl ⟨(Rd.ext f r e).1, (Rd.ext f r e).2, z⟩⟩
    · exact ⟨a, rfl, .inr f⟩
theorem RelDs.ext (e : Ext H S H' S') : ∀ {ds : List D} {vs : List V}, RelDs C H S ds vs → RelDs C H' S' ds vs
  | [], _, h => by unfold RelDs at h ⊢; exact h
  | _ :: _, _, h => by
    unfold RelDs at h ⊢
    obtain ⟨v, r, rfl, h1, h2⟩ := h
    exact ⟨v, r, rfl, RelD.ext e h1, RelDs.ext e h2⟩
end
/-- fewer lists in the making -/
def Cc.wz (C : Cc) (Z : Addr → Prop) : Cc := { C with Z := Z }
mutual
theorem RelD.wz {Z : Addr → Prop} (e : ∀ a, Z a → C.Z a ∨ H a = none) : ∀ {d : D} {v : V}, RelD C H S d v → RelD (C.wz Z) H S d v
  | .non, _, h => by unfold RelD at h ⊢; exact h
  | .bl _, _, h => by unfold RelD at h ⊢; exact h
  | .int _, _, h => by unfold RelD at h ⊢; exact h
  | .str _, _, h => by unfold RelD at h ⊢; exact h
  | .ty _, _, h => by unfold RelD at h ⊢; exact h
  | .ref _, _, h => by unfold RelD at h ⊢; exact h
  | .tup _, _, h => by
    unfold RelD at h ⊢
    obtain ⟨a, vs, rfl, f, r⟩ := h
    exact ⟨a, vs, rfl, f, RelDs.wz e r⟩
  | .lst _, _, h => by
    unfold RelD at h ⊢
    obtain ⟨a, vs, rfl, f, r⟩ := h
    exact ⟨a, vs, rfl, ⟨f.1, f.2.1, fun z => (e a z).elim f.2.2 fun q => by rw [f.1] at q; cases q⟩, RelDs.wz e r⟩
  | .scr _, _, h => by
    unfold RelD at h ⊢
    obtain ⟨a, rfl, ⟨f, r, z⟩ | f⟩ := h
    · refine ⟨a, rfl, .inl ⟨f, r, fun q => (e a q).elim z fun w => ?_⟩⟩
      rcases f with f | ⟨o, f⟩ <;> (rw [w] at f; cases f)
    · exact ⟨a, rfl, .inr f⟩
theorem RelDs.wz {Z : Addr → Prop} (e : ∀ a, Z a → C.Z a ∨ H a = none) : ∀ {ds : List D} {vs : List V}, RelDs C H S ds vs → RelDs (C.wz Z) H S ds vs
  | [], _, h => by unfold RelDs at h ⊢; exact h
  | _ :: _, _, h => by
    unfold RelDs at h ⊢
    obtain ⟨v, r, rfl, h1, h2⟩ := h
    exact ⟨v, r, rfl, RelD.wz e h1, RelDs.wz e h2⟩
end
end
/-- moved to another heap and store: what is frozen must stay -/
structure Mv (C C' : Cc) (H H' : Hp) (S S' : Sto) : Prop where
  K : C'.K = C.K
  t : ∀ a vs, H a = some (.tup vs) → S a = none → H' a = some (.tup vs) ∧ S' a = none
  l : ∀ a u, H a = some u → S a = none → ¬ C.Z a → H' a = some u ∧ S' a = none ∧ ¬ C'.Z a
section
variable {C C' : Cc} {H H' : Hp} {S S' : Sto}
mutual
theorem RelD.mv (e : Mv C C' H H' S S') : ∀ {d : D} {v : V}, RelD C H S d v → RelD C' H' S' d v
  | .non, _, h => by unfold RelD at h ⊢; exact h
  | .bl _, _, h => by unfold RelD at h ⊢; exact h
  | .int _, _, h => by unfold RelD at h ⊢; exact h
  | .str _, _, h => by unfold RelD at h ⊢; exact h
  | .ty _, _, h => by unfold RelD at h ⊢; exact h
  | .ref _, _, h => by unfold RelD at h ⊢; exact h
  | .tup _, _, h => by
    unfold RelD at h ⊢
    obtain ⟨a, vs, rfl, f, r⟩ := h
    exact ⟨a, vs, rfl, e.t _ _ f.1 f.2, RelDs.mv e r⟩
  | .lst _, _, h => by
    unfold RelD at h ⊢
    obtain ⟨a, vs, rfl, f, r⟩ := h
    exact ⟨a, vs, rfl, e.l _ _ f.1 f.2.1 f.2.2, RelDs.mv e r⟩
  | .scr _, _, h => by
    unfold RelD at h ⊢
    obtain ⟨a, rfl, ⟨(f | ⟨o, f⟩), r, z⟩ | f⟩ := h
    · obtain ⟨h1, h2, h3⟩ := e.l _ _ f r z
      exact ⟨a, rfl, .inl ⟨.inl h1, h2, h3⟩⟩
    · obtain ⟨h1, h2, h3⟩ := e.l _ _ f r z
      exact ⟨a, rfl, .inl ⟨.inr ⟨o, h1⟩, h2, h3⟩⟩
    · exact ⟨a, rfl, .inr (by rw [e.K]; exact f)⟩
theorem RelDs.mv (e : Mv C C' H H' S S') : ∀ {ds : List D} {vs : List V}, RelDs C H S ds vs → RelDs C' H' S' ds vs
  | [], _, h => by unfold RelDs at h ⊢; exact h
  | _ :: _, _, h => by
    unfold RelDs at h ⊢
    obtain ⟨v, r, rfl, h1, h2⟩ := h
    exact ⟨v, r, rfl, RelD.mv e h1, RelDs.mv e h2⟩
end
end
def RelF (C : Cc) (H : Hp) (S : Sto) : List (Str × D) → List (Str × V) → Prop
  | [], l => l = []
  | (f, d) :: r, l => ∃ v l', l = (f, v) :: l' ∧ RelD C H S d v ∧ RelF C H S r l'
def RelK {κ : Type} (C : Cc) (H : Hp) (S : Sto) : List (κ × D) → List (κ × V) → Prop
  | [], l => l = []
  | (f, d) :: r, l => ∃ v l', l = (f, v) :: l' ∧ RelD C H S d v ∧ RelK C H S r l'
def RelM (C : Cc) (H : Hp) (S : Sto) : MO → HO → Prop
  | .lst ds, o => ∃ vs, o = .lst vs ∧ RelDs C H S ds vs
  | .dct kvs, o => ∃ ks, o = .dK ks ∧ RelK C H S kvs ks
  | .dcT kvs, o => ∃ ks, o = .dT ks ∧ RelK C H S kvs ks
  | .ins c fs, o => ∃ dx l, o = .ins (C.ga c) dx l ∧ RelF C H S fs l
  | .ldc od ks kvs, o => o = .frz od (.dK ks) ∧ RelK C H S kvs ks
structure Rp (C : Cc) (H : Hp) (S : Sto) : Prop where
  obj : ∀ a m, S a = some m → ∃ o, H a = some o ∧ RelM C H S m o
  z : ∀ a, C.Z a → (∃ xs, H a = some (.lst xs)) ∧ S a = none
section
variable {C : Cc} {H H' : Hp} {S S' : Sto}
theorem RelF.ext (e : Ext H S H' S') : ∀ {fs : List (Str × D)} {l : List (Str × V)}, RelF C H S fs l → RelF C H' S' fs l
  | [], _, h => h
  | (_, _) :: _, _, h => by
    obtain ⟨v, l', rfl, h1, h2⟩ := h
    exact ⟨v, l', rfl, h1.ext e, RelF.ext e h2⟩
theorem RelK.ext {κ : Type} (e : Ext H S H' S') : ∀ {fs : List (κ × D)} {l : List (κ × V)}, RelK C H S fs l → RelK C H' S' fs l
  | [], _, h => h
  | (_, _) :: _, _, h => by
    obtain ⟨v, l', rfl, h1, h2⟩ := h
    exact ⟨v, l', rfl, h1.ext e, RelK.ext e h2⟩
theorem RelM.ext (e : Ext H S H' S') {m : MO} {o : HO} (h : RelM C H S m o) : RelM C H' S' m o := by
  cases m with
  | lst ds => obtain ⟨vs, rfl, r⟩ := h; exact ⟨vs, rfl, r.ext e⟩
  | dct ks => obtain ⟨vs, rfl, r⟩ := h; exact ⟨vs, rfl, r.ext e⟩
  | dcT ks => obtain ⟨vs, rfl, r⟩ := h; exact ⟨vs, rfl, r.ext e⟩
  | ins c fs => obtain ⟨dx, l, rfl, r⟩ := h; exact ⟨dx, l, rfl, r.ext e⟩
  | ldc od ks kvs => obtain ⟨rfl, r⟩ := h; exact ⟨rfl, r.ext e⟩
theorem RelF.wz {Z : Addr → Prop} (e : ∀ a, Z a → C.Z a ∨ H a = none) : ∀ {fs : List (Str × D)} {l : List (Str × V)}, RelF C H S fs l → RelF (C.wz Z) H S fs l
  | [], _, h => h
  | (_, _) :: _, _, h => by
    obtain ⟨v, l', rfl, h1, h2⟩ := h
    exact ⟨v, l', rfl, h1.wz e, RelF.wz e h2⟩
theorem RelK.wz {κ : Type} {Z : Addr → Prop} (e : ∀ a, Z a → C.Z a ∨ H a = none) : ∀ {fs : List (κ × D)} {l : List (κ × V)}, RelK C H S fs l → RelK (C.wz Z) H S fs l
  | [], _, h => h
  | (_, _) :: _, _, h => by
    obtain ⟨v, l', rfl, h1, h2⟩ := h
    exact ⟨v, l', rfl, h1.wz e, RelK.wz e h2⟩
theorem RelM.wz {Z : Addr → Prop} (e : ∀ a, Z a → C.Z a ∨ H a = none) {m : MO} {o : HO} (h : RelM C H S m o) : RelM (C.wz Z) H S m o := by
  cases m with
  | lst ds => obtain ⟨vs, rfl, r⟩ := h; exact ⟨vs, rfl, r.wz e⟩
  | dct ks => obtain ⟨vs, rfl, r⟩ := h; exact ⟨vs, rfl, r.wz e⟩
  | dcT ks => obtain ⟨vs, rfl, r⟩ := h; exact ⟨vs, rfl, r.wz e⟩
  | ins c fs => obtain ⟨dx, l, rfl, r⟩ := h; exact ⟨dx, l, rfl, r.wz e⟩
  | ldc od ks kvs => obtain ⟨rfl, r⟩ := h; exact ⟨rfl, r.wz e⟩
theorem Rp.wz {Z : Addr → Prop} (r : Rp C H S) (e : ∀ a, Z a → C.Z a) : Rp (C.wz Z) H S := ⟨fun a m h => by
  obtain ⟨o, h1, h2⟩ := r.obj a m h
  exact ⟨o, h1, h2.wz fun a z => .inl (e a z)⟩, fun a h => r.z a (e a h)⟩
theorem Rp.free (r : Rp C H S) {a : Addr} (h : H a = none) : S a = none := by
  cases e : S a with
  | none => rfl
  | some m => obtain ⟨o, h1, _⟩ := r.obj a m e; rw [h] at h1; cases h1
/-- one more list in the making -/
theorem Rp.addZ (r : Rp C H S) {p : Addr} (h : H p = none) : Rp (C.wz fun a => C.Z a ∨ a = p) (upd H p (.lst [])) S := ⟨fun a m q => by
  obtain ⟨o, h1, h2⟩ := r.obj a m q
  refine ⟨o, by rw [upd_ne (ne_of_none h1 h)]; exact h1, RelM.ext (Ext.new h) (h2.wz fun a z => z.imp (fun q => q) fun q => by rw [q]; exact h)⟩, fun a q => by
  rcases q with q | rfl
  · obtain ⟨⟨xs, e⟩, s⟩ := r.z a q
    exact ⟨⟨xs, by rw [upd_ne (ne_of_none e h)]; exact e⟩, s⟩
  · exact ⟨⟨[], upd_same⟩, r.free h⟩⟩
theorem Rp.nz (r : Rp C H S) {a : Addr} (h : H a = none) : ¬ C.Z a := fun q => by
  obtain ⟨⟨xs, e⟩, _⟩ := r.z a q
  rw [h] at e; cases e
/-- a new tracked thing, out of the store -/
theorem Rp.new (r : Rp C H S) {p : Addr} {o : HO} (h : H p = none) : Rp C (upd H p o) S := ⟨fun a m e => by
  obtain ⟨u, h1, h2⟩ := r.obj a m e
  exact ⟨u, by rw [upd_ne (ne_of_none h1 h)]; exact h1, h2.ext (Ext.new h)⟩, fun a q => by
  obtain ⟨⟨xs, e⟩, s⟩ := r.z a q
  exact ⟨⟨xs, by rw [upd_ne (ne_of_none e h)]; exact e⟩, s⟩⟩
theorem Rp.newM (r : Rp C H S) {p : Addr} {o : HO} {m : MO} (h : H p = none) (n : RelM C (upd H p o) (put S p m) m o) : Rp C (upd H p o) (put S p m) := ⟨fun a m' e => by
  by_cases q : a = p
  · subst q; rw [put_same] at e; cases e; exact ⟨o, upd_same, n⟩
  · rw [put_ne q] at e
    obtain ⟨u, h1, h2⟩ := r.obj a m' e
    exact ⟨u, by rw [upd_ne q]; exact h1, h2.ext (Ext.newM h)⟩, fun a q => by
  obtain ⟨⟨xs, e⟩, s⟩ := r.z a q
  have n := ne_of_none e h
  exact ⟨⟨xs, by rw [upd_ne n]; exact e⟩, by rw [put_ne n]; exact s⟩⟩
theorem Rp.set (r : Rp C H S) {p : Addr} {o : HO} {m m' : MO} (h : S p = some m') (n : RelM C (upd H p o) (put S p m) m o) : Rp C (upd H p o) (put S p m) := ⟨fun a m2 e => by
  by_cases q : a = p
  · subst q; rw [put_same] at e; cases e; exact ⟨o, upd_same, n⟩
  · rw [put_ne q] at e
    obtain ⟨u, h1, h2⟩ := r.obj a m2 e
    exact ⟨u, by rw [upd_ne q]; exact h1, h2.ext (Ext.set h)⟩, fun a q => by
  obtain ⟨⟨xs, e⟩, s⟩ := r.z a q
  have n : a ≠ p := fun z => by subst z; rw [h] at s; cases s
  exact ⟨⟨xs, by rw [upd_ne n]; exact e⟩, by rw [put_ne n]; exact s⟩⟩
theorem Rp.rm (r : Rp C H S) {p : Addr} : Rp C H (rm S p) := ⟨fun a m e => by
  have q : a ≠ p := fun z => by subst z; rw [rm_same] at e; cases e
  rw [rm_ne q] at e
  obtain ⟨u, h1, h2⟩ := r.obj a m e
  exact ⟨u, h1, h2.ext Ext.rm⟩, fun a q => by
  obtain ⟨e, s⟩ := r.z a q
  exact ⟨e, by unfold Mn.rm; split <;> first | rfl | exact s⟩⟩
end
section
variable {C C' : Cc} {H H' : Hp} {S S' : Sto}
theorem RelF.mv (e : Mv C C' H H' S S') : ∀ {fs : List (Str × D)} {l : List (Str × V)}, RelF C H S fs l → RelF C' H' S' fs l
  | [], _, h => h
  | (_, _) :: _, _, h => by
    obtain ⟨v, l', rfl, h1, h2⟩ := h
    exact ⟨v, l', rfl, h1.mv e, RelF.mv e h2⟩
theorem RelK.mv {κ : Type} (e : Mv C C' H H' S S') : ∀ {fs : List (κ × D)} {l : List (κ × V)}, RelK C H S fs l → RelK C' H' S' fs l
  | [], _, h => h
  | (_, _) :: _, _, h => by
    obtain ⟨v, l', rfl, h1, h2⟩ := h
    exact ⟨v, l', rfl, h1.mv e, RelK.mv e h2⟩
theorem RelM.mv (e : Mv C C' H H' S S') (g : C'.ga = C.ga) {m : MO} {o : HO} (h : RelM C H S m o) : RelM C' H' S' m o := by
  cases m with
  | lst ds => obtain ⟨vs, rfl, r⟩ := h; exact ⟨vs, rfl, r.mv e⟩
  | dct ks => obtain ⟨vs, rfl, r⟩ := h; exact ⟨vs, rfl, r.mv e⟩
  | dcT ks => obtain ⟨vs, rfl, r⟩ := h; exact ⟨vs, rfl, r.mv e⟩
  | ins c fs => obtain ⟨dx, l, rfl, r⟩ := h; exact ⟨dx, l, by rw [g], r.mv e⟩
  | ldc od ks kvs => obtain ⟨rfl, r⟩ := h; exact ⟨rfl, r.mv e⟩
/-- a list in the making grows -/
theorem mv_grow {p : Addr} {xs ys : List V} (hz : C.Z p) (hp : H p = some (.lst xs)) : Mv C C H (upd H p (.lst ys)) S S := ⟨rfl, fun a vs h s => ⟨by rw [upd_ne (ne_of h hp fun q => nomatch q)]; exact h, s⟩, fun a u h s z => by
  have n : a ≠ p := fun q => z (by rw [q]; exact hz)
  exact ⟨by rw [upd_ne n]; exact h, s, z⟩⟩
theorem Rp.grow (r : Rp C H S) {p : Addr} {xs ys : List V} (hz : C.Z p) (hp : H p = some (.lst xs)) : Rp C (upd H p (.lst ys)) S := ⟨fun a m h => by
  obtain ⟨o, h1, h2⟩ := r.obj a m h
  have n : a ≠ p := fun q => by subst q; rw [(r.z a hz).2] at h; cases h
  exact ⟨o, by rw [upd_ne n]; exact h1, h2.mv (mv_grow hz hp) rfl⟩, fun a h => by
  obtain ⟨⟨zs, h1⟩, h2⟩ := r.z a h
  by_cases n : a = p
  · subst n; exact ⟨⟨ys, upd_same⟩, h2⟩
  · exact ⟨⟨zs, by rw [upd_ne n]; exact h1⟩, h2⟩⟩
/-- a list in the making is made: it goes into the store -/
theorem mv_thaw {p : Addr} {xs : List V} {m : MO} {Z : Addr → Prop} (hz : ∀ a, C.Z a ↔ (Z a ∨ a = p)) (hp : H p = some (.lst xs)) : Mv C (C.wz Z) H H S (put S p m) := ⟨rfl, fun a vs h s => ⟨h, by rw [put_ne (ne_of h hp fun q => nomatch q)]; exact s⟩, fun a u h s z => by
  have n : a ≠ p := fun q => z ((hz a).mpr (.inr q))
  exact ⟨h, by rw [put_ne n]; exact s, fun q => z ((hz a).mpr (.inl q))⟩⟩
theorem Rp.thaw (r : Rp C H S) {p : Addr} {xs : List V} {ds : List D} {Z : Addr → Prop} (hz : ∀ a, C.Z a ↔ (Z a ∨ a = p)) (hn : ¬ Z p) (hp : H p = some (.lst xs)) (hd : RelDs C H S ds xs) : Rp (C.wz Z) H (put S p (.lst ds)) := ⟨fun a m h => by
  by_cases n : a = p
  · subst n; rw [put_same] at h; cases h; exact ⟨_, hp, xs, rfl, hd.mv (mv_thaw hz hp)⟩
  · rw [put_ne n] at h
    obtain ⟨o, h1, h2⟩ := r.obj a m h
    exact ⟨o, h1, h2.mv (mv_thaw hz hp) rfl⟩, fun a h => by
  have n : a ≠ p := fun q => hn (by rw [← q]; exact h)
  obtain ⟨h1, h2⟩ := r.z a ((hz a).mpr (.inl h))
  exact ⟨h1, by rw [put_ne n]; exact h2⟩⟩
end
section
variable {C : Cc} {H : Hp} {S : Sto} {κ : Type} [DecidableEq κ]
theorem gv_pos {α : Type} {p : κ × α} {r : List (κ × α)} {k : κ} (e : p.1 = k) : gv (p :: r) k = some p.2 := by simp [gv, List.find?_cons, e]
theorem gv_neg {α : Type} {p : κ × α} {r : List (κ × α)} {k : κ} (e : ¬ p.1 = k) : gv (p :: r) k = gv r k := by simp [gv, List.find?_cons, e]
theorem RelK.len : ∀ {kvs : List (κ × D)} {l : List (κ × V)}, RelK C H S kvs l → l.length = kvs.length
  | [], _, h => by rw [show _ = [] from h]; rfl
  | (_, _) :: _, _, h => by obtain ⟨v, l', rfl, _, h2⟩ := h; simp [RelK.len h2]
theorem RelK.keys : ∀ {kvs : List (κ × D)} {l : List (κ × V)}, RelK C H S kvs l → l.map (·.1) = kvs.map (·.1)
  | [], _, h => by rw [show _ = [] from h]; rfl
  | (_, _) :: _, _, h => by obtain ⟨v, l', rfl, _, h2⟩ := h; simp [RelK.keys h2]
theorem RelK.some : ∀ {kvs : List (κ × D)} {l : List (κ × V)} {k : κ} {d : D}, RelK C H S kvs l → gv kvs k = some d → ∃ v, valV l k = some v ∧ RelD C H S d v
  | [], _, k, d, h, e => by cases e
  | (j, x) :: r, _, k, d, h, e => by
    obtain ⟨v, l', rfl, h1, h2⟩ := h
    by_cases q : j = k
    · rw [gv_pos q] at e; cases e
      exact ⟨v, valV_pos q, h1⟩
    · rw [gv_neg q] at e
      rw [valV_neg q]
      exact RelK.some h2 e
theorem RelK.none : ∀ {kvs : List (κ × D)} {l : List (κ × V)} {k : κ}, RelK C H S kvs l → gv kvs k = none → valV l k = none
  | [], _, k, h, e => by rw [show _ = [] from h]; rfl
  | (j, x) :: r, _, k, h, e => by
    obtain ⟨v, l', rfl, h1, h2⟩ := h
    by_cases q : j = k
    · rw [gv_pos q] at e; cases e
    · rw [gv_neg q] at e
      rw [valV_neg q]
      exact RelK.none h2 e
theorem RelK.isSome {kvs : List (κ × D)} {l : List (κ × V)} {k : κ} (h : RelK C H S kvs l) : (valV l k).isSome = (gv kvs k).isSome := by
  cases e : gv kvs k with
  | none => rw [h.none e]; rfl
  | some d => obtain ⟨v, h1, _⟩ := h.some e; rw [h1]; rfl
theorem RelK.app : ∀ {kvs kvs' : List (κ × D)} {l l' : List (κ × V)}, RelK C H S kvs l → RelK C H S kvs' l' → RelK C H S (kvs ++ kvs') (l ++ l')
  | [], _, _, _, h, q => by rw [show _ = [] from h]; exact q
  | (_, _) :: _, _, _, _, h, q => by
    obtain ⟨v, l1, rfl, h1, h2⟩ := h
    exact ⟨v, _, rfl, h1, RelK.app h2 q⟩
theorem RelK.rep {k : κ} {d : D} {v : V} (r : RelD C H S d v) : ∀ {kvs : List (κ × D)} {l : List (κ × V)}, RelK C H S kvs l → RelK C H S (kvs.map fun kv => if kv.1 = k then (kv.1, d) else kv) (l.map fun kv => if kv.1 = k then (kv.1, v) else kv)
  | [], _, h => by rw [show _ = [] from h]; rfl
  | (j, x) :: _, _, h => by
    obtain ⟨w, l1, rfl, h1, h2⟩ := h
    rw [List.map_cons, List.map_cons]
    by_cases q : j = k
    · simp only [q, if_true]
      exact ⟨v, _, rfl, r, RelK.rep r h2⟩
    · simp only [q, if_false]
      exact ⟨w, _, rfl, h1, RelK.rep r h2⟩
theorem RelK.put {kvs : List (κ × D)} {l : List (κ × V)} (k : κ) {d : D} {v : V} (h : RelK C H S kvs l) (r : RelD C H S d v) : RelK C H S (gp kvs k d) (putK l k v) := by
  have e : (l.any fun kv => decide (kv.1 = k)) = kvs.any fun kv => decide (kv.1 = k) := by
    have q := congrArg (fun z => z.any fun x => decide (x = k)) h.keys
    simpa [List.any_map, Function.comp_def] using q
  unfold gp putK
  rw [e]
  split
  · exact RelK.rep r h
  · exact h.app ⟨v, [], rfl, r, rfl⟩
theorem RelF.some : ∀ {fs : List (Str × D)} {l : List (Str × V)} {f : Str} {d : D}, RelF C H S fs l → fs.lookup f = some d → ∃ v, l.lookup f = some v ∧ RelD C H S d v
  | [], _, f, d, h, e => by cases e
  | (g, x) :: r, _, f, d, h, e => by
    obtain ⟨v, l', rfl, h1, h2⟩ := h
    rw [List.lookup_cons] at e ⊢
    cases q : (f == g) with
    | true => rw [q] at e; cases e; exact ⟨v, rfl, h1⟩
    | false => rw [q] at e; exact RelF.some h2 e
theorem RelF.none : ∀ {fs : List (Str × D)} {l : List (Str × V)} {f : Str}, RelF C H S fs l → fs.lookup f = none → l.lookup f = none
  | [], _, f, h, e => by rw [show _ = [] from h]; rfl
  | (g, x) :: r, _, f, h, e => by
    obtain ⟨v, l', rfl, h1, h2⟩ := h
    rw [List.lookup_cons] at e ⊢
    cases q : (f == g) with
    | true => rw [q] at e; cases e
    | false => rw [q] at e; exact RelF.none h2 e
theorem RelF.len : ∀ {fs : List (Str × D)} {l : List (Str × V)}, RelF C H S fs l → l.length = fs.length
  | [], _, h => by rw [show _ = [] from h]; rfl
  | (_, _) :: _, _, h => by obtain ⟨v, l', rfl, _, h2⟩ := h; simp [RelF.len h2]
theorem RelF.put {f : Str} {d : D} {v : V} (r : RelD C H S d v) : ∀ {fs : List (Str × D)} {l : List (Str × V)}, RelF C H S fs l → RelF C H S (pf f d fs) (putF f v l)
  | [], _, h => by rw [show _ = [] from h]; exact ⟨v, [], rfl, r, rfl⟩
  | (g, x) :: fs, _, h => by
    obtain ⟨w, l', rfl, h1, h2⟩ := h
    show RelF C H S (if g = f then (g, d) :: fs else (g, x) :: pf f d fs) (if g = f then (g, v) :: l' else (g, w) :: putF f v l')
    split
    · exact ⟨v, l', rfl, r, h2⟩
    · exact ⟨w, _, rfl, h1, RelF.put r h2⟩
end
def RelS (C : Cc) (H : Hp) (S : Sto) (σd : Env) (σ : St) : Prop := σd.length = σ.length ∧ ∀ (i : Nat) d, σd[i]? = some (some d) → ∃ v, σ[i]? = some (some v) ∧ RelD C H S d v
theorem RelS.ext {C : Cc} {H H' : Hp} {S S' : Sto} {σd : Env} {σ : St} (h : RelS C H S σd σ) (e : Ext H S H' S') : RelS C H' S' σd σ := ⟨h.1, fun i d q => by
  obtain ⟨v, h1, h2⟩ := h.2 i d q
  exact ⟨v, h1, h2.ext e⟩⟩
theorem RelS.wz {C : Cc} {H : Hp} {S : Sto} {σd : Env} {σ : St} {Z : Addr → Prop} (e : ∀ a, Z a → C.Z a ∨ H a = none) (h : RelS C H S σd σ) : RelS (C.wz Z) H S σd σ := ⟨h.1, fun i d q => by
  obtain ⟨v, h1, h2⟩ := h.2 i d q
  exact ⟨v, h1, h2.wz e⟩⟩
theorem RelS.set {C : Cc} {H : Hp} {S : Sto} {σd : Env} {σ : St} (h : RelS C H S σd σ) (i : Nat) {d : D} {v : V} (r : RelD C H S d v) : RelS C H S (σd.set i (some d)) (σ.set i (some v)) := by
  refine ⟨by simp [h.1], fun j e q => ?_⟩
  rw [List.getElem?_set] at q
  by_cases hij : i = j
  · subst hij
    rw [if_pos rfl] at q
    split at q
    · rename_i hl
      cases q
      exact ⟨v, by rw [List.getElem?_set, if_pos rfl, if_pos (by rw [← h.1]; exact hl)], r⟩
    · cases q
  · rw [if_neg hij] at q
    obtain ⟨w, h1, h2⟩ := h.2 j e q
    exact ⟨w, by rw [List.getElem?_set, if_neg hij]; exact h1, h2⟩
theorem RelS.del {C : Cc} {H : Hp} {S : Sto} {σd : Env} {σ : St} (h : RelS C H S σd σ) (i : Nat) (o : Option V) : RelS C H S (σd.set i none) (σ.set i o) := by
  refine ⟨by simp [h.1], fun j e q => ?_⟩
  rw [List.getElem?_set] at q
  by_cases hij : i = j
  · subst hij
    rw [if_pos rfl] at q
    split at q <;> cases q
  · rw [if_neg hij] at q
    obtain ⟨w, h1, h2⟩ := h.2 j e q
    exact ⟨w, by rw [List.getElem?_set, if_neg hij]; exact h1, h2⟩
end Mn
namespace Mn
open PySem L2 PyProof.Rows
def encP (y : Str × Str) : PyData := .tuple [.str y.1, .str y.2]
def srtP (l : List (Str × Str)) : List (Str × Str) := l.mergeSort (PySem.W.dataLe false encP)
theorem srtP_perm (l : List (Str × Str)) : (srtP l).Perm l := List.mergeSort_perm _ _
def IsPairs (H : Hp) (ys : List (Str × Str)) (qs : List Addr) : Prop := ys.length = qs.length ∧ ∀ (i : Nat) y b, ys[i]? = some y → qs[i]? = some b → H b = some (.tup [.str y.1, .str y.2])
theorem each_of {α β : Type} {R : α → β → Prop} : ∀ {as : List α} {bs : List β}, as.length = bs.length → (∀ (j : Nat) a b, as[j]? = some a → bs[j]? = some b → R a b) → PySem.W.EachIs R as bs
  | [], [], _, _ => .nil
  | [], _ :: _, h, _ => by simp at h
  | _ :: _, [], h, _ => by simp at h
  | a :: as, b :: bs, h, q => .cons (q 0 a b rfl rfl) (each_of (by simpa using h) fun j x y h1 h2 => q (j + 1) x y (by simpa using h1) (by simpa using h2))
theorem each_pairs {H : Hp} : ∀ {vs : List Value} {ys : List (Str × Str)}, PySem.W.EachIs (fun (v : Value) (y : Str × Str) => ∃ b, v = .ref b ∧ H b = some (.tup [.str y.1, .str y.2])) vs ys → ∃ qs : List Addr, vs = qs.map Value.ref ∧ IsPairs H ys qs
  | _, _, .nil => ⟨[], rfl, rfl, fun i y b h => by simp at h⟩
  | _, _, .cons ⟨b, e, h⟩ t => by
    obtain ⟨qs, rfl, h1, h2⟩ := each_pairs t
    refine ⟨b :: qs, by rw [e]; rfl, by simp [h1], fun i y c hy hc => ?_⟩
    cases i with
    | zero =>
      have f1 := Option.some.inj (show some _ = some y by simpa using hy)
      have f2 : b = c := by simpa using hc
      rw [← f1, ← f2]; exact h
    | succ i => exact h2 i y c (by simpa using hy) (by simpa using hc)
theorem vals_ref : ∀ qs : List Addr, Vals (qs.map V.ref) (qs.map Value.ref)
  | [] => .nil
  | _ :: r => .cons rfl (vals_ref r)
section
variable {X : Cx}
def rSortedD2 : List V → Hp → VK → Prop := fun xs H Q => ∃ (a : Addr) (kvs : List (List Key × V)) (ks : List (Str × Str)), xs = [V.ref a] ∧ Rd H a (.dT kvs) ∧ kvs.map (·.1) = ks.map (fun y => [.inr y.1, .inr y.2]) ∧
  ∀ qs p, IsPairs H (srtP ks) qs → H p = none → Q (.ref p) (upd H p (.lst (qs.map V.ref)))
theorem call_sortedD2 (hcalm : X.calm = true) (hu : X.A.units + 64 < cLine) : CallR X (.builtin "sorted") rSortedD2 := by
  intro pins s σ H xs us Q I r q
  obtain ⟨a, kvs, ks, rfl, hd, hks, q⟩ := q
  obtain ⟨u, rfl, rx⟩ := r.one
  cases rx
  obtain ⟨z, hs, ts, pr, o, es, ep, ho, hx, hdt, he, hn⟩ := (show ObjOk X.prog X.w H s.heap a (.dT kvs) from hd.ok I.hok)
  have l1 : es.size = ts.length := size_of_entries he
  have l2 : kvs.length = ts.length := Paired.length pr
  have l3 : ks.length = kvs.length := by
    have e := congrArg List.length hks
    rw [List.length_map, List.length_map] at e
    exact e.symm
  refine Calls.call_function_entry kind_sorted plain_sorted entry_sorted (args_sorted1 _) ?_
  unfold Builtin.«sorted»; refine wpAny_bind (m := checkCount "sorted" 1 1 _) (wpAny_pure ?_)
  refine wpAny_bind (PySem.W.kdu_collect (A := X.A.in1) (kdl_raw hs hx hdt) (I.ok.hd hcalm) ho (by omega) fun hq tq got kp it => ?_)
  have ea : got.toList = ts.map fun x => Value.ref x.2.1 := by
    have hl : got.toList.length = ts.length := by rw [Array.length_toList, it.1, l1]
    refine List.ext_getElem? fun j => ?_
    rw [List.getElem?_map]
    cases hj : got.toList[j]? with
    | none =>
      have := List.getElem?_eq_none_iff.mp hj
      rw [List.getElem?_eq_none (by omega)]
      rfl
    | some v =>
      obtain ⟨en, hen, hv⟩ := it.2 j v (by rw [← Array.getElem?_toList]; exact hj)
      have qe : es.toList[j]? = some en := by rw [Array.getElem?_toList]; exact hen
      rw [he, List.getElem?_map] at qe
      obtain ⟨x, h1, h2⟩ := Option.map_eq_some_iff.mp qe
      rw [h1, hv, ← h2]
      rfl
  have ek : ∀ (j : Nat) (y : Str × Str) (x : List Key × Addr × Value), ks[j]? = some y → ts[j]? = some x → H x.2.1 = some (.tup [.str y.1, .str y.2]) := by
    have gen : ∀ {kvs : List (List Key × V)} {ts : List (List Key × Addr × Value)} {ks : List (Str × Str)}, Paired (fun (p : List Key × V) (q : List Key × Addr × Value) => p.1 = q.1 ∧ H q.2.1 = some (.tup (p.1.map kV)) ∧ RelV p.2 q.2.2) kvs ts → kvs.map (·.1) = ks.map (fun y => [.inr y.1, .inr y.2]) → ∀ (j : Nat) (y : Str × Str) (x : List Key × Addr × Value), ks[j]? = some y → ts[j]? = some x → H x.2.1 = some (.tup [.str y.1, .str y.2]) := by
      intro kvs ts ks pr
      induction pr generalizing ks with
      | nil => intro _ j y x _ h; simp at h
      | cons h t ih =>
        intro e j y x h1 h2
        cases ks with
        | nil => simp at h1
        | cons k ks =>
          rw [List.map_cons, List.map_cons] at e
          injection e with e1 e2
          cases j with
          | zero =>
            have f1 : k = y := by simpa using h1
            have f2 := Option.some.inj (show some _ = some x by simpa using h2)
            subst f1
            rw [← f2, h.2.1, e1]
            rfl
          | succ j => exact ih e2 j y x (by simpa using h1) (by simpa using h2)
    exact gen pr hks
  have lk : ks.length = ts.length := l3.trans l2
  have hal : got.toList.length = ks.length := by rw [ea, List.length_map, lk]
  have I1 : Inv X pins σ H { s with heap := hq, toks := tq } := I.kept kp
  refine wpAny_bind (wpAny_newList ?_ (by rw [hal]; omega))
  have hoL : (hq.push (seqObj "list" got.toList.toArray 0)).get? hq.objs.size = some (seqObj "list" got.toList.toArray 0) := Heap.get?_push_size _ rfl
  show wpAny _ _ _ _ _ { s with heap := hq.push (seqObj "list" got.toList.toArray 0), toks := tq }
  have e1 : PySem.W.EachIs (fun (v : Value) (y : Str × Str) => ∃ b, v = .ref b ∧ H b = some (.tup [.str y.1, .str y.2])) got.toList ks := by
    refine each_of hal fun j v y h1 h2 => ?_
    rw [ea, List.getElem?_map] at h1
    obtain ⟨x, h3, h4⟩ := Option.map_eq_some_iff.mp h1
    exact ⟨x.2.1, h4.symm, ek j y x h2 h3⟩
  have big : ∀ b o, hq.get? b = some o → (hq.push (seqObj "list" got.toList.toArray 0)).get? b = some o := fun b o e => Heap.get?_push_of_some _ e
  have e2 : PySem.W.EachIs (fun (v : Value) (y : Str × Str) => ∃ as, Reads (hq.push (seqObj "list" got.toList.toArray 0)) v (encP y) as ∧ hq.objs.size ∉ as) got.toList ks := by
    refine e1.mono fun v y ⟨b, ev, hb⟩ => ?_
    obtain ⟨its, rv, ⟨ob, o1, o2, n, o3⟩, _⟩ := I1.tuple (a := b) (xs := [.str y.1, .str y.2]) (.inl (.inl hb))
    obtain ⟨u1, u2, rfl, q1, q2⟩ := vals2 rv
    obtain ⟨t1, rfl⟩ := q1
    obtain ⟨t2, rfl⟩ := q2
    subst ev
    exact ⟨[], .tuple (big _ _ o1) o2 o3 (.cons (.str _ _) (.cons (.str _ _) .nil)), by simp⟩
  refine wpAny_bind (wpAny_holding (PySem.W.list_sort_data (R := fun (v : Value) (y : Str × Str) => ∃ b, v = .ref b ∧ H b = some (.tup [.str y.1, .str y.2])) (bs := ks) (enc := encP) (s := { s with heap := hq.push (seqObj "list" got.toList.toArray 0), toks := tq }) hoL e1 e2 ?_ ?_ (by omega) ?_ fun out ol oe => ?_))
  · intro d hd d' hd'
    obtain ⟨y, _, rfl⟩ := List.mem_map.mp hd
    obtain ⟨y', _, rfl⟩ := List.mem_map.mp hd'
    rfl
  · refine .inl fun d hd => ?_
    obtain ⟨y, _, rfl⟩ := List.mem_map.mp hd
    exact ⟨_, _, rfl⟩
  · intro b _
    have e : X.A.in1.units ≤ X.A.units + 1 := Nat.le_refl _
    have e3 : (encP b).depth = 1 := rfl
    omega
  · obtain ⟨qs, rfl, hp⟩ := each_pairs oe
    obtain ⟨cap, hcap⟩ := sortedHeap_at (vs := got.toList) (out := (qs.map Value.ref).toArray) hoL
    have lq : (qs.map V.ref).length ≤ sizeLine := by
      rw [List.length_map] at ol ⊢
      omega
    have ob : ObjOk X.prog X.w (upd H hq.objs.size (.lst (qs.map V.ref))) (sortedHeap (hq.push (seqObj "list" got.toList.toArray 0)) hq.objs.size got.toList (qs.map Value.ref).toArray) hq.objs.size (.lst (qs.map V.ref)) := ⟨lq, _, cap, vals_ref qs, hcap⟩
    refine wpAny_pure ⟨_, rfl, .ref hq.objs.size, _, I1.laid (t' := tq) (fun b w e => ?_) (Nat.le_refl _) ob, rfl, q qs _ hp (I1.hok.fresh (Nat.le_refl _))⟩
    have lt := Heap.lt_size e
    exact (sortedHeap_old (Nat.ne_of_lt lt) (by rw [size_push']; exact Nat.lt_succ_of_lt lt)).trans (big b w e)
end
end Mn
namespace Mn
open PySem PySem.Spec PyProof.Rows
def metS (l : List Str) : List Str := l.foldl (fun m x => if x ∈ m then m else m ++ [x]) []
theorem metS_snoc (l : List Str) (x : Str) : metS (l ++ [x]) = if x ∈ metS l then metS l else metS l ++ [x] := by unfold metS; rw [List.foldl_append]; rfl
theorem metS_take {l : List Str} {i : Nat} (h : i < l.length) : metS (l.take (i + 1)) = if l[i] ∈ metS (l.take i) then metS (l.take i) else metS (l.take i) ++ [l[i]] := by
  rw [← metS_snoc, List.take_succ, List.getElem?_eq_getElem h]; rfl
theorem metS_gen : ∀ (l m : List Str), m.Nodup → ((l.foldl (fun m x => if x ∈ m then m else m ++ [x]) m).length = m.length + l.length ↔ (m ++ l).Nodup) ∧ (l.foldl (fun m x => if x ∈ m then m else m ++ [x]) m).length ≤ m.length + l.length
  | [], m, hm => by simp [hm]
  | x :: l, m, hm => by
    rw [List.foldl_cons]
    by_cases h : x ∈ m
    · rw [if_pos h]
      obtain ⟨h1, h2⟩ := metS_gen l m hm
      refine ⟨⟨fun e => ?_, fun e => ?_⟩, ?_⟩
      · rw [List.length_cons] at e; omega
      · exact absurd rfl (List.nodup_append.mp e |>.2.2 x h x List.mem_cons_self)
      · rw [List.length_cons]; omega
    · rw [if_neg h]
      have hm' : (m ++ [x]).Nodup := List.nodup_append.mpr ⟨hm, by simp, fun a ha b hb e => by rw [List.mem_singleton.mp hb] at e; exact h (e ▸ ha)⟩
      obtain ⟨h1, h2⟩ := metS_gen l (m ++ [x]) hm'
      rw [List.length_append, List.length_singleton] at h1 h2
      rw [List.length_cons]
      refine ⟨⟨fun e => ?_, fun e => ?_⟩, by omega⟩
      · have := h1.mp (by omega)
        rwa [List.append_assoc] at this
      · have := h1.mpr (by rw [List.append_assoc]; exact e)
        omega
theorem metS_le (l : List Str) : (metS l).length ≤ l.length := by
  have := (metS_gen l [] List.nodup_nil).2
  simpa [metS] using this
section
variable {prog : Program} {w : World} {A : Around} {R : Result → Shared → Prop} {I : Addr} {fp wr : List Addr} {G : Array GenState → Array GenState → Prop} {n : Nat} {P : Nat → Value → Prop} {St : Nat → Shared → Prop}
abbrev SetIs (prog : Program) (w : World) (h : Heap) (a : Addr) (m : List Str) : Prop := h.SetOf (PySem.strKind prog w) a (fun k => decide (k ∈ m)) m.length
theorem SetIs.at {h h1 : Heap} {a : Addr} {m : List Str} (x : SetIs prog w h a m) (k : ∀ o, h.get? a = some o → h1.get? a = some o) : SetIs prog w h1 a m := by
  obtain ⟨o, es, ep, t, ho, rest⟩ := x
  exact ⟨o, es, ep, t, k o ho, rest⟩
theorem set_go (W : WalksS prog w A.in1 I fp wr G n P St) (a : Addr) (af : a ∉ fp) (xs : List Str) (ln : xs.length = n) (n9 : n < 1000) (hv : ∀ i v, P i v → ∃ t, v = .str (xs.getD i Str.empty) t) :
    ∀ (k i : Nat) (s : Shared), k + i = n → St i s → SetIs prog w s.heap a (metS (xs.take i)) → (∀ s1, Moved (a :: wr) G s s1 → SetIs prog w s1.heap a (metS xs) → R (.ok (.ret .none)) s1) → codeAny (model prog w) A (.builtin "set.update.loop" ⟨[.ref a, .ref I], []⟩) R s := by
  have aw : a ∉ wr := fun z => af (W.sub _ z)
  have up : ∀ b ∈ wr, b ∈ a :: wr := fun b z => List.mem_cons_of_mem _ z
  intro k
  induction k with
  | zero =>
    intro i s hk st hS q
    obtain rfl : i = n := by omega
    rw [List.take_of_length_le (Nat.le_of_eq ln)] at hS
    refine codeAny_builtin F.entry_set_update_loop ?_
    rw [Around.under_plainId F.plain_set_update_loop _]
    refine wpAny_bind (m := pyNext (.ref I)) (W.done s _ _ st fun s1 hm => ?_)
    exact wpAny_pure (q s1 (hm.mono up) (hS.at fun o e => hm.heap a o aw e))
  | succ k ih =>
    intro i s hk st hS q
    have lt : i < n := by omega
    refine codeAny_builtin F.entry_set_update_loop ?_
    rw [Around.under_plainId F.plain_set_update_loop _]
    refine wpAny_bind (m := pyNext (.ref I)) (W.item i s _ _ lt st fun v s1 hP st1 hm => ?_)
    obtain ⟨t, rfl⟩ := hv i v hP
    have ex : xs.getD i Str.empty = xs[i]'(by omega) := by rw [List.getD_eq_getElem?_getD, List.getElem?_eq_getElem (by omega)]; rfl
    have S1 := hS.at fun o e => hm.heap a o aw e
    have le := metS_le (xs.take i)
    rw [List.length_take] at le
    refine wpAny_bind (m := holding [Value.str (xs.getD i Str.empty) t] (setAdd a (.str (xs.getD i Str.empty) t))) (wpAny_holding ?_)
    unfold setAdd; refine wpAny_holding (wpAny_bind ((PySem.strKind prog w).pyHash (k := xs.getD i Str.empty) (strKind_is _ _ _ _) ?_))
    refine wpAny_setAddHashed_of (knd := PySem.strKind prog w) (s := { s1 with toks := s1.toks + 1 }) (strKind_is _ _ _ _) rfl S1 (by unfold scanBound; omega) fun h1 sb S2 => ?_
    have S3 : SetIs prog w h1 a (metS (xs.take (i + 1))) := by
      refine SetOf_congr S2 (fun y => ?_) ?_
      · rw [metS_take (by omega), ex]
        by_cases z : xs[i]'(by omega) ∈ metS (xs.take i)
        · rw [if_pos z]
          by_cases e : y = xs[i]'(by omega)
          · subst e; simp [z]
          · simp [e]
        · rw [if_neg z]
          simp [List.mem_append]
      · rw [metS_take (by omega), ex]
        by_cases z : xs[i]'(by omega) ∈ metS (xs.take i)
        · rw [if_pos z, if_pos (by simpa using z)]
        · rw [if_neg z, if_neg (by simpa using z), List.length_append]; rfl
    refine wpAny_pure ⟨plainId_quiet F.plain_set_update_loop _, ih (i + 1) _ (by omega) (W.frame _ s1 _ _ st1 (Nat.le_succ _) fun b hb o e => ?_) S3 fun s2 hm2 S4 => ?_⟩
    · rw [sb.2 b fun z => af (z ▸ hb)]; exact e
    · refine q s2 (Moved.trans W.gtrans ((hm.mono up).then_heap (Nat.le_succ _) fun b o hb e => ?_) hm2) S4
      rw [sb.2 b fun z => hb (by rw [z]; exact List.mem_cons_self)]; exact e
end
/-- a set that is new -/
abbrev set0 (led : Bool) : Obj := { cls := .type "set", dict := none, data := .set #[] 0 (.fresh 0 0 led) }
section
variable {prog : Program} {w : World} {A : Around} {E : Value → Shared → Prop} {s : Shared}
theorem cut_setT {a : Addr} {n : Nat} {R : String → Shared → Prop} (ty : s.TypeIs (.ref a) "set") (q : ∀ z, R z s) : wpAny (model prog w) A (typeNameOfCut n (.ref a)) R E s := by
  unfold typeNameOfCut shownTypeOf
  refine wpAny_bind (wpAny_bind (wpAny_typeOf ty ?_))
  refine L2.wp_if_neg (by decide) ?_
  refine wpAny_pure ?_
  show wpAny _ _ (typeName (.type "set")) _ _ _
  exact wpAny_pure (q _)
/-- what fills a set from a list, a tuple -/
theorem from_seq {a b : Addr} {T id : String} {R : Unit → Shared → Prop} (ty : s.TypeIs (.ref b) T) (f1 : isSubtype (.type T) (.type "set") = pure false) (f2 : isSubtype (.type T) (.type "frozenset") = pure false) (f3 : ¬ (Value.type T == Value.type "dict") = true)
    (q : wpAny (model prog w) A (pyIter (.ref b)) (fun v s1 => wpAny (model prog w) A (do let _ ← runValue (.builtin "set.update.loop" ⟨[.ref a, v], []⟩)) R E s1) E s) : wpAny (model prog w) A (Builtin.Frozenset.updateFrom id a (.ref b)) R E s := by
  have any : ∀ {R : Bool → Shared → Prop}, R false s → wpAny (model prog w) A (Builtin.Frozenset.isAnySet (.ref b)) R E s := fun h => by
    unfold Builtin.Frozenset.isAnySet
    exact wpAny_bind (wpAny_isInstance ty f1 (wpAny_isInstance ty f2 h))
  unfold Builtin.Frozenset.updateFrom
  refine wpAny_bind (any ?_)
  refine L2.wp_if_neg Bool.false_ne_true ?_
  try refine wpAny_bind (wpAny_pure ?_)
  refine wpAny_bind (wpAny_typeOf ty ?_)
  refine L2.wp_if_neg f3 ?_
  try refine wpAny_bind (wpAny_pure ?_)
  exact wpAny_bind q
/-- set(x): a new set, then what fills it -/
theorem set_made {b : Addr} {d : Bool} {Q : Value → Shared → Prop} (hd : d = !w.params.followText "set-order") (q : wpAny (model prog w) A.in1.in1 (Builtin.Frozenset.updateFrom "set.__init__" s.heap.objs.size (.ref b)) (fun _ s2 => Q (.ref s.heap.objs.size) s2) E { s with heap := s.heap.push (set0 d) }) : wpAny (model prog w) A (call (.type "set") [.ref b]) Q E s := by
  have hS : (s.heap.push (set0 d)).get? s.heap.objs.size = some (set0 d) := Heap.get?_push_size _ rfl
  have hT : Shared.TypeIs { s with heap := s.heap.push (set0 d) } (.ref s.heap.objs.size) "set" := ⟨_, hS, rfl⟩
  have ini : wpAny (model prog w) A.in1.in1 (Builtin.«set.__init__» ⟨[.ref s.heap.objs.size, .ref b], []⟩)
      (fun fin s' => match fin with | .done f => wants (fun r s₂ => r = .none ∧ Q (.ref s.heap.objs.size) s₂) E (.ok f) s' | .again c' => c'.quiet = true ∧ codeAny (model prog w) A.in1 c' (wants (fun r s₂ => r = .none ∧ Q (.ref s.heap.objs.size) s₂) E) s')
      (fun e s' => wants (fun r s₂ => r = .none ∧ Q (.ref s.heap.objs.size) s₂) E (.error e) s') { s with heap := s.heap.push (set0 d) } := by
    unfold Builtin.«set.__init__»
    refine wpAny_bind (m := noKeywords "set" _) (wpAny_pure ?_)
    dsimp only
    refine wpAny_bind (cut_setT hT fun z => ?_)
    refine wpAny_bind (m := checkCount z 0 1 _) (wpAny_pure ?_)
    refine wpAny_bind (m := Builtin.Frozenset.addrOf _) (wpAny_pure ?_)
    refine wpAny_bind (m := setUsed _) (wpAny_bind (wpAny_setState_of hS rfl rfl (wpAny_pure ?_)))
    refine L2.wp_if_neg (show ¬ ((0 != 0) = true) by decide) ?_
    try refine wpAny_bind (wpAny_pure ?_)
    refine wpAny_bind (wpAny_mono q (fun u s2 h => ?_) fun _ _ h => h)
    show wpAny _ _ (ret Value.none) _ _ _
    exact wpAny_pure ⟨rfl, h⟩
  obtain ⟨c, tl, hmro⟩ := F.called_set.mro
  have hmade := F.called_set.made
  have hsub := F.called_set.sub
  refine wpAny_call (codeAny_of_tree ?_)
  show wpAny _ _ (callAny (.type "set") _) _ _ _
  refine wpAny_pure ⟨Code.quiet_builtin _ (by decide +kernel), codeAny_builtin PySem.F.entry_type_call ?_⟩
  rw [Around.under_plain (weight_type_call_type "set" [.ref b] []) rfl]
  have h1 := F.called_set.notType
  have h2 := F.called_set.canCreate
  have hct := F.typeCall_set_1 (.ref b)
  clear q hS
  generalize hbi : Builtin.«set.__init__» = BI at ini
  repeat (any_goals (first | assumption | wp_step))
  refine codeAny_mono (L2.code_set_led1 (.ref b) (E := E) (Q₁ := fun o s1 => o = .ref s.heap.objs.size ∧ s1 = { s with heap := s.heap.push (set0 d) }) (by rw [hd]; exact ⟨rfl, rfl⟩)) fun r s1 hr => ?_
  rcases r with e | fl
  · exact hr
  obtain ⟨o, rfl⟩ : ∃ o, fl = .ret o := by cases fl <;> first | exact ⟨_, rfl⟩ | exact hr.elim
  obtain ⟨rfl, rfl⟩ := hr
  have hli := F.called_set.init.lookup
  have hbd := F.called_set.init.bind (.ref s.heap.objs.size)
  repeat (any_goals (first | assumption | wp_step))
  refine codeAny_mono (codeAny_call_builtin F.called_set.init.plain F.entry_set_init (check_set_init_1 hT (by rw [hbi]; exact ini))) fun r2 s2 hr2 => ?_
  rcases r2 with e | fl2
  · exact hr2
  obtain ⟨r, rfl⟩ : ∃ r, fl2 = .ret r := by cases fl2 <;> first | exact ⟨_, rfl⟩ | exact hr2.elim
  obtain ⟨rfl, h9⟩ := hr2
  repeat (any_goals (first | assumption | wp_step))
/-- the texts taken, one behind the other -/
theorem set_seq {I l : Addr} {d : Bool} {io : Obj} {n : Nat} {Pv : Nat → Value → Prop} {St : Nat → Shared → Prop} {xs : List Str} {Q : Value → Shared → Prop} (lt : l < s.heap.objs.size) (hI : I = s.heap.objs.size + 1) (W : WalksS prog w A.in1.in1.in1 I [I, l] [I] (fun a b => b = a) n Pv St) (ln : xs.length = n) (n9 : xs.length < 1000) (hv : ∀ i v, Pv i v → ∃ t, v = .str (xs.getD i Str.empty) t) (st : St 0 { s with heap := (s.heap.push (set0 d)).push io })
    (q : ∀ (h1 : Heap) (tk : Nat), SetIs prog w h1 s.heap.objs.size (metS xs) → (∀ b o, s.heap.get? b = some o → h1.get? b = some o) → Q (.ref s.heap.objs.size) { s with heap := h1, toks := tk }) :
    wpAny (model prog w) A.in1.in1 (do let _ ← runValue (.builtin "set.update.loop" ⟨[.ref s.heap.objs.size, .ref I], []⟩)) (fun _ s2 => Q (.ref s.heap.objs.size) s2) E { s with heap := (s.heap.push (set0 d)).push io } := by
  have nf : s.heap.objs.size ∉ [I, l] := by
    rw [hI]; simp only [List.mem_cons, List.not_mem_nil, or_false, not_or]
    exact ⟨Nat.ne_of_lt (Nat.lt_succ_self _), Nat.ne_of_gt lt⟩
  have g0 : (s.heap.push (set0 d)).get? s.heap.objs.size = some (set0 d) := Heap.get?_push_size _ rfl
  refine wpAny_bind (wpAny_runValue ?_)
  refine set_go W s.heap.objs.size nf xs ln (by omega) hv n 0 _ (by omega) st ?_ fun s1 hm S1 => ?_
  · have g1 := Heap.get?_push_of_some io g0
    exact SetOf_congr ((setObjOf_fresh (knd := PySem.strKind prog w) d).setOf g1 (by unfold scanBound; omega)) (fun _ => rfl) rfl
  · obtain ⟨h5, g5, d5, t5, o5⟩ := s1
    obtain rfl : g5 = s.gens := hm.gens
    obtain rfl : d5 = s.drawn := hm.drawn
    obtain rfl : o5 = s.os := hm.os
    show wpAny _ _ _ _ _ _
    refine wpAny_pure (q h5 t5 S1 fun b o e => hm.heap b o ?_ (Heap.get?_push_of_some _ (Heap.get?_push_of_some _ e)))
    have bl := Heap.lt_size e
    rw [hI]; simp only [List.mem_cons, List.not_mem_nil, or_false, not_or]
    exact ⟨Nat.ne_of_lt bl, Nat.ne_of_lt (Nat.lt_succ_of_lt bl)⟩
theorem set_of_list {l : Addr} {its : Array Value} {xs : List Str} {Q : Value → Shared → Prop} (hh : A.handled = none) (hl : s.heap.IsList l its) (hi : StrsAre its.toList xs) (n9 : xs.length < 1000)
    (q : ∀ (h1 : Heap) (tk : Nat), SetIs prog w h1 s.heap.objs.size (metS xs) → (∀ b o, s.heap.get? b = some o → h1.get? b = some o) → Q (.ref s.heap.objs.size) { s with heap := h1, toks := tk }) :
    wpAny (model prog w) A (call (.type "set") [.ref l]) Q E s := by
  have lt : l < s.heap.objs.size := by obtain ⟨o, h, _⟩ := hl; exact Heap.lt_size h
  have l1 : (s.heap.push (set0 (!w.params.followText "set-order"))).IsList l its := hl.push _
  refine set_made rfl (from_seq (T := "list") l1.typeIs PySem.F.sub_list_set PySem.F.sub_list_frozenset (by decide) ?_)
  refine wpAny_pyIter_list l1 (set_seq lt (Heap.size_push ..) ((Walks.list (by simp [hh]) _ l ?_ its).toS) (by rw [← StrsAre.len_eq hi, Array.length_toList]) n9 (fun i v e => SS.strs_at hi i v (by rw [Array.getElem?_toList]; exact e)) ⟨⟨_, Heap.get?_push_size _ rfl, rfl, rfl⟩, l1.push _⟩ q)
  rw [Heap.size_push]; exact Nat.ne_of_lt (Nat.lt_succ_of_lt lt)
theorem set_of_tuple {l : Addr} {its : Array Value} {xs : List Str} {Q : Value → Shared → Prop} (hh : A.handled = none) (hl : s.heap.IsTuple l its) (hi : StrsAre its.toList xs) (n9 : xs.length < 1000)
    (q : ∀ (h1 : Heap) (tk : Nat), SetIs prog w h1 s.heap.objs.size (metS xs) → (∀ b o, s.heap.get? b = some o → h1.get? b = some o) → Q (.ref s.heap.objs.size) { s with heap := h1, toks := tk }) :
    wpAny (model prog w) A (call (.type "set") [.ref l]) Q E s := by
  have lt : l < s.heap.objs.size := by obtain ⟨o, h, _⟩ := hl; exact Heap.lt_size h
  have l1 : (s.heap.push (set0 (!w.params.followText "set-order"))).IsTuple l its := hl.push _
  have ty : Shared.TypeIs { s with heap := s.heap.push (set0 (!w.params.followText "set-order")) } (.ref l) "tuple" := by obtain ⟨o, h1, h2, _⟩ := l1; exact ⟨o, h1, h2⟩
  refine set_made rfl (from_seq (T := "tuple") ty PySem.F.sub_tuple_set PySem.F.sub_tuple_frozenset (by decide) ?_)
  refine wpAny_pyIter_tuple l1 (set_seq lt (Heap.size_push ..) ((Walks.tuple (by simp [hh]) _ l ?_ its).toS) (by rw [← StrsAre.len_eq hi, Array.length_toList]) n9 (fun i v e => SS.strs_at hi i v (by rw [Array.getElem?_toList]; exact e)) ⟨⟨_, Heap.get?_push_size _ rfl, rfl, rfl⟩, l1.push _⟩ q)
  rw [Heap.size_push]; exact Nat.ne_of_lt (Nat.lt_succ_of_lt lt)
end
section
open L2
variable {X : Cx}
def tLenM (K : PySem.W.Frag) (ta : TE) : TE := fun σ H Q => ta σ H fun x H1 => ∃ (l : Addr) (xs : List Str), x = .ref l ∧ (SqL K H1 l (xs.map V.str) ∨ SqT K H1 l (xs.map V.str)) ∧ xs.length < 1000 ∧ Q (.int ((metS xs).length : Nat)) H1
theorem pe_lenM {a : Expr} {ta : TE} {p p2 q pos : Pos} (hc : X.calm = true) (g1 : Gl X "len") (m1 : X.mg "len" = none) (g2 : Gl X "set") (m2 : X.mg "set" = none) (ha : PE X a ta) (na : starEach [a] X.env = (false, eval a X.env) :: starEach [] X.env) :
    PE X (.Call (.Name "len" p) [.Call (.Name "set" p2) [a] [] q] [] pos) (tLenM X.K ta) := by
  refine ⟨fun pins s σ H Q I h => Call_ (ld_blt I g1 m1 boot_len (callWith_builtin1 (args_cons (Call_ (ld_blt I g2 m2 boot_set ?_)) rfl) rfl rfl))⟩
  refine callWith_type1 (args_cons (thn (ha.run pins s σ H _ I h) fun v s1 ⟨x, H1, I1, r1, z⟩ => args_nil ?_) na) na rfl
  obtain ⟨l, xs, rfl, hq, n9, z⟩ := z
  cases r1
  have fin : ∀ (h2 : Heap) (tk : Nat), SetIs X.prog X.w h2 s1.heap.objs.size (metS xs) → (∀ b o, s1.heap.get? b = some o → h2.get? b = some o) → wpAny (model X.prog X.w) X.A (spliced (backTo pos (starEach [] X.env))) (fun vs s2 => wpAny (model X.prog X.w) X.A (call (.builtin "len") (Value.ref s1.heap.objs.size :: vs)) (EP X pins σ Q) X.xe s2) X.xe { s1 with heap := h2, toks := tk } := by
    intro h2 tk S1 kp
    obtain ⟨o, es, ep, t, o1, o2, o3, _, _, _, o4, o5⟩ := S1
    have I2 : Inv X pins σ H1 { s1 with heap := h2, toks := tk } := I1.kept kp
    have le := metS_le xs
    exact args_nil (call_len_set o1 o2 o3 o4 (by rw [o5]; omega) ⟨.int ((metS xs).length : Nat), H1, I2.tok _, ⟨_, by rw [o5]⟩, z⟩)
  rcases hq with hq | hq
  · obtain ⟨its, r, pl, _⟩ := I1.list hq
    exact set_of_list (I1.ok.hd hc) pl.isList (by simpa using strsAre_of r) n9 fin
  · obtain ⟨its, r, pl, _⟩ := I1.tuple hq
    exact set_of_tuple (I1.ok.hd hc) pl (by simpa using strsAre_of r) n9 fin
end
end Mn
namespace Mn
open PySem L2
inductive Bf where
  | len | abs | int | max | sum | all | list | isinstance | min | any | sorted | tuple | dict | str | set
  deriving DecidableEq
def Bf.nm : Bf → Str
  | .len => "len" | .abs => "abs" | .int => "int" | .max => "max" | .sum => "sum" | .all => "all" | .list => "list" | .isinstance => "isinstance"
  | .min => "min" | .any => "any" | .sorted => "sorted" | .tuple => "tuple" | .dict => "dict" | .str => "str" | .set => "set"
inductive Bm where
  | append | get | setdefault | join | split
  deriving DecidableEq
def Bm.nm : Bm → Str
  | .append => "append" | .get => "get" | .setdefault => "setdefault" | .join => "join" | .split => "split"
inductive MT where
  | nm (i : Nat)
  | tp (ts : List MT)
inductive R where
  | val (d : D)
  | newL (ds : List D)
  | newD (kvs : List (Key × D))
  | upd (d : D) (S : Sto)
def fin (m : Bool) (r : R) (S : Sto) (k : D → Sto → Prop) : Prop :=
  match r with
  | .val d => k d S
  | .newL ds => if m = true then ∀ p, S p = none → k (.ref p) (put S p (.lst ds)) else k (.lst ds) S
  | .newD kvs => ∀ p, S p = none → k (.ref p) (put S p (.dct kvs))
  | .upd d S' => k d S'
theorem fin_mono {m : Bool} {r : R} {S : Sto} {k k' : D → Sto → Prop} (h : ∀ d S', k d S' → k' d S') (q : fin m r S k) : fin m r S k' := by
  unfold fin at q ⊢
  cases r with
  | val d => exact h _ _ q
  | newL ds =>
    cases m with
    | true => exact fun p hp => h _ _ (q p hp)
    | false => exact h _ _ q
  | newD kvs => exact fun p hp => h _ _ (q p hp)
  | upd d S' => exact h _ _ q
def keyOf : D → Option Key
  | .int i => some (.inl i)
  | .str x => some (.inr x)
  | _ => none
def keysOf : List D → Option (List Key)
  | [] => some []
  | d :: ds => match keyOf d, keysOf ds with
    | some k, some ks => some (k :: ks)
    | _, _ => none
def keyT : D → Option (List Key)
  | .tup ds => keysOf ds
  | _ => none
/-- what a dict holds at a key -/
def dGet (S : Sto) (x i : D) : Option (Option D) := match x with
  | .ref a => (match S a with
    | some (.dct kvs) => (keyOf i).map (gv kvs)
    | some (.ldc _ _ kvs) => (keyOf i).map (gv kvs)
    | some (.dcT kvs) => (keyT i).map (gv kvs)
    | _ => none)
  | _ => none
def strsOf : List D → Option (List Str)
  | [] => some []
  | .str x :: ds => match strsOf ds with
    | some l => some (x :: l)
    | none => none
  | _ => none
def ksOf : List (Key × D) → Option (List Str)
  | [] => some []
  | (.inr x, _) :: ds => match ksOf ds with
    | some l => some (x :: l)
    | none => none
  | _ => none
def prsOf : List (List Key × D) → Option (List (Str × Str))
  | [] => some []
  | ([.inr x, .inr y], _) :: ds => match prsOf ds with
    | some l => some ((x, y) :: l)
    | none => none
  | _ => none
def prD (y : Str × Str) : D := .tup [.str y.1, .str y.2]
def prOk (y : Str × Str) : Bool := PySem.PyData.strOk y.1 && PySem.PyData.strOk y.2
def dcTAt (S : Sto) (a : Addr) : Option (List (List Key × D)) := match S a with
  | some (.dcT kvs) => some kvs
  | _ => none
/-- a text goes into its place -/
def insS (x : Str) : List Str → List Str
  | [] => [x]
  | y :: r => if PySem.Spec.ltCps y.cps.toList x.cps.toList = true then y :: insS x r else x :: y :: r
def srtS : List Str → List Str
  | [] => []
  | x :: r => insS x (srtS r)
def lstAt (S : Sto) (a : Addr) : Option (List D) := match S a with
  | some (.lst ds) => some ds
  | _ => none
theorem lstAt_of {S : Sto} {a : Addr} {ds : List D} (h : S a = some (.lst ds)) : lstAt S a = some ds := by unfold lstAt; rw [h]
theorem lstAt_some {S : Sto} {a : Addr} {ds : List D} (h : lstAt S a = some ds) : S a = some (.lst ds) := by
  unfold lstAt at h
  split at h
  · rename_i e; cases h; exact e
  · cases h
def listOf (S : Sto) : D → Option (List D)
  | .lst ds => some ds
  | .ref a => lstAt S a
  | _ => none
def seqOf (S : Sto) : D → Option (List D)
  | .lst ds => some ds
  | .tup ds => some ds
  | .ref a => lstAt S a
  | _ => none
mutual
def toPy : D → PyData
  | .bl b => .bool b
  | .int i => .int i
  | .str x => .str x
  | .tup ds => .tuple (toPys ds)
  | .lst ds => .list (toPys ds)
  | _ => .none
def toPys : List D → List PyData
  | [] => []
  | d :: ds => toPy d :: toPys ds
end
mutual
/-- no address in it -/
def pureD : D → Bool
  | .non => true
  | .bl _ => true
  | .int _ => true
  | .str _ => true
  | .tup ds => pureDs ds
  | .lst ds => pureDs ds
  | _ => false
def pureDs : List D → Bool
  | [] => true
  | d :: ds => pureD d && pureDs ds
end
mutual
def dep : D → Nat
  | .tup ds => deps ds + 1
  | .lst ds => deps ds + 1
  | _ => 0
def deps : List D → Nat
  | [] => 0
  | d :: ds => max (dep d) (deps ds)
end
/-- a list of the store as a value -/
def top (S : Sto) : D → D
  | .ref a => match lstAt S a with
    | some ds => .lst ds
    | none => .ref a
  | d => d
def tru (S : Sto) : D → Option Bool
  | .non => some false
  | .bl b => some b
  | .int i => some (i != 0)
  | .str x => if x.length ≤ sizeLine then some ((x.length : Int) != 0) else none
  | .tup ds => some (!ds.isEmpty)
  | .lst ds => some (!ds.isEmpty)
  | .ref a => (lstAt S a).map fun ds => !ds.isEmpty
  | _ => none
def g? {α : Type} (c : Prop) [Decidable c] (r : α) : Option α := if c then some r else none
/-- a text some times -/
def repS (x : Str) (n : Nat) : Str := ⟨(List.replicate n x.cps).foldl (· ++ ·) #[]⟩
def binR (o : Operator) (x y : D) (S : Sto) : Option R :=
  match o, x, y with
  | .Add, .int i, .int j => some (.val (.int (i + j)))
  | .Sub, .int i, .int j => some (.val (.int (i - j)))
  | .Mult, .int i, .int j => g? ((-(2 ^ 64) < i ∧ i < 2 ^ 64) ∨ (-(2 ^ 64) < j ∧ j < 2 ^ 64)) (.val (.int (i * j)))
  | .FloorDiv, .int i, .int j => g? (0 < j ∧ j < 1073741824) (.val (.int (i / j)))
  | .Mod, .int i, .int j => g? (0 < j) (.val (.int (i % j)))
  | .Pow, .int i, .int j => g? (0 ≤ j ∧ j ≤ 1000000 ∧ i.natAbs < 2 ^ 64) (.val (.int (i ^ j.toNat)))
  | .Add, .str i, .str j => g? (i.length + j.length ≤ sizeLine) (.val (.str (i ++ j)))
  | .Add, .tup ds, .tup es => g? (ds.length + es.length ≤ sizeLine) (.val (.tup (ds ++ es)))
  | .Add, x, y => match listOf S x, listOf S y with
    | some ds, some es => g? (ds.length + es.length ≤ sizeLine) (.newL (ds ++ es))
    | _, _ => none
  | .Mult, .str z, .int n => g? (1 ≤ n ∧ n ≤ 1000 ∧ z.length ≤ 1000) (.val (.str (repS z n.toNat)))
  | .Mult, x, .int n => match listOf S x with
    | some ds => g? (0 ≤ n ∧ n ≤ 1000 ∧ ds.length ≤ 1000) (.newL (List.replicate n.toNat ds).flatten)
    | none => none
  | _, _, _ => none
def deq (x y : D) : Bool := PyData.eqv (toPy x) (toPy y)
def eqR0 (x y : D) (S : Sto) : Option Bool := g? (pureD (top S x) = true ∧ pureD (top S y) = true ∧ min (dep (top S x)) (dep (top S y)) ≤ 60) (deq (top S x) (top S y))
/-- a list of lists against the list of nothing -/
def nilR (x y : D) (S : Sto) : Option Bool := match x, y with
  | .ref a, .lst [] => (match lstAt S a with
    | some ds => g? (pureDs (ds.map (top S)) = true) ds.isEmpty
    | none => none)
  | _, _ => none
def eqR (x y : D) (S : Sto) : Option Bool := match eqR0 x y S with
  | some b => some b
  | none => nilR x y S
def flat : D → Bool
  | .non => true
  | .bl _ => true
  | .int _ => true
  | .str _ => true
  | _ => false
def inR (x y : D) (S : Sto) : Option Bool := match x, y with
  | .str z, .str y => match z.cps.toList with
    | [c] => some (decide (c ∈ y.cps.toList))
    | _ => none
  | x, y => match seqOf S y with
    | some ds => g? (flat x = true ∧ ds.all flat = true) (ds.any fun z => deq z x)
    | none => (dGet S y x).map Option.isSome
def isR (x y : D) : Option Bool := match x, y with
  | .non, .non => some true
  | .bl _, .non => some false
  | .int _, .non => some false
  | .str _, .non => some false
  | .tup _, .non => some false
  | .lst _, .non => some false
  | .ref _, .non => some false
  | .bl a, .bl b => some (decide (a = b))
  | _, _ => none
def cmpR (o : CmpOp) (x y : D) (S : Sto) : Option Bool :=
  match o, x, y with
  | .Lt, .int i, .int j => some (decide (i < j))
  | .LtE, .int i, .int j => some (decide (i ≤ j))
  | .Gt, .int i, .int j => some (decide (j < i))
  | .GtE, .int i, .int j => some (decide (j ≤ i))
  | .Eq, x, y => eqR x y S
  | .NotEq, x, y => (eqR x y S).map (!·)
  | .In, x, y => inR x y S
  | .NotIn, x, y => (inR x y S).map (!·)
  | .Is, x, y => isR x y
  | .IsNot, x, y => (isR x y).map (!·)
  | _, _, _ => none
def idxR (x i : D) (S : Sto) : Option D :=
  match x, i with
  | .str z, .int i => if z.length ≤ sizeLine then (atI z.cps.toList i).map (fun c => .str ⟨#[c]⟩) else none
  | x, i => match seqOf S x with
    | some ds => (match i with
      | .int i => atI ds i
      | _ => none)
    | none => (dGet S x i).bind id
def cutD (ds : List D) (lo hi : Option Int) : List D := (ds.drop (HT.sIx ds.length 0 lo)).take (HT.sIx ds.length ds.length hi - HT.sIx ds.length 0 lo)
def slcR (x : D) (lo hi : Option Int) (S : Sto) : Option R :=
  match x with
  | .str z => g? (z.length ≤ sizeLine) (.val (.str (cutS z lo hi)))
  | .tup ds => some (.val (.tup (cutD ds lo hi)))
  | x => match listOf S x with
    | some ds => some (.newL (cutD ds lo hi))
    | none => none
def tyN (S : Sto) : D → Option String
  | .non => some "NoneType"
  | .bl _ => some "bool"
  | .int _ => some "int"
  | .str _ => some "str"
  | .tup _ => some "tuple"
  | .lst _ => some "list"
  | .ref a => (lstAt S a).map fun _ => "list"
  | _ => none
/-- isinstance by the types' names -/
def isT (t : String) (c : String) : Bool := t == c || (t == "bool" && c == "int")
def isiR (S : Sto) (x c : D) : Option Bool := match tyN S x, c with
  | some t, .ty n => g? (n = "int" ∨ n = "bool" ∨ n = "str" ∨ n = "list" ∨ n = "tuple") (isT t n)
  | some t, .tup [.ty n, .ty n'] => g? (n = "tuple" ∧ n' = "list") (isT t n || isT t n')
  | _, _ => none
def allB (S : Sto) : List D → Option Bool
  | [] => some true
  | .bl b :: r => match allB S r with
    | some c => some (b && c)
    | none => none
  | _ => none
def anyB (S : Sto) : List D → Option Bool
  | [] => some false
  | .bl b :: r => match anyB S r with
    | some c => some (b || c)
    | none => none
  | _ => none
def dctAt (S : Sto) (a : Addr) : Option (List (Key × D)) := match S a with
  | some (.dct kvs) => some kvs
  | some (.ldc _ _ kvs) => some kvs
  | _ => none
/-- a dict that may be written -/
def dctW (S : Sto) (a : Addr) : Option (List (Key × D)) := match S a with
  | some (.dct kvs) => some kvs
  | _ => none
def sumI : List D → Option Int
  | [] => some 0
  | .int i :: r => (sumI r).map (i + ·)
  | _ => none
def bltR (f : Bf) (xs : List D) (S : Sto) : Option R := match f, xs with
  | .len, [.str z] => g? (z.length ≤ sizeLine) (.val (.int z.length))
  | .len, [x] => match seqOf S x with
    | some ds => some (.val (.int ds.length))
    | none => (match x with
      | .ref a => (dctAt S a).map fun kvs => .val (.int kvs.length)
      | _ => none)
  | .abs, [.int i] => some (.val (.int (if i < 0 then -i else i)))
  | .int, [.int i] => some (.val (.int i))
  | .int, [.bl k] => some (.val (.int (if k = true then 1 else 0)))
  | .max, [.int i, .int j] => some (.val (.int (if j > i then j else i)))
  | .sum, [x] => match listOf S x with
    | some ds => (sumI ds).map fun i => .val (.int i)
    | none => none
  | .all, [x] => match listOf S x with
    | some ds => (allB S ds).map fun b => .val (.bl b)
    | none => none
  | .list, [x] => (seqOf S x).map fun ds => .newL ds
  | .isinstance, [x, c] => (isiR S x c).map fun b => .val (.bl b)
  | .min, [.int i, .int j] => some (.val (.int (if j < i then j else i)))
  | .any, [x] => match listOf S x with
    | some ds => (anyB S ds).map fun b => .val (.bl b)
    | none => none
  | .sorted, [x] => match listOf S x with
    | some ds => (match strsOf ds with
      | some l => g? (l.length < 64) (.newL ((srtS l).map .str))
      | none => none)
    | none => (match x with
      | .ref a => (match dctAt S a with
        | some kvs => (match ksOf kvs with
          | some l => g? (l.length < 64 ∧ l.all PySem.PyData.strOk = true) (.newL ((srtS l).map .str))
          | none => none)
        | none => (match dcTAt S a with
          | some kvs => (match prsOf kvs with
            | some l => g? (l.all prOk = true) (.newL ((srtP l).map prD))
            | none => none)
          | none => none))
      | _ => none)
  | .tuple, [.tup ds] => some (.val (.tup ds))
  | .tuple, [x] => (listOf S x).map fun ds => .val (.tup ds)
  | .dict, [.ref a] => (dctAt S a).map fun kvs => .newD kvs
  | .str, [.int i] => g? (i.natAbs.log2 < 1920 ∧ PySem.PyData.strOk (toString i : String) = true) (.val (.str (toString i : String)))
  | _, _ => none
/-- is it of the method's type? -/
def bmT (f : Bm) (o : D) (S : Sto) : Bool := match f with
  | .append => (listOf S o).isSome
  | .get => (match o with
    | .ref a => (match S a with
      | some (.dct _) => true
      | some (.dcT _) => true
      | _ => false)
    | _ => false)
  | .setdefault => (match o with
    | .ref a => (dctW S a).isSome
    | _ => false)
  | .join => (match o with
    | .str _ => true
    | _ => false)
  | .split => (match o with
    | .str _ => true
    | _ => false)
def bmR (f : Bm) (o : D) (xs : List D) (S : Sto) : Option R := match f, o, xs with
  | .append, .ref a, [d] => match lstAt S a with
    | some ds => g? (ds.length < sizeLine) (.upd .non (put S a (.lst (ds ++ [d]))))
    | none => none
  | .get, .ref a, [i, d] => (dGet S (.ref a) i).map fun o => .val (o.getD d)
  | .setdefault, .ref a, [i, d] => match dctW S a, keyOf i with
    | some kvs, some k => g? (kvs.length < sizeLine) (match gv kvs k with
      | some v => .val v
      | none => .upd d (put S a (.dct (gp kvs k d))))
    | _, _ => none
  | .join, .str z, [x] => match seqOf S x with
    | some ds => (match strsOf ds with
      | some ys => g? ((ys.map (·.length)).sum + ys.length * z.length ≤ 16777216 ∧ PySem.PyData.strOk (Txt.join z ys) = true) (.val (.str (Txt.join z ys)))
      | none => none)
    | none => none
  | .split, .str z, [.str b] => g? ((b.length == 0) = false ∧ z.length + 2 ≤ sizeLine ∧ (Txt.split z b).all PySem.PyData.strOk = true) (.newL ((Txt.split z b).map .str))
  | _, _, _ => none
def lnsR (x : D) (S : Sto) : Option D := match seqOf S x with
  | some ds => (match strsOf ds with
    | some l => g? (l.length < 1000) (.int ((metS l).length : Nat))
    | none => none)
  | none => none
mutual
def asgT : MT → D → Env → Option Env
  | .nm i, d, σ => some (σ.set i (some d))
  | .tp ts, .tup ds, σ => asgTs ts ds σ
  | .tp _, _, _ => none
def asgTs : List MT → List D → Env → Option Env
  | [], [], σ => some σ
  | t :: ts, d :: ds, σ => match asgT t d σ with
    | some σ' => asgTs ts ds σ'
    | none => none
  | _, _, _ => none
end
structure Exc where
  cls : Str
  fs : List (Str × D)
abbrev DSp := List D → Sto → (D → Sto → Prop) → (Exc → Sto → Prop) → Prop
structure Gc where
  fn : Str → Option (Nat × DSp)
  con : Str → Option D
  mt : Str → Str → Option (Nat × DSp) := fun _ _ => none
  mkr : Str → Option (Nat × DSp) := fun _ => none
  fld : Str → Str → Bool := fun _ _ => false
  exc : Str → Option (Nat × (List D → List (Str × D))) := fun _ => none
  sub : Str → Str → Option Bool := fun _ _ => none
  xfl : Str → Str → Bool := fun _ _ => false
  /-- a class that is a ValueError -/
  isv : Str → Bool := fun _ => false
  /-- a method that answers the sorted keys of a field -/
  hot : Str → Str → Option Str := fun _ _ => none
  /-- written dicts of texts -/
  cdc : Str → Option (List (Str × Str)) := fun _ => none
  /-- written tuples of texts -/
  cts : Str → Option (List Str) := fun _ => none
abbrev XW := Exc → Env → Sto → Prop
def callW (sp : DSp) (ds : List D) (S : Sto) (k : D → Sto → Prop) (x : Exc → Sto → Prop) : Prop :=
  ∃ (Q : D → Sto → Prop) (X : Exc → Sto → Prop), (∀ d S', Q d S' → k d S') ∧ (∀ e S', X e S' → x e S') ∧ sp ds S Q X
/-- what is walked: the items, and what must stand at each turn -/
def keyD : Key → D
  | .inl i => .int i
  | .inr z => .str z
def kOk : Key → Bool
  | .inl _ => true
  | .inr z => PySem.PyData.strOk z
def itR (x : D) (S : Sto) : Option (List D × (Sto → Prop)) := match x with
  | .lst ds => some (ds, fun _ => True)
  | .tup ds => some (ds, fun _ => True)
  | .str z => some (z.cps.toList.map fun c => .str ⟨#[c]⟩, fun _ => True)
  | .ref a => (match S a with
    | some (.lst ds) => some (ds, fun S' => S' a = some (.lst ds))
    | some (.ldc o ks kvs) => g? ((kvs.all fun kv => kOk kv.1) = true) (kvs.map fun kv => keyD kv.1, fun S' => S' a = some (.ldc o ks kvs))
    | _ => none)
  | .scr ns => some (ns.map .int, fun _ => True)
  | _ => none
def rngR : List D → Option (List D)
  | [.int j] => g? (-(2 ^ 62) ≤ j ∧ j < 2 ^ 62) ((List.range j.toNat).map fun (k : Nat) => .int (k : Int))
  | [.int i, .int j] => g? (-(2 ^ 62) ≤ i ∧ i < 2 ^ 62 ∧ -(2 ^ 62) ≤ j ∧ j < 2 ^ 62) ((List.range (j - i).toNat).map fun (k : Nat) => .int (i + k))
  | _ => none
def enmL : Nat → List D → List D
  | _, [] => []
  | n, d :: ds => .tup [.int n, d] :: enmL (n + 1) ds
def zipL : List D → List D → List D
  | d :: ds, e :: es => .tup [d, e] :: zipL ds es
  | _, _ => []
/-- what is walked, by its form: 0 a value, 1 range, 2 enumerate, 3 zip -/
def zipR (x : D) (js : List D × (Sto → Prop)) : Option (List D × (Sto → Prop)) := match x with
  | .str z => some (zipL (z.cps.toList.map fun c => .str ⟨#[c]⟩) js.1, js.2)
  | _ => none
/-- enumerate of a text -/
def enmR (x : D) : Option (List D × (Sto → Prop)) := match x with
  | .str z => some (enmL 0 (z.cps.toList.map fun c => .str ⟨#[c]⟩), fun _ => True)
  | _ => none
def itS (i : Nat) (xs : List D) (S : Sto) : Option (List D × (Sto → Prop)) := match i, xs with
  | 0, [x] => itR x S
  | 1, xs => (rngR xs).map fun l => (l, fun _ => True)
  | 2, [x] => match listOf S x, itR x S with
    | some _, some its => some (enmL 0 its.1, its.2)
    | _, _ => enmR x
  | 3, [x, y] => match listOf S x, itR x S, listOf S y, itR y S with
    | some _, some its, some _, some jts => some (zipL its.1 jts.1, fun S' => its.2 S' ∧ jts.2 S')
    | none, _, some _, some jts => zipR x jts
    | _, _, _, _ => none
  | _, _ => none
/-- the loop of a comprehension -/
def lcLoop (g : Sto → Prop) (f : D → Sto → (Option D → Sto → Prop) → Prop) : List D → List D → Sto → (List D → Sto → Prop) → Prop
  | [], acc, S, k => g S ∧ k acc S
  | d :: ds, acc, S, k => g S ∧ f d S fun r S' => match r with
    | some y => acc.length < sizeLine ∧ lcLoop g f ds (acc ++ [y]) S' k
    | none => lcLoop g f ds acc S' k
structure KS where
  nx : Env → Sto → Prop
  rt : D → Sto → Prop
  bk : Env → Sto → Prop := fun _ _ => False
  ct : Env → Sto → Prop := fun _ _ => False
def forLoop (g : Sto → Prop) (f : D → Env → Sto → KS → Prop) : List D → Env → Sto → KS → Prop
  | [], σ, S, k => g S ∧ k.nx σ S
  | d :: ds, σ, S, k => g S ∧ f d σ S { nx := fun σ' S' => forLoop g f ds σ' S' k, ct := fun σ' S' => forLoop g f ds σ' S' k, rt := k.rt, bk := k.nx }
def augR (o : Operator) (x y : D) : Option D := match o, x, y with
  | .Add, .int i, .int j => some (.int (i + j))
  | .Sub, .int i, .int j => some (.int (i - j))
  | _, _, _ => none
def sixR (o i v : D) (S : Sto) : Option Sto := match o with
  | .ref a => (match S a with
    | some (.lst ds) => (match i with
      | .int i => (match ixN ds.length i with
        | some j => some (put S a (.lst (ds.set j v)))
        | none => none)
      | _ => none)
    | some (.dct kvs) => (match keyOf i with
      | some k => g? (kvs.length < sizeLine) (put S a (.dct (gp kvs k v)))
      | none => none)
    | some (.dcT kvs) => (match keyT i with
      | some k => g? (kvs.length < sizeLine) (put S a (.dcT (gp kvs k v)))
      | none => none)
    | _ => none)
  | _ => none
end Mn
namespace L2
open PySem PySem.Spec PyProof.Rows
theorem ps_onlyN {X : Cx} {x : Str} {c : Value} {body suite : List Stmt} {b0 : Stmt} {np pos pos2 : Pos} {tb : WX → TS} {ts : Addr → Value → Option Addr → TS} {Wo : WX} (hs : X.stack = X.env :: X.outer) (hf : X.env.frame = some X.env.locals) (hc : Names X x c) (tk : L2N.Takes X Wo)
    (hb : ∀ (W : WX) (pn : List (Addr × Obj)) (xe : Value → Shared → Prop), L2N.Takes (X.tr pn xe) W → PassesOwn (model X.prog X.w) X.A X.env xe → PSs (X.tr pn xe) body (tb W))
    (hu : ∀ (a : Addr) (oe : Obj) (cls : Value) (d : Option Addr) (pn : List (Addr × Obj)), L2N.Zn cls d oe → (∃ vs, oe.data = .fields vs) → PSs (X.suite a ((a, oe) :: pn)) (b0 :: suite) (ts a cls d)) :
    PS X (.Try body [.ExceptHandler (some (.Name x np)) none (b0 :: suite) pos2] [] [] pos) (fun D σ H => tb (wOnly X.K c ts Wo D) D σ H) :=
  L2N.ps_try_many (l := [(c, ts)]) hs hf tk hb (.cons hc hu .nil)
theorem pmk_oexN {X : Cx} {CX : CXT} {x : Str} {e : Expr} {es : List Expr} {ta : TA} {p pos : Pos} {C fI : Addr} {k : Nat} {fd : FuncData} {ps : List Str} {sp : Sp} {ds : List Value} {dvs : List V} (T : OexC X.K C) (iC : PySem.W.findIn X.K (.ref C) "__init__" = some (some (.ref fI))) (tI : PySem.W.typeIn X.K (.ref fI) = some (.type "function"))
    (FI : FnOk X.prog X.w X.K X.mg X.base CX k fI fd ps sp) (room : Room (k + 1) X.A) (bd : Binds X.K fd ps ds) (dv : Vals dvs ds) (pas : Passes CX X (fun _ _ _ => False)) (gl : Gl X x) (mg : X.mg x = some (.ref C)) (pa : PA X (e :: es) ta)
    (ndb : (x == ("__debug__" : Str)) = false) (st : starEach (e :: es) X.env = (false, eval e X.env) :: starEach es X.env) (pl : (backTo pos (starEach es X.env)).any (·.1) = false) :
    L2N.PMk X (.Call (.Name x p) (e :: es) [] pos) (tMkO C sp dvs ta) := by
  intro pn0 s0 σ0 H0 Q0 I0 h0
  obtain ⟨_, _, _, _, bm, _, _, _, _, _, _, _, _, _, _, hC, hbm⟩ := T.cls
  refine wpAny_Call_Name_kw (ld_glob I0 gl mg ?_ ndb)
  refine PySem.W.callWith_K (h₀ := X.base) I0.ok.mod.kin T.kC (thn (pa.run pos pn0 s0 σ0 H0 _ I0 h0) fun us s1 ⟨vs, H1, I1, r1, _, q1⟩ => ⟨I1.kIn, ?_⟩) st pl
  show wpAny _ _ (call (.ref C) us) _ _ _
  obtain ⟨hp, gg, dw, tk, oo⟩ := s1
  have hn : H1 (hp.objs.size + 1) = none := I1.hok.fresh (Nat.le_succ _)
  have hq := q1 (hp.objs.size + 1) hn
  have up : ∀ b o, hp.get? b = some o → ((hp.push (PySem.W.kdv_tup us)).push (PySem.HandSPX.excO C hp.objs.size)).get? b = some o := fun b o z => Heap.get?_push_of_some _ (Heap.get?_push_of_some _ z)
  have J : Inv X pn0 σ0 (upd H1 (hp.objs.size + 1) (exo (hp.objs.size + 1) C none)) ⟨(hp.push (PySem.W.kdv_tup us)).push (PySem.HandSPX.excO C hp.objs.size), gg, dw, tk, oo⟩ :=
    I1.laid (t' := tk) (a := hp.objs.size + 1) (o := exo (hp.objs.size + 1) C none) (h' := (hp.push (PySem.W.kdv_tup us)).push (PySem.HandSPX.excO C hp.objs.size)) up (Nat.le_succ _) (exo_ok (by heap_get))
  have r2 : Vals (V.ref (hp.objs.size + 1) :: (vs ++ dvs)) (Value.ref (hp.objs.size + 1) :: (us ++ ds)) := .cons rfl (r1.append dv)
  have hl : (Value.ref (hp.objs.size + 1) :: us ++ ds).length = ps.length := (r2.length.symm.trans (FI.len _ _ _ _ hq) : _)
  have few : us.length ≤ sizeLine := by rw [← Paired.length r1, sizeLine_eq]; omega
  refine wpAny_call (PySem.HandSPX.call_own F.excBase_ValueError (fun Y => PySem.HandSPX.refsVE_contains Y bm hbm) (I1.kIn _ _ hC) (PySem.W.looks_findIn I1.kIn iC) (fun self => PySem.W.bind_fn I1.kIn self tI) few (codeAny_mono (FI.run _ X.stack _ _ ⟨Value.ref (hp.objs.size + 1) :: us, []⟩ (Value.ref (hp.objs.size + 1) :: (us ++ ds)) _ _ (fun _ _ _ => False) (room.make C us []) (J.env0.make C us []) (bd _ (Value.ref (hp.objs.size + 1) :: us) J.kIn hl) r2 hq) fun fl s2 hq2 => ?_))
  cases fl with
  | error er => exact pas pn0 σ0 _ _ er s2 J hq2
  | ok fl =>
    cases fl with
    | ret u =>
      obtain ⟨v, H2, os2, bare2, un2, hok2, rv, ev, d, fs, ea, ed, hd1, q2⟩ := hq2
      subst ev
      obtain ⟨h2, g2, d2, t2, o2⟩ := s2
      obtain ⟨t0, G, J2, kG, ge, hoe, na⟩ := mk_end0 (d2 := d2) (t2 := t2) I1 (Nat.le_succ _) up un2 hok2 os2 bare2 ea ed hd1
      exact ⟨rv, hp.objs.size + 1, _, _, ⟨G, g2, d2, t2, o2⟩, _, .ref C, some d, rfl, J2, kG, ge, hoe, ⟨rfl, rfl, fun vs hv => by cases hv; rfl⟩, rfl, rfl, na, rfl, bare2, raises_own T.exC T.tyC, q2⟩
    | next => exact hq2.elim
    | brk => exact hq2.elim
    | cont => exact hq2.elim
end L2
namespace L2
open PySem PySem.Spec PyProof.Rows
/-- an exception in the air, noted (if at all) at the frame -/
def XEL (X : Cx) (W : WX) (u : Value) (s' : Shared) : Prop :=
  ∃ L, X.env.frame = some L ∧ ∃ (a : Addr) (B : Heap) (sI : Shared) (pins : List (Addr × Obj)) (σ : St) (H : Hp) (cls : Value) (d : Option Addr),
    u = .ref a ∧ Inv X pins σ H sI ∧ (∀ b o, sI.heap.get? b = some o → b ∉ frs X.stack → B.get? b = some o) ∧ sI.heap.UpToSlots s'.heap ∧
      Sky B X.stack a (L2N.Zn cls d) L s'.heap ∧ H a = none ∧ s'.os = sI.os ∧ AllBare s'.gens ∧ W cls d σ H
def TakesL (X : Cx) (W : WX) : Prop := ∀ u s', XEL X W u s' → X.xe u s'
theorem TakesL.imp {X : Cx} {W W' : WX} (t : TakesL X W) (h : ∀ c d σ H, W' c d σ H → W c d σ H) : TakesL X W' := fun u s' ⟨L, hL, a, B, sI, pins, σ, H, cls, d, e, I, nb, up, sky, na, os, ag, w⟩ =>
  t u s' ⟨L, hL, a, B, sI, pins, σ, H, cls, d, e, I, nb, up, sky, na, os, ag, h _ _ _ _ w⟩
theorem takes_L {X : Cx} {W : WX} (t : TakesL X W) (hf : X.env.frame = some X.env.locals) : L2N.Takes X W := fun u s' x => t u s' ⟨_, hf, x⟩
theorem takesL_of {X : Cx} {W : WX} (t : L2N.Takes X W) (hf : X.env.frame = some X.env.locals) : TakesL X W := fun u s' ⟨L, hL, x⟩ => by
  rw [hf] at hL
  cases hL
  exact t u s' x
section
variable {X : Cx} {pins : List (Addr × Obj)} {σ : St} {H : Hp} {sI s s' : Shared} {B : Heap} {W : WX} {E : XK}
/-- a call's exception is in our air, in flight -/
theorem XEL.of_call {L : Addr} (hL : X.env.frame = some L) (I : Inv X pins σ H s) (hW : ∀ cls d H', E cls d H' → W cls d σ H') {u : Value} (c : L2N.CX X.prog X.w X.stack H s E u s') : XEL X W u s' := by
  obtain ⟨a, B, H', cls, d, rfl, fl, hok, ub, na, os, ag, hE⟩ := c
  obtain ⟨G, g1, g2⟩ := restrict s'.heap fun b => (B.get? b).isSome || decide (b ∈ frs X.stack)
  have st : B.StaysIn s'.heap := fl.1
  have gB : ∀ b o, B.get? b = some o → G.get? b = some o := fun b o e => by
    rw [g1 b (by simp [e])]
    exact st b o e
  have gF : ∀ b, b ∈ frs X.stack → G.get? b = s'.heap.get? b := fun b hb => g1 b (by simp [hb])
  have og : ∀ b o, G.get? b = some o → s'.heap.get? b = some o ∧ ((B.get? b).isSome = true ∨ b ∈ frs X.stack) := fun b o e => by
    cases q : ((B.get? b).isSome || decide (b ∈ frs X.stack)) with
    | false => rw [g2 b q] at e; cases e
    | true =>
      rw [g1 b q] at e
      exact ⟨e, by simpa [Bool.or_eq_true] using q⟩
  refine ⟨L, hL, a, B, { s with heap := G, gens := s'.gens, drawn := s'.drawn, toks := s'.toks }, pins, σ, H', cls, d, rfl, ?_, fun b o e hb => ?_, Heap.UpToSlots.of_keeps fun b o e => (og b o e).1, .inr (.inl fl), na, os, ag, hW _ _ _ hE⟩
  · refine I.call (ch := []) ⟨fun b o e n hb _ => gB b o (ub.keep b o e n hb), fun b o e n hb _ => ?_, fun b o e n _ => ub.free b o e n, fun b o e _ => ?_, ub.tups, ub.frzs, ub.tbls⟩ (hok.kept gB) ag (fun _ z => nomatch z)
    · obtain ⟨sl, q⟩ := ub.slot b o e hb
      exact ⟨sl, by rw [gF b hb]; exact q⟩
    · by_cases hb : b ∈ frs X.stack
      · obtain ⟨sl, q⟩ := ub.slot b o e hb
        exact ⟨_, by rw [gF b hb]; exact q⟩
      · obtain ⟨o', q⟩ := ub.there b o e hb
        exact ⟨o', gB b o' q⟩
  · obtain ⟨e', h⟩ := og b o e
    rcases h with h | h
    · obtain ⟨o', q⟩ := Option.isSome_iff_exists.mp h
      have z := st b o' q
      rw [e'] at z; cases z
      exact q
    · exact absurd h hb
theorem passAtL {L : Addr} (hL : X.env.frame = some L) (tk : TakesL X W) (σ : St) : PassesAt (L2N.CX X.prog X.w) X σ (WE W σ) := fun _ _ _ e s' I c => tk e s' (XEL.of_call hL I (fun _ _ _ h => h) c)
end
theorem hide1_ne {B : Heap} {C b : Addr} {o : Obj} (e : (PySem.W.hideAll B [C]).get? b = some o) : b ≠ C ∧ B.get? b = some o := by
  refine ⟨fun z => ?_, PySem.W.of_hideAll _ e⟩
  have n := PySem.W.hideAll_none [C] (h := B) (b := b) (List.mem_singleton.mpr z)
  rw [n] at e
  exact absurd e (fun y => nomatch y)
theorem hide1_get {B : Heap} {C b : Addr} {o : Obj} (e : B.get? b = some o) (h : b ≠ C) : (PySem.W.hideAll B [C]).get? b = some o := PySem.W.hideAll_get _ e (fun z => h (List.mem_singleton.mp z))
theorem hide1_free {B : Heap} {C b : Addr} (e : B.get? b = none) : (PySem.W.hideAll B [C]).get? b = none := by
  cases q : (PySem.W.hideAll B [C]).get? b with
  | none => rfl
  | some o => have := (hide1_ne q).2; rw [e] at this; cases this
theorem frames_less {h B B' : Heap} (k : ∀ b, B.get? b = none → B'.get? b = none) : ∀ {l : List Env}, h.FunFrames B l → h.FunFrames B' l
  | [], _ => trivial
  | _ :: _, ⟨h1, ⟨L, o, e1, e2, e3, e4⟩, h2⟩ => ⟨h1, ⟨L, o, e1, k L e2, e3, e4⟩, frames_less k h2⟩
theorem heldZ_hide {B h h' : Heap} {l : List Env} {a C L : Addr} {Z : Obj → Prop} {m : Str → Option Value} (x : HandSPX.HeldZ B l a Z L h) (hn : h.Ns C m) (sb : Heap.SameBut C h h') {m' : Str → Option Value} (hn' : h'.Ns C m') : HandSPX.HeldZ (PySem.W.hideAll B [C]) l a Z L h' := by
  obtain ⟨st, na, ff, oe, vs, T, oT, ts, he, hz, hd, h1, hnT, hTe, hT, hdT, h3⟩ := x
  have neC : ∀ {b : Addr} {o : Obj} {vs : Array Value}, h.get? b = some o → o.data = .fields vs → b ≠ C := fun {b o vs} e d z => by
    subst z
    obtain ⟨oL, es, ep, hoL, hdL, _⟩ := hn
    rw [e] at hoL; cases hoL; rw [d] at hdL; cases hdL
  refine ⟨fun b o e => ?_, hide1_free na, frames_less (fun b q => hide1_free q) (Heap.FunFrames.sameBut sb hn' ff), oe, vs, T, oT, ts, (sb.2 a (neC he hd)).trans he, hz, hd, h1, hide1_free hnT, hTe, (sb.2 T (neC hT hdT)).trans hT, hdT, h3⟩
  obtain ⟨hb, e⟩ := hide1_ne e
  exact (sb.2 b hb).trans (st b o e)
/-- the exception leaves the block -/
theorem lc_away {X : Cx} {pins : List (Addr × Obj)} {σ : St} {H3 : Hp} {s3 s' : Shared} {W : WX} {scope : Scope} {ce : Env} {fp : List Addr} {pn : List (Addr × Obj)} {xc : Value → Shared → Prop} {u : Value} {env0 : Env} {outer0 : List Env} {L : Addr} {use : Option (Value → Sem Unit)} {Qf : Value → Shared → Prop} {acc : Value}
    (hst : X.stack = env0 :: outer0) (hf0 : env0.frame = some L) (hf : X.env.frame = some L) (tk : TakesL X W) (I3 : Inv X pins σ H3 s3) (hcf : ce.frame = X.env.frame) (hC : ce.locals = s3.heap.objs.size)
    (f3 : ∀ b ∈ fp, (b ∈ X.ex ∨ X.s_0.heap.objs.size ≤ b) ∧ b ≠ X.env.locals ∧ (∀ x c, X.env.cells.lookup x = some c → c ≠ b) ∧ ∀ p ∈ X.pn ++ pins, p.1 ≠ b)
    (x : XEL ((X.blk s3 H3 scope ce fp).tr pn xc) (fun cls d _ H' => W cls d σ H') u s') :
    notedBy (model X.prog X.w) X.A ce (fun e s'' => compEnds (model X.prog X.w) X.A X.xe use Qf acc ce (.error e) s'') u s' := by
  obtain ⟨L', hL', a, B, sI, pins', σ', H', cls, d, rfl, I, nb, up, sky, na, os, ag, w⟩ := x
  have hcL : ce.frame = some L := hcf.trans hf
  have eL : L' = L := by
    have hL' : ce.frame = some L' := hL'
    rw [hcL] at hL'
    exact (Option.some.inj hL').symm
  subst eL
  have hfr : X.A.frames = some (env0 :: outer0) := by rw [I3.ok.frames, hst]
  have nb : ∀ b o, sI.heap.get? b = some o → b ∉ frs X.stack → B.get? b = some o := nb
  have sky : Sky B (env0 :: outer0) a (L2N.Zn cls d) L' s'.heap := by
    have z : Sky B X.stack a (L2N.Zn cls d) L' s'.heap := sky
    rw [hst] at z
    exact z
  obtain ⟨m, hnI, _⟩ := I.loc
  have hnI : sI.heap.Ns ce.locals m := hnI
  have hfree : H' ce.locals = none := I.free
  -- behind the note
  have fin : ∀ h1, HandSPX.HeldZ B (env0 :: outer0) a (L2N.Zn cls d) L' h1 → s'.heap.UpToSlots h1 → compEnds (model X.prog X.w) X.A X.xe use Qf acc ce (.error (.ref a)) { s' with heap := h1 } := by
    intro h1 hh k1
    have up1 := up.trans k1
    have hn1 : h1.Ns ce.locals m := up1.ns hnI
    refine ⟨m, hn1, fun h2 m2 hn2 sb => ?_⟩
    have hh2 := heldZ_hide hh hn1 sb hn2
    obtain ⟨z1, z2, z3, oe, vs, T, oT, ts, he, hz, hd, h1', hnT, hTe, hT, hdT, h3⟩ := id hh2
    unfold PySem.passOn
    refine wpAny_bind (wpAny_field he hd h1' ?_)
    rw [if_neg (show ¬ ((Value.ref T == Value.none) = true) from by simp)]
    rw [hcL]
    refine wpAny_bind (HandSPX.setFlight_onZ hh2 fun h4 hh4 k4 => ?_)
    refine wpAny_throw ?_
    refine tk (.ref a) { s' with heap := h4 } ⟨L', hf, a, PySem.W.hideAll B [ce.locals], { sI with heap := PySem.W.hideAll sI.heap [ce.locals] }, pins, σ, H', cls, d, rfl, ?_, fun b o e hb => ?_, fun b o e hnf => ?_, ?_, na, os, ag, w⟩
    · refine I3.call' (ch := fp) I.os ⟨fun b o e n hb hx => ?_, fun b o e n hb hx => ?_, fun b o e n hx => I.base.free b o e n hx, fun b o e hx => ?_, I.base.tups, I.base.frzs, I.base.tbls⟩ (fun b o q => ?_) I.bare f3
      · exact hide1_get (I.base.keep b o e n hb hx) (fun z => by rw [z, hC] at e; exact absurd (Heap.lt_size e) (Nat.lt_irrefl _))
      · obtain ⟨sl, q⟩ := I.base.slot b o e n hb hx
        exact ⟨sl, hide1_get q (fun z => by rw [z, hC] at e; exact absurd (Heap.lt_size e) (Nat.lt_irrefl _))⟩
      · obtain ⟨o', q⟩ := I.base.there b o e hx
        exact ⟨o', hide1_get q (fun z => by rw [z, hC] at e; exact absurd (Heap.lt_size e) (Nat.lt_irrefl _))⟩
      · exact (I.hok b o q).stay (fun c u hc r => hide1_get r fun hm => by
          rw [hm] at hc
          rcases hc with hc | hc
          · rw [← hc, hfree] at q; cases q
          · rw [hc] at hfree; cases hfree) (fun _ r => r) fun _ _ r => r
    · obtain ⟨hbC, e⟩ := hide1_ne e
      exact hide1_get (nb b o e hb) hbC
    · obtain ⟨hbC, e⟩ := hide1_ne e
      obtain ⟨sl, e1⟩ := up1 b o e hnf
      have e2 : h2.get? b = some { o with slots := sl } := (sb.2 b hbC).trans e1
      exact k4 b { o with slots := sl } e2 hnf
    · rw [hst]
      exact .inr (.inr hh4)
  show wpAny _ X.A (noteFrame (.ref a) ce) _ _ s'
  rw [noteFrame_env _ (hcL.trans hf0.symm)]
  rcases sky with ⟨z1, z2, z3, oe, vs, he, hz, hd, h1⟩ | fl | hh
  · exact PXN.look_newZ L2N.Zn.steady hfr z3 hf0 he z1 z2 hd h1 hz fin
  · exact PXN.looks_onZ L2N.Zn.steady hfr hf0 fl fin
  · exact HandSPX.againZ hf0 hh.2.2.2 (fin _ hh (Heap.UpToSlots.refl _))
section
variable {X : Cx} {s3 t : Shared} {H3 G : Hp} {scope : Scope} {ce : Env} {fp : List Addr} {tn : Nat → Heap → Prop} {W : Nat → Nat → Hp → Prop} {ρ : St}
/-- the block between two turns -/
def BlkAt (X : Cx) (s3 : Shared) (H3 : Hp) (scope : Scope) (ce : Env) (fp : List Addr) (tn : Nat → Heap → Prop) (W : Nat → Nat → Hp → Prop) (ρ : St) (n : Nat) (t : Shared) : Prop :=
  ∃ i G, Inv (X.blk s3 H3 scope ce fp) [] ρ G t ∧ tn i t.heap ∧ (∀ b ∈ fp, G b = none) ∧ W i n G
theorem blk_fps (I : Inv (X.blk s3 H3 scope ce fp) [] ρ G t) (hn : ∀ b ∈ fp, G b = none) (b : Addr) (hb : b ∈ fp) : FpOk (X.blk s3 H3 scope ce fp) [] G b := by
  refine ⟨hn b hb, (I.ok.exf b hb).1, I.ok.exfs b hb, .inl hb, fun x c e => (I.ok.exf b hb).2 x c e, fun p hp => ?_⟩
  have hp : p ∈ ([] : List (Addr × Obj)) ++ [] := hp
  cases hp
theorem blk_next {tg : Expr} {J : It} {it : Addr} {i n : Nat} {σ σ8 : St} {vs : List Nat} {t7 : Shared} {Nx : Hp → Prop} (T : Turn X.prog X.w X.K tg J fp it tn) (st : tn (i + 1) t7.heap) (hw : wipe σ8 vs = wipe σ vs) (next : ∀ G', Nx G' → ∃ n', n' < n ∧ W (i + 1) n' G')
    (I : Inv (X.blk s3 H3 scope ce fp) ([] ++ pinsAt fp t7.heap) σ8 G t) (nx : Nx G) : ∃ n', n' < n ∧ BlkAt X s3 H3 scope ce fp tn W (wipe σ vs) n' t := by
  obtain ⟨n', lt, w'⟩ := next G nx
  have stay : ∀ b ∈ fp, ∀ o, t7.heap.get? b = some o → t.heap.get? b = some o ∧ G b = none := fun b hb o e => by
    have z := I.pin (b, o) (List.mem_append_right _ (List.mem_append_right _ (mem_pinsAt hb e)))
    exact ⟨z.1, z.2.1⟩
  have len : (wipe σ vs).length = σ8.length := by rw [← hw, wipe_length]
  have I0 : Inv (X.blk s3 H3 scope ce fp) [] (wipe σ vs) G t := (I.unpinned (pins := [])).weak len fun j v e => by
    rw [← hw] at e
    exact (wipe_some e).1
  refine ⟨n', lt, i + 1, G, I0, T.keep _ _ _ st fun b hb o e => (stay b hb o e).1, fun b hb => ?_, w'⟩
  obtain ⟨o, e, _⟩ := T.obj _ _ st b hb
  exact (stay b hb o e).2
end
section
variable {X : Cx} {elt tg iter : Expr} {ifs : List Expr} {scope : Scope} {own : List (Str × Nat)} {pos : Pos} {wi : TI} {g : TG} {tt : TT} {te : WX → TE} {Wo : WX} {env0 : Env} {outer0 : List Env} {L0 : Addr}
/-- [elt for tg in iter if ..]; the wish at an exception of the element: what the frame wishes, its slots as they were -/
theorem pe_lcR (hst : X.stack = env0 :: outer0) (hf0 : env0.frame = some L0) (hf : X.env.frame = some L0) (tk : TakesL X Wo) (hc : X.calm = true) (hN : X.N.Nodup) (hi : PI X tg iter wi) (ok : BlkOk X.N X.env.scope scope own)
    (hg : ∀ (s : Shared) (H : Hp) (C : Addr) (cl : List (Str × Addr)) (fp : List Addr), PG (X.blk s H scope (compEnvC scope cl C X.env) fp) tg g)
    (ht : ∀ (s : Shared) (H : Hp) (C : Addr) (cl : List (Str × Addr)) (fp : List Addr), PTs (X.blk s H scope (compEnvC scope cl C X.env) fp) ifs tt)
    (he : ∀ (s : Shared) (H : Hp) (C : Addr) (cl : List (Str × Addr)) (fp : List Addr) (pn : List (Addr × Obj)) (xc : Value → Shared → Prop) (W' : WX), TakesL ((X.blk s H scope (compEnvC scope cl C X.env) fp).tr pn xc) W' → PE ((X.blk s H scope (compEnvC scope cl C X.env) fp).tr pn xc) elt (te W'))
    (hs : ∀ x, foldedSetIterable iter X.env x = pure x := by intro _; rfl) :
    PE X (.ListComp elt [⟨tg, iter, ifs, 0⟩] scope pos) (fun σ H Q => tLc wi g tt (te fun cls d _ H' => Wo cls d σ H') (own.map (·.2)) σ H Q) := by
  refine ⟨fun pins s σ H Q I h => ?_⟩
  rw [eval_ListComp]
  have free : ∀ y ∈ scope.names, y.2 = .free → ∃ c, X.env.cells.lookup y.1 = some c := fun y hy e => (ok.free y hy e).elim (fun k => I.ok.has _ (.inl k)) fun k => I.ok.has _ (.inr k)
  refine comprehension_at (use := none) rfl hs (closure_ok free) ok.kind (fun y hy e => by rw [ok.uniq y hy, e]) (thn (hi.run pins s σ H _ I h) fun xv s1 hx => thn hx fun itv s2 h2 => ?_)
  obtain ⟨it, fp, tn, J, H2, rfl, I2, T, st2, f2, q⟩ := h2
  refine wpAny_newObj_type (newEnv_comp ?_) (by show 0 ≤ sizeLine; decide)
  generalize hD : s2.heap.objs.size = D
  have hDn : H2 D = none := I2.hok.fresh (Nat.le_of_eq hD)
  obtain ⟨W, ⟨m0, w0⟩, turn⟩ := q D hDn
  -- the list that is filled
  generalize hs3 : ({ s2 with heap := s2.heap.push { cls := .type "list", data := .seq ([] : List Value).toArray } } : Shared) = s3
  have p3 : s3.heap = s2.heap.push { cls := .type "list", data := .seq ([] : List Value).toArray } := by rw [← hs3]
  have I3 : Inv X pins σ (upd H2 D (.lst [])) s3 := by
    subst hs3
    exact I2.laid (t' := s2.toks) (fun b o e => Heap.get?_push_of_some _ e) (Nat.le_of_eq hD) ⟨Nat.zero_le _, [], 0, .nil, by rw [← hD]; exact Heap.get?_push_size _ rfl⟩
  have f3 : ∀ b ∈ fp, FpOk X pins (upd H2 D (.lst [])) b ∧ b < s3.heap.objs.size := fun b hb => by
    obtain ⟨o, e, _⟩ := T.obj _ _ st2 b hb
    have lt := Heap.lt_size e
    refine ⟨⟨?_, (f2 b hb).2⟩, by rw [p3, Heap.size_push]; exact Nat.lt_succ_of_lt lt⟩
    rw [upd_ne (by rw [← hD]; exact Nat.ne_of_lt lt)]
    exact (f2 b hb).1
  have st3 : tn 0 s3.heap := T.keep _ _ _ st2 fun b _ o e => by rw [p3]; exact Heap.get?_push_of_some _ e
  have I4 := block_start I3 ok hN f3
  have nfp : ∀ b ∈ fp, (upd H2 D (.lst [])) b = none := fun b hb => (f3 b hb).1.1
  have ff : ∀ b ∈ fp, (b ∈ X.ex ∨ X.s_0.heap.objs.size ≤ b) ∧ b ≠ X.env.locals ∧ (∀ x c, X.env.cells.lookup x = some c → c ≠ b) ∧ ∀ p ∈ X.pn ++ pins, p.1 ≠ b := fun b hb => by
    obtain ⟨_, z1, z2, z3, z4, z5⟩ := (f3 b hb).1
    exact ⟨z3, z1, z4, z5⟩
  let cl := cellsFrom (s3.heap.objs.size + 1) scope.names (cloFrom X.env.cells scope.names [])
  have pg := hg s3 (upd H2 D (.lst [])) s3.heap.objs.size cl fp
  have pt := ht s3 (upd H2 D (.lst [])) s3.heap.objs.size cl fp
  have pe := he s3 (upd H2 D (.lst [])) s3.heap.objs.size cl fp
  have fr : (compEnvC scope cl s3.heap.objs.size X.env).frame = X.env.frame := rfl
  have lo : (compEnvC scope cl s3.heap.objs.size X.env).locals = s3.heap.objs.size := rfl
  show codeAny _ _ (.compStart (.ListComp elt [⟨tg, iter, ifs, 0⟩] scope pos) 0 (.ref it) (.ref D) (compEnvC scope cl s3.heap.objs.size X.env)) (compEnds (model X.prog X.w) X.A X.xe none (EP X pins σ Q) (.ref D) (compEnvC scope cl s3.heap.objs.size X.env)) { s3 with heap := pushCells (s3.heap.push { cls := .type "dict", data := .dict #[] }) scope.names }
  have I4 : Inv (X.blk s3 (upd H2 D (.lst [])) scope (compEnvC scope cl s3.heap.objs.size X.env) fp) [] (wipe σ (own.map (·.2))) (upd H2 D (.lst [])) { s3 with heap := pushCells (s3.heap.push { cls := .type "dict", data := .dict #[] }) scope.names } := I4
  generalize compEnvC scope cl s3.heap.objs.size X.env = ce at I4 pg pt pe fr lo ⊢
  generalize upd H2 D (.lst []) = H3 at I3 I4 pg pt pe w0 nfp f3
  generalize hs4 : ({ s3 with heap := pushCells (s3.heap.push { cls := .type "dict", data := .dict #[] }) scope.names } : Shared) = s4 at I4 ⊢
  have st4 : tn 0 s4.heap := T.keep _ _ _ st3 fun b _ o e => by rw [← hs4]; exact pushCells_keeps _ _ _ _ (Heap.get?_push_of_some _ e)
  have loop : codeAny (model X.prog X.w) X.A (.compLoop (.ListComp elt [⟨tg, iter, ifs, 0⟩] scope pos) 0 (.ref it) (.ref D) ce) (compEnds (model X.prog X.w) X.A X.xe none (EP X pins σ Q) (.ref D) ce) s4 := by
    refine compLoop_any (BlkAt X s3 H3 scope ce fp tn W (wipe σ (own.map (·.2)))) ?_ m0 ⟨0, H3, I4, st4, nfp, w0⟩
    rintro n s5 ⟨i, H5, I5, st5, n5, w5⟩
    rcases turn i n H5 w5 with ⟨stop, qq⟩ | ⟨go, Nx, hNx, step⟩
    · refine thnF (T.done (X.blk s3 H3 scope ce fp) rfl rfl rfl hc i [] s5 _ H5 (fun _ _ => False) I5 (blk_fps I5 n5) st5 stop) fun r s6 z => ?_
      obtain ⟨rfl, I6⟩ := z
      -- the def's own state again
      have I7 : Inv X pins σ H5 s6 := I3.call' (ch := fp) I6.os I6.base I6.hok I6.bare ff
      have nC : H5 ce.locals = none := I6.free
      obtain ⟨m, hn, _⟩ := I6.loc
      obtain ⟨g0, g1, g2, g3, g4, g5⟩ := I3.fpOk (b := ce.locals) (Nat.le_of_eq lo.symm) nC
      exact ⟨m, hn, fun h'' sb => ⟨.ref D, H5, I7.turned (t' := s6.toks) (fun b o hb e => (sb.2 b hb).trans e) g0 g1 g3 g4 g5, rfl, qq⟩⟩
    · refine thnF (T.item (X.blk s3 H3 scope ce fp) rfl rfl rfl hc i [] s5 _ H5 (fun _ _ => False) I5 (blk_fps I5 n5) st5 go) fun r s6 z => ?_
      obtain ⟨u, rfl, h6⟩ := z
      refine thnF h6 fun _ s7 z => ?_
      obtain ⟨x, H7, I7, r7, y7, st7, n7⟩ := z
      have I7' := I7.pinned (blk_fps I7 n7) (T.obj _ _ st7)
      refine thnF (pg.run _ s7 _ H7 x u _ I7' r7 (step x H7 y7)) fun _ s8 z => ?_
      obtain ⟨σ8, H8, I8, hw8, q8⟩ := z
      refine thnF (pt.run _ s8 σ8 H8 _ I8 q8) fun b s9 z => ?_
      obtain ⟨H9, I9, q9⟩ := z
      cases b with
      | false =>
        simp only [Bool.false_eq_true, if_false] at q9 ⊢
        exact blk_next T st7 hw8 hNx I9 q9
      | true =>
        simp only [if_true] at q9 ⊢
        have away := fun u s' => lc_away (pn := ([] : List (Addr × Obj)) ++ ([] ++ pinsAt fp s7.heap)) (xc := notedBy (model X.prog X.w) X.A ce fun e s'' => compEnds (model X.prog X.w) X.A X.xe none (EP X pins σ Q) (.ref D) ce (.error e) s'') (scope := scope) (u := u) (s' := s') (use := none) (Qf := EP X pins σ Q) (acc := .ref D) hst hf0 hf tk I3 fr lo ff
        refine wpAny_mono ((pe _ _ _ away).run [] s9 σ8 H9 _ (I9.toTry _) q9) (fun z s10 y => ?_) fun _ _ y => y
        obtain ⟨yv, H10, I10, r10, acc, hD10, hz10, nx⟩ := y
        exact app_ok (X := X.blk s3 H3 scope ce fp) (I10.ofTry I9.ok) hD10 hz10 r10 fun s11 I11 => blk_next T st7 hw8 hNx I11 nx
  exact codeAny_compStart_list loop (T.self X.A 0 _ _ _ st4 loop)
end
end L2
namespace Mn
open PySem L2
abbrev cc (X : Cx) (ga : Str → Addr) (Z : Addr → Prop) : Cc := ⟨X.K, ga, Z⟩
abbrev W1 := Env → Sto → (D → Sto → Prop) → Prop
/-- what the caller's wish looks like from here -/
def kD (C : Cc) (H : Hp) (S : Sto) (Q : VK) : D → Sto → Prop := fun d S' => ∀ H' v, Rp C H' S' → Ext H S H' S' → RelD C H' S' d v → Q v H'
def tD (C : Cc) (H0 : Hp) (S0 : Sto) (f : W1) : TE := fun σ H Q => ∃ (σd : Env) (S : Sto), RelS C H S σd σ ∧ Rp C H S ∧ Ext H0 S0 H S ∧ f σd S (kD C H S Q)
def kDs (C : Cc) (H : Hp) (S : Sto) (Q : List V → Hp → Prop) : List D → Sto → Prop := fun ds S' => ∀ H' vs, Rp C H' S' → Ext H S H' S' → RelDs C H' S' ds vs → Q vs H'
def tDA (C : Cc) (H0 : Hp) (S0 : Sto) (f : Env → Sto → (List D → Sto → Prop) → Prop) : TA := fun σ H Q => ∃ (σd : Env) (S : Sto), RelS C H S σd σ ∧ Rp C H S ∧ Ext H0 S0 H S ∧ f σd S (kDs C H S Q)
theorem kD_ext {C : Cc} {H H1 : Hp} {S S1 : Sto} {Q : VK} (e : Ext H S H1 S1) {d : D} {S' : Sto} (h : kD C H S Q d S') : kD C H1 S1 Q d S' := fun H' v rp ex r => h H' v rp (e.trans ex) r
theorem PE.imp {X : Cx} {e : Expr} {t t' : TE} (h : PE X e t) (i : ∀ σ H Q, t' σ H Q → t σ H Q) : PE X e t' := ⟨fun pins s σ H Q I q => h.run pins s σ H Q I (i σ H Q q)⟩
theorem PT.imp {X : Cx} {e : Expr} {t t' : TT} (h : PT X e t) (i : ∀ σ H Q, t' σ H Q → t σ H Q) : PT X e t' := ⟨fun pins s σ H Q I q => h.run pins s σ H Q I (i σ H Q q)⟩
theorem PW.imp {X : Cx} {e : Expr} {t t' : TT} (h : PW X e t) (i : ∀ σ H Q, t' σ H Q → t σ H Q) : PW X e t' := ⟨fun wh pins s σ H Q I q => h.run wh pins s σ H Q I (i σ H Q q)⟩
theorem PA.imp {X : Cx} {e : List Expr} {t t' : TA} (h : PA X e t) (i : ∀ σ H Q, t' σ H Q → t σ H Q) : PA X e t' := ⟨fun pos pins s σ H Q I q => h.run pos pins s σ H Q I (i σ H Q q)⟩
theorem PS.imp {X : Cx} {e : Stmt} {t t' : TS} (h : PS X e t) (i : ∀ D σ H, t' D σ H → t D σ H) : PS X e t' := ⟨fun pins s σ H D I q => h.run pins s σ H D I (i D σ H q)⟩
theorem PSs.imp {X : Cx} {e : List Stmt} {t t' : TS} (h : PSs X e t) (i : ∀ D σ H, t' D σ H → t D σ H) : PSs X e t' := ⟨fun pins s σ H D I q => h.run pins s σ H D I (i D σ H q)⟩
def visB (sc : Scope) (x : Str) : Bool := match sc.names.lookup x with
  | some .local => true
  | some .cell => true
  | some .free => true
  | _ => false
def locB (sc : Scope) (x : Str) : Bool := match sc.names.lookup x with
  | some .local => true
  | some .cell => true
  | _ => false
def gloB (sc : Scope) (x : Str) : Bool := match sc.names.lookup x with
  | some .globalImplicit => true
  | _ => false
def dbgB (x : Str) : Bool := !(x == ("__debug__" : Str)) && !(x == ("__classdict__" : Str)) && !(x == ("__name__" : Str))
def notStar : Expr → Bool
  | .Starred _ _ => false
  | _ => true
def notSl : Expr → Bool
  | .Slice _ _ _ _ => false
  | _ => true
def notLc : Expr → Bool
  | .ListComp _ _ _ _ => false
  | .SetComp _ _ _ _ => false
  | .DictComp _ _ _ _ _ => false
  | _ => true
def notSet : Expr → Bool
  | .Set _ _ _ => false
  | _ => true
def notSuper : Expr → Bool
  | .Call (.Name _ _) [] [] _ => false
  | _ => true
def cstB : D → Const → Bool
  | .non, .none => true
  | .bl b, .bool c => b == c
  | .int i, .int j => decide (i = j)
  | .str x, .str y => decide (x = y) && PySem.PyData.strOk x
  | _, _ => false
def tyB (n : String) : Bool := n == "int" || n == "bool" || n == "str" || n == "list" || n == "tuple"
mutual
def slots : MT → List Nat
  | .nm i => [i]
  | .tp ts => slotss ts
def slotss : List MT → List Nat
  | [] => []
  | t :: ts => slots t ++ slotss ts
end
mutual
def matchT (N : List Str) (sc : Scope) : MT → Expr → Bool
  | .nm i, .Name x _ => decide (N[i]? = some x) && locB sc x
  | .tp ts, .Tuple es _ _ => matchTs N sc ts es
  | _, _ => false
def matchTs (N : List Str) (sc : Scope) : List MT → List Expr → Bool
  | [], [] => true
  | t :: ts, e :: es => matchT N sc t e && matchTs N sc ts es
  | _, _ => false
end
def isTupT : Expr → Bool
  | .Tuple _ _ _ => true
  | _ => false
def dctB : List (Str × D) → List (Option Expr) → List Expr → Bool
  | [], [], [] => true
  | (k, d) :: r, some (.Constant (.str x) _ _) :: ks, .Constant c _ _ :: vs => decide (k = x) && (PySem.PyData.strOk k && (cstB d c && dctB r ks vs))
  | _, _, _ => false
def notTest : Expr → Bool
  | .UnaryOp .Not _ _ => false
  | .BoolOp _ _ _ => false
  | .IfExp _ _ _ _ => false
  | .Compare _ _ _ _ => false
  | _ => true
structure Sck (X : Cx) (sc : Scope) : Prop where
  kind : X.env.scope.kind = .function
  look : ∀ x k, sc.names.lookup x = some k → ∃ k', X.env.scope.names.lookup x = some k' ∧ (k' = k ∨ (k = .free ∧ k' = .cell))
theorem Sck.vis {X : Cx} {sc : Scope} (h : Sck X sc) {x : Str} (q : visB sc x = true) : Vis X.env.scope x := by
  unfold visB at q
  cases e : sc.names.lookup x with
  | none => rw [e] at q; cases q
  | some k =>
    obtain ⟨k', h1, h2⟩ := h.look x k e
    rw [e] at q
    unfold Vis
    rw [h1]
    rcases h2 with rfl | ⟨rfl, rfl⟩
    · cases k' <;> first | exact .inl rfl | exact .inr (.inl rfl) | exact .inr (.inr rfl) | cases q
    · exact .inr (.inl rfl)
theorem Sck.loc {X : Cx} {sc : Scope} (h : Sck X sc) {x : Str} (q : locB sc x = true) : L2.Loc X.env.scope x := by
  unfold locB at q
  cases e : sc.names.lookup x with
  | none => rw [e] at q; cases q
  | some k =>
    obtain ⟨k', h1, h2⟩ := h.look x k e
    rw [e] at q
    unfold L2.Loc
    rw [h1]
    rcases h2 with rfl | ⟨rfl, rfl⟩
    · cases k' <;> first | exact .inl rfl | exact .inr rfl | cases q
    · exact .inr rfl
theorem Sck.glo {X : Cx} {sc : Scope} (h : Sck X sc) {x : Str} (q : gloB sc x = true) : Gl X x := by
  unfold gloB at q
  cases e : sc.names.lookup x with
  | none => rw [e] at q; cases q
  | some k =>
    obtain ⟨k', h1, h2⟩ := h.look x k e
    rw [e] at q
    unfold Gl Env.kindOf
    rw [h1]
    rcases h2 with rfl | ⟨rfl, rfl⟩
    · cases k' <;> first | rfl | cases q
    · cases q
/-- an exception as it lies -/
def RelX (C : Cc) (H : Hp) (S : Sto) (e : Exc) (cls : Value) (d : Option Addr) : Prop :=
  cls = .ref (C.ga e.cls) ∧ ∃ dd fs, d = some dd ∧ H dd = some (.xd fs) ∧ S dd = none ∧ ∀ f x, e.fs.lookup f = some x → ∃ v, fs.lookup f = some v ∧ RelD C H S x v
/-- a promise as HandS has it -/
def lift (K : PySem.W.Frag) (ga : Str → Addr) (n : Nat) (sp : DSp) : Sp := fun vs H Q E => vs.length = n ∧ ∃ (ds : List D) (S : Sto) (Z : Addr → Prop), RelDs ⟨K, ga, Z⟩ H S ds vs ∧ Rp ⟨K, ga, Z⟩ H S ∧
  callW sp ds S (kD ⟨K, ga, Z⟩ H S Q) (fun e S' => ∀ H' cls d, Rp ⟨K, ga, Z⟩ H' S' → Ext H S H' S' → RelX ⟨K, ga, Z⟩ H' S' e cls d → E cls d H')
def liftX (C : Cc) (H0 : Hp) (S0 : Sto) (x : XW) : WX := fun cls d σ H => ∃ (e : Exc) (σd : Env) (S : Sto), RelS C H S σd σ ∧ Rp C H S ∧ Ext H0 S0 H S ∧ RelX C H S e cls d ∧ x e σd S
structure FnAt (X : Cx) (ga : Str → Addr) (f : Str) (n : Nat) (sp : DSp) : Prop where
  ex : ∃ (fa : Addr) (fd : FuncData) (k : Nat) (ps : List Str), ps.length = n ∧ X.mg f = some (.ref fa) ∧ FnOk X.prog X.w X.K X.mg X.base (L2N.CX X.prog X.w) k fa fd ps (lift X.K ga n sp) ∧ Room k X.A ∧ PySem.W.keepIn X.K (.ref fa) = true ∧ Binds X.K fd ps []
/-- a method, a class to be made, an exception, two classes of exceptions -/
structure MtAt (X : Cx) (ga : Str → Addr) (c m : Str) (n : Nat) (sp : DSp) : Prop where
  ex : ∃ (fa : Addr) (fd : FuncData) (k : Nat) (ps : List Str), ps.length = n ∧ L2.Cls X.K (ga c) ∧ L2.Meth X.K (ga c) m fa ∧ FnOk X.prog X.w X.K X.mg X.base (L2N.CX X.prog X.w) k fa fd ps (lift X.K ga n sp) ∧ Room k X.A ∧ Binds X.K fd ps []
structure MkAt (X : Cx) (ga : Str → Addr) (c : Str) (n : Nat) (sp : DSp) : Prop where
  ex : ∃ (fa : Addr) (fd : FuncData) (k : Nat) (ps : List Str), ps.length = n ∧ X.mg c = some (.ref (ga c)) ∧ L2.Mk X.K (ga c) fa ∧ FnOk X.prog X.w X.K X.mg X.base (L2N.CX X.prog X.w) k fa fd ps (lift X.K ga n sp) ∧ Room (k + 1) X.A ∧ Binds X.K fd ps []
/-- what an exception's __init__ does -/
def spEx (C : Addr) (n : Nat) (F : List V → List (Str × V)) : Sp := fun vs H Q _ => ∃ a ws, vs = .ref a :: ws ∧ ws.length = n ∧ H a = some (exo a C none) ∧ ∀ dx, H dx = none → dx ≠ a → Q .non (upd (upd H dx (exd dx (F ws))) a (exo a C (some dx)))
def RelFn (F : List D → List (Str × D)) (F' : List V → List (Str × V)) : Prop := ∀ (C : Cc) (H : Hp) (S : Sto) (ds : List D) (vs : List V), RelDs C H S ds vs → ∀ f x, (F ds).lookup f = some x → ∃ v, (F' vs).lookup f = some v ∧ RelD C H S x v
structure ExAt (X : Cx) (ga : Str → Addr) (c : Str) (n : Nat) (F : List D → List (Str × D)) : Prop where
  ex : ∃ (fI : Addr) (fd : FuncData) (k : Nat) (ps : List Str) (F' : List V → List (Str × V)), X.mg c = some (.ref (ga c)) ∧ OexC X.K (ga c) ∧ PySem.W.findIn X.K (.ref (ga c)) "__init__" = some (some (.ref fI)) ∧ PySem.W.typeIn X.K (.ref fI) = some (.type "function") ∧
    FnOk X.prog X.w X.K X.mg X.base (L2N.CX X.prog X.w) k fI fd ps (spEx (ga c) n F') ∧ Room (k + 1) X.A ∧ Binds X.K fd ps [] ∧ RelFn F F'
structure SubAt (X : Cx) (ga : Str → Addr) (c c' : Str) (b : Bool) : Prop where
  mg : X.mg c' = some (.ref (ga c'))
  exm : PySem.W.exmOne X.K (.ref (ga c)) (.ref (ga c')) = some b
  kit : PySem.W.kitOne X.K (.ref (ga c)) (.ref (ga c')) = some b
  exc : ExcC X.K (ga c)
/-- a class that is a ValueError -/
structure IvAt (X : Cx) (ga : Str → Addr) (c : Str) : Prop where
  mg : X.mg "ValueError" = none
  kit : PySem.W.kitOne X.K (.ref (ga c)) (.type "ValueError") = some true
  exc : ExcC X.K (ga c)
/-- what a method that answers the sorted keys of a field promises, also while an exception is handled -/
def spHot (K : PySem.W.Frag) (C : Addr) (f : Str) : Sp := fun vs H Q _ => ∃ a dx fs p kvs ks, vs = [.ref a] ∧ H a = some (.ins C dx fs) ∧ L2.Cls K C ∧ L2.NoAttr K C f ∧ fs.lookup f = some (.ref p) ∧ Rd H p (.dK kvs) ∧ kvs.map (·.1) = ks.map Sum.inr ∧ ks.length < 64 ∧ ∀ q, H q = none → Q (.ref q) (upd H q (.lst ((srtS ks).map V.str)))
structure HtAt (X : Cx) (ga : Str → Addr) (c m f : Str) : Prop where
  ex : ∃ (fa : Addr) (fd : FuncData) (k : Nat) (ps : List Str), L2.Cls X.K (ga c) ∧ L2.Meth X.K (ga c) m fa ∧ L2H.FnH X.prog X.w X.K X.mg X.base (L2N.CX X.prog X.w) k fa fd ps (spHot X.K (ga c) f) ∧ Room k X.A ∧ Binds X.K fd ps []
/-- a written dict of texts -/
structure CdAt (X : Cx) (n : Str) (l : List (Str × Str)) : Prop where
  ex : ∃ a es m, X.mg n = some (.ref a) ∧ KDict X.K X.w a es m ∧ ∀ z, match l.lookup z with
    | none => PySem.W.nsIn X.K a z = some none
    | some y => ∃ u, PySem.W.nsIn X.K a z = some (some u) ∧ RelV (.str y) u ∧ PySem.PyData.strOk y = true
/-- a written tuple of texts -/
structure CtAt (X : Cx) (n : Str) (l : List Str) : Prop where
  ex : ∃ a, X.mg n = some (.ref a) ∧ KT X.K a (l.map V.str)
structure Gd (X : Cx) (sc : Scope) (ga : Str → Addr) (Z : Addr → Prop) (H0 : Hp) (S0 : Sto) (G : Gc) (x : XW) : Prop where
  nd : X.N.Nodup
  calm : X.calm = true
  room : X.A.units + 64 < cLine
  sck : Sck X sc
  tk : TakesL X (liftX (cc X ga Z) H0 S0 x)
  frm : ∃ (env0 : PySem.Env) (outer0 : List PySem.Env) (L : Addr), X.stack = env0 :: outer0 ∧ env0.frame = some L ∧ X.env.frame = some L
  own : X.stack = X.env :: X.outer → PassesOwn (model X.prog X.w) X.A X.env X.xe
  fns : ∀ f n sp, G.fn f = some (n, sp) → FnAt X ga f n sp
  con : ∀ n d, G.con n = some d → ∃ v u, X.mg n = some u ∧ RelV v u ∧ ∀ Z H S, RelD (cc X ga Z) H S d v
  blt : ∀ f : Bf, X.mg f.nm = none
  tys : ∀ n, tyB n = true → X.mg (Str.ofString n) = none
  mts : ∀ c m n sp, G.mt c m = some (n, sp) → MtAt X ga c m n sp
  mks : ∀ c n sp, G.mkr c = some (n, sp) → MkAt X ga c n sp
  flds : ∀ c f, G.fld c f = true → L2.Cls X.K (ga c) ∧ L2.NoAttr X.K (ga c) f
  excs : ∀ c n F, G.exc c = some (n, F) → ExAt X ga c n F
  subs : ∀ c c' b, G.sub c c' = some b → SubAt X ga c c' b
  xfls : ∀ c f, G.xfl c f = true → XfC X.K (ga c) ∧ PySem.W.findIn X.K (.ref (ga c)) f = some none
  isvs : ∀ c, G.isv c = true → IvAt X ga c
  hots : ∀ c m f, G.hot c m = some f → HtAt X ga c m f
  zip : X.mg "zip" = none
  rng : X.mg "range" = none
  enm : X.mg "enumerate" = none
  fnl : ∀ x, locB sc x = true → X.fn x = true ∨ X.env.scope.names.lookup x = some .local
  cds : ∀ n l, G.cdc n = some l → CdAt X n l
  cts : ∀ n l, G.cts n = some l → CtAt X n l
def tDT (C : Cc) (H0 : Hp) (S0 : Sto) (f : W1) : TT := fun σ H Q => ∃ (σd : Env) (S : Sto), RelS C H S σd σ ∧ Rp C H S ∧ Ext H0 S0 H S ∧ f σd S (fun d S' => ∃ b, tru S' d = some b ∧ ∀ H', Rp C H' S' → Ext H S H' S' → Q b H')
/-- one behind the other -/
def seqW : List W1 → (List D → Sto → (D → Sto → Prop) → Prop) → W1
  | [], f, _, S, k => f [] S k
  | m :: ms, f, σ, S, k => m σ S fun d S1 => seqW ms (fun ds S2 k => f (d :: ds) S2 k) σ S1 k
def MonoW (m : W1) : Prop := ∀ σ S k k', (∀ d S', k d S' → k' d S') → m σ S k → m σ S k'
/-- the same, with a look at the first part's value as soon as it is there -/
def seqC (c : Sto → D → Prop) : List W1 → (List D → Sto → (D → Sto → Prop) → Prop) → W1
  | [], f, _, S, k => f [] S k
  | m :: ms, f, σ, S, k => m σ S fun d S1 => c S1 d ∧ seqW ms (fun ds S2 k => f (d :: ds) S2 k) σ S1 k
structure Plug where
  chk : Gc → Sto → D → Prop := fun _ _ _ => True
  mt : List Str → Scope → Expr → Option (List Expr)
  sem : Gc → List D → Sto → (D → Sto → Prop) → Prop
  mono : ∀ G ds S k k', (∀ d S', k d S' → k' d S') → sem G ds S k → sem G ds S k'
  snd : ∀ {X : Cx} {sc : Scope} {ga : Str → Addr} {Z : Addr → Prop} {H0 : Hp} {S0 : Sto} {G : Gc} {x : XW}, Gd X sc ga Z H0 S0 G x → ∀ {e : Expr} {es : List Expr}, mt X.N sc e = some es → ∀ ms : List W1, ms.length = es.length → (∀ m ∈ ms, MonoW m) →
    (∀ (i : Nat) (e : Expr) (m : W1), es[i]? = some e → ms[i]? = some m → PE X e (tD (cc X ga Z) H0 S0 m)) →
    PE X e (tD (cc X ga Z) H0 S0 (seqC (chk G) ms (sem G))) ∧ PT X e (tDT (cc X ga Z) H0 S0 (seqC (chk G) ms (sem G)))
inductive ME where
  | var (i : Nat)
  | cst (d : D)
  | glo (x : Str)
  | bin (o : Operator) (m : Bool) (a b : ME)
  | neg (a : ME)
  | not (a : ME)
  | cmp (o : CmpOp) (a b : ME)
  | cmp2 (o o' : CmpOp) (a b c : ME)
  | and (a b : ME)
  | or (a b : ME)
  | ifx (c a b : ME)
  | idx (a i : ME)
  | slL (m : Bool) (a lo : ME)
  | slU (m : Bool) (a hi : ME)
  | slLU (m : Bool) (a lo hi : ME)
  | tup (es : List ME)
  | lst (m : Bool) (es : List ME)
  | blt (f : Bf) (m : Bool) (es : List ME)
  | bm (f : Bm) (m : Bool) (o : ME) (es : List ME)
  | call (f : Str) (es : List ME)
  | lc (i : Nat) (m : Bool) (t : MT) (as : List ME) (c : List ME) (e : ME)
  /-- a comprehension whose element may raise -/
  | lcR (i : Nat) (t : MT) (as : List ME) (e : ME)
  | frz (e : ME)
  | att (o : ME) (f : Str)
  | mth (c : Str) (o : ME) (m : Str) (es : List ME)
  | mk (c : Str) (es : List ME)
  | dct (kvs : List (Str × D))
  | lck (e : ME)
  /-- {} for tuples as keys; len(set(e)) -/
  | dcN
  | lns (e : ME)
  /-- an operation of one's own -/
  | plug (p : Plug) (es : List ME)
  | bad
/-- expressions, statements of an except suite -/
inductive QE where
  | var (i : Nat)
  | cst (d : D)
  | isE (c : Str)
  | isV
  | fld (f : Str)
  | tup (es : List QE)
  | lst (es : List QE)
  | add (a b : QE)
  | idx (a i : QE)
  | int (a : QE)
inductive QS where
  | asg (i : Nat) (e : QE)
  | ret (e : QE)
  | ite (c : QE) (a : List QS)
inductive MS where
  | asg (t : MT) (e : ME)
  | six (o i e : ME)
  | aug (i : Nat) (o : Operator) (e : ME)
  | exp (e : ME)
  | ret (e : ME)
  | ite (c : ME) (a b : List MS)
  | for_ (i : Nat) (t : MT) (as : List ME) (b : List MS)
  | whl (c : ME) (b : List MS)
  | pas
  | cont
  | drp (i : Nat)
  | frS (i : Nat)
  | sat (o : ME) (f : Str) (e : ME)
  | aga (o : ME) (f : Str) (op : Operator) (e : ME)
  | ags (o i : ME) (op : Operator) (e : ME)
  | rai (c : Str) (es : List ME)
  | tri (b : List MS) (c : Str) (i : Option Nat) (q : List QS)
  | trh (b : List MS) (c : Str) (i o : Nat) (cl m : Str)
  | lck (s : MS)
  | bad
mutual
def wE (G : Gc) (x : XW) : ME → Env → Sto → (D → Sto → Prop) → Prop
  | .var i, σ, S, k => ∃ d, σ[i]? = some (some d) ∧ k d S
  | .cst d, _, S, k => k d S
  | .glo n, _, S, k => ∃ d, G.con n = some d ∧ k d S
  | .bin o m a b, σ, S, k => wE G x a σ S fun u S1 => wE G x b σ S1 fun v S2 => ∃ r, binR o u v S2 = some r ∧ fin m r S2 k
  | .neg a, σ, S, k => wE G x a σ S fun u S1 => ∃ i, u = .int i ∧ k (.int (-i)) S1
  | .not a, σ, S, k => wE G x a σ S fun u S1 => ∃ b, tru S1 u = some b ∧ k (.bl (!b)) S1
  | .cmp o a b, σ, S, k => wE G x a σ S fun u S1 => wE G x b σ S1 fun v S2 => ∃ r, cmpR o u v S2 = some r ∧ k (.bl r) S2
  | .cmp2 o o' a b c, σ, S, k => wE G x a σ S fun u S1 => wE G x b σ S1 fun v S2 => ∃ r, cmpR o u v S2 = some r ∧
      if r = true then wE G x c σ S2 fun z S3 => ∃ r', cmpR o' v z S3 = some r' ∧ k (.bl r') S3 else k (.bl false) S2
  | .and a b, σ, S, k => wE G x a σ S fun u S1 => ∃ c, tru S1 u = some c ∧ if c = true then wE G x b σ S1 k else k u S1
  | .or a b, σ, S, k => wE G x a σ S fun u S1 => ∃ c, tru S1 u = some c ∧ if c = true then k u S1 else wE G x b σ S1 k
  | .ifx c a b, σ, S, k => wE G x c σ S fun u S1 => ∃ z, tru S1 u = some z ∧ if z = true then wE G x a σ S1 k else wE G x b σ S1 k
  | .idx a i, σ, S, k => wE G x a σ S fun u S1 => wE G x i σ S1 fun v S2 => ∃ d, idxR u v S2 = some d ∧ k d S2
  | .slL m a lo, σ, S, k => wE G x a σ S fun u S1 => wE G x lo σ S1 fun v S2 => ∃ i, v = .int i ∧ ∃ r, slcR u (some i) none S2 = some r ∧ fin m r S2 k
  | .slU m a hi, σ, S, k => wE G x a σ S fun u S1 => wE G x hi σ S1 fun v S2 => ∃ i, v = .int i ∧ ∃ r, slcR u none (some i) S2 = some r ∧ fin m r S2 k
  | .slLU m a lo hi, σ, S, k => wE G x a σ S fun u S1 => wE G x lo σ S1 fun v S2 => ∃ i, v = .int i ∧ wE G x hi σ S2 fun z S3 => ∃ j, z = .int j ∧ ∃ r, slcR u (some i) (some j) S3 = some r ∧ fin m r S3 k
  | .tup es, σ, S, k => wEs G x es σ S fun ds S1 => ds.length ≤ sizeLine ∧ k (.tup ds) S1
  | .lst m es, σ, S, k => wEs G x es σ S fun ds S1 => ds.length ≤ sizeLine ∧ fin m (.newL ds) S1 k
  | .blt f m es, σ, S, k => wEs G x es σ S fun ds S1 => ∃ r, bltR f ds S1 = some r ∧ fin m r S1 k
  | .bm f m o es, σ, S, k => wE G x o σ S fun u S1 => bmT f u S1 = true ∧ wEs G x es σ S1 fun ds S2 => ∃ r, bmR f u ds S2 = some r ∧ fin m r S2 k
  | .call f es, σ, S, k => ∃ sp, G.fn f = some (es.length, sp) ∧ wEs G x es σ S fun ds S1 => callW sp ds S1 k fun e S2 => x e σ S2
  | .lc i m t as c e, σ, S, k => wEs G x as σ S fun ds S1 => ∃ its, itS i ds S1 = some its ∧
      lcLoop its.2 (fun d S2 q => ∃ σ', asgT t d σ = some σ' ∧ wC G c σ' S2 fun b S3 => if b = true then wE G (fun _ _ _ => False) e σ' S3 fun y S4 => q (some y) S4 else q none S3) its.1 [] S1 fun acc S2 => fin m (.newL acc) S2 k
  | .lcR i t as e, σ, S, k => wEs G x as σ S fun ds S1 => ∃ its, itS i ds S1 = some its ∧
      lcLoop its.2 (fun d S2 q => ∃ σ', asgT t d σ = some σ' ∧ wE G (fun ex _ S' => x ex σ S') e σ' S2 fun y S4 => q (some y) S4) its.1 [] S1 fun acc S2 => fin false (.newL acc) S2 k
  | .frz a, σ, S, k => wE G x a σ S fun u S1 => ∃ p ds, u = .ref p ∧ S1 p = some (.lst ds) ∧ k (.lst ds) (rm S1 p)
  | .att o f, σ, S, k => wE G x o σ S fun u S1 => ∃ a c fs d, u = .ref a ∧ S1 a = some (.ins c fs) ∧ G.fld c f = true ∧ fs.lookup f = some d ∧ k d S1
  | .mth c o m es, σ, S, k => ∃ sp, G.mt c m = some (es.length + 1, sp) ∧ wE G x o σ S fun u S1 => ∃ a fs, u = .ref a ∧ S1 a = some (.ins c fs) ∧ fs.lookup m = none ∧
      wEs G x es σ S1 fun ds S2 => callW sp (u :: ds) S2 k fun e S3 => x e σ S3
  | .mk c es, σ, S, k => ∃ sp, G.mkr c = some (es.length + 1, sp) ∧ wEs G x es σ S fun ds S1 => ∀ p, S1 p = none →
      callW sp (.ref p :: ds) (put S1 p (.ins c [])) (fun v S2 => v = .non ∧ k (.ref p) S2) (fun _ _ => False)
  | .dct kvs, _, S, k => ∀ p, S p = none → k (.ref p) (put S p (.dct (kvs.foldl (fun acc kv => gp acc (.inr kv.1) kv.2) [])))
  | .lck e, σ, S, k => ∃ a kvs, S a = some (.dct kvs) ∧ ∀ o ks, wE G (fun _ _ _ => False) e σ (put S a (.ldc o ks kvs)) fun d S' => S' a = some (.ldc o ks kvs) ∧ k d (put S' a (.dct kvs))
  | .dcN, _, S, k => ∀ p, S p = none → k (.ref p) (put S p (.dcT []))
  | .lns e, σ, S, k => wE G x e σ S fun d S1 => ∃ r, lnsR d S1 = some r ∧ k r S1
  | .plug p es, σ, S, k => wEp G x (p.chk G) es σ S fun ds S1 => p.sem G ds S1 k
  | .bad, _, _, _ => False
def wEs (G : Gc) (x : XW) : List ME → Env → Sto → (List D → Sto → Prop) → Prop
  | [], _, S, k => k [] S
  | e :: es, σ, S, k => wE G x e σ S fun d S1 => wEs G x es σ S1 fun ds S2 => k (d :: ds) S2
def wEp (G : Gc) (x : XW) (c : Sto → D → Prop) : List ME → Env → Sto → (List D → Sto → Prop) → Prop
  | [], _, S, k => k [] S
  | e :: es, σ, S, k => wE G x e σ S fun d S1 => c S1 d ∧ wEs G x es σ S1 fun ds S2 => k (d :: ds) S2
/-- the tests of a comprehension -/
def wC (G : Gc) : List ME → Env → Sto → (Bool → Sto → Prop) → Prop
  | [], _, S, k => k true S
  | [c], σ, S, k => wE G (fun _ _ _ => False) c σ S fun u S1 => ∃ b, tru S1 u = some b ∧ k b S1
  | _, _, _, _ => False
end
mutual
def evQ (G : Gc) (ex : Exc) : QE → Env → Option D
  | .var i, σ => (σ[i]?).bind id
  | .cst d, _ => some d
  | .isE c, _ => (G.sub ex.cls c).map .bl
  | .isV, _ => if G.isv ex.cls = true then some (.bl true) else none
  | .fld f, _ => if G.xfl ex.cls f = true then ex.fs.lookup f else none
  | .tup es, σ => (evQs G ex es σ).map .tup
  | .lst es, σ => (evQs G ex es σ).map .lst
  | .add a b, σ => (match evQ G ex a σ, evQ G ex b σ with
    | some (.str x), some (.str y) => g? (x.length + y.length ≤ sizeLine) (.str (x ++ y))
    | some (.lst ds), some (.lst es) => g? (ds.length + es.length ≤ sizeLine) (.lst (ds ++ es))
    | _, _ => none)
  | .idx a i, σ => (match evQ G ex a σ, evQ G ex i σ with
    | some (.lst ds), some (.int j) => atI ds j
    | _, _ => none)
  | .int a, σ => (match evQ G ex a σ with
    | some (.bl b) => some (.int (if b = true then 1 else 0))
    | _ => none)
def evQs (G : Gc) (ex : Exc) : List QE → Env → Option (List D)
  | [], _ => some []
  | e :: es, σ => (match evQ G ex e σ, evQs G ex es σ with
    | some d, some ds => g? (ds.length + 1 ≤ sizeLine) (d :: ds)
    | _, _ => none)
end
mutual
/-- the slots behind it; what is returned -/
def exQ (G : Gc) (ex : Exc) : QS → Env → Option (Env × Option D)
  | .asg i e, σ => (evQ G ex e σ).map fun d => (σ.set i (some d), none)
  | .ret e, σ => (evQ G ex e σ).map fun d => (σ, some d)
  | .ite c a, σ => (match evQ G ex c σ with
    | some (.bl true) => exQs G ex a σ
    | some (.bl false) => some (σ, none)
    | _ => none)
def exQs (G : Gc) (ex : Exc) : List QS → Env → Option (Env × Option D)
  | [], σ => some (σ, none)
  | s :: r, σ => (match exQ G ex s σ with
    | some (σ', none) => exQs G ex r σ'
    | o => o)
end
def delI (i : Option Nat) (σ : Env) : Env := match i with
  | some i => σ.set i none
  | none => σ
def okI : Option Nat → Env → Prop
  | some i, σ => i < σ.length
  | none, _ => True
def catch_ (G : Gc) (x : XW) (c : Str) (i : Option Nat) (q : List QS) (k : KS) : XW := fun e σ S => okI i σ ∧ ∃ t, G.sub e.cls c = some t ∧
  if t = true then ∃ r, exQs G e q (delI i σ) = some r ∧ (match r.2 with
    | some d => k.rt d S
    | none => k.nx (delI i r.1) S) else x e σ S
/-- caught, then x = o.m() -/
def catchH (G : Gc) (x : XW) (c : Str) (i o : Nat) (cl m : Str) (k : KS) : XW := fun e σ S => ∃ t, G.sub e.cls c = some t ∧
  if t = true then ∃ f a fs p kvs l, G.hot cl m = some f ∧ G.fld cl f = true ∧ σ[o]? = some (some (.ref a)) ∧ S a = some (.ins cl fs) ∧ fs.lookup m = none ∧ fs.lookup f = some (.ref p) ∧ S p = some (.dct kvs) ∧ ksOf kvs = some l ∧ l.length < 64 ∧ l.all PySem.PyData.strOk = true ∧ k.nx (σ.set i (some (.lst ((srtS l).map .str)))) S else x e σ S
theorem catchH_mono {G : Gc} {x x' : XW} {c : Str} {i o : Nat} {cl m : Str} {k k' : KS} (hx : ∀ e σ S', x e σ S' → x' e σ S') (h : ∀ σ S, k.nx σ S → k'.nx σ S) : ∀ e σ S, catchH G x c i o cl m k e σ S → catchH G x' c i o cl m k' e σ S := by
  rintro e σ S ⟨t, h1, h2⟩
  refine ⟨t, h1, ?_⟩
  split at h2
  · rename_i z; rw [if_pos z]
    obtain ⟨f, a, fs, p, kvs, l, y1, y2, y3, y4, y5, y6, y7, y8, y9, y10, y11⟩ := h2
    exact ⟨f, a, fs, p, kvs, l, y1, y2, y3, y4, y5, y6, y7, y8, y9, y10, h _ _ y11⟩
  · rename_i z; rw [if_neg z]
    exact hx _ _ _ h2
mutual
def wS (G : Gc) (x : XW) : MS → Env → Sto → KS → Prop
  | .asg t e, σ, S, k => wE G x e σ S fun d S1 => ∃ σ', asgT t d σ = some σ' ∧ k.nx σ' S1
  | .six o i e, σ, S, k => wE G x e σ S fun v S1 => wE G x o σ S1 fun u S2 => wE G x i σ S2 fun j S3 => ∃ S', sixR u j v S3 = some S' ∧ k.nx σ S'
  | .aug i o e, σ, S, k => ∃ u, σ[i]? = some (some u) ∧ wE G x e σ S fun v S1 => ∃ d, augR o u v = some d ∧ k.nx (σ.set i (some d)) S1
  | .exp e, σ, S, k => wE G x e σ S fun _ S1 => k.nx σ S1
  | .ret e, σ, S, k => wE G x e σ S k.rt
  | .ite c a b, σ, S, k => wE G x c σ S fun u S1 => ∃ z, tru S1 u = some z ∧ if z = true then wSs G x a σ S1 k else wSs G x b σ S1 k
  | .for_ i t as b, σ, S, k => wEs G x as σ S fun ds S1 => ∃ its, itS i ds S1 = some its ∧
      forLoop its.2 (fun d σ2 S2 q => ∃ σ', asgT t d σ2 = some σ' ∧ wSs G x b σ' S2 q) its.1 σ S1 k
  | .whl c b, σ, S, k => ∃ W : Nat → Env → Sto → Prop, (∃ m, W m σ S) ∧ ∀ m σ S, W m σ S → wE G x c σ S fun u S1 => ∃ z, tru S1 u = some z ∧
      if z = true then ∃ N : Env → Sto → Prop, (∀ σ' S', N σ' S' → ∃ m', m' < m ∧ W m' σ' S') ∧ wSs G x b σ S1 { nx := N, ct := N, rt := k.rt, bk := k.nx } else k.nx σ S1
  | .pas, σ, S, k => k.nx σ S
  | .cont, σ, S, k => k.ct σ S
  | .drp i, σ, S, k => ∃ a, σ[i]? = some (some (.ref a)) ∧ k.nx σ (rm S a)
  | .frS i, σ, S, k => ∃ a ds, σ[i]? = some (some (.ref a)) ∧ S a = some (.lst ds) ∧ k.nx (σ.set i (some (.lst ds))) (rm S a)
  | .sat o f e, σ, S, k => wE G x e σ S fun v S1 => wE G x o σ S1 fun u S2 => ∃ a c fs, u = .ref a ∧ S2 a = some (.ins c fs) ∧ G.fld c f = true ∧ fs.length < 1000 ∧ k.nx σ (put S2 a (.ins c (pf f v fs)))
  | .aga o f op e, σ, S, k => wE G x o σ S fun u S1 => ∃ a c fs i, u = .ref a ∧ S1 a = some (.ins c fs) ∧ G.fld c f = true ∧ fs.lookup f = some (.int i) ∧
      wE G x e σ S1 fun v S2 => ∃ d fs', augR op (.int i) v = some d ∧ S2 a = some (.ins c fs') ∧ fs'.length < 1000 ∧ k.nx σ (put S2 a (.ins c (pf f d fs')))
  | .ags o i op e, σ, S, k => wE G x o σ S fun u S1 => wE G x i σ S1 fun j S2 => ∃ a kvs key v, u = .ref a ∧ S2 a = some (.dct kvs) ∧ keyOf j = some key ∧ gv kvs key = some v ∧
      wE G x e σ S2 fun y S3 => ∃ d kvs', augR op v y = some d ∧ S3 a = some (.dct kvs') ∧ kvs'.length < sizeLine ∧ k.nx σ (put S3 a (.dct (gp kvs' key d)))
  | .rai c es, σ, S, k => ∃ F, G.exc c = some (es.length, F) ∧ wEs G x es σ S fun ds S1 => x ⟨c, F ds⟩ σ S1
  | .tri b c i q, σ, S, k => G.sub c c = some true ∧ wSs G (catch_ G x c i q k) b σ S k
  | .trh b c i o cl m, σ, S, k => G.sub c c = some true ∧ wSs G (catchH G x c i o cl m k) b σ S k
  | .lck s, σ, S, k => ∃ a kvs, S a = some (.dct kvs) ∧ ∀ o ks, wS G (fun _ _ _ => False) s σ (put S a (.ldc o ks kvs)) { nx := fun σ' S' => S' a = some (.ldc o ks kvs) ∧ k.nx σ' (put S' a (.dct kvs)), rt := fun d S' => S' a = some (.ldc o ks kvs) ∧ k.rt d (put S' a (.dct kvs)), bk := fun σ' S' => S' a = some (.ldc o ks kvs) ∧ k.bk σ' (put S' a (.dct kvs)), ct := fun σ' S' => S' a = some (.ldc o ks kvs) ∧ k.ct σ' (put S' a (.dct kvs)) }
  | .bad, _, _, _ => False
def wSs (G : Gc) (x : XW) : List MS → Env → Sto → KS → Prop
  | [], σ, S, k => k.nx σ S
  | s :: r, σ, S, k => wS G x s σ S { nx := fun σ' S' => wSs G x r σ' S' k, rt := k.rt, bk := k.bk, ct := k.ct }
end
theorem callW_mono {sp : DSp} {ds : List D} {S : Sto} {k k' : D → Sto → Prop} {x x' : Exc → Sto → Prop} (h : ∀ d S', k d S' → k' d S') (hx : ∀ e S', x e S' → x' e S') (q : callW sp ds S k x) : callW sp ds S k' x' := by
  obtain ⟨Q, X, h1, h2, h3⟩ := q
  exact ⟨Q, X, fun d S' z => h _ _ (h1 _ _ z), fun e S' z => hx _ _ (h2 _ _ z), h3⟩
theorem lcLoop_mono {g : Sto → Prop} {f f' : D → Sto → (Option D → Sto → Prop) → Prop} (hf : ∀ d S q q', (∀ r S', q r S' → q' r S') → f d S q → f' d S q') {k k' : List D → Sto → Prop} (h : ∀ d S', k d S' → k' d S') :
    ∀ (ds acc : List D) (S : Sto), lcLoop g f ds acc S k → lcLoop g f' ds acc S k'
  | [], acc, S, q => ⟨q.1, h _ _ q.2⟩
  | d :: ds, acc, S, q => ⟨q.1, hf _ _ _ _ (fun r S' z => by
      cases r with
      | none => exact lcLoop_mono hf h ds acc S' z
      | some y => exact ⟨z.1, lcLoop_mono hf h ds _ S' z.2⟩) q.2⟩
mutual
theorem wE_mono {G : Gc} {x : XW} {k k' : D → Sto → Prop} (h : ∀ d S', k d S' → k' d S') : ∀ (e : ME) (σ : Env) (S : Sto), wE G x e σ S k → wE G x e σ S k'
  | .var i, σ, S, q => by unfold wE at q ⊢; obtain ⟨d, h1, h2⟩ := q; exact ⟨d, h1, h _ _ h2⟩
  | .cst d, σ, S, q => by unfold wE at q ⊢; exact h _ _ q
  | .glo n, σ, S, q => by unfold wE at q ⊢; obtain ⟨d, h1, h2⟩ := q; exact ⟨d, h1, h _ _ h2⟩
  | .bin o m a b, σ, S, q => by
    unfold wE at q ⊢
    refine wE_mono (fun u S1 q => wE_mono (fun v S2 q => ?_) b σ S1 q) a σ S q
    obtain ⟨r, h1, h2⟩ := q
    exact ⟨r, h1, fin_mono h h2⟩
  | .neg a, σ, S, q => by
    unfold wE at q ⊢
    refine wE_mono (fun u S1 q => ?_) a σ S q
    obtain ⟨r, h1, h2⟩ := q
    exact ⟨r, h1, h _ _ h2⟩
  | .not a, σ, S, q => by
    unfold wE at q ⊢
    refine wE_mono (fun u S1 q => ?_) a σ S q
    obtain ⟨r, h1, h2⟩ := q
    exact ⟨r, h1, h _ _ h2⟩
  | .cmp o a b, σ, S, q => by
    unfold wE at q ⊢
    refine wE_mono (fun u S1 q => wE_mono (fun v S2 q => ?_) b σ S1 q) a σ S q
    obtain ⟨r, h1, h2⟩ := q
    exact ⟨r, h1, h _ _ h2⟩
  | .cmp2 o o' a b c, σ, S, q => by
    unfold wE at q ⊢
    refine wE_mono (fun u S1 q => wE_mono (fun v S2 q => ?_) b σ S1 q) a σ S q
    obtain ⟨r, h1, h2⟩ := q
    refine ⟨r, h1, ?_⟩
    split at h2
    · rename_i e; rw [if_pos e]
      refine wE_mono (fun z S3 q => ?_) c σ S2 h2
      obtain ⟨r', h1, h2⟩ := q
      exact ⟨r', h1, h _ _ h2⟩
    · rename_i e; rw [if_neg e]; exact h _ _ h2
  | .and a b, σ, S, q => by
    unfold wE at q ⊢
    refine wE_mono (fun u S1 q => ?_) a σ S q
    obtain ⟨r, h1, h2⟩ := q
    refine ⟨r, h1, ?_⟩
    split at h2
    · rename_i e; rw [if_pos e]; exact wE_mono h b σ S1 h2
    · rename_i e; rw [if_neg e]; exact h _ _ h2
  | .or a b, σ, S, q => by
    unfold wE at q ⊢
    refine wE_mono (fun u S1 q => ?_) a σ S q
    obtain ⟨r, h1, h2⟩ := q
    refine ⟨r, h1, ?_⟩
    split at h2
    · rename_i e; rw [if_pos e]; exact h _ _ h2
    · rename_i e; rw [if_neg e]; exact wE_mono h b σ S1 h2
  | .ifx c a b, σ, S, q => by
    unfold wE at q ⊢
    refine wE_mono (fun u S1 q => ?_) c σ S q
    obtain ⟨r, h1, h2⟩ := q
    refine ⟨r, h1, ?_⟩
    split at h2
    · rename_i e; rw [if_pos e]; exact wE_mono h a σ S1 h2
    · rename_i e; rw [if_neg e]; exact wE_mono h b σ S1 h2
  | .idx a i, σ, S, q => by
    unfold wE at q ⊢
    refine wE_mono (fun u S1 q => wE_mono (fun v S2 q => ?_) i σ S1 q) a σ S q
    obtain ⟨r, h1, h2⟩ := q
    exact ⟨r, h1, h _ _ h2⟩
  | .slL m a lo, σ, S, q => by
    unfold wE at q ⊢
    refine wE_mono (fun u S1 q => wE_mono (fun v S2 q => ?_) lo σ S1 q) a σ S q
    obtain ⟨i, h0, r, h1, h2⟩ := q
    exact ⟨i, h0, r, h1, fin_mono h h2⟩
  | .slU m a lo, σ, S, q => by
    unfold wE at q ⊢
    refine wE_mono (fun u S1 q => wE_mono (fun v S2 q => ?_) lo σ S1 q) a σ S q
    obtain ⟨i, h0, r, h1, h2⟩ := q
    exact ⟨i, h0, r, h1, fin_mono h h2⟩
  | .slLU m a lo hi, σ, S, q => by
    unfold wE at q ⊢
    refine wE_mono (fun u S1 q => wE_mono (fun v S2 q => ?_) lo σ S1 q) a σ S q
    obtain ⟨i, h0, q⟩ := q
    refine ⟨i, h0, wE_mono (fun z S3 q => ?_) hi σ S2 q⟩
    obtain ⟨j, h0, r, h1, h2⟩ := q
    exact ⟨j, h0, r, h1, fin_mono h h2⟩
  | .tup es, σ, S, q => by
    unfold wE at q ⊢
    exact wEs_mono (fun ds S1 q => ⟨q.1, h _ _ q.2⟩) es σ S q
  | .lst m es, σ, S, q => by
    unfold wE at q ⊢
    exact wEs_mono (fun ds S1 q => ⟨q.1, fin_mono h q.2⟩) es σ S q
  | .blt f m es, σ, S, q => by
    unfold wE at q ⊢
    refine wEs_mono (fun ds S1 q => ?_) es σ S q
    obtain ⟨r, h1, h2⟩ := q
    exact ⟨r, h1, fin_mono h h2⟩
  | .bm f m o es, σ, S, q => by
    unfold wE at q ⊢
    refine wE_mono (fun u S1 q => ⟨q.1, wEs_mono (fun ds S2 q => ?_) es σ S1 q.2⟩) o σ S q
    obtain ⟨r, h1, h2⟩ := q
    exact ⟨r, h1, fin_mono h h2⟩
  | .call f es, σ, S, q => by
    unfold wE at q ⊢
    obtain ⟨sp, h1, q⟩ := q
    exact ⟨sp, h1, wEs_mono (fun ds S1 q => callW_mono h (fun _ _ z => z) q) es σ S q⟩
  | .lc i m t as c e, σ, S, q => by
    unfold wE at q ⊢
    refine wEs_mono (fun ds S1 q => ?_) as σ S q
    obtain ⟨its, h1, h2⟩ := q
    refine ⟨its, h1, lcLoop_mono (fun d S2 q q' hq z => ?_) (fun acc S2 z => fin_mono h z) _ _ _ h2⟩
    obtain ⟨σ', e1, z⟩ := z
    refine ⟨σ', e1, wC_mono (fun b S3 z => ?_) c σ' S2 z⟩
    cases b with
    | true => exact wE_mono (fun y S4 z => hq _ _ z) e σ' S3 z
    | false => exact hq _ _ z
  | .lcR i t as e, σ, S, q => by
    unfold wE at q ⊢
    refine wEs_mono (fun ds S1 q => ?_) as σ S q
    obtain ⟨its, h1, h2⟩ := q
    refine ⟨its, h1, lcLoop_mono (fun d S2 q q' hq z => ?_) (fun acc S2 z => fin_mono h z) _ _ _ h2⟩
    obtain ⟨σ', e1, z⟩ := z
    exact ⟨σ', e1, wE_mono (fun y S4 z => hq _ _ z) e σ' S2 z⟩
  | .frz a, σ, S, q => by
    unfold wE at q ⊢
    refine wE_mono (fun u S1 q => ?_) a σ S q
    obtain ⟨p, ds, h1, h2, h3⟩ := q
    exact ⟨p, ds, h1, h2, h _ _ h3⟩
  | .att o f, σ, S, q => by
    unfold wE at q ⊢
    refine wE_mono (fun u S1 q => ?_) o σ S q
    obtain ⟨a, c, fs, d, h1, h2, h3, h4, h5⟩ := q
    exact ⟨a, c, fs, d, h1, h2, h3, h4, h _ _ h5⟩
  | .mth c o m es, σ, S, q => by
    unfold wE at q ⊢
    obtain ⟨sp, h0, q⟩ := q
    refine ⟨sp, h0, wE_mono (fun u S1 q => ?_) o σ S q⟩
    obtain ⟨a, fs, h1, h2, h3, h4⟩ := q
    exact ⟨a, fs, h1, h2, h3, wEs_mono (fun ds S2 q => callW_mono h (fun _ _ z => z) q) es σ S1 h4⟩
  | .mk c es, σ, S, q => by
    unfold wE at q ⊢
    obtain ⟨sp, h0, q⟩ := q
    exact ⟨sp, h0, wEs_mono (fun ds S1 q p hp => callW_mono (fun v S2 z => ⟨z.1, h _ _ z.2⟩) (fun _ _ z => z) (q p hp)) es σ S q⟩
  | .dct kvs, σ, S, q => by
    unfold wE at q ⊢
    exact fun p hp => h _ _ (q p hp)
  | .lck e, σ, S, q => by
    unfold wE at q ⊢
    obtain ⟨a, kvs, h1, h2⟩ := q
    exact ⟨a, kvs, h1, fun o ks => wE_mono (fun d S' z => ⟨z.1, h _ _ z.2⟩) e σ _ (h2 o ks)⟩
  | .dcN, σ, S, q => by
    unfold wE at q ⊢
    exact fun p hp => h _ _ (q p hp)
  | .lns e, σ, S, q => by
    unfold wE at q ⊢
    exact wE_mono (fun d S' z => by obtain ⟨r, h1, h2⟩ := z; exact ⟨r, h1, h _ _ h2⟩) e σ S q
  | .plug p es, σ, S, q => by unfold wE at q ⊢; exact wEp_mono (fun ds S' z => p.mono G ds S' _ _ h z) es σ S q
  | .bad, σ, S, q => by unfold wE at q; exact q.elim
theorem wEs_mono {G : Gc} {x : XW} {k k' : List D → Sto → Prop} (h : ∀ d S', k d S' → k' d S') : ∀ (es : List ME) (σ : Env) (S : Sto), wEs G x es σ S k → wEs G x es σ S k'
  | [], σ, S, q => by unfold wEs at q ⊢; exact h _ _ q
  | e :: es, σ, S, q => by
    unfold wEs at q ⊢
    exact wE_mono (fun d S1 q => wEs_mono (fun ds S2 q => h _ _ q) es σ S1 q) e σ S q
theorem wEp_mono {G : Gc} {x : XW} {c : Sto → D → Prop} {k k' : List D → Sto → Prop} (h : ∀ d S', k d S' → k' d S') : ∀ (es : List ME) (σ : Env) (S : Sto), wEp G x c es σ S k → wEp G x c es σ S k'
  | [], σ, S, q => by unfold wEp at q ⊢; exact h _ _ q
  | e :: es, σ, S, q => by
    unfold wEp at q ⊢
    exact wE_mono (fun d S1 q => ⟨q.1, wEs_mono (fun ds S2 q => h _ _ q) es σ S1 q.2⟩) e σ S q
theorem wC_mono {G : Gc} {k k' : Bool → Sto → Prop} (h : ∀ d S', k d S' → k' d S') : ∀ (es : List ME) (σ : Env) (S : Sto), wC G es σ S k → wC G es σ S k'
  | [], σ, S, q => by unfold wC at q ⊢; exact h _ _ q
  | [c], σ, S, q => by
    unfold wC at q ⊢
    refine wE_mono (fun d S1 q => ?_) c σ S q
    obtain ⟨b, h1, h2⟩ := q
    exact ⟨b, h1, h _ _ h2⟩
  | _ :: _ :: _, σ, S, q => by unfold wC at q; exact q.elim
end
theorem wEs_len {G : Gc} {x : XW} : ∀ (es : List ME) (σ : Env) (S : Sto) (k : List D → Sto → Prop), wEs G x es σ S k → wEs G x es σ S fun ds S' => ds.length = es.length ∧ k ds S'
  | [], σ, S, k, q => by unfold wEs at q ⊢; exact ⟨rfl, q⟩
  | e :: es, σ, S, k, q => by
    unfold wEs at q ⊢
    exact wE_mono (fun d S1 q => wEs_mono (fun ds S2 q => ⟨by rw [List.length_cons, List.length_cons, q.1], q.2⟩) es σ S1 (wEs_len es σ S1 _ q)) e σ S q
mutual
theorem wE_monoX {G : Gc} {x x' : XW} {k : D → Sto → Prop} (hx : ∀ e σ S', x e σ S' → x' e σ S') : ∀ (e : ME) (σ : Env) (S : Sto), wE G x e σ S k → wE G x' e σ S k
  | .var i, σ, S, q => by unfold wE at q ⊢; exact q
  | .cst d, σ, S, q => by unfold wE at q ⊢; exact q
  | .glo n, σ, S, q => by unfold wE at q ⊢; exact q
  | .bin o m a b, σ, S, q => by
    unfold wE at q ⊢
    exact wE_mono (fun u S1 q => wE_monoX hx b σ S1 q) a σ S (wE_monoX hx a σ S q)
  | .neg a, σ, S, q => by unfold wE at q ⊢; exact wE_monoX hx a σ S q
  | .not a, σ, S, q => by unfold wE at q ⊢; exact wE_monoX hx a σ S q
  | .cmp o a b, σ, S, q => by
    unfold wE at q ⊢
    exact wE_mono (fun u S1 q => wE_monoX hx b σ S1 q) a σ S (wE_monoX hx a σ S q)
  | .cmp2 o o' a b c, σ, S, q => by
    unfold wE at q ⊢
    refine wE_mono (fun u S1 q => wE_mono (fun v S2 q => ?_) b σ S1 (wE_monoX hx b σ S1 q)) a σ S (wE_monoX hx a σ S q)
    obtain ⟨r, h1, h2⟩ := q
    refine ⟨r, h1, ?_⟩
    split at h2
    · rename_i e; rw [if_pos e]; exact wE_monoX hx c σ S2 h2
    · rename_i e; rw [if_neg e]; exact h2
  | .and a b, σ, S, q => by
    unfold wE at q ⊢
    refine wE_mono (fun u S1 q => ?_) a σ S (wE_monoX hx a σ S q)
    obtain ⟨r, h1, h2⟩ := q
    refine ⟨r, h1, ?_⟩
    split at h2
    · rename_i e; rw [if_pos e]; exact wE_monoX hx b σ S1 h2
    · rename_i e; rw [if_neg e]; exact h2
  | .or a b, σ, S, q => by
    unfold wE at q ⊢
    refine wE_mono (fun u S1 q => ?_) a σ S (wE_monoX hx a σ S q)
    obtain ⟨r, h1, h2⟩ := q
    refine ⟨r, h1, ?_⟩
    split at h2
    · rename_i e; rw [if_pos e]; exact h2
    · rename_i e; rw [if_neg e]; exact wE_monoX hx b σ S1 h2
  | .ifx c a b, σ, S, q => by
    unfold wE at q ⊢
    refine wE_mono (fun u S1 q => ?_) c σ S (wE_monoX hx c σ S q)
    obtain ⟨r, h1, h2⟩ := q
    refine ⟨r, h1, ?_⟩
    split at h2
    · rename_i e; rw [if_pos e]; exact wE_monoX hx a σ S1 h2
    · rename_i e; rw [if_neg e]; exact wE_monoX hx b σ S1 h2
  | .idx a i, σ, S, q => by
    unfold wE at q ⊢
    exact wE_mono (fun u S1 q => wE_monoX hx i σ S1 q) a σ S (wE_monoX hx a σ S q)
  | .slL m a lo, σ, S, q => by
    unfold wE at q ⊢
    exact wE_mono (fun u S1 q => wE_monoX hx lo σ S1 q) a σ S (wE_monoX hx a σ S q)
  | .slU m a lo, σ, S, q => by
    unfold wE at q ⊢
    exact wE_mono (fun u S1 q => wE_monoX hx lo σ S1 q) a σ S (wE_monoX hx a σ S q)
  | .slLU m a lo hi, σ, S, q => by
    unfold wE at q ⊢
    refine wE_mono (fun u S1 q => wE_mono (fun v S2 q => ?_) lo σ S1 (wE_monoX hx lo σ S1 q)) a σ S (wE_monoX hx a σ S q)
    obtain ⟨i, h0, q⟩ := q
    exact ⟨i, h0, wE_monoX hx hi σ S2 q⟩
  | .tup es, σ, S, q => by unfold wE at q ⊢; exact wEs_monoX hx es σ S q
  | .lst m es, σ, S, q => by unfold wE at q ⊢; exact wEs_monoX hx es σ S q
  | .blt f m es, σ, S, q => by unfold wE at q ⊢; exact wEs_monoX hx es σ S q
  | .bm f m o es, σ, S, q => by
    unfold wE at q ⊢
    exact wE_mono (fun u S1 q => ⟨q.1, wEs_monoX hx es σ S1 q.2⟩) o σ S (wE_monoX hx o σ S q)
  | .call f es, σ, S, q => by
    unfold wE at q ⊢
    obtain ⟨sp, h1, q⟩ := q
    exact ⟨sp, h1, wEs_mono (fun ds S1 q => callW_mono (fun _ _ z => z) (fun _ _ z => hx _ _ _ z) q) es σ S (wEs_monoX hx es σ S q)⟩
  | .lc i m t as c e, σ, S, q => by unfold wE at q ⊢; exact wEs_monoX hx as σ S q
  | .lcR i t as e, σ, S, q => by
    unfold wE at q ⊢
    refine wEs_mono (fun ds S1 q => ?_) as σ S (wEs_monoX hx as σ S q)
    obtain ⟨its, h1, h2⟩ := q
    refine ⟨its, h1, lcLoop_mono (fun d S2 q q' hq z => ?_) (fun acc S2 z => z) _ _ _ h2⟩
    obtain ⟨σ', e1, z⟩ := z
    exact ⟨σ', e1, wE_mono (fun y S4 z => hq _ _ z) e σ' S2 (wE_monoX (fun ex _ S' w => hx ex σ S' w) e σ' S2 z)⟩
  | .frz a, σ, S, q => by unfold wE at q ⊢; exact wE_monoX hx a σ S q
  | .att o f, σ, S, q => by unfold wE at q ⊢; exact wE_monoX hx o σ S q
  | .mth c o m es, σ, S, q => by
    unfold wE at q ⊢
    obtain ⟨sp, h0, q⟩ := q
    refine ⟨sp, h0, wE_mono (fun u S1 q => ?_) o σ S (wE_monoX hx o σ S q)⟩
    obtain ⟨a, fs, h1, h2, h3, h4⟩ := q
    exact ⟨a, fs, h1, h2, h3, wEs_mono (fun ds S2 q => callW_mono (fun _ _ z => z) (fun _ _ z => hx _ _ _ z) q) es σ S1 (wEs_monoX hx es σ S1 h4)⟩
  | .mk c es, σ, S, q => by
    unfold wE at q ⊢
    obtain ⟨sp, h0, q⟩ := q
    exact ⟨sp, h0, wEs_monoX hx es σ S q⟩
  | .dct kvs, σ, S, q => by unfold wE at q ⊢; exact q
  | .lck e, σ, S, q => by unfold wE at q ⊢; exact q
  | .dcN, σ, S, q => by unfold wE at q ⊢; exact q
  | .lns e, σ, S, q => by unfold wE at q ⊢; exact wE_monoX hx e σ S q
  | .plug p es, σ, S, q => by unfold wE at q ⊢; exact wEp_monoX hx es σ S q
  | .bad, σ, S, q => by unfold wE at q; exact q.elim
theorem wEs_monoX {G : Gc} {x x' : XW} {k : List D → Sto → Prop} (hx : ∀ e σ S', x e σ S' → x' e σ S') : ∀ (es : List ME) (σ : Env) (S : Sto), wEs G x es σ S k → wEs G x' es σ S k
  | [], σ, S, q => by unfold wEs at q ⊢; exact q
  | e :: es, σ, S, q => by
    unfold wEs at q ⊢
    exact wE_mono (fun d S1 q => wEs_monoX hx es σ S1 q) e σ S (wE_monoX hx e σ S q)
theorem wEp_monoX {G : Gc} {x x' : XW} {c : Sto → D → Prop} {k : List D → Sto → Prop} (hx : ∀ e σ S', x e σ S' → x' e σ S') : ∀ (es : List ME) (σ : Env) (S : Sto), wEp G x c es σ S k → wEp G x' c es σ S k
  | [], σ, S, q => by unfold wEp at q ⊢; exact q
  | e :: es, σ, S, q => by
    unfold wEp at q ⊢
    exact wE_mono (fun d S1 q => ⟨q.1, wEs_monoX hx es σ S1 q.2⟩) e σ S (wE_monoX hx e σ S q)
end
structure KS.Le (k k' : KS) : Prop where
  nx : ∀ σ S, k.nx σ S → k'.nx σ S
  rt : ∀ d S, k.rt d S → k'.rt d S
  bk : ∀ σ S, k.bk σ S → k'.bk σ S
  ct : ∀ σ S, k.ct σ S → k'.ct σ S
theorem forLoop_mono {g : Sto → Prop} {f f' : D → Env → Sto → KS → Prop} (hf : ∀ d σ S q q', KS.Le q q' → f d σ S q → f' d σ S q') {k k' : KS} (h : KS.Le k k') :
    ∀ (ds : List D) (σ : Env) (S : Sto), forLoop g f ds σ S k → forLoop g f' ds σ S k'
  | [], σ, S, q => ⟨q.1, h.nx _ _ q.2⟩
  | d :: ds, σ, S, q => by
    refine ⟨q.1, hf _ _ _ _ _ ?_ q.2⟩
    exact ⟨fun σ' S' z => forLoop_mono hf h ds σ' S' z, h.rt, h.nx, fun σ' S' z => forLoop_mono hf h ds σ' S' z⟩
theorem catch_mono {G : Gc} {x x' : XW} {c : Str} {i : Option Nat} {q : List QS} {k k' : KS} (hx : ∀ e σ S', x e σ S' → x' e σ S') (h : KS.Le k k') : ∀ e σ S, catch_ G x c i q k e σ S → catch_ G x' c i q k' e σ S := by
  rintro e σ S ⟨h0, t, h1, h2⟩
  refine ⟨h0, t, h1, ?_⟩
  split at h2
  · rename_i z; rw [if_pos z]
    obtain ⟨r, h3, h4⟩ := h2
    refine ⟨r, h3, ?_⟩
    obtain ⟨σ', o⟩ := r
    cases o with
    | none => exact h.nx _ _ h4
    | some d => exact h.rt _ _ h4
  · rename_i z; rw [if_neg z]; exact hx _ _ _ h2
mutual
theorem wS_monoX {G : Gc} {x x' : XW} {k k' : KS} (hx : ∀ e σ S', x e σ S' → x' e σ S') (h : KS.Le k k') : ∀ (s : MS) (σ : Env) (S : Sto), wS G x s σ S k → wS G x' s σ S k'
  | .asg t e, σ, S, q => by
    unfold wS at q ⊢
    refine wE_mono (fun d S1 q => ?_) e σ S (wE_monoX hx e σ S q)
    obtain ⟨σ', h1, h2⟩ := q
    exact ⟨σ', h1, h.nx _ _ h2⟩
  | .six o i e, σ, S, q => by
    unfold wS at q ⊢
    refine wE_mono (fun d S1 q => wE_mono (fun u S2 q => wE_mono (fun j S3 q => ?_) i σ S2 (wE_monoX hx i σ S2 q)) o σ S1 (wE_monoX hx o σ S1 q)) e σ S (wE_monoX hx e σ S q)
    obtain ⟨σ', h1, h2⟩ := q
    exact ⟨σ', h1, h.nx _ _ h2⟩
  | .aug i o e, σ, S, q => by
    unfold wS at q ⊢
    obtain ⟨u, h0, q⟩ := q
    refine ⟨u, h0, wE_mono (fun d S1 q => ?_) e σ S (wE_monoX hx e σ S q)⟩
    obtain ⟨σ', h1, h2⟩ := q
    exact ⟨σ', h1, h.nx _ _ h2⟩
  | .exp e, σ, S, q => by unfold wS at q ⊢; exact wE_mono (fun d S1 q => h.nx _ _ q) e σ S (wE_monoX hx e σ S q)
  | .ret e, σ, S, q => by unfold wS at q ⊢; exact wE_mono (fun d S1 q => h.rt _ _ q) e σ S (wE_monoX hx e σ S q)
  | .ite c a b, σ, S, q => by
    unfold wS at q ⊢
    refine wE_mono (fun d S1 q => ?_) c σ S (wE_monoX hx c σ S q)
    obtain ⟨z, h1, h2⟩ := q
    refine ⟨z, h1, ?_⟩
    split at h2
    · rename_i e; rw [if_pos e]; exact wSs_monoX hx h a σ S1 h2
    · rename_i e; rw [if_neg e]; exact wSs_monoX hx h b σ S1 h2
  | .for_ i t as b, σ, S, q => by
    unfold wS at q ⊢
    refine wEs_mono (fun ds S1 q => ?_) as σ S (wEs_monoX hx as σ S q)
    obtain ⟨its, h1, h2⟩ := q
    refine ⟨its, h1, forLoop_mono (fun d σ2 S2 q q' hq z => ?_) h _ _ _ h2⟩
    obtain ⟨σ', e1, z⟩ := z
    exact ⟨σ', e1, wSs_monoX hx hq b σ' S2 z⟩
  | .whl c b, σ, S, q => by
    unfold wS at q ⊢
    obtain ⟨W, h0, q⟩ := q
    refine ⟨W, h0, fun m σ S w => wE_mono (fun u S1 q => ?_) c σ S (wE_monoX hx c σ S (q m σ S w))⟩
    obtain ⟨z, h1, h2⟩ := q
    refine ⟨z, h1, ?_⟩
    split at h2
    · rename_i e; rw [if_pos e]
      obtain ⟨N, hN, h2⟩ := h2
      refine ⟨N, hN, wSs_monoX hx ?_ b σ S1 h2⟩
      exact ⟨fun _ _ z => z, h.rt, h.nx, fun _ _ z => z⟩
    · rename_i e; rw [if_neg e]; exact h.nx _ _ h2
  | .pas, σ, S, q => by unfold wS at q ⊢; exact h.nx _ _ q
  | .cont, σ, S, q => by unfold wS at q ⊢; exact h.ct _ _ q
  | .drp i, σ, S, q => by unfold wS at q ⊢; obtain ⟨a, h1, h2⟩ := q; exact ⟨a, h1, h.nx _ _ h2⟩
  | .frS i, σ, S, q => by unfold wS at q ⊢; obtain ⟨a, ds, h1, h2, h3⟩ := q; exact ⟨a, ds, h1, h2, h.nx _ _ h3⟩
  | .sat o f e, σ, S, q => by
    unfold wS at q ⊢
    refine wE_mono (fun v S1 q => wE_mono (fun u S2 q => ?_) o σ S1 (wE_monoX hx o σ S1 q)) e σ S (wE_monoX hx e σ S q)
    obtain ⟨a, c, fs, h1, h2, h3, h4, h5⟩ := q
    exact ⟨a, c, fs, h1, h2, h3, h4, h.nx _ _ h5⟩
  | .aga o f op e, σ, S, q => by
    unfold wS at q ⊢
    refine wE_mono (fun u S1 q => ?_) o σ S (wE_monoX hx o σ S q)
    obtain ⟨a, c, fs, i, h1, h2, h3, h4, h5⟩ := q
    refine ⟨a, c, fs, i, h1, h2, h3, h4, wE_mono (fun v S2 q => ?_) e σ S1 (wE_monoX hx e σ S1 h5)⟩
    obtain ⟨d, fs', h6, h7, h8, h9⟩ := q
    exact ⟨d, fs', h6, h7, h8, h.nx _ _ h9⟩
  | .ags o i op e, σ, S, q => by
    unfold wS at q ⊢
    refine wE_mono (fun u S1 q => wE_mono (fun j S2 q => ?_) i σ S1 (wE_monoX hx i σ S1 q)) o σ S (wE_monoX hx o σ S q)
    obtain ⟨a, kvs, key, v, h1, h2, h3, h4, h5⟩ := q
    refine ⟨a, kvs, key, v, h1, h2, h3, h4, wE_mono (fun y S3 q => ?_) e σ S2 (wE_monoX hx e σ S2 h5)⟩
    obtain ⟨d, kvs', h6, h7, h8, h9⟩ := q
    exact ⟨d, kvs', h6, h7, h8, h.nx _ _ h9⟩
  | .rai c es, σ, S, q => by
    unfold wS at q ⊢
    obtain ⟨F, h1, q⟩ := q
    exact ⟨F, h1, wEs_mono (fun ds S1 q => hx _ _ _ q) es σ S (wEs_monoX hx es σ S q)⟩
  | .tri b c i q, σ, S, z => by
    unfold wS at z ⊢
    exact ⟨z.1, wSs_monoX (catch_mono hx h) h b σ S z.2⟩
  | .trh b c i o cl m, σ, S, z => by
    unfold wS at z ⊢
    exact ⟨z.1, wSs_monoX (catchH_mono hx h.nx) h b σ S z.2⟩
  | .lck s, σ, S, q => by
    unfold wS at q ⊢
    obtain ⟨a, kvs, h1, h2⟩ := q
    refine ⟨a, kvs, h1, fun o ks => wS_monoX (fun _ _ _ z => z) ?_ s σ _ (h2 o ks)⟩
    exact ⟨fun _ _ z => ⟨z.1, h.nx _ _ z.2⟩, fun _ _ z => ⟨z.1, h.rt _ _ z.2⟩, fun _ _ z => ⟨z.1, h.bk _ _ z.2⟩, fun _ _ z => ⟨z.1, h.ct _ _ z.2⟩⟩
  | .bad, σ, S, q => by unfold wS at q; exact q.elim
theorem wSs_monoX {G : Gc} {x x' : XW} {k k' : KS} (hx : ∀ e σ S', x e σ S' → x' e σ S') (h : KS.Le k k') : ∀ (ss : List MS) (σ : Env) (S : Sto), wSs G x ss σ S k → wSs G x' ss σ S k'
  | [], σ, S, q => by unfold wSs at q ⊢; exact h.nx _ _ q
  | s :: r, σ, S, q => by
    unfold wSs at q ⊢
    refine wS_monoX hx ?_ s σ S q
    exact ⟨fun σ' S' z => wSs_monoX hx h r σ' S' z, h.rt, h.bk, h.ct⟩
end
theorem wS_mono {G : Gc} {x : XW} {k k' : KS} (h : KS.Le k k') (s : MS) (σ : Env) (S : Sto) (q : wS G x s σ S k) : wS G x s σ S k' := wS_monoX (fun _ _ _ z => z) h s σ S q
theorem wSs_mono {G : Gc} {x : XW} {k k' : KS} (h : KS.Le k k') (ss : List MS) (σ : Env) (S : Sto) (q : wSs G x ss σ S k) : wSs G x ss σ S k' := wSs_monoX (fun _ _ _ z => z) h ss σ S q
theorem seqW_es {G : Gc} {x : XW} : ∀ (es : List ME) (f : List D → Sto → (D → Sto → Prop) → Prop) (σ : Env) (S : Sto) (k : D → Sto → Prop), seqW (es.map (wE G x)) f σ S k = wEs G x es σ S fun ds S1 => f ds S1 k
  | [], f, σ, S, k => by rw [wEs]; rfl
  | e :: es, f, σ, S, k => by
    rw [wEs]
    show wE G x e σ S (fun d S1 => seqW (es.map (wE G x)) (fun ds S2 k => f (d :: ds) S2 k) σ S1 k) = _
    congr 1
    funext d S1
    exact seqW_es es _ σ S1 k
theorem seqC_es {G : Gc} {x : XW} {c : Sto → D → Prop} : ∀ (es : List ME) (f : List D → Sto → (D → Sto → Prop) → Prop) (σ : Env) (S : Sto) (k : D → Sto → Prop), seqC c (es.map (wE G x)) f σ S k = wEp G x c es σ S fun ds S1 => f ds S1 k
  | [], f, σ, S, k => by rw [wEp]; rfl
  | e :: es, f, σ, S, k => by
    rw [wEp]
    show wE G x e σ S (fun d S1 => c S1 d ∧ seqW (es.map (wE G x)) (fun ds S2 k => f (d :: ds) S2 k) σ S1 k) = _
    congr 1
    funext d S1
    rw [seqW_es es _ σ S1 k]
theorem Spec.ltCps_iff : ∀ a b : List Nat, Spec.ltCps a b = true ↔ a < b
  | [], [] => by simp [Spec.ltCps]
  | [], _ :: _ => by simp [Spec.ltCps]
  | _ :: _, [] => by simp [Spec.ltCps]
  | a :: r, b :: t => by
    rw [List.cons_lt_cons_iff]
    simp [Spec.ltCps, Spec.ltCps_iff r t]
def leS (a b : Str) : Prop := ¬ (b.cps.toList < a.cps.toList)
theorem leS_trans {a b c : Str} (h1 : leS a b) (h2 : leS b c) : leS a c := by
  unfold leS at *
  rw [List.not_lt] at *
  exact List.le_trans h1 h2
theorem leS_antisymm {a b : Str} (h1 : leS a b) (h2 : leS b a) : a = b := by
  unfold leS at *
  rw [List.not_lt] at h1 h2
  have := List.le_antisymm h1 h2
  obtain ⟨⟨a⟩⟩ := a
  obtain ⟨⟨b⟩⟩ := b
  simp at this
  rw [this]
theorem risingS_iff : ∀ (l : List Str) (p : Str), PyProof.Rows.risingS p l = true ↔ (p :: l).Pairwise leS
  | [], p => by simp [PyProof.Rows.risingS]
  | x :: r, p => by
    have e : PyProof.Rows.risingS p (x :: r) = (!Spec.ltCps x.cps.toList p.cps.toList && PyProof.Rows.risingS x r) := rfl
    rw [e, Bool.and_eq_true, risingS_iff r x, Bool.not_eq_true', ← Bool.not_eq_true, Spec.ltCps_iff]
    constructor
    · rintro ⟨h1, h2⟩
      have h3 := List.pairwise_cons.mp h2
      refine List.pairwise_cons.mpr ⟨fun z hz => ?_, h2⟩
      rcases List.mem_cons.mp hz with rfl | hz
      · exact h1
      · exact leS_trans h1 (h3.1 z hz)
    · intro h
      have h' := List.pairwise_cons.mp h
      exact ⟨h'.1 x List.mem_cons_self, h'.2⟩
theorem sortedS_iff : ∀ l : List Str, PyProof.Rows.sortedS l = true ↔ l.Pairwise leS
  | [] => by simp [PyProof.Rows.sortedS]
  | x :: r => risingS_iff r x
theorem insS_perm (x : Str) : ∀ l : List Str, (insS x l).Perm (x :: l)
  | [] => .refl _
  | y :: r => by
    unfold insS
    split
    · exact ((insS_perm x r).cons y).trans (List.Perm.swap x y r)
    · exact .refl _
theorem srtS_perm : ∀ l : List Str, (srtS l).Perm l
  | [] => .refl _
  | x :: r => (insS_perm x _).trans ((srtS_perm r).cons x)
theorem insS_sorted (x : Str) : ∀ l : List Str, l.Pairwise leS → (insS x l).Pairwise leS
  | [], _ => by unfold insS; simp
  | y :: r, h => by
    have h' := List.pairwise_cons.mp h
    unfold insS
    split
    · rename_i q
      rw [Spec.ltCps_iff] at q
      refine List.pairwise_cons.mpr ⟨fun z hz => ?_, insS_sorted x r h'.2⟩
      rcases List.mem_cons.mp ((insS_perm x r).mem_iff.mp hz) with rfl | hz
      · intro w
        exact List.lt_irrefl _ (List.lt_trans w q)
      · exact h'.1 z hz
    · rename_i q
      rw [Spec.ltCps_iff] at q
      refine List.pairwise_cons.mpr ⟨fun z hz => ?_, h⟩
      rcases List.mem_cons.mp hz with rfl | hz
      · exact q
      · exact leS_trans q (h'.1 z hz)
theorem srtS_sorted : ∀ l : List Str, (srtS l).Pairwise leS
  | [] => .nil
  | x :: r => insS_sorted x _ (srtS_sorted r)
theorem srt_unique {xs ys : List Str} (hp : ys.Perm xs) (hs : PyProof.Rows.sortedS ys = true) : ys = srtS xs :=
  List.Perm.eq_of_pairwise (le := leS) (fun _ _ _ _ => leS_antisymm) ((sortedS_iff ys).mp hs) (srtS_sorted xs) (hp.trans (srtS_perm xs).symm)
theorem srtS_len (l : List Str) : (srtS l).length = l.length := (srtS_perm l).length_eq
abbrev F2 := D → D → Sto → (D → Sto → Prop) → Prop
def rD2 (C : Cc) (f : F2) : R2 := fun x y H Q => ∃ u v S, Rp C H S ∧ RelD C H S u x ∧ RelD C H S v y ∧ f u v S (kD C H S Q)
def rD1 (C : Cc) (f : D → Sto → (D → Sto → Prop) → Prop) : V → Hp → VK → Prop := fun x H Q => ∃ u S, Rp C H S ∧ RelD C H S u x ∧ f u S (kD C H S Q)
def rDc (C : Cc) (f : List D → Sto → (D → Sto → Prop) → Prop) : List V → Hp → VK → Prop := fun xs H Q => ∃ us S, Rp C H S ∧ RelDs C H S us xs ∧ f us S (kD C H S Q)
def rDm (C : Cc) (f : D → List D → Sto → (D → Sto → Prop) → Prop) : V → List V → Hp → VK → Prop := fun x xs H Q => ∃ u us S, Rp C H S ∧ RelD C H S u x ∧ RelDs C H S us xs ∧ f u us S (kD C H S Q)
section
variable {C : Cc} {H0 : Hp} {S0 : Sto} {G : Gc} {x : XW}
theorem tD_one {a : ME} {f : D → Sto → (D → Sto → Prop) → Prop} (hf : ∀ u S k k', (∀ d S', k d S' → k' d S') → f u S k → f u S k') {σ : St} {H : Hp} {Q : VK} (h : tD C H0 S0 (fun σ S k => wE G x a σ S fun u S1 => f u S1 k) σ H Q) :
    tD C H0 S0 (wE G x a) σ H fun z H1 => rD1 C f z H1 Q := by
  obtain ⟨σd, S, rs, rp, ex, w⟩ := h
  exact ⟨σd, S, rs, rp, ex, wE_mono (fun u S1 q H1 z rp1 e1 r1 => ⟨u, S1, rp1, r1, hf _ _ _ _ (fun d S' => kD_ext e1) q⟩) a σd S w⟩
theorem tD_two {a b : ME} {f : F2} (hf : ∀ u v S k k', (∀ d S', k d S' → k' d S') → f u v S k → f u v S k') {σ : St} {H : Hp} {Q : VK} (h : tD C H0 S0 (fun σ S k => wE G x a σ S fun u S1 => wE G x b σ S1 fun v S2 => f u v S2 k) σ H Q) :
    tOp (rD2 C f) (tD C H0 S0 (wE G x a)) (tD C H0 S0 (wE G x b)) σ H Q := by
  obtain ⟨σd, S, rs, rp, ex, w⟩ := h
  exact ⟨σd, S, rs, rp, ex, wE_mono (fun u S1 q H1 z rp1 e1 r1 => ⟨σd, S1, rs.ext e1, rp1, ex.trans e1, wE_mono (fun v S2 q H2 z2 rp2 e2 r2 =>
    ⟨u, v, S2, rp2, r1.ext e2, r2, hf _ _ _ _ _ (fun d S' => kD_ext (e1.trans e2)) q⟩) b σd S1 q⟩) a σd S w⟩
theorem tD_args {es : List ME} {f : List D → Sto → (D → Sto → Prop) → Prop} (hf : ∀ u S k k', (∀ d S', k d S' → k' d S') → f u S k → f u S k') {σ : St} {H : Hp} {Q : VK} (h : tD C H0 S0 (fun σ S k => wEs G x es σ S fun u S1 => f u S1 k) σ H Q) :
    tCB (rDc C f) (tDA C H0 S0 (wEs G x es)) σ H Q := by
  obtain ⟨σd, S, rs, rp, ex, w⟩ := h
  exact ⟨σd, S, rs, rp, ex, wEs_mono (fun u S1 q H1 z rp1 e1 r1 => ⟨u, S1, rp1, r1, hf _ _ _ _ (fun d S' => kD_ext e1) q⟩) es σd S w⟩
end
/-- the end of an operation: a value as it stands -/
theorem kD_val {C : Cc} {H : Hp} {S : Sto} {Q : VK} {d : D} {v : V} (rp : Rp C H S) (h : kD C H S Q d S) (r : RelD C H S d v) : Q v H := h H v rp (Ext.refl _ _) r
/-- a new list -/
theorem fin_new {C : Cc} {H : Hp} {S : Sto} {Q : VK} {m : Bool} {ds : List D} {vs : List V} (rp : Rp C H S) (h : fin m (.newL ds) S (kD C H S Q)) (r : RelDs C H S ds vs) : ∀ p, H p = none → Q (.ref p) (upd H p (.lst vs)) := by
  intro p hp
  cases m with
  | true =>
    refine h p (rp.free hp) _ (.ref p) (rp.newM hp ⟨vs, rfl, r.ext (Ext.newM hp)⟩) (Ext.newM hp) ?_
    unfold RelD; rfl
  | false =>
    refine h _ (.ref p) (rp.new hp) (Ext.new hp) ?_
    unfold RelD
    exact ⟨p, vs, rfl, ⟨upd_same, rp.free hp, rp.nz hp⟩, r.ext (Ext.new hp)⟩
/-- a new dict -/
theorem fin_newD {C : Cc} {H : Hp} {S : Sto} {Q : VK} {m : Bool} {kvs : List (Key × D)} {l : List (Key × V)} (rp : Rp C H S) (h : fin m (.newD kvs) S (kD C H S Q)) (r : RelK C H S kvs l) : ∀ p, H p = none → Q (.ref p) (upd H p (.dK l)) := by
  intro p hp
  refine h p (rp.free hp) _ (.ref p) (rp.newM hp ⟨l, rfl, r.ext (Ext.newM hp)⟩) (Ext.newM hp) ?_
  unfold RelD; rfl
/-- a new tuple -/
theorem kD_tup {C : Cc} {H : Hp} {S : Sto} {Q : VK} {ds : List D} {vs : List V} (rp : Rp C H S) (h : kD C H S Q (.tup ds) S) (r : RelDs C H S ds vs) : ∀ p, H p = none → Q (.ref p) (upd H p (.tup vs)) := by
  intro p hp
  refine h _ (.ref p) (rp.new hp) (Ext.new hp) ?_
  unfold RelD
  exact ⟨p, vs, rfl, ⟨upd_same, rp.free hp⟩, r.ext (Ext.new hp)⟩
section
variable {C : Cc} {H : Hp} {S : Sto}
theorem RelDs.len : ∀ {ds : List D} {vs : List V}, RelDs C H S ds vs → vs.length = ds.length
  | [], _, h => by unfold RelDs at h; rw [h]; rfl
  | d :: ds, _, h => by unfold RelDs at h; obtain ⟨v, r, rfl, _, h2⟩ := h; simp [RelDs.len h2]
theorem RelDs.nil : RelDs C H S [] [] := by unfold RelDs; rfl
theorem RelDs.cons {d : D} {v : V} {ds : List D} {vs : List V} (a : RelD C H S d v) (b : RelDs C H S ds vs) : RelDs C H S (d :: ds) (v :: vs) := by unfold RelDs; exact ⟨v, vs, rfl, a, b⟩
theorem RelDs.app : ∀ {ds es : List D} {vs ws : List V}, RelDs C H S ds vs → RelDs C H S es ws → RelDs C H S (ds ++ es) (vs ++ ws)
  | [], es, _, ws, h, q => by unfold RelDs at h; rw [h]; exact q
  | d :: ds, es, _, ws, h, q => by unfold RelDs at h; obtain ⟨v, r, rfl, h1, h2⟩ := h; exact RelDs.cons h1 (RelDs.app h2 q)
theorem RelDs.drop : ∀ {ds : List D} {vs : List V} (n : Nat), RelDs C H S ds vs → RelDs C H S (ds.drop n) (vs.drop n)
  | ds, vs, 0, h => h
  | [], _, n + 1, h => by unfold RelDs at h; rw [h]; exact RelDs.nil
  | d :: ds, _, n + 1, h => by unfold RelDs at h; obtain ⟨v, r, rfl, h1, h2⟩ := h; exact RelDs.drop n h2
theorem RelDs.take : ∀ {ds : List D} {vs : List V} (n : Nat), RelDs C H S ds vs → RelDs C H S (ds.take n) (vs.take n)
  | ds, vs, 0, h => RelDs.nil
  | [], _, n + 1, h => by unfold RelDs at h; rw [h]; exact RelDs.nil
  | d :: ds, _, n + 1, h => by unfold RelDs at h; obtain ⟨v, r, rfl, h1, h2⟩ := h; exact RelDs.cons h1 (RelDs.take n h2)
theorem RelDs.get : ∀ {ds : List D} {vs : List V} {i : Nat} {d : D}, RelDs C H S ds vs → ds[i]? = some d → ∃ v, vs[i]? = some v ∧ RelD C H S d v
  | [], _, i, d, h, e => by simp at e
  | d' :: ds, _, 0, d, h, e => by unfold RelDs at h; obtain ⟨v, r, rfl, h1, h2⟩ := h; simp at e; subst e; exact ⟨v, rfl, h1⟩
  | d' :: ds, _, i + 1, d, h, e => by
    unfold RelDs at h; obtain ⟨v, r, rfl, h1, h2⟩ := h
    obtain ⟨w, h3, h4⟩ := RelDs.get (i := i) (d := d) h2 (by simpa using e)
    exact ⟨w, by simpa using h3, h4⟩
theorem RelDs.set : ∀ {ds : List D} {vs : List V} (i : Nat) {d : D} {v : V}, RelDs C H S ds vs → RelD C H S d v → RelDs C H S (ds.set i d) (vs.set i v)
  | [], _, i, d, v, h, e => by unfold RelDs at h; rw [h]; exact RelDs.nil
  | d' :: ds, _, 0, d, v, h, e => by unfold RelDs at h; obtain ⟨w, r, rfl, h1, h2⟩ := h; exact RelDs.cons e h2
  | d' :: ds, _, i + 1, d, v, h, e => by unfold RelDs at h; obtain ⟨w, r, rfl, h1, h2⟩ := h; exact RelDs.cons h1 (RelDs.set i h2 e)
theorem RelDs.atI {ds : List D} {vs : List V} {i : Int} {d : D} (h : RelDs C H S ds vs) (e : L2.atI ds i = some d) : ∃ v, L2.atI vs i = some v ∧ RelD C H S d v := by
  unfold L2.atI at e ⊢
  rw [h.len]
  cases q : ixN ds.length i with
  | none => rw [q] at e; cases e
  | some j =>
    rw [q] at e
    exact h.get (show ds[j]? = some d from e)
theorem RelDs.cut {ds : List D} {vs : List V} (lo hi : Option Int) (h : RelDs C H S ds vs) : RelDs C H S (cutD ds lo hi) (cutV vs lo hi) := by
  unfold cutD cutV
  rw [h.len]
  exact (h.drop _).take _
/-- a list: frozen or in the store -/
theorem listOf_sq (rp : Rp C H S) {d : D} {v : V} {ds : List D} (r : RelD C H S d v) (e : listOf S d = some ds) : ∃ a vs, v = .ref a ∧ H a = some (.lst vs) ∧ RelDs C H S ds vs := by
  cases d with
  | lst es =>
    cases e
    unfold RelD at r
    obtain ⟨a, vs, rfl, f, q⟩ := r
    exact ⟨a, vs, rfl, f.1, q⟩
  | ref a =>
    unfold RelD at r
    subst r
    obtain ⟨o, h1, h2⟩ := rp.obj a _ (lstAt_some (show lstAt S a = some ds from e))
    obtain ⟨vs, rfl, q⟩ := h2
    exact ⟨a, vs, rfl, h1, q⟩
  | _ => cases e
theorem seqOf_sq (rp : Rp C H S) {d : D} {v : V} {ds : List D} (r : RelD C H S d v) (e : seqOf S d = some ds) : ∃ a vs, v = .ref a ∧ (SqL C.K H a vs ∨ SqT C.K H a vs) ∧ RelDs C H S ds vs := by
  cases d with
  | lst es =>
    cases e
    unfold RelD at r
    obtain ⟨a, vs, rfl, f, q⟩ := r
    exact ⟨a, vs, rfl, .inl f.sq, q⟩
  | tup es =>
    cases e
    unfold RelD at r
    obtain ⟨a, vs, rfl, f, q⟩ := r
    exact ⟨a, vs, rfl, .inr f.sq, q⟩
  | ref a =>
    unfold RelD at r
    subst r
    obtain ⟨o, h1, h2⟩ := rp.obj a _ (lstAt_some (show lstAt S a = some ds from e))
    obtain ⟨vs, rfl, q⟩ := h2
    exact ⟨a, vs, rfl, .inl (.of h1), q⟩
  | _ => cases e
theorem RelD.strOk {x : Str} {v : V} (r : RelD C H S (.str x) v) : PySem.PyData.strOk x = true := by unfold RelD at r; exact r.2
mutual
theorem toPy_dp : ∀ {d : D} {v : V}, RelD C H S d v → pureD d = true → Dp C.K H v (toPy d) ∧ (toPy d).canLay0 = true ∧ (toPy d).depth = dep d
  | .non, _, h, e => by unfold RelD at h; subst h; exact ⟨.non, rfl, rfl⟩
  | .bl b, _, h, e => by unfold RelD at h; subst h; exact ⟨.bl b, rfl, rfl⟩
  | .int b, _, h, e => by unfold RelD at h; subst h; exact ⟨.int b, rfl, rfl⟩
  | .str b, _, h, e => by unfold RelD at h; obtain ⟨rfl, h⟩ := h; exact ⟨.str b, by unfold toPy PyData.canLay0; exact h, rfl⟩
  | .ty _, _, h, e => by unfold pureD at e; cases e
  | .ref _, _, h, e => by unfold pureD at e; cases e
  | .scr _, _, h, e => by unfold pureD at e; cases e
  | .tup ds, _, h, e => by
    unfold RelD at h; unfold pureD at e
    obtain ⟨a, vs, rfl, f, q⟩ := h
    obtain ⟨h1, h2, h3⟩ := toPys_dp q e
    unfold toPy dep
    refine ⟨.tup f.sq h1, by unfold PyData.canLay0; exact h2, ?_⟩
    unfold PyData.depth; rw [h3]
  | .lst ds, _, h, e => by
    unfold RelD at h; unfold pureD at e
    obtain ⟨a, vs, rfl, f, q⟩ := h
    obtain ⟨h1, h2, h3⟩ := toPys_dp q e
    unfold toPy dep
    refine ⟨.lst f.sq h1, by unfold PyData.canLay0; exact h2, ?_⟩
    unfold PyData.depth; rw [h3]
theorem toPys_dp : ∀ {ds : List D} {vs : List V}, RelDs C H S ds vs → pureDs ds = true → DpAll C.K H vs (toPys ds) ∧ PyData.canLayAll0 (toPys ds) = true ∧ PyData.depthAll (toPys ds) = deps ds
  | [], _, h, e => by unfold RelDs at h; subst h; exact ⟨.nil, rfl, rfl⟩
  | d :: ds, _, h, e => by
    unfold RelDs at h; unfold pureDs at e
    obtain ⟨v, r, rfl, h1, h2⟩ := h
    obtain ⟨e1, e2⟩ := Bool.and_eq_true_iff.mp e
    obtain ⟨a1, a2, a3⟩ := toPy_dp h1 e1
    obtain ⟨b1, b2, b3⟩ := toPys_dp h2 e2
    unfold toPys deps
    refine ⟨.cons a1 b1, by unfold PyData.canLayAll0; rw [a2, b2]; rfl, by unfold PyData.depthAll; rw [a3, b3]⟩
end
theorem top_dp (rp : Rp C H S) {d : D} {v : V} (r : RelD C H S d v) (e : pureD (top S d) = true) : Dp C.K H v (toPy (top S d)) ∧ (toPy (top S d)).canLay0 = true ∧ (toPy (top S d)).depth = dep (top S d) := by
  cases d with
  | ref a =>
    unfold RelD at r
    subst r
    cases h : lstAt S a with
    | none =>
      have q : top S (.ref a) = .ref a := by simp only [top, h]
      rw [q] at e; unfold pureD at e; cases e
    | some ds =>
      have q : top S (.ref a) = .lst ds := by simp only [top, h]
      rw [q] at e ⊢
      unfold pureD at e
      obtain ⟨o, h2, h3⟩ := rp.obj a _ (lstAt_some h)
      obtain ⟨vs, rfl, z⟩ := h3
      obtain ⟨h1, h4, h5⟩ := toPys_dp z e
      unfold toPy dep
      refine ⟨.lst (.of h2) h1, by unfold PyData.canLay0; exact h4, ?_⟩
      unfold PyData.depth; rw [h5]
  | _ => exact toPy_dp r e
theorem flat_rel {d : D} {v : V} (r : RelD C H S d v) (f : flat d = true) : flatV v = true := by
  cases d with
  | non => unfold RelD at r; subst r; rfl
  | bl b => unfold RelD at r; subst r; rfl
  | int b => unfold RelD at r; subst r; rfl
  | str b => unfold RelD at r; rw [r.1]; rfl
  | _ => cases f
theorem flat_eq {d e : D} {v w : V} (r : RelD C H S d v) (q : RelD C H S e w) (f : flat d = true) (g : flat e = true) : eqV v w = deq d e := by
  cases d with
  | non => cases e with
    | non => unfold RelD at r q; subst r q; rfl
    | bl b => unfold RelD at r q; subst r q; rfl
    | int b => unfold RelD at r q; subst r q; rfl
    | str b => unfold RelD at r q; rw [r, q.1]; rfl
    | _ => cases g
  | bl b => cases e with
    | non => unfold RelD at r q; subst r q; rfl
    | bl b => unfold RelD at r q; subst r q; rfl
    | int b => unfold RelD at r q; subst r q; rfl
    | str b => unfold RelD at r q; rw [r, q.1]; rfl
    | _ => cases g
  | int b => cases e with
    | non => unfold RelD at r q; subst r q; rfl
    | bl b => unfold RelD at r q; subst r q; rfl
    | int b => unfold RelD at r q; subst r q; rfl
    | str b => unfold RelD at r q; rw [r, q.1]; rfl
    | _ => cases g
  | str b => cases e with
    | non => unfold RelD at r q; rw [r.1, q]; rfl
    | bl b => unfold RelD at r q; rw [r.1, q]; rfl
    | int b => unfold RelD at r q; rw [r.1, q]; rfl
    | str b => unfold RelD at r q; rw [r.1, q.1]; rfl
    | _ => cases g
  | _ => cases f
theorem flats_in {x : D} {v : V} (r : RelD C H S x v) (f : flat x = true) : ∀ {ds : List D} {vs : List V}, RelDs C H S ds vs → ds.all flat = true → vs.all flatV = true ∧ inV v vs = ds.any fun z => deq z x
  | [], _, h, _ => by unfold RelDs at h; subst h; exact ⟨rfl, rfl⟩
  | d :: ds, _, h, e => by
    unfold RelDs at h
    obtain ⟨w, l, rfl, h1, h2⟩ := h
    rw [List.all_cons] at e
    obtain ⟨e1, e2⟩ := Bool.and_eq_true_iff.mp e
    obtain ⟨a1, a2⟩ := flats_in r f h2 e2
    refine ⟨by rw [List.all_cons, flat_rel h1 e1, a1]; rfl, ?_⟩
    unfold inV at a2 ⊢
    rw [List.any_cons, List.any_cons, a2, flat_eq h1 r e1 f]
end
theorem g?_some {α : Type} {c : Prop} [Decidable c] {r r' : α} (h : g? c r = some r') : c ∧ r = r' := by
  unfold g? at h
  split at h
  · rename_i q; exact ⟨q, Option.some.inj h⟩
  · cases h
theorem rel_int {C : Cc} {H : Hp} {S : Sto} {i : Int} {v : V} (r : RelD C H S (.int i) v) : v = .int i := by unfold RelD at r; exact r
theorem rel_str {C : Cc} {H : Hp} {S : Sto} {i : Str} {v : V} (r : RelD C H S (.str i) v) : v = .str i := by unfold RelD at r; exact r.1
theorem mk_int {C : Cc} {H : Hp} {S : Sto} {i : Int} : RelD C H S (.int i) (.int i) := by unfold RelD; rfl
theorem mk_bl {C : Cc} {H : Hp} {S : Sto} {i : Bool} : RelD C H S (.bl i) (.bl i) := by unfold RelD; rfl
theorem mk_non {C : Cc} {H : Hp} {S : Sto} : RelD C H S .non .non := by unfold RelD; rfl
theorem mk_str {C : Cc} {H : Hp} {S : Sto} {i : Str} (h : PySem.PyData.strOk i = true) : RelD C H S (.str i) (.str i) := by unfold RelD; exact ⟨rfl, h⟩
theorem strOk_iff {x : Str} : PySem.PyData.strOk x = true ↔ ∀ c ∈ x.cps.toList, c < 0x110000 := by
  show x.cps.all (fun c => decide (c < 0x110000)) = true ↔ _
  rw [← Array.all_toList, List.all_eq_true]
  simp
theorem strOk_app {x y : Str} (h1 : PySem.PyData.strOk x = true) (h2 : PySem.PyData.strOk y = true) : PySem.PyData.strOk (x ++ y) = true := by
  rw [strOk_iff] at *
  intro c hc
  have e : (x ++ y).cps = x.cps ++ y.cps := rfl
  rw [e, Array.toList_append, List.mem_append] at hc
  rcases hc with hc | hc
  · exact h1 c hc
  · exact h2 c hc
theorem strOk_sign {x : Str} {c : Nat} (h : PySem.PyData.strOk x = true) (hc : c ∈ x.cps.toList) : PySem.PyData.strOk ⟨#[c]⟩ = true := by
  rw [strOk_iff] at *
  intro d hd
  have : d = c := by simpa using hd
  rw [this]; exact h c hc
theorem strOk_cut {x : Str} (lo hi : Option Int) (h : PySem.PyData.strOk x = true) : PySem.PyData.strOk (cutS x lo hi) = true := by
  rw [strOk_iff] at *
  intro c hc
  unfold cutS at hc
  exact h c (List.mem_of_mem_drop (List.mem_of_mem_take (by simpa using hc)))
theorem atI_mem {α : Type} {l : List α} {i : Int} {c : α} (h : atI l i = some c) : c ∈ l := by
  unfold atI at h
  obtain ⟨j, _, h⟩ := Option.bind_eq_some_iff.mp h
  exact List.mem_of_getElem? h
section
variable {X : Cx} {ga : Str → Addr} {Z : Addr → Prop}
theorem foldl_app {α : Type} : ∀ (l : List (Array α)) (a : Array α), (l.foldl (· ++ ·) a).toList = a.toList ++ (l.map Array.toList).flatten
  | [], a => by simp
  | b :: l, a => by
    rw [List.foldl_cons, foldl_app l]
    simp
theorem repS_list (x : Str) (n : Nat) : (repS x n).cps.toList = (List.replicate n x.cps.toList).flatten := by
  unfold repS
  rw [foldl_app]
  simp
theorem repS_ok {x : Str} {n : Nat} (h : PySem.PyData.strOk x = true) : PySem.PyData.strOk (repS x n) = true := by
  unfold PySem.PyData.strOk at h ⊢
  rw [← Array.all_toList] at h ⊢
  rw [repS_list]
  rw [List.all_eq_true] at h ⊢
  intro c hc
  obtain ⟨l, h1, h2⟩ := List.mem_flatten.mp hc
  rw [(List.mem_replicate.mp h1).2] at h2
  exact h c h2
theorem rel_reps {C : Cc} {H : Hp} {S : Sto} {ds : List D} {vs : List V} (r : RelDs C H S ds vs) : ∀ n : Nat, RelDs C H S (List.replicate n ds).flatten (List.replicate n vs).flatten
  | 0 => RelDs.nil
  | n + 1 => by
    rw [List.replicate_succ, List.replicate_succ, List.flatten_cons, List.flatten_cons]
    exact r.app (rel_reps r n)
theorem mul_strR {pins : List (Addr × Obj)} {s : Shared} {σ : St} {H : Hp} {z : Str} {n : Int} {v u : Value} {Q : VK} (I : Inv X pins σ H s) (rx : RelV (.str z) v) (ry : RelV (.int n) u) (h1 : 1 ≤ n) (h2 : n ≤ 1000) (h3 : z.length ≤ 1000) (q : Q (.str (repS z n.toNat)) H) : wpAny (model X.prog X.w) X.A (binaryOp .Mult v u) (EP X pins σ Q) X.xe s := by
  obtain ⟨t, rfl⟩ := rx
  obtain ⟨t', rfl⟩ := ry
  have hz : z.length * n.toNat ≤ 1000000 := Nat.mul_le_mul h3 (show n.toNat ≤ 1000 by omega)
  refine P.mul_str ?_ (fun _ _ hb => ?_) (fun _ _ => ?_) ?_
  · rw [decide_eq_false (by omega), decide_eq_false (by omega)]; rfl
  · have : (1000 : Int) ≤ (2 ^ 63 - 1) / n := (Int.le_ediv_iff_mul_le (by omega)).mpr (by omega)
    omega
  · unfold PySem.Builtin.Str.tooLong
    exact decide_eq_false (by have : sizeLine = 16777216 := rfl; omega)
  · rw [if_neg (by omega)]
    split
    · rename_i hc
      have e : repS z n.toNat = z := by
        have hl : (repS z n.toNat).cps.toList = z.cps.toList := by
          rw [repS_list]
          rcases Bool.or_eq_true_iff.mp hc with h | h
          · have : n = 1 := by simpa using h
            subst this
            simp
          · have h : z.length = 0 := by simpa using h
            have : z.cps.toList = [] := List.length_eq_zero_iff.mp (by simpa [Str.length] using h)
            rw [this]
            simp
        have : (repS z n.toNat).cps = z.cps := Array.toList_inj.mp hl
        cases z
        unfold repS at this ⊢
        exact congrArg Str.mk this
      rw [e] at q
      exact ⟨.str z, H, I, ⟨_, rfl⟩, q⟩
    · refine ⟨?_, .str _, H, I.tok _, ⟨_, rfl⟩, q⟩
      show (repS z n.toNat).length ≤ sizeLine
      have e : (repS z n.toNat).length = (repS z n.toNat).cps.toList.length := by simp [Str.length]
      rw [e, repS_list]
      simp only [List.length_flatten, List.map_replicate, List.sum_replicate_nat, Array.length_toList]
      have : sizeLine = 16777216 := rfl
      have hz' : z.cps.size * n.toNat ≤ 1000000 := hz
      rw [Nat.mul_comm] at hz'
      omega
theorem binOk (o : Operator) (m : Bool) : OpR X (binaryOp o) (rD2 (cc X ga Z) fun u v S k => ∃ r, binR o u v S = some r ∧ fin m r S k) := by
  intro pins s σ H x y v u Q I rx ry h
  obtain ⟨d, e, S, rp, r1, r2, r, hb, hf⟩ := h
  unfold binR at hb
  split at hb
  · cases hb; cases rel_int r1; cases rel_int r2
    exact op_add pins s σ H _ _ v u Q I rx ry ⟨_, _, rfl, rfl, kD_val rp hf mk_int⟩
  · cases hb; cases rel_int r1; cases rel_int r2
    exact op_sub pins s σ H _ _ v u Q I rx ry ⟨_, _, rfl, rfl, kD_val rp hf mk_int⟩
  · obtain ⟨c, rfl⟩ := g?_some hb; cases rel_int r1; cases rel_int r2
    exact op_mul pins s σ H _ _ v u Q I rx ry ⟨_, _, rfl, rfl, c, kD_val rp hf mk_int⟩
  · obtain ⟨c, rfl⟩ := g?_some hb; cases rel_int r1; cases rel_int r2
    exact op_fdiv pins s σ H _ _ v u Q I rx ry ⟨_, _, rfl, rfl, c, kD_val rp hf mk_int⟩
  · obtain ⟨c, rfl⟩ := g?_some hb; cases rel_int r1; cases rel_int r2
    exact op_mod pins s σ H _ _ v u Q I rx ry ⟨_, _, rfl, rfl, c, kD_val rp hf mk_int⟩
  · obtain ⟨c, rfl⟩ := g?_some hb; cases rel_int r1; cases rel_int r2
    exact op_pow pins s σ H _ _ v u Q I rx ry ⟨_, _, rfl, rfl, c, kD_val rp hf mk_int⟩
  · obtain ⟨c, rfl⟩ := g?_some hb
    have q1 := r1.strOk; have q2 := r2.strOk
    cases rel_str r1; cases rel_str r2
    exact op_add_str pins s σ H _ _ v u Q I rx ry ⟨_, _, rfl, rfl, c, kD_val rp hf (mk_str (strOk_app q1 q2))⟩
  · rename_i ds es
    obtain ⟨c, rfl⟩ := g?_some hb
    unfold RelD at r1 r2
    obtain ⟨a, vs, rfl, f1, q1⟩ := r1
    obtain ⟨b, ws, rfl, f2, q2⟩ := r2
    refine op_catA pins s σ H _ _ v u Q I rx ry ⟨a, b, vs, ws, rfl, rfl, f1.sq, f2.sq, by rw [q1.len, q2.len]; exact c, fun e => ?_, fun _ e => ?_, fun _ _ => kD_tup rp hf (q1.app q2)⟩
    · refine kD_val rp hf ?_
      subst e
      have n : ds = [] := List.length_eq_zero_iff.mp (by rw [← q1.len]; rfl)
      subst n
      unfold RelD
      exact ⟨b, ws, rfl, f2, q2⟩
    · refine kD_val rp hf ?_
      subst e
      have n : es = [] := List.length_eq_zero_iff.mp (by rw [← q2.len]; rfl)
      subst n
      rw [List.append_nil]
      unfold RelD
      exact ⟨a, vs, rfl, f1, q1⟩
  · split at hb
    · rename_i ds es e1 e2
      obtain ⟨c, rfl⟩ := g?_some hb
      obtain ⟨a, vs, rfl, h1, q1⟩ := listOf_sq rp r1 e1
      obtain ⟨b, ws, rfl, h2, q2⟩ := listOf_sq rp r2 e2
      exact op_cat pins s σ H _ _ v u Q I rx ry ⟨a, b, vs, ws, rfl, rfl, h1, h2, by rw [q1.len, q2.len]; exact c, fin_new rp hf (q1.app q2)⟩
    · cases hb
  · obtain ⟨⟨c1, c2, c3⟩, rfl⟩ := g?_some hb
    have q1 := r1.strOk
    cases rel_str r1; cases rel_int r2
    exact mul_strR I rx ry c1 c2 c3 (kD_val rp hf (mk_str (repS_ok q1)))
  · split at hb
    · rename_i n _ _ _ ds e1
      obtain ⟨⟨c1, c2, c3⟩, rfl⟩ := g?_some hb
      obtain ⟨a, vs, rfl, h1, q1⟩ := listOf_sq rp r1 e1
      cases rel_int r2
      have hm : ds.length * n.toNat ≤ 1000000 := Nat.mul_le_mul c3 (show n.toNat ≤ 1000 by omega)
      exact op_rep pins s σ H _ _ v u Q I rx ry ⟨a, _, vs, rfl, rfl, h1, by omega, by omega, by rw [q1.len]; exact Nat.le_trans hm (by decide), fin_new rp hf (rel_reps q1 _)⟩
    · cases hb
  · cases hb
theorem un_rel {C : Cc} {H : Hp} {S : Sto} {d : D} {v : V} (h : RelD C H S d v) : d = .non ↔ v = .non := by
  cases d with
  | non => unfold RelD at h; simp [h]
  | str x => unfold RelD at h; rw [h.1]; simp
  | tup x => unfold RelD at h; obtain ⟨a, vs, rfl, _⟩ := h; simp
  | lst x => unfold RelD at h; obtain ⟨a, vs, rfl, _⟩ := h; simp
  | scr x => unfold RelD at h; obtain ⟨a, rfl, _⟩ := h; simp
  | _ => unfold RelD at h; rw [h]; simp
theorem tops_dp {C : Cc} {H : Hp} {S : Sto} (rp : Rp C H S) : ∀ {ds : List D} {vs : List V}, RelDs C H S ds vs → pureDs (ds.map (top S)) = true → DpAll C.K H vs (toPys (ds.map (top S))) ∧ PyData.canLayAll0 (toPys (ds.map (top S))) = true
  | [], _, h, _ => by unfold RelDs at h; subst h; exact ⟨.nil, rfl⟩
  | d :: ds, _, h, e => by
    unfold RelDs at h
    obtain ⟨v, r, rfl, h1, h2⟩ := h
    rw [List.map_cons] at e ⊢
    unfold pureDs at e
    obtain ⟨e1, e2⟩ := Bool.and_eq_true_iff.mp e
    obtain ⟨a1, a2, a3⟩ := top_dp rp h1 e1
    obtain ⟨b1, b2⟩ := tops_dp rp h2 e2
    unfold toPys
    exact ⟨.cons a1 b1, by unfold PyData.canLayAll0; rw [a2, b2]; rfl⟩
theorem eqOk (hu : X.A.units + 64 < cLine) {C : Cc} (hC : C.K = X.K) {pins : List (Addr × Obj)} {s : Shared} {σ : St} {H : Hp} {S : Sto} {d e : D} {x y : V} {v u : Value} {b : Bool} {Q : VK} (I : Inv X pins σ H s) (rx : RelV x v) (ry : RelV y u) (rp : Rp C H S)
    (r1 : RelD C H S d x) (r2 : RelD C H S e y) (h : eqR d e S = some b) : (Q (.bl b) H → wpAny (model X.prog X.w) X.A (compareOp .Eq v u) (EP X pins σ Q) X.xe s) ∧ (Q (.bl (!b)) H → wpAny (model X.prog X.w) X.A (compareOp .NotEq v u) (EP X pins σ Q) X.xe s) := by
  unfold eqR at h
  cases h0 : eqR0 d e S with
  | some b0 =>
    rw [h0] at h
    cases h
    obtain ⟨⟨p1, p2, p3⟩, rfl⟩ := g?_some h0
    obtain ⟨a1, a2, a3⟩ := top_dp rp r1 p1
    obtain ⟨b1, b2, b3⟩ := top_dp rp r2 p2
    rw [hC] at a1 b1
    obtain ⟨as, c1⟩ := Dp.reads I _ x v a1 rx
    obtain ⟨bs, c2⟩ := Dp.reads I _ y u b1 ry
    have hw : X.A.units + min (toPy (top S d)).depth (toPy (top S e)).depth < cLine := by rw [a3, b3]; omega
    exact ⟨fun q => SeqAt.compareEq_reads c1 c2 a2 b2 hw ⟨.bl _, H, I, rfl, q⟩, fun q => SeqAt.compareNe_reads c1 c2 a2 b2 hw ⟨.bl _, H, I, rfl, q⟩⟩
  | none =>
    rw [h0] at h
    replace h : nilR d e S = some b := h
    unfold nilR at h
    split at h
    · rename_i a
      cases hl : lstAt S a with
      | none => rw [hl] at h; cases h
      | some ds =>
        rw [hl] at h
        obtain ⟨pp, rfl⟩ := g?_some (show g? (pureDs (ds.map (top S)) = true) ds.isEmpty = some b from h)
        unfold RelD at r1
        subst r1
        obtain ⟨o, h2, h3⟩ := rp.obj a _ (lstAt_some hl)
        obtain ⟨vs, rfl, z⟩ := h3
        obtain ⟨d1, d2⟩ := tops_dp rp z pp
        obtain ⟨b1, b2, b3⟩ := toPy_dp r2 (show pureD (.lst []) = true from rfl)
        have a1 : Dp C.K H (.ref a) (toPy (.lst (ds.map (top S)))) := .lst (.of h2) d1
        rw [hC] at a1 b1
        have a2 : (toPy (.lst (ds.map (top S)))).canLay0 = true := by unfold toPy PyData.canLay0; exact d2
        obtain ⟨as, c1⟩ := Dp.reads I _ _ v a1 rx
        obtain ⟨bs, c2⟩ := Dp.reads I _ y u b1 ry
        have hw : X.A.units + min (toPy (.lst (ds.map (top S)))).depth (toPy (.lst [])).depth < cLine := by
          have : (toPy (.lst [])).depth = 1 := by rw [b3]; rfl
          omega
        have ev : PyData.eqv (toPy (.lst (ds.map (top S)))) (toPy (.lst [])) = ds.isEmpty := by cases ds <;> rfl
        refine ⟨fun q => SeqAt.compareEq_reads c1 c2 a2 b2 hw ⟨.bl _, H, I, rfl, ?_⟩, fun q => SeqAt.compareNe_reads c1 c2 a2 b2 hw ⟨.bl _, H, I, rfl, ?_⟩⟩
        · rw [ev]; exact q
        · rw [ev]; exact q
    · cases h
theorem keyOf_rel {C : Cc} {H : Hp} {S : Sto} {i : D} {w : V} {k : Key} (r : RelD C H S i w) (h : keyOf i = some k) : w = kV k := by
  cases i with
  | int i => cases h; exact rel_int r
  | str x => cases h; exact rel_str r
  | _ => cases h
theorem keysOf_rel {C : Cc} {H : Hp} {S : Sto} : ∀ {ds : List D} {vs : List V} {ks : List Key}, RelDs C H S ds vs → keysOf ds = some ks → vs = ks.map kV
  | [], _, _, r, h => by unfold RelDs at r; subst r; cases h; rfl
  | d :: ds, _, _, r, h => by
    unfold RelDs at r
    obtain ⟨v, t, rfl, r1, r2⟩ := r
    unfold keysOf at h
    split at h
    · rename_i k ks h1 h2
      cases h
      rw [keyOf_rel r1 h1, keysOf_rel r2 h2]; rfl
    · cases h
theorem keyT_rel {C : Cc} {H : Hp} {S : Sto} {i : D} {w : V} {ks : List Key} (r : RelD C H S i w) (h : keyT i = some ks) : ∃ b, w = .ref b ∧ H b = some (.tup (ks.map kV)) := by
  cases i with
  | tup ds =>
    unfold RelD at r
    obtain ⟨a, vs, rfl, f, z⟩ := r
    exact ⟨a, rfl, by rw [← keysOf_rel z h]; exact f.1⟩
  | _ => cases h
theorem prs_rel : ∀ {kvs : List (List Key × D)} {l : List (Str × Str)}, prsOf kvs = some l → kvs.map (·.1) = l.map (fun y => [Sum.inr y.1, Sum.inr y.2])
  | [], _, h => by cases h; rfl
  | (k, d) :: r, l, h => by
    unfold prsOf at h
    split at h
    · rename_i e; cases e
    · rename_i x y _ _ e
      cases e
      split at h
      · rename_i l' h'
        cases h
        rw [List.map_cons, List.map_cons, prs_rel h']
      · cases h
    · cases h
theorem rel_prs {C : Cc} {H : Hp} {S : Sto} (rp : Rp C H S) : ∀ {ys : List (Str × Str)} {qs : List Addr}, ys.all prOk = true → IsPairs H ys qs → RelDs C H S (ys.map prD) (qs.map V.ref)
  | [], [], _, _ => RelDs.nil
  | [], _ :: _, _, h => by have := h.1; simp at this
  | _ :: _, [], _, h => by have := h.1; simp at this
  | y :: ys, q :: qs, ok, h => by
    rw [List.all_cons] at ok
    obtain ⟨o1, o2⟩ := Bool.and_eq_true_iff.mp ok
    obtain ⟨o3, o4⟩ := Bool.and_eq_true_iff.mp o1
    have hq := h.2 0 y q rfl rfl
    have sn : S q = none := by
      cases e : S q with
      | none => rfl
      | some m =>
        obtain ⟨o, h1, h2⟩ := rp.obj q m e
        rw [hq] at h1
        cases h1
        cases m with
        | lst ds => obtain ⟨_, z, _⟩ := h2; cases z
        | dct ds => obtain ⟨_, z, _⟩ := h2; cases z
        | dcT ds => obtain ⟨_, z, _⟩ := h2; cases z
        | ins c fs => obtain ⟨_, _, z, _⟩ := h2; cases z
        | ldc o ks kvs => obtain ⟨z, _⟩ := h2; cases z
    refine RelDs.cons ?_ (rel_prs rp o2 ⟨by have := h.1; simpa using this, fun i y' b h1 h2 => h.2 (i + 1) y' b (by simpa using h1) (by simpa using h2)⟩)
    unfold prD RelD
    exact ⟨q, _, rfl, ⟨hq, sn⟩, RelDs.cons (mk_str o3) (RelDs.cons (mk_str o4) RelDs.nil)⟩
theorem dGet_ok {C : Cc} {H : Hp} {S : Sto} {x i : D} {v w : V} {o : Option D} (rp : Rp C H S) (r1 : RelD C H S x v) (r2 : RelD C H S i w) (h : dGet S x i = some o) :
    ∃ a ov, v = .ref a ∧ DGet H a w ov ∧ ov.isSome = o.isSome ∧ (∀ d, o = some d → ∃ z, ov = some z ∧ RelD C H S d z) := by
  cases x with
  | ref a =>
    unfold RelD at r1
    subst r1
    have h : (match S a with
      | some (.dct kvs) => (keyOf i).map (gv kvs)
      | some (.ldc _ _ kvs) => (keyOf i).map (gv kvs)
      | some (.dcT kvs) => (keyT i).map (gv kvs)
      | _ => none) = some o := h
    split at h
    · rename_i kvs hS
      obtain ⟨k, h1, rfl⟩ := Option.map_eq_some_iff.mp h
      obtain ⟨ob, h2, h3⟩ := rp.obj a _ hS
      obtain ⟨l, rfl, rk⟩ := h3
      cases keyOf_rel r2 h1
      exact ⟨a, _, rfl, DGet.k h2, rk.isSome, fun d e => rk.some e⟩
    · rename_i od ks kvs hS
      obtain ⟨k, h1, rfl⟩ := Option.map_eq_some_iff.mp h
      obtain ⟨ob, h2, h3⟩ := rp.obj a _ hS
      obtain ⟨rfl, rk⟩ := h3
      cases keyOf_rel r2 h1
      exact ⟨a, _, rfl, .inl ⟨ks, k, .inr ⟨od, h2⟩, rfl, rfl⟩, rk.isSome, fun d e => rk.some e⟩
    · rename_i kvs hS
      obtain ⟨k, h1, rfl⟩ := Option.map_eq_some_iff.mp h
      obtain ⟨ob, h2, h3⟩ := rp.obj a _ hS
      obtain ⟨l, rfl, rk⟩ := h3
      obtain ⟨b, rfl, hb⟩ := keyT_rel r2 h1
      exact ⟨a, _, rfl, DGet.t h2 hb, rk.isSome, fun d e => rk.some e⟩
    · cases h
  | _ => cases h
theorem inOk (hu : X.A.units + 64 < cLine) {C : Cc} (hC : C.K = X.K) {pins : List (Addr × Obj)} {s : Shared} {σ : St} {H : Hp} {S : Sto} {d e : D} {x y : V} {v u : Value} {b : Bool} {Q : VK} (I : Inv X pins σ H s) (rx : RelV x v) (ry : RelV y u) (rp : Rp C H S)
    (r1 : RelD C H S d x) (r2 : RelD C H S e y) (h : inR d e S = some b) : (Q (.bl b) H → wpAny (model X.prog X.w) X.A (compareOp .In v u) (EP X pins σ Q) X.xe s) ∧ (Q (.bl (!b)) H → wpAny (model X.prog X.w) X.A (compareOp .NotIn v u) (EP X pins σ Q) X.xe s) := by
  unfold inR at h
  split at h
  · rename_i z y
    split at h
    · rename_i c hc
      cases h
      cases rel_str r1; cases rel_str r2
      have ez : z = ⟨#[c]⟩ := by
        obtain ⟨cs⟩ := z
        exact congrArg Str.mk (Array.ext' hc)
      subst ez
      exact ⟨fun q => op_in_sign pins s σ H _ _ v u Q I rx ry ⟨c, _, rfl, rfl, q⟩, fun q => op_notIn_sign pins s σ H _ _ v u Q I rx ry ⟨c, _, rfl, rfl, q⟩⟩
    · cases h
  · split at h
    · rename_i ds hs
      obtain ⟨⟨p1, p2⟩, rfl⟩ := g?_some h
      obtain ⟨a, vs, rfl, h1, q1⟩ := seqOf_sq rp r2 hs
      rw [hC] at h1
      obtain ⟨f1, f2⟩ := flats_in r1 p1 q1 p2
      have f0 := flat_rel r1 p1
      exact ⟨fun q => op_in_seq pins s σ H _ _ v u Q I rx ry ⟨a, vs, rfl, h1, f0, f1, by rw [f2]; exact q⟩, fun q => op_notIn_seq pins s σ H _ _ v u Q I rx ry ⟨a, vs, rfl, h1, f0, f1, by rw [f2]; exact q⟩⟩
    · obtain ⟨o, h1, rfl⟩ := Option.map_eq_some_iff.mp h
      obtain ⟨a, ov, rfl, g, e, _⟩ := dGet_ok rp r2 r1 h1
      cases (show u = Value.ref a from ry)
      exact ⟨fun q => d_in (by omega) I g rx fun s' I' => ⟨.bl _, H, I', by rw [e]; rfl, q⟩, fun q => d_notIn (by omega) I g rx fun s' I' => ⟨.bl _, H, I', by rw [e]; rfl, q⟩⟩
theorem isOk {C : Cc} {pins : List (Addr × Obj)} {s : Shared} {σ : St} {H : Hp} {S : Sto} {d e : D} {x y : V} {v u : Value} {b : Bool} {Q : VK} (I : Inv X pins σ H s) (rx : RelV x v) (ry : RelV y u)
    (r1 : RelD C H S d x) (r2 : RelD C H S e y) (h : isR d e = some b) : (Q (.bl b) H → wpAny (model X.prog X.w) X.A (compareOp .Is v u) (EP X pins σ Q) X.xe s) ∧ (Q (.bl (!b)) H → wpAny (model X.prog X.w) X.A (compareOp .IsNot v u) (EP X pins σ Q) X.xe s) := by
  by_cases hn : e = .non
  · subst hn
    have hy : y = .non := (un_rel r2).mp rfl
    have hb : b = decide (x = .non) := by
      have w := un_rel r1
      unfold isR at h
      split at h
      · cases h; exact (decide_eq_true (w.mp rfl)).symm
      all_goals first
        | (cases h; exact (decide_eq_false fun z => nomatch w.mpr z).symm)
        | (rename_i q; cases q)
        | cases h
    subst hb
    exact ⟨fun q => op_isN pins s σ H _ _ v u Q I rx ry ⟨hy, q⟩, fun q => op_notN pins s σ H _ _ v u Q I rx ry ⟨hy, q⟩⟩
  · unfold isR at h
    split at h
    all_goals first
      | exact absurd rfl hn
      | cases h
    rename_i a c
    unfold RelD at r1 r2
    subst r1 r2
    exact ⟨fun q => op_isBl pins s σ H _ _ v u Q I rx ry ⟨a, c, rfl, rfl, q⟩, fun q => op_notBl pins s σ H _ _ v u Q I rx ry ⟨a, c, rfl, rfl, q⟩⟩
theorem cmpOk (hu : X.A.units + 64 < cLine) (o : CmpOp) : OpR X (compareOp o) (rD2 (cc X ga Z) fun u v S k => ∃ r, cmpR o u v S = some r ∧ k (.bl r) S) := by
  intro pins s σ H x y v u Q I rx ry h
  obtain ⟨d, e, S, rp, r1, r2, r, hb, hf⟩ := h
  have q := kD_val rp hf mk_bl
  unfold cmpR at hb
  split at hb
  · cases hb; cases rel_int r1; cases rel_int r2
    exact op_lt pins s σ H _ _ v u Q I rx ry ⟨_, _, rfl, rfl, q⟩
  · cases hb; cases rel_int r1; cases rel_int r2
    exact op_le pins s σ H _ _ v u Q I rx ry ⟨_, _, rfl, rfl, q⟩
  · cases hb; cases rel_int r1; cases rel_int r2
    exact op_gt pins s σ H _ _ v u Q I rx ry ⟨_, _, rfl, rfl, q⟩
  · cases hb; cases rel_int r1; cases rel_int r2
    exact op_ge pins s σ H _ _ v u Q I rx ry ⟨_, _, rfl, rfl, q⟩
  · exact (eqOk hu rfl I rx ry rp r1 r2 hb).1 q
  · obtain ⟨b, h1, rfl⟩ := Option.map_eq_some_iff.mp hb
    exact (eqOk hu rfl I rx ry rp r1 r2 h1).2 q
  · exact (inOk hu rfl I rx ry rp r1 r2 hb).1 q
  · obtain ⟨b, h1, rfl⟩ := Option.map_eq_some_iff.mp hb
    exact (inOk hu rfl I rx ry rp r1 r2 h1).2 q
  · exact (isOk I rx ry r1 r2 hb).1 q
  · obtain ⟨b, h1, rfl⟩ := Option.map_eq_some_iff.mp hb
    exact (isOk I rx ry r1 r2 h1).2 q
  · cases hb
theorem negOk : UnR X (unaryOp .USub) (rD1 (cc X ga Z) fun u S k => ∃ i, u = .int i ∧ k (.int (-i)) S) := by
  intro pins s σ H x v Q I rx h
  obtain ⟨d, S, rp, r1, i, rfl, hf⟩ := h
  cases rel_int r1
  exact un_neg pins s σ H _ v Q I rx ⟨i, rfl, kD_val rp hf mk_int⟩
theorem truOk {C : Cc} (hC : C.K = X.K) {H : Hp} {S : Sto} {d : D} {v : V} {b : Bool} (rp : Rp C H S) (r : RelD C H S d v) (h : tru S d = some b) : TruV X.K v H b := by
  cases d with
  | non => cases h; unfold RelD at r; subst r; rfl
  | bl c => cases h; unfold RelD at r; subst r; rfl
  | int c => cases h; unfold RelD at r; subst r; rfl
  | str x =>
    unfold RelD at r
    rw [r.1]
    have h : (if x.length ≤ sizeLine then some ((x.length : Int) != 0) else none) = some b := h
    split at h
    · rename_i q; cases h; exact ⟨q, rfl⟩
    · cases h
  | tup ds =>
    cases h
    unfold RelD at r
    obtain ⟨a, vs, rfl, f, q⟩ := r
    refine .inr (.inl ⟨vs, by rw [← hC]; exact f.sq, ?_⟩)
    have l := q.len
    cases vs <;> cases ds <;> first | rfl | (simp at l)
  | lst ds =>
    cases h
    unfold RelD at r
    obtain ⟨a, vs, rfl, f, q⟩ := r
    refine .inl ⟨vs, by rw [← hC]; exact f.sq, ?_⟩
    have l := q.len
    cases vs <;> cases ds <;> first | rfl | (simp at l)
  | ref a =>
    unfold RelD at r
    subst r
    obtain ⟨ds, h1, rfl⟩ := Option.map_eq_some_iff.mp (show (lstAt S a).map (fun ds => !ds.isEmpty) = some b from h)
    obtain ⟨o, h2, h3⟩ := rp.obj a _ (lstAt_some h1)
    obtain ⟨vs, rfl, z⟩ := h3
    refine .inl ⟨vs, .of h2, ?_⟩
    have l := z.len
    cases vs <;> cases ds <;> first | rfl | (simp at l)
  | _ => cases h
theorem subD_tail {prog : Program} {w : World} {A : Around} {E : Value → Shared → Prop} {s : Shared} {value slice : Expr} {o i : Value} {T id : String} {Q : Value → Shared → Prop} (hT : s.TypeIs o T) (hl : typeLookup (.type T) "__getitem__" = pure (some (.builtin id)))
    (hs : subscripted slice false o i = operate [o, i] (getItem o i)) (h₂ : wpAny (model prog w) A (getItem o i) Q E s) : wpAny (model prog w) A (PyProof.Rows.subscriptTail value slice o i) Q E s := by
  unfold PyProof.Rows.subscriptTail
  refine wpAny_bind ?_
  rw [getitemInPython_of_ne hT.not_modules]
  refine wpAny_bind (wpAny_specialOf hT hl ?_)
  have fin : wpAny (model prog w) A (subscripted slice false o i) (fun r s₃ => wpAny (model prog w) A (letTemporaryGo value o r >>= fun _ => pure r) Q E s₃) E s := by
    rw [hs]
    exact wpAny_operating (wpAny_mono h₂ (fun r s₃ h₃ => wpAny_bind (wpAny_letTemporaryGo (wpAny_pure h₃))) fun _ _ x => x)
  first
    | exact wpAny_pure (wpAny_bind fin)
    | exact wpAny_bind (wpAny_pure (wpAny_bind fin))
    | exact wpAny_bind fin
theorem idxOk (hu : X.A.units + 64 < cLine) : IxR X (rD2 (cc X ga Z) fun u v S k => ∃ d, idxR u v S = some d ∧ k d S) := by
  intro value slice pins s σ H x y v u Q I rx ry h
  obtain ⟨d, e, S, rp, r1, r2, r, hb, hf⟩ := h
  unfold idxR at hb
  split at hb
  · rename_i z i
    split at hb
    · rename_i hz
      obtain ⟨c, h1, rfl⟩ := Option.map_eq_some_iff.mp hb
      have q1 := r1.strOk
      cases rel_str r1; cases rel_int r2
      exact ix_str value slice pins s σ H _ _ v u Q I rx ry ⟨z, i, c, rfl, rfl, hz, h1, kD_val rp hf (mk_str (strOk_sign q1 (atI_mem h1)))⟩
    · cases hb
  · split at hb
    · rename_i ds hs
      split at hb
      · rename_i i _
        obtain ⟨a, vs, rfl, h1, q1⟩ := seqOf_sq rp r1 hs
        cases rel_int r2
        obtain ⟨w, h2, h3⟩ := q1.atI hb
        rcases h1 with h1 | h1
        · exact ix_list value slice pins s σ H _ _ v u Q I rx ry ⟨a, vs, i, w, rfl, rfl, h1, h2, kD_val rp hf h3⟩
        · exact ix_tup value slice pins s σ H _ _ v u Q I rx ry ⟨a, vs, i, w, rfl, rfl, h1, h2, kD_val rp hf h3⟩
      · cases hb
    · obtain ⟨o, h1, h2⟩ := Option.bind_eq_some_iff.mp hb
      cases (show o = some r from h2)
      obtain ⟨a, ov, rfl, g, _, e⟩ := dGet_ok rp r1 r2 h1
      obtain ⟨z, rfl, rz⟩ := e _ rfl
      cases (show v = Value.ref a from rx)
      intro hs
      have q := kD_val rp hf rz
      refine subD_tail (dict_typeIs I g) PySem.F.slot_dict_getitem.lookup hs ?_
      exact d_getItem (by omega) I g ry fun w' s' I' rw' => ⟨z, H, I', rw', q⟩
def rSl (C : Cc) (m : Bool) : V → Option Int → Option Int → Hp → VK → Prop := fun x lo hi H Q => ∃ u S, Rp C H S ∧ RelD C H S u x ∧ ∃ r, slcR u lo hi S = some r ∧ fin m r S (kD C H S Q)
theorem slcOk (m : Bool) : SlR X (rSl (cc X ga Z) m) := by
  intro pins s σ H x v vl vu lo hi sl Q I rx hs pl pu h
  obtain ⟨d, S, rp, r1, r, hb, hf⟩ := h
  unfold slcR at hb
  split at hb
  · obtain ⟨c, rfl⟩ := g?_some hb
    have q1 := r1.strOk
    cases rel_str r1
    exact sl_str pins s σ H _ v vl vu lo hi sl Q I rx hs pl pu ⟨_, rfl, c, kD_val rp hf (mk_str (strOk_cut lo hi q1))⟩
  · cases hb
    rename_i ds
    unfold RelD at r1
    obtain ⟨a, vs, rfl, f, q⟩ := r1
    refine sl_tupA pins s σ H _ v vl vu lo hi sl Q I rx hs pl pu ⟨a, vs, rfl, f.sq, fun hw => ?_, fun _ => kD_tup rp hf (q.cut lo hi)⟩
    refine kD_val rp hf ?_
    have e : cutD ds lo hi = ds := by
      rw [q.len] at hw
      unfold cutD
      rw [hw.1, hw.2, List.drop_zero, Nat.sub_zero, List.take_length]
    rw [e]
    unfold RelD
    exact ⟨a, vs, rfl, f, q⟩
  · split at hb
    · cases hb
      rename_i ds hs'
      obtain ⟨a, vs, rfl, h1, q1⟩ := listOf_sq rp r1 hs'
      exact sl_list pins s σ H _ v vl vu lo hi sl Q I rx hs pl pu ⟨a, vs, rfl, .of h1, fin_new rp hf (q1.cut lo hi)⟩
    · cases hb
theorem sumI_ints {C : Cc} {H : Hp} {S : Sto} : ∀ {ds : List D} {vs : List V} {n : Int}, RelDs C H S ds vs → sumI ds = some n → ∃ ns : List Int, vs = ns.map V.int ∧ n = ns.sum
  | [], _, _, h, e => by unfold RelDs at h; subst h; cases e; exact ⟨[], rfl, rfl⟩
  | d :: ds, _, _, h, e => by
    unfold RelDs at h
    obtain ⟨v, r, rfl, h1, h2⟩ := h
    cases d with
    | int i =>
      obtain ⟨m, e1, rfl⟩ := Option.map_eq_some_iff.mp (show (sumI ds).map (i + ·) = some _ from e)
      obtain ⟨ns, rfl, rfl⟩ := sumI_ints h2 e1
      cases rel_int h1
      exact ⟨i :: ns, rfl, by rw [List.sum_cons]⟩
    | _ => cases e
theorem allB_bls {C : Cc} {H : Hp} {S : Sto} : ∀ {ds : List D} {vs : List V} {b : Bool}, RelDs C H S ds vs → allB S ds = some b → ∃ bs : List Bool, vs = bs.map V.bl ∧ b = bs.all id
  | [], _, _, h, e => by unfold RelDs at h; subst h; cases e; exact ⟨[], rfl, rfl⟩
  | d :: ds, _, _, h, e => by
    unfold RelDs at h
    obtain ⟨v, r, rfl, h1, h2⟩ := h
    cases d with
    | bl i =>
      have e : (match allB S ds with
        | some c => some (i && c)
        | none => none) = some _ := e
      cases q : allB S ds with
      | none => rw [q] at e; cases e
      | some c =>
        rw [q] at e
        cases e
        obtain ⟨bs, rfl, rfl⟩ := allB_bls h2 q
        unfold RelD at h1
        subst h1
        exact ⟨i :: bs, rfl, rfl⟩
    | _ => cases e
theorem rel1 {C : Cc} {H : Hp} {S : Sto} {x : D} {vs : List V} (h : RelDs C H S [x] vs) : ∃ v, vs = [v] ∧ RelD C H S x v := by
  unfold RelDs at h
  obtain ⟨v, r, rfl, h1, h2⟩ := h
  unfold RelDs at h2
  subst h2
  exact ⟨v, rfl, h1⟩
theorem rel2 {C : Cc} {H : Hp} {S : Sto} {x y : D} {vs : List V} (h : RelDs C H S [x, y] vs) : ∃ v w, vs = [v, w] ∧ RelD C H S x v ∧ RelD C H S y w := by
  unfold RelDs at h
  obtain ⟨v, r, rfl, h1, h2⟩ := h
  obtain ⟨w, rfl, h3⟩ := rel1 h2
  exact ⟨v, w, rfl, h1, h3⟩
theorem tyX_of {C : Cc} (hC : C.K = X.K) {H : Hp} {S : Sto} {d : D} {v : V} {t : String} (rp : Rp C H S) (r : RelD C H S d v) (h : tyN S d = some t) : TyX X.K H v (.type t) := by
  cases d with
  | non => cases h; unfold RelD at r; subst r; exact .base .non
  | bl b => cases h; unfold RelD at r; subst r; exact .base (.bl b)
  | int b => cases h; unfold RelD at r; subst r; exact .base (.int b)
  | str b => cases h; unfold RelD at r; rw [r.1]; exact .base (.str b)
  | tup ds =>
    cases h
    unfold RelD at r
    obtain ⟨a, vs, rfl, f, q⟩ := r
    exact .base (.tup f.1)
  | lst ds =>
    cases h
    unfold RelD at r
    obtain ⟨a, vs, rfl, f, q⟩ := r
    exact .base (.lst f.1)
  | ref a =>
    unfold RelD at r
    subst r
    obtain ⟨ds, h1, rfl⟩ := Option.map_eq_some_iff.mp (show (lstAt S a).map (fun _ => "list") = some t from h)
    obtain ⟨o, h2, h3⟩ := rp.obj a _ (lstAt_some h1)
    obtain ⟨vs, rfl, z⟩ := h3
    exact .base (.lst h2)
  | _ => cases h
theorem tyN_in {S : Sto} {d : D} {t : String} (h : tyN S d = some t) : t = "NoneType" ∨ t = "bool" ∨ t = "int" ∨ t = "str" ∨ t = "tuple" ∨ t = "list" := by
  cases d with
  | ref a =>
    obtain ⟨ds, h1, rfl⟩ := Option.map_eq_some_iff.mp (show (lstAt S a).map (fun _ => "list") = some t from h)
    simp
  | non => cases h; simp
  | bl b => cases h; simp
  | int b => cases h; simp
  | str b => cases h; simp
  | tup b => cases h; simp
  | lst b => cases h; simp
  | _ => cases h
theorem kit_in {K : PySem.W.Frag} {t n : String} (ht : t = "NoneType" ∨ t = "bool" ∨ t = "int" ∨ t = "str" ∨ t = "tuple" ∨ t = "list") (hn : n = "int" ∨ n = "bool" ∨ n = "str" ∨ n = "list" ∨ n = "tuple") :
    PySem.W.kitOne K (.type t) (.type n) = some (isT t n) := by
  rcases ht with rfl | rfl | rfl | rfl | rfl | rfl <;> rcases hn with rfl | rfl | rfl | rfl | rfl <;> exact kit_ty (by decide +kernel)
theorem isiOk {C : Cc} (hC : C.K = X.K) {pins : List (Addr × Obj)} {s : Shared} {σ : St} {H : Hp} {S : Sto} {d c : D} {x y : V} {us : List Value} {b : Bool} {Q : VK} (I : Inv X pins σ H s) (rx : Vals [x, y] us) (rp : Rp C H S)
    (r1 : RelD C H S d x) (r2 : RelD C H S c y) (h : isiR S d c = some b) (q : Q (.bl b) H) : wpAny (model X.prog X.w) X.A (call (.builtin "isinstance") us) (EP X pins σ Q) X.xe s := by
  unfold isiR at h
  split at h
  · rename_i t n ht
    obtain ⟨hn, rfl⟩ := g?_some h
    unfold RelD at r2
    subst r2
    exact call_isi pins s σ H _ us Q I rx ⟨x, _, _, _, _, rfl, .ty n, tyX_of hC rp r1 ht, kit_in (tyN_in ht) hn, q⟩
  · rename_i t n n' ht
    obtain ⟨⟨rfl, rfl⟩, rfl⟩ := g?_some h
    unfold RelD at r2
    obtain ⟨a, vs, rfl, f, z⟩ := r2
    obtain ⟨v1, v2, rfl, z1, z2⟩ := rel2 z
    unfold RelD at z1 z2
    subst z1 z2
    have k1 : PySem.W.kitOne X.K (.type t) (.type "tuple") = some (isT t "tuple") := kit_in (tyN_in ht) (by simp)
    have k2 : PySem.W.kitOne X.K (.type t) (.type "list") = some (isT t "list") := kit_in (tyN_in ht) (by simp)
    have k : PySem.W.kitAny X.K (.type t) [.type "tuple", .type "list"] = some (isT t "tuple" || isT t "list") := by
      refine kitAny_cons k1 (fun e => ?_) (fun e => by rw [e]; rfl)
      rw [e, Bool.false_or]
      refine kitAny_cons k2 (fun e => ?_) (fun e => e)
      rw [e]; exact kitAny_nil
    exact call_isiT pins s σ H _ us Q I rx ⟨x, a, _, _, _, _, rfl, f.1, .cons (.ty _) (.cons (.ty _) .nil), tyX_of hC rp r1 ht, k, q⟩
  · cases h
theorem len_of {C : Cc} (hC : C.K = X.K) {H : Hp} {S : Sto} {x : D} {v : V} {ds : List D} (rp : Rp C H S) (r : RelD C H S x v) (h : seqOf S x = some ds) : LenV X.K v H ds.length := by
  obtain ⟨a, vs, rfl, h1, q⟩ := seqOf_sq rp r h
  rw [hC] at h1
  rcases h1 with h1 | h1
  · exact .inl ⟨vs, h1, q.len.symm⟩
  · exact .inr ⟨vs, h1, q.len.symm⟩
def bfV : Bf → Value
  | .len => .builtin "len" | .abs => .builtin "abs" | .int => .type "int" | .max => .builtin "max" | .sum => .builtin "sum" | .all => .builtin "all" | .list => .type "list" | .isinstance => .builtin "isinstance"
  | .min => .builtin "min" | .any => .builtin "any" | .sorted => .builtin "sorted" | .tuple => .type "tuple" | .dict => .type "dict" | .str => .type "str" | .set => .type "set"
theorem anyB_bls {C : Cc} {H : Hp} {S : Sto} : ∀ {ds : List D} {vs : List V} {b : Bool}, RelDs C H S ds vs → anyB S ds = some b → ∃ bs : List Bool, vs = bs.map V.bl ∧ b = bs.any id
  | [], _, _, h, e => by unfold RelDs at h; subst h; cases e; exact ⟨[], rfl, rfl⟩
  | d :: ds, _, _, h, e => by
    unfold RelDs at h
    obtain ⟨v, r, rfl, h1, h2⟩ := h
    cases d with
    | bl i =>
      have e : (match anyB S ds with
        | some c => some (i || c)
        | none => none) = some _ := e
      cases q : anyB S ds with
      | none => rw [q] at e; cases e
      | some c =>
        rw [q] at e
        cases e
        obtain ⟨bs, rfl, rfl⟩ := anyB_bls h2 q
        unfold RelD at h1
        subst h1
        exact ⟨i :: bs, rfl, rfl⟩
    | _ => cases e
theorem strs_rel {C : Cc} {H : Hp} {S : Sto} : ∀ {ds : List D} {vs : List V} {l : List Str}, RelDs C H S ds vs → strsOf ds = some l → vs = l.map V.str ∧ l.all PySem.PyData.strOk = true
  | [], _, _, h, e => by unfold RelDs at h; subst h; cases e; exact ⟨rfl, rfl⟩
  | d :: ds, _, _, h, e => by
    unfold RelDs at h
    obtain ⟨v, r, rfl, h1, h2⟩ := h
    cases d with
    | str x =>
      have e : (match strsOf ds with
        | some c => some (x :: c)
        | none => none) = some _ := e
      cases q : strsOf ds with
      | none => rw [q] at e; cases e
      | some c =>
        rw [q] at e
        cases e
        obtain ⟨rfl, h3⟩ := strs_rel h2 q
        have h4 := h1.strOk
        cases rel_str h1
        exact ⟨rfl, by rw [List.all_cons, h4, h3]; rfl⟩
    | _ => cases e
theorem ks_rel : ∀ {kvs : List (Key × D)} {l : List Str}, ksOf kvs = some l → kvs.map (·.1) = l.map Sum.inr
  | [], _, e => by cases e; rfl
  | (k, d) :: ds, _, e => by
    cases k with
    | inr x =>
      have e : (match ksOf ds with
        | some c => some (x :: c)
        | none => none) = some _ := e
      cases q : ksOf ds with
      | none => rw [q] at e; cases e
      | some c =>
        rw [q] at e
        cases e
        rw [List.map_cons, List.map_cons, ks_rel q]
    | inl x => cases e
theorem rel_strs {C : Cc} {H : Hp} {S : Sto} : ∀ {l : List Str}, l.all PySem.PyData.strOk = true → RelDs C H S (l.map .str) (l.map V.str)
  | [], _ => RelDs.nil
  | x :: l, h => by
    rw [List.all_cons] at h
    obtain ⟨h1, h2⟩ := Bool.and_eq_true_iff.mp h
    exact RelDs.cons (mk_str h1) (rel_strs h2)
theorem all_perm {l l' : List Str} (h : l'.Perm l) (q : l.all PySem.PyData.strOk = true) : l'.all PySem.PyData.strOk = true := by
  rw [List.all_eq_true] at q ⊢
  exact fun x hx => q x (h.mem_iff.mp hx)
theorem dct_of {C : Cc} {H : Hp} {S : Sto} {a : Addr} {kvs : List (Key × D)} (rp : Rp C H S) (h : dctAt S a = some kvs) : ∃ l, Rd H a (.dK l) ∧ RelK C H S kvs l := by
  unfold dctAt at h
  split at h
  · rename_i e
    cases h
    obtain ⟨o, h2, h3⟩ := rp.obj a _ e
    obtain ⟨l, rfl, rk⟩ := h3
    exact ⟨l, .inl h2, rk⟩
  · rename_i od ks _ e
    cases h
    obtain ⟨o, h2, h3⟩ := rp.obj a _ e
    obtain ⟨rfl, rk⟩ := h3
    exact ⟨ks, .inr ⟨od, h2⟩, rk⟩
  · cases h
theorem bltOk (hc : X.calm = true) (hu : X.A.units + 64 < cLine) (f : Bf) (m : Bool) : CallR X (bfV f) (rDc (cc X ga Z) fun us S k => ∃ r, bltR f us S = some r ∧ fin m r S k) := by
  intro pins s σ H xs us Q I rv h
  obtain ⟨ds, S, rp, rs, r, hb, hf⟩ := h
  unfold bltR at hb
  split at hb
  · obtain ⟨c, rfl⟩ := g?_some hb
    obtain ⟨v, rfl, r1⟩ := rel1 rs
    cases rel_str r1
    exact call_len pins s σ H _ us Q I rv ⟨_, _, rfl, ⟨c, rfl⟩, kD_val rp hf mk_int⟩
  · obtain ⟨v, rfl, r1⟩ := rel1 rs
    split at hb
    · rename_i ds h1
      cases hb
      exact call_len pins s σ H _ us Q I rv ⟨_, _, rfl, len_of rfl rp r1 h1, kD_val rp hf mk_int⟩
    · split at hb
      · rename_i a _ _
        obtain ⟨kvs, h1, rfl⟩ := Option.map_eq_some_iff.mp hb
        obtain ⟨l, h2, rk⟩ := dct_of rp h1
        unfold RelD at r1
        subst r1
        rw [Vals.ref1 rv]
        refine d_len I h2 fun t s' I' => ⟨.int l.length, H, I', ⟨t, rfl⟩, ?_⟩
        rw [rk.len]
        exact kD_val rp hf mk_int
      · cases hb
  · cases hb
    obtain ⟨v, rfl, r1⟩ := rel1 rs
    cases rel_int r1
    exact call_abs pins s σ H _ us Q I rv ⟨_, rfl, kD_val rp hf mk_int⟩
  · cases hb
    obtain ⟨v, rfl, r1⟩ := rel1 rs
    cases rel_int r1
    exact call_int1 pins s σ H _ us Q I rv (.inl ⟨_, rfl, kD_val rp hf mk_int⟩)
  · cases hb
    obtain ⟨v, rfl, r1⟩ := rel1 rs
    unfold RelD at r1
    subst r1
    exact call_int1 pins s σ H _ us Q I rv (.inr ⟨_, rfl, kD_val rp hf mk_int⟩)
  · cases hb
    obtain ⟨v, w, rfl, r1, r2⟩ := rel2 rs
    cases rel_int r1; cases rel_int r2
    exact call_max2 hc pins s σ H _ us Q I rv ⟨_, _, rfl, kD_val rp hf mk_int⟩
  · split at hb
    · rename_i ds h0
      obtain ⟨n, h1, rfl⟩ := Option.map_eq_some_iff.mp hb
      obtain ⟨v, rfl, r1⟩ := rel1 rs
      obtain ⟨a, vs, rfl, h2, q⟩ := listOf_sq rp r1 h0
      obtain ⟨ns, rfl, rfl⟩ := sumI_ints q h1
      exact cr_sum hc pins s σ H _ us Q I rv ⟨a, ns, rfl, .of h2, kD_val rp hf mk_int⟩
    · cases hb
  · split at hb
    · rename_i ds h0
      obtain ⟨n, h1, rfl⟩ := Option.map_eq_some_iff.mp hb
      obtain ⟨v, rfl, r1⟩ := rel1 rs
      obtain ⟨a, vs, rfl, h2, q⟩ := listOf_sq rp r1 h0
      obtain ⟨ns, rfl, rfl⟩ := allB_bls q h1
      exact cr_all hc pins s σ H _ us Q I rv ⟨a, ns, rfl, .of h2, kD_val rp hf mk_bl⟩
    · cases hb
  · obtain ⟨ds, h1, rfl⟩ := Option.map_eq_some_iff.mp hb
    obtain ⟨v, rfl, r1⟩ := rel1 rs
    obtain ⟨a, vs, rfl, h2, q⟩ := seqOf_sq rp r1 h1
    exact call_list_of pins s σ H _ us Q I rv ⟨a, vs, rfl, h2, fin_new rp hf q⟩
  · obtain ⟨b, h1, rfl⟩ := Option.map_eq_some_iff.mp hb
    obtain ⟨v, w, rfl, r1, r2⟩ := rel2 rs
    exact isiOk rfl I rv rp r1 r2 h1 (kD_val rp hf mk_bl)
  · cases hb
    obtain ⟨v, w, rfl, r1, r2⟩ := rel2 rs
    cases rel_int r1; cases rel_int r2
    exact call_min2 hc pins s σ H _ us Q I rv ⟨_, _, rfl, kD_val rp hf mk_int⟩
  · split at hb
    · rename_i ds h0
      obtain ⟨n, h1, rfl⟩ := Option.map_eq_some_iff.mp hb
      obtain ⟨v, rfl, r1⟩ := rel1 rs
      obtain ⟨a, vs, rfl, h2, q⟩ := listOf_sq rp r1 h0
      obtain ⟨ns, rfl, rfl⟩ := anyB_bls q h1
      exact cr_any hc pins s σ H _ us Q I rv ⟨a, ns, rfl, .of h2, kD_val rp hf mk_bl⟩
    · cases hb
  · obtain ⟨v, rfl, r1⟩ := rel1 rs
    split at hb
    · rename_i ds h0
      split at hb
      · rename_i l h1
        obtain ⟨c, rfl⟩ := g?_some hb
        obtain ⟨a, vs, rfl, h2, q⟩ := listOf_sq rp r1 h0
        obtain ⟨rfl, hok⟩ := strs_rel q h1
        refine cr_sortedS pins s σ H _ us Q I rv ⟨a, l, rfl, .of h2, c, fun ys p hp hs hn => ?_⟩
        rw [srt_unique hp hs]
        exact fin_new rp hf (rel_strs (all_perm (srtS_perm l) hok)) p hn
      · cases hb
    · split at hb
      · rename_i a _
        split at hb
        · rename_i kvs h1
          split at hb
          · rename_i l h2
            obtain ⟨⟨c, hok⟩, rfl⟩ := g?_some hb
            obtain ⟨vl, h3, rk⟩ := dct_of rp h1
            unfold RelD at r1
            subst r1
            refine call_sortedD hc pins s σ H _ us Q I rv ⟨a, vl, l, rfl, h3, by rw [rk.keys, ks_rel h2], c, fun ys p hp hs hn => ?_⟩
            rw [srt_unique hp hs]
            exact fin_new rp hf (rel_strs (all_perm (srtS_perm l) hok)) p hn
          · cases hb
        · split at hb
          · rename_i kvs h1
            split at hb
            · rename_i l h2
              obtain ⟨hok, rfl⟩ := g?_some hb
              have hS : S a = some (.dcT kvs) := by
                unfold dcTAt at h1
                split at h1
                · rename_i e; cases h1; exact e
                · cases h1
              obtain ⟨o, h3, vl, rfl, rk⟩ := rp.obj a _ hS
              unfold RelD at r1
              subst r1
              refine call_sortedD2 hc hu pins s σ H _ us Q I rv ⟨a, vl, l, rfl, .inl h3, by rw [rk.keys, prs_rel h2], fun qs p hp hn => ?_⟩
              have hok' : (srtP l).all prOk = true := by
                rw [List.all_eq_true] at hok ⊢
                exact fun x hx => hok x ((srtP_perm l).mem_iff.mp hx)
              exact fin_new rp hf (rel_prs rp hok' hp) p hn
            · cases hb
          · cases hb
      · cases hb
  · rename_i ds
    cases hb
    obtain ⟨v, rfl, r1⟩ := rel1 rs
    unfold RelD at r1
    obtain ⟨a, vs, rfl, f, q⟩ := r1
    refine call_tuple_of pins s σ H _ us Q I rv ⟨a, vs, rfl, .inr ⟨f.sq, kD_val rp hf ?_⟩⟩
    unfold RelD
    exact ⟨a, vs, rfl, f, q⟩
  · obtain ⟨ds, h1, rfl⟩ := Option.map_eq_some_iff.mp hb
    obtain ⟨v, rfl, r1⟩ := rel1 rs
    obtain ⟨a, vs, rfl, h2, q⟩ := listOf_sq rp r1 h1
    exact call_tuple_of pins s σ H _ us Q I rv ⟨a, vs, rfl, .inl ⟨.of h2, kD_tup rp hf q⟩⟩
  · rename_i a
    obtain ⟨kvs, h1, rfl⟩ := Option.map_eq_some_iff.mp hb
    obtain ⟨v, rfl, r1⟩ := rel1 rs
    obtain ⟨l, h2, rk⟩ := dct_of rp h1
    unfold RelD at r1
    subst r1
    rw [Vals.ref1 rv]
    exact d_copyOf I h2 fun p s' hp I' => ⟨.ref p, _, I', rfl, fin_newD rp hf rk p hp⟩
  · obtain ⟨⟨c, hok⟩, rfl⟩ := g?_some hb
    obtain ⟨v, rfl, r1⟩ := rel1 rs
    cases rel_int r1
    exact call_str_int pins s σ H _ us Q I rv ⟨_, rfl, c, kD_val rp hf (mk_str hok)⟩
  · cases hb
end
mutual
def matchE (N : List Str) (sc : Scope) : ME → Expr → Bool
  | .var i, e => match e with
    | .Name x _ => decide (N[i]? = some x) && (visB sc x && dbgB x)
    | _ => false
  | .cst d, e => match e with
    | .Constant c _ _ => cstB d c
    | .Name x _ => (match d with
      | .ty n => decide (x = Str.ofString n) && (gloB sc x && tyB n)
      | _ => false)
    | _ => false
  | .glo n, e => match e with
    | .Name x _ => decide (x = n) && (gloB sc x && dbgB x)
    | _ => false
  | .bin o _ a b, e => match e with
    | .BinOp l o' r _ => decide (o = o') && (matchE N sc a l && matchE N sc b r)
    | _ => false
  | .neg a, e => match e with
    | .UnaryOp .USub l _ => matchE N sc a l
    | _ => false
  | .not a, e => match e with
    | .UnaryOp .Not l _ => matchE N sc a l
    | _ => false
  | .cmp o a b, e => match e with
    | .Compare l [o'] [r] _ => decide (o = o') && (notSet r && (matchE N sc a l && matchE N sc b r))
    | _ => false
  | .cmp2 o p a b c, e => match e with
    | .Compare l [o', p'] [r, z] _ => decide (o = o') && (decide (p = p') && (notSet z && (matchE N sc a l && (matchE N sc b r && matchE N sc c z))))
    | _ => false
  | .and a b, e => match e with
    | .BoolOp .And [l, r] _ => matchE N sc a l && matchE N sc b r
    | .BoolOp .And (l :: r :: z :: q) pos => matchE N sc a l && matchE N sc b (.BoolOp .And (r :: z :: q) pos)
    | _ => false
  | .or a b, e => match e with
    | .BoolOp .Or [l, r] _ => matchE N sc a l && matchE N sc b r
    | .BoolOp .Or (l :: r :: z :: q) pos => matchE N sc a l && matchE N sc b (.BoolOp .Or (r :: z :: q) pos)
    | _ => false
  | .ifx c a b, e => match e with
    | .IfExp c' a' b' _ => matchE N sc c c' && (matchE N sc a a' && matchE N sc b b')
    | _ => false
  | .idx a i, e => match e with
    | .Subscript l r _ => notSl r && (matchE N sc a l && matchE N sc i r)
    | _ => false
  | .slL _ a lo, e => match e with
    | .Subscript l (.Slice (some lo') none none _) _ => matchE N sc a l && matchE N sc lo lo'
    | _ => false
  | .slU _ a hi, e => match e with
    | .Subscript l (.Slice none (some hi') none _) _ => matchE N sc a l && matchE N sc hi hi'
    | _ => false
  | .slLU _ a lo hi, e => match e with
    | .Subscript l (.Slice (some lo') (some hi') none _) _ => matchE N sc a l && (matchE N sc lo lo' && matchE N sc hi hi')
    | _ => false
  | .tup es, e => match e with
    | .Tuple es' _ _ => matchEs N sc es es'
    | _ => false
  | .lst _ es, e => match e with
    | .List es' _ => matchEs N sc es es'
    | _ => false
  | .blt f _ es, e => match e with
    | .Call (.Name x _) as [] _ => decide (x = f.nm) && (gloB sc x && (!as.isEmpty && matchEs N sc es as))
    | _ => false
  | .bm f _ o es, e => match e with
    | .Call (.Attribute o' x ap) as [] cp => decide (x = f.nm) && ((ap.endLine == cp.line) && (notSuper o' && (decide (as.length < 20) && (!as.isEmpty && (matchE N sc o o' && matchEs N sc es as)))))
    | _ => false
  | .call f es, e => match e with
    | .Call (.Name x _) as [] _ => decide (x = f) && (gloB sc x && (dbgB x && (!as.isEmpty && matchEs N sc es as)))
    | _ => false
  | .lc i _ t as c e, ex => match ex with
    | .ListComp elt [⟨tg, iter, ifs, ay⟩] scope _ => decide (ay = 0) && (blkC N sc scope ((slots t).map fun i => (N.getD i "", i)) && (matchT N scope t tg && (matchEs N scope c ifs && (matchE N scope e elt && (decide (c.length ≤ 1) && (notSet iter &&
        (match i with
        | 0 => matchEs N sc as [iter]
        | 1 => (match iter with
          | .Call (.Name x _) as' [] _ => decide (x = "range") && (gloB sc x && (decide (as'.length = 1 ∨ as'.length = 2) && matchEs N sc as as'))
          | _ => false)
        | 2 => (match iter with
          | .Call (.Name x _) as' [] _ => decide (x = "enumerate") && (gloB sc x && (decide (as'.length = 1) && (isTupT tg && matchEs N sc as as')))
          | _ => false)
        | 3 => (match iter with
          | .Call (.Name x _) as' [] _ => decide (x = "zip") && (gloB sc x && (decide (as'.length = 2) && (isTupT tg && matchEs N sc as as')))
          | _ => false)
        | _ => false)))))))
    | _ => false
  | .lcR i t as e, ex => match ex with
    | .ListComp elt [⟨tg, iter, ifs, ay⟩] scope _ => decide (ay = 0) && (blkC N sc scope ((slots t).map fun i => (N.getD i "", i)) && (matchT N scope t tg && (ifs.isEmpty && (matchE N scope e elt && (notSet iter &&
        (match i with
        | 0 => matchEs N sc as [iter]
        | 3 => (match iter with
          | .Call (.Name x _) as' [] _ => decide (x = "zip") && (gloB sc x && (decide (as'.length = 2) && (isTupT tg && matchEs N sc as as')))
          | _ => false)
        | _ => false))))))
    | _ => false
  | .frz a, e => matchE N sc a e
  | .lck a, e => notTest e && matchE N sc a e
  | .att o f, e => match e with
    | .Attribute o' x _ => decide (x = f) && (notSuper o' && matchE N sc o o')
    | _ => false
  | .mth c o m es, e => match e with
    | .Call (.Attribute o' x ap) as [] cp => decide (x = m) && ((ap.endLine == cp.line) && (notSuper o' && (decide (as.length < 20) && (matchE N sc o o' && matchEs N sc es as))))
    | _ => false
  | .mk c es, e => match e with
    | .Call (.Name x _) as [] _ => decide (x = c) && (gloB sc x && (dbgB x && matchEs N sc es as))
    | _ => false
  | .dct kvs, e => match e with
    | .Dict ks vs _ => dctB kvs ks vs && decide (kvs.length ≤ 15)
    | _ => false
  | .dcN, e => match e with
    | .Dict [] [] _ => true
    | _ => false
  | .lns a, e => match e with
    | .Call (.Name x _) [.Call (.Name y _) [b] [] _] [] _ => decide (x = "len") && (decide (y = "set") && (gloB sc "len" && (gloB sc "set" && (notStar b && matchE N sc a b))))
    | _ => false
  | .plug p es, e => match p.mt N sc e with
    | some es' => matchEs N sc es es'
    | none => false
  | .bad, _ => true
def matchEs (N : List Str) (sc : Scope) : List ME → List Expr → Bool
  | [], es => es.isEmpty
  | m :: ms, es => match es with
    | e :: es => notStar e && (matchE N sc m e && matchEs N sc ms es)
    | [] => false
end
theorem and2 {a b : Bool} (h : (a && b) = true) : a = true ∧ b = true := Bool.and_eq_true_iff.mp h
theorem starEach_cons {e : Expr} {es : List Expr} {env : PySem.Env} (h : notStar e = true) : starEach (e :: es) env = (false, eval e env) :: starEach es env := by
  cases e <;> first | rfl | cases h
theorem star_all : ∀ {ms : List ME} {N : List Str} {sc : Scope} {es : List Expr} {env : PySem.Env} {pos : Pos}, matchEs N sc ms es = true → (backTo pos (starEach es env)).any (·.1) = false ∧ (backTo pos (starEach es env)).all (fun x => !x.1) = true
  | [], _, _, [], _, _, _ => ⟨rfl, rfl⟩
  | [], _, _, _ :: _, _, _, h => by unfold matchEs at h; cases h
  | _ :: _, _, _, [], _, _, h => by unfold matchEs at h; cases h
  | m :: ms, N, sc, e :: es, env, pos, h => by
    unfold matchEs at h
    obtain ⟨h1, h2⟩ := and2 h
    obtain ⟨h2, h3⟩ := and2 h2
    obtain ⟨a, b⟩ := star_all (env := env) (pos := pos) h3
    rw [starEach_cons h1]
    unfold backTo at a b ⊢
    rw [List.map_cons, List.any_cons, List.all_cons, a, b]
    exact ⟨rfl, rfl⟩
theorem matchEs_len : ∀ {ms : List ME} {N : List Str} {sc : Scope} {es : List Expr}, matchEs N sc ms es = true → ms.length = es.length
  | [], _, _, [], _ => rfl
  | [], _, _, _ :: _, h => by unfold matchEs at h; cases h
  | _ :: _, _, _, [], h => by unfold matchEs at h; cases h
  | m :: ms, N, sc, e :: es, h => by
    unfold matchEs at h
    obtain ⟨h1, h2⟩ := and2 h
    rw [List.length_cons, List.length_cons, matchEs_len (and2 h2).2]
theorem star1 {ms : List ME} {N : List Str} {sc : Scope} {e : Expr} {es : List Expr} (h : matchEs N sc ms (e :: es) = true) : notStar e = true := by
  cases ms with
  | nil => unfold matchEs at h; cases h
  | cons m ms => unfold matchEs at h; exact (and2 h).1
theorem star2 {ms : List ME} {N : List Str} {sc : Scope} {e e' : Expr} {es : List Expr} (h : matchEs N sc ms (e :: e' :: es) = true) : notStar e' = true := by
  cases ms with
  | nil => unfold matchEs at h; cases h
  | cons m ms => unfold matchEs at h; exact star1 (and2 (and2 h).2).2
theorem notSet_marks {e : Expr} {o : CmpOp} (h : notSet e = true) : behindInMarks o e = false := by cases e <;> first | rfl | cases h
theorem notSet_last {a e : Expr} {o p : CmpOp} (h : notSet e = true) : lastMarks [o, p] [a, e] = false := notSet_marks h
theorem notSl_plain {e : Expr} (h : notSl e = true) : PlainIx e := fun o i => by cases e <;> first | rfl | cases h
theorem notSuper_base {o : Expr} {f : Str} {env : PySem.Env} {w : Sem Value} (h : notSuper o = true) : attributeBase o f env w = w := by
  unfold attributeBase
  cases o with
  | Call fn as ks pos =>
    cases fn with
    | Name x p =>
      cases as with
      | nil =>
        cases ks with
        | nil => cases h
        | cons k ks => rfl
      | cons a as => rfl
    | _ => rfl
  | _ => rfl
theorem notSet_fold {e : Expr} {env : PySem.Env} (h : notSet e = true) : ∀ x, foldedSetIterable e env x = pure x := fun x => by
  unfold foldedSetIterable
  cases e with
  | Set a b c => cases h
  | _ => rfl
theorem notLc_swap {e : Expr} {t : Option Expr} {l : Nat} {env : PySem.Env} (h : notLc e = true) : swapsWith e t l env = pure false := by
  unfold swapsWith
  cases e with
  | ListComp a b c d => cases h
  | SetComp a b c d => cases h
  | DictComp a b c d e => cases h
  | _ => rfl
theorem notTest_true {e : Expr} {env : PySem.Env} (h : notTest e = true) : ∀ whole, isTrue e env whole = (do let v ← whole; standAt e.pos; holding [v] (truthy v)) := fun whole => by
  cases e with
  | UnaryOp o a p => cases o <;> first | rfl | cases h
  | BoolOp a b c => cases h
  | IfExp a b c d => cases h
  | Compare a b c d => cases h
  | _ => rfl
section
variable {X : Cx} {ga : Str → Addr} {Z : Addr → Prop} {H0 : Hp} {S0 : Sto} {G : Gc} {x : XW}
theorem pt_of {e : Expr} {m : ME} (h : PE X e (tD (cc X ga Z) H0 S0 (wE G x m))) (n : notTest e = true) : PT X e (tDT (cc X ga Z) H0 S0 (wE G x m)) := by
  refine PT.imp (pt_truth h (notTest_true n)) fun σ H Q q => ?_
  obtain ⟨σd, S, rs, rp, ex, w⟩ := q
  refine ⟨σd, S, rs, rp, ex, wE_mono (fun d S1 q H1 v rp1 e1 r1 => ?_) m σd S w⟩
  obtain ⟨b, h1, h2⟩ := q
  exact ⟨b, truOk rfl rp1 r1 h1, h2 H1 rp1 e1⟩
theorem pw_of {op : BoolOp} {vs : List Expr} {pos : Pos} {t : TT} (h : PT X (.BoolOp op vs pos) t) : PW X (.BoolOp op vs pos) t := ⟨fun _ pins s σ H Q I q => h.run pins s σ H Q I q⟩
/-- and, or as values -/
theorem and_v {a b : Expr} {rest : List Expr} {pos : Pos} {ma mb : ME} (ha : PE X a (tD (cc X ga Z) H0 S0 (wE G x ma))) (hb : PE X (.BoolOp .And (b :: rest) pos) (tD (cc X ga Z) H0 S0 (wE G x mb))) :
    PE X (.BoolOp .And (a :: b :: rest) pos) (tD (cc X ga Z) H0 S0 (wE G x (.and ma mb))) := by
  refine PE.imp (pe_andT ha hb) fun σ H Q q => ?_
  obtain ⟨σd, S, rs, rp, ex, w⟩ := q
  unfold wE at w
  refine ⟨σd, S, rs, rp, ex, wE_mono (fun d S1 q H1 v rp1 e1 r1 => ?_) ma σd S w⟩
  obtain ⟨c, h1, h2⟩ := q
  refine ⟨c, truOk rfl rp1 r1 h1, ?_⟩
  cases c with
  | true => exact ⟨σd, S1, rs.ext e1, rp1, ex.trans e1, wE_mono (fun d S' => kD_ext e1) mb σd S1 h2⟩
  | false => exact h2 H1 v rp1 e1 r1
theorem or_v {a b : Expr} {rest : List Expr} {pos : Pos} {ma mb : ME} (ha : PE X a (tD (cc X ga Z) H0 S0 (wE G x ma))) (hb : PE X (.BoolOp .Or (b :: rest) pos) (tD (cc X ga Z) H0 S0 (wE G x mb))) :
    PE X (.BoolOp .Or (a :: b :: rest) pos) (tD (cc X ga Z) H0 S0 (wE G x (.or ma mb))) := by
  refine PE.imp (pe_orT ha hb) fun σ H Q q => ?_
  obtain ⟨σd, S, rs, rp, ex, w⟩ := q
  unfold wE at w
  refine ⟨σd, S, rs, rp, ex, wE_mono (fun d S1 q H1 v rp1 e1 r1 => ?_) ma σd S w⟩
  obtain ⟨c, h1, h2⟩ := q
  refine ⟨c, truOk rfl rp1 r1 h1, ?_⟩
  cases c with
  | true => exact h2 H1 v rp1 e1 r1
  | false => exact ⟨σd, S1, rs.ext e1, rp1, ex.trans e1, wE_mono (fun d S' => kD_ext e1) mb σd S1 h2⟩
/-- .. as tests -/
theorem and_t {a b : Expr} {rest : List Expr} {pos : Pos} {ma mb : ME} (ha : PT X a (tDT (cc X ga Z) H0 S0 (wE G x ma))) (hb : PT X (.BoolOp .And (b :: rest) pos) (tDT (cc X ga Z) H0 S0 (wE G x mb))) :
    PT X (.BoolOp .And (a :: b :: rest) pos) (tDT (cc X ga Z) H0 S0 (wE G x (.and ma mb))) := by
  refine PT.imp (pw_and ha (pw_of hb)).pt fun σ H Q q => ?_
  obtain ⟨σd, S, rs, rp, ex, w⟩ := q
  unfold wE at w
  refine ⟨σd, S, rs, rp, ex, wE_mono (fun d S1 q => ?_) ma σd S w⟩
  obtain ⟨c, h1, h2⟩ := q
  refine ⟨c, h1, fun H1 rp1 e1 => ?_⟩
  cases c with
  | true =>
    refine ⟨σd, S1, rs.ext e1, rp1, ex.trans e1, wE_mono (fun d S' q => ?_) mb σd S1 h2⟩
    obtain ⟨b, h3, h4⟩ := q
    exact ⟨b, h3, fun H' rp' e' => h4 H' rp' (e1.trans e')⟩
  | false =>
    obtain ⟨b, h3, h4⟩ := h2
    rw [h1] at h3
    cases h3
    exact h4 H1 rp1 e1
theorem or_t {a b : Expr} {rest : List Expr} {pos : Pos} {ma mb : ME} (ha : PT X a (tDT (cc X ga Z) H0 S0 (wE G x ma))) (hb : PT X (.BoolOp .Or (b :: rest) pos) (tDT (cc X ga Z) H0 S0 (wE G x mb))) :
    PT X (.BoolOp .Or (a :: b :: rest) pos) (tDT (cc X ga Z) H0 S0 (wE G x (.or ma mb))) := by
  refine PT.imp (pw_or ha (pw_of hb)).pt fun σ H Q q => ?_
  obtain ⟨σd, S, rs, rp, ex, w⟩ := q
  unfold wE at w
  refine ⟨σd, S, rs, rp, ex, wE_mono (fun d S1 q => ?_) ma σd S w⟩
  obtain ⟨c, h1, h2⟩ := q
  refine ⟨c, h1, fun H1 rp1 e1 => ?_⟩
  cases c with
  | false =>
    refine ⟨σd, S1, rs.ext e1, rp1, ex.trans e1, wE_mono (fun d S' q => ?_) mb σd S1 h2⟩
    obtain ⟨b, h3, h4⟩ := q
    exact ⟨b, h3, fun H' rp' e' => h4 H' rp' (e1.trans e')⟩
  | true =>
    obtain ⟨b, h3, h4⟩ := h2
    rw [h1] at h3
    cases h3
    exact h4 H1 rp1 e1
theorem not_t {a : Expr} {pos : Pos} {ma : ME} (ha : PT X a (tDT (cc X ga Z) H0 S0 (wE G x ma))) : PT X (.UnaryOp .Not a pos) (tDT (cc X ga Z) H0 S0 (wE G x (.not ma))) := by
  refine PT.imp (pt_not ha) fun σ H Q q => ?_
  obtain ⟨σd, S, rs, rp, ex, w⟩ := q
  unfold wE at w
  refine ⟨σd, S, rs, rp, ex, wE_mono (fun d S1 q => ?_) ma σd S w⟩
  obtain ⟨c, h1, b, h2, h3⟩ := q
  cases (show some (!c) = some b from h2)
  exact ⟨c, h1, fun H' rp' e' => h3 H' rp' e'⟩
theorem not_v {a : Expr} {pos : Pos} {ma : ME} (ha : PE X a (tD (cc X ga Z) H0 S0 (wE G x ma))) : PE X (.UnaryOp .Not a pos) (tD (cc X ga Z) H0 S0 (wE G x (.not ma))) := by
  refine PE.imp (pe_notT ha) fun σ H Q q => ?_
  obtain ⟨σd, S, rs, rp, ex, w⟩ := q
  unfold wE at w
  refine ⟨σd, S, rs, rp, ex, wE_mono (fun d S1 q H1 v rp1 e1 r1 => ?_) ma σd S w⟩
  obtain ⟨c, h1, h2⟩ := q
  exact ⟨c, truOk rfl rp1 r1 h1, h2 H1 _ rp1 e1 mk_bl⟩
theorem cmp_v (hu : X.A.units + 64 < cLine) {a b : Expr} {pos : Pos} {o : CmpOp} {ma mb : ME} (hn : notSet b = true) (ha : PE X a (tD (cc X ga Z) H0 S0 (wE G x ma))) (hb : PE X b (tD (cc X ga Z) H0 S0 (wE G x mb))) : PE X (.Compare a [o] [b] pos) (tD (cc X ga Z) H0 S0 (wE G x (.cmp o ma mb))) := by
  refine PE.imp (pe_cmpR (cmpOk (ga := ga) (Z := Z) hu o) ha hb (notSet_marks hn)) fun σ H Q q => ?_
  unfold wE at q
  refine tD_two (fun u v S k k' hk z => ?_) q
  obtain ⟨r, h1, h2⟩ := z
  exact ⟨r, h1, hk _ _ h2⟩
theorem cmp_t (hu : X.A.units + 64 < cLine) {a b : Expr} {pos : Pos} {o : CmpOp} {ma mb : ME} (hn : notSet b = true) (ha : PE X a (tD (cc X ga Z) H0 S0 (wE G x ma))) (hb : PE X b (tD (cc X ga Z) H0 S0 (wE G x mb))) : PT X (.Compare a [o] [b] pos) (tDT (cc X ga Z) H0 S0 (wE G x (.cmp o ma mb))) := by
  refine PT.imp (pt_cmpR (cmpOk (ga := ga) (Z := Z) hu o) ha hb (notSet_marks hn)) fun σ H Q q => ?_
  obtain ⟨σd, S, rs, rp, ex, w⟩ := q
  unfold wE at w
  refine ⟨σd, S, rs, rp, ex, wE_mono (fun u S1 q H1 v rp1 e1 r1 => ⟨σd, S1, rs.ext e1, rp1, ex.trans e1, wE_mono (fun w S2 q H2 z rp2 e2 r2 => ⟨u, w, S2, rp2, r1.ext e2, r2, ?_⟩) mb σd S1 q⟩) ma σd S w⟩
  obtain ⟨r, h1, b, h2, h3⟩ := q
  cases (show some r = some b from h2)
  refine ⟨r, h1, fun H' v' rp' e' r' => ⟨r, ?_, h3 H' rp' ((e1.trans e2).trans e')⟩⟩
  unfold RelD at r'
  exact r'
theorem cmp2_v (hu : X.A.units + 64 < cLine) {a b c : Expr} {pos : Pos} {o p : CmpOp} {ma mb mc : ME} (hn : notSet c = true) (ha : PE X a (tD (cc X ga Z) H0 S0 (wE G x ma))) (hb : PE X b (tD (cc X ga Z) H0 S0 (wE G x mb))) (hc : PE X c (tD (cc X ga Z) H0 S0 (wE G x mc))) :
    PE X (.Compare a [o, p] [b, c] pos) (tD (cc X ga Z) H0 S0 (wE G x (.cmp2 o p ma mb mc))) := by
  refine PE.imp (pe_chain (cmpOk (ga := ga) (Z := Z) hu o) (cmpOk (ga := ga) (Z := Z) hu p) ha hb hc (notSet_last hn)) fun σ H Q q => ?_
  obtain ⟨σd, S, rs, rp, ex, w⟩ := q
  unfold wE at w
  refine ⟨σd, S, rs, rp, ex, wE_mono (fun u S1 q H1 v rp1 e1 r1 => ⟨σd, S1, rs.ext e1, rp1, ex.trans e1, wE_mono (fun w S2 q H2 z rp2 e2 r2 => ⟨u, w, S2, rp2, r1.ext e2, r2, ?_⟩) mb σd S1 q⟩) ma σd S w⟩
  obtain ⟨r, h1, q⟩ := q
  refine ⟨r, h1, fun H3 v3 rp3 e3 r3 => ⟨r, by unfold RelD at r3; exact r3, ?_⟩⟩
  have e13 := (e1.trans e2).trans e3
  cases r with
  | true =>
    refine ⟨σd, S2, rs.ext e13, rp3, ex.trans e13, wE_mono (fun y S4 q H4 v4 rp4 e4 r4 => ⟨w, y, S4, rp4, (r2.ext e3).ext e4, r4, ?_⟩) mc σd S2 q⟩
    obtain ⟨r', h2, h3⟩ := q
    exact ⟨r', h2, kD_ext (e13.trans e4) h3⟩
  | false => exact q H3 _ rp3 e13 mk_bl
theorem cmp2_t (hu : X.A.units + 64 < cLine) {a b c : Expr} {pos : Pos} {o p : CmpOp} {ma mb mc : ME} (hn : notSet c = true) (ha : PE X a (tD (cc X ga Z) H0 S0 (wE G x ma))) (hb : PE X b (tD (cc X ga Z) H0 S0 (wE G x mb))) (hc : PE X c (tD (cc X ga Z) H0 S0 (wE G x mc))) :
    PT X (.Compare a [o, p] [b, c] pos) (tDT (cc X ga Z) H0 S0 (wE G x (.cmp2 o p ma mb mc))) := by
  refine PT.imp (pt_chain (cmpOk (ga := ga) (Z := Z) hu o) (cmpOk (ga := ga) (Z := Z) hu p) ha hb hc (notSet_last hn)) fun σ H Q q => ?_
  obtain ⟨σd, S, rs, rp, ex, w⟩ := q
  unfold wE at w
  refine ⟨σd, S, rs, rp, ex, wE_mono (fun u S1 q H1 v rp1 e1 r1 => ⟨σd, S1, rs.ext e1, rp1, ex.trans e1, wE_mono (fun w S2 q H2 z rp2 e2 r2 => ⟨u, w, S2, rp2, r1.ext e2, r2, ?_⟩) mb σd S1 q⟩) ma σd S w⟩
  obtain ⟨r, h1, q⟩ := q
  refine ⟨r, h1, fun H3 v3 rp3 e3 r3 => ⟨r, by unfold RelD at r3; exact r3, ?_⟩⟩
  have e13 := (e1.trans e2).trans e3
  cases r with
  | true =>
    refine ⟨σd, S2, rs.ext e13, rp3, ex.trans e13, wE_mono (fun y S4 q H4 v4 rp4 e4 r4 => ⟨w, y, S4, rp4, (r2.ext e3).ext e4, r4, ?_⟩) mc σd S2 q⟩
    obtain ⟨r', h2, b, h3, h4⟩ := q
    cases (show some r' = some b from h3)
    exact ⟨r', h2, fun H5 v5 rp5 e5 r5 => ⟨r', by unfold RelD at r5; exact r5, h4 H5 rp5 ((e13.trans e4).trans e5)⟩⟩
  | false =>
    obtain ⟨b, h3, h4⟩ := q
    cases (show some false = some b from h3)
    exact ⟨false, rfl, h4 H3 rp3 e13⟩
theorem ifx_v {c a b : Expr} {pos : Pos} {mc ma mb : ME} (hc : PT X c (tDT (cc X ga Z) H0 S0 (wE G x mc))) (ha : PE X a (tD (cc X ga Z) H0 S0 (wE G x ma))) (hb : PE X b (tD (cc X ga Z) H0 S0 (wE G x mb))) : PE X (.IfExp c a b pos) (tD (cc X ga Z) H0 S0 (wE G x (.ifx mc ma mb))) := by
  refine PE.imp (pe_ifExp hc ha hb) fun σ H Q q => ?_
  obtain ⟨σd, S, rs, rp, ex, w⟩ := q
  unfold wE at w
  refine ⟨σd, S, rs, rp, ex, wE_mono (fun u S1 q => ?_) mc σd S w⟩
  obtain ⟨z, h1, h2⟩ := q
  refine ⟨z, h1, fun H1 rp1 e1 => ?_⟩
  cases z with
  | true => exact ⟨σd, S1, rs.ext e1, rp1, ex.trans e1, wE_mono (fun d S' => kD_ext e1) ma σd S1 h2⟩
  | false => exact ⟨σd, S1, rs.ext e1, rp1, ex.trans e1, wE_mono (fun d S' => kD_ext e1) mb σd S1 h2⟩
end
theorem dctW_some {S : Sto} {a : Addr} {kvs : List (Key × D)} (h : dctW S a = some kvs) : S a = some (.dct kvs) := by
  unfold dctW at h
  split at h
  · rename_i e; cases h; exact e
  · cases h
section
variable {X : Cx} {ga : Str → Addr} {Z : Addr → Prop} {H0 : Hp} {S0 : Sto} {G : Gc} {x : XW}
theorem bin_v {a b : Expr} {pos : Pos} {o : Operator} {m : Bool} {ma mb : ME} (ha : PE X a (tD (cc X ga Z) H0 S0 (wE G x ma))) (hb : PE X b (tD (cc X ga Z) H0 S0 (wE G x mb))) : PE X (.BinOp a o b pos) (tD (cc X ga Z) H0 S0 (wE G x (.bin o m ma mb))) := by
  refine PE.imp (pe_op (binOk (ga := ga) (Z := Z) o m) ha hb) fun σ H Q q => ?_
  unfold wE at q
  refine tD_two (fun u v S k k' hk z => ?_) q
  obtain ⟨r, h1, h2⟩ := z
  exact ⟨r, h1, fin_mono hk h2⟩
theorem neg_v {a : Expr} {pos : Pos} {ma : ME} (ha : PE X a (tD (cc X ga Z) H0 S0 (wE G x ma))) : PE X (.UnaryOp .USub a pos) (tD (cc X ga Z) H0 S0 (wE G x (.neg ma))) := by
  refine PE.imp (pe_un (negOk (ga := ga) (Z := Z)) ha) fun σ H Q q => ?_
  unfold wE at q
  refine tD_one (fun u S k k' hk z => ?_) q
  obtain ⟨r, h1, h2⟩ := z
  exact ⟨r, h1, hk _ _ h2⟩
theorem idx_v (hu : X.A.units + 64 < cLine) {a b : Expr} {pos : Pos} {ma mb : ME} (hn : notSl b = true) (ha : PE X a (tD (cc X ga Z) H0 S0 (wE G x ma))) (hb : PE X b (tD (cc X ga Z) H0 S0 (wE G x mb))) : PE X (.Subscript a b pos) (tD (cc X ga Z) H0 S0 (wE G x (.idx ma mb))) := by
  refine PE.imp (pe_ix (idxOk (ga := ga) (Z := Z) hu) ha hb (notSl_plain hn)) fun σ H Q q => ?_
  unfold wE at q
  refine tD_two (fun u v S k k' hk z => ?_) q
  obtain ⟨r, h1, h2⟩ := z
  exact ⟨r, h1, hk _ _ h2⟩
theorem slL_v {a b : Expr} {pos p2 : Pos} {m : Bool} {ma mb : ME} (ha : PE X a (tD (cc X ga Z) H0 S0 (wE G x ma))) (hb : PE X b (tD (cc X ga Z) H0 S0 (wE G x mb))) : PE X (.Subscript a (.Slice (some b) none none p2) pos) (tD (cc X ga Z) H0 S0 (wE G x (.slL m ma mb))) := by
  refine PE.imp (pe_slice (slcOk (ga := ga) (Z := Z) m) ha (po_some hb) po_none) fun σ H Q q => ?_
  obtain ⟨σd, S, rs, rp, ex, w⟩ := q
  unfold wE at w
  refine ⟨σd, S, rs, rp, ex, wE_mono (fun u S1 q H1 v rp1 e1 r1 => ⟨σd, S1, rs.ext e1, rp1, ex.trans e1, wE_mono (fun w S2 q H2 z rp2 e2 r2 => ?_) mb σd S1 q⟩) ma σd S w⟩
  obtain ⟨i, rfl, r, h1, h2⟩ := q
  refine ⟨i, rel_int r2, u, S2, rp2, r1.ext e2, r, h1, fin_mono (fun d S' => kD_ext (e1.trans e2)) h2⟩
theorem slU_v {a b : Expr} {pos p2 : Pos} {m : Bool} {ma mb : ME} (ha : PE X a (tD (cc X ga Z) H0 S0 (wE G x ma))) (hb : PE X b (tD (cc X ga Z) H0 S0 (wE G x mb))) : PE X (.Subscript a (.Slice none (some b) none p2) pos) (tD (cc X ga Z) H0 S0 (wE G x (.slU m ma mb))) := by
  refine PE.imp (pe_slice (slcOk (ga := ga) (Z := Z) m) ha po_none (po_some hb)) fun σ H Q q => ?_
  obtain ⟨σd, S, rs, rp, ex, w⟩ := q
  unfold wE at w
  refine ⟨σd, S, rs, rp, ex, wE_mono (fun u S1 q H1 v rp1 e1 r1 => ⟨σd, S1, rs.ext e1, rp1, ex.trans e1, wE_mono (fun w S2 q H2 z rp2 e2 r2 => ?_) mb σd S1 q⟩) ma σd S w⟩
  obtain ⟨i, rfl, r, h1, h2⟩ := q
  refine ⟨i, rel_int r2, u, S2, rp2, r1.ext e2, r, h1, fin_mono (fun d S' => kD_ext (e1.trans e2)) h2⟩
theorem slLU_v {a b c : Expr} {pos p2 : Pos} {m : Bool} {ma mb mc : ME} (ha : PE X a (tD (cc X ga Z) H0 S0 (wE G x ma))) (hb : PE X b (tD (cc X ga Z) H0 S0 (wE G x mb))) (hc : PE X c (tD (cc X ga Z) H0 S0 (wE G x mc))) :
    PE X (.Subscript a (.Slice (some b) (some c) none p2) pos) (tD (cc X ga Z) H0 S0 (wE G x (.slLU m ma mb mc))) := by
  refine PE.imp (pe_slice (slcOk (ga := ga) (Z := Z) m) ha (po_some hb) (po_some hc)) fun σ H Q q => ?_
  obtain ⟨σd, S, rs, rp, ex, w⟩ := q
  unfold wE at w
  refine ⟨σd, S, rs, rp, ex, wE_mono (fun u S1 q H1 v rp1 e1 r1 => ⟨σd, S1, rs.ext e1, rp1, ex.trans e1, wE_mono (fun w S2 q H2 z rp2 e2 r2 => ?_) mb σd S1 q⟩) ma σd S w⟩
  obtain ⟨i, rfl, q⟩ := q
  have e12 := e1.trans e2
  refine ⟨i, rel_int r2, σd, S2, rs.ext e12, rp2, ex.trans e12, wE_mono (fun y S3 q H3 z3 rp3 e3 r3 => ?_) mc σd S2 q⟩
  obtain ⟨j, rfl, r, h1, h2⟩ := q
  exact ⟨j, rel_int r3, u, S3, rp3, (r1.ext e2).ext e3, r, h1, fin_mono (fun d S' => kD_ext (e12.trans e3)) h2⟩
theorem tup_v {es : List Expr} {k : Nat} {pos : Pos} {ms : List ME} (h : PA X es (tDA (cc X ga Z) H0 S0 (wEs G x ms))) : PE X (.Tuple es k pos) (tD (cc X ga Z) H0 S0 (wE G x (.tup ms))) := by
  refine PE.imp (pe_tup h) fun σ H Q q => ?_
  obtain ⟨σd, S, rs, rp, ex, w⟩ := q
  unfold wE at w
  refine ⟨σd, S, rs, rp, ex, wEs_mono (fun ds S1 q H1 vs rp1 e1 r1 => ?_) ms σd S w⟩
  exact ⟨by rw [r1.len]; exact q.1, kD_tup rp1 (kD_ext e1 q.2) r1⟩
theorem lst_v {es : List Expr} {pos : Pos} {m : Bool} {ms : List ME} (h : PA X es (tDA (cc X ga Z) H0 S0 (wEs G x ms))) : PE X (.List es pos) (tD (cc X ga Z) H0 S0 (wE G x (.lst m ms))) := by
  refine PE.imp (pe_lst h) fun σ H Q q => ?_
  obtain ⟨σd, S, rs, rp, ex, w⟩ := q
  unfold wE at w
  refine ⟨σd, S, rs, rp, ex, wEs_mono (fun ds S1 q H1 vs rp1 e1 r1 => ?_) ms σd S w⟩
  exact ⟨by rw [r1.len]; exact q.1, fin_new rp1 (fin_mono (fun d S' => kD_ext e1) q.2) r1⟩
theorem boot_bf (f : Bf) : bootBuiltins f.nm = some (bfV f) := by cases f <;> decide +kernel
theorem bf_name (f : Bf) : f.nm ≠ "__name__" ∧ (f.nm == ("__debug__" : Str)) = false := by cases f <;> exact ⟨by decide +kernel, by decide +kernel⟩
theorem blt_v {sc : Scope} (g : Gd X sc ga Z H0 S0 G x) {f : Bf} {m : Bool} {e : Expr} {es : List Expr} {p pos : Pos} {ms : List ME} (hg : gloB sc f.nm = true) (hm : matchEs X.N sc ms (e :: es) = true) (h : PA X (e :: es) (tDA (cc X ga Z) H0 S0 (wEs G x ms))) :
    PE X (.Call (.Name f.nm p) (e :: es) [] pos) (tD (cc X ga Z) H0 S0 (wE G x (.blt f m ms))) := by
  have hs : starEach (e :: es) X.env = (false, eval e X.env) :: starEach es X.env ∧ (backTo pos (starEach es X.env)).any (·.1) = false := by
    cases ms with
    | nil => unfold matchEs at hm; cases hm
    | cons m ms =>
      unfold matchEs at hm
      obtain ⟨h1, h2⟩ := and2 hm
      exact ⟨starEach_cons h1, (star_all (and2 h2).2).1⟩
  have imp : ∀ σ H Q, tD (cc X ga Z) H0 S0 (wE G x (.blt f m ms)) σ H Q → tCB (rDc (cc X ga Z) fun us S k => ∃ r, bltR f us S = some r ∧ fin m r S k) (tDA (cc X ga Z) H0 S0 (wEs G x ms)) σ H Q := fun σ H Q q => by
    obtain ⟨σd, S, rs, rp, ex, w⟩ := q
    unfold wE at w
    refine tD_args (fun u S k k' hk z => ?_) ⟨σd, S, rs, rp, ex, w⟩
    obtain ⟨r, h1, h2⟩ := z
    exact ⟨r, h1, fin_mono hk h2⟩
  have hc := bltOk (X := X) (ga := ga) (Z := Z) g.calm g.room f m
  have hb := boot_bf f
  have hn := bf_name f
  have hgl := g.sck.glo hg
  have hmg := g.blt f
  cases f with
  | int => exact PE.imp (pe_callTy hc hgl hmg hb h hn.1 hn.2 hs.1 hs.2) imp
  | list => exact PE.imp (pe_callTy hc hgl hmg hb h hn.1 hn.2 hs.1 hs.2) imp
  | len => exact PE.imp (pe_callB hc hgl hmg hb h hn.1 hn.2 hs.1 hs.2) imp
  | abs => exact PE.imp (pe_callB hc hgl hmg hb h hn.1 hn.2 hs.1 hs.2) imp
  | max => exact PE.imp (pe_callB hc hgl hmg hb h hn.1 hn.2 hs.1 hs.2) imp
  | sum => exact PE.imp (pe_callB hc hgl hmg hb h hn.1 hn.2 hs.1 hs.2) imp
  | all => exact PE.imp (pe_callB hc hgl hmg hb h hn.1 hn.2 hs.1 hs.2) imp
  | isinstance => exact PE.imp (pe_callB hc hgl hmg hb h hn.1 hn.2 hs.1 hs.2) imp
  | min => exact PE.imp (pe_callB hc hgl hmg hb h hn.1 hn.2 hs.1 hs.2) imp
  | any => exact PE.imp (pe_callB hc hgl hmg hb h hn.1 hn.2 hs.1 hs.2) imp
  | sorted => exact PE.imp (pe_callB hc hgl hmg hb h hn.1 hn.2 hs.1 hs.2) imp
  | tuple => exact PE.imp (pe_callTy hc hgl hmg hb h hn.1 hn.2 hs.1 hs.2) imp
  | dict => exact PE.imp (pe_callTy hc hgl hmg hb h hn.1 hn.2 hs.1 hs.2) imp
  | str => exact PE.imp (pe_callTy hc hgl hmg hb h hn.1 hn.2 hs.1 hs.2) imp
  | set => exact PE.imp (pe_callTy hc hgl hmg hb h hn.1 hn.2 hs.1 hs.2) imp
theorem lns_v {sc : Scope} (g : Gd X sc ga Z H0 S0 G x) {a : Expr} {p p2 q pos : Pos} {ma : ME} (h1 : gloB sc "len" = true) (h2 : gloB sc "set" = true) (hm : notStar a = true) (ha : PE X a (tD (cc X ga Z) H0 S0 (wE G x ma))) :
    PE X (.Call (.Name "len" p) [.Call (.Name "set" p2) [a] [] q] [] pos) (tD (cc X ga Z) H0 S0 (wE G x (.lns ma))) := by
  refine PE.imp (pe_lenM g.calm (g.sck.glo h1) (g.blt .len) (g.sck.glo h2) (g.blt .set) ha (starEach_cons hm)) fun σ H Q q => ?_
  obtain ⟨σd, S, rs, rp, ex, w⟩ := q
  unfold wE at w
  refine ⟨σd, S, rs, rp, ex, wE_mono (fun d S1 z H1 v rp1 e1 r1 => ?_) ma σd S w⟩
  obtain ⟨r, z1, z2⟩ := z
  unfold lnsR at z1
  split at z1
  · rename_i ds hs
    split at z1
    · rename_i l hl
      obtain ⟨c, rfl⟩ := g?_some z1
      obtain ⟨b, vs, rfl, h3, z3⟩ := seqOf_sq rp1 r1 hs
      obtain ⟨rfl, _⟩ := strs_rel z3 hl
      exact ⟨b, l, rfl, h3, c, z2 H1 _ rp1 e1 mk_int⟩
    · cases z1
  · cases z1
def Bm.ty : Bm → String
  | .append => "list" | .get => "dict" | .setdefault => "dict" | .join => "str" | .split => "str"
def Bm.id : Bm → String
  | .append => "list.append" | .get => "dict.get" | .setdefault => "dict.setdefault" | .join => "str.join" | .split => "str.split"
theorem bmT_ty {C : Cc} (hC : C.K = X.K) {H : Hp} {S : Sto} {f : Bm} {u : D} {v : V} (rp : Rp C H S) (r : RelD C H S u v) (h : bmT f u S = true) : tyV X.K f.ty v H := by
  cases f with
  | append =>
    obtain ⟨l, hl⟩ := Option.isSome_iff_exists.mp (show (listOf S u).isSome = true from h)
    obtain ⟨a, vs, rfl, h1, _⟩ := listOf_sq rp r hl
    exact .inl ⟨rfl, vs, .of h1⟩
  | get =>
    cases u with
    | ref a =>
      unfold RelD at r
      subst r
      have h : (match S a with
        | some (.dct _) => true
        | some (.dcT _) => true
        | _ => false) = true := h
      split at h
      · rename_i kvs e
        obtain ⟨o0, h1, l, rfl, _⟩ := rp.obj a _ e
        exact .inr (.inr (.inl ⟨rfl, .inl ⟨l, h1⟩⟩))
      · rename_i kvs e
        obtain ⟨o0, h1, l, rfl, _⟩ := rp.obj a _ e
        exact .inr (.inr (.inl ⟨rfl, .inr ⟨l, h1⟩⟩))
      · cases h
    | _ => cases h
  | setdefault =>
    cases u with
    | ref a =>
      unfold RelD at r
      subst r
      obtain ⟨kvs, hk⟩ := Option.isSome_iff_exists.mp (show (dctW S a).isSome = true from h)
      obtain ⟨o0, h1, l, rfl, _⟩ := rp.obj a _ (dctW_some hk)
      exact .inr (.inr (.inl ⟨rfl, .inl ⟨l, h1⟩⟩))
    | _ => cases h
  | join =>
    cases u with
    | str z => rw [rel_str r]; rfl
    | _ => cases h
  | split =>
    cases u with
    | str z => rw [rel_str r]; rfl
    | _ => cases h
theorem mtOk (hu : X.A.units + 64 < cLine) (f : Bm) (m : Bool) : MtR X f.id (rDm (cc X ga Z) fun u us S k => ∃ r, bmR f u us S = some r ∧ fin m r S k) := by
  intro pins s σ H x xs v us Q I rx rxs h
  obtain ⟨u, ds, S, rp, r1, r2, r, hb, hf⟩ := h
  unfold bmR at hb
  split at hb
  · rename_i a d
    split at hb
    · rename_i l' hl'
      obtain ⟨c, rfl⟩ := g?_some hb
      unfold RelD at r1
      subst r1
      obtain ⟨w, rfl, r3⟩ := rel1 r2
      have hS := lstAt_some hl'
      obtain ⟨o, h2, h3⟩ := rp.obj a _ hS
      obtain ⟨ys, rfl, z⟩ := h3
      refine mt_append pins s σ H _ _ v us Q I rx rxs ⟨a, ys, w, rfl, rfl, h2, by rw [z.len]; exact c, ?_⟩
      have eS := Ext.set (H := H) (S := S) (p := a) (o := .lst (ys ++ [w])) (m := .lst (l' ++ [d])) hS
      exact hf _ _ (rp.set hS ⟨_, rfl, (z.app (RelDs.cons r3 RelDs.nil)).ext eS⟩) eS mk_non
    · cases hb
  · rename_i a i d
    obtain ⟨o, h1, rfl⟩ := Option.map_eq_some_iff.mp hb
    obtain ⟨w, z, rfl, r3, r4⟩ := rel2 r2
    obtain ⟨a', ov, ea, g, e1, e2⟩ := dGet_ok rp r1 r3 h1
    subst ea
    cases (show v = Value.ref a' from rx)
    cases rxs with
    | cons q1 q2 =>
      cases q2 with
      | cons q2 q3 =>
        cases q3
        refine d_get2 (by omega) I g q1 q2 fun w' s' I' rw' => ⟨_, H, I', rw', ?_⟩
        cases o with
        | none =>
          have e3 : ov = none := by
            cases ov with
            | none => rfl
            | some z => cases e1
          rw [e3]
          exact kD_val rp hf r4
        | some d' =>
          obtain ⟨z', rfl, rz⟩ := e2 _ rfl
          exact kD_val rp hf rz
  · rename_i a i d
    obtain ⟨w, z, rfl, r3, r4⟩ := rel2 r2
    split at hb
    · rename_i kvs k hk hi
      have hS := dctW_some hk
      obtain ⟨o0, h2, l, rfl, rk⟩ := rp.obj a _ hS
      unfold RelD at r1
      subst r1
      cases (show v = Value.ref a from rx)
      cases keyOf_rel r3 hi
      cases rxs with
      | cons q1 q2 =>
        cases q2 with
        | cons q2 q3 =>
          cases q3
          obtain ⟨c, rfl⟩ := g?_some hb
          refine d_setd I h2 q1 q2 (by rw [rk.len]; exact c) (fun v0 hv w' s' I' rw' => ⟨v0, H, I', rw', ?_⟩) (fun hn w' s' I' rw' => ⟨z, _, I', rw', ?_⟩)
          · cases hg : gv kvs k with
            | none => rw [rk.none hg] at hv; cases hv
            | some d' =>
              rw [hg] at hf
              obtain ⟨z', hz, rz⟩ := rk.some hg
              rw [hv] at hz
              cases hz
              exact kD_val rp hf rz
          · cases hg : gv kvs k with
            | some d' =>
              obtain ⟨z', hz, rz⟩ := rk.some hg
              rw [hn] at hz
              cases hz
            | none =>
              rw [hg] at hf
              have eS := Ext.set (H := H) (S := S) (p := a) (o := .dK (putK l k z)) (m := .dct (gp kvs k d)) hS
              exact hf _ _ (rp.set hS ⟨_, rfl, (rk.put k r4).ext eS⟩) eS (r4.ext eS)
    · cases hb
  · rename_i z x'
    obtain ⟨w, rfl, r3⟩ := rel1 r2
    split at hb
    · rename_i ds hs
      split at hb
      · rename_i ys hy
        obtain ⟨⟨c1, c2⟩, rfl⟩ := g?_some hb
        obtain ⟨a, vs, rfl, h1, q⟩ := seqOf_sq rp r3 hs
        obtain ⟨rfl, _⟩ := strs_rel q hy
        cases rel_str r1
        exact mt_join pins s σ H _ _ v us Q I rx rxs ⟨z, a, ys, rfl, rfl, h1, c1, kD_val rp hf (mk_str c2)⟩
      · cases hb
    · cases hb
  · rename_i z b
    obtain ⟨⟨c1, c2, c3⟩, rfl⟩ := g?_some hb
    obtain ⟨w, rfl, r3⟩ := rel1 r2
    cases rel_str r1; cases rel_str r3
    exact mt_split pins s σ H _ _ v us Q I rx rxs ⟨z, b, rfl, rfl, c1, c2, fin_new rp hf (rel_strs c3)⟩
  · cases hb
theorem bm_v (hu : X.A.units + 64 < cLine) {sc : Scope} {f : Bm} {m : Bool} {o e : Expr} {es : List Expr} {ap pos : Pos} {mo : ME} {ms : List ME} (hl : (ap.endLine == pos.line) = true) (hsu : notSuper o = true) (hfew : es.length < 20) (hm : matchEs X.N sc ms (e :: es) = true)
    (ho : PE X o (tD (cc X ga Z) H0 S0 (wE G x mo))) (h : PA X (e :: es) (tDA (cc X ga Z) H0 S0 (wEs G x ms))) :
    PE X (.Call (.Attribute o f.nm ap) (e :: es) [] pos) (tD (cc X ga Z) H0 S0 (wE G x (.bm f m mo ms))) := by
  have hs : starEach (e :: es) X.env = (false, eval e X.env) :: starEach es X.env ∧ (backTo pos (starEach es X.env)).any (·.1) = false := by
    cases ms with
    | nil => unfold matchEs at hm; cases hm
    | cons m ms =>
      unfold matchEs at hm
      obtain ⟨h1, h2⟩ := and2 hm
      exact ⟨starEach_cons h1, (star_all (and2 h2).2).1⟩
  have hf : ((backTo pos (starEach (e :: es) X.env)).all (fun x => !x.1) && (backToKw pos (keywordEach [] X.env)).all (fun x => x.1.isSome)
      && decide ((e :: es).length + ([] : List Keyword).length + (if ([] : List Keyword).isEmpty then 0 else 1) < 30)) = true := by
    rw [(star_all (env := X.env) (pos := pos) hm).2]
    show (true && true && decide (es.length + 1 + 0 + 0 < 30)) = true
    simp only [Bool.true_and, decide_eq_true_eq]
    omega
  have imp : ∀ σ H Q, tD (cc X ga Z) H0 S0 (wE G x (.bm f m mo ms)) σ H Q → tBM X.K f.ty (rDm (cc X ga Z) fun u us S k => ∃ r, bmR f u us S = some r ∧ fin m r S k) (tD (cc X ga Z) H0 S0 (wE G x mo)) (tDA (cc X ga Z) H0 S0 (wEs G x ms)) σ H Q := fun σ H Q q => by
    obtain ⟨σd, S, rs, rp, ex, w⟩ := q
    unfold wE at w
    refine ⟨σd, S, rs, rp, ex, wE_mono (fun u S1 q H1 v rp1 e1 r1 => ?_) mo σd S w⟩
    obtain ⟨t1, q⟩ := q
    refine ⟨bmT_ty rfl rp1 r1 t1, σd, S1, rs.ext e1, rp1, ex.trans e1, wEs_mono (fun ds S2 q H2 ws rp2 e2 r2 => ?_) ms σd S1 q⟩
    obtain ⟨r, hb, hf⟩ := q
    exact ⟨u, ds, S2, rp2, r1.ext e2, r2, r, hb, fin_mono (fun d S' => kD_ext (e1.trans e2)) hf⟩
  cases f with
  | append => exact PE.imp (pe_bm PySem.F.plainAttrs_list PySem.F.slot_list_append PySem.F.type_list_append (mtOk hu .append m) ho h (notSuper_base hsu) hf hl hs.1 hs.2) imp
  | get => exact PE.imp (pe_bm PySem.F.plainAttrs_dict PySem.F.slot_dict_get PySem.F.type_dict_get (mtOk hu .get m) ho h (notSuper_base hsu) hf hl hs.1 hs.2) imp
  | setdefault => exact PE.imp (pe_bm PySem.F.plainAttrs_dict PySem.F.slot_dict_setdefault PySem.F.type_dict_setdefault (mtOk hu .setdefault m) ho h (notSuper_base hsu) hf hl hs.1 hs.2) imp
  | join => exact PE.imp (pe_bm PySem.F.plainAttrs_str PySem.F.slot_str_join PySem.F.type_str_join (mtOk hu .join m) ho h (notSuper_base hsu) hf hl hs.1 hs.2) imp
  | split => exact PE.imp (pe_bm PySem.F.plainAttrs_str PySem.F.slot_str_split PySem.F.type_str_split (mtOk hu .split m) ho h (notSuper_base hsu) hf hl hs.1 hs.2) imp
/-- f(e, ..) of an own def -/
theorem call_v {sc : Scope} (g : Gd X sc ga Z H0 S0 G x) {f : Str} {e : Expr} {es : List Expr} {p pos : Pos} {ms : List ME} (hg : gloB sc f = true) (hd : dbgB f = true) (hm : matchEs X.N sc ms (e :: es) = true) (h : PA X (e :: es) (tDA (cc X ga Z) H0 S0 (wEs G x ms))) :
    PE X (.Call (.Name f p) (e :: es) [] pos) (tD (cc X ga Z) H0 S0 (wE G x (.call f ms))) := by
  have hs : starEach (e :: es) X.env = (false, eval e X.env) :: starEach es X.env ∧ (backTo pos (starEach es X.env)).any (·.1) = false := by
    cases ms with
    | nil => unfold matchEs at hm; cases hm
    | cons m ms =>
      unfold matchEs at hm
      obtain ⟨h1, h2⟩ := and2 hm
      exact ⟨starEach_cons h1, (star_all (and2 h2).2).1⟩
  have hdb : (f == ("__debug__" : Str)) = false := by
    have := (and2 (and2 hd).1).1
    simpa using this
  by_cases hf : ∃ sp, G.fn f = some (ms.length, sp)
  · obtain ⟨sp, hf⟩ := hf
    obtain ⟨fa, fd, k, ps, hps, hmg, F, hr, hk, hb⟩ := (g.fns f _ sp hf).ex
    refine PE.imp (pe_callSD (dvs := []) (ds := []) (E := fun σ cls d H' => liftX (cc X ga Z) H0 S0 x cls d σ H') F hr (g.sck.glo hg) hmg hk hb .nil (fun σ => (fun ⟨_, _, _, _, _, hL⟩ => passAtL hL g.tk σ) g.frm) h hdb hs.1 hs.2) fun σ H Q q => ?_
    obtain ⟨σd, S, rs, rp, ex, w⟩ := q
    unfold wE at w
    obtain ⟨sp', h1, w⟩ := w
    rw [hf] at h1
    cases h1
    refine ⟨σd, S, rs, rp, ex, wEs_mono (fun ds S1 q H1 vs rp1 e1 r1 => ?_) ms σd S (wEs_len ms σd S _ w)⟩
    refine ⟨by rw [List.append_nil, r1.len, q.1], ds, S1, Z, by rw [List.append_nil]; exact r1, rp1, callW_mono (fun d S' => kD_ext e1) (fun e S' hx H' cls d rp' e' rx => ?_) q.2⟩
    exact ⟨e, σd, S', rs.ext (e1.trans e'), rp', ex.trans (e1.trans e'), rx, hx⟩
  · refine ⟨fun pins s σ H Q I q => ?_⟩
    exfalso
    obtain ⟨σd, S, rs, rp, ex, w⟩ := q
    unfold wE at w
    obtain ⟨sp', h1, w⟩ := w
    exact hf ⟨sp', h1⟩
end
theorem meth_eval {o : Expr} {m : Str} {apos pos : Pos} {as : List Expr} {env : PySem.Env} (hs : notSuper o = true) (hf : methodCallForm (as.length + ([] : List Keyword).length) (backTo pos (starEach as env)) (backToKw pos (keywordEach [] env)) = true) (hl : (apos.endLine == pos.line) = true) :
    eval (.Call (.Attribute o m apos) as [] pos) env = (do
      let ov ← eval o env
      standAt apos.atName
      let (f, first) ← holding [ov] (getMethod ov m (do return (← importBound o env).getD true))
      callWith pos f first (backTo pos (starEach as env)) (backToKw pos (keywordEach [] env))) := by
  show (do
    let ov ← attributeBase o m env (eval o env)
    standAt apos.atName
    methodCall o m apos pos env ov (as.length + ([] : List Keyword).length) (backTo pos (starEach as env)) (backToKw pos (keywordEach [] env))) = _
  rw [notSuper_base hs]
  unfold methodCall calleeOf methodCallPos
  rw [hf]
  simp [hl]
section
variable {X : Cx} {CX : CXT} {k : Nat} {f C : Addr} {fd : FuncData} {ps : List Str} {sp : Sp} {E : St → XK} {m : Str} {pos apos : Pos} {e o : Expr} {es : List Expr} {ta : TE} {t : TA}
def tMethS (C : Addr) (m : Str) (sp : Sp) (E : St → XK) (ta : TE) (t : TA) : TE := fun σ H Q => ta σ H fun x H1 => ∃ a dx fs, x = .ref a ∧ H1 a = some (.ins C dx fs) ∧ fs.lookup m = none ∧
  t σ H1 fun vs H2 => sp (x :: (vs ++ [])) H2 Q (E σ)
theorem pe_methSD {pl : Sem Bool} (he : PE X o ta) (c : Cls X.K C) (hm : Meth X.K C m f) (F : FnOk X.prog X.w X.K X.mg X.base CX k f fd ps sp) (hr : Room k X.A) (hb : Binds X.K fd ps []) (hx : ∀ σ, PassesAt CX X σ (E σ)) (ha : PA X (e :: es) t)
    (hst : starEach (e :: es) X.env = (false, eval e X.env) :: starEach es X.env) (hpl : (backTo pos (starEach es X.env)).any (·.1) = false)
    (ht : eval (.Call (.Attribute o m apos) (e :: es) [] pos) X.env = (do
      let ov ← eval o X.env
      standAt apos.atName
      let (f, first) ← holding [ov] (getMethod ov m pl)
      callWith pos f first (backTo pos (starEach (e :: es) X.env)) (backToKw pos (keywordEach [] X.env)))) :
    PE X (.Call (.Attribute o m apos) (e :: es) [] pos) (tMethS C m sp E ta t) := by
  refine ⟨fun pins s σ H Q I h => ?_⟩
  refine PySem.W.methodCall_KW (pl := pl) (thn (he.run pins s σ H _ I h) fun u s1 ⟨x, H1, I1, rx, a, dx, fs, ex, ea, l, q⟩ => ?_) ht
  subst ex
  obtain rfl : u = Value.ref a := rx
  refine getmeth_ok I1 ea c hm l ?_
  refine PySem.W.callWith_K (first := [.ref a]) (h₀ := X.base) I.ok.mod.kin hm.kp (thn (ha.run pos pins s1 σ H1 _ I1 q) fun us s2 ⟨vs, H2, I2, r, q2⟩ => ⟨I2.kIn, ?_⟩) hst hpl
  exact run_fnSD (us := .ref a :: us) (vs := .ref a :: vs) (dvs := []) (ds := []) F hr hb .nil (hx σ) I2 (.cons rfl r) q2
theorem pe_methSD0 {pl : Sem Bool} (he : PE X o ta) (c : Cls X.K C) (hm : Meth X.K C m f) (F : FnOk X.prog X.w X.K X.mg X.base CX k f fd ps sp) (hr : Room k X.A) (hb : Binds X.K fd ps []) (hx : ∀ σ, PassesAt CX X σ (E σ))
    (ht : eval (.Call (.Attribute o m apos) [] [] pos) X.env = (do
      let ov ← eval o X.env
      standAt apos.atName
      let (f, first) ← holding [ov] (getMethod ov m pl)
      callWith pos f first (backTo pos (starEach [] X.env)) (backToKw pos (keywordEach [] X.env)))) :
    PE X (.Call (.Attribute o m apos) [] [] pos) (tMethS C m sp E ta tNil) := by
  refine ⟨fun pins s σ H Q I h => ?_⟩
  refine PySem.W.methodCall_KW (pl := pl) (thn (he.run pins s σ H _ I h) fun u s1 ⟨x, H1, I1, rx, a, dx, fs, ex, ea, l, q⟩ => ?_) ht
  subst ex
  obtain rfl : u = Value.ref a := rx
  refine getmeth_ok I1 ea c hm l ?_
  exact PySem.W.callWith_K0 (first := [.ref a]) I1.kIn hm.kp (run_fnSD (us := [.ref a]) (vs := [.ref a]) (dvs := []) (ds := []) F hr hb .nil (hx σ) I1 (.cons rfl .nil) q)
theorem passes_no {P : Program} {w : World} {X : Cx} : Passes (L2N.CX P w) X (fun _ _ _ => False) := fun _ _ _ _ _ _ _ c => by
  obtain ⟨_, _, _, _, _, _, _, _, _, _, _, _, z⟩ := c
  exact z.elim
end
section
variable {X : Cx} {ga : Str → Addr} {Z : Addr → Prop} {H0 : Hp} {S0 : Sto} {G : Gc} {x : XW}
theorem att_v {sc : Scope} (g : Gd X sc ga Z H0 S0 G x) {o : Expr} {f : Str} {pos : Pos} {mo : ME} (hsu : notSuper o = true) (ho : PE X o (tD (cc X ga Z) H0 S0 (wE G x mo))) : PE X (.Attribute o f pos) (tD (cc X ga Z) H0 S0 (wE G x (.att mo f))) := by
  refine PE.imp (pe_fld ho (notSuper_base hsu)) fun σ H Q q => ?_
  obtain ⟨σd, S, rs, rp, ex, w⟩ := q
  unfold wE at w
  refine ⟨σd, S, rs, rp, ex, wE_mono (fun u S1 q H1 v rp1 e1 r1 => ?_) mo σd S w⟩
  obtain ⟨a, c, fs, d, rfl, hS, hf, hl, hk⟩ := q
  unfold RelD at r1
  subst r1
  obtain ⟨ob, h2, h3⟩ := rp1.obj a _ hS
  obtain ⟨dx, l, rfl, rf⟩ := h3
  obtain ⟨w, h3, h4⟩ := rf.some hl
  exact ⟨a, ga c, dx, l, w, rfl, h2, (g.flds c f hf).1, (g.flds c f hf).2, h3, hk H1 w rp1 e1 h4⟩
theorem mth_v {sc : Scope} (g : Gd X sc ga Z H0 S0 G x) {c m : Str} {o : Expr} {es : List Expr} {ap pos : Pos} {mo : ME} {ms : List ME} (hl : (ap.endLine == pos.line) = true) (hsu : notSuper o = true) (hfew : es.length < 20) (hm : matchEs X.N sc ms es = true)
    (ho : PE X o (tD (cc X ga Z) H0 S0 (wE G x mo))) (h : PA X es (tDA (cc X ga Z) H0 S0 (wEs G x ms))) : PE X (.Call (.Attribute o m ap) es [] pos) (tD (cc X ga Z) H0 S0 (wE G x (.mth c mo m ms))) := by
  have hf : methodCallForm (es.length + ([] : List Keyword).length) (backTo pos (starEach es X.env)) (backToKw pos (keywordEach [] X.env)) = true := by
    unfold methodCallForm
    rw [(star_all (env := X.env) (pos := pos) hm).2]
    show (true && true && decide (es.length + 0 + 0 < 30)) = true
    simp only [Bool.true_and, decide_eq_true_eq]
    omega
  have ht := meth_eval (m := m) hsu hf hl
  by_cases hmt : ∃ sp, G.mt c m = some (ms.length + 1, sp)
  · obtain ⟨sp, hmt⟩ := hmt
    obtain ⟨fa, fd, k, ps, hps, hC, hM, F, hr, hb⟩ := (g.mts c m _ sp hmt).ex
    have hp : ∀ σ, PassesAt (L2N.CX X.prog X.w) X σ (WE (liftX (cc X ga Z) H0 S0 x) σ) := fun σ => (fun ⟨_, _, _, _, _, hL⟩ => passAtL hL g.tk σ) g.frm
    have imp : ∀ σ H Q, tD (cc X ga Z) H0 S0 (wE G x (.mth c mo m ms)) σ H Q → tMethS (ga c) m (lift X.K ga (ms.length + 1) sp) (WE (liftX (cc X ga Z) H0 S0 x)) (tD (cc X ga Z) H0 S0 (wE G x mo)) (tDA (cc X ga Z) H0 S0 (wEs G x ms)) σ H Q := fun σ H Q q => by
      obtain ⟨σd, S, rs, rp, ex, w⟩ := q
      unfold wE at w
      obtain ⟨sp', h1, w⟩ := w
      rw [hmt] at h1
      cases h1
      refine ⟨σd, S, rs, rp, ex, wE_mono (fun u S1 q H1 v rp1 e1 r1 => ?_) mo σd S w⟩
      obtain ⟨a, fs, rfl, hS, hlk, q⟩ := q
      have r0 := r1
      unfold RelD at r1
      subst r1
      obtain ⟨ob, h2, h3⟩ := rp1.obj a _ hS
      obtain ⟨dx, l, rfl, rf⟩ := h3
      refine ⟨a, dx, l, rfl, h2, rf.none hlk, σd, S1, rs.ext e1, rp1, ex.trans e1, wEs_mono (fun ds S2 q H2 vs rp2 e2 r2 => ?_) ms σd S1 (wEs_len ms σd S1 _ q)⟩
      refine ⟨by rw [List.append_nil, List.length_cons, r2.len, q.1], .ref a :: ds, S2, Z, ?_, rp2, callW_mono (fun d S' => kD_ext (e1.trans e2)) (fun e S' hx H' cls d rp' e' rx => ?_) q.2⟩
      · rw [List.append_nil]
        exact RelDs.cons (r0.ext e2) r2
      · exact ⟨e, σd, S', rs.ext ((e1.trans e2).trans e'), rp', ex.trans ((e1.trans e2).trans e'), rx, hx⟩
    cases es with
    | nil =>
      have e0 : ms = [] := List.length_eq_zero_iff.mp (matchEs_len hm)
      refine PE.imp (pe_methSD0 ho hC hM F hr hb hp ht) fun σ H Q q => ?_
      obtain ⟨σd, S, rs, rp, ex, w⟩ := imp σ H Q q
      refine ⟨σd, S, rs, rp, ex, wE_mono (fun u S1 q H1 v rp1 e1 r1 => ?_) mo σd S w⟩
      obtain ⟨a, dx, fs, h1, h2, h3, σd', S2, rs2, rp2, ex2, w2⟩ := q H1 v rp1 e1 r1
      refine ⟨a, dx, fs, h1, h2, h3, ?_⟩
      subst e0
      unfold wEs at w2
      exact w2 H1 [] rp2 (Ext.refl _ _) RelDs.nil
    | cons e es =>
      have hs : starEach (e :: es) X.env = (false, eval e X.env) :: starEach es X.env ∧ (backTo pos (starEach es X.env)).any (·.1) = false := by
        cases ms with
        | nil => unfold matchEs at hm; cases hm
        | cons m ms =>
          unfold matchEs at hm
          obtain ⟨h1, h2⟩ := and2 hm
          exact ⟨starEach_cons h1, (star_all (and2 h2).2).1⟩
      exact PE.imp (pe_methSD ho hC hM F hr hb hp h hs.1 hs.2 ht) imp
  · refine ⟨fun pins s σ H Q I q => ?_⟩
    exfalso
    obtain ⟨σd, S, rs, rp, ex, w⟩ := q
    unfold wE at w
    obtain ⟨sp', h1, w⟩ := w
    exact hmt ⟨sp', h1⟩
theorem mk_v {sc : Scope} (g : Gd X sc ga Z H0 S0 G x) {c : Str} {es : List Expr} {p pos : Pos} {ms : List ME} (hg : gloB sc c = true) (hd : dbgB c = true) (hm : matchEs X.N sc ms es = true) (h : PA X es (tDA (cc X ga Z) H0 S0 (wEs G x ms))) :
    PE X (.Call (.Name c p) es [] pos) (tD (cc X ga Z) H0 S0 (wE G x (.mk c ms))) := by
  have hdb : (c == ("__debug__" : Str)) = false := by
    have := (and2 (and2 hd).1).1
    simpa using this
  by_cases hmk : ∃ sp, G.mkr c = some (ms.length + 1, sp)
  · obtain ⟨sp, hmk⟩ := hmk
    obtain ⟨fa, fd, k, ps, hps, hmg, hM, F, hr, hb⟩ := (g.mks c _ sp hmk).ex
    have imp : ∀ σ H Q, tD (cc X ga Z) H0 S0 (wE G x (.mk c ms)) σ H Q → tMake (ga c) (lift X.K ga (ms.length + 1) sp) [] (fun _ _ _ => False) (tDA (cc X ga Z) H0 S0 (wEs G x ms)) σ H Q := fun σ H Q q => by
      obtain ⟨σd, S, rs, rp, ex, w⟩ := q
      unfold wE at w
      obtain ⟨sp', h1, w⟩ := w
      rw [hmk] at h1
      cases h1
      refine ⟨σd, S, rs, rp, ex, wEs_mono (fun ds S1 q H1 vs rp1 e1 r1 p dx hp hdx hne => ?_) ms σd S (wEs_len ms σd S _ w)⟩
      obtain ⟨hlen, q⟩ := q
      have hp' : upd H1 dx (.own p) p = none := by rw [upd_ne (Ne.symm hne)]; exact hp
      have e2 : Ext H1 S1 (upd (upd H1 dx (.own p)) p (.ins (ga c) dx [])) (put S1 p (.ins c [])) := (Ext.new hdx).trans (Ext.newM hp')
      refine ⟨by rw [List.append_nil, List.length_cons, r1.len, hlen], .ref p :: ds, put S1 p (.ins c []), Z, ?_, (rp1.new hdx).newM hp' ⟨dx, [], rfl, rfl⟩, callW_mono (fun d S' hk H' v rp' e' r' => ?_) (fun e S' hx => hx.elim) (q p (rp1.free hp))⟩
      · rw [List.append_nil]
        exact RelDs.cons (by unfold RelD; rfl) (r1.ext e2)
      · obtain ⟨rfl, hk⟩ := hk
        refine ⟨by unfold RelD at r'; exact r', hk H' (.ref p) rp' ((e1.trans e2).trans e') (by unfold RelD; rfl)⟩
    cases es with
    | nil =>
      have e0 : ms = [] := List.length_eq_zero_iff.mp (matchEs_len hm)
      refine PE.imp (pe_make0 hM F hr (g.sck.glo hg) hmg hb .nil passes_no hdb) fun σ H Q q => ?_
      obtain ⟨σd, S, rs, rp, ex, w⟩ := imp σ H Q q
      subst e0
      unfold wEs at w
      exact w H [] rp (Ext.refl _ _) RelDs.nil
    | cons e es =>
      have hs : starEach (e :: es) X.env = (false, eval e X.env) :: starEach es X.env ∧ (backTo pos (starEach es X.env)).any (·.1) = false := by
        cases ms with
        | nil => unfold matchEs at hm; cases hm
        | cons m ms =>
          unfold matchEs at hm
          obtain ⟨h1, h2⟩ := and2 hm
          exact ⟨starEach_cons h1, (star_all (and2 h2).2).1⟩
      exact PE.imp (pe_make hM F hr (g.sck.glo hg) hmg hb .nil passes_no h hdb hs.1 hs.2) imp
  · refine ⟨fun pins s σ H Q I q => ?_⟩
    exfalso
    obtain ⟨σd, S, rs, rp, ex, w⟩ := q
    unfold wE at w
    obtain ⟨sp', h1, w⟩ := w
    exact hmk ⟨sp', h1⟩
theorem cst_pe {d : D} {c : Const} {k : Nat} {pos : Pos} (h : cstB d c = true) : ∃ v, PE X (.Constant c k pos) (tC v) ∧ ∀ C H S, RelD C H S d v := by
  cases d with
  | non => cases c with
    | none => exact ⟨_, pe_non, fun _ _ _ => mk_non⟩
    | _ => cases h
  | bl b => cases c with
    | bool b' =>
      have e : b = b' := by simpa [cstB] using h
      subst e
      exact ⟨_, pe_bl, fun _ _ _ => mk_bl⟩
    | _ => cases h
  | int i => cases c with
    | int j =>
      have e : i = j := of_decide_eq_true h
      subst e
      exact ⟨_, pe_int, fun _ _ _ => mk_int⟩
    | _ => cases h
  | str z => cases c with
    | str y =>
      obtain ⟨h1, h2⟩ := and2 h
      have e : z = y := of_decide_eq_true h1
      subst e
      exact ⟨_, pe_str, fun _ _ _ => mk_str h2⟩
    | _ => cases h
  | _ => cases h
theorem dct_pps {pos : Pos} : ∀ {kvs : List (Str × D)} {ks : List (Option Expr)} {vs : List Expr}, dctB kvs ks vs = true → ks.all (·.isSome) = true ∧ ks.length = vs.length ∧ ks.length = kvs.length ∧
    ∃ (trs : List (TE × TE)) (l : List (Key × V)), PPs X pos ks vs trs ∧ (∀ C H S, RelK C H S (kvs.map fun kv => ((.inr kv.1 : Key), kv.2)) l) ∧ ∀ σ H Q, Q (l.map fun kv => (kV kv.1, kv.2)) H → tPairs trs σ H Q
  | [], [], [], _ => ⟨rfl, rfl, rfl, [], [], pps_nil, fun _ _ _ => rfl, fun _ _ _ q => q⟩
  | [], [], _ :: _, h => by unfold dctB at h; cases h
  | [], _ :: _, _, h => by unfold dctB at h; cases h
  | (k, d) :: r, [], _, h => by unfold dctB at h; cases h
  | (k, d) :: r, none :: _, _, h => by unfold dctB at h; cases h
  | (k, d) :: r, some e :: ks, [], h => by cases e <;> first | (unfold dctB at h; cases h) | (rename_i c _ _; cases c <;> (unfold dctB at h; cases h))
  | (k, d) :: r, some e :: ks, v :: vs, h => by
    cases e with
    | Constant c kk p =>
      cases c with
      | str y =>
        cases v with
        | Constant c2 k2 p2 =>
          unfold dctB at h
          obtain ⟨h1, h⟩ := and2 h
          obtain ⟨h2, h⟩ := and2 h
          obtain ⟨h3, h4⟩ := and2 h
          have e : k = y := of_decide_eq_true h1
          subst e
          obtain ⟨a1, a2, a3, trs, l, b1, b2, b3⟩ := dct_pps h4
          obtain ⟨w, c1, c2⟩ := cst_pe (X := X) h3
          refine ⟨by simpa using a1, by simp [a2], by simp [a3], _, ((.inr k : Key), w) :: l, pps_cons pe_str c1 b1, fun C H S => ⟨w, l, rfl, c2 C H S, b2 C H S⟩, fun σ H Q q => ?_⟩
          exact b3 σ H _ q
        | _ => unfold dctB at h; cases h
      | _ => unfold dctB at h; cases h
    | _ => unfold dctB at h; cases h
theorem RelK.merge {C : Cc} {H : Hp} {S : Sto} : ∀ {kvs : List (Str × D)} {l : List (Key × V)} {acc : List (Key × D)} {l' : List (Key × V)}, RelK C H S (kvs.map fun kv => ((.inr kv.1 : Key), kv.2)) l → RelK C H S acc l' →
    RelK C H S (kvs.foldl (fun acc kv => gp acc (.inr kv.1) kv.2) acc) (mergeK l' l)
  | [], l, acc, l', h, q => by rw [show l = [] from h]; exact q
  | (k, d) :: r, l, acc, l', h, q => by
    obtain ⟨v, l1, rfl, h1, h2⟩ := h
    show RelK C H S (r.foldl (fun acc kv => gp acc (.inr kv.1) kv.2) (gp acc (.inr k) d)) (mergeK (putK l' (.inr k) v) l1)
    exact RelK.merge h2 (q.put _ h1)
theorem dct_v {kvs : List (Str × D)} {ks : List (Option Expr)} {vs : List Expr} {pos : Pos} (h : dctB kvs ks vs = true) (hl : kvs.length ≤ 15) : PE X (.Dict ks vs pos) (tD (cc X ga Z) H0 S0 (wE G x (.dct kvs))) := by
  obtain ⟨a1, a2, a3, trs, l, b1, b2, b3⟩ := dct_pps (X := X) (pos := pos) h
  cases ks with
  | nil =>
    have e1 : kvs = [] := List.length_eq_zero_iff.mp (by rw [← a3]; rfl)
    have e2 : vs = [] := List.length_eq_zero_iff.mp (by rw [← a2]; rfl)
    subst e1 e2
    refine PE.imp pe_dnewK fun σ H Q q p hp => ?_
    obtain ⟨σd, S, rs, rp, ex, w⟩ := q
    unfold wE at w
    exact w p (rp.free hp) _ (.ref p) (rp.newM hp ⟨[], rfl, rfl⟩) (Ext.newM hp) (by unfold RelD; rfl)
  | cons k ks =>
    refine PE.imp (pe_disp b1 a1 a2 (fun z => nomatch z) (by rw [a3]; exact hl)) fun σ H Q q p hp => ?_
    obtain ⟨σd, S, rs, rp, ex, w⟩ := q
    unfold wE at w
    have hln : l.length = kvs.length := by
      have := (b2 ⟨[], fun _ => 0, fun _ => False⟩ (fun _ => none) (fun _ => none)).len
      rw [this, List.length_map]
    refine b3 σ _ _ ⟨upd_same, l, rfl, by rw [hln]; exact hl, ?_⟩
    have e : upd (upd H p (.dK [])) p (.dK (mergeK [] l)) = upd H p (.dK (mergeK [] l)) := by
      funext b
      by_cases hb : b = p
      · subst hb; rw [upd_same, upd_same]
      · rw [upd_ne hb, upd_ne hb, upd_ne hb]
    rw [e]
    exact w p (rp.free hp) _ (.ref p) (rp.newM hp ⟨_, rfl, RelK.merge (b2 _ _ _) rfl⟩) (Ext.newM hp) (by unfold RelD; rfl)
end
def gD (C : Cc) (t : MT) : TG := fun v σ H Q => ∃ (d : D) (σd σ' : Env) (S : Sto), RelS C H S σd σ ∧ Rp C H S ∧ RelD C H S d v ∧ asgT t d σd = some σ' ∧
  ∀ σv, RelS C H S σ' σv → (∀ vs, (∀ i ∈ slots t, i ∈ vs) → wipe σv vs = wipe σ vs) → Q σv H
def gDs (C : Cc) (ts : List MT) : TGs := fun v σ H Q => ∃ (ds : List D) (σd σ' : Env) (S : Sto), RelS C H S σd σ ∧ Rp C H S ∧ RelDs C H S ds v ∧ asgTs ts ds σd = some σ' ∧
  ∀ σv, RelS C H S σ' σv → (∀ vs, (∀ i ∈ slotss ts, i ∈ vs) → wipe σv vs = wipe σ vs) → Q σv H
theorem PG.imp {X : Cx} {e : Expr} {t t' : TG} (h : PG X e t) (i : ∀ v σ H Q, t' v σ H Q → t v σ H Q) : PG X e t' := ⟨fun pins s σ H v u Q I r q => h.run pins s σ H v u Q I r (i v σ H Q q)⟩
theorem PGs.imp {X : Cx} {e : List Expr} {t t' : TGs} (h : PGs X e t) (i : ∀ v σ H Q, t' v σ H Q → t v σ H Q) : PGs X e t' := ⟨fun pins s σ H v u Q I r q => h.run pins s σ H v u Q I r (i v σ H Q q)⟩
theorem wipe_set {σ : St} {i : Nat} {o : Option V} : ∀ {vs : List Nat}, i ∈ vs → wipe (σ.set i o) vs = wipe σ vs
  | [], h => by simp at h
  | v :: vs, h => by
    unfold wipe
    by_cases e : i ∈ vs
    · rw [wipe_set e]
    · have ei : i = v := by
        rcases List.mem_cons.mp h with q | q
        · exact q
        · exact absurd q e
      subst ei
      have aux : ∀ (vs : List Nat) (σ : St), i ∉ vs → wipe (σ.set i o) vs = (wipe σ vs).set i o := by
        intro vs
        induction vs with
        | nil => intro σ _; rfl
        | cons w ws ih =>
          intro σ hn
          unfold wipe
          have hw : w ≠ i := fun q => hn (by rw [q]; exact List.mem_cons_self)
          rw [ih σ fun q => hn (List.mem_cons_of_mem _ q), List.set_comm _ _ (Ne.symm hw)]
      rw [aux vs σ e, List.set_set]
theorem assign_each {N : List Str} {sc : Scope} {env : PySem.Env} : ∀ {ts : List MT} {es : List Expr}, matchTs N sc ts es = true → (assignEach es env).length = ts.length ∧ (assignEach es env).findIdx? (·.1) = none ∧
    ∀ e r, es = e :: r → (assignEach (e :: r) env).map (·.2) = assign e env :: (assignEach r env).map (·.2)
  | [], [], _ => ⟨rfl, rfl, fun e r h => nomatch h⟩
  | [], _ :: _, h => by unfold matchTs at h; cases h
  | _ :: _, [], h => by unfold matchTs at h; cases h
  | t :: ts, e :: es, h => by
    unfold matchTs at h
    obtain ⟨h1, h2⟩ := and2 h
    obtain ⟨a1, a2, a3⟩ := assign_each (env := env) h2
    have hc : assignEach (e :: es) env = (false, assign e env) :: assignEach es env := by
      cases e with
      | Starred a b => cases t <;> (unfold matchT at h1; cases h1)
      | _ => rfl
    refine ⟨by rw [hc, List.length_cons, List.length_cons, a1], by rw [hc]; simp [List.findIdx?_cons, a2], fun e' r hr => ?_⟩
    cases hr
    rw [hc]; rfl
mutual
theorem soundG {X : Cx} {sc : Scope} {ga : Str → Addr} {Z : Addr → Prop} {H0 : Hp} {S0 : Sto} {G : Gc} {x : XW} (g : Gd X sc ga Z H0 S0 G x) : ∀ (t : MT) {e : Expr}, matchT X.N sc t e = true → PG X e (gD (cc X ga Z) t)
  | .nm i, e, h => by
    cases e with
    | Name y p =>
      unfold matchT at h
      obtain ⟨h1, h2⟩ := and2 h
      refine PG.imp (pg_name (i := i) g.nd (of_decide_eq_true h1) (g.sck.loc h2) (g.fnl y h2)) fun v σ H Q q => ?_
      obtain ⟨d, σd, σ', S, rs, rp, rd, ha, k⟩ := q
      unfold asgT at ha
      cases ha
      exact k _ (rs.set i rd) fun vs hv => wipe_set (hv i (by unfold slots; exact List.mem_singleton.mpr rfl))
    | _ => unfold matchT at h; cases h
  | .tp ts, e, h => by
    cases e with
    | Tuple es kk p =>
      unfold matchT at h
      obtain ⟨a1, a2, _⟩ := assign_each (env := X.env) h
      refine PG.imp (pg_tup g.calm (soundGs g ts h) a1 a2) fun v σ H Q q => ?_
      obtain ⟨d, σd, σ', S, rs, rp, rd, ha, k⟩ := q
      cases d with
      | tup ds =>
        unfold asgT at ha
        unfold RelD at rd
        obtain ⟨a, vs, rfl, f, r⟩ := rd
        refine ⟨a, vs, rfl, f.sq, ?_, ds, σd, σ', S, rs, rp, r, ha, fun σv q1 q2 => k σv q1 fun vs hv => q2 vs fun i hi => hv i (by unfold slots; exact hi)⟩
        rw [r.len]
        exact asgTs_len ts ds σd ha
      | _ => unfold asgT at ha; cases ha
    | _ => unfold matchT at h; cases h
theorem asgTs_len : ∀ (ts : List MT) (ds : List D) (σ : Env) {σ' : Env}, asgTs ts ds σ = some σ' → ds.length = ts.length
  | [], [], _, _, _ => rfl
  | [], _ :: _, _, _, h => by unfold asgTs at h; cases h
  | _ :: _, [], _, _, h => by unfold asgTs at h; cases h
  | t :: ts, d :: ds, σ, σ', h => by
    unfold asgTs at h
    split at h
    · rw [List.length_cons, List.length_cons, asgTs_len ts ds _ h]
    · cases h
theorem soundGs {X : Cx} {sc : Scope} {ga : Str → Addr} {Z : Addr → Prop} {H0 : Hp} {S0 : Sto} {G : Gc} {x : XW} (g : Gd X sc ga Z H0 S0 G x) : ∀ (ts : List MT) {es : List Expr}, matchTs X.N sc ts es = true → PGs X es (gDs (cc X ga Z) ts)
  | [], [], _ => by
    refine PGs.imp pgs_nil fun v σ H Q q => ?_
    obtain ⟨ds, σd, σ', S, rs, rp, rd, ha, k⟩ := q
    cases ds with
    | nil =>
      unfold asgTs at ha
      cases ha
      unfold RelDs at rd
      exact ⟨rd, k _ rs fun vs hv => rfl⟩
    | cons d ds => unfold asgTs at ha; cases ha
  | [], _ :: _, h => by unfold matchTs at h; cases h
  | _ :: _, [], h => by unfold matchTs at h; cases h
  | t :: ts, e :: es, h => by
    have h0 := h
    unfold matchTs at h
    obtain ⟨h1, h2⟩ := and2 h
    obtain ⟨_, _, a3⟩ := assign_each (env := X.env) h0
    refine PGs.imp (pgs_cons (soundG g t h1) (soundGs g ts h2) (a3 e es rfl)) fun v σ H Q q => ?_
    obtain ⟨ds, σd, σ', S, rs, rp, rd, ha, k⟩ := q
    cases ds with
    | nil => unfold asgTs at ha; cases ha
    | cons d ds =>
      unfold RelDs at rd
      obtain ⟨w, r, rfl, r1, r2⟩ := rd
      unfold asgTs at ha
      split at ha
      · rename_i σ1 h3
        refine ⟨w, r, rfl, d, σd, σ1, S, rs, rp, r1, h3, fun σv q1 q2 => ⟨ds, σ1, σ', S, q1, rp, r2, ha, fun σw q3 q4 => k σw q3 fun vs hv => ?_⟩⟩
        rw [q4 vs fun i hi => hv i (by unfold slotss; exact List.mem_append_right _ hi), q2 vs fun i hi => hv i (by unfold slotss; exact List.mem_append_left _ hi)]
      · cases ha
end
end Mn
namespace L2
open PySem PySem.Spec PyProof.Rows
def ItzS (K : PySem.W.Frag) (z0 : Str) (b : Addr) : It :=
  ⟨fun i H => ∃ (ys : List V) (y : V) (c : Nat), SqL K H b ys ∧ ys[i]? = some y ∧ z0.cps.toList[i]? = some c,
    fun i H v H' => ∃ T y c, v = .ref T ∧ H T = none ∧ H' = upd H T (.tup [.str ⟨#[c]⟩, y]) ∧ z0.cps.toList[i]? = some c ∧ ∀ ys, SqL K H b ys → ys[i]? = some y,
    fun i H => ∃ ys : List V, SqL K H b ys ∧ i ≤ z0.cps.size ∧ i ≤ ys.length ∧ (i = z0.cps.size ∨ i = ys.length)⟩
theorem turn_zipS {P : Program} {w : World} {K : PySem.W.Frag} {elts : List Expr} {kk : Nat} {tpos : Pos} {z0 : Str} {t0 : Tok} {b z TI TO i1 i2 : Addr} (D : ZipSep2 z TI TO i1 i2 [i1] [i2, b]) :
    Turn P w K (.Tuple elts kk tpos) (ItzS K z0 b) [z, TI, TO, i1, i2] z (fun i h => IsZip h z TI TO .none ∧ IsTupOf2 h TI (.ref i1) (.ref i2) ∧ (∃ x y, IsTupOf2 h TO x y) ∧ h.IsStrIter i1 (strIterType z0) z0 t0 i ∧ h.IsListIter i2 b i) where
  mem := by simp
  obj := fun i h st c hc => by
    obtain ⟨hz, hTI, ⟨x, y, hTO⟩, ⟨o1, e1, _, d1⟩, ⟨o2, e2, _, d2⟩⟩ := st
    have e' : c = z ∨ c = TI ∨ c = TO ∨ c = i1 ∨ c = i2 := by simpa using hc
    rcases e' with q | q | q | q | q
    · rw [q]; exact ⟨_, hz, fun v q => nomatch q⟩
    · rw [q]; exact ⟨_, hTI, fun v q => nomatch q⟩
    · rw [q]; exact ⟨_, hTO, fun v q => nomatch q⟩
    · rw [q]; exact ⟨o1, e1, fun v q => by rw [d1] at q; cases q⟩
    · rw [q]; exact ⟨o2, e2, fun v q => by rw [d2] at q; cases q⟩
  keep := fun i h h' st k => by
    obtain ⟨hz, hTI, ⟨x, y, hTO⟩, h1, h2⟩ := st
    exact ⟨k z (by simp) _ hz, k TI (by simp) _ hTI, ⟨x, y, k TO (by simp) _ hTO⟩, (let ⟨o, q, r⟩ := h1; ⟨o, k i1 (by simp) o q, r⟩), h2.at fun o q => k i2 (by simp) o q⟩
  item := by
    intro X hP hw hK hc i pins s σ H E I hf st hg
    subst hP hw hK
    obtain ⟨hz, hTI, ⟨x0, y0, hTO⟩, h1, h2⟩ := st
    obtain ⟨ys, y, c, hqy, hy, hcc⟩ := hg
    obtain ⟨its2, rv2, p2, _⟩ := I.list hqy
    obtain ⟨u2, hu2, ru2⟩ := rv2.get hy
    have hzl : z < s.heap.objs.size := Heap.lt_size hz
    have hh : X.A.in1.handled = none := I.ok.hd hc
    have n1 : i < z0.cps.size := by have := (List.getElem?_eq_some_iff.mp hcc).1; simpa using this
    have n2 : i < its2.toArray.size := by have := (List.getElem?_eq_some_iff.mp hu2).1; simpa using this
    have hbi : b ≠ i2 := fun e => by
      obtain ⟨o2, e2, c2, _⟩ := h2
      obtain ⟨o3, e3, c3, _⟩ := id p2.isList
      rw [e, e2] at e3
      cases e3
      rw [c2] at c3
      exact absurd (Value.type.inj c3) (by decide)
    refine wpAny_pyNext_zipD2_item D (Draws.text hh i1 z0 t0) (Draws.list hh i2 b hbi its2.toArray) hz hTI hTO h1 ⟨h2, p2.isList⟩ n1 n2 fun x1 x2 h' tk k1 k2 z' TO' s1 s2 hT hsz hk => ?_
    obtain ⟨cc, tc, k3, rfl⟩ := k1
    have ecc : cc = c := by
      rw [Array.getElem?_toList] at hcc
      rw [k3] at hcc
      exact Option.some.inj hcc
    subst ecc
    have ex2 : x2 = u2 := by
      have : its2.toArray[i]? = some u2 := by simpa using hu2
      rw [k2] at this
      exact Option.some.inj this
    subst ex2
    refine ⟨_, rfl, wpAny_letOwnedTupleGo_zip (s := { s with heap := h', toks := tk }) z' fun h'' z'' sb => ?_⟩
    have hT2 : h''.get? s.heap.objs.size = some { cls := .type "tuple", data := .seq #[.str ⟨#[cc]⟩ tc, x2] } := (sb.2 _ (Nat.ne_of_gt hzl)).trans hT
    have new : ObjOk X.prog X.w (upd H s.heap.objs.size (.tup [.str ⟨#[cc]⟩, y])) h'' s.heap.objs.size (.tup [.str ⟨#[cc]⟩, y]) :=
      ⟨by show 2 ≤ sizeLine; decide, [.str ⟨#[cc]⟩ tc, x2], .cons ⟨tc, rfl⟩ (.cons ru2 .nil), ⟨_, hT2, rfl, _, rfl⟩⟩
    have I1 : Inv X pins σ (upd H s.heap.objs.size (.tup [.str ⟨#[cc]⟩, y])) { s with heap := h'', toks := tk } :=
      I.turnedNew (t' := tk) (ch := [z, TI, TO, i1, i2]) (fun c o hb q => (sb.2 c (fun q' => hb (by simp [q']))).trans (hk c o (fun q' => hb (by simp [q'])) (fun q' => hb (by simp [q'])) (fun q' => hb (by simp [q'])) (fun q' => hb (by simp [q'])) q)) hf (Nat.le_refl _) new
    have zi1 := D.zi1
    have zi2 := D.zi2
    refine ⟨.ref s.heap.objs.size, _, I1, rfl, ⟨_, y, cc, rfl, I.hok.fresh (Nat.le_refl _), rfl, hcc, fun l hl => by rw [I.list_inj hl hqy]; exact hy⟩, ⟨z'', ?_, ⟨.str ⟨#[cc]⟩ tc, x2, ?_⟩, ?_, ?_⟩, fun c hcm => ?_⟩
    · exact (sb.2 _ D.TIz).trans (hk _ _ D.TIz D.TITO D.TIi1 D.TIi2 hTI)
    · exact (sb.2 _ D.TOz).trans TO'
    · exact (let ⟨o, q, r⟩ := s1; ⟨o, (sb.2 _ zi1.symm).trans q, r⟩)
    · exact s2.1.at fun o q => (sb.2 _ zi2.symm).trans q
    · have hlt : c < s.heap.objs.size := by
        have e' : c = z ∨ c = TI ∨ c = TO ∨ c = i1 ∨ c = i2 := by simpa using hcm
        rcases e' with q | q | q | q | q
        · rw [q]; exact hzl
        · rw [q]; exact Heap.lt_size hTI
        · rw [q]; exact Heap.lt_size hTO
        · rw [q]; obtain ⟨_, e1, _⟩ := h1; exact Heap.lt_size e1
        · rw [q]; obtain ⟨_, e2, _⟩ := h2; exact Heap.lt_size e2
      rw [upd_ne (Nat.ne_of_lt hlt)]
      exact (hf c hcm).1
  done := by
    intro X hP hw hK hc i pins s σ H E I hf st hg
    subst hP hw hK
    obtain ⟨hz, hTI, ⟨x0, y0, hTO⟩, h1, h2⟩ := st
    obtain ⟨ys, hqy, l1, l2, hend⟩ := hg
    obtain ⟨its2, rv2, p2, _⟩ := I.list hqy
    have e2 := rv2.length
    have hh : X.A.in1.handled = none := I.ok.hd hc
    have hbi : b ≠ i2 := fun e => by
      obtain ⟨o2, e2, c2, _⟩ := h2
      obtain ⟨o3, e3, c3, _⟩ := id p2.isList
      rw [e, e2] at e3
      cases e3
      rw [c2] at c3
      exact absurd (Value.type.inj c3) (by decide)
    have l2' : i ≤ its2.toArray.size := by rw [List.size_toArray, ← e2]; exact l2
    have hsz : its2.toArray.size = ys.length := by rw [List.size_toArray]; exact e2.symm
    have hend' : i = z0.cps.size ∨ i = its2.toArray.size := by rw [hsz]; exact hend
    exact wpAny_pyNext_zipD2_end D (Draws.text hh i1 z0 t0) (Draws.list hh i2 b hbi its2.toArray) hz hTI hTO h1 ⟨h2, p2.isList⟩ l1 l2' hend' fun h' tk hk => ⟨rfl, I.turnedL (t' := tk) (ch := [z, TI, TO, i1, i2]) (fun c o hb q =>
      hk c o (fun q' => hb (by simp [q'])) (fun q' => hb (by simp [q'])) (fun q' => hb (by simp [q'])) (fun q' => hb (by simp [q'])) q) hf⟩
  self := fun A i s Q E st h => wpAny_pyIter_zip st.1 h
def iZipB (K : PySem.W.Frag) (ta : TA) : TI := fun σ H R => ta σ H fun vs H1 => (∃ a b xs ys, vs = [.ref a, .ref b] ∧ SqL K H1 a xs ∧ SqL K H1 b ys ∧ R (Itz K a b) H1) ∨ ∃ z0 b ys, vs = [.str z0, .ref b] ∧ SqL K H1 b ys ∧ R (ItzS K z0 b) H1
theorem pi_zipB {X : Cx} {e e2 : Expr} {ta : TA} {p pos tpos : Pos} {elts : List Expr} {kk : Nat} (hg : Gl X "zip") (hm : X.mg "zip" = none) (ha : PA X [e, e2] ta)
    (hs : starEach [e, e2] X.env = (false, eval e X.env) :: starEach [e2] X.env := by rfl) (hpl : (backTo pos (starEach [e2] X.env)).any (·.1) = false := by rfl) :
    PI X (.Tuple elts kk tpos) (.Call (.Name "zip" p) [e, e2] [] pos) (iZipB X.K ta) := by
  refine ⟨fun pins s σ H R I h => ?_⟩
  refine Call_ (ld_blt I hg hm PyProof.Rows.boot_zip (PyProof.Rows.callWith_type1 (thn (ha.run pos pins s σ H _ I h) fun us s1 ⟨vs, H1, I1, r1, q1⟩ => ?_) hs hpl))
  have fresh5 : ∀ c, c ∈ [s1.heap.objs.size + 4, s1.heap.objs.size + 2, s1.heap.objs.size + 3, s1.heap.objs.size, s1.heap.objs.size + 1] → FpOk X pins H1 c := fun c hcm => by
    have hle : s1.heap.objs.size ≤ c := by
      simp only [List.mem_cons, List.not_mem_nil, or_false] at hcm
      omega
    exact I1.fpOk hle (I1.hok.fresh hle)
  rcases q1 with ⟨a, b, xs, ys, ex, hqx, hqy, q⟩ | ⟨z0, b, ys, ex, hqy, q⟩
  · subst ex
    obtain ⟨u1, u2, rfl, r1, r2⟩ := vals2 r1
    cases r1
    cases r2
    obtain ⟨its, rv, p1, _⟩ := I1.list hqx
    obtain ⟨its2, rv2, p2, _⟩ := I1.list hqy
    refine call_zip_2 p1.isList p2.isList fun h' hz hTI hTO h1 h2 hsz hk => wpAny_pyIter_zip hz ?_
    have I2 : Inv X pins σ H1 { s1 with heap := h' } := I1.kept (t' := s1.toks) hk
    exact ⟨s1.heap.objs.size + 4, [s1.heap.objs.size + 4, s1.heap.objs.size + 2, s1.heap.objs.size + 3, s1.heap.objs.size, s1.heap.objs.size + 1], _, _, H1, rfl, I2, turn_zip (PySem.W.ktu_apart s1.heap.objs.size a b p1.lt p2.lt), ⟨hz, hTI, ⟨_, _, hTO⟩, h1, h2⟩, fresh5, q⟩
  · subst ex
    obtain ⟨u1, u2, rfl, r1, r2⟩ := vals2 r1
    obtain ⟨t0, rfl⟩ := (show ∃ t, u1 = Value.str z0 t from r1)
    cases r2
    obtain ⟨its2, rv2, p2, _⟩ := I1.list hqy
    refine zip_begins2 (begins_text z0 t0) (begins_list b its2.toArray) trivial p2.isList fun h' hz hTI hTO g1 g2 hsz hk => wpAny_pyIter_zip hz ?_
    have I2 : Inv X pins σ H1 { s1 with heap := h' } := I1.kept (t' := s1.toks) hk
    have sep := zip_sep2 (N := s1.heap.objs.size) (fp1 := []) (fp2 := [b]) (fun _ h => nomatch h) (fun c hc => by rw [List.mem_singleton.mp hc]; exact p2.lt)
    exact ⟨s1.heap.objs.size + 4, [s1.heap.objs.size + 4, s1.heap.objs.size + 2, s1.heap.objs.size + 3, s1.heap.objs.size, s1.heap.objs.size + 1], _, _, H1, rfl, I2, turn_zipS (t0 := t0) sep, ⟨hz, hTI, ⟨_, _, hTO⟩, ⟨_, g1, rfl, rfl⟩, ⟨_, g2, rfl, rfl⟩⟩, fresh5, q⟩
def IteS (z0 : Str) : It :=
  ⟨fun i H => ∃ c : Nat, z0.cps.toList[i]? = some c, fun i H v H' => ∃ T c, v = .ref T ∧ H T = none ∧ H' = upd H T (.tup [.int (i : Nat), .str ⟨#[c]⟩]) ∧ z0.cps.toList[i]? = some c, fun i H => i = z0.cps.size⟩
theorem turn_enumS {P : Program} {w : World} {K : PySem.W.Frag} {elts : List Expr} {kk : Nat} {tpos : Pos} {z0 : Str} {t0 : Tok} (e it : Addr) :
    Turn P w K (.Tuple elts kk tpos) (IteS z0) [e, it] e (fun i h => (∃ old, IsEnum h e it ((i : Nat) : Int) old) ∧ h.IsStrIter it (strIterType z0) z0 t0 i ∧ e ≠ it) where
  mem := by simp
  obj := fun i h st b hb => by
    obtain ⟨⟨old, he⟩, ⟨o, ho, hc, hd⟩, _⟩ := st
    have e' : b = e ∨ b = it := by simpa using hb
    rcases e' with z | z
    · rw [z]; exact ⟨_, he, fun v q => nomatch q⟩
    · rw [z]; exact ⟨o, ho, fun v q => by rw [hd] at q; cases q⟩
  keep := fun i h h' st k => let ⟨⟨old, he⟩, hi, hne⟩ := st; ⟨⟨old, k e (by simp) _ he⟩, (let ⟨o, q, r⟩ := hi; ⟨o, k it (by simp) o q, r⟩), hne⟩
  item := by
    intro X hP hw hK hc i pins s σ H E I hf st hg
    subst hP hw hK
    obtain ⟨⟨old, he⟩, hit, hne⟩ := st
    obtain ⟨c, hcc⟩ := hg
    have hel : e < s.heap.objs.size := Heap.lt_size he
    have hil : it < s.heap.objs.size := by obtain ⟨_, q, _⟩ := hit; exact Heap.lt_size q
    have hh : X.A.in1.handled = none := I.ok.hd hc
    have n1 : i < z0.cps.size := by have := (List.getElem?_eq_some_iff.mp hcc).1; simpa using this
    refine wpAny_pyNext_enum_itemD (Draws.text hh it z0 t0) he hit n1 hne (fun q => hne (List.mem_singleton.mp q)) fun x h' tk hx ho hit' hT hsz hk => ?_
    obtain ⟨cc, tc, k3, rfl⟩ := hx
    have ecc : cc = c := by
      rw [Array.getElem?_toList] at hcc
      rw [k3] at hcc
      exact Option.some.inj hcc
    subst ecc
    refine ⟨_, rfl, wpAny_letOwnedTupleGo_enum (s := { s with heap := h', toks := tk + 1 }) ho fun h'' he' sb => ?_⟩
    have hT2 : h''.get? s.heap.objs.size = some { cls := .type "tuple", data := .seq #[.int i tk, .str ⟨#[cc]⟩ tc] } := (sb.2 _ (Nat.ne_of_gt hel)).trans hT
    have new : ObjOk X.prog X.w (upd H s.heap.objs.size (.tup [.int (i : Nat), .str ⟨#[cc]⟩])) h'' s.heap.objs.size (.tup [.int (i : Nat), .str ⟨#[cc]⟩]) :=
      ⟨by show 2 ≤ sizeLine; decide, [.int i tk, .str ⟨#[cc]⟩ tc], .cons ⟨_, rfl⟩ (.cons ⟨tc, rfl⟩ .nil), ⟨_, hT2, rfl, _, rfl⟩⟩
    have I1 : Inv X pins σ (upd H s.heap.objs.size (.tup [.int (i : Nat), .str ⟨#[cc]⟩])) { s with heap := h'', toks := tk + 1 } :=
      I.turnedNew (ch := [e, it]) (fun b ob hb q => (sb.2 b (fun z => hb (by simp [z]))).trans (hk b ob (fun z => hb (by simp [z])) (fun z => hb (by simp [z])) q)) hf (Nat.le_refl _) new
    refine ⟨.ref s.heap.objs.size, _, I1, rfl, ⟨_, cc, rfl, I.hok.fresh (Nat.le_refl _), rfl, hcc⟩, ⟨⟨.str ⟨#[cc]⟩ tc, ?_⟩, (let ⟨o, q, r⟩ := hit'; ⟨o, (sb.2 it (Ne.symm hne)).trans q, r⟩), hne⟩, fun b hb => ?_⟩
    · have e1 : ((i + 1 : Nat) : Int) = (i : Int) + 1 := by omega
      rw [e1]; exact he'
    · have hb' : b < s.heap.objs.size := by
        have e' : b = e ∨ b = it := by simpa using hb
        rcases e' with z | z
        · rw [z]; exact hel
        · rw [z]; exact hil
      rw [upd_ne (Nat.ne_of_lt hb')]
      exact (hf b hb).1
  done := by
    intro X hP hw hK hc i pins s σ H E I hf st hg
    subst hP hw hK
    obtain ⟨⟨old, he⟩, hit, hne⟩ := st
    have hg : i = z0.cps.size := hg
    obtain ⟨f0, f1, f2, f3, f4, f5⟩ := hf it (by simp)
    have hh : X.A.in1.handled = none := I.ok.hd hc
    rw [hg] at hit
    exact wpAny_pyNext_enum_endD (Draws.text hh it z0 t0) he hit fun h' eb => ⟨rfl, I.turned (t' := s.toks) (fun b o hb q => eb b o hb q) f0 f1 f3 f4 f5⟩
  self := fun A i s Q E st h => let ⟨⟨_, he⟩, _⟩ := st; wpAny_pyIter_enum he h
def iEnumB (K : PySem.W.Frag) (ta : TA) : TI := fun σ H R => ta σ H fun vs H1 => (∃ a xs, vs = [.ref a] ∧ SqL K H1 a xs ∧ R (Ite K a) H1) ∨ ∃ z0, vs = [.str z0] ∧ R (IteS z0) H1
theorem pi_enumB {X : Cx} {e : Expr} {ta : TA} {p pos tpos : Pos} {elts : List Expr} {kk : Nat} (hg : Gl X "enumerate") (hm : X.mg "enumerate" = none) (ha : PA X [e] ta) (hs : starEach [e] X.env = [(false, eval e X.env)] := by rfl) :
    PI X (.Tuple elts kk tpos) (.Call (.Name "enumerate" p) [e] [] pos) (iEnumB X.K ta) := by
  refine ⟨fun pins s σ H R I h => ?_⟩
  refine Call_ (ld_blt I hg hm boot_enumerate (PyProof.Rows.callWith_type1 (thn (ha.run pos pins s σ H _ I h) fun us s1 ⟨vs, H1, I1, r1, q1⟩ => ?_) hs rfl))
  have fresh2 : ∀ b, b ∈ [s1.heap.objs.size + 1, s1.heap.objs.size] → FpOk X pins H1 b := fun b hb => by
    have e' : b = s1.heap.objs.size + 1 ∨ b = s1.heap.objs.size := by simpa using hb
    have hle : s1.heap.objs.size ≤ b := by
      rcases e' with z | z
      · rw [z]; exact Nat.le_add_right _ _
      · rw [z]; exact Nat.le_refl _
    exact I1.fpOk hle (I1.hok.fresh hle)
  rcases q1 with ⟨a, xs, ex, hq, q⟩ | ⟨z0, ex, q⟩
  · subst ex
    cases r1 with
    | cons r rr =>
      cases rr
      cases r
      obtain ⟨its, rv, p', hz⟩ := I1.list hq
      refine call_enumerate_list p'.isList fun h' he hit hsz hk => wpAny_pyIter_enum he ?_
      have I2 : Inv X pins σ H1 { s1 with heap := h' } := I1.kept (t' := s1.toks) hk
      exact ⟨s1.heap.objs.size + 1, [s1.heap.objs.size + 1, s1.heap.objs.size], _, _, H1, rfl, I2, turn_enum a (s1.heap.objs.size + 1) s1.heap.objs.size, ⟨⟨.none, he⟩, hit, Nat.succ_ne_self _⟩, fresh2, q⟩
  · subst ex
    cases r1 with
    | cons r rr =>
      cases rr
      obtain ⟨t0, rfl⟩ := (show ∃ t, _ = Value.str z0 t from r)
      refine call_enumerate_str fun h' he hit hsz hk => wpAny_pyIter_enum he ?_
      have I2 : Inv X pins σ H1 { s1 with heap := h' } := I1.kept (t' := s1.toks) hk
      exact ⟨s1.heap.objs.size + 1, [s1.heap.objs.size + 1, s1.heap.objs.size], _, _, H1, rfl, I2, turn_enumS (t0 := t0) (s1.heap.objs.size + 1) s1.heap.objs.size, ⟨⟨.none, he⟩, hit, Nat.succ_ne_self _⟩, fresh2, q⟩
end L2
namespace Mn
open PySem L2
def ItOk (C : Cc) (H1 : Hp) (S1 : Sto) (J : It) (its : List D) (gd : Sto → Prop) : Prop := ∀ (i : Nat) (H : Hp) (S : Sto), Rp C H S → Ext H1 S1 H S → gd S →
  (∀ d, its[i]? = some d → J.go i H ∧ ∀ v H', J.yld i H v H' → Rp C H' S ∧ Ext H S H' S ∧ RelD C H' S d v) ∧ (i = its.length → J.stop i H)
section
variable {C : Cc} {H1 : Hp} {S1 : Sto}
theorem itok_seqL {a : Addr} {ds : List D} {gd : Sto → Prop} (h : ∀ H S, Rp C H S → Ext H1 S1 H S → gd S → ∃ vs, SqL C.K H a vs ∧ RelDs C H S ds vs) : ItOk C H1 S1 (Itl C.K a) ds gd := fun i H S rp ex hg => by
  obtain ⟨vs, h1, r⟩ := h H S rp ex hg
  refine ⟨fun d hd => ?_, fun hl => ⟨vs, h1, by rw [r.len]; exact Nat.le_of_eq hl.symm⟩⟩
  obtain ⟨v, hv, rv⟩ := r.get hd
  refine ⟨⟨vs, v, h1, hv⟩, fun w H' hy => ?_⟩
  obtain ⟨rfl, hy⟩ := hy
  have e := hy vs h1
  rw [hv] at e
  cases e
  exact ⟨rp, Ext.refl _ _, rv⟩
theorem itok_seqT {a : Addr} {ds : List D} {gd : Sto → Prop} (h : ∀ H S, Rp C H S → Ext H1 S1 H S → gd S → ∃ vs, SqT C.K H a vs ∧ RelDs C H S ds vs) : ItOk C H1 S1 (Itt C.K a) ds gd := fun i H S rp ex hg => by
  obtain ⟨vs, h1, r⟩ := h H S rp ex hg
  refine ⟨fun d hd => ?_, fun hl => ⟨vs, h1, by rw [r.len]; exact Nat.le_of_eq hl.symm⟩⟩
  obtain ⟨v, hv, rv⟩ := r.get hd
  refine ⟨⟨vs, v, h1, hv⟩, fun w H' hy => ?_⟩
  obtain ⟨rfl, hy⟩ := hy
  have e := hy vs h1
  rw [hv] at e
  cases e
  exact ⟨rp, Ext.refl _ _, rv⟩
theorem enmL_get : ∀ (ds : List D) (n i : Nat), (enmL n ds)[i]? = ds[i]?.map fun d => .tup [.int ((n + i : Nat) : Int), d]
  | [], n, i => by unfold enmL; simp
  | d :: ds, n, 0 => by unfold enmL; simp
  | d :: ds, n, i + 1 => by
    unfold enmL
    rw [List.getElem?_cons_succ, List.getElem?_cons_succ, enmL_get ds (n + 1) i, show n + 1 + i = n + (i + 1) by omega]
theorem enmL_len : ∀ (ds : List D) (n : Nat), (enmL n ds).length = ds.length
  | [], n => rfl
  | d :: ds, n => by unfold enmL; rw [List.length_cons, List.length_cons, enmL_len ds]
theorem itok_enum {a : Addr} {ds : List D} {gd : Sto → Prop} (h : ∀ H S, Rp C H S → Ext H1 S1 H S → gd S → ∃ vs, SqL C.K H a vs ∧ RelDs C H S ds vs) : ItOk C H1 S1 (Ite C.K a) (enmL 0 ds) gd := fun i H S rp ex hg => by
  obtain ⟨vs, h1, r⟩ := h H S rp ex hg
  refine ⟨fun d hd => ?_, fun hl => ⟨vs, h1, by rw [r.len]; rw [enmL_len] at hl; exact Nat.le_of_eq hl.symm⟩⟩
  rw [enmL_get] at hd
  obtain ⟨e, he, rfl⟩ := Option.map_eq_some_iff.mp hd
  obtain ⟨v, hv, rv⟩ := r.get he
  refine ⟨⟨vs, v, h1, hv⟩, fun w H' hy => ?_⟩
  obtain ⟨T, y, rfl, nT, rfl, hy⟩ := hy
  have q := hy vs h1
  rw [hv] at q
  cases q
  refine ⟨rp.new nT, Ext.new nT, ?_⟩
  unfold RelD
  refine ⟨T, _, rfl, ⟨upd_same, rp.free nT⟩, RelDs.cons ?_ (RelDs.cons (rv.ext (Ext.new nT)) RelDs.nil)⟩
  rw [Nat.zero_add]
  exact mk_int
theorem zipL_get : ∀ (ds es : List D) (i : Nat), (zipL ds es)[i]? = (ds[i]?).bind fun d => (es[i]?).map fun e => .tup [d, e]
  | [], es, i => by unfold zipL; simp
  | d :: ds, [], i => by unfold zipL; simp
  | d :: ds, e :: es, 0 => by unfold zipL; simp
  | d :: ds, e :: es, i + 1 => by
    unfold zipL
    rw [List.getElem?_cons_succ, List.getElem?_cons_succ, List.getElem?_cons_succ, zipL_get ds es i]
theorem zipL_len : ∀ (ds es : List D), (zipL ds es).length = min ds.length es.length
  | [], es => by unfold zipL; simp
  | d :: ds, [] => by unfold zipL; simp
  | d :: ds, e :: es => by unfold zipL; rw [List.length_cons, List.length_cons, List.length_cons, zipL_len ds es]; omega
theorem itok_zip {a b : Addr} {ds es : List D} {gd : Sto → Prop} (h : ∀ H S, Rp C H S → Ext H1 S1 H S → gd S → ∃ vs ws, SqL C.K H a vs ∧ RelDs C H S ds vs ∧ SqL C.K H b ws ∧ RelDs C H S es ws) : ItOk C H1 S1 (Itz C.K a b) (zipL ds es) gd := fun i H S rp ex hg => by
  obtain ⟨vs, ws, h1, r1, h2, r2⟩ := h H S rp ex hg
  refine ⟨fun d hd => ?_, fun hl => ⟨vs, ws, h1, h2, by rw [r1.len, r2.len]; rw [zipL_len] at hl; omega⟩⟩
  rw [zipL_get] at hd
  obtain ⟨u, hu, hd⟩ := Option.bind_eq_some_iff.mp hd
  obtain ⟨e, he, rfl⟩ := Option.map_eq_some_iff.mp hd
  obtain ⟨v, hv, rv⟩ := r1.get hu
  obtain ⟨w, hw, rw'⟩ := r2.get he
  refine ⟨⟨vs, ws, v, w, h1, h2, hv, hw⟩, fun z H' hy => ?_⟩
  obtain ⟨T, y, y', rfl, nT, rfl, hy1, hy2⟩ := hy
  have q1 := hy1 vs h1
  have q2 := hy2 ws h2
  rw [hv] at q1; rw [hw] at q2
  cases q1; cases q2
  refine ⟨rp.new nT, Ext.new nT, ?_⟩
  unfold RelD
  exact ⟨T, _, rfl, ⟨upd_same, rp.free nT⟩, RelDs.cons (rv.ext (Ext.new nT)) (RelDs.cons (rw'.ext (Ext.new nT)) RelDs.nil)⟩
theorem itok_zipS {z : Str} (hz : PySem.PyData.strOk z = true) {b : Addr} {es : List D} {gd : Sto → Prop} (h : ∀ H S, Rp C H S → Ext H1 S1 H S → gd S → ∃ ws, SqL C.K H b ws ∧ RelDs C H S es ws) : ItOk C H1 S1 (ItzS C.K z b) (zipL (z.cps.toList.map fun c => .str ⟨#[c]⟩) es) gd := fun i H S rp ex hg => by
  obtain ⟨ws, h2, r2⟩ := h H S rp ex hg
  refine ⟨fun d hd => ?_, fun hl => ⟨ws, h2, ?_⟩⟩
  · rw [zipL_get, List.getElem?_map] at hd
    obtain ⟨u, hu, hd⟩ := Option.bind_eq_some_iff.mp hd
    obtain ⟨e, he, rfl⟩ := Option.map_eq_some_iff.mp hd
    obtain ⟨c, hc, rfl⟩ := Option.map_eq_some_iff.mp hu
    obtain ⟨w, hw, rw'⟩ := r2.get he
    refine ⟨⟨ws, w, c, h2, hw, hc⟩, fun v H' hy => ?_⟩
    obtain ⟨T, y, c', rfl, nT, rfl, hy1, hy2⟩ := hy
    have q2 := hy2 ws h2
    rw [hw] at q2
    cases q2
    rw [hc] at hy1
    cases hy1
    refine ⟨rp.new nT, Ext.new nT, ?_⟩
    unfold RelD
    exact ⟨T, _, rfl, ⟨upd_same, rp.free nT⟩, RelDs.cons (mk_str (strOk_sign hz (List.mem_of_getElem? hc))) (RelDs.cons (rw'.ext (Ext.new nT)) RelDs.nil)⟩
  · rw [zipL_len, List.length_map] at hl
    rw [r2.len]
    have : z.cps.toList.length = z.cps.size := rfl
    omega
theorem itok_enumS {z : Str} (hz : PySem.PyData.strOk z = true) : ItOk C H1 S1 (IteS z) (enmL 0 (z.cps.toList.map fun c => .str ⟨#[c]⟩)) (fun _ => True) := fun i H S rp ex _ => by
  refine ⟨fun d hd => ?_, fun hl => ?_⟩
  · rw [enmL_get, List.getElem?_map] at hd
    obtain ⟨u, hu, rfl⟩ := Option.map_eq_some_iff.mp hd
    obtain ⟨c, hc, rfl⟩ := Option.map_eq_some_iff.mp hu
    refine ⟨⟨c, hc⟩, fun v H' hy => ?_⟩
    obtain ⟨T, c', rfl, nT, rfl, hy1⟩ := hy
    rw [hc] at hy1
    cases hy1
    refine ⟨rp.new nT, Ext.new nT, ?_⟩
    unfold RelD
    refine ⟨T, _, rfl, ⟨upd_same, rp.free nT⟩, RelDs.cons ?_ (RelDs.cons (mk_str (strOk_sign hz (List.mem_of_getElem? hc))) RelDs.nil)⟩
    rw [Nat.zero_add]
    exact mk_int
  · rw [enmL_len, List.length_map] at hl
    have : z.cps.toList.length = z.cps.size := rfl
    show i = z.cps.size
    omega
theorem itok_range {lo : Int} {n : Nat} {ds : List D} (h : ds = (List.range n).map fun (k : Nat) => D.int (lo + k)) : ItOk C H1 S1 (Itr lo n) ds (fun _ => True) := fun i H S rp ex _ => by
  subst h
  refine ⟨fun d hd => ?_, fun hl => by
    have h2 : n ≤ i := by simpa using Nat.le_of_eq hl.symm
    exact h2⟩
  rw [List.getElem?_map] at hd
  obtain ⟨k, hk, rfl⟩ := Option.map_eq_some_iff.mp hd
  have hi : i < n ∧ k = i := by
    obtain ⟨h1, h2⟩ := List.getElem?_eq_some_iff.mp hk
    rw [List.getElem_range] at h2
    exact ⟨by simpa using h1, h2.symm⟩
  refine ⟨hi.1, fun v H' hy => ?_⟩
  obtain ⟨rfl, rfl⟩ := hy
  rw [hi.2]
  exact ⟨rp, Ext.refl _ _, mk_int⟩
theorem itR_ref {S1 : Sto} {c : Addr} {l : List D} {it : List D × (Sto → Prop)} (hl : listOf S1 (.ref c) = some l) (hi : itR (.ref c) S1 = some it) : it = (l, fun S' => S' c = some (.lst l)) := by
  have h : S1 c = some (.lst l) := lstAt_some (show lstAt S1 c = some l from hl)
  have hi : (match S1 c with
      | some (.lst ds) => some (ds, fun S' => S' c = some (.lst ds))
      | some (.ldc o ks kvs) => g? ((kvs.all fun kv => kOk kv.1) = true) (kvs.map fun kv => keyD kv.1, fun S' => S' c = some (.ldc o ks kvs))
      | _ => none) = some it := hi
  rw [h] at hi
  cases hi
  rfl
theorem rel_key {C : Cc} {H : Hp} {S : Sto} {k : Key} (h : kOk k = true) : RelD C H S (keyD k) (kV k) := by
  cases k with
  | inl i => exact mk_int
  | inr z => exact mk_str h
theorem itok_keys {a : Addr} {o : Obj} {ks : List (Key × V)} {kvs : List (Key × D)} (hk : (kvs.all fun kv => kOk kv.1) = true) : ItOk C H1 S1 (Itk a o ks) (kvs.map fun kv => keyD kv.1) (fun S' => S' a = some (.ldc o ks kvs)) := fun i H S rp ex hg => by
  obtain ⟨ob, h2, h3⟩ := rp.obj a _ hg
  obtain ⟨rfl, rk⟩ := h3
  have hl : ks.length = kvs.length := rk.len
  have hkeys : ks.map (·.1) = kvs.map (·.1) := rk.keys
  refine ⟨fun d hd => ?_, fun h => ⟨h2, by rw [List.length_map] at h; omega⟩⟩
  rw [List.getElem?_map] at hd
  obtain ⟨kv, hkv, rfl⟩ := Option.map_eq_some_iff.mp hd
  have hi : i < kvs.length := (List.getElem?_eq_some_iff.mp hkv).1
  refine ⟨⟨h2, by omega⟩, fun v H' hy => ?_⟩
  obtain ⟨rfl, k', v', e1, rfl⟩ := hy
  have e2 : k' = kv.1 := by
    have z1 : (ks.map (·.1))[i]? = some k' := by rw [List.getElem?_map, e1]; rfl
    have z2 : (kvs.map (·.1))[i]? = some kv.1 := by rw [List.getElem?_map, hkv]; rfl
    rw [hkeys, z2] at z1
    exact (Option.some.inj z1).symm
  rw [e2]
  exact ⟨rp, Ext.refl _ _, rel_key (List.all_eq_true.mp hk kv (List.mem_of_getElem? hkv))⟩
theorem itok_str {z : Str} (hz : PySem.PyData.strOk z = true) : ItOk C H1 S1 (Its z) (z.cps.toList.map fun c => .str ⟨#[c]⟩) (fun _ => True) := fun i H S rp ex _ => by
  refine ⟨fun d hd => ?_, fun hl => by
    have h2 : z.cps.size ≤ i := by simpa using Nat.le_of_eq hl.symm
    exact h2⟩
  rw [List.getElem?_map] at hd
  obtain ⟨c, hc, rfl⟩ := Option.map_eq_some_iff.mp hd
  have hi : i < z.cps.size := by
    have := (List.getElem?_eq_some_iff.mp hc).1
    simpa using this
  refine ⟨hi, fun v H' hy => ?_⟩
  obtain ⟨rfl, c', h1, rfl⟩ := hy
  have e : c' = c := by
    rw [Array.getElem?_toList] at hc
    rw [h1] at hc
    exact Option.some.inj hc
  subst e
  exact ⟨rp, Ext.refl _ _, mk_str (strOk_sign hz (List.mem_of_getElem? hc))⟩
end
section
variable {X : Cx} {ga : Str → Addr} {Z : Addr → Prop} {H0 : Hp} {S0 : Sto} {G : Gc} {x : XW}
def ItAll (C : Cc) (H1 : Hp) (S1 : Sto) (J : It) (its : List D) (gd : Sto → Prop) : Prop := ∀ Z : Addr → Prop, (∀ a, Z a → C.Z a ∨ H1 a = none) → ItOk (C.wz Z) H1 S1 J its gd
/-- what a for or a comprehension asks of its source -/
def wiD (C : Cc) (H0 : Hp) (S0 : Sto) (G : Gc) (x : XW) (i : Nat) (as : List ME) : TI := fun σ H R => ∃ (σd : Env) (S : Sto), RelS C H S σd σ ∧ Rp C H S ∧ Ext H0 S0 H S ∧
  wEs G x as σd S fun ds S1 => ∃ its, itS i ds S1 = some its ∧ ∀ H1 J, Rp C H1 S1 → Ext H S H1 S1 → ItAll C H1 S1 J its.1 its.2 → R J H1
theorem PI.imp {X : Cx} {tg e : Expr} {t t' : TI} (h : PI X tg e t) (i : ∀ σ H R, t' σ H R → t σ H R) : PI X tg e t' := ⟨fun pins s σ H R I q => h.run pins s σ H R I (i σ H R q)⟩
theorem iterL {pins : List (Addr × Obj)} {σ : St} {H : Hp} {s : Shared} {tg : Expr} {R : It → Hp → Prop} {a : Addr} {vs : List V} (I : Inv X pins σ H s) (h : SqL X.K H a vs) (q : R (Itl X.K a) H) : wpAny (model X.prog X.w) X.A (pyIter (.ref a)) (PIE X pins σ tg R) X.xe s := by
  obtain ⟨its, _, p, _⟩ := I.list h
  exact wpAny_pyIter_list p.isList (pi_one (tk := s.toks) I _ (turn_list a _) ⟨_, Heap.get?_push_size _ rfl, rfl, rfl⟩ q)
theorem iterK {pins : List (Addr × Obj)} {σ : St} {H : Hp} {s : Shared} {tg : Expr} {R : It → Hp → Prop} {d : Addr} {o : Obj} {kvs : List (Key × V)} (I : Inv X pins σ H s) (hd : H d = some (.frz o (.dK kvs))) (q : R (Itk d o kvs) H) : wpAny (model X.prog X.w) X.A (pyIter (.ref d)) (PIE X pins σ tg R) X.xe s := by
  obtain ⟨hs, hgd, hx, es, ep, vs, hdt, hsz, kv, hm⟩ := I.frzK hd
  refine iter_keys hs hgd hx hdt (pi_one (tk := s.toks) I _ (turn_keys _ hdt) ⟨_, Heap.get?_push_size _ rfl, rfl, ?_⟩ q)
  rw [hsz] <;> rfl
theorem iterT {pins : List (Addr × Obj)} {σ : St} {H : Hp} {s : Shared} {tg : Expr} {R : It → Hp → Prop} {a : Addr} {vs : List V} (I : Inv X pins σ H s) (h : SqT X.K H a vs) (q : R (Itt X.K a) H) : wpAny (model X.prog X.w) X.A (pyIter (.ref a)) (PIE X pins σ tg R) X.xe s := by
  obtain ⟨its, _, p, _⟩ := I.tuple h
  exact wpAny_pyIter_tuple (show s.heap.IsTuple a its.toArray from p) (pi_one (tk := s.toks) I _ (turn_tuple a _) ⟨_, Heap.get?_push_size _ rfl, rfl, rfl⟩ q)
theorem iterS {pins : List (Addr × Obj)} {σ : St} {H : Hp} {s : Shared} {tg : Expr} {R : It → Hp → Prop} {z : Str} {t : Tok} (I : Inv X pins σ H s) (q : R (Its z) H) : wpAny (model X.prog X.w) X.A (pyIter (.str z t)) (PIE X pins σ tg R) X.xe s := by
  cases ha : z.cps.all (· < 128) with
  | false => exact wpAny_pyIter_wide ha (pi_one (tk := s.toks) I _ (turn_str _ z t "str_iterator" (.inr rfl)) ⟨_, Heap.get?_push_size _ rfl, rfl, rfl⟩ q)
  | true => exact wpAny_pyIter_ascii ha (pi_one (tk := s.toks) I _ (turn_str _ z t "str_ascii_iterator" (.inl rfl)) ⟨_, Heap.get?_push_size _ rfl, rfl, rfl⟩ q)
theorem rel_ints {C : Cc} {H : Hp} {S : Sto} : ∀ ns : List Int, RelDs C H S (ns.map D.int) (ns.map V.int)
  | [] => RelDs.nil
  | n :: ns => RelDs.cons mk_int (rel_ints ns)
/-- over a value -/
theorem pi_val {tg e : Expr} {m : ME} (h : PE X e (tD (cc X ga Z) H0 S0 (wE G x m))) : PI X tg e (wiD (cc X ga Z) H0 S0 G x 0 [m]) := by
  refine ⟨fun pins s σ H R I q => ?_⟩
  obtain ⟨σd, S, rs, rp, ex, w⟩ := q
  have w2 : wE G x m σd S (kD (cc X ga Z) H S fun v H1 => ∃ u S1 its, itR u S1 = some its ∧ RelD (cc X ga Z) H1 S1 u v ∧ Rp (cc X ga Z) H1 S1 ∧ ∀ J, ItAll (cc X ga Z) H1 S1 J its.1 its.2 → R J H1) := by
    unfold wEs at w
    refine wE_mono (fun u S1 q H1 v rp1 e1 r1 => ?_) m σd S w
    unfold wEs at q
    obtain ⟨its, h1, h2⟩ := q
    exact ⟨u, S1, its, h1, r1, rp1, fun J hJ => h2 H1 J rp1 e1 hJ⟩
  refine thn (h.run pins s σ H _ I ⟨σd, S, rs, rp, ex, w2⟩) fun v s1 ⟨z, H1, I1, rz, u, S1, its, hi, rd, rp1, k⟩ => ?_
  cases u with
  | lst ds =>
    cases hi
    unfold RelD at rd
    obtain ⟨a, vs, rfl, f, r⟩ := rd
    cases rz
    refine iterL I1 f.sq (k _ fun Z' hz => itok_seqL fun H2 S2 _ e _ => ⟨vs, (f.ext e).sq, (r.wz hz).ext e⟩)
  | tup ds =>
    cases hi
    unfold RelD at rd
    obtain ⟨a, vs, rfl, f, r⟩ := rd
    cases rz
    refine iterT I1 f.sq (k _ fun Z' hz => itok_seqT fun H2 S2 _ e _ => ⟨vs, (f.ext e).sq, (r.wz hz).ext e⟩)
  | str y =>
    cases hi
    have hz := rd.strOk
    cases rel_str rd
    obtain ⟨t, rfl⟩ := rz
    exact iterS I1 (k _ fun _ _ => itok_str hz)
  | scr ns =>
    cases hi
    unfold RelD at rd
    obtain ⟨a, rfl, ⟨f, r, _⟩ | f⟩ := rd
    · cases rz
      exact iterL I1 (.inl f) (k _ fun _ _ => itok_seqL fun H2 S2 _ e _ => ⟨ns.map V.int, .inl (Rd.ext f r e).1, rel_ints ns⟩)
    · cases rz
      exact iterL I1 (.inr f) (k _ fun _ _ => itok_seqL fun H2 S2 _ e _ => ⟨ns.map V.int, .inr f, rel_ints ns⟩)
  | ref a =>
    have hi : (match S1 a with
      | some (.lst ds) => some (ds, fun S' => S' a = some (.lst ds))
      | some (.ldc o ks kvs) => g? ((kvs.all fun kv => kOk kv.1) = true) (kvs.map fun kv => keyD kv.1, fun S' => S' a = some (.ldc o ks kvs))
      | _ => none) = some its := hi
    unfold RelD at rd
    subst rd
    cases rz
    split at hi
    · rename_i ds h1
      cases hi
      obtain ⟨o, h2, h3⟩ := rp1.obj a _ h1
      obtain ⟨vs, rfl, r⟩ := h3
      refine iterL I1 (.of h2) (k _ fun Z' hz => itok_seqL fun H2 S2 rp2 e hg => ?_)
      obtain ⟨o, h4, h5⟩ := rp2.obj a _ hg
      obtain ⟨ws, rfl, r5⟩ := h5
      exact ⟨ws, .of h4, r5⟩
    · rename_i o ks kvs h1
      obtain ⟨hk, rfl⟩ := g?_some hi
      obtain ⟨ob, h2, h3⟩ := rp1.obj a _ h1
      obtain ⟨rfl, rk⟩ := h3
      exact iterK I1 h2 (k _ fun Z' hz => itok_keys hk)
    · cases hi
  | _ => cases hi
theorem pi_rng {sc : Scope} (g : Gd X sc ga Z H0 S0 G x) {tg : Expr} {as : List Expr} {ms : List ME} {p pos : Pos} (hg : gloB sc "range" = true) (hn : as.length = 1 ∨ as.length = 2) (hm : matchEs X.N sc ms as = true) (h : PA X as (tDA (cc X ga Z) H0 S0 (wEs G x ms))) :
    PI X tg (.Call (.Name "range" p) as [] pos) (wiD (cc X ga Z) H0 S0 G x 1 ms) := by
  have key : ∀ σ H R, wiD (cc X ga Z) H0 S0 G x 1 ms σ H R → tDA (cc X ga Z) H0 S0 (wEs G x ms) σ H fun vs H1 => vs.length = ms.length ∧ ∃ lo hi : Int, -(2 ^ 62) ≤ lo ∧ lo < 2 ^ 62 ∧ -(2 ^ 62) ≤ hi ∧ hi < 2 ^ 62 ∧ ((vs = [.int hi] ∧ lo = 0) ∨ vs = [.int lo, .int hi]) ∧ R (Itr lo (hi - lo).toNat) H1 := fun σ H R q => by
    obtain ⟨σd, S, rs, rp, ex, w⟩ := q
    refine ⟨σd, S, rs, rp, ex, wEs_mono (fun ds S1 q H1 vs rp1 e1 r1 => ?_) ms σd S (wEs_len ms σd S _ w)⟩
    obtain ⟨hl, its, h1, h2⟩ := q
    refine ⟨by rw [r1.len, hl], ?_⟩
    obtain ⟨l, h3, rfl⟩ := Option.map_eq_some_iff.mp (show (rngR ds).map (fun l => (l, fun _ => True)) = some its from h1)
    unfold rngR at h3
    split at h3
    · obtain ⟨c, rfl⟩ := g?_some h3
      obtain ⟨v, rfl, rv⟩ := rel1 r1
      rename_i j
      cases rel_int rv
      exact ⟨0, j, by omega, by omega, c.1, c.2, .inl ⟨rfl, rfl⟩, h2 H1 _ rp1 e1 fun _ _ => itok_range (by simp)⟩
    · obtain ⟨c, rfl⟩ := g?_some h3
      obtain ⟨v, w, rfl, rv, rw'⟩ := rel2 r1
      rename_i i j
      cases rel_int rv; cases rel_int rw'
      exact ⟨i, j, c.1, c.2.1, c.2.2.1, c.2.2.2, .inr rfl, h2 H1 _ rp1 e1 fun _ _ => itok_range rfl⟩
    · cases h3
  have hlen : ms.length = as.length := matchEs_len hm
  match as, hn, hm, h, hlen with
  | [a], _, hm, h, hlen =>
    refine PI.imp (pi_range1 (g.sck.glo hg) g.rng h (starEach_cons (star1 hm))) fun σ H R q => ?_
    obtain ⟨σd, S, rs, rp, ex, w⟩ := key σ H R q
    refine ⟨σd, S, rs, rp, ex, wEs_mono (fun ds S1 q H1 vs rp1 e1 r1 => ?_) ms σd S w⟩
    obtain ⟨h0, lo, hi, h1, h2, h3, h4, h5, h6⟩ := q H1 vs rp1 e1 r1
    rcases h5 with ⟨rfl, rfl⟩ | rfl
    · refine ⟨hi, rfl, h3, h4, ?_⟩
      rw [Int.sub_zero] at h6
      exact h6
    · rw [hlen] at h0; cases h0
  | [a, b], _, hm, h, hlen =>
    have s1 := star1 hm
    have s2 := star2 hm
    refine PI.imp (pi_range2 (g.sck.glo hg) g.rng h (by rw [starEach_cons s1, starEach_cons s2]; rfl) (starEach_cons s2)) fun σ H R q => ?_
    obtain ⟨σd, S, rs, rp, ex, w⟩ := key σ H R q
    refine ⟨σd, S, rs, rp, ex, wEs_mono (fun ds S1 q H1 vs rp1 e1 r1 => ?_) ms σd S w⟩
    obtain ⟨h0, lo, hi, h1, h2, h3, h4, h5, h6⟩ := q H1 vs rp1 e1 r1
    rcases h5 with ⟨rfl, rfl⟩ | rfl
    · rw [hlen] at h0; cases h0
    · exact ⟨lo, hi, rfl, ⟨h1, h2, h3, h4⟩, h6⟩
  | [], hn, _, _, _ => simp at hn
  | _ :: _ :: _ :: _, hn, _, _, _ => simp at hn
theorem pi_enm {sc : Scope} (g : Gd X sc ga Z H0 S0 G x) {elts : List Expr} {kk : Nat} {tpos : Pos} {as : List Expr} {ms : List ME} {p pos : Pos} (hg : gloB sc "enumerate" = true) (hn : as.length = 1) (hm : matchEs X.N sc ms as = true) (h : PA X as (tDA (cc X ga Z) H0 S0 (wEs G x ms))) :
    PI X (.Tuple elts kk tpos) (.Call (.Name "enumerate" p) as [] pos) (wiD (cc X ga Z) H0 S0 G x 2 ms) := by
  match as, hn, hm, h with
  | [a], _, hm, h =>
    refine PI.imp (pi_enumB (g.sck.glo hg) g.enm h (starEach_cons (star1 hm))) fun σ H R q => ?_
    obtain ⟨σd, S, rs, rp, ex, w⟩ := q
    refine ⟨σd, S, rs, rp, ex, wEs_mono (fun ds S1 q H1 vs rp1 e1 r1 => ?_) ms σd S w⟩
    obtain ⟨its, h1, h2⟩ := q
    match ds, h1, r1 with
    | [u], h1, r1 =>
      obtain ⟨v, rfl, rv⟩ := rel1 r1
      have h1 : (match listOf S1 u, itR u S1 with
        | some _, some its => some (enmL 0 its.1, its.2)
        | _, _ => enmR u) = some its := h1
      cases hl : listOf S1 u with
      | none =>
        rw [hl] at h1
        replace h1 : enmR u = some its := by
          cases hi : itR u S1 <;> (rw [hi] at h1; exact h1)
        cases u with
        | str z =>
          have h1 : some (enmL 0 (z.cps.toList.map fun c => D.str ⟨#[c]⟩), fun (_ : Sto) => True) = some its := h1
          cases h1
          have hz := rv.strOk
          cases rel_str rv
          exact .inr ⟨z, rfl, h2 H1 _ rp1 e1 fun Z' hzz => itok_enumS hz⟩
        | _ => cases h1
      | some l =>
        cases hi : itR u S1 with
        | none =>
          rw [hl, hi] at h1
          cases u <;> first | (cases h1; done) | (cases hl; done)
        | some it =>
          rw [hl, hi] at h1
          cases h1
          obtain ⟨b, vs, rfl, hb, r⟩ := listOf_sq rp1 rv hl
          refine .inl ⟨b, vs, rfl, .of hb, h2 H1 _ rp1 e1 fun Z' hz => itok_enum fun H2 S2 rp2 e2 hgd => ?_⟩
          cases u with
          | lst es =>
            cases hi
            cases hl
            unfold RelD at rv
            obtain ⟨b', vs', eb, f, r'⟩ := rv
            cases eb
            exact ⟨vs', (f.ext e2).sq, (r'.wz hz).ext e2⟩
          | ref c =>
            obtain rfl := itR_ref hl hi
            unfold RelD at rv
            cases rv
            obtain ⟨o, h4, h5⟩ := rp2.obj _ _ hgd
            obtain ⟨ws, rfl, r5⟩ := h5
            exact ⟨ws, .of h4, r5⟩
          | _ => cases hl
    | [], h1, _ => cases h1
    | _ :: _ :: _, h1, _ => cases h1
/-- a list that is walked by its place -/
theorem lst_src {C : Cc} {H1 : Hp} {S1 : Sto} {u : D} {v : V} {l : List D} {it : List D × (Sto → Prop)} (rp1 : Rp C H1 S1) (rv : RelD C H1 S1 u v) (hl : listOf S1 u = some l) (hi : itR u S1 = some it) :
    ∃ b vs, v = .ref b ∧ SqL C.K H1 b vs ∧ ∀ Z' : Addr → Prop, (∀ a, Z' a → C.Z a ∨ H1 a = none) → ∀ H2 S2, Rp (C.wz Z') H2 S2 → Ext H1 S1 H2 S2 → it.2 S2 → ∃ ws, SqL C.K H2 b ws ∧ RelDs (C.wz Z') H2 S2 it.1 ws := by
  obtain ⟨b, vs, rfl, hb, r⟩ := listOf_sq rp1 rv hl
  refine ⟨b, vs, rfl, .of hb, fun Z' hz H2 S2 rp2 e2 hgd => ?_⟩
  cases u with
  | lst es =>
    cases hi
    unfold RelD at rv
    obtain ⟨b', vs', eb, f, r'⟩ := rv
    cases eb
    exact ⟨vs', (f.ext e2).sq, (r'.wz hz).ext e2⟩
  | ref c =>
    obtain rfl := itR_ref hl hi
    unfold RelD at rv
    cases rv
    obtain ⟨o, h4, h5⟩ := rp2.obj _ _ hgd
    obtain ⟨ws, rfl, r5⟩ := h5
    exact ⟨ws, .of h4, r5⟩
  | _ => cases hl
theorem pi_zp {sc : Scope} (g : Gd X sc ga Z H0 S0 G x) {elts : List Expr} {kk : Nat} {tpos : Pos} {as : List Expr} {ms : List ME} {p pos : Pos} (hg : gloB sc "zip" = true) (hn : as.length = 2) (hm : matchEs X.N sc ms as = true) (h : PA X as (tDA (cc X ga Z) H0 S0 (wEs G x ms))) :
    PI X (.Tuple elts kk tpos) (.Call (.Name "zip" p) as [] pos) (wiD (cc X ga Z) H0 S0 G x 3 ms) := by
  match as, hn, hm, h with
  | [a, b], _, hm, h =>
    have hm2 : ∃ ms', matchEs X.N sc ms' [b] = true := by
      cases ms with
      | nil => unfold matchEs at hm; cases hm
      | cons m ms => unfold matchEs at hm; exact ⟨ms, (and2 (and2 hm).2).2⟩
    obtain ⟨ms', hm2⟩ := hm2
    refine PI.imp (pi_zipB (g.sck.glo hg) g.zip h (starEach_cons (star1 hm)) (star_all hm2).1) fun σ H R q => ?_
    obtain ⟨σd, S, rs, rp, ex, w⟩ := q
    refine ⟨σd, S, rs, rp, ex, wEs_mono (fun ds S1 q H1 vs rp1 e1 r1 => ?_) ms σd S w⟩
    obtain ⟨its, h1, h2⟩ := q
    match ds, h1, r1 with
    | [u, u'], h1, r1 =>
      obtain ⟨v, v', rfl, rv, rv'⟩ := rel2 r1
      have h1 : (match listOf S1 u, itR u S1, listOf S1 u', itR u' S1 with
        | some _, some its, some _, some jts => some (zipL its.1 jts.1, fun S' => its.2 S' ∧ jts.2 S')
        | none, _, some _, some jts => zipR u jts
        | _, _, _, _ => none) = some its := h1
      split at h1
      · rename_i l it l' it' hl hi hl' hi'
        cases h1
        obtain ⟨b1, vs1, rfl, s1, k1⟩ := lst_src rp1 rv hl hi
        obtain ⟨b2, vs2, rfl, s2, k2⟩ := lst_src rp1 rv' hl' hi'
        refine .inl ⟨b1, b2, vs1, vs2, rfl, s1, s2, h2 H1 _ rp1 e1 fun Z' hz => itok_zip fun H2 S2 rp2 e2 hgd => ?_⟩
        obtain ⟨w1, z1, y1⟩ := k1 Z' hz H2 S2 rp2 e2 hgd.1
        obtain ⟨w2, z2, y2⟩ := k2 Z' hz H2 S2 rp2 e2 hgd.2
        exact ⟨w1, w2, z1, y1, z2, y2⟩
      · rename_i l' it' hl hl' hi'
        unfold zipR at h1
        split at h1
        · rename_i z _
          cases h1
          have hz : PySem.PyData.strOk z = true := by unfold RelD at rv; exact rv.2
          cases rel_str rv
          obtain ⟨b2, vs2, rfl, s2, k2⟩ := lst_src rp1 rv' hl' hi'
          exact .inr ⟨z, b2, vs2, rfl, s2, h2 H1 _ rp1 e1 fun Z' hzz => itok_zipS hz fun H2 S2 rp2 e2 hgd => k2 Z' hzz H2 S2 rp2 e2 hgd⟩
        · cases h1
      · cases h1
    | [], h1, _ => cases h1
    | [_], h1, _ => cases h1
    | _ :: _ :: _ :: _, h1, _ => cases h1
  | [], hn, _, _ => simp at hn
  | [_], hn, _, _ => simp at hn
  | _ :: _ :: _ :: _, hn, _, _ => simp at hn
end
abbrev noX : XW := fun _ _ _ => False
theorem takesL_no {X : Cx} {C : Cc} {H0 : Hp} {S0 : Sto} : TakesL X (liftX C H0 S0 noX) := fun u s' h => by
  obtain ⟨L, _, a, B, sI, pins, σ, H, cls, d, _, _, _, _, _, _, _, _, w⟩ := h
  obtain ⟨e, σd, S, _, _, _, _, w⟩ := w
  exact w.elim
theorem relabel_look {env : PySem.Env} : ∀ {names : List (Str × NameKind)} {x : Str} {k : NameKind}, names.lookup x = some k →
    ∃ k', (names.map fun (n, k) => if (k == NameKind.free && env.scope.kind == .function && env.kindOf n == some .cell) then (n, NameKind.cell) else (n, k)).lookup x = some k' ∧ (k' = k ∨ (k = .free ∧ k' = .cell))
  | [], _, _, h => by cases h
  | (n, k) :: r, x, j, h => by
    rw [List.map_cons]
    rw [List.lookup_cons] at h
    by_cases e : x = n
    · subst e
      rw [beq_self_eq_true] at h
      cases h
      dsimp only
      split
      · rename_i q
        refine ⟨.cell, by rw [List.lookup_cons, beq_self_eq_true], .inr ⟨?_, rfl⟩⟩
        have q1 := (and2 (and2 q).1).1
        exact beq_iff_eq.mp q1
      · exact ⟨k, by rw [List.lookup_cons, beq_self_eq_true], .inl rfl⟩
    · have hb : (x == n) = false := beq_eq_false_iff_ne.mpr e
      rw [hb] at h
      obtain ⟨k', h1, h2⟩ := relabel_look (env := env) h
      refine ⟨k', ?_, h2⟩
      dsimp only
      split <;> (rw [List.lookup_cons, hb]; exact h1)
section
variable {X : Cx} {ga : Str → Addr} {Z : Addr → Prop} {H0 : Hp} {S0 : Sto} {G : Gc} {x : XW}
theorem Gd.blk {sc : Scope} (g : Gd X sc ga Z H0 S0 G x) {scope : Scope} (hk : scope.kind = .function) (s : Shared) (H : Hp) (Ca : Addr) (cl : List (Str × Addr)) (fp : List Addr) (Z' : Addr → Prop) (H0' : Hp) (S0' : Sto) :
    Gd (X.blk s H scope (compEnvC scope cl Ca X.env) fp) scope ga Z' H0' S0' G noX where
  nd := g.nd
  calm := g.calm
  room := g.room
  sck := ⟨hk, fun y k h => relabel_look h⟩
  tk := takesL_no
  frm := g.frm
  own := fun _ => PassesOwn.never
  fns := fun f n sp h => ⟨(g.fns f n sp h).ex⟩
  con := fun n d h => g.con n d h
  blt := g.blt
  tys := g.tys
  mts := fun c m n sp h => ⟨(g.mts c m n sp h).ex⟩
  mks := fun c n sp h => ⟨(g.mks c n sp h).ex⟩
  flds := g.flds
  excs := fun c n F h => ⟨(g.excs c n F h).ex⟩
  subs := fun c c' b h => ⟨(g.subs c c' b h).mg, (g.subs c c' b h).exm, (g.subs c c' b h).kit, (g.subs c c' b h).exc⟩
  xfls := g.xfls
  isvs := fun c h => ⟨(g.isvs c h).mg, (g.isvs c h).kit, (g.isvs c h).exc⟩
  hots := fun c m f h => ⟨(g.hots c m f h).ex⟩
  cds := fun n l h => ⟨(g.cds n l h).ex⟩
  cts := fun n l h => ⟨(g.cts n l h).ex⟩
  zip := g.zip
  rng := g.rng
  enm := g.enm
  fnl := fun y h => by
    unfold locB at h
    cases e : scope.names.lookup y with
    | none => rw [e] at h; cases h
    | some k =>
      rw [e] at h
      cases k with
      | «local» =>
        refine .inr ?_
        obtain ⟨k', h1, h2⟩ := relabel_look (env := X.env) e
        rcases h2 with rfl | ⟨q, _⟩
        · exact h1
        · cases q
      | cell =>
        refine .inl ?_
        show (scope.names.lookup y == some .cell) = true
        rw [e]; rfl
      | _ => cases h
theorem Gd.blkR {sc : Scope} (g : Gd X sc ga Z H0 S0 G x) {scope : Scope} (hk : scope.kind = .function) (s : Shared) (H : Hp) (Ca : Addr) (cl : List (Str × Addr)) (fp : List Addr) (Z' : Addr → Prop) (H0' : Hp) (S0' : Sto) {x' : XW} {pn : List (Addr × Obj)} {xc : Value → Shared → Prop} (tk : TakesL ((X.blk s H scope (compEnvC scope cl Ca X.env) fp).tr pn xc) (liftX (cc X ga Z') H0' S0' x')) :
    Gd ((X.blk s H scope (compEnvC scope cl Ca X.env) fp).tr pn xc) scope ga Z' H0' S0' G x' where
  nd := g.nd
  calm := g.calm
  room := g.room
  sck := ⟨hk, fun y k h => relabel_look h⟩
  tk := tk
  frm := g.frm
  own := fun h => absurd (congrArg List.length h) (by simp)
  fns := fun f n sp h => ⟨(g.fns f n sp h).ex⟩
  con := fun n d h => g.con n d h
  blt := g.blt
  tys := g.tys
  mts := fun c m n sp h => ⟨(g.mts c m n sp h).ex⟩
  mks := fun c n sp h => ⟨(g.mks c n sp h).ex⟩
  flds := g.flds
  excs := fun c n F h => ⟨(g.excs c n F h).ex⟩
  subs := fun c c' b h => ⟨(g.subs c c' b h).mg, (g.subs c c' b h).exm, (g.subs c c' b h).kit, (g.subs c c' b h).exc⟩
  xfls := g.xfls
  isvs := fun c h => ⟨(g.isvs c h).mg, (g.isvs c h).kit, (g.isvs c h).exc⟩
  hots := fun c m f h => ⟨(g.hots c m f h).ex⟩
  cds := fun n l h => ⟨(g.cds n l h).ex⟩
  cts := fun n l h => ⟨(g.cts n l h).ex⟩
  zip := g.zip
  rng := g.rng
  enm := g.enm
  fnl := fun y h => by
    unfold locB at h
    cases e : scope.names.lookup y with
    | none => rw [e] at h; cases h
    | some k =>
      rw [e] at h
      cases k with
      | «local» =>
        refine .inr ?_
        obtain ⟨k', h1, h2⟩ := relabel_look (env := X.env) e
        rcases h2 with rfl | ⟨q, _⟩
        · exact h1
        · cases q
      | cell =>
        refine .inl ?_
        show (scope.names.lookup y == some .cell) = true
        rw [e]; rfl
      | _ => cases h
def tDx (X : Cx) (ga : Str → Addr) (f : W1) : TE := fun σ H Q => ∃ (Z : Addr → Prop) (H0 : Hp) (S0 : Sto), tD (cc X ga Z) H0 S0 f σ H Q
def tCx (X : Cx) (ga : Str → Addr) (G : Gc) (c : List ME) : TT := fun σ H Q => ∃ (Z : Addr → Prop) (σd : Env) (S : Sto), RelS (cc X ga Z) H S σd σ ∧ Rp (cc X ga Z) H S ∧ wC G c σd S fun b S' => ∀ H', Rp (cc X ga Z) H' S' → Ext H S H' S' → Q b H'
def gDx (X : Cx) (ga : Str → Addr) (t : MT) : TG := fun v σ H Q => ∃ Z : Addr → Prop, gD (cc X ga Z) t v σ H Q
def wipeE (σ : Env) : List Nat → Env
  | [] => σ
  | v :: vs => (wipeE σ vs).set v none
theorem relS_wipe {C : Cc} {H : Hp} {S : Sto} {σd : Env} {σ : St} (h : RelS C H S σd σ) : ∀ vs, RelS C H S (wipeE σd vs) (wipe σ vs)
  | [] => h
  | v :: vs => by
    obtain ⟨h1, h2⟩ := relS_wipe h vs
    unfold wipeE wipe
    refine ⟨by simp [h1], fun i d q => ?_⟩
    rw [List.getElem?_set] at q ⊢
    by_cases e : v = i
    · rw [if_pos e] at q
      split at q <;> cases q
    · rw [if_neg e] at q ⊢
      exact h2 i d q
theorem wipe_wipe (σ : St) : ∀ vs ws : List Nat, (∀ i ∈ ws, i ∈ vs) → wipe (wipe σ ws) vs = wipe σ vs
  | vs, [], _ => rfl
  | vs, w :: ws, h => by
    show wipe ((wipe σ ws).set w none) vs = wipe σ vs
    rw [wipe_set (h w List.mem_cons_self), wipe_wipe σ vs ws fun i hi => h i (List.mem_cons_of_mem _ hi)]
/-- two environments alike but at some slots -/
def Alike (P : Nat → Prop) (σ τ : Env) : Prop := σ.length = τ.length ∧ ∀ i, ¬ P i → σ[i]? = τ[i]?
theorem alike_set {P : Nat → Prop} {σ τ : Env} (h : Alike P σ τ) (i : Nat) (o : Option D) : Alike (fun j => P j ∧ j ≠ i) (σ.set i o) (τ.set i o) := ⟨by simp [h.1], fun j hj => by
  rw [List.getElem?_set, List.getElem?_set, h.1]
  by_cases e : i = j
  · rw [if_pos e, if_pos e]
  · rw [if_neg e, if_neg e]
    exact h.2 j fun q => hj ⟨q, fun z => e z.symm⟩⟩
mutual
theorem asgT_alike : ∀ (t : MT) (d : D) {P : Nat → Prop} {σ τ σ' : Env}, Alike P σ τ → asgT t d σ = some σ' → ∃ τ', asgT t d τ = some τ' ∧ Alike (fun j => P j ∧ j ∉ slots t) σ' τ'
  | .nm i, d, P, σ, τ, σ', h, e => by
    unfold asgT at e ⊢
    cases e
    refine ⟨_, rfl, (alike_set h i _).1, fun j hj => (alike_set h i (some d)).2 j fun q => hj ⟨q.1, fun z => q.2 ?_⟩⟩
    unfold slots at z
    simpa using z
  | .tp ts, .tup ds, P, σ, τ, σ', h, e => by
    unfold asgT at e ⊢
    obtain ⟨τ', h1, h2⟩ := asgTs_alike ts ds h e
    exact ⟨τ', h1, by unfold slots; exact h2⟩
  | .tp _, .non, _, _, _, _, _, e => by unfold asgT at e; cases e
  | .tp _, .bl _, _, _, _, _, _, e => by unfold asgT at e; cases e
  | .tp _, .int _, _, _, _, _, _, e => by unfold asgT at e; cases e
  | .tp _, .str _, _, _, _, _, _, e => by unfold asgT at e; cases e
  | .tp _, .ty _, _, _, _, _, _, e => by unfold asgT at e; cases e
  | .tp _, .ref _, _, _, _, _, _, e => by unfold asgT at e; cases e
  | .tp _, .lst _, _, _, _, _, _, e => by unfold asgT at e; cases e
  | .tp _, .scr _, _, _, _, _, _, e => by unfold asgT at e; cases e
theorem asgTs_alike : ∀ (ts : List MT) (ds : List D) {P : Nat → Prop} {σ τ σ' : Env}, Alike P σ τ → asgTs ts ds σ = some σ' → ∃ τ', asgTs ts ds τ = some τ' ∧ Alike (fun j => P j ∧ j ∉ slotss ts) σ' τ'
  | [], [], P, σ, τ, σ', h, e => by
    unfold asgTs at e ⊢
    cases e
    exact ⟨τ, rfl, h.1, fun j hj => h.2 j fun q => hj ⟨q, by unfold slotss; simp⟩⟩
  | [], _ :: _, _, _, _, _, _, e => by unfold asgTs at e; cases e
  | _ :: _, [], _, _, _, _, _, e => by unfold asgTs at e; cases e
  | t :: ts, d :: ds, P, σ, τ, σ', h, e => by
    unfold asgTs at e ⊢
    cases q : asgT t d σ with
    | none => rw [q] at e; cases e
    | some σ1 =>
      rw [q] at e
      obtain ⟨τ1, h1, h2⟩ := asgT_alike t d h q
      obtain ⟨τ', h3, h4⟩ := asgTs_alike ts ds h2 e
      rw [h1]
      refine ⟨τ', h3, h4.1, fun j hj => h4.2 j fun z => hj ⟨z.1.1, fun w => ?_⟩⟩
      unfold slotss at w
      rcases List.mem_append.mp w with w | w
      · exact z.1.2 w
      · exact z.2 w
end
theorem wipeE_alike (σ : Env) : ∀ vs, Alike (fun j => j ∈ vs) σ (wipeE σ vs)
  | [] => ⟨rfl, fun _ _ => rfl⟩
  | v :: vs => by
    obtain ⟨h1, h2⟩ := wipeE_alike σ vs
    unfold wipeE
    refine ⟨by simp [h1], fun j hj => ?_⟩
    rw [List.getElem?_set, if_neg (fun e => hj (by rw [e]; exact List.mem_cons_self))]
    exact h2 j fun q => hj (List.mem_cons_of_mem _ q)
theorem asgT_wipe {t : MT} {d : D} {σ σ' : Env} (h : asgT t d σ = some σ') : asgT t d (wipeE σ (slots t)) = some σ' := by
  obtain ⟨τ', h1, h2⟩ := asgT_alike t d (wipeE_alike σ (slots t)) h
  have e : σ' = τ' := by
    refine List.ext_getElem? fun i => h2.2 i fun q => q.2 q.1
  rw [e]; exact h1
theorem lc_imp {i : Nat} {m : Bool} {t : MT} {as c : List ME} {e : ME} {σ : St} {H : Hp} {Q : VK} (h : tD (cc X ga Z) H0 S0 (wE G x (.lc i m t as c e)) σ H Q) :
    tLc (wiD (cc X ga Z) H0 S0 G x i as) (gDx X ga t) (tCx X ga G c) (tDx X ga (wE G noX e)) (slots t) σ H Q := by
  obtain ⟨σd, S, rs, rp, ex, w⟩ := h
  unfold wE at w
  refine ⟨σd, S, rs, rp, ex, wEs_mono (fun ds S1 q => ?_) as σd S w⟩
  obtain ⟨its, hi, hl⟩ := q
  refine ⟨its, hi, fun H1 J rp1 e1 hJ Da hD => ?_⟩
  obtain ⟨Z', hZ'⟩ : ∃ Z' : Addr → Prop, Z' = fun a => Z a ∨ a = Da := ⟨_, rfl⟩
  have hzz : ∀ a, Z' a ↔ (Z a ∨ a = Da) := fun a => by rw [hZ']
  have hzD : Z' Da := (hzz Da).mpr (.inr rfl)
  have rp1' : Rp (cc X ga Z') (upd H1 Da (.lst [])) S1 := by rw [hZ']; exact rp1.addZ hD
  have hJ' : ItOk (cc X ga Z') H1 S1 J its.1 its.2 := hJ Z' fun a z => ((hzz a).mp z).imp (fun q => q) fun q => by rw [q]; exact hD
  have rs1 : RelS (cc X ga Z') H1 S1 σd σ := (rs.ext e1).wz (Z := Z') fun a z => ((hzz a).mp z).imp (fun q => q) fun q => by rw [q]; exact hD
  refine ⟨fun j n Hh => ∃ S2 acc accV, Rp (cc X ga Z') Hh S2 ∧ Ext H1 S1 Hh S2 ∧ Hh Da = some (.lst accV) ∧ RelDs (cc X ga Z') Hh S2 acc accV ∧ j ≤ its.1.length ∧ n = its.1.length - j ∧
    lcLoop its.2 (fun d S2 q => ∃ σ', asgT t d σd = some σ' ∧ wC G c σ' S2 fun b S3 => if b = true then wE G noX e σ' S3 fun y S4 => q (some y) S4 else q none S3) (its.1.drop j) acc S2 (fun acc S2 => fin m (.newL acc) S2 (kD (cc X ga Z) H S Q)),
    ⟨its.1.length, S1, [], [], rp1', Ext.new hD, upd_same, RelDs.nil, Nat.zero_le _, rfl, hl⟩, ?_⟩
  rintro j n Hh ⟨S2, acc, accV, rp2, e2, hDa, racc, hj, hn, hl⟩
  cases hd : its.1.drop j with
  | nil =>
    rw [hd] at hl
    left
    obtain ⟨hg, hk⟩ := hl
    refine ⟨(hJ' j Hh S2 rp2 e2 hg).2 (Nat.le_antisymm hj (List.drop_eq_nil_iff.mp hd)), ?_⟩
    have rp3 : Rp (cc X ga Z) Hh S2 := rp2.wz (Z := Z) fun a z => (hzz a).mpr (.inl z)
    cases m with
    | false =>
      refine hk Hh (.ref Da) rp3 (e1.trans e2) ?_
      unfold RelD
      exact ⟨Da, accV, rfl, ⟨hDa, (rp2.z Da hzD).2, rp1.nz hD⟩, racc.wz (Z := Z) fun a z => .inl ((hzz a).mpr (.inl z))⟩
    | true =>
      have hS := (rp2.z Da hzD).2
      refine hk Da hS Hh (.ref Da) (rp2.thaw (Z := Z) hzz (rp1.nz hD) hDa racc) (fun b u hb sb => ?_) (by unfold RelD; rfl)
      obtain ⟨q1, q2⟩ := e1 b u hb sb
      obtain ⟨q3, q4⟩ := e2 b u q1 q2
      exact ⟨q3, by rw [put_ne (ne_of_none q1 hD)]; exact q4⟩
  | cons d rest =>
    rw [hd] at hl
    right
    obtain ⟨hg, hk⟩ := hl
    have hjd : its.1[j]? = some d := by
      have : (its.1.drop j)[0]? = some d := by rw [hd]; rfl
      rw [List.getElem?_drop] at this
      simpa using this
    have hlt : j < its.1.length := (List.getElem?_eq_some_iff.mp hjd).1
    obtain ⟨hgo, hy⟩ := (hJ' j Hh S2 rp2 e2 hg).1 d hjd
    refine ⟨hgo, _, fun H' q => ⟨its.1.length - (j + 1), by omega, q⟩, fun v H' hyl => ?_⟩
    obtain ⟨rp3, e3, rd⟩ := hy v H' hyl
    obtain ⟨σ', ha, hw⟩ := hk
    have rs3 : RelS (cc X ga Z') H' S2 σd σ := rs1.ext (e2.trans e3)
    refine ⟨Z', d, wipeE σd (slots t), σ', S2, relS_wipe rs3 _, rp3, rd, asgT_wipe ha, fun σv rv hv => ⟨?_, ?_⟩⟩
    · rw [hv (slots t) fun i hi => hi]
      exact wipe_wipe σ _ _ fun i hi => hi
    · refine ⟨Z', σ', S2, rv, rp3, wC_mono (fun b S3 q H3 rp4 e4 => ?_) c σ' S2 hw⟩
      have hrest : its.1.drop (j + 1) = rest := by
        rw [← List.drop_drop, hd]; rfl
      have hD3 : H3 Da = some (.lst accV) := ((e3.trans e4) Da _ hDa (rp2.z Da hzD).2).1
      cases b with
      | false =>
        rw [if_neg Bool.false_ne_true] at q
        refine iteF ?_
        exact ⟨S3, acc, accV, rp4, e2.trans (e3.trans e4), hD3, racc.ext (e3.trans e4), hlt, rfl, by rw [hrest]; exact q⟩
      | true =>
        rw [if_pos rfl] at q
        refine iteT ?_
        refine ⟨Z', H3, S3, σ', S3, rv.ext e4, rp4, Ext.refl _ _, wE_mono (fun y S4 q H4 yv rp5 e5 r5 => ?_) e σ' S3 q⟩
        obtain ⟨hlen, q⟩ := q
        have hS3 : S3 Da = none := (rp4.z Da hzD).2
        have hD4 : H4 Da = some (.lst accV) := (e5 Da _ hD3 hS3).1
        have racc4 : RelDs (cc X ga Z') H4 S4 acc accV := racc.ext ((e3.trans e4).trans e5)
        have mvg : Mv (cc X ga Z') (cc X ga Z') H4 (upd H4 Da (.lst (accV ++ [yv]))) S4 S4 := mv_grow hzD hD4
        refine ⟨accV, hD4, by rw [racc4.len]; exact hlen, S4, acc ++ [y], accV ++ [yv], rp5.grow hzD hD4, fun b u hb sb => ?_, upd_same, (racc4.app (RelDs.cons r5 RelDs.nil)).mv mvg, hlt, rfl, by rw [hrest]; exact q⟩
        obtain ⟨q1, q2⟩ := (e2.trans ((e3.trans e4).trans e5)) b u hb sb
        exact ⟨by rw [upd_ne (ne_of_none hb hD)]; exact q1, q2⟩
theorem RelX.wz {C C' : Cc} {H : Hp} {S : Sto} {e : Exc} {cls : Value} {d : Option Addr} (hg : C'.ga = C.ga) (z : ∀ {x : D} {v : V}, RelD C H S x v → RelD C' H S x v) (r : RelX C H S e cls d) : RelX C' H S e cls d := by
  obtain ⟨rfl, dd, fs, h1, h2, h3, h4⟩ := r
  refine ⟨by rw [hg], dd, fs, h1, h2, h3, fun f x hx => ?_⟩
  obtain ⟨v, k1, k2⟩ := h4 f x hx
  exact ⟨v, k1, z k2⟩
/-- the element, at any wish that is within the frame's -/
def tDxR (X : Cx) (ga : Str → Addr) (G : Gc) (e : ME) (W' : WX) : TE := fun σ H Q => ∃ (Z : Addr → Prop) (H0 : Hp) (S0 : Sto) (x' : XW), (∀ cls d σ H, liftX (cc X ga Z) H0 S0 x' cls d σ H → W' cls d σ H) ∧ tD (cc X ga Z) H0 S0 (wE G x' e) σ H Q
theorem lc_impR {i : Nat} {t : MT} {as : List ME} {e : ME} {σ : St} {H : Hp} {Q : VK} (h : tD (cc X ga Z) H0 S0 (wE G x (.lcR i t as e)) σ H Q) :
    tLc (wiD (cc X ga Z) H0 S0 G x i as) (gDx X ga t) tYes (tDxR X ga G e fun cls d _ H' => liftX (cc X ga Z) H0 S0 x cls d σ H') (slots t) σ H Q := by
  obtain ⟨σd, S, rs, rp, ex, w⟩ := h
  unfold wE at w
  refine ⟨σd, S, rs, rp, ex, wEs_mono (fun ds S1 q => ?_) as σd S w⟩
  obtain ⟨its, hi, hl⟩ := q
  refine ⟨its, hi, fun H1 J rp1 e1 hJ Da hD => ?_⟩
  obtain ⟨Z', hZ'⟩ : ∃ Z' : Addr → Prop, Z' = fun a => Z a ∨ a = Da := ⟨_, rfl⟩
  have hzz : ∀ a, Z' a ↔ (Z a ∨ a = Da) := fun a => by rw [hZ']
  have hzD : Z' Da := (hzz Da).mpr (.inr rfl)
  have rp1' : Rp (cc X ga Z') (upd H1 Da (.lst [])) S1 := by rw [hZ']; exact rp1.addZ hD
  have hJ' : ItOk (cc X ga Z') H1 S1 J its.1 its.2 := hJ Z' fun a z => ((hzz a).mp z).imp (fun q => q) fun q => by rw [q]; exact hD
  have rs1 : RelS (cc X ga Z') H1 S1 σd σ := (rs.ext e1).wz (Z := Z') fun a z => ((hzz a).mp z).imp (fun q => q) fun q => by rw [q]; exact hD
  refine ⟨fun j n Hh => ∃ S2 acc accV, Rp (cc X ga Z') Hh S2 ∧ Ext H1 S1 Hh S2 ∧ Hh Da = some (.lst accV) ∧ RelDs (cc X ga Z') Hh S2 acc accV ∧ j ≤ its.1.length ∧ n = its.1.length - j ∧
    lcLoop its.2 (fun d S2 q => ∃ σ', asgT t d σd = some σ' ∧ wE G (fun ex _ S' => x ex σd S') e σ' S2 fun y S4 => q (some y) S4) (its.1.drop j) acc S2 (fun acc S2 => fin false (.newL acc) S2 (kD (cc X ga Z) H S Q)),
    ⟨its.1.length, S1, [], [], rp1', Ext.new hD, upd_same, RelDs.nil, Nat.zero_le _, rfl, hl⟩, ?_⟩
  rintro j n Hh ⟨S2, acc, accV, rp2, e2, hDa, racc, hj, hn, hl⟩
  cases hd : its.1.drop j with
  | nil =>
    rw [hd] at hl
    left
    obtain ⟨hg, hk⟩ := hl
    refine ⟨(hJ' j Hh S2 rp2 e2 hg).2 (Nat.le_antisymm hj (List.drop_eq_nil_iff.mp hd)), ?_⟩
    have rp3 : Rp (cc X ga Z) Hh S2 := rp2.wz (Z := Z) fun a z => (hzz a).mpr (.inl z)
    refine hk Hh (.ref Da) rp3 (e1.trans e2) ?_
    unfold RelD
    exact ⟨Da, accV, rfl, ⟨hDa, (rp2.z Da hzD).2, rp1.nz hD⟩, racc.wz (Z := Z) fun a z => .inl ((hzz a).mpr (.inl z))⟩
  | cons d rest =>
    rw [hd] at hl
    right
    obtain ⟨hg, hk⟩ := hl
    have hjd : its.1[j]? = some d := by
      have : (its.1.drop j)[0]? = some d := by rw [hd]; rfl
      rw [List.getElem?_drop] at this
      simpa using this
    have hlt : j < its.1.length := (List.getElem?_eq_some_iff.mp hjd).1
    obtain ⟨hgo, hy⟩ := (hJ' j Hh S2 rp2 e2 hg).1 d hjd
    refine ⟨hgo, _, fun H' q => ⟨its.1.length - (j + 1), by omega, q⟩, fun v H' hyl => ?_⟩
    obtain ⟨rp3, e3, rd⟩ := hy v H' hyl
    obtain ⟨σ', ha, hw⟩ := hk
    have rs3 : RelS (cc X ga Z') H' S2 σd σ := rs1.ext (e2.trans e3)
    refine ⟨Z', d, wipeE σd (slots t), σ', S2, relS_wipe rs3 _, rp3, rd, asgT_wipe ha, fun σv rv hv => ⟨?_, ?_⟩⟩
    · rw [hv (slots t) fun i hi => hi]
      exact wipe_wipe σ _ _ fun i hi => hi
    · unfold tYes
      dsimp only
      rw [if_pos rfl]
      have hrest : its.1.drop (j + 1) = rest := by
        rw [← List.drop_drop, hd]; rfl
      have hD3 : H' Da = some (.lst accV) := (e3 Da _ hDa (rp2.z Da hzD).2).1
      refine ⟨Z', H', S2, fun ex _ S' => x ex σd S', fun cls d' σ8 H8 hx => ?_, σ', S2, rv, rp3, Ext.refl _ _, wE_mono (fun y S4 q H4 yv rp5 e5 r5 => ?_) e σ' S2 hw⟩
      · obtain ⟨ee, σe, S', _, rp8, e8, rx, hxx⟩ := hx
        have wz : ∀ {x : D} {v : V}, RelD (cc X ga Z') H8 S' x v → RelD (cc X ga Z) H8 S' x v := fun r => r.wz (Z := Z) fun a z => .inl ((hzz a).mpr (.inl z))
        refine ⟨ee, σd, S', (rs3.ext e8).wz (Z := Z) fun a z => .inl ((hzz a).mpr (.inl z)), rp8.wz (Z := Z) fun a z => (hzz a).mpr (.inl z), ex.trans (e1.trans (e2.trans (e3.trans e8))), RelX.wz (C := cc X ga Z') (C' := cc X ga Z) rfl wz rx, hxx⟩
      · obtain ⟨hlen, q⟩ := q
        have hD4 : H4 Da = some (.lst accV) := (e5 Da _ hD3 (rp3.z Da hzD).2).1
        have racc4 : RelDs (cc X ga Z') H4 S4 acc accV := racc.ext (e3.trans e5)
        have mvg : Mv (cc X ga Z') (cc X ga Z') H4 (upd H4 Da (.lst (accV ++ [yv]))) S4 S4 := mv_grow hzD hD4
        refine ⟨accV, hD4, by rw [racc4.len]; exact hlen, S4, acc ++ [y], accV ++ [yv], rp5.grow hzD hD4, fun b u hb sb => ?_, upd_same, (racc4.app (RelDs.cons r5 RelDs.nil)).mv mvg, hlt, rfl, by rw [hrest]; exact q⟩
        obtain ⟨q1, q2⟩ := (e2.trans (e3.trans e5)) b u hb sb
        exact ⟨by rw [upd_ne (ne_of_none hb hD)]; exact q1, q2⟩
end
theorem PE.ex {X : Cx} {e : Expr} {ι : Sort _} {t : ι → TE} (h : ∀ i, PE X e (t i)) : PE X e (fun σ H Q => ∃ i, t i σ H Q) := ⟨fun pins s σ H Q I ⟨i, q⟩ => (h i).run pins s σ H Q I q⟩
theorem PG.ex {X : Cx} {e : Expr} {ι : Sort _} {t : ι → TG} (h : ∀ i, PG X e (t i)) : PG X e (fun v σ H Q => ∃ i, t i v σ H Q) := ⟨fun pins s σ H v u Q I r ⟨i, q⟩ => (h i).run pins s σ H v u Q I r q⟩
theorem pt_ifx {X : Cx} {c a b : Expr} {pos : Pos} {tc ta tb : TT} (hc : PT X c tc) (ha : PT X a ta) (hb : PT X b tb) : PT X (.IfExp c a b pos) (fun σ H Q => tc σ H fun z H1 => if z = true then ta σ H1 Q else tb σ H1 Q) := ⟨fun pins s σ H Q I h => by
  show wpAny _ _ (do if ← isTrue c X.env (eval c X.env) then isTrue a X.env (eval a X.env) else isTrue b X.env (eval b X.env)) _ _ s
  refine wpAny_bind (thn (hc.run pins s σ H _ I h) fun z s1 ⟨H1, I1, q⟩ => ?_)
  cases z with
  | true => exact ha.run pins s1 σ H1 Q I1 q
  | false => exact hb.run pins s1 σ H1 Q I1 q⟩
theorem tys_boot (n : String) (h : tyB n = true) : bootBuiltins (Str.ofString n) = some (.type n) ∧ Str.ofString n ≠ "__name__" ∧ (Str.ofString n == ("__debug__" : Str)) = false := by
  unfold tyB at h
  simp only [Bool.or_eq_true, beq_iff_eq] at h
  rcases h with (((rfl | rfl) | rfl) | rfl) | rfl <;> exact ⟨by decide +kernel, by decide +kernel, by decide +kernel⟩
theorem isEmpty_cons {α : Type} {l : List α} (h : (!l.isEmpty) = true) : ∃ a r, l = a :: r := by
  cases l with
  | nil => cases h
  | cons a r => exact ⟨a, r, rfl⟩
theorem pts_of {X : Cx} {sc : Scope} {ga : Str → Addr} {G : Gc} {c : List ME} {ifs : List Expr} (hl : c.length ≤ 1) (hm : matchEs X.N sc c ifs = true)
    (h : ∀ m, c = [m] → ∀ e, ifs = [e] → ∀ Z H0 S0, PT X e (tDT (cc X ga Z) H0 S0 (wE G noX m))) : PTs X ifs (tCx X ga G c) := by
  match c, ifs, hl, hm with
  | [], [], _, _ =>
    refine ⟨fun pins s σ H Q I q => pts_nil.run pins s σ H Q I ?_⟩
    obtain ⟨Z, σd, S, rs, rp, w⟩ := q
    unfold wC at w
    exact w H rp (Ext.refl _ _)
  | [], _ :: _, _, hm => unfold matchEs at hm; cases hm
  | [m], [], _, hm => unfold matchEs at hm; cases hm
  | [m], [e], _, hm =>
    refine ⟨fun pins s σ H Q I q => ?_⟩
    obtain ⟨Z, σd, S, rs, rp, w⟩ := q
    unfold wC at w
    refine (pts_one (h m rfl e rfl Z H S)).run pins s σ H Q I ⟨σd, S, rs, rp, Ext.refl _ _, wE_mono (fun d S1 q => ?_) m σd S w⟩
    obtain ⟨b, h1, h2⟩ := q
    exact ⟨b, h1, h2⟩
  | [m], _ :: _ :: _, _, hm =>
    unfold matchEs at hm
    have := (and2 (and2 hm).2).2
    unfold matchEs at this
    cases this
  | _ :: _ :: _, _, hl, _ => simp at hl
section
variable {X : Cx} {ga : Str → Addr} {Z : Addr → Prop} {H0 : Hp} {S0 : Sto} {G : Gc} {x : XW}
theorem cst_v {d : D} {c : Const} {k : Nat} {pos : Pos} (h : cstB d c = true) : PE X (.Constant c k pos) (tD (cc X ga Z) H0 S0 (wE G x (.cst d))) := by
  have imp : ∀ v, (∀ H S, RelD (cc X ga Z) H S d v) → ∀ σ H Q, tD (cc X ga Z) H0 S0 (wE G x (.cst d)) σ H Q → tC v σ H Q := fun v hv σ H Q q => by
    obtain ⟨σd, S, rs, rp, ex, w⟩ := q
    unfold wE at w
    exact w H v rp (Ext.refl _ _) (hv H S)
  cases d with
  | non => cases c <;> first | exact PE.imp pe_non (imp _ fun _ _ => mk_non) | cases h
  | bl b =>
    cases c with
    | bool b' =>
      obtain rfl := beq_iff_eq.mp (show (b == b') = true from h)
      exact PE.imp pe_bl (imp _ fun _ _ => mk_bl)
    | _ => cases h
  | int b =>
    cases c with
    | int b' =>
      obtain rfl := of_decide_eq_true (show decide (b = b') = true from h)
      exact PE.imp pe_int (imp _ fun _ _ => mk_int)
    | _ => cases h
  | str b =>
    cases c with
    | str b' =>
      obtain ⟨h1, h2⟩ := and2 (show (decide (b = b') && PySem.PyData.strOk b) = true from h)
      obtain rfl := of_decide_eq_true h1
      exact PE.imp pe_str (imp _ fun _ _ => mk_str h2)
    | _ => cases h
  | _ => cases c <;> cases h
end
theorem blk_to {X : Cx} {sc scope : Scope} {own : List (Str × Nat)} (h : Sck X sc) (b : BlkOk X.N sc scope own) : BlkOk X.N X.env.scope scope own := ⟨b.kind, b.uniq, b.ix, fun y hy hf => by
  rcases b.free y hy hf with q | q
  · obtain ⟨k', h1, h2⟩ := h.look _ _ q
    rcases h2 with rfl | ⟨z, _⟩
    · exact .inl h1
    · cases z
  · obtain ⟨k', h1, h2⟩ := h.look _ _ q
    rcases h2 with rfl | ⟨_, rfl⟩
    · exact .inr h1
    · exact .inl h1, b.own⟩
mutual
theorem soundE : ∀ (m : ME) {X : Cx} {sc : Scope} {ga : Str → Addr} {Z : Addr → Prop} {H0 : Hp} {S0 : Sto} {G : Gc} {x : XW}, Gd X sc ga Z H0 S0 G x → ∀ {e : Expr}, matchE X.N sc m e = true →
    PE X e (tD (cc X ga Z) H0 S0 (wE G x m)) ∧ PT X e (tDT (cc X ga Z) H0 S0 (wE G x m))
  | .var i, X, sc, ga, Z, H0, S0, G, x, g, e, h => by
    unfold matchE at h
    cases e with
    | Name y p =>
      obtain ⟨h1, h2⟩ := and2 h
      obtain ⟨h2, h3⟩ := and2 h2
      obtain ⟨h3, _⟩ := and2 h3
      obtain ⟨h3, h4⟩ := and2 h3
      have pe : PE X (.Name y p) (tD (cc X ga Z) H0 S0 (wE G x (.var i))) := PE.imp (pe_var (of_decide_eq_true h1) (g.sck.vis h2) (by simpa using h3) (by simpa using h4)) fun σ H Q q => by
        obtain ⟨σd, S, rs, rp, ex, w⟩ := q
        unfold wE at w
        obtain ⟨d, hd, w⟩ := w
        obtain ⟨v, hv, rv⟩ := rs.2 i d hd
        exact ⟨v, hv, w H v rp (Ext.refl _ _) rv⟩
      exact ⟨pe, pt_of pe rfl⟩
    | _ => cases h
  | .cst d, X, sc, ga, Z, H0, S0, G, x, g, e, h => by
    unfold matchE at h
    cases e with
    | Constant c k pos =>
      have pe := cst_v (X := X) (ga := ga) (Z := Z) (H0 := H0) (S0 := S0) (G := G) (x := x) (k := k) (pos := pos) h
      exact ⟨pe, pt_of pe rfl⟩
    | Name y p =>
      cases d with
      | ty n =>
        obtain ⟨h1, h2⟩ := and2 h
        obtain ⟨h2, h3⟩ := and2 h2
        obtain rfl := of_decide_eq_true h1
        obtain ⟨b1, b2, b3⟩ := tys_boot n h3
        have pe : PE X (.Name (Str.ofString n) p) (tD (cc X ga Z) H0 S0 (wE G x (.cst (.ty n)))) := PE.imp (pe_bltn (v := .ty n) (g.sck.glo h2) (g.tys n h3) b1 rfl b2 b3) fun σ H Q q => by
          obtain ⟨σd, S, rs, rp, ex, w⟩ := q
          unfold wE at w
          exact w H _ rp (Ext.refl _ _) (by unfold RelD; rfl)
        exact ⟨pe, pt_of pe rfl⟩
      | _ => cases h
    | _ => cases h
  | .glo n, X, sc, ga, Z, H0, S0, G, x, g, e, h => by
    unfold matchE at h
    cases e with
    | Name y p =>
      obtain ⟨h1, h2⟩ := and2 h
      obtain ⟨h2, h3⟩ := and2 h2
      obtain ⟨h3, _⟩ := and2 h3
      obtain ⟨h3, h4⟩ := and2 h3
      obtain rfl := of_decide_eq_true h1
      have pe : PE X (.Name y p) (tD (cc X ga Z) H0 S0 (wE G x (.glo y))) := by
        cases hc : G.con y with
        | none =>
          refine ⟨fun pins s σ H Q I q => ?_⟩
          obtain ⟨σd, S, rs, rp, ex, w⟩ := q
          unfold wE at w
          obtain ⟨d, hd, w⟩ := w
          rw [hc] at hd; cases hd
        | some d =>
          obtain ⟨v, u, hm, rv, rd⟩ := g.con y d hc
          refine PE.imp (pe_glob (v := v) (g.sck.glo h2) hm rv (by simpa using h3)) fun σ H Q q => ?_
          obtain ⟨σd, S, rs, rp, ex, w⟩ := q
          unfold wE at w
          obtain ⟨d', hd, w⟩ := w
          rw [hc] at hd; cases hd
          exact w H _ rp (Ext.refl _ _) (rd Z H S)
      exact ⟨pe, pt_of pe rfl⟩
    | _ => cases h
  | .bin o m a b, X, sc, ga, Z, H0, S0, G, x, g, e, h => by
    unfold matchE at h
    cases e with
    | BinOp l o' r pos =>
      obtain ⟨h1, h2⟩ := and2 h
      obtain ⟨h2, h3⟩ := and2 h2
      obtain rfl := of_decide_eq_true h1
      have pe := bin_v (pos := pos) (o := o) (m := m) (soundE a g h2).1 (soundE b g h3).1
      exact ⟨pe, pt_of pe rfl⟩
    | _ => cases h
  | .neg a, X, sc, ga, Z, H0, S0, G, x, g, e, h => by
    unfold matchE at h
    cases e with
    | UnaryOp o l pos =>
      cases o with
      | USub =>
        have pe := neg_v (pos := pos) (soundE a g h).1
        exact ⟨pe, pt_of pe rfl⟩
      | _ => cases h
    | _ => cases h
  | .not a, X, sc, ga, Z, H0, S0, G, x, g, e, h => by
    unfold matchE at h
    cases e with
    | UnaryOp o l pos =>
      cases o with
      | Not => exact ⟨not_v (soundE a g h).1, not_t (soundE a g h).2⟩
      | _ => cases h
    | _ => cases h
  | .cmp o a b, X, sc, ga, Z, H0, S0, G, x, g, e, h => by
    unfold matchE at h
    cases e with
    | Compare l os cs pos =>
      match os, cs, h with
      | [o'], [r], h =>
        obtain ⟨h1, h2⟩ := and2 h
        obtain ⟨h2, h3⟩ := and2 h2
        obtain ⟨h3, h4⟩ := and2 h3
        obtain rfl := of_decide_eq_true h1
        exact ⟨cmp_v g.room h2 (soundE a g h3).1 (soundE b g h4).1, cmp_t g.room h2 (soundE a g h3).1 (soundE b g h4).1⟩
      | [], _, h => cases h
      | _ :: _ :: _, _, h => cases h
      | [_], [], h => cases h
      | [_], _ :: _ :: _, h => cases h
    | _ => cases h
  | .cmp2 o p a b c, X, sc, ga, Z, H0, S0, G, x, g, e, h => by
    unfold matchE at h
    cases e with
    | Compare l os cs pos =>
      match os, cs, h with
      | [o', p'], [r, z], h =>
        obtain ⟨h1, h⟩ := and2 h
        obtain ⟨h2, h⟩ := and2 h
        obtain ⟨h3, h⟩ := and2 h
        obtain ⟨h4, h⟩ := and2 h
        obtain ⟨h5, h6⟩ := and2 h
        obtain rfl := of_decide_eq_true h1
        obtain rfl := of_decide_eq_true h2
        exact ⟨cmp2_v g.room h3 (soundE a g h4).1 (soundE b g h5).1 (soundE c g h6).1, cmp2_t g.room h3 (soundE a g h4).1 (soundE b g h5).1 (soundE c g h6).1⟩
      | [], _, h => cases h
      | [_], _, h => cases h
      | _ :: _ :: _ :: _, _, h => cases h
      | [_, _], [], h => cases h
      | [_, _], [_], h => cases h
      | [_, _], _ :: _ :: _ :: _, h => cases h
    | _ => cases h
  | .and a b, X, sc, ga, Z, H0, S0, G, x, g, e, h => by
    unfold matchE at h
    cases e with
    | BoolOp op vs pos =>
      cases op with
      | And =>
        match vs, h with
        | [l, r], h =>
          obtain ⟨h1, h2⟩ := and2 h
          exact ⟨and_v (soundE a g h1).1 (pe_one (soundE b g h2).1), and_t (soundE a g h1).2 (pw_and1 (soundE b g h2).2).pt⟩
        | l :: r :: z :: q, h =>
          obtain ⟨h1, h2⟩ := and2 h
          exact ⟨and_v (soundE a g h1).1 (soundE b g h2).1, and_t (soundE a g h1).2 (soundE b g h2).2⟩
        | [], h => cases h
        | [_], h => cases h
      | Or => cases h
    | _ => cases h
  | .or a b, X, sc, ga, Z, H0, S0, G, x, g, e, h => by
    unfold matchE at h
    cases e with
    | BoolOp op vs pos =>
      cases op with
      | Or =>
        match vs, h with
        | [l, r], h =>
          obtain ⟨h1, h2⟩ := and2 h
          exact ⟨or_v (soundE a g h1).1 (pe_one (soundE b g h2).1), or_t (soundE a g h1).2 (pw_or1 (soundE b g h2).2).pt⟩
        | l :: r :: z :: q, h =>
          obtain ⟨h1, h2⟩ := and2 h
          exact ⟨or_v (soundE a g h1).1 (soundE b g h2).1, or_t (soundE a g h1).2 (soundE b g h2).2⟩
        | [], h => cases h
        | [_], h => cases h
      | And => cases h
    | _ => cases h
  | .ifx c a b, X, sc, ga, Z, H0, S0, G, x, g, e, h => by
    unfold matchE at h
    cases e with
    | IfExp c' a' b' pos =>
      obtain ⟨h1, h⟩ := and2 h
      obtain ⟨h2, h3⟩ := and2 h
      refine ⟨ifx_v (soundE c g h1).2 (soundE a g h2).1 (soundE b g h3).1, PT.imp (pt_ifx (soundE c g h1).2 (soundE a g h2).2 (soundE b g h3).2) fun σ H Q q => ?_⟩
      obtain ⟨σd, S, rs, rp, ex, w⟩ := q
      unfold wE at w
      refine ⟨σd, S, rs, rp, ex, wE_mono (fun u S1 q => ?_) c σd S w⟩
      obtain ⟨z, h1, h2⟩ := q
      refine ⟨z, h1, fun H1 rp1 e1 => ?_⟩
      have tr : ∀ (m : ME), wE G x m σd S1 (fun d S' => ∃ b, tru S' d = some b ∧ ∀ H', Rp (cc X ga Z) H' S' → Ext H S H' S' → Q b H') → tDT (cc X ga Z) H0 S0 (wE G x m) σ H1 Q := fun m w => by
        refine ⟨σd, S1, rs.ext e1, rp1, ex.trans e1, wE_mono (fun d S' q => ?_) m σd S1 w⟩
        obtain ⟨b, h3, h4⟩ := q
        exact ⟨b, h3, fun H' rp' e' => h4 H' rp' (e1.trans e')⟩
      cases z with
      | true => exact tr a h2
      | false => exact tr b h2
    | _ => cases h
  | .idx a i, X, sc, ga, Z, H0, S0, G, x, g, e, h => by
    unfold matchE at h
    cases e with
    | Subscript l r pos =>
      obtain ⟨h1, h⟩ := and2 h
      obtain ⟨h2, h3⟩ := and2 h
      have pe := idx_v (pos := pos) g.room h1 (soundE a g h2).1 (soundE i g h3).1
      exact ⟨pe, pt_of pe rfl⟩
    | _ => cases h
  | .slL m a lo, X, sc, ga, Z, H0, S0, G, x, g, e, h => by
    unfold matchE at h
    cases e with
    | Subscript l r pos =>
      cases r with
      | Slice l1 l2 l3 p2 =>
        match l1, l2, l3, h with
        | some q1, none, none, h =>
          obtain ⟨h1, h2⟩ := and2 h
          have pe := slL_v (pos := pos) (p2 := p2) (m := m) (soundE a g h1).1 (soundE lo g h2).1
          exact ⟨pe, pt_of pe rfl⟩
        | none, _, _, h => cases h
        | some _, some _, _, h => cases h
        | some _, none, some _, h => cases h
      | _ => cases h
    | _ => cases h
  | .slU m a lo, X, sc, ga, Z, H0, S0, G, x, g, e, h => by
    unfold matchE at h
    cases e with
    | Subscript l r pos =>
      cases r with
      | Slice l1 l2 l3 p2 =>
        match l1, l2, l3, h with
        | none, some q1, none, h =>
          obtain ⟨h1, h2⟩ := and2 h
          have pe := slU_v (pos := pos) (p2 := p2) (m := m) (soundE a g h1).1 (soundE lo g h2).1
          exact ⟨pe, pt_of pe rfl⟩
        | some _, _, _, h => cases h
        | none, none, _, h => cases h
        | none, some _, some _, h => cases h
      | _ => cases h
    | _ => cases h
  | .slLU m a lo hi, X, sc, ga, Z, H0, S0, G, x, g, e, h => by
    unfold matchE at h
    cases e with
    | Subscript l r pos =>
      cases r with
      | Slice l1 l2 l3 p2 =>
        match l1, l2, l3, h with
        | some q1, some q2, none, h =>
          obtain ⟨h1, h⟩ := and2 h
          obtain ⟨h2, h3⟩ := and2 h
          have pe := slLU_v (pos := pos) (p2 := p2) (m := m) (soundE a g h1).1 (soundE lo g h2).1 (soundE hi g h3).1
          exact ⟨pe, pt_of pe rfl⟩
        | none, _, _, h => cases h
        | some _, none, _, h => cases h
        | some _, some _, some _, h => cases h
      | _ => cases h
    | _ => cases h
  | .tup es, X, sc, ga, Z, H0, S0, G, x, g, e, h => by
    unfold matchE at h
    cases e with
    | Tuple es' k pos =>
      have pe := tup_v (k := k) (pos := pos) (soundEs es g h)
      exact ⟨pe, pt_of pe rfl⟩
    | _ => cases h
  | .lst m es, X, sc, ga, Z, H0, S0, G, x, g, e, h => by
    unfold matchE at h
    cases e with
    | List es' pos =>
      have pe := lst_v (pos := pos) (m := m) (soundEs es g h)
      exact ⟨pe, pt_of pe rfl⟩
    | _ => cases h
  | .blt f m es, X, sc, ga, Z, H0, S0, G, x, g, e, h => by
    unfold matchE at h
    cases e with
    | Call fn as ks pos =>
      cases fn with
      | Name y p =>
        cases ks with
        | nil =>
          obtain ⟨h1, h⟩ := and2 h
          obtain ⟨h2, h⟩ := and2 h
          obtain ⟨h3, h4⟩ := and2 h
          obtain rfl := of_decide_eq_true h1
          obtain ⟨a, r, rfl⟩ := isEmpty_cons h3
          have pe := blt_v (p := p) (pos := pos) (m := m) g h2 h4 (soundEs es g h4)
          exact ⟨pe, pt_of pe rfl⟩
        | cons k ks => cases h
      | _ => cases h
    | _ => cases h
  | .bm f m o es, X, sc, ga, Z, H0, S0, G, x, g, e, h => by
    unfold matchE at h
    cases e with
    | Call fn as ks pos =>
      cases fn with
      | Attribute o' y ap =>
        cases ks with
        | nil =>
          obtain ⟨h1, h⟩ := and2 h
          obtain ⟨h2, h⟩ := and2 h
          obtain ⟨h3, h⟩ := and2 h
          obtain ⟨h4, h⟩ := and2 h
          obtain ⟨h5, h⟩ := and2 h
          obtain ⟨h6, h7⟩ := and2 h
          obtain rfl := of_decide_eq_true h1
          obtain ⟨a, r, rfl⟩ := isEmpty_cons h5
          have h4 := of_decide_eq_true h4
          have pe := bm_v (f := f) (m := m) (ap := ap) (pos := pos) g.room h2 h3 (by rw [List.length_cons] at h4; omega) h7 (soundE o g h6).1 (soundEs es g h7)
          exact ⟨pe, pt_of pe rfl⟩
        | cons k ks => cases h
      | _ => cases h
    | _ => cases h
  | .call f es, X, sc, ga, Z, H0, S0, G, x, g, e, h => by
    unfold matchE at h
    cases e with
    | Call fn as ks pos =>
      cases fn with
      | Name y p =>
        cases ks with
        | nil =>
          obtain ⟨h1, h⟩ := and2 h
          obtain ⟨h2, h⟩ := and2 h
          obtain ⟨h3, h⟩ := and2 h
          obtain ⟨h4, h5⟩ := and2 h
          obtain rfl := of_decide_eq_true h1
          obtain ⟨a, r, rfl⟩ := isEmpty_cons h4
          have pe := call_v (p := p) (pos := pos) g h2 h3 h5 (soundEs es g h5)
          exact ⟨pe, pt_of pe rfl⟩
        | cons k ks => cases h
      | _ => cases h
    | _ => cases h
  | .lc i m t as c el, X, sc, ga, Z, H0, S0, G, x, g, e, h => by
    unfold matchE at h
    cases e with
    | ListComp elt gens scope pos =>
      match gens, h with
      | [⟨tg, iter, ifs, ay⟩], h =>
        obtain ⟨h1, hh⟩ := and2 h
        clear h
        obtain ⟨h2, h⟩ := and2 hh
        obtain ⟨h3, h⟩ := and2 h
        obtain ⟨h4, h⟩ := and2 h
        obtain ⟨h5, h⟩ := and2 h
        obtain ⟨h6, h⟩ := and2 h
        obtain ⟨h7, h8⟩ := and2 h
        obtain rfl := of_decide_eq_true h1
        have ok := blk_to g.sck (blkOk_by h2)
        have hi : PI X tg iter (wiD (cc X ga Z) H0 S0 G x i as) := by
          match i, h8 with
          | 0, h8 =>
            have hl : as.length = 1 := matchEs_len h8
            obtain ⟨a, ha⟩ := List.length_eq_one_iff.mp hl
            have pe := (soundQs as g h8 0 a iter (by rw [ha]; rfl) rfl).1
            rw [ha]
            exact pi_val pe
          | 1, h8 =>
            cases iter with
            | Call fn as' ks p2 =>
              cases fn with
              | Name y p =>
                cases ks with
                | nil =>
                  obtain ⟨q1, q⟩ := and2 h8
                  obtain ⟨q2, q⟩ := and2 q
                  obtain ⟨q3, q4⟩ := and2 q
                  obtain rfl := of_decide_eq_true q1
                  exact pi_rng g q2 (of_decide_eq_true q3) q4 (soundEs as g q4)
                | cons k ks => cases h8
              | _ => cases h8
            | _ => cases h8
          | 2, h8 =>
            cases iter with
            | Call fn as' ks p2 =>
              cases fn with
              | Name y p =>
                cases ks with
                | nil =>
                  obtain ⟨q1, q⟩ := and2 h8
                  obtain ⟨q2, q⟩ := and2 q
                  obtain ⟨q3, q⟩ := and2 q
                  obtain ⟨q4, q5⟩ := and2 q
                  obtain rfl := of_decide_eq_true q1
                  cases tg with
                  | Tuple elts kk tp => exact pi_enm g q2 (of_decide_eq_true q3) q5 (soundEs as g q5)
                  | _ => cases q4
                | cons k ks => cases h8
              | _ => cases h8
            | _ => cases h8
          | 3, h8 =>
            cases iter with
            | Call fn as' ks p2 =>
              cases fn with
              | Name y p =>
                cases ks with
                | nil =>
                  obtain ⟨q1, q⟩ := and2 h8
                  obtain ⟨q2, q⟩ := and2 q
                  obtain ⟨q3, q⟩ := and2 q
                  obtain ⟨q4, q5⟩ := and2 q
                  obtain rfl := of_decide_eq_true q1
                  cases tg with
                  | Tuple elts kk tp => exact pi_zp g q2 (of_decide_eq_true q3) q5 (soundEs as g q5)
                  | _ => cases q4
                | cons k ks => cases h8
              | _ => cases h8
            | _ => cases h8
          | n + 4, h8 => cases h8
        have pe : PE X (.ListComp elt [⟨tg, iter, ifs, 0⟩] scope pos) (tD (cc X ga Z) H0 S0 (wE G x (.lc i m t as c el))) := by
          refine PE.imp (pe_lc (te := tDx X ga (wE G noX el)) (tt := tCx X ga G c) (g := gDx X ga t) g.calm g.nd hi ok (fun s H Ca cl fp => ?_) (fun s H Ca cl fp => ?_) (fun s H Ca cl fp => ?_) (notSet_fold h7)) fun σ H Q q => ?_
          · exact PG.ex fun Z' => soundG (g.blk ok.kind s H Ca cl fp Z' H0 S0) t h3
          · refine pts_of (X := X.blk s H scope (compEnvC scope cl Ca X.env) fp) (sc := scope) (of_decide_eq_true h6) h4 fun m' hc e' he Z' H0' S0' => ?_
            exact (soundQs c (g.blk ok.kind s H Ca cl fp Z' H0' S0') h4 0 m' e' (by rw [hc]; rfl) (by rw [he]; rfl)).2
          · exact PE.ex fun Z' => PE.ex fun H0' => PE.ex fun S0' => (soundE el (g.blk ok.kind s H Ca cl fp Z' H0' S0') h5).1
          · have eo : (((slots t).map fun i => (X.N.getD i "", i)).map (·.2)) = slots t := by
              rw [List.map_map]; exact List.map_id _
            rw [eo]
            exact lc_imp q
        exact ⟨pe, pt_of pe rfl⟩
      | [], h => cases h
      | ⟨_, _, _, _⟩ :: _ :: _, h => cases h
    | _ => cases h
  | .lcR i t as el, X, sc, ga, Z, H0, S0, G, x, g, e, h => by
    unfold matchE at h
    cases e with
    | ListComp elt gens scope pos =>
      match gens, h with
      | [⟨tg, iter, ifs, ay⟩], h =>
        obtain ⟨h1, hh⟩ := and2 h
        clear h
        obtain ⟨h2, h⟩ := and2 hh
        obtain ⟨h3, h⟩ := and2 h
        obtain ⟨h4, h⟩ := and2 h
        obtain ⟨h5, h⟩ := and2 h
        obtain ⟨h7, h8⟩ := and2 h
        obtain rfl := of_decide_eq_true h1
        obtain rfl := List.isEmpty_iff.mp h4
        have ok := blk_to g.sck (blkOk_by h2)
        have hi : PI X tg iter (wiD (cc X ga Z) H0 S0 G x i as) := by
          match i, h8 with
          | 0, h8 =>
            have hl : as.length = 1 := matchEs_len h8
            obtain ⟨a, ha⟩ := List.length_eq_one_iff.mp hl
            have pe := (soundQs as g h8 0 a iter (by rw [ha]; rfl) rfl).1
            rw [ha]
            exact pi_val pe
          | 1, h8 => cases h8
          | 2, h8 => cases h8
          | 3, h8 =>
            cases iter with
            | Call fn as' ks p2 =>
              cases fn with
              | Name y p =>
                cases ks with
                | nil =>
                  obtain ⟨q1, q⟩ := and2 h8
                  obtain ⟨q2, q⟩ := and2 q
                  obtain ⟨q3, q⟩ := and2 q
                  obtain ⟨q4, q5⟩ := and2 q
                  obtain rfl := of_decide_eq_true q1
                  cases tg with
                  | Tuple elts kk tp => exact pi_zp g q2 (of_decide_eq_true q3) q5 (soundEs as g q5)
                  | _ => cases q4
                | cons k ks => cases h8
              | _ => cases h8
            | _ => cases h8
          | n + 4, h8 => cases h8
        obtain ⟨env0, outer0, L0, z1, z2, z3⟩ := g.frm
        have pe : PE X (.ListComp elt [⟨tg, iter, [], 0⟩] scope pos) (tD (cc X ga Z) H0 S0 (wE G x (.lcR i t as el))) := by
          refine PE.imp (pe_lcR (te := tDxR X ga G el) (tt := tYes) (g := gDx X ga t) (Wo := liftX (cc X ga Z) H0 S0 x) z1 z2 z3 g.tk g.calm g.nd hi ok (fun s H Ca cl fp => ?_) (fun s H Ca cl fp => pts_nil) (fun s H Ca cl fp pn xc W' tk => ?_) (notSet_fold h7)) fun σ H Q q => ?_
          · exact PG.ex fun Z' => soundG (g.blk ok.kind s H Ca cl fp Z' H0 S0) t h3
          · refine PE.ex fun Z' => PE.ex fun H0' => PE.ex fun S0' => PE.ex fun x' => ⟨fun pins s σ H Q I q => ?_⟩
            exact (soundE el (g.blkR ok.kind _ _ Ca cl fp Z' H0' S0' (x' := x') (tk.imp q.1)) h5).1.run pins s σ H Q I q.2
          · have eo : (((slots t).map fun i => (X.N.getD i "", i)).map (·.2)) = slots t := by
              rw [List.map_map]; exact List.map_id _
            rw [eo]
            exact lc_impR q
        exact ⟨pe, pt_of pe rfl⟩
      | [], h => cases h
      | ⟨_, _, _, _⟩ :: _ :: _, h => cases h
    | _ => cases h
  | .lck a, X, sc, ga, Z, H0, S0, G, x, g, e, h => by
    unfold matchE at h
    obtain ⟨h0, h⟩ := and2 h
    obtain ⟨p1, p2⟩ := soundE a g h
    have pe : PE X e (tD (cc X ga Z) H0 S0 (wE G x (.lck a))) := PE.imp (pe_lock p1) fun σ H Q q => by
      obtain ⟨σd, S, rs, rp, ex, w⟩ := q
      unfold wE at w
      obtain ⟨d, kvs, hS, w⟩ := w
      obtain ⟨o, h3, l, rfl, rk⟩ := rp.obj d _ hS
      refine ⟨d, .dK l, h3, trivial, fun od => ?_⟩
      have eS : Ext H S (upd H d (.frz od (.dK l))) (put S d (.ldc od l kvs)) := Ext.set hS
      refine ⟨σd, _, rs.ext eS, rp.set hS ⟨rfl, rk.ext eS⟩, ex.trans eS, wE_mono (fun dd S2 z H2 v rp2 e2 r2 => ?_) a σd _ (wE_monoX (fun _ _ _ z => z.elim) a σd _ (w od l))⟩
      obtain ⟨hS2, k⟩ := z
      obtain ⟨o2, h4, h5⟩ := rp2.obj d _ hS2
      obtain ⟨rfl, rk2⟩ := h5
      have eU : Ext H2 S2 (upd H2 d (.dK l)) (put S2 d (.dct kvs)) := Ext.set hS2
      exact ⟨h4, k _ v (rp2.set hS2 ⟨l, rfl, rk2.ext eU⟩) ((eS.trans e2).trans eU) (r2.ext eU)⟩
    exact ⟨pe, pt_of pe h0⟩
  | .frz a, X, sc, ga, Z, H0, S0, G, x, g, e, h => by
    unfold matchE at h
    obtain ⟨p1, p2⟩ := soundE a g h
    refine ⟨PE.imp p1 fun σ H Q q => ?_, PT.imp p2 fun σ H Q q => ?_⟩
    · obtain ⟨σd, S, rs, rp, ex, w⟩ := q
      unfold wE at w
      refine ⟨σd, S, rs, rp, ex, wE_mono (fun u S1 q H1 v rp1 e1 r1 => ?_) a σd S w⟩
      obtain ⟨p, ds, rfl, h1, h2⟩ := q
      unfold RelD at r1
      subst r1
      obtain ⟨o, h3, h4⟩ := rp1.obj p _ h1
      obtain ⟨vs, rfl, r⟩ := h4
      refine h2 H1 _ rp1.rm (e1.trans Ext.rm) ?_
      unfold RelD
      exact ⟨p, vs, rfl, ⟨h3, rm_same, fun z => by rw [(rp1.z p z).2] at h1; cases h1⟩, r.ext Ext.rm⟩
    · obtain ⟨σd, S, rs, rp, ex, w⟩ := q
      unfold wE at w
      refine ⟨σd, S, rs, rp, ex, wE_mono (fun u S1 q => ?_) a σd S w⟩
      obtain ⟨p, ds, rfl, h1, b, h2, h3⟩ := q
      refine ⟨b, ?_, fun H' rp' e' => h3 H' rp'.rm (e'.trans Ext.rm)⟩
      show (lstAt S1 p).map (fun ds => !ds.isEmpty) = some b
      rw [lstAt_of h1]
      exact h2
  | .att o f, X, sc, ga, Z, H0, S0, G, x, g, e, h => by
    unfold matchE at h
    cases e with
    | Attribute o' y p =>
      obtain ⟨h1, h⟩ := and2 h
      obtain ⟨h2, h3⟩ := and2 h
      obtain rfl := of_decide_eq_true h1
      have pe := att_v (pos := p) (f := y) g h2 (soundE o g h3).1
      exact ⟨pe, pt_of pe rfl⟩
    | _ => cases h
  | .mth c o m es, X, sc, ga, Z, H0, S0, G, x, g, e, h => by
    unfold matchE at h
    cases e with
    | Call fn as ks pos =>
      cases fn with
      | Attribute o' y ap =>
        cases ks with
        | nil =>
          obtain ⟨h1, h⟩ := and2 h
          obtain ⟨h2, h⟩ := and2 h
          obtain ⟨h3, h⟩ := and2 h
          obtain ⟨h4, h⟩ := and2 h
          obtain ⟨h5, h6⟩ := and2 h
          obtain rfl := of_decide_eq_true h1
          have pe := mth_v (c := c) (ap := ap) (pos := pos) (m := y) g h2 h3 (of_decide_eq_true h4) h6 (soundE o g h5).1 (soundEs es g h6)
          exact ⟨pe, pt_of pe rfl⟩
        | cons k ks => cases h
      | _ => cases h
    | _ => cases h
  | .mk c es, X, sc, ga, Z, H0, S0, G, x, g, e, h => by
    unfold matchE at h
    cases e with
    | Call fn as ks pos =>
      cases fn with
      | Name y p =>
        cases ks with
        | nil =>
          obtain ⟨h1, h⟩ := and2 h
          obtain ⟨h2, h⟩ := and2 h
          obtain ⟨h3, h4⟩ := and2 h
          obtain rfl := of_decide_eq_true h1
          have pe := mk_v (p := p) (pos := pos) (c := y) g h2 h3 h4 (soundEs es g h4)
          exact ⟨pe, pt_of pe rfl⟩
        | cons k ks => cases h
      | _ => cases h
    | _ => cases h
  | .dct kvs, X, sc, ga, Z, H0, S0, G, x, g, e, h => by
    unfold matchE at h
    cases e with
    | Dict ks vs pos =>
      obtain ⟨h1, h2⟩ := and2 h
      have pe := dct_v (X := X) (ga := ga) (Z := Z) (H0 := H0) (S0 := S0) (G := G) (x := x) (pos := pos) h1 (of_decide_eq_true h2)
      exact ⟨pe, pt_of pe rfl⟩
    | _ => cases h
  | .dcN, X, sc, ga, Z, H0, S0, G, x, g, e, h => by
    unfold matchE at h
    split at h
    · rename_i dp
      have pe : PE X (.Dict [] [] dp) (tD (cc X ga Z) H0 S0 (wE G x .dcN)) := PE.imp pe_dnewT fun σ H Q q p hp => by
        obtain ⟨σd, S, rs, rp, ex, w⟩ := q
        unfold wE at w
        exact w p (rp.free hp) _ (.ref p) (rp.newM hp ⟨[], rfl, rfl⟩) (Ext.newM hp) (by unfold RelD; rfl)
      exact ⟨pe, pt_of pe rfl⟩
    · cases h
  | .lns a, X, sc, ga, Z, H0, S0, G, x, g, e, h => by
    unfold matchE at h
    split at h
    · obtain ⟨h1, h⟩ := and2 h
      obtain ⟨h2, h⟩ := and2 h
      obtain ⟨h3, h⟩ := and2 h
      obtain ⟨h4, h⟩ := and2 h
      obtain ⟨h5, h6⟩ := and2 h
      obtain rfl := of_decide_eq_true h1
      obtain rfl := of_decide_eq_true h2
      exact ⟨lns_v g h3 h4 h5 (soundE a g h6).1, pt_of (lns_v g h3 h4 h5 (soundE a g h6).1) rfl⟩
    · cases h
  | .plug p es, X, sc, ga, Z, H0, S0, G, x, g, e, h => by
    unfold matchE at h
    split at h
    · rename_i es' e1
      have ln : es.length = es'.length := matchEs_len h
      have r := p.snd g e1 (es.map (wE G x)) (by rw [List.length_map]; exact ln) (fun m hm => by
        obtain ⟨m', _, rfl⟩ := List.mem_map.mp hm
        exact fun σ S k k' hk q => wE_mono hk m' σ S q) (fun i e m he hm => by
        rw [List.getElem?_map] at hm
        obtain ⟨m', hm', rfl⟩ := Option.map_eq_some_iff.mp hm
        exact (soundQs es g h i m' e hm' he).1)
      have q : seqC (p.chk G) (es.map (wE G x)) (p.sem G) = wE G x (.plug p es) := by
        funext σ S k
        rw [wE]
        exact seqC_es es _ σ S k
      rw [q] at r
      exact r
    · cases h
  | .bad, X, sc, ga, Z, H0, S0, G, x, g, e, h => by
    refine ⟨⟨fun pins s σ H Q I q => ?_⟩, ⟨fun pins s σ H Q I q => ?_⟩⟩
    · obtain ⟨σd, S, rs, rp, ex, w⟩ := q
      unfold wE at w
      exact w.elim
    · obtain ⟨σd, S, rs, rp, ex, w⟩ := q
      unfold wE at w
      exact w.elim
theorem soundEs : ∀ (ms : List ME) {X : Cx} {sc : Scope} {ga : Str → Addr} {Z : Addr → Prop} {H0 : Hp} {S0 : Sto} {G : Gc} {x : XW}, Gd X sc ga Z H0 S0 G x → ∀ {es : List Expr}, matchEs X.N sc ms es = true → PA X es (tDA (cc X ga Z) H0 S0 (wEs G x ms))
  | [], X, sc, ga, Z, H0, S0, G, x, g, [], h => by
    refine PA.imp pa_nil fun σ H Q q => ?_
    obtain ⟨σd, S, rs, rp, ex, w⟩ := q
    unfold wEs at w
    exact w H [] rp (Ext.refl _ _) RelDs.nil
  | [], X, sc, ga, Z, H0, S0, G, x, g, _ :: _, h => by unfold matchEs at h; cases h
  | _ :: _, X, sc, ga, Z, H0, S0, G, x, g, [], h => by unfold matchEs at h; cases h
  | m :: ms, X, sc, ga, Z, H0, S0, G, x, g, e :: es, h => by
    unfold matchEs at h
    obtain ⟨h1, h⟩ := and2 h
    obtain ⟨h2, h3⟩ := and2 h
    refine PA.imp (pa_cons (soundE m g h2).1 (soundEs ms g h3) (starEach_cons h1)) fun σ H Q q => ?_
    obtain ⟨σd, S, rs, rp, ex, w⟩ := q
    unfold wEs at w
    refine ⟨σd, S, rs, rp, ex, wE_mono (fun d S1 q H1 v rp1 e1 r1 => ⟨σd, S1, rs.ext e1, rp1, ex.trans e1, wEs_mono (fun ds S2 q H2 vs rp2 e2 r2 => ?_) ms σd S1 q⟩) m σd S w⟩
    exact q H2 (v :: vs) rp2 (e1.trans e2) (RelDs.cons (r1.ext e2) r2)
theorem soundQs : ∀ (ms : List ME) {X : Cx} {sc : Scope} {ga : Str → Addr} {Z : Addr → Prop} {H0 : Hp} {S0 : Sto} {G : Gc} {x : XW}, Gd X sc ga Z H0 S0 G x → ∀ {es : List Expr}, matchEs X.N sc ms es = true → ∀ (k : Nat) (m : ME) (e : Expr), ms[k]? = some m → es[k]? = some e →
    PE X e (tD (cc X ga Z) H0 S0 (wE G x m)) ∧ PT X e (tDT (cc X ga Z) H0 S0 (wE G x m))
  | [], X, sc, ga, Z, H0, S0, G, x, g, _, h, k, m, e, hm, _ => by simp at hm
  | _ :: _, X, sc, ga, Z, H0, S0, G, x, g, [], h, k, m, e, _, he => by simp at he
  | m0 :: ms, X, sc, ga, Z, H0, S0, G, x, g, e0 :: es, h, 0, m, e, hm, he => by
    unfold matchEs at h
    have r := soundE m0 g (and2 (and2 h).2).1
    have e1 : m0 = m := by simpa using hm
    have e2 : e0 = e := by simpa using he
    rw [← e1, ← e2]
    exact r
  | m0 :: ms, X, sc, ga, Z, H0, S0, G, x, g, e0 :: es, h, k + 1, m, e, hm, he => by
    unfold matchEs at h
    exact soundQs ms g (and2 (and2 h).2).2 k m e (by simpa using hm) (by simpa using he)
end
def isArg (N : List Str) (sc : Scope) (sl : Option Nat) (c : Str) : List Expr → Bool
  | [.Name n _, .Name x _] => decide (x = c) && (gloB sc x && (dbgB x && (visB sc n && (dbgB n && (match sl with
    | some i => decide (N[i]? = some n)
    | none => false)))))
  | _ => false
theorem isArg_inv {N : List Str} {sc : Scope} {sl : Option Nat} {c : Str} {as : List Expr} (h : isArg N sc sl c as = true) : ∃ n p1 p2 i, as = [.Name n p1, .Name c p2] ∧ gloB sc c = true ∧ dbgB c = true ∧ visB sc n = true ∧ dbgB n = true ∧ sl = some i ∧ N[i]? = some n := by
  unfold isArg at h
  split at h
  · rename_i n p1 x p2
    obtain ⟨h3, h⟩ := and2 h
    obtain ⟨h4, h⟩ := and2 h
    obtain ⟨h5, h⟩ := and2 h
    obtain ⟨h6, h⟩ := and2 h
    obtain ⟨h7, h8⟩ := and2 h
    have e := of_decide_eq_true h3
    subst e
    cases sl with
    | none => cases h8
    | some i => exact ⟨n, p1, p2, i, rfl, h4, h5, h6, h7, rfl, of_decide_eq_true h8⟩
  · cases h
mutual
def matchQ (N : List Str) (sc : Scope) (sl : Option Nat) : QE → Expr → Bool
  | .var i, e => match e with
    | .Name x _ => decide (N[i]? = some x) && (visB sc x && dbgB x)
    | _ => false
  | .cst d, e => match e with
    | .Constant c _ _ => cstB d c
    | _ => false
  | .isE c, e => match e with
    | .Call (.Name y _) as [] _ => decide (y = "isinstance") && (gloB sc y && isArg N sc sl c as)
    | _ => false
  | .isV, e => match e with
    | .Call (.Name y _) as [] _ => decide (y = "isinstance") && (gloB sc y && isArg N sc sl "ValueError" as)
    | _ => false
  | .fld f, e => match e with
    | .Attribute (.Name n _) x _ => decide (x = f) && (visB sc n && (dbgB n && (match sl with
      | some i => decide (N[i]? = some n)
      | none => false)))
    | _ => false
  | .tup es, e => match e with
    | .Tuple es' _ _ => matchQs N sc sl es es'
    | _ => false
  | .lst es, e => match e with
    | .List es' _ => matchQs N sc sl es es'
    | _ => false
  | .add a b, e => match e with
    | .BinOp l .Add r _ => matchQ N sc sl a l && matchQ N sc sl b r
    | _ => false
  | .idx a i, e => match e with
    | .Subscript l r _ => notSl r && (matchQ N sc sl a l && matchQ N sc sl i r)
    | _ => false
  | .int a, e => match e with
    | .Call (.Name y _) [r] [] _ => decide (y = "int") && (gloB sc y && (notStar r && matchQ N sc sl a r))
    | _ => false
def matchQs (N : List Str) (sc : Scope) (sl : Option Nat) : List QE → List Expr → Bool
  | [], es => es.isEmpty
  | m :: ms, es => match es with
    | e :: es => notStar e && (matchQ N sc sl m e && matchQs N sc sl ms es)
    | [] => false
end
mutual
def matchZ (N : List Str) (sc : Scope) (sl : Option Nat) : QS → Stmt → Bool
  | .asg i e, st => match st with
    | .Assign [.Name y _] v _ => decide (N[i]? = some y) && (locB sc y && (notLc v && (decide (sl ≠ some i) && matchQ N sc sl e v)))
    | _ => false
  | .ret e, st => match st with
    | .Return (some v) _ => matchQ N sc sl e v
    | _ => false
  | .ite c a, st => match st with
    | .If c' a' [] _ => notTest c' && (matchQ N sc sl c c' && matchZs N sc sl a a')
    | _ => false
def matchZs (N : List Str) (sc : Scope) (sl : Option Nat) : List QS → List Stmt → Bool
  | [], sts => sts.isEmpty
  | s :: r, sts => match sts with
    | st :: sts => matchZ N sc sl s st && matchZs N sc sl r sts
    | [] => false
end
def rIs2 (K : PySem.W.Frag) (D a dd : Addr) : List V → Hp → VK → Prop := fun xs H Q => ∃ (c : Addr) (b : Bool), xs = [.ref a, .ref c] ∧ PySem.W.kitOne K (.ref D) (.ref c) = some b ∧ (∃ fs, H dd = some (.xd fs)) ∧ Q (.bl b) H
theorem call_is2 {X : Cx} {a D dd : Addr} {oe : Obj} {pn : List (Addr × Obj)} (C : ExcC X.K D) (hz : L2N.Zn (.ref D) (some dd) oe) (hf : ∃ vs, oe.data = .fields vs) : CallR (X.suite a ((a, oe) :: pn)) (.builtin "isinstance") (rIs2 X.K D a dd) := by
  intro pins s σ H xs us Q I r h
  obtain ⟨c, b, rfl, e, ⟨fs, hd⟩, q⟩ := h
  obtain ⟨u1, u2, rfl, r1, r2⟩ := vals2 r
  cases r1; cases r2
  have hget := (I.pin (a, oe) (List.mem_append.mpr (.inl List.mem_cons_self))).1
  obtain ⟨vs, hv⟩ := hf
  obtain ⟨od, ho⟩ : ∃ od, s.heap.get? dd = some od := by
    obtain ⟨mA, hns, _⟩ := (show ObjOk X.prog X.w H s.heap dd (.xd fs) from I.hok dd _ hd)
    obtain ⟨o, _, _, h1, _⟩ := hns
    exact ⟨o, h1⟩
  have J : PySem.W.InstAt s.heap a oe D (some od) := ⟨hget, hz.1, by unfold PySem.W.notCls; rw [hv] <;> rfl, by rw [hz.2.1]; exact ho⟩
  have hcl : (PySem.W.clsIn X.K D).isSome = true := by
    have h1 := C.hd
    unfold PySem.W.hasDictIn at h1
    cases q : PySem.W.clsIn X.K D with
    | none => rw [q] at h1; cases h1
    | some cd => rfl
  exact PySem.W.kia_one (PySem.W.kitx_exc hcl C.hg C.hk C.hs C.ha C.hn C.ht C.hm) I.kIn J e (fun z => nomatch z) fun tk => ⟨.bl b, H, I.kept (t' := tk) fun _ _ z => z, rfl, q⟩
def rIsV (K : PySem.W.Frag) (D a dd : Addr) : List V → Hp → VK → Prop := fun xs H Q => xs = [.ref a, .ty "ValueError"] ∧ PySem.W.kitOne K (.ref D) (.type "ValueError") = some true ∧ (∃ fs, H dd = some (.xd fs)) ∧ Q (.bl true) H
theorem call_isV {X : Cx} {a D dd : Addr} {oe : Obj} {pn : List (Addr × Obj)} (C : ExcC X.K D) (hz : L2N.Zn (.ref D) (some dd) oe) (hf : ∃ vs, oe.data = .fields vs) : CallR (X.suite a ((a, oe) :: pn)) (.builtin "isinstance") (rIsV X.K D a dd) := by
  intro pins s σ H xs us Q I r h
  obtain ⟨rfl, e, ⟨fs, hd⟩, q⟩ := h
  obtain ⟨u1, u2, rfl, r1, r2⟩ := vals2 r
  cases r1; cases r2
  have hget := (I.pin (a, oe) (List.mem_append.mpr (.inl List.mem_cons_self))).1
  obtain ⟨vs, hv⟩ := hf
  obtain ⟨od, ho⟩ : ∃ od, s.heap.get? dd = some od := by
    obtain ⟨mA, hns, _⟩ := (show ObjOk X.prog X.w H s.heap dd (.xd fs) from I.hok dd _ hd)
    obtain ⟨o, _, _, h1, _⟩ := hns
    exact ⟨o, h1⟩
  have J : PySem.W.InstAt s.heap a oe D (some od) := ⟨hget, hz.1, by unfold PySem.W.notCls; rw [hv] <;> rfl, by rw [hz.2.1]; exact ho⟩
  have hcl : (PySem.W.clsIn X.K D).isSome = true := by
    have h1 := C.hd
    unfold PySem.W.hasDictIn at h1
    cases q : PySem.W.clsIn X.K D with
    | none => rw [q] at h1; cases h1
    | some cd => rfl
  exact PySem.W.kia_one (PySem.W.kitx_exc hcl C.hg C.hk C.hs C.ha C.hn C.ht C.hm) I.kIn J e (fun z => nomatch z) fun tk => ⟨.bl true, H, I.kept (t' := tk) fun _ _ z => z, rfl, q⟩
def slA (sl : Option Nat) (a : Addr) (σ : St) : Prop := ∀ i, sl = some i → σ[i]? = some (some (.ref a))
def wQ (G : Gc) (ex : Exc) (e : QE) : W1 := fun σ S k => ∃ d, evQ G ex e σ = some d ∧ k d S
def wQs (G : Gc) (ex : Exc) (es : List QE) : Env → Sto → (List D → Sto → Prop) → Prop := fun σ S k => ∃ ds, evQs G ex es σ = some ds ∧ k ds S
def tQ (C : Cc) (H0 : Hp) (S0 : Sto) (G : Gc) (ex : Exc) (sl : Option Nat) (a : Addr) (e : QE) : TE := fun σ H Q => slA sl a σ ∧ tD C H0 S0 (wQ G ex e) σ H Q
def tQA (C : Cc) (H0 : Hp) (S0 : Sto) (G : Gc) (ex : Exc) (sl : Option Nat) (a : Addr) (es : List QE) : TA := fun σ H Q => slA sl a σ ∧ tDA C H0 S0 (wQs G ex es) σ H Q
/-- where a suite stands -/
structure Gz (X : Cx) (sc : Scope) (ga : Str → Addr) (Z : Addr → Prop) (H0 : Hp) (S0 : Sto) (G : Gc) (ex : Exc) (dd : Addr) (oe : Obj) : Prop where
  nd : X.N.Nodup
  room : X.A.units + 64 < cLine
  sck : Sck X sc
  isi : X.mg "isinstance" = none
  int : X.mg "int" = none
  subs : ∀ c c' b, G.sub c c' = some b → SubAt X ga c c' b
  xfls : ∀ c f, G.xfl c f = true → XfC X.K (ga c) ∧ PySem.W.findIn X.K (.ref (ga c)) f = some none
  isvs : ∀ c, G.isv c = true → IvAt X ga c
  fnl : ∀ x, locB sc x = true → X.fn x = true ∨ X.env.scope.names.lookup x = some .local
  rx : RelX (cc X ga Z) H0 S0 ex (.ref (ga ex.cls)) (some dd)
  hz : L2N.Zn (.ref (ga ex.cls)) (some dd) oe
  hf : ∃ vs, oe.data = .fields vs
section
variable {X : Cx} {sc : Scope} {ga : Str → Addr} {Z : Addr → Prop} {H0 : Hp} {S0 : Sto} {G : Gc} {ex : Exc} {dd a : Addr} {oe : Obj} {pn : List (Addr × Obj)} {sl : Option Nat}
theorem rx_at (g : Gz X sc ga Z H0 S0 G ex dd oe) {H : Hp} {S : Sto} (e : Ext H0 S0 H S) : ∃ fs, H dd = some (.xd fs) ∧ S dd = none ∧ ∀ f x, ex.fs.lookup f = some x → ∃ v, fs.lookup f = some v ∧ RelD (cc X ga Z) H S x v := by
  obtain ⟨_, d', fs, h1, h2, h3, h4⟩ := g.rx
  cases h1
  obtain ⟨h5, h6⟩ := e _ _ h2 h3
  refine ⟨fs, h5, h6, fun f x hx => ?_⟩
  obtain ⟨v, h7, h8⟩ := h4 f x hx
  exact ⟨v, h7, h8.ext e⟩
/-- two parts -/
theorem tQ_two {f : F2} {ma mb : QE} {σ : St} {H : Hp} {Q : VK} (hs : slA sl a σ) {σd : Env} {S : Sto} (rs : RelS (cc X ga Z) H S σd σ) (rp : Rp (cc X ga Z) H S) (ex0 : Ext H0 S0 H S) {u v : D} (hu : evQ G ex ma σd = some u) (hv : evQ G ex mb σd = some v)
    (hf : ∀ H' , Rp (cc X ga Z) H' S → Ext H S H' S → f u v S (kD (cc X ga Z) H' S Q)) : tOp (rD2 (cc X ga Z) f) (tQ (cc X ga Z) H0 S0 G ex sl a ma) (tQ (cc X ga Z) H0 S0 G ex sl a mb) σ H Q :=
  ⟨hs, σd, S, rs, rp, ex0, u, hu, fun H1 z rp1 e1 r1 => ⟨hs, σd, S, rs.ext e1, rp1, ex0.trans e1, v, hv, fun H2 z2 rp2 e2 r2 => ⟨u, v, S, rp2, r1.ext e2, r2, hf H2 rp2 (e1.trans e2)⟩⟩⟩
theorem evQs_len {ds : List D} : ∀ {es : List QE} {σ : Env}, evQs G ex es σ = some ds → ds.length ≤ sizeLine := by
  intro es σ h
  cases es with
  | nil => unfold evQs at h; cases h; exact Nat.zero_le _
  | cons e es =>
    unfold evQs at h
    split at h
    · obtain ⟨c, rfl⟩ := g?_some h
      exact c
    · cases h
theorem x_ad1 {S : Sto} {x y : Str} (c : x.length + y.length ≤ sizeLine) : binR .Add (.str x) (.str y) S = some (.val (.str (x ++ y))) := if_pos c
theorem x_ad2 {S : Sto} {ds es : List D} (c : ds.length + es.length ≤ sizeLine) : binR .Add (.lst ds) (.lst es) S = some (.newL (ds ++ es)) := if_pos c
mutual
theorem soundQ (g : Gz X sc ga Z H0 S0 G ex dd oe) : ∀ (m : QE) {e : Expr}, matchQ X.N sc sl m e = true → PE (X.suite a ((a, oe) :: pn)) e (tQ (cc X ga Z) H0 S0 G ex sl a m)
  | .var i, e, h => by
    unfold matchQ at h
    cases e with
    | Name y p =>
      obtain ⟨h1, h2⟩ := and2 h
      obtain ⟨h2, h3⟩ := and2 h2
      obtain ⟨h3, _⟩ := and2 h3
      obtain ⟨h3, h4⟩ := and2 h3
      refine PE.imp (pe_var (X := X.suite a ((a, oe) :: pn)) (of_decide_eq_true h1) (g.sck.vis h2) (by simpa using h3) (by simpa using h4)) fun σ H Q q => ?_
      obtain ⟨_, σd, S, rs, rp, e0, d, hd, k⟩ := q
      unfold evQ at hd
      obtain ⟨o, ho, e1⟩ := Option.bind_eq_some_iff.mp hd
      cases (show o = some d from e1)
      obtain ⟨v, hv, rv⟩ := rs.2 i d ho
      exact ⟨v, hv, k H v rp (Ext.refl _ _) rv⟩
    | _ => cases h
  | .cst d, e, h => by
    unfold matchQ at h
    cases e with
    | Constant c k pos =>
      obtain ⟨v, h1, h2⟩ := cst_pe (X := X.suite a ((a, oe) :: pn)) (k := k) (pos := pos) h
      refine PE.imp h1 fun σ H Q q => ?_
      obtain ⟨_, σd, S, rs, rp, e0, d', hd, k⟩ := q
      unfold evQ at hd
      cases hd
      exact k H v rp (Ext.refl _ _) (h2 _ _ _)
    | _ => cases h
  | .isE c, e, h => by
    unfold matchQ at h
    cases e with
    | Call fn as ks pos =>
      cases fn with
      | Name y p =>
        cases ks with
        | cons k ks => cases h
        | nil =>
          obtain ⟨h1, hr⟩ := and2 h
          obtain ⟨h2, hq⟩ := and2 hr
          clear h hr
          obtain rfl := of_decide_eq_true h1
          obtain ⟨n, p1, p2, i, rfl, h4, h5, h6, h7, hsl, hN⟩ := isArg_inv hq
          obtain ⟨h7, _⟩ := and2 h7
          obtain ⟨h9, h10⟩ := and2 h7
          obtain ⟨h5, _⟩ := and2 h5
          obtain ⟨h11, _⟩ := and2 h5
          by_cases hsub : ∃ b, G.sub ex.cls c = some b
          · obtain ⟨b, hb⟩ := hsub
            have sb := g.subs _ _ _ hb
            have pa : PA (X.suite a ((a, oe) :: pn)) [.Name n p1, .Name c p2] _ := pa_cons (pe_var (i := i) hN (g.sck.vis h6) (by simpa using h9) (by simpa using h10)) (pa_cons (pe_glob (v := .ref (ga c)) (g.sck.glo h4) sb.mg rfl (by simpa using h11)) pa_nil rfl) rfl
            refine PE.imp (pe_callB (call_is2 (a := a) (pn := pn) sb.exc g.hz g.hf) (g.sck.glo h2) g.isi (by decide +kernel) pa (by decide) (by decide) rfl rfl) fun σ H Q q => ?_
            obtain ⟨hs, σd, S, rs, rp, e0, d, hd, k⟩ := q
            unfold evQ at hd
            rw [hb] at hd
            cases hd
            obtain ⟨fs, hx, _⟩ := rx_at g e0
            exact ⟨.ref a, hs i hsl, ga c, b, rfl, sb.kit, ⟨fs, hx⟩, k H _ rp (Ext.refl _ _) mk_bl⟩
          · refine ⟨fun pins s σ H Q I q => ?_⟩
            obtain ⟨hs, σd, S, rs, rp, e0, d, hd, k⟩ := q
            unfold evQ at hd
            obtain ⟨b, hb, _⟩ := Option.map_eq_some_iff.mp hd
            exact absurd ⟨b, hb⟩ hsub
      | _ => cases h
    | _ => cases h
  | .isV, e, h => by
    unfold matchQ at h
    cases e with
    | Call fn as ks pos =>
      cases fn with
      | Name y p =>
        cases ks with
        | cons k ks => cases h
        | nil =>
          obtain ⟨h1, hr⟩ := and2 h
          obtain ⟨h2, hq⟩ := and2 hr
          clear h hr
          obtain rfl := of_decide_eq_true h1
          obtain ⟨n, p1, p2, i, rfl, h4, h5, h6, h7, hsl, hN⟩ := isArg_inv hq
          obtain ⟨h7, _⟩ := and2 h7
          obtain ⟨h9, h10⟩ := and2 h7
          by_cases hsub : G.isv ex.cls = true
          · have sb := g.isvs _ hsub
            have pa : PA (X.suite a ((a, oe) :: pn)) [.Name n p1, .Name "ValueError" p2] _ := pa_cons (pe_var (i := i) hN (g.sck.vis h6) (by simpa using h9) (by simpa using h10)) (pa_cons (pe_bltn (v := .ty "ValueError") (u := .type "ValueError") (g.sck.glo h4) sb.mg (by decide +kernel) rfl (by decide +kernel) (by decide +kernel)) pa_nil rfl) rfl
            refine PE.imp (pe_callB (call_isV (a := a) (pn := pn) sb.exc g.hz g.hf) (g.sck.glo h2) g.isi (by decide +kernel) pa (by decide) (by decide) rfl rfl) fun σ H Q q => ?_
            obtain ⟨hs, σd, S, rs, rp, e0, d, hd, k⟩ := q
            unfold evQ at hd
            rw [if_pos hsub] at hd
            cases hd
            obtain ⟨fs, hx, _⟩ := rx_at g e0
            exact ⟨.ref a, hs i hsl, rfl, sb.kit, ⟨fs, hx⟩, k H _ rp (Ext.refl _ _) mk_bl⟩
          · refine ⟨fun pins s σ H Q I q => ?_⟩
            obtain ⟨hs, σd, S, rs, rp, e0, d, hd, k⟩ := q
            unfold evQ at hd
            rw [if_neg hsub] at hd
            cases hd
      | _ => cases h
    | _ => cases h
  | .fld f, e, h => by
    unfold matchQ at h
    cases e with
    | Attribute o y p =>
      cases o with
      | Name n p1 =>
        obtain ⟨h1, h⟩ := and2 h
        obtain ⟨h2, h⟩ := and2 h
        obtain ⟨h3, h4⟩ := and2 h
        obtain rfl := of_decide_eq_true h1
        cases hsl : sl with
        | none => rw [hsl] at h4; cases h4
        | some i =>
          rw [hsl] at h4
          have hN := of_decide_eq_true h4
          obtain ⟨h3, _⟩ := and2 h3
          obtain ⟨h5, h6⟩ := and2 h3
          by_cases hx : G.xfl ex.cls y = true
          · obtain ⟨x1, x2⟩ := g.xfls _ _ hx
            refine PE.imp (pe_xf (pn := pn) x1 x2 g.hz.zc g.hf (pe_var (X := X.suite a ((a, oe) :: pn)) (i := i) hN (g.sck.vis h2) (by simpa using h5) (by simpa using h6)) rfl) fun σ H Q q => ?_
            obtain ⟨hs, σd, S, rs, rp, e0, d, hd, k⟩ := q
            unfold evQ at hd
            rw [if_pos hx] at hd
            obtain ⟨fs, h7, _, h8⟩ := rx_at g e0
            obtain ⟨v, h9, h10⟩ := h8 _ _ hd
            exact ⟨.ref a, hs i rfl, rfl, rfl, dd, fs, v, rfl, h7, h9, k H v rp (Ext.refl _ _) h10⟩
          · refine ⟨fun pins s σ H Q I q => ?_⟩
            obtain ⟨hs, σd, S, rs, rp, e0, d, hd, k⟩ := q
            unfold evQ at hd
            rw [if_neg hx] at hd
            cases hd
      | _ => cases h
    | _ => cases h
  | .tup es, e, h => by
    unfold matchQ at h
    cases e with
    | Tuple es' k pos =>
      refine PE.imp (pe_tup (soundQA g es h)) fun σ H Q q => ?_
      obtain ⟨hs, σd, S, rs, rp, e0, d, hd, kk⟩ := q
      unfold evQ at hd
      obtain ⟨ds, hds, rfl⟩ := Option.map_eq_some_iff.mp hd
      refine ⟨hs, σd, S, rs, rp, e0, ds, hds, fun H1 vs rp1 e1 r1 => ⟨?_, kD_tup rp1 (kD_ext e1 kk) r1⟩⟩
      rw [r1.len]
      exact evQs_len hds
    | _ => cases h
  | .lst es, e, h => by
    unfold matchQ at h
    cases e with
    | List es' pos =>
      refine PE.imp (pe_lst (soundQA g es h)) fun σ H Q q => ?_
      obtain ⟨hs, σd, S, rs, rp, e0, d, hd, kk⟩ := q
      unfold evQ at hd
      obtain ⟨ds, hds, rfl⟩ := Option.map_eq_some_iff.mp hd
      refine ⟨hs, σd, S, rs, rp, e0, ds, hds, fun H1 vs rp1 e1 r1 => ⟨?_, fin_new (m := false) rp1 (kD_ext e1 kk) r1⟩⟩
      rw [r1.len]
      exact evQs_len hds
    | _ => cases h
  | .add l r, e, h => by
    unfold matchQ at h
    cases e with
    | BinOp l' o r' pos =>
      cases o with
      | Add =>
        obtain ⟨h1, h2⟩ := and2 h
        refine PE.imp (pe_op (binOk (X := X.suite a ((a, oe) :: pn)) (ga := ga) (Z := Z) .Add false) (soundQ g l h1) (soundQ g r h2)) fun σ H Q q => ?_
        obtain ⟨hs, σd, S, rs, rp, e0, d, hd, kk⟩ := q
        unfold evQ at hd
        split at hd
        · rename_i x y hx hy
          obtain ⟨c, rfl⟩ := g?_some hd
          exact tQ_two hs rs rp e0 hx hy fun H' rp' e' => ⟨_, (x_ad1 c), kD_ext e' kk⟩
        · rename_i ds es hx hy
          obtain ⟨c, rfl⟩ := g?_some hd
          exact tQ_two hs rs rp e0 hx hy fun H' rp' e' => ⟨_, (x_ad2 c), kD_ext e' kk⟩
        · cases hd
      | _ => cases h
    | _ => cases h
  | .idx l r, e, h => by
    unfold matchQ at h
    cases e with
    | Subscript l' r' pos =>
      obtain ⟨h0, h⟩ := and2 h
      obtain ⟨h1, h2⟩ := and2 h
      refine PE.imp (pe_ix (idxOk (X := X.suite a ((a, oe) :: pn)) (ga := ga) (Z := Z) g.room) (soundQ g l h1) (soundQ g r h2) (notSl_plain h0)) fun σ H Q q => ?_
      obtain ⟨hs, σd, S, rs, rp, e0, d, hd, kk⟩ := q
      unfold evQ at hd
      split at hd
      · rename_i ds j hx hy
        exact tQ_two hs rs rp e0 hx hy fun H' rp' e' => ⟨d, hd, kD_ext e' kk⟩
      · cases hd
    | _ => cases h
  | .int l, e, h => by
    unfold matchQ at h
    cases e with
    | Call fn as ks pos =>
      cases fn with
      | Name y p =>
        match as, ks, h with
        | [r], [], h =>
          obtain ⟨h1, h⟩ := and2 h
          obtain ⟨h2, h⟩ := and2 h
          obtain ⟨h3, h4⟩ := and2 h
          obtain rfl := of_decide_eq_true h1
          refine PE.imp (pe_callTy call_int1 (g.sck.glo h2) g.int (by decide +kernel) (pa_cons (soundQ g l h4) pa_nil (starEach_cons h3)) (by decide) (by decide) (starEach_cons h3) rfl) fun σ H Q q => ?_
          obtain ⟨hs, σd, S, rs, rp, e0, d, hd, kk⟩ := q
          unfold evQ at hd
          split at hd
          · rename_i b hb
            cases hd
            refine ⟨hs, σd, S, rs, rp, e0, _, hb, fun H1 z rp1 e1 r1 => ?_⟩
            unfold RelD at r1
            subst r1
            exact .inr ⟨b, rfl, kk H1 _ rp1 e1 mk_int⟩
          · cases hd
        | [], _, h => cases h
        | _ :: _ :: _, _, h => cases h
        | [_], _ :: _, h => cases h
      | _ => cases h
    | _ => cases h
theorem soundQA (g : Gz X sc ga Z H0 S0 G ex dd oe) : ∀ (ms : List QE) {es : List Expr}, matchQs X.N sc sl ms es = true → PA (X.suite a ((a, oe) :: pn)) es (tQA (cc X ga Z) H0 S0 G ex sl a ms)
  | [], [], h => by
    refine PA.imp pa_nil fun σ H Q q => ?_
    obtain ⟨_, σd, S, rs, rp, e0, ds, hd, k⟩ := q
    unfold evQs at hd
    cases hd
    exact k H [] rp (Ext.refl _ _) RelDs.nil
  | [], _ :: _, h => by unfold matchQs at h; cases h
  | _ :: _, [], h => by unfold matchQs at h; cases h
  | m :: ms, e :: es, h => by
    unfold matchQs at h
    obtain ⟨h1, h⟩ := and2 h
    obtain ⟨h2, h3⟩ := and2 h
    refine PA.imp (pa_cons (soundQ g m h2) (soundQA g ms h3) (starEach_cons h1)) fun σ H Q q => ?_
    obtain ⟨hs, σd, S, rs, rp, e0, ds, hd, k⟩ := q
    unfold evQs at hd
    split at hd
    · rename_i u us hu hus
      obtain ⟨c, rfl⟩ := g?_some hd
      exact ⟨hs, σd, S, rs, rp, e0, u, hu, fun H1 v rp1 e1 r1 => ⟨hs, σd, S, rs.ext e1, rp1, e0.trans e1, us, hus, fun H2 vs rp2 e2 r2 => k H2 (v :: vs) rp2 (e1.trans e2) (RelDs.cons (r1.ext e2) r2)⟩⟩
    · cases hd
end
end
def kS (C : Cc) (H : Hp) (S : Sto) (D : Ends) : KS where
  nx := fun σ' S' => ∀ σv H', RelS C H' S' σ' σv → Rp C H' S' → Ext H S H' S' → D.nx σv H'
  rt := kD C H S D.rt
  bk := fun σ' S' => ∀ σv H', RelS C H' S' σ' σv → Rp C H' S' → Ext H S H' S' → D.bk σv H'
  ct := fun σ' S' => ∀ σv H', RelS C H' S' σ' σv → Rp C H' S' → Ext H S H' S' → D.ct σv H'
theorem kS_ext {C : Cc} {H H1 : Hp} {S S1 : Sto} {D : Ends} (e : Ext H S H1 S1) : KS.Le (kS C H S D) (kS C H1 S1 D) where
  nx := fun _ _ h σv H' a b c => h σv H' a b (e.trans c)
  rt := fun _ _ h => kD_ext e h
  bk := fun _ _ h σv H' a b c => h σv H' a b (e.trans c)
  ct := fun _ _ h σv H' a b c => h σv H' a b (e.trans c)
def tDS (C : Cc) (H0 : Hp) (S0 : Sto) (f : Env → Sto → KS → Prop) : TS := fun D σ H => ∃ (σd : Env) (S : Sto), RelS C H S σd σ ∧ Rp C H S ∧ Ext H0 S0 H S ∧ f σd S (kS C H S D)
def notTup : Expr → Bool
  | .Tuple _ _ _ => false
  | _ => true
def notLst : Expr → Bool
  | .List _ _ => false
  | _ => true
def lcalB (sc : Scope) (x : Str) : Bool := match sc.names.lookup x with
  | some .local => true
  | _ => false
/-- y = [..] on one line: the model's own statement -/
def swB (sc : Scope) (y : Str) (py : Pos) : Expr → Bool
  | .ListComp _ _ scope pos => lcalB sc y && ((py.line == pos.line) && !(scope.names.any fun (n, k) => n == y && (k == .local || k == .cell)))
  | _ => false
/-- y = [..], y a cell -/
def celB (sc : Scope) (y : Str) : Expr → Bool
  | .ListComp _ _ _ _ => (match sc.names.lookup y with
    | some .cell => true
    | _ => false)
  | _ => false
def isLc : ME → Bool
  | .lc _ _ _ _ _ _ => true
  | _ => false
def nmB (sc : Scope) (e : ME) (v : Expr) : Expr → Bool
  | .Name y py => swB sc y py v && isLc e || celB sc y v
  | _ => false
/-- x, y = u, w with plain local names: the model stores them from the right -/
def parB (sc : Scope) : MT → ME → Expr → Expr → Bool
  | .tp [.nm _, .nm _], .tup [_, _], .Tuple [.Name x px, .Name y py] _ _, .Tuple [u, w] _ _ => lcalB sc x && (lcalB sc y && (decide (x ≠ y) && ((py.line == px.line) && (notStar u && (notStar w && (![u, w].all (foldedForSure 8) && ![u, w].all (constantsAlone 8)))))))
  | _, _, _, _ => false
/-- the clause's name -/
def clB (N : List Str) (sc : Scope) : Option Nat → Option Str → Bool
  | none, none => true
  | some i, some n => decide (N[i]? = some n) && lcalB sc n
  | _, _ => false
mutual
def matchS (N : List Str) (sc : Scope) : MS → Stmt → Bool
  | .asg t e, st => match st with
    | .Assign [tg] v _ => matchT N sc t tg && (matchE N sc e v && ((notLc v && (notTup tg || notTup v) || nmB sc e v tg) || parB sc t e tg v))
    | _ => false
  | .six o i e, st => match st with
    | .Assign [.Subscript o' i' _] v _ => notSl i' && (true && (matchE N sc e v && (matchE N sc o o' && matchE N sc i i')))
    | _ => false
  | .aug i o e, st => match st with
    | .AugAssign (.Name y _) o' v _ => decide (N[i]? = some y) && (locB sc y && (decide (o = o') && matchE N sc e v))
    | _ => false
  | .exp e, st => match st with
    | .Expr v _ => notLc v && matchE N sc e v
    | _ => false
  | .ret e, st => match st with
    | .Return (some v) _ => matchE N sc e v
    | _ => false
  | .ite c a b, st => match st with
    | .If c' a' b' _ => matchE N sc c c' && (matchSs N sc a a' && matchSs N sc b b')
    | _ => false
  | .for_ i t as b, st => match st with
    | .For tg iter b' [] _ => matchT N sc t tg && (matchSs N sc b b' && (notSet iter && (match i with
        | 0 => matchEs N sc as [iter]
        | 1 => (match iter with
          | .Call (.Name x _) as' [] _ => decide (x = "range") && (gloB sc x && (decide (as'.length = 1 ∨ as'.length = 2) && matchEs N sc as as'))
          | _ => false)
        | 2 => (match iter with
          | .Call (.Name x _) as' [] _ => decide (x = "enumerate") && (gloB sc x && (decide (as'.length = 1) && (isTupT tg && matchEs N sc as as')))
          | _ => false)
        | 3 => (match iter with
          | .Call (.Name x _) as' [] _ => decide (x = "zip") && (gloB sc x && (decide (as'.length = 2) && (isTupT tg && matchEs N sc as as')))
          | _ => false)
        | _ => false)))
    | _ => false
  | .whl c b, st => match st with
    | .While c' b' [] _ => matchE N sc c c' && matchSs N sc b b'
    | _ => false
  | .pas, st => match st with
    | .Pass _ => true
    | _ => false
  | .cont, st => match st with
    | .Continue _ => true
    | _ => false
  | .drp _, _ => false
  | .frS _, _ => false
  | .bad, _ => true
  | .lck s, st => matchS N sc s st
  | .sat o f e, st => match st with
    | .Assign [.Attribute o' x _] v _ => decide (x = f) && (true && (matchE N sc e v && matchE N sc o o'))
    | _ => false
  | .aga o f op e, st => match st with
    | .AugAssign (.Attribute o' x _) op' v _ => decide (x = f) && (decide (op = op') && (matchE N sc e v && matchE N sc o o'))
    | _ => false
  | .ags o i op e, st => match st with
    | .AugAssign (.Subscript o' i' _) op' v _ => notSl i' && (decide (op = op') && (matchE N sc e v && (matchE N sc o o' && matchE N sc i i')))
    | _ => false
  | .rai c es, st => match st with
    | .Raise (some (.Call (.Name x _) as [] _)) none _ => decide (x = c) && (gloB sc x && (dbgB x && (!as.isEmpty && (decide (as.length < 20) && matchEs N sc es as))))
    | _ => false
  | .tri b c i q, st => match st with
    | .Try body [.ExceptHandler (some (.Name x _)) n suite _] [] [] _ => decide (x = c) && (gloB sc x && (dbgB x && (clB N sc i n && (!suite.isEmpty && (matchZs N sc i q suite && matchSs N sc b body)))))
    | _ => false
  | .trh b c i o cl m, st => match st with
    | .Try body [.ExceptHandler (some (.Name x _)) none [.Assign [.Name y _] (.Call (.Attribute (.Name z _) m' ap) [] [] cp) _] _] [] [] _ => decide (x = c) && (gloB sc x && (dbgB x && (decide (m' = m) && ((ap.endLine == cp.line) && (decide (N[i]? = some y) && (locB sc y && (decide (N[o]? = some z) && ((visB sc z && dbgB z) && matchSs N sc b body))))))))
    | _ => false
def matchSs (N : List Str) (sc : Scope) : List MS → List Stmt → Bool
  | [], sts => sts.isEmpty
  | .drp i :: r, sts => matchSs N sc r sts
  | .frS i :: r, sts => matchSs N sc r sts
  | s :: r, sts => match sts with
    | st :: sts => matchS N sc s st && matchSs N sc r sts
    | [] => false
end
section
variable {X : Cx} {ga : Str → Addr} {Z : Addr → Prop} {H0 : Hp} {S0 : Sto} {G : Gc} {x : XW}
/-- the source of a loop -/
theorem pi_of {sc : Scope} (g : Gd X sc ga Z H0 S0 G x) {i : Nat} {as : List ME} {tg iter : Expr} (h8 : (match i with
        | 0 => matchEs X.N sc as [iter]
        | 1 => (match iter with
          | .Call (.Name x _) as' [] _ => decide (x = "range") && (gloB sc x && (decide (as'.length = 1 ∨ as'.length = 2) && matchEs X.N sc as as'))
          | _ => false)
        | 2 => (match iter with
          | .Call (.Name x _) as' [] _ => decide (x = "enumerate") && (gloB sc x && (decide (as'.length = 1) && (isTupT tg && matchEs X.N sc as as')))
          | _ => false)
        | 3 => (match iter with
          | .Call (.Name x _) as' [] _ => decide (x = "zip") && (gloB sc x && (decide (as'.length = 2) && (isTupT tg && matchEs X.N sc as as')))
          | _ => false)
        | _ => false) = true) : PI X tg iter (wiD (cc X ga Z) H0 S0 G x i as) := by
  match i, h8 with
  | 0, h8 =>
    have hl : as.length = 1 := matchEs_len h8
    obtain ⟨a, ha⟩ := List.length_eq_one_iff.mp hl
    have pe := (soundQs as g h8 0 a iter (by rw [ha]; rfl) rfl).1
    rw [ha]
    exact pi_val pe
  | 1, h8 =>
    cases iter with
    | Call fn as' ks p2 =>
      cases fn with
      | Name y p =>
        cases ks with
        | nil =>
          obtain ⟨q1, q⟩ := and2 h8
          obtain ⟨q2, q⟩ := and2 q
          obtain ⟨q3, q4⟩ := and2 q
          obtain rfl := of_decide_eq_true q1
          exact pi_rng g q2 (of_decide_eq_true q3) q4 (soundEs as g q4)
        | cons k ks => cases h8
      | _ => cases h8
    | _ => cases h8
  | 2, h8 =>
    cases iter with
    | Call fn as' ks p2 =>
      cases fn with
      | Name y p =>
        cases ks with
        | nil =>
          obtain ⟨q1, q⟩ := and2 h8
          obtain ⟨q2, q⟩ := and2 q
          obtain ⟨q3, q⟩ := and2 q
          obtain ⟨q4, q5⟩ := and2 q
          obtain rfl := of_decide_eq_true q1
          cases tg with
          | Tuple elts kk tp => exact pi_enm g q2 (of_decide_eq_true q3) q5 (soundEs as g q5)
          | _ => cases q4
        | cons k ks => cases h8
      | _ => cases h8
    | _ => cases h8
  | 3, h8 =>
    cases iter with
    | Call fn as' ks p2 =>
      cases fn with
      | Name y p =>
        cases ks with
        | nil =>
          obtain ⟨q1, q⟩ := and2 h8
          obtain ⟨q2, q⟩ := and2 q
          obtain ⟨q3, q⟩ := and2 q
          obtain ⟨q4, q5⟩ := and2 q
          obtain rfl := of_decide_eq_true q1
          cases tg with
          | Tuple elts kk tp => exact pi_zp g q2 (of_decide_eq_true q3) q5 (soundEs as g q5)
          | _ => cases q4
        | cons k ks => cases h8
      | _ => cases h8
    | _ => cases h8
  | n + 4, h8 => cases h8
theorem for_imp {i : Nat} {t : MT} {as : List ME} {b : List MS} {D : Ends} {σ : St} {H : Hp} (h : tDS (cc X ga Z) H0 S0 (wS G x (.for_ i t as b)) D σ H) :
    tFor (wiD (cc X ga Z) H0 S0 G x i as) (gD (cc X ga Z) t) (tDS (cc X ga Z) H0 S0 (wSs G x b)) D σ H := by
  obtain ⟨σd, S, rs, rp, ex, w⟩ := h
  unfold wS at w
  refine ⟨σd, S, rs, rp, ex, wEs_mono (fun ds S1 q => ?_) as σd S w⟩
  obtain ⟨its, hi, hl⟩ := q
  refine ⟨its, hi, fun H1 J rp1 e1 hJ => ?_⟩
  have hJ' : ItOk (cc X ga Z) H1 S1 J its.1 its.2 := hJ Z fun a z => .inl z
  refine ⟨fun j n σv Hh => ∃ σe S2, RelS (cc X ga Z) Hh S2 σe σv ∧ Rp (cc X ga Z) Hh S2 ∧ Ext H1 S1 Hh S2 ∧ j ≤ its.1.length ∧ n = its.1.length - j ∧
    forLoop its.2 (fun d σ2 S2 q => ∃ σ', asgT t d σ2 = some σ' ∧ wSs G x b σ' S2 q) (its.1.drop j) σe S2 (kS (cc X ga Z) H S D),
    ⟨its.1.length, σd, S1, rs.ext e1, rp1, Ext.refl _ _, Nat.zero_le _, rfl, hl⟩, ?_⟩
  rintro j n σv Hh ⟨σe, S2, rs2, rp2, e2, hj, hn, hl⟩
  cases hd : its.1.drop j with
  | nil =>
    rw [hd] at hl
    left
    obtain ⟨hg, hk⟩ := hl
    exact ⟨(hJ' j Hh S2 rp2 e2 hg).2 (Nat.le_antisymm hj (List.drop_eq_nil_iff.mp hd)), hk σv Hh rs2 rp2 (e1.trans e2)⟩
  | cons d rest =>
    rw [hd] at hl
    right
    obtain ⟨hg, hk⟩ := hl
    have hjd : its.1[j]? = some d := by
      have : (its.1.drop j)[0]? = some d := by rw [hd]; rfl
      rw [List.getElem?_drop] at this
      simpa using this
    have hlt : j < its.1.length := (List.getElem?_eq_some_iff.mp hjd).1
    have hrest : its.1.drop (j + 1) = rest := by
      rw [← List.drop_drop, hd]; rfl
    obtain ⟨hgo, hy⟩ := (hJ' j Hh S2 rp2 e2 hg).1 d hjd
    refine ⟨hgo, _, fun σ' H' q => ⟨its.1.length - (j + 1), by omega, q⟩, fun v H' hyl => ?_⟩
    obtain ⟨rp3, e3, rd⟩ := hy v H' hyl
    obtain ⟨σ', ha, hw⟩ := hk
    have e123 := (e1.trans e2).trans e3
    refine ⟨d, σe, σ', S2, rs2.ext e3, rp3, rd, ha, fun σw rv _ => ⟨σ', S2, rv, rp3, ex.trans e123, wSs_mono ?_ b σ' S2 hw⟩⟩
    refine ⟨fun σ3 S3 q σw H3 r3 p3 x3 => ?_, fun d S3 q => kD_ext e123 q, fun σ3 S3 q σw H3 r3 p3 x3 => q σw H3 r3 p3 (e123.trans x3), fun σ3 S3 q σw H3 r3 p3 x3 => ?_⟩
    · exact ⟨σ3, S3, r3, p3, (e2.trans e3).trans x3, hlt, rfl, by rw [hrest]; exact q⟩
    · exact ⟨σ3, S3, r3, p3, (e2.trans e3).trans x3, hlt, rfl, by rw [hrest]; exact q⟩
theorem whl_imp {c : ME} {b : List MS} {D : Ends} {σ : St} {H : Hp} (h : tDS (cc X ga Z) H0 S0 (wS G x (.whl c b)) D σ H) : tWhile (tDT (cc X ga Z) H0 S0 (wE G x c)) (tDS (cc X ga Z) H0 S0 (wSs G x b)) D σ H := by
  obtain ⟨σd, S, rs, rp, ex, w⟩ := h
  unfold wS at w
  obtain ⟨W, ⟨m, hm⟩, hw⟩ := w
  refine ⟨fun n σv Hh => ∃ σe S2, RelS (cc X ga Z) Hh S2 σe σv ∧ Rp (cc X ga Z) Hh S2 ∧ Ext H S Hh S2 ∧ W n σe S2, ⟨m, σd, S, rs, rp, Ext.refl _ _, hm⟩, ?_⟩
  rintro n σv Hh ⟨σe, S2, rs2, rp2, e2, hn⟩
  refine ⟨σe, S2, rs2, rp2, ex.trans e2, wE_mono (fun u S3 q => ?_) c σe S2 (hw n σe S2 hn)⟩
  obtain ⟨z, h1, h2⟩ := q
  refine ⟨z, h1, fun H3 rp3 e3 => ?_⟩
  have e23 := e2.trans e3
  cases z with
  | false =>
    rw [if_neg Bool.false_ne_true] at h2
    exact iteF (h2 σv H3 (rs2.ext e3) rp3 e23)
  | true =>
    rw [if_pos rfl] at h2
    obtain ⟨Nd, hN, h2⟩ := h2
    refine iteT ⟨fun σ' H' => ∃ σe' S', RelS (cc X ga Z) H' S' σe' σ' ∧ Rp (cc X ga Z) H' S' ∧ Ext H S H' S' ∧ Nd σe' S', fun σ' H' ⟨σe', S', r, p, e, q⟩ => ?_, σe, S3, rs2.ext e3, rp3, ex.trans e23, wSs_mono ?_ b σe S3 h2⟩
    · obtain ⟨m', hlt, hW⟩ := hN σe' S' q
      exact ⟨m', hlt, σe', S', r, p, e, hW⟩
    · exact ⟨fun σ3 S4 q σw H4 r4 p4 x4 => ⟨σ3, S4, r4, p4, e23.trans x4, q⟩, fun d S4 q => kD_ext e23 q, fun σ3 S4 q σw H4 r4 p4 x4 => q σw H4 r4 p4 (e23.trans x4), fun σ3 S4 q σw H4 r4 p4 x4 => ⟨σ3, S4, r4, p4, e23.trans x4, q⟩⟩
theorem ite_imp {c : ME} {a b : List MS} {D : Ends} {σ : St} {H : Hp} (h : tDS (cc X ga Z) H0 S0 (wS G x (.ite c a b)) D σ H) : tIfS (tDT (cc X ga Z) H0 S0 (wE G x c)) (tDS (cc X ga Z) H0 S0 (wSs G x a)) (tDS (cc X ga Z) H0 S0 (wSs G x b)) D σ H := by
  obtain ⟨σd, S, rs, rp, ex, w⟩ := h
  unfold wS at w
  refine ⟨σd, S, rs, rp, ex, wE_mono (fun u S1 q => ?_) c σd S w⟩
  obtain ⟨z, h1, h2⟩ := q
  refine ⟨z, h1, fun H1 rp1 e1 => ?_⟩
  cases z with
  | true => rw [if_pos rfl] at h2; exact iteT ⟨σd, S1, rs.ext e1, rp1, ex.trans e1, wSs_mono (kS_ext e1) a σd S1 h2⟩
  | false => rw [if_neg Bool.false_ne_true] at h2; exact iteF ⟨σd, S1, rs.ext e1, rp1, ex.trans e1, wSs_mono (kS_ext e1) b σd S1 h2⟩
theorem asg_imp {t : MT} {e : ME} {D : Ends} {σ : St} {H : Hp} (h : tDS (cc X ga Z) H0 S0 (wS G x (.asg t e)) D σ H) : tAsg (tD (cc X ga Z) H0 S0 (wE G x e)) (gD (cc X ga Z) t) D σ H := by
  obtain ⟨σd, S, rs, rp, ex, w⟩ := h
  unfold wS at w
  refine ⟨σd, S, rs, rp, ex, wE_mono (fun d S1 q H1 v rp1 e1 r1 => ?_) e σd S w⟩
  obtain ⟨σ', h1, h2⟩ := q
  exact ⟨d, σd, σ', S1, rs.ext e1, rp1, r1, h1, fun σv rv _ => h2 σv H1 rv rp1 e1⟩
/-- a target that is no name: nothing is swapped -/
theorem at_swap {v o : Expr} {f : Str} {p : Pos} {l : Nat} {env : PySem.Env} : swapsWith v (some (.Attribute o f p)) l env = pure false := by
  unfold swapsWith
  cases v <;> rfl
theorem su_swap0 {v o i : Expr} {p : Pos} {l : Nat} {env : PySem.Env} : swapsWith v (some (.Subscript o i p)) l env = pure false := by
  unfold swapsWith
  cases v <;> rfl
theorem su_swap {v o i : Expr} {p : Pos} {l : Nat} {env : PySem.Env} : swapsWithSole [.Subscript o i p] v l env = pure false := su_swap0 (v := v) (o := o) (i := i) (p := p) (l := l) (env := env)
theorem swap_sole {tg v : Expr} {l : Nat} {env : PySem.Env} (h : notLc v = true) : swapsWithSole [tg] v l env = pure false := notLc_swap h
theorem swapped_none {tg v : Expr} {env : PySem.Env} (h : (notTup tg || notTup v) = true) (hl : notLst tg = true) : swappedStores [tg] v env = pure none := by
  unfold swappedStores
  cases tg with
  | Tuple a b c =>
    cases v with
    | Tuple a b c => cases h
    | _ => rfl
  | List a b => cases hl
  | _ => rfl
end
def tZ (C : Cc) (H0 : Hp) (S0 : Sto) (sl : Option Nat) (a : Addr) (f : Env → Option (Env × Option D)) : TS := fun D σ H => slA sl a σ ∧ ∃ σd S, RelS C H S σd σ ∧ Rp C H S ∧ Ext H0 S0 H S ∧ ∃ r, f σd = some r ∧
  (match r.2 with
  | some d => kD C H S D.rt d S
  | none => ∀ σv H', slA sl a σv → RelS C H' S r.1 σv → Rp C H' S → Ext H S H' S → D.nx σv H')
section
variable {X : Cx} {sc : Scope} {ga : Str → Addr} {Z : Addr → Prop} {H0 : Hp} {S0 : Sto} {G : Gc} {ex : Exc} {dd a : Addr} {oe : Obj} {pn : List (Addr × Obj)} {sl : Option Nat}
mutual
theorem soundZ (g : Gz X sc ga Z H0 S0 G ex dd oe) : ∀ (m : QS) {st : Stmt}, matchZ X.N sc sl m st = true → PS (X.suite a ((a, oe) :: pn)) st (tZ (cc X ga Z) H0 S0 sl a (exQ G ex m))
  | .asg i e, st, h => by
    unfold matchZ at h
    cases st with
    | Assign tgs v pos =>
      match tgs, h with
      | [], h => cases h
      | tg :: _ :: _, h => (cases tg <;> cases h)
      | [tg], h =>
        cases tg with
        | Name y p =>
          obtain ⟨h1, h⟩ := and2 h
          obtain ⟨h2, h⟩ := and2 h
          obtain ⟨h3, h⟩ := and2 h
          obtain ⟨h4, h5⟩ := and2 h
          have hne := of_decide_eq_true h4
          refine PS.imp (ps_asg (soundQ g e h5) (pg_name (X := X.suite a ((a, oe) :: pn)) (i := i) g.nd (of_decide_eq_true h1) (g.sck.loc h2) (g.fnl y h2)) (swap_sole h3) (swapped_none rfl rfl) rfl) fun D σ H q => ?_
          obtain ⟨hs, σd, S, rs, rp, e0, r, hr, k⟩ := q
          unfold exQ at hr
          obtain ⟨d, hd, rfl⟩ := Option.map_eq_some_iff.mp hr
          refine ⟨hs, σd, S, rs, rp, e0, d, hd, fun H1 w rp1 e1 r1 => k _ H1 (fun j hj => ?_) ((rs.ext e1).set i r1) rp1 e1⟩
          rw [List.getElem?_set, if_neg (fun z => hne (by rw [hj, z]))]
          exact hs j hj
        | _ => cases h
    | _ => cases h
  | .ret e, st, h => by
    unfold matchZ at h
    cases st with
    | Return v pos =>
      cases v with
      | none => cases h
      | some v =>
        refine PS.imp (ps_ret (soundQ g e h)) fun D σ H q => ?_
        obtain ⟨hs, σd, S, rs, rp, e0, r, hr, k⟩ := q
        unfold exQ at hr
        obtain ⟨d, hd, rfl⟩ := Option.map_eq_some_iff.mp hr
        exact ⟨hs, σd, S, rs, rp, e0, d, hd, k⟩
    | _ => cases h
  | .ite c b, st, h => by
    unfold matchZ at h
    cases st with
    | If c' a' b' pos =>
      cases b' with
      | cons _ _ => cases h
      | nil =>
        obtain ⟨h1, h⟩ := and2 h
        obtain ⟨h2, h3⟩ := and2 h
        have pt : PT (X.suite a ((a, oe) :: pn)) c' _ := pt_truth (soundQ (a := a) (pn := pn) g c h2) (notTest_true h1)
        refine PS.imp (ps_if pt (soundZs g b h3) pss_nil) fun D σ H q => ?_
        obtain ⟨hs, σd, S, rs, rp, e0, r, hr, k⟩ := q
        unfold exQ at hr
        split at hr
        · rename_i hc
          refine ⟨hs, σd, S, rs, rp, e0, _, hc, fun H1 w rp1 e1 r1 => ⟨true, truOk rfl rp1 r1 rfl, iteT ⟨hs, σd, S, rs.ext e1, rp1, e0.trans e1, r, hr, ?_⟩⟩⟩
          obtain ⟨σ', o⟩ := r
          cases o with
          | some d => exact kD_ext e1 k
          | none => exact fun σv H' z1 z2 z3 z4 => k σv H' z1 z2 z3 (e1.trans z4)
        · rename_i hc
          cases hr
          exact ⟨hs, σd, S, rs, rp, e0, _, hc, fun H1 w rp1 e1 r1 => ⟨false, truOk rfl rp1 r1 rfl, iteF (k σ H1 hs (rs.ext e1) rp1 e1)⟩⟩
        · cases hr
    | _ => cases h
theorem soundZs (g : Gz X sc ga Z H0 S0 G ex dd oe) : ∀ (ms : List QS) {sts : List Stmt}, matchZs X.N sc sl ms sts = true → PSs (X.suite a ((a, oe) :: pn)) sts (tZ (cc X ga Z) H0 S0 sl a (exQs G ex ms))
  | [], [], h => by
    refine PSs.imp pss_nil fun D σ H q => ?_
    obtain ⟨hs, σd, S, rs, rp, e0, r, hr, k⟩ := q
    unfold exQs at hr
    cases hr
    exact k σ H hs rs rp (Ext.refl _ _)
  | [], _ :: _, h => by unfold matchZs at h; cases h
  | _ :: _, [], h => by unfold matchZs at h; cases h
  | m :: ms, st :: sts, h => by
    unfold matchZs at h
    obtain ⟨h1, h2⟩ := and2 h
    refine PSs.imp (pss_cons (soundZ g m h1) (soundZs g ms h2)) fun D σ H q => ?_
    obtain ⟨hs, σd, S, rs, rp, e0, r, hr, k⟩ := q
    unfold exQs at hr
    split at hr
    · rename_i σ' hm
      refine ⟨hs, σd, S, rs, rp, e0, _, hm, fun σv H' z1 z2 z3 z4 => ⟨z1, σ', S, z2, z3, e0.trans z4, r, hr, ?_⟩⟩
      obtain ⟨σ2, o⟩ := r
      cases o with
      | some d => exact kD_ext z4 k
      | none => exact fun σw H2 y1 y2 y3 y4 => k σw H2 y1 y2 y3 (z4.trans y4)
    · rename_i o hn
      refine ⟨hs, σd, S, rs, rp, e0, r, hr, ?_⟩
      obtain ⟨σ2, o2⟩ := r
      cases o2 with
      | some d => exact k
      | none => exact absurd hr (hn σ2)
end
end
theorem PSs.ex {X : Cx} {e : List Stmt} {ι : Sort _} {t : ι → TS} (h : ∀ i, PSs X e (t i)) : PSs X e (fun D σ H => ∃ i, t i D σ H) := ⟨fun pins s σ H D I ⟨i, q⟩ => (h i).run pins s σ H D I q⟩
theorem PSs.and {X : Cx} {e : List Stmt} {p : Prop} {t : TS} (h : p → PSs X e t) : PSs X e (fun D σ H => p ∧ t D σ H) := ⟨fun pins s σ H D I ⟨i, q⟩ => (h i).run pins s σ H D I q⟩
def Tp (X : Cx) : Prop := X.stack = X.env :: X.outer ∧ X.env.frame = some X.env.locals
section
variable {X : Cx} {sc : Scope} {ga : Str → Addr} {Z : Addr → Prop} {H0 : Hp} {S0 : Sto} {G : Gc} {x : XW}
/-- the same but for what is raised -/
theorem Gd.tr (g : Gd X sc ga Z H0 S0 G x) {pn : List (Addr × Obj)} {xe : Value → Shared → Prop} {x' : XW} {H1 : Hp} {S1 : Sto} (tp : Tp X) (tk : L2N.Takes (X.tr pn xe) (liftX (cc X ga Z) H1 S1 x')) (ow : PassesOwn (model X.prog X.w) X.A X.env xe) : Gd (X.tr pn xe) sc ga Z H1 S1 G x' where
  nd := g.nd
  calm := g.calm
  room := g.room
  sck := ⟨g.sck.kind, g.sck.look⟩
  tk := takesL_of tk tp.2
  frm := g.frm
  own := fun _ => ow
  fns := fun f n sp h => ⟨(g.fns f n sp h).ex⟩
  con := g.con
  blt := g.blt
  tys := g.tys
  mts := fun c m n sp h => ⟨(g.mts c m n sp h).ex⟩
  mks := fun c n sp h => ⟨(g.mks c n sp h).ex⟩
  flds := g.flds
  excs := fun c n F h => ⟨(g.excs c n F h).ex⟩
  subs := fun c c' b h => ⟨(g.subs c c' b h).mg, (g.subs c c' b h).exm, (g.subs c c' b h).kit, (g.subs c c' b h).exc⟩
  xfls := g.xfls
  isvs := fun c h => ⟨(g.isvs c h).mg, (g.isvs c h).kit, (g.isvs c h).exc⟩
  hots := fun c m f h => ⟨(g.hots c m f h).ex⟩
  cds := fun n l h => ⟨(g.cds n l h).ex⟩
  cts := fun n l h => ⟨(g.cts n l h).ex⟩
  zip := g.zip
  rng := g.rng
  enm := g.enm
  fnl := g.fnl
/-- what a suite asks: for each exception -/
def tsQ (X : Cx) (ga : Str → Addr) (Z : Addr → Prop) (G : Gc) (i : Option Nat) (q : List QS) : Addr → Value → Option Addr → TS := fun a cls d D σ H =>
  ∃ (ex : Exc) (dd : Addr) (H0 : Hp) (S0 : Sto), (cls = .ref (ga ex.cls) ∧ d = some dd ∧ RelX (cc X ga Z) H0 S0 ex (.ref (ga ex.cls)) (some dd)) ∧ tZ (cc X ga Z) H0 S0 i a (exQs G ex q) D σ H
theorem suite_ok (g : Gd X sc ga Z H0 S0 G x) {i : Option Nat} {q : List QS} {sts : List Stmt} (h : matchZs X.N sc i q sts = true) (a : Addr) (oe : Obj) (cls : Value) (d : Option Addr) (pn : List (Addr × Obj)) (hz : L2N.Zn cls d oe) (hf : ∃ vs, oe.data = .fields vs) :
    PSs (X.suite a ((a, oe) :: pn)) sts (tsQ X ga Z G i q a cls d) := by
  refine PSs.ex fun ex => PSs.ex fun dd => PSs.ex fun H0' => PSs.ex fun S0' => PSs.and fun ⟨hc, hd, rx⟩ => ?_
  subst hc hd
  refine soundZs (dd := dd) (sc := sc) ?_ q h
  exact { nd := g.nd, room := g.room, sck := g.sck, isi := g.blt .isinstance, int := g.blt .int, subs := g.subs, xfls := g.xfls, isvs := g.isvs, fnl := g.fnl, rx := rx, hz := hz, hf := hf }
/-- from the handler's wish to what a clause wishes -/
theorem catch_relX {C : Cc} {H : Hp} {S : Sto} {e : Exc} {cls : Value} {d : Option Addr} (r : RelX C H S e cls d) : ∃ dd, cls = .ref (C.ga e.cls) ∧ d = some dd ∧ RelX C H S e (.ref (C.ga e.cls)) (some dd) := by
  obtain ⟨rfl, dd, fs, rfl, h⟩ := r
  exact ⟨dd, rfl, rfl, rfl, dd, fs, rfl, h⟩
theorem lcal_kind (hs : Sck X sc) {n : Str} (h : lcalB sc n = true) : X.env.kindOf n = some .local := by
  unfold lcalB at h
  cases e : sc.names.lookup n with
  | none => rw [e] at h; cases h
  | some k =>
    rw [e] at h
    obtain ⟨k', h1, h2⟩ := hs.look n k e
    cases k with
    | «local» =>
      rcases h2 with rfl | ⟨z, _⟩
      · exact h1
      · cases z
    | _ => cases h
theorem tri_s (g : Gd X sc ga Z H0 S0 G x) (tp : Tp X) {b : List MS} {c : Str} {i : Option Nat} {q : List QS} {body suite : List Stmt} {n : Option Str} {np p1 pos : Pos} (hg : gloB sc c = true) (hd : dbgB c = true) (hc : clB X.N sc i n = true) (hne : (!suite.isEmpty) = true)
    (hz : matchZs X.N sc i q suite = true) (hb : ∀ {pn : List (Addr × Obj)} {xe : Value → Shared → Prop} {x' : XW} {H1 : Hp} {S1 : Sto}, Gd (X.tr pn xe) sc ga Z H1 S1 G x' → PSs (X.tr pn xe) body (tDS (cc X ga Z) H1 S1 (wSs G x' b))) :
    PS X (.Try body [.ExceptHandler (some (.Name c np)) n suite p1] [] [] pos) (tDS (cc X ga Z) H0 S0 (wS G x (.tri b c i q))) := by
  have hdb : (c == ("__debug__" : Str)) = false := by
    have := (and2 (and2 hd).1).1
    simpa using this
  obtain ⟨b0, rest, rfl⟩ := isEmpty_cons hne
  let tb : WX → TS := fun W D σ H => ∃ (H1 : Hp) (S1 : Sto) (x' : XW), (∀ cls d σ H, liftX (cc X ga Z) H1 S1 x' cls d σ H → W cls d σ H) ∧ tDS (cc X ga Z) H1 S1 (wSs G x' b) D σ H
  have hbody : ∀ (W : WX) (pn : List (Addr × Obj)) (xe : Value → Shared → Prop), L2N.Takes (X.tr pn xe) W → PassesOwn (model X.prog X.w) X.A X.env xe → PSs (X.tr pn xe) body (tb W) := fun W pn xe tk ow => by
    refine PSs.ex fun H1 => PSs.ex fun S1 => PSs.ex fun x' => PSs.and fun hx => ?_
    exact hb (g.tr tp (tk.imp hx) ow)
  by_cases hsub : G.sub c c = some true
  · have hnm : Names X c (.ref (ga c)) := ⟨g.sck.glo hg, hdb, .inl (g.subs _ _ _ hsub).mg⟩
    match i, n, hc with
    | none, none, _ =>
      refine PS.imp (ps_onlyN (tb := tb) (ts := tsQ X ga Z G none q) tp.1 tp.2 hnm (takes_L g.tk tp.2) hbody (fun a oe cls d pn z1 z2 => suite_ok g hz a oe cls d pn z1 z2)) fun D σ H w => ?_
      obtain ⟨σd, S, rs, rp, ex, w⟩ := w
      unfold wS at w
      refine ⟨H, S, _, fun cls d σ' H' hl => ?_, σd, S, rs, rp, Ext.refl _ _, w.2⟩
      obtain ⟨e, σe, S', rs', rp', ex', rx, hok, t, ht, hw⟩ := hl
      obtain ⟨dd, rfl, rfl, rx'⟩ := catch_relX rx
      refine ⟨t, (g.subs _ _ _ ht).exm, fun ht' a ha => ?_, fun ht' => ?_⟩
      · subst ht'
        rw [if_pos rfl] at hw
        obtain ⟨r, hr, hk⟩ := hw
        refine ⟨e, dd, H', S', ⟨rfl, rfl, rx'⟩, ?_⟩
        refine ⟨fun j hj => (nomatch hj), σe, S', rs', rp', Ext.refl _ _, r, hr, ?_⟩
        obtain ⟨σ2, o⟩ := r
        cases o with
        | some v => exact kD_ext ex' hk
        | none => exact fun σv H2 _ z2 z3 z4 => hk σv H2 z2 z3 (ex'.trans z4)
      · subst ht'
        rw [if_neg Bool.false_ne_true] at hw
        exact ⟨e, σe, S', rs', rp', ex.trans ex', rx, hw⟩
    | some i, some n, hc =>
      obtain ⟨hc1, hc2⟩ := and2 hc
      have hNi := of_decide_eq_true hc1
      refine PS.imp (L2N.ps_try_as (i := i) (tb := tb) (ts := tsQ X ga Z G (some i) q) tp.1 tp.2 g.nd hNi (lcal_kind g.sck hc2) hnm (takes_L g.tk tp.2) hbody (fun a oe cls d pn z1 z2 => suite_ok g hz a oe cls d pn z1 z2)) fun D σ H w => ?_
      obtain ⟨σd, S, rs, rp, ex, w⟩ := w
      unfold wS at w
      refine ⟨H, S, _, fun cls d σ' H' hl => ?_, σd, S, rs, rp, Ext.refl _ _, w.2⟩
      obtain ⟨e, σe, S', rs', rp', ex', rx, hok, t, ht, hw⟩ := hl
      obtain ⟨dd, rfl, rfl, rx'⟩ := catch_relX rx
      refine ⟨t, (g.subs _ _ _ ht).exm, fun ht' a ha => ?_, fun ht' => ?_⟩
      · subst ht'
        rw [if_pos rfl] at hw
        obtain ⟨r, hr, hk⟩ := hw
        have hlen : i < σ'.length := by
          rw [← rs'.1]
          exact hok
        refine ⟨e, dd, H', S', ⟨rfl, rfl, rx'⟩, ?_⟩
        refine ⟨fun j hj => ?_, σe.set i none, S', rs'.del i _, rp', Ext.refl _ _, r, hr, ?_⟩
        · cases hj
          rw [List.getElem?_set, if_pos rfl, if_pos hlen]
        · obtain ⟨σ2, o⟩ := r
          cases o with
          | some v => exact kD_ext ex' hk
          | none => exact fun σv H2 _ z2 z3 z4 => hk _ H2 (z2.del i none) z3 (ex'.trans z4)
      · subst ht'
        rw [if_neg Bool.false_ne_true] at hw
        exact ⟨e, σe, S', rs', rp', ex.trans ex', rx, hw⟩
    | none, some _, hc => cases hc
    | some _, none, hc => cases hc
  · refine ⟨fun pins s σ H D I w => ?_⟩
    obtain ⟨σd, S, rs, rp, ex, w⟩ := w
    unfold wS at w
    exact absurd w.1 hsub
end
open L2H in
theorem pe_methH0 {X : Cx} {CX : CXT} {k : Nat} {f C : Addr} {fd : FuncData} {ps : List Str} {sp : Sp} {E : L2.St → XK} {m : Str} {pos apos : Pos} {o : Expr} {ta : TE} {pl : Sem Bool} (he : PE X o ta) (c : L2.Cls X.K C) (hm : L2.Meth X.K C m f) (F : FnH X.prog X.w X.K X.mg X.base CX k f fd ps sp) (hr : RoomH k X.A) (hc : HotC X) (hb : Binds X.K fd ps []) (hx : ∀ σ, PassesAt CX X σ (E σ))
    (ht : eval (.Call (.Attribute o m apos) [] [] pos) X.env = (do
      let ov ← eval o X.env
      standAt apos.atName
      let (f, first) ← holding [ov] (getMethod ov m pl)
      callWith pos f first (backTo pos (starEach [] X.env)) (backToKw pos (keywordEach [] X.env)))) :
    PE X (.Call (.Attribute o m apos) [] [] pos) (tMethH C m sp E ta tNil) := by
  refine ⟨fun pins s σ H Q I h => ?_⟩
  refine PySem.W.methodCall_KW (pl := pl) (thn (he.run pins s σ H _ I h) fun u s1 ⟨x, H1, I1, rx, a, dx, fs, ex, ea, l, q⟩ => ?_) ht
  subst ex
  obtain rfl : u = Value.ref a := rx
  refine getmeth_ok I1 ea c hm l ?_
  exact PySem.W.callWith_K0 (first := [.ref a]) I1.kIn hm.kp (run_fnH (us := [.ref a]) (vs := [.ref a]) F hr hc hb (hx σ) I1 (.cons rfl .nil) q)
section
variable {X : Cx} {sc : Scope} {ga : Str → Addr} {Z : Addr → Prop} {H0 : Hp} {S0 : Sto} {G : Gc} {x : XW}
/-- what such a suite asks -/
def tsH (X : Cx) (ga : Str → Addr) (Z : Addr → Prop) (G : Gc) (i o : Nat) (cl m : Str) : Addr → Value → Option Addr → TS := fun _ _ _ D σ H =>
  ∃ σd S f a fs p kvs l, RelS (cc X ga Z) H S σd σ ∧ Rp (cc X ga Z) H S ∧ G.hot cl m = some f ∧ G.fld cl f = true ∧ σd[o]? = some (some (.ref a)) ∧ S a = some (.ins cl fs) ∧ fs.lookup m = none ∧ fs.lookup f = some (.ref p) ∧ S p = some (.dct kvs) ∧ ksOf kvs = some l ∧ l.length < 64 ∧ l.all PySem.PyData.strOk = true ∧
    ∀ σv H', RelS (cc X ga Z) H' S (σd.set i (some (.lst ((srtS l).map .str)))) σv → Rp (cc X ga Z) H' S → Ext H S H' S → D.nx σv H'
theorem suiteH_ok (g : Gd X sc ga Z H0 S0 G x) {i o : Nat} {cl m y z : Str} {p1 p2 ap cp pos : Pos} (hl : (ap.endLine == cp.line) = true) (hi : X.N[i]? = some y) (hy : locB sc y = true) (ho : X.N[o]? = some z) (hz : visB sc z = true) (hd : dbgB z = true) (a : Addr) (oe : Obj) (cls : Value) (d : Option Addr) (pn : List (Addr × Obj)) (h1 : L2N.Zn cls d oe) (h2 : ∃ vs, oe.data = .fields vs) :
    PSs (X.suite a ((a, oe) :: pn)) [.Assign [.Name y p1] (.Call (.Attribute (.Name z p2) m ap) [] [] cp) pos] (tsH X ga Z G i o cl m a cls d) := by
  have hot : L2H.HotC (X.suite a ((a, oe) :: pn)) := by
    obtain ⟨vs, e⟩ := h2
    exact ⟨(a, oe), ⟨rfl, vs, e, h1.2.2 vs e⟩, List.mem_cons_self⟩
  by_cases hh : ∃ f, G.hot cl m = some f
  · obtain ⟨f, hh⟩ := hh
    obtain ⟨fa, fd, k, ps, hC, hM, F, hr, hb⟩ := (g.hots cl m f hh).ex
    obtain ⟨h3, _⟩ := and2 hd
    obtain ⟨h3, h4⟩ := and2 h3
    have pv : PE (X.suite a ((a, oe) :: pn)) (.Name z p2) _ := pe_var (X := X.suite a ((a, oe) :: pn)) (i := o) ho (g.sck.vis hz) (by simpa using h3) (by simpa using h4)
    have pm := pe_methH0 (X := X.suite a ((a, oe) :: pn)) (pos := cp) (apos := ap) (E := fun _ _ _ _ => False) pv hC hM F ⟨hr.dp, hr.un⟩ hot hb (fun σ _ _ _ _ _ _ c => by
      obtain ⟨_, _, _, _, _, _, _, _, _, _, _, _, z⟩ := c
      exact z.elim) (meth_eval (as := []) rfl rfl hl)
    refine PSs.imp (pss_one (ps_asg pm (pg_name (X := X.suite a ((a, oe) :: pn)) (i := i) g.nd hi (g.sck.loc hy) (g.fnl y hy)) rfl rfl rfl)) fun D σ H q => ?_
    obtain ⟨σd, S, f', b, fs, p, kvs, l, rs, rp, z1, z2, z3, z4, z5, z6, z7, z8, z9, z10, z11⟩ := q
    rw [hh] at z1
    cases z1
    obtain ⟨v, hv, rv⟩ := rs.2 o _ z3
    unfold RelD at rv
    subst rv
    obtain ⟨ob, k1, k2⟩ := rp.obj b _ z4
    obtain ⟨dx, l2, rfl, rf⟩ := k2
    obtain ⟨w, k3, k4⟩ := rf.some z6
    unfold RelD at k4
    subst k4
    obtain ⟨vl, k5, rk⟩ := dct_of rp (show dctAt S p = some kvs by unfold dctAt; rw [z7])
    refine ⟨_, hv, b, dx, l2, rfl, k1, rf.none z5, b, dx, l2, p, vl, l, rfl, k1, hC, (g.flds cl f z2).2, k3, k5, by rw [rk.keys, ks_rel z8], z9, fun q hq => ?_⟩
    have fin := fin_new (m := false) (Q := fun v H' => D.nx (σ.set i (some v)) H') rp (show fin false (.newL ((srtS l).map .str)) S (kD (cc X ga Z) H S fun v H' => D.nx (σ.set i (some v)) H') from fun H' v rp' e' r' => z11 _ H' ((rs.ext e').set i r') rp' e') (rel_strs (all_perm (srtS_perm l) z10)) q hq
    exact fin
  · refine ⟨fun pins s σ H D I w => ?_⟩
    obtain ⟨σd, S, f, a, fs, p, kvs, l, _, _, z, _⟩ := w
    exact absurd ⟨f, z⟩ hh
theorem trh_s (g : Gd X sc ga Z H0 S0 G x) (tp : Tp X) {b : List MS} {c cl m y z : Str} {i o : Nat} {body : List Stmt} {np p1 p2 ap cp pos p5 p6 : Pos} (hg : gloB sc c = true) (hd : dbgB c = true) (hl : (ap.endLine == cp.line) = true) (hi : X.N[i]? = some y) (hy : locB sc y = true) (ho : X.N[o]? = some z) (hz : visB sc z = true) (hzd : dbgB z = true)
    (hb : ∀ {pn : List (Addr × Obj)} {xe : Value → Shared → Prop} {x' : XW} {H1 : Hp} {S1 : Sto}, Gd (X.tr pn xe) sc ga Z H1 S1 G x' → PSs (X.tr pn xe) body (tDS (cc X ga Z) H1 S1 (wSs G x' b))) :
    PS X (.Try body [.ExceptHandler (some (.Name c np)) none [.Assign [.Name y p1] (.Call (.Attribute (.Name z p2) m ap) [] [] cp) p5] p6] [] [] pos) (tDS (cc X ga Z) H0 S0 (wS G x (.trh b c i o cl m))) := by
  have hdb : (c == ("__debug__" : Str)) = false := by
    have := (and2 (and2 hd).1).1
    simpa using this
  let tb : WX → TS := fun W D σ H => ∃ (H1 : Hp) (S1 : Sto) (x' : XW), (∀ cls d σ H, liftX (cc X ga Z) H1 S1 x' cls d σ H → W cls d σ H) ∧ tDS (cc X ga Z) H1 S1 (wSs G x' b) D σ H
  have hbody : ∀ (W : WX) (pn : List (Addr × Obj)) (xe : Value → Shared → Prop), L2N.Takes (X.tr pn xe) W → PassesOwn (model X.prog X.w) X.A X.env xe → PSs (X.tr pn xe) body (tb W) := fun W pn xe tk ow => by
    refine PSs.ex fun H1 => PSs.ex fun S1 => PSs.ex fun x' => PSs.and fun hx => ?_
    exact hb (g.tr tp (tk.imp hx) ow)
  by_cases hsub : G.sub c c = some true
  · have hnm : Names X c (.ref (ga c)) := ⟨g.sck.glo hg, hdb, .inl (g.subs _ _ _ hsub).mg⟩
    refine PS.imp (ps_onlyN (tb := tb) (ts := tsH X ga Z G i o cl m) tp.1 tp.2 hnm (takes_L g.tk tp.2) hbody (fun a oe cls d pn z1 z2 => suiteH_ok g hl hi hy ho hz hzd a oe cls d pn z1 z2)) fun D σ H w => ?_
    obtain ⟨σd, S, rs, rp, ex, w⟩ := w
    unfold wS at w
    refine ⟨H, S, _, fun cls d σ' H' hl => ?_, σd, S, rs, rp, Ext.refl _ _, w.2⟩
    obtain ⟨e, σe, S', rs', rp', ex', rx, t, ht, hw⟩ := hl
    obtain ⟨dd, rfl, rfl, rx'⟩ := catch_relX rx
    refine ⟨t, (g.subs _ _ _ ht).exm, fun ht' a ha => ?_, fun ht' => ?_⟩
    · subst ht'
      rw [if_pos rfl] at hw
      obtain ⟨f, b', fs, p, kvs, l, y1, y2, y3, y4, y5, y6, y7, y8, y9, y10, y11⟩ := hw
      exact ⟨σe, S', f, b', fs, p, kvs, l, rs', rp', y1, y2, y3, y4, y5, y6, y7, y8, y9, y10, fun σv H2 z2 z3 z4 => y11 σv H2 z2 z3 (ex'.trans z4)⟩
    · subst ht'
      rw [if_neg Bool.false_ne_true] at hw
      exact ⟨e, σe, S', rs', rp', ex.trans ex', rx, hw⟩
  · refine ⟨fun pins s σ H D I w => ?_⟩
    obtain ⟨σd, S, rs, rp, ex, w⟩ := w
    unfold wS at w
    exact absurd w.1 hsub
end
end Mn
namespace Mn
open PySem L2
section
variable {X : Cx} {ga : Str → Addr} {Z : Addr → Prop} {H0 : Hp} {S0 : Sto} {G : Gc} {x : XW}
theorem seq_s {st : Stmt} {sts : List Stmt} {m : MS} {ms : List MS} (h1 : PS X st (tDS (cc X ga Z) H0 S0 (wS G x m))) (h2 : PSs X sts (tDS (cc X ga Z) H0 S0 (wSs G x ms))) : PSs X (st :: sts) (tDS (cc X ga Z) H0 S0 (wSs G x (m :: ms))) := by
  refine PSs.imp (pss_cons h1 h2) fun D σ H q => ?_
  obtain ⟨σd, S, rs, rp, ex, w⟩ := q
  unfold wSs at w
  refine ⟨σd, S, rs, rp, ex, wS_mono ?_ m σd S w⟩
  refine ⟨fun σ' S' q σv H' r' p' e' => ?_, fun _ _ q => q, fun _ _ q => q, fun _ _ q => q⟩
  exact ⟨σ', S', r', p', ex.trans e', wSs_mono (kS_ext e') ms σ' S' q⟩
/-- name = [..] on one line -/
theorem lc_s {sc : Scope} (g : Gd X sc ga Z H0 S0 G x) {j : Nat} {y : Str} {py pos spos : Pos} {i : Nat} {m : Bool} {t : MT} {as c : List ME} {el : ME} {elt : Expr} {gens : List Comprehension} {scope : Scope} (hN : X.N[j]? = some y) (hl : X.env.scope.names.lookup y = some .local)
    (hsw : swapsWith (.ListComp elt gens scope pos) (some (.Name y py)) spos.line X.env = pure true) (h : matchE X.N sc (.lc i m t as c el) (.ListComp elt gens scope pos) = true) :
    PS X (.Assign [.Name y py] (.ListComp elt gens scope pos) spos) (tAsg (tD (cc X ga Z) H0 S0 (wE G x (.lc i m t as c el))) (gName j)) := by
  unfold matchE at h
  match gens, h, hsw with
  | [⟨tg, iter, ifs, ay⟩], h, hsw =>
    obtain ⟨h1, hh⟩ := and2 h
    clear h
    obtain ⟨h2, h⟩ := and2 hh
    obtain ⟨h3, h⟩ := and2 h
    obtain ⟨h4, h⟩ := and2 h
    obtain ⟨h5, h⟩ := and2 h
    obtain ⟨h6, h⟩ := and2 h
    obtain ⟨h7, h8⟩ := and2 h
    obtain rfl := of_decide_eq_true h1
    have ok := blk_to g.sck (blkOk_by h2)
    have hi : PI X tg iter (wiD (cc X ga Z) H0 S0 G x i as) := pi_of g h8
    refine PS.imp (ps_setLc (te := tDx X ga (wE G noX el)) (tt := tCx X ga G c) (g := gDx X ga t) g.calm g.nd hN hl hsw hi ok (fun s H Ca cl fp => ?_) (fun s H Ca cl fp => ?_) (fun s H Ca cl fp => ?_) (notSet_fold h7)) fun D σ H q => ?_
    · exact PG.ex fun Z' => soundG (g.blk ok.kind s H Ca cl fp Z' H0 S0) t h3
    · refine pts_of (X := X.blk s H scope (compEnvC scope cl Ca X.env) fp) (sc := scope) (of_decide_eq_true h6) h4 fun m' hc e' he Z' H0' S0' => ?_
      exact (soundQs c (g.blk ok.kind s H Ca cl fp Z' H0' S0') h4 0 m' e' (by rw [hc]; rfl) (by rw [he]; rfl)).2
    · exact PE.ex fun Z' => PE.ex fun H0' => PE.ex fun S0' => (soundE el (g.blk ok.kind s H Ca cl fp Z' H0' S0') h5).1
    · have eo : (((slots t).map fun i => (X.N.getD i "", i)).map (·.2)) = slots t := by
        rw [List.map_map]; exact List.map_id _
      rw [eo]
      exact lc_imp q
  | [], h, _ => cases h
  | ⟨_, _, _, _⟩ :: _ :: _, h, _ => cases h
/-- target = value -/
theorem asg_s {sc : Scope} (g : Gd X sc ga Z H0 S0 G x) {t : MT} {e : ME} {tg v : Expr} {pos : Pos} (h1 : matchT X.N sc t tg = true) (h2 : matchE X.N sc e v = true) (h3 : (notLc v && (notTup tg || notTup v) || nmB sc e v tg) = true) : PS X (.Assign [tg] v pos) (tDS (cc X ga Z) H0 S0 (wS G x (.asg t e))) := by
  rcases Bool.or_eq_true_iff.mp h3 with q | q
  · obtain ⟨q1, q2⟩ := and2 q
    have hl : notLst tg = true ∧ (assignEach [tg] X.env).map (·.2) = [assign tg X.env] := by
      cases tg with
      | List a b => cases t <;> (unfold matchT at h1; cases h1)
      | Starred a b => cases t <;> (unfold matchT at h1; cases h1)
      | _ => exact ⟨rfl, rfl⟩
    exact PS.imp (ps_asg (soundE e g h2).1 (soundG g t h1) (swap_sole q1) (swapped_none q2 hl.1) hl.2) fun D σ H q => asg_imp q
  · clear h3
    cases tg with
    | Name y py =>
      have q : (swB sc y py v && isLc e || celB sc y v) = true := q
      cases t with
      | tp ts => unfold matchT at h1; cases h1
      | nm i =>
        unfold matchT at h1
        obtain ⟨h1, hloc⟩ := and2 h1
        have hN := of_decide_eq_true h1
        have imp : ∀ D σ H, tDS (cc X ga Z) H0 S0 (wS G x (.asg (.nm i) e)) D σ H → tAsg (tD (cc X ga Z) H0 S0 (wE G x e)) (gName i) D σ H := fun D σ H q => by
          obtain ⟨σd, S, rs, rp, ex, w⟩ := q
          unfold wS at w
          refine ⟨σd, S, rs, rp, ex, wE_mono (fun d S1 q H1 v rp1 e1 r1 => ?_) e σd S w⟩
          obtain ⟨σ', h1, h2⟩ := q
          unfold asgT at h1
          cases h1
          exact h2 _ H1 ((rs.ext e1).set i r1) rp1 e1
        rcases Bool.or_eq_true_iff.mp q with q | q
        · obtain ⟨q1, q2⟩ := and2 q
          cases v with
          | ListComp elt gens scope pos' =>
            obtain ⟨q3, q4⟩ := and2 q1
            obtain ⟨q4, q5⟩ := and2 q4
            have hl : X.env.scope.names.lookup y = some .local := by
              unfold lcalB at q3
              cases e1 : sc.names.lookup y with
              | none => rw [e1] at q3; cases q3
              | some k =>
                obtain ⟨k', h3, h4⟩ := g.sck.look y k e1
                rw [e1] at q3
                cases k with
                | «local» =>
                  rcases h4 with rfl | ⟨z, _⟩
                  · exact h3
                  · cases z
                | _ => cases q3
            cases e with
            | lc i' m' t' as' c' el' => exact PS.imp (lc_s g hN hl (sw_true g.sck.kind hl q4 (by simpa using q5)) h2) imp
            | _ => cases q2
          | _ => cases q1
        · cases v with
          | ListComp elt gens scope pos' =>
            have hc : X.env.scope.names.lookup y = some .cell := by
              have q : (match sc.names.lookup y with
                | some .cell => true
                | _ => false) = true := q
              cases e1 : sc.names.lookup y with
              | none => rw [e1] at q; cases q
              | some k =>
                obtain ⟨k', h3, h4⟩ := g.sck.look y k e1
                rw [e1] at q
                cases k with
                | cell =>
                  rcases h4 with rfl | ⟨z, _⟩
                  · exact h3
                  · cases z
                | _ => cases q
            refine PS.imp (ps_set (i := i) g.nd hN (g.sck.loc hloc) (soundE e g h2).1 ?_ (g.fnl y hloc)) imp
            unfold swapsWith
            show (pure (X.env.blockKind == .function && X.env.kindOf y == some .local && py.line == (Expr.ListComp elt gens scope pos').pos.line && !(scope.names.any fun (n, k) => n == y && (k == .local || k == .cell))) : Sem Bool) = pure false
            have : X.env.kindOf y = some .cell := hc
            rw [this, show (some NameKind.cell == some NameKind.local) = false from rfl, Bool.and_false, Bool.false_and, Bool.false_and]
          | _ => cases q
    | _ => cases q
theorem lcal_to {sc : Scope} (g : Gd X sc ga Z H0 S0 G x) {y : Str} (q : lcalB sc y = true) : X.env.scope.names.lookup y = some .local := by
  unfold lcalB at q
  cases e1 : sc.names.lookup y with
  | none => rw [e1] at q; cases q
  | some k =>
    obtain ⟨k', h3, h4⟩ := g.sck.look y k e1
    rw [e1] at q
    cases k with
    | «local» =>
      rcases h4 with rfl | ⟨z, _⟩
      · exact h3
      · cases z
    | _ => cases q
theorem swapped_two {u w : Expr} {y z : Str} {py pz pt pt2 : Pos} {kt k2 : Nat} {env : PySem.Env} (hk : env.scope.kind = .function) (hy : env.scope.names.lookup y = some .local) (hz : env.scope.names.lookup z = some .local) (hne : y ≠ z) (hl : (pz.line == py.line) = true) (su : notStar u = true) (sw : notStar w = true) (hf : [u, w].all (foldedForSure 8) = false) (hc : [u, w].all (constantsAlone 8) = false) :
    swappedStores [.Tuple [.Name y py, .Name z pz] kt pt] (.Tuple [u, w] k2 pt2) env = pure (some [y, z]) := by
  have hb : (env.blockKind != .function) = false := by
    unfold Env.blockKind
    rw [hk]; rfl
  have ky : (env.kindOf y == some .local) = true := by
    rw [show env.kindOf y = env.scope.names.lookup y from rfl, hy]; rfl
  have kz : (env.kindOf z == some .local) = true := by
    rw [show env.kindOf z = env.scope.names.lookup z from rfl, hz]; rfl
  have hy1 : ((py.line : Nat) == py.line) = true := beq_self_eq_true _
  have hd : ([y, z].eraseDups.length != [y, z].length) = false := by
    have : (z == y) = false := by simpa using fun e : z = y => hne e.symm
    simp [List.eraseDups_cons, this]
  unfold swappedStores
  simp only [List.filterMap_cons, List.filterMap_nil, List.head?_cons, Option.map_some, Option.getD_some, Expr.pos, ky, kz, hl, hy1, Bool.and_self, if_true, hd, hf, hc]
  refine (if_neg ?_).trans ((if_neg ?_).trans ?_)
  · intro h
    rw [hb] at h
    cases h
  · intro h
    have h : (_ || (_ || false)) = true := h
    rcases Bool.or_eq_true_iff.mp h with h | h
    · cases u <;> first | (cases su; done) | (cases h; done)
    · rcases Bool.or_eq_true_iff.mp h with h | h
      · cases w <;> first | (cases sw; done) | (cases h; done)
      · cases h
  · rfl
theorem par_s {sc : Scope} (g : Gd X sc ga Z H0 S0 G x) {t : MT} {e : ME} {tg v : Expr} {pos : Pos} (h1 : matchT X.N sc t tg = true) (h2 : matchE X.N sc e v = true) (h3 : parB sc t e tg v = true) : PS X (.Assign [tg] v pos) (tDS (cc X ga Z) H0 S0 (wS G x (.asg t e))) := by
  unfold parB at h3
  split at h3
  · rename_i i j ea eb y py z pz kt pt u w k2 pt2
    obtain ⟨a1, h3⟩ := and2 h3
    obtain ⟨a2, h3⟩ := and2 h3
    obtain ⟨a3, h3⟩ := and2 h3
    obtain ⟨a4, h3⟩ := and2 h3
    obtain ⟨a5, h3⟩ := and2 h3
    obtain ⟨a6, h3⟩ := and2 h3
    obtain ⟨a7, a8⟩ := and2 h3
    have ly := lcal_to g a1
    have lz := lcal_to g a2
    have hne : y ≠ z := of_decide_eq_true a3
    unfold matchE at h2
    have h1 : (matchT X.N sc (.nm i) (.Name y py) && (matchT X.N sc (.nm j) (.Name z pz) && true)) = true := by
      simpa only [matchT, matchTs] using h1
    obtain ⟨b1, b2⟩ := and2 h1
    obtain ⟨b2, -⟩ := and2 b2
    unfold matchT at b1 b2
    have hi := of_decide_eq_true (and2 b1).1
    have hj := of_decide_eq_true (and2 b2).1
    have hij : i ≠ j := fun e => hne (by rw [e, hj] at hi; injection hi with hi; exact hi.symm)
    have hw := swapped_two (kt := kt) (k2 := k2) (pt := pt) (pt2 := pt2) g.sck.kind ly lz hne a4 a5 a6 (by
      cases h : [u, w].all (foldedForSure 8) with
      | false => rfl
      | true => rw [h] at a7; cases a7) (by
      cases h : [u, w].all (constantsAlone 8) with
      | false => rfl
      | true => rw [h] at a8; cases a8)
    refine PS.imp (ps_par g.calm g.nd hi hj hij ly lz (soundEs [ea, eb] g h2) hw rfl) fun D σ H q => ?_
    obtain ⟨σd, S, rs, rp, ex, w⟩ := q
    unfold wS at w
    unfold wE at w
    refine ⟨σd, S, rs, rp, ex, wEs_mono (fun ds S1 q H1 vs rp1 e1 r1 => ?_) [ea, eb] σd S w⟩
    obtain ⟨_, σ', q1, q2⟩ := q
    match ds, q1, r1 with
    | [], q1, _ => cases q1
    | [_], q1, _ => cases q1
    | _ :: _ :: _ :: _, q1, _ => cases q1
    | [d1, d2], q1, r1 =>
      unfold RelDs at r1
      obtain ⟨v1, r, rfl, k1, r1⟩ := r1
      unfold RelDs at r1
      obtain ⟨v2, r, rfl, k2, r1⟩ := r1
      unfold RelDs at r1
      subst r1
      have q1 : some ((σd.set i (some d1)).set j (some d2)) = some σ' := q1
      cases q1
      exact ⟨v1, v2, rfl, q2 _ H1 (((rs.ext e1).set i k1).set j k2) rp1 e1⟩
  · cases h3
theorem asg_sub {o i : Expr} {pos : Pos} {env : PySem.Env} (h : notSl i = true) : ∀ v, assign (.Subscript o i pos) env v = (do
      let ov ← holding [v] (eval o env)
      let iv ← holding [v, ov] (eval i env)
      standAt pos
      holding [v, ov, iv] (setItem ov iv v)
      release [v, ov, iv] []) := fun v => by
  cases i with
  | Slice a b c d => cases h
  | _ => rfl
/-- a[i] = v by data -/
def rSix (C : Cc) : V → V → V → Hp → (Hp → Prop) → Prop := fun o i v H Q => ∃ u j d S S', Rp C H S ∧ RelD C H S u o ∧ RelD C H S j i ∧ RelD C H S d v ∧ sixR u j d S = some S' ∧ ∀ H', Rp C H' S' → Ext H S H' S' → Q H'
theorem setOk (hu : X.A.units + 64 < cLine) : PSet X (rSix (cc X ga Z)) := by
  intro pins s σ H o i v ov iv u Q I ro ri rv h
  obtain ⟨ud, jd, d, S, S', rp, r1, r2, r3, hs, q⟩ := h
  unfold sixR at hs
  split at hs
  · rename_i a
    unfold RelD at r1
    subst r1
    split at hs
    · rename_i ds hS
      split at hs
      · rename_i k
        split at hs
        · rename_i n hn
          cases hs
          cases rel_int r2
          obtain ⟨ob, h5, h6⟩ := rp.obj a _ hS
          obtain ⟨vs, rfl, r⟩ := h6
          have eS := Ext.set (H := H) (S := S) (p := a) (o := .lst (vs.set n v)) (m := .lst (ds.set n d)) hS
          exact set_list pins s σ H _ _ v ov iv u Q I ro ri rv ⟨a, vs, k, n, rfl, rfl, h5, by rw [r.len]; exact hn, q _ (rp.set hS ⟨_, rfl, (r.set n r3).ext eS⟩) eS⟩
        · cases hs
      · cases hs
    · rename_i kvs hS
      split at hs
      · rename_i k hk
        obtain ⟨c, rfl⟩ := g?_some hs
        obtain ⟨ob, h5, h6⟩ := rp.obj a _ hS
        obtain ⟨l, rfl, r⟩ := h6
        cases keyOf_rel r2 hk
        have eS := Ext.set (H := H) (S := S) (p := a) (o := .dK (putK l k v)) (m := .dct (gp kvs k d)) hS
        cases (show ov = Value.ref a from ro)
        exact d_setItem (by omega) I (DPut.k h5 (by rw [r.len]; exact c)) ri rv fun s' I' => ⟨_, I', q _ (rp.set hS ⟨_, rfl, (r.put k r3).ext eS⟩) eS⟩
      · cases hs
    · rename_i kvs hS
      split at hs
      · rename_i k hk
        obtain ⟨c, rfl⟩ := g?_some hs
        obtain ⟨ob, h5, h6⟩ := rp.obj a _ hS
        obtain ⟨l, rfl, r⟩ := h6
        obtain ⟨b, rfl, hb⟩ := keyT_rel r2 hk
        have eS := Ext.set (H := H) (S := S) (p := a) (o := .dT (putK l k v)) (m := .dcT (gp kvs k d)) hS
        cases (show ov = Value.ref a from ro)
        exact d_setItem (by omega) I (DPut.t h5 hb (by rw [r.len]; exact c)) ri rv fun s' I' => ⟨_, I', q _ (rp.set hS ⟨_, rfl, (r.put k r3).ext eS⟩) eS⟩
      · cases hs
    · cases hs
  · cases hs
theorem six_s {sc : Scope} (g : Gd X sc ga Z H0 S0 G x) {o i e : ME} {o' i' v : Expr} {pos pos' : Pos} (h1 : notSl i' = true) (h2 : true = true) (ho : matchE X.N sc o o' = true) (hi : matchE X.N sc i i' = true) (he : matchE X.N sc e v = true) :
    PS X (.Assign [.Subscript o' i' pos'] v pos) (tDS (cc X ga Z) H0 S0 (wS G x (.six o i e))) := by
  refine PS.imp (ps_asg (soundE e g he).1 (pg_sub (soundE o g ho).1 (soundE i g hi).1 (setOk (ga := ga) (Z := Z) g.room) (asg_sub h1)) su_swap rfl rfl) fun D σ H q => ?_
  obtain ⟨σd, S, rs, rp, ex, w⟩ := q
  unfold wS at w
  refine ⟨σd, S, rs, rp, ex, wE_mono (fun d S1 q H1 v rp1 e1 r1 => ⟨σd, S1, rs.ext e1, rp1, ex.trans e1, wE_mono (fun u S2 q H2 w2 rp2 e2 r2 => ⟨σd, S2, rs.ext (e1.trans e2), rp2, ex.trans (e1.trans e2), wE_mono (fun j S3 q H3 w3 rp3 e3 r3 => ?_) i σd S2 q⟩) o σd S1 q⟩) e σd S w⟩
  obtain ⟨S', h3, h4⟩ := q
  have e123 := (e1.trans e2).trans e3
  exact ⟨u, j, d, S3, S', rp3, r2.ext e3, r3, r1.ext (e2.trans e3), h3, fun H' rp' e' => h4 σ H' (rs.ext (e123.trans e')) rp' (e123.trans e')⟩
theorem augOk (op : Operator) : InOp X op fun v y H Q => ∃ i u w d S, v = .int i ∧ u = .int i ∧ Rp (cc X ga Z) H S ∧ RelD (cc X ga Z) H S w y ∧ augR op u w = some d ∧ ∀ z, RelD (cc X ga Z) H S d z → Q z H := by
  intro pins s σ H x y u v Q I rx ry h
  obtain ⟨i, ud, w, d, S, rfl, rfl, rp, rw', ha, k⟩ := h
  unfold augR at ha
  split at ha
  · rename_i i' j e
    cases e; cases ha; cases rel_int rw'
    exact in_add pins s σ H _ _ u v Q I rx ry ⟨i, j, rfl, rfl, k _ mk_int⟩
  · rename_i i' j e
    cases e; cases ha; cases rel_int rw'
    exact in_sub pins s σ H _ _ u v Q I rx ry ⟨i, j, rfl, rfl, k _ mk_int⟩
  · cases ha
theorem sat_s {sc : Scope} (g : Gd X sc ga Z H0 S0 G x) {o e : ME} {f : Str} {o' v : Expr} {pos pos' : Pos} (h2 : true = true) (ho : matchE X.N sc o o' = true) (he : matchE X.N sc e v = true) :
    PS X (.Assign [.Attribute o' f pos'] v pos) (tDS (cc X ga Z) H0 S0 (wS G x (.sat o f e))) := by
  refine PS.imp (ps_fld (soundE o g ho).1 (soundE e g he).1 at_swap) fun D σ H q => ?_
  obtain ⟨σd, S, rs, rp, ex, w⟩ := q
  unfold wS at w
  refine ⟨σd, S, rs, rp, ex, wE_mono (fun d S1 q H1 v rp1 e1 r1 => ⟨σd, S1, rs.ext e1, rp1, ex.trans e1, wE_mono (fun u S2 q H2 w2 rp2 e2 r2 => ?_) o σd S1 q⟩) e σd S w⟩
  obtain ⟨a, c, fs, rfl, hS, hf, hl, hk⟩ := q
  unfold RelD at r2
  subst r2
  obtain ⟨ob, h5, h6⟩ := rp2.obj a _ hS
  obtain ⟨dx, l, rfl, r⟩ := h6
  have eS := Ext.set (H := H2) (S := S2) (p := a) (o := .ins (ga c) dx (putF f v l)) (m := .ins c (pf f d fs)) hS
  have e12 := e1.trans e2
  exact ⟨a, ga c, dx, l, rfl, h5, (g.flds c f hf).1, (g.flds c f hf).2, by rw [r.len]; exact hl, hk σ _ (rs.ext (e12.trans eS)) (rp2.set hS ⟨dx, _, rfl, (RelF.put (r1.ext e2) r).ext eS⟩) (e12.trans eS)⟩
theorem aga_s {sc : Scope} (g : Gd X sc ga Z H0 S0 G x) {o e : ME} {f : Str} {op : Operator} {o' v : Expr} {pos pos' : Pos} (ho : matchE X.N sc o o' = true) (he : matchE X.N sc e v = true) :
    PS X (.AugAssign (.Attribute o' f pos') op v pos) (tDS (cc X ga Z) H0 S0 (wS G x (.aga o f op e))) := by
  refine PS.imp (ps_fldaug (soundE o g ho).1 (soundE e g he).1 (augOk (ga := ga) (Z := Z) op)) fun D σ H q => ?_
  obtain ⟨σd, S, rs, rp, ex, w⟩ := q
  unfold wS at w
  refine ⟨σd, S, rs, rp, ex, wE_mono (fun u S1 q H1 w1 rp1 e1 r1 => ?_) o σd S w⟩
  obtain ⟨a, c, fs, i, rfl, hS, hf, hl, q⟩ := q
  unfold RelD at r1
  subst r1
  obtain ⟨ob, h5, h6⟩ := rp1.obj a _ hS
  obtain ⟨dx, l, rfl, r⟩ := h6
  obtain ⟨vi, h7, h8⟩ := r.some hl
  cases rel_int h8
  refine ⟨a, ga c, dx, l, _, rfl, h5, (g.flds c f hf).1, (g.flds c f hf).2, h7, σd, S1, rs.ext e1, rp1, ex.trans e1, wE_mono (fun y S2 q H2 w2 rp2 e2 r2 => ?_) e σd S1 q⟩
  obtain ⟨d, fs', h9, hS2, hl2, hk⟩ := q
  refine ⟨i, .int i, y, d, S2, rfl, rfl, rp2, r2, h9, fun z rz => ?_⟩
  obtain ⟨ob, h10, h11⟩ := rp2.obj a _ hS2
  obtain ⟨dx', l', rfl, r'⟩ := h11
  have eS := Ext.set (H := H2) (S := S2) (p := a) (o := .ins (ga c) dx' (putF f z l')) (m := .ins c (pf f d fs')) hS2
  have e12 := e1.trans e2
  exact ⟨dx', l', h10, by rw [r'.len]; exact hl2, hk σ _ (rs.ext (e12.trans eS)) (rp2.set hS2 ⟨dx', _, rfl, (RelF.put rz r').ext eS⟩) (e12.trans eS)⟩
theorem aug_sub {i : Expr} (h : notSl i = true) : ∀ ov iv new, augStore i ov iv new = (do holding [new, ov, iv] (setItem ov iv new); release [new, ov, iv] []; pure .next) := fun ov iv new => by
  cases i with
  | Slice a b c d => cases h
  | _ => rfl
theorem ags_s {sc : Scope} (g : Gd X sc ga Z H0 S0 G x) {o i e : ME} {op : Operator} {o' i' v : Expr} {pos pos' : Pos} (h1 : notSl i' = true) (ho : matchE X.N sc o o' = true) (hi : matchE X.N sc i i' = true) (he : matchE X.N sc e v = true) :
    PS X (.AugAssign (.Subscript o' i' pos') op v pos) (tDS (cc X ga Z) H0 S0 (wS G x (.ags o i op e))) := by
  have hu := g.room
  refine PS.imp (ps_daug (by omega) (soundE o g ho).1 (soundE i g hi).1 (soundE e g he).1 (augOk (ga := ga) (Z := Z) op) (aug_sub h1)) fun D σ H q => ?_
  obtain ⟨σd, S, rs, rp, ex, w⟩ := q
  unfold wS at w
  refine ⟨σd, S, rs, rp, ex, wE_mono (fun u S1 q H1 w1 rp1 e1 r1 => ⟨σd, S1, rs.ext e1, rp1, ex.trans e1, wE_mono (fun j S2 q H2 w2 rp2 e2 r2 => ?_) i σd S1 q⟩) o σd S w⟩
  obtain ⟨a, kvs, key, v0, rfl, hS, hk, hv, q⟩ := q
  unfold RelD at r1
  subst r1
  obtain ⟨ob, h5, h6⟩ := rp2.obj a _ hS
  obtain ⟨l, rfl, r⟩ := h6
  obtain ⟨vv, h7, h8⟩ := r.some hv
  cases keyOf_rel r2 hk
  have e12 := e1.trans e2
  refine ⟨a, vv, rfl, by rw [← h7]; exact DGet.k h5, σd, S2, rs.ext e12, rp2, ex.trans e12, wE_mono (fun y S3 q H3 w3 rp3 e3 r3 => ?_) e σd S2 q⟩
  obtain ⟨d, kvs', h9, hS2, hl2, hq⟩ := q
  have hi : ∃ n, v0 = .int n := by
    unfold augR at h9
    split at h9
    · exact ⟨_, rfl⟩
    · exact ⟨_, rfl⟩
    · cases h9
  obtain ⟨n, rfl⟩ := hi
  cases rel_int h8
  refine ⟨n, .int n, y, d, S3, rfl, rfl, rp3, r3, h9, fun z rz => ?_⟩
  obtain ⟨ob, h10, h11⟩ := rp3.obj a _ hS2
  obtain ⟨l', rfl, r'⟩ := h11
  have eS := Ext.set (H := H3) (S := S3) (p := a) (o := .dK (putK l' key z)) (m := .dct (gp kvs' key d)) hS2
  have e123 := e12.trans e3
  exact ⟨_, DPut.k h10 (by rw [r'.len]; exact hl2), hq σ _ (rs.ext (e123.trans eS)) (rp3.set hS2 ⟨_, rfl, (r'.put key rz).ext eS⟩) (e123.trans eS)⟩
/-- raise C(e, ..) -/
theorem rai_s {sc : Scope} (g : Gd X sc ga Z H0 S0 G x) (tp : Tp X) {c : Str} {es : List ME} {e : Expr} {as : List Expr} {p pos pos' : Pos} (hg : gloB sc c = true) (hd : dbgB c = true) (hfew : as.length < 20) (hm : matchEs X.N sc es (e :: as) = true) :
    PS X (.Raise (some (.Call (.Name c p) (e :: as) [] pos)) none pos') (tDS (cc X ga Z) H0 S0 (wS G x (.rai c es))) := by
  have hdb : (c == ("__debug__" : Str)) = false := by
    have := (and2 (and2 hd).1).1
    simpa using this
  have hs : starEach (e :: as) X.env = (false, eval e X.env) :: starEach as X.env ∧ (backTo pos (starEach as X.env)).any (·.1) = false := by
    cases es with
    | nil => unfold matchEs at hm; cases hm
    | cons m ms =>
      unfold matchEs at hm
      obtain ⟨h1, h2⟩ := and2 hm
      exact ⟨starEach_cons h1, (star_all (and2 h2).2).1⟩
  by_cases hx : ∃ F, G.exc c = some (es.length, F)
  · obtain ⟨F, hx⟩ := hx
    obtain ⟨fI, fd, k, ps, F', hmg, T, iC, tI, FI, hr, hb, hF⟩ := (g.excs c _ F hx).ex
    refine PS.imp (L2N.ps_raise g.calm (takes_L g.tk tp.2) (pmk_oexN T iC tI FI hr hb .nil passes_no (g.sck.glo hg) hmg (soundEs es g hm) hdb hs.1 hs.2)) fun D σ H q => ?_
    obtain ⟨σd, S, rs, rp, ex, w⟩ := q
    unfold wS at w
    obtain ⟨F2, h1, w⟩ := w
    rw [hx] at h1
    cases h1
    refine ⟨σd, S, rs, rp, ex, wEs_mono (fun ds S1 q H1 vs rp1 e1 r1 => ?_) es σd S (wEs_len es σd S _ w)⟩
    obtain ⟨hlen, q⟩ := q
    have hvl : vs.length = es.length := by rw [r1.len, hlen]
    refine ⟨?_, fun a ha => ⟨a, vs, by rw [List.append_nil], hvl, upd_same, fun dx hdx hne => ⟨rfl, dx, F' vs, upd_same, by rw [upd_ne hne, upd_same], ?_, ?_⟩⟩⟩
    · have := matchEs_len hm
      rw [List.length_cons] at this
      omega
    · rw [upd_ne hne] at hdx; exact hdx
    · have hdx' : H1 dx = none := by rw [upd_ne hne] at hdx; exact hdx
      have eH : upd (del (upd (upd (upd H1 a (exo a (ga c) none)) dx (exd dx (F' vs))) a (exo a (ga c) (some dx))) a) dx (.xd (F' vs)) = upd H1 dx (.xd (F' vs)) := by
        funext z
        by_cases h1 : z = dx
        · subst h1; rw [upd_same, upd_same]
        · rw [upd_ne h1, upd_ne h1]
          by_cases h2 : z = a
          · subst h2; rw [del_same, ha]
          · rw [del_ne h2, upd_ne h2, upd_ne h1, upd_ne h2]
      rw [eH]
      have eN := Ext.new (S := S1) (o := .xd (F' vs)) hdx'
      refine ⟨⟨c, F ds⟩, σd, S1, (rs.ext e1).ext eN, rp1.new hdx', (ex.trans e1).trans eN, ⟨rfl, dx, F' vs, rfl, upd_same, rp1.free hdx', fun f z hz => ?_⟩, q⟩
      obtain ⟨v, h3, h4⟩ := hF _ _ _ _ _ r1 f z hz
      exact ⟨v, h3, h4.ext eN⟩
  · refine ⟨fun pins s σ H D I w => ?_⟩
    obtain ⟨σd, S, rs, rp, ex, w⟩ := w
    unfold wS at w
    obtain ⟨F, h1, _⟩ := w
    exact absurd ⟨F, h1⟩ hx
theorem aug_s {sc : Scope} (g : Gd X sc ga Z H0 S0 G x) {i : Nat} {o : Operator} {e : ME} {y : Str} {v : Expr} {pos pos' : Pos} (hN : X.N[i]? = some y) (hl : locB sc y = true) (he : matchE X.N sc e v = true) :
    PS X (.AugAssign (.Name y pos') o v pos) (tDS (cc X ga Z) H0 S0 (wS G x (.aug i o e))) := by
  have hp : PIp X o fun a b H Q => ∃ u w d S, Rp (cc X ga Z) H S ∧ RelD (cc X ga Z) H S u a ∧ RelD (cc X ga Z) H S w b ∧ augR o u w = some d ∧ ∀ z, RelD (cc X ga Z) H S d z → Q z H := by
    intro pins s σ H a b va vb Q I ra rb q
    obtain ⟨u, w, d, S, rp, r1, r2, h, k⟩ := q
    unfold augR at h
    split at h
    · cases h; cases rel_int r1; cases rel_int r2
      exact ip_add pins s σ H _ _ va vb Q I ra rb ⟨_, _, rfl, rfl, k _ mk_int⟩
    · cases h; cases rel_int r1; cases rel_int r2
      exact ip_sub pins s σ H _ _ va vb Q I ra rb ⟨_, _, rfl, rfl, k _ mk_int⟩
    · cases h
  refine PS.imp (ps_aug (i := i) g.nd hN (g.sck.loc hl) (soundE e g he).1 hp (g.fnl y hl)) fun D σ H q => ?_
  obtain ⟨σd, S, rs, rp, ex, w⟩ := q
  unfold wS at w
  obtain ⟨u, hu, w⟩ := w
  obtain ⟨a, ha, ra⟩ := rs.2 i u hu
  refine ⟨a, ha, σd, S, rs, rp, ex, wE_mono (fun d S1 q H1 v rp1 e1 r1 => ?_) e σd S w⟩
  obtain ⟨z, h1, h2⟩ := q
  exact ⟨u, d, z, S1, rp1, ra.ext e1, r1, h1, fun zv rz => h2 _ H1 ((rs.ext e1).set i rz) rp1 e1⟩
end
mutual
theorem soundS : ∀ (m : MS) {X : Cx} {sc : Scope} {ga : Str → Addr} {Z : Addr → Prop} {H0 : Hp} {S0 : Sto} {G : Gc} {x : XW}, Gd X sc ga Z H0 S0 G x → Tp X → ∀ {st : Stmt}, matchS X.N sc m st = true → PS X st (tDS (cc X ga Z) H0 S0 (wS G x m))
  | .asg t e, X, sc, ga, Z, H0, S0, G, x, g, tp, st, h => by
    unfold matchS at h
    cases st with
    | Assign tgs v pos =>
      match tgs, h with
      | [tg], h =>
        obtain ⟨h1, h⟩ := and2 h
        obtain ⟨h2, h3⟩ := and2 h
        rcases Bool.or_eq_true_iff.mp h3 with h3 | h3
        · exact asg_s g h1 h2 h3
        · exact par_s g h1 h2 h3
      | [], h => cases h
      | _ :: _ :: _, h => cases h
    | _ => cases h
  | .six o i e, X, sc, ga, Z, H0, S0, G, x, g, tp, st, h => by
    unfold matchS at h
    cases st with
    | Assign tgs v pos =>
      match tgs, h with
      | [tg], h =>
        cases tg with
        | Subscript o' i' p =>
          obtain ⟨h1, h⟩ := and2 h
          obtain ⟨h2, h⟩ := and2 h
          obtain ⟨h3, h⟩ := and2 h
          obtain ⟨h4, h5⟩ := and2 h
          exact six_s g h1 h2 h4 h5 h3
        | _ => cases h
      | [], h => cases h
      | .Subscript _ _ _ :: _ :: _, h => cases h
      | a :: b :: c, h => cases a <;> cases h
    | _ => cases h
  | .aug i o e, X, sc, ga, Z, H0, S0, G, x, g, tp, st, h => by
    unfold matchS at h
    cases st with
    | AugAssign tg o' v pos =>
      cases tg with
      | Name y p =>
        obtain ⟨h1, h⟩ := and2 h
        obtain ⟨h2, h⟩ := and2 h
        obtain ⟨h3, h4⟩ := and2 h
        obtain rfl := of_decide_eq_true h3
        exact aug_s g (of_decide_eq_true h1) h2 h4
      | _ => cases h
    | _ => cases h
  | .exp e, X, sc, ga, Z, H0, S0, G, x, g, tp, st, h => by
    unfold matchS at h
    cases st with
    | Expr v pos =>
      obtain ⟨h1, h2⟩ := and2 h
      refine PS.imp (ps_expr (soundE e g h2).1 (notLc_swap h1)) fun D σ H q => ?_
      obtain ⟨σd, S, rs, rp, ex, w⟩ := q
      unfold wS at w
      exact ⟨σd, S, rs, rp, ex, wE_mono (fun d S1 q H1 v rp1 e1 r1 => q σ H1 (rs.ext e1) rp1 e1) e σd S w⟩
    | _ => cases h
  | .ret e, X, sc, ga, Z, H0, S0, G, x, g, tp, st, h => by
    unfold matchS at h
    cases st with
    | Return v pos =>
      cases v with
      | none => cases h
      | some v =>
        refine PS.imp (ps_ret (soundE e g h).1) fun D σ H q => ?_
        obtain ⟨σd, S, rs, rp, ex, w⟩ := q
        unfold wS at w
        exact ⟨σd, S, rs, rp, ex, w⟩
    | _ => cases h
  | .ite c a b, X, sc, ga, Z, H0, S0, G, x, g, tp, st, h => by
    unfold matchS at h
    cases st with
    | If c' a' b' pos =>
      obtain ⟨h1, h⟩ := and2 h
      obtain ⟨h2, h3⟩ := and2 h
      exact PS.imp (ps_if (soundE c g h1).2 (soundSs a g tp h2) (soundSs b g tp h3)) fun D σ H q => ite_imp q
    | _ => cases h
  | .for_ i t as b, X, sc, ga, Z, H0, S0, G, x, g, tp, st, h => by
    unfold matchS at h
    cases st with
    | For tg iter b' els pos =>
      cases els with
      | nil =>
        obtain ⟨h1, h⟩ := and2 h
        obtain ⟨h2, h⟩ := and2 h
        obtain ⟨h3, h4⟩ := and2 h
        exact PS.imp (ps_for (g.own tp.1) g.calm (pi_of g h4) (soundG g t h1) (soundSs b g tp h2) (notSet_fold h3)) fun D σ H q => for_imp q
      | cons e es => cases h
    | _ => cases h
  | .whl c b, X, sc, ga, Z, H0, S0, G, x, g, tp, st, h => by
    unfold matchS at h
    cases st with
    | While c' b' els pos =>
      cases els with
      | nil =>
        obtain ⟨h1, h2⟩ := and2 h
        exact PS.imp (ps_while (g.own tp.1) (soundE c g h1).2 (soundSs b g tp h2)) fun D σ H q => whl_imp q
      | cons e es => cases h
    | _ => cases h
  | .pas, X, sc, ga, Z, H0, S0, G, x, g, tp, st, h => by
    unfold matchS at h
    cases st with
    | Pass pos =>
      refine PS.imp ps_pass fun D σ H q => ?_
      obtain ⟨σd, S, rs, rp, ex, w⟩ := q
      unfold wS at w
      exact w σ H rs rp (Ext.refl _ _)
    | _ => cases h
  | .cont, X, sc, ga, Z, H0, S0, G, x, g, tp, st, h => by
    unfold matchS at h
    cases st with
    | Continue pos =>
      refine PS.imp ps_continue fun D σ H q => ?_
      obtain ⟨σd, S, rs, rp, ex, w⟩ := q
      unfold wS at w
      exact w σ H rs rp (Ext.refl _ _)
    | _ => cases h
  | .lck m, X, sc, ga, Z, H0, S0, G, x, g, tp, st, h => by
    unfold matchS at h
    refine PS.imp (ps_lock (soundS m g tp h)) fun D σ H q => ?_
    obtain ⟨σd, S, rs, rp, ex, w⟩ := q
    unfold wS at w
    obtain ⟨d, kvs, hS, w⟩ := w
    obtain ⟨o, h3, l, rfl, rk⟩ := rp.obj d _ hS
    refine ⟨d, .dK l, h3, trivial, fun od => ?_⟩
    have eS : Ext H S (upd H d (.frz od (.dK l))) (put S d (.ldc od l kvs)) := Ext.set hS
    have un : ∀ {H2 S2}, Rp (cc X ga Z) H2 S2 → Ext (upd H d (.frz od (.dK l))) (put S d (.ldc od l kvs)) H2 S2 → S2 d = some (.ldc od l kvs) → H2 d = some (.frz od (.dK l)) ∧ Rp (cc X ga Z) (upd H2 d (.dK l)) (put S2 d (.dct kvs)) ∧ Ext H S (upd H2 d (.dK l)) (put S2 d (.dct kvs)) ∧ Ext H2 S2 (upd H2 d (.dK l)) (put S2 d (.dct kvs)) := by
      intro H2 S2 rp2 e2 hS2
      obtain ⟨o2, h4, h5⟩ := rp2.obj d _ hS2
      obtain ⟨rfl, rk2⟩ := h5
      have eU : Ext H2 S2 (upd H2 d (.dK l)) (put S2 d (.dct kvs)) := Ext.set hS2
      exact ⟨h4, rp2.set hS2 ⟨l, rfl, rk2.ext eU⟩, (eS.trans e2).trans eU, eU⟩
    refine ⟨σd, _, rs.ext eS, rp.set hS ⟨rfl, rk.ext eS⟩, ex.trans eS, wS_monoX (fun _ _ _ z => z.elim) ?_ m σd _ (w od l)⟩
    refine ⟨fun σ2 S2 z σ' H2 rs2 rp2 e2 => ?_, fun dd S2 z H2 v rp2 e2 r2 => ?_, fun σ2 S2 z σ' H2 rs2 rp2 e2 => ?_, fun σ2 S2 z σ' H2 rs2 rp2 e2 => ?_⟩
    · obtain ⟨u1, u2, u3, u4⟩ := un rp2 e2 z.1
      exact ⟨u1, z.2 _ _ (rs2.ext u4) u2 u3⟩
    · obtain ⟨u1, u2, u3, u4⟩ := un rp2 e2 z.1
      exact ⟨u1, z.2 _ _ u2 u3 (r2.ext u4)⟩
    · obtain ⟨u1, u2, u3, u4⟩ := un rp2 e2 z.1
      exact ⟨u1, z.2 _ _ (rs2.ext u4) u2 u3⟩
    · obtain ⟨u1, u2, u3, u4⟩ := un rp2 e2 z.1
      exact ⟨u1, z.2 _ _ (rs2.ext u4) u2 u3⟩
  | .bad, X, sc, ga, Z, H0, S0, G, x, g, tp, st, h => by
    refine ⟨fun pins s σ H D I q => ?_⟩
    obtain ⟨σd, S, rs, rp, ex, w⟩ := q
    unfold wS at w
    exact w.elim
  | .sat o f e, X, sc, ga, Z, H0, S0, G, x, g, tp, st, h => by
    unfold matchS at h
    cases st with
    | Assign tgs v pos =>
      match tgs, h with
      | [], h => cases h
      | tg :: _ :: _, h => (cases tg <;> cases h)
      | [tg], h =>
        cases tg with
        | Attribute o' y p =>
          obtain ⟨h1, h⟩ := and2 h
          obtain ⟨h2, h⟩ := and2 h
          obtain ⟨h3, h4⟩ := and2 h
          obtain rfl := of_decide_eq_true h1
          exact sat_s g h2 h4 h3
        | _ => cases h
    | _ => cases h
  | .aga o f op e, X, sc, ga, Z, H0, S0, G, x, g, tp, st, h => by
    unfold matchS at h
    cases st with
    | AugAssign tg o' v pos =>
      cases tg with
      | Attribute o2 y p =>
        obtain ⟨h1, h⟩ := and2 h
        obtain ⟨h2, h⟩ := and2 h
        obtain ⟨h3, h4⟩ := and2 h
        obtain rfl := of_decide_eq_true h1
        obtain rfl := of_decide_eq_true h2
        exact aga_s g h4 h3
      | _ => cases h
    | _ => cases h
  | .ags o i op e, X, sc, ga, Z, H0, S0, G, x, g, tp, st, h => by
    unfold matchS at h
    cases st with
    | AugAssign tg o' v pos =>
      cases tg with
      | Subscript o2 i2 p =>
        obtain ⟨h1, h⟩ := and2 h
        obtain ⟨h2, h⟩ := and2 h
        obtain ⟨h3, h⟩ := and2 h
        obtain ⟨h4, h5⟩ := and2 h
        obtain rfl := of_decide_eq_true h2
        exact ags_s g h1 h4 h5 h3
      | _ => cases h
    | _ => cases h
  | .rai c es, X, sc, ga, Z, H0, S0, G, x, g, tp, st, h => by
    unfold matchS at h
    cases st with
    | Raise e ca pos =>
      cases e with
      | none => cases h
      | some e =>
        cases e with
        | Call fn as ks p2 =>
          cases fn with
          | Name y p =>
            cases ks with
            | nil =>
              cases ca with
              | none =>
                obtain ⟨h1, h⟩ := and2 h
                obtain ⟨h2, h⟩ := and2 h
                obtain ⟨h3, h⟩ := and2 h
                obtain ⟨h4, h⟩ := and2 h
                obtain ⟨h6, h5⟩ := and2 h
                obtain rfl := of_decide_eq_true h1
                obtain ⟨a, r, rfl⟩ := isEmpty_cons h4
                have h6 := of_decide_eq_true h6
                rw [List.length_cons] at h6
                exact rai_s g tp h2 h3 (by omega) h5
              | some _ => cases h
            | cons k ks => cases h
          | _ => cases h
        | _ => cases h
    | _ => cases h
  | .tri b c i q, X, sc, ga, Z, H0, S0, G, x, g, tp, st, h => by
    unfold matchS at h
    cases st with
    | Try body hs els fin pos =>
      cases hs with
      | nil => cases h
      | cons hd tl =>
        obtain ⟨ty, n, suite, p1⟩ := hd
        cases ty with
        | none => cases h
        | some e =>
          cases e with
          | Name y np =>
            cases tl with
            | cons _ _ => cases h
            | nil =>
              cases els with
              | cons _ _ => cases h
              | nil =>
                cases fin with
                | cons _ _ => cases h
                | nil =>
                  obtain ⟨h1, h⟩ := and2 h
                  obtain ⟨h2, h⟩ := and2 h
                  obtain ⟨h3, h⟩ := and2 h
                  obtain ⟨h4, h⟩ := and2 h
                  obtain ⟨h5, h⟩ := and2 h
                  obtain ⟨h6, h7⟩ := and2 h
                  obtain rfl := of_decide_eq_true h1
                  exact tri_s g tp h2 h3 h4 h5 h6 fun g' => soundSs b g' tp h7
          | _ => cases h
    | _ => cases h
  | .trh b c i o cl m, X, sc, ga, Z, H0, S0, G, x, g, tp, st, h => by
    unfold matchS at h
    split at h
    · obtain ⟨h1, h⟩ := and2 h
      obtain ⟨h2, h⟩ := and2 h
      obtain ⟨h3, h⟩ := and2 h
      obtain ⟨h4, h⟩ := and2 h
      obtain ⟨h5, h⟩ := and2 h
      obtain ⟨h6, h⟩ := and2 h
      obtain ⟨h7, h⟩ := and2 h
      obtain ⟨h8, h⟩ := and2 h
      obtain ⟨h9, h11⟩ := and2 h
      obtain ⟨h9, h10⟩ := and2 h9
      obtain rfl := of_decide_eq_true h1
      obtain rfl := of_decide_eq_true h4
      exact trh_s g tp h2 h3 h5 (of_decide_eq_true h6) h7 (of_decide_eq_true h8) h9 h10 fun g' => soundSs b g' tp h11
    · cases h
  | .drp _, X, sc, ga, Z, H0, S0, G, x, g, tp, st, h => by unfold matchS at h; cases h
  | .frS _, X, sc, ga, Z, H0, S0, G, x, g, tp, st, h => by unfold matchS at h; cases h
theorem soundSs : ∀ (ms : List MS) {X : Cx} {sc : Scope} {ga : Str → Addr} {Z : Addr → Prop} {H0 : Hp} {S0 : Sto} {G : Gc} {x : XW}, Gd X sc ga Z H0 S0 G x → Tp X → ∀ {sts : List Stmt}, matchSs X.N sc ms sts = true → PSs X sts (tDS (cc X ga Z) H0 S0 (wSs G x ms))
  | [], X, sc, ga, Z, H0, S0, G, x, g, tp, sts, h => by
    unfold matchSs at h
    cases sts with
    | cons a b => cases h
    | nil =>
      refine PSs.imp pss_nil fun D σ H q => ?_
      obtain ⟨σd, S, rs, rp, ex, w⟩ := q
      unfold wSs at w
      exact w σ H rs rp (Ext.refl _ _)
  | .drp i :: r, X, sc, ga, Z, H0, S0, G, x, g, tp, sts, h => by
    unfold matchSs at h
    refine PSs.imp (soundSs r g tp h) fun D σ H q => ?_
    obtain ⟨σd, S, rs, rp, ex, w⟩ := q
    unfold wSs wS at w
    obtain ⟨a, h1, w⟩ := w
    exact ⟨σd, _, rs.ext Ext.rm, rp.rm, ex.trans Ext.rm, wSs_mono (kS_ext Ext.rm) r σd _ w⟩
  | .frS i :: r, X, sc, ga, Z, H0, S0, G, x, g, tp, sts, h => by
    unfold matchSs at h
    refine PSs.imp (soundSs r g tp h) fun D σ H q => ?_
    obtain ⟨σd, S, rs, rp, ex, w⟩ := q
    unfold wSs wS at w
    obtain ⟨a, ds, h1, h2, w⟩ := w
    refine ⟨_, _, ?_, rp.rm, ex.trans Ext.rm, wSs_mono (kS_ext Ext.rm) r _ _ w⟩
    obtain ⟨v, hv, rv⟩ := rs.2 i _ h1
    unfold RelD at rv
    subst rv
    obtain ⟨o, h3, h4⟩ := rp.obj a _ h2
    obtain ⟨vs, rfl, rd⟩ := h4
    have rn : RelD (cc X ga Z) H (rm S a) (.lst ds) (.ref a) := by
      unfold RelD
      exact ⟨a, vs, rfl, ⟨h3, rm_same, fun z => by rw [(rp.z a z).2] at h2; cases h2⟩, rd.ext Ext.rm⟩
    have hs := (rs.ext (Ext.rm (H := H) (p := a))).set i rn
    have e : σ.set i (some (.ref a)) = σ := by
      refine List.ext_getElem? fun j => ?_
      rw [List.getElem?_set]
      split
      · rename_i q; subst q
        split
        · exact hv.symm
        · rename_i q; rw [List.getElem?_eq_none_iff.mpr (by omega)]
      · rfl
    rw [e] at hs
    exact hs
  | .asg t e :: r, X, sc, ga, Z, H0, S0, G, x, g, tp, sts, h => by
    unfold matchSs at h
    cases sts with
    | nil => cases h
    | cons st sts => exact seq_s (soundS (.asg t e) g tp (and2 h).1) (soundSs r g tp (and2 h).2)
  | .six o i e :: r, X, sc, ga, Z, H0, S0, G, x, g, tp, sts, h => by
    unfold matchSs at h
    cases sts with
    | nil => cases h
    | cons st sts => exact seq_s (soundS (.six o i e) g tp (and2 h).1) (soundSs r g tp (and2 h).2)
  | .aug i o e :: r, X, sc, ga, Z, H0, S0, G, x, g, tp, sts, h => by
    unfold matchSs at h
    cases sts with
    | nil => cases h
    | cons st sts => exact seq_s (soundS (.aug i o e) g tp (and2 h).1) (soundSs r g tp (and2 h).2)
  | .exp e :: r, X, sc, ga, Z, H0, S0, G, x, g, tp, sts, h => by
    unfold matchSs at h
    cases sts with
    | nil => cases h
    | cons st sts => exact seq_s (soundS (.exp e) g tp (and2 h).1) (soundSs r g tp (and2 h).2)
  | .ret e :: r, X, sc, ga, Z, H0, S0, G, x, g, tp, sts, h => by
    unfold matchSs at h
    cases sts with
    | nil => cases h
    | cons st sts => exact seq_s (soundS (.ret e) g tp (and2 h).1) (soundSs r g tp (and2 h).2)
  | .ite c a b :: r, X, sc, ga, Z, H0, S0, G, x, g, tp, sts, h => by
    unfold matchSs at h
    cases sts with
    | nil => cases h
    | cons st sts => exact seq_s (soundS (.ite c a b) g tp (and2 h).1) (soundSs r g tp (and2 h).2)
  | .for_ i t as b :: r, X, sc, ga, Z, H0, S0, G, x, g, tp, sts, h => by
    unfold matchSs at h
    cases sts with
    | nil => cases h
    | cons st sts => exact seq_s (soundS (.for_ i t as b) g tp (and2 h).1) (soundSs r g tp (and2 h).2)
  | .whl c b :: r, X, sc, ga, Z, H0, S0, G, x, g, tp, sts, h => by
    unfold matchSs at h
    cases sts with
    | nil => cases h
    | cons st sts => exact seq_s (soundS (.whl c b) g tp (and2 h).1) (soundSs r g tp (and2 h).2)
  | .pas :: r, X, sc, ga, Z, H0, S0, G, x, g, tp, sts, h => by
    unfold matchSs at h
    cases sts with
    | nil => cases h
    | cons st sts => exact seq_s (soundS .pas g tp (and2 h).1) (soundSs r g tp (and2 h).2)
  | .cont :: r, X, sc, ga, Z, H0, S0, G, x, g, tp, sts, h => by
    unfold matchSs at h
    cases sts with
    | nil => cases h
    | cons st sts => exact seq_s (soundS .cont g tp (and2 h).1) (soundSs r g tp (and2 h).2)
  | .sat o f e :: r, X, sc, ga, Z, H0, S0, G, x, g, tp, sts, h => by
    unfold matchSs at h
    cases sts with
    | nil => cases h
    | cons st sts => exact seq_s (soundS (.sat o f e) g tp (and2 h).1) (soundSs r g tp (and2 h).2)
  | .aga o f op e :: r, X, sc, ga, Z, H0, S0, G, x, g, tp, sts, h => by
    unfold matchSs at h
    cases sts with
    | nil => cases h
    | cons st sts => exact seq_s (soundS (.aga o f op e) g tp (and2 h).1) (soundSs r g tp (and2 h).2)
  | .ags o i op e :: r, X, sc, ga, Z, H0, S0, G, x, g, tp, sts, h => by
    unfold matchSs at h
    cases sts with
    | nil => cases h
    | cons st sts => exact seq_s (soundS (.ags o i op e) g tp (and2 h).1) (soundSs r g tp (and2 h).2)
  | .rai c es :: r, X, sc, ga, Z, H0, S0, G, x, g, tp, sts, h => by
    unfold matchSs at h
    cases sts with
    | nil => cases h
    | cons st sts => exact seq_s (soundS (.rai c es) g tp (and2 h).1) (soundSs r g tp (and2 h).2)
  | .tri b c i q :: r, X, sc, ga, Z, H0, S0, G, x, g, tp, sts, h => by
    unfold matchSs at h
    cases sts with
    | nil => cases h
    | cons st sts => exact seq_s (soundS (.tri b c i q) g tp (and2 h).1) (soundSs r g tp (and2 h).2)
  | .trh b c i o cl m :: r, X, sc, ga, Z, H0, S0, G, x, g, tp, sts, h => by
    unfold matchSs at h
    cases sts with
    | nil => cases h
    | cons st sts => exact seq_s (soundS (.trh b c i o cl m) g tp (and2 h).1) (soundSs r g tp (and2 h).2)
  | .lck m :: r, X, sc, ga, Z, H0, S0, G, x, g, tp, sts, h => by
    unfold matchSs at h
    cases sts with
    | nil => cases h
    | cons st sts => exact seq_s (soundS (.lck m) g tp (and2 h).1) (soundSs r g tp (and2 h).2)
  | .bad :: r, X, sc, ga, Z, H0, S0, G, x, g, tp, sts, h => by
    unfold matchSs at h
    cases sts with
    | nil => cases h
    | cons st sts => exact seq_s (soundS (.bad) g tp (and2 h).1) (soundSs r g tp (and2 h).2)
end
end Mn
namespace HotY
open PySem PySem.Spec PyProof.Rows PySem.W
section
variable {prog : Program} {w : World} {A : Around} {E : Value → Shared → Prop} {s : Shared} {κ : Type} [DecidableEq κ] {knd : KeyKind prog w κ}
/-- the handled exception's object -/
def XAt (x1 : Addr) (h : Heap) : Prop := ∃ (o : Obj) (vs : Array Value), h.get? x1 = some o ∧ o.data = .fields vs ∧ vs[2]? = some .none
theorem XAt.keep {x1 : Addr} {h h' : Heap} (x : XAt x1 h) (k : ∀ o, h.get? x1 = some o → h'.get? x1 = some o) : XAt x1 h' := by
  obtain ⟨o, vs, a, b, c⟩ := x
  exact ⟨o, vs, k o a, b, c⟩
theorem keys_end {it d x1 : Addr} {i ep : Nat} {kvs : List (κ × Value)} {Q : Option Value → Shared → Prop} (hh : A.handled = some (.ref x1)) (hx : XAt x1 s.heap) (hne : x1 ≠ it) (I : s.heap.IsKeyIter it d i kvs.length ep) (D : s.heap.DictAt knd d kvs ep) (no : kvs[i]? = none)
    (q : ∀ h', (∀ b o, b ≠ it → s.heap.get? b = some o → h'.get? b = some o) → Q none { s with heap := h' }) : wpAny (model prog w) A (pyNext (.ref it)) Q E s := by
  obtain ⟨oi, gi, ci, di⟩ := id I
  obtain ⟨od, es, gd, cd, dd, kd, pd, nd⟩ := id D
  obtain ⟨o1, vs1, g1, d1, c1⟩ := hx
  unfold pyNext
  refine wpAny_bind (wpAny_attempt (wpAny_callSpecial?_slot (name := Str.ofString "__next__") I.typeIs F.slot_dict_keyiterator_next (wpAny_call_entry F.slot_dict_keyiterator_next I.typeIs F.entry_dict_keyiterator_next ?_ (F.args_dict_keyiterator_next_1 _))))
  refine wpAny_bind (wpAny_pure ?_); refine wpAny_bind ?_; refine wpAny_bind ?_
  first | refine wpAny_bind (wpAny_typeNameOfWhole_keyiter I.typeIs (wpAny_pure ?_)) | refine wpAny_bind (wpAny_typeNameOf_keyiter I.typeIs (wpAny_pure ?_))
  refine wpAny_bind (wpAny_fieldsOf gi di ?_)
  have own : Builtin.Dict_items.ownsTuple "dict_keyiterator" = false := by decide
  simp only [own, Bool.false_eq_true, if_false]
  show wpAny _ _ (if (Value.ref d == Value.none) = true then _ else _) _ _ s; rw [if_neg (show ¬ ((Value.ref d == Value.none) = true) from Bool.false_ne_true)]
  refine wpAny_bind (wpAny_pure ?_); refine wpAny_bind (wpAny_dictEntries gd dd ?_)
  have z : es.size = kvs.length := by rw [← pd.length]; simp
  rw [if_neg (by rw [z]; simp)]
  refine wpAny_bind (wpAny_pure ?_); refine wpAny_bind (wpAny_dictEpoch gd dd ?_); rw [if_neg (by simp)]
  refine wpAny_pure ?_
  have ge : es.size ≤ i := by rw [z]; simpa using no
  simp only [show ¬ ((i : Int) < 0) from by omega, if_false, Int.toNat_natCast, Array.getElem?_eq_none ge]
  refine wpAny_bind ?_
  first | refine wpAny_bind (wpAny_typeNameOfWhole_keyiter I.typeIs (wpAny_pure ?_)) | refine wpAny_bind (wpAny_typeNameOf_keyiter I.typeIs (wpAny_pure ?_))
  show wpAny _ _ (setField (.ref it) 0 .none >>= _) _ _ s; refine wpAny_bind (wpAny_setField gi di (by simp) ?_)
  show wpAny _ _ (newExc (.type "StopIteration") [] >>= _) _ _ _; refine wpAny_bind ?_
  simp only [newExc, newTuple]
  have u1 : (s.heap.update it (Obj.mapFields (·.setIfInBounds 0 Value.none))).get? x1 = some o1 := (Heap.get?_update_other _ _ (Ne.symm hne)).trans g1
  have uo : ∀ b o, b ≠ it → s.heap.get? b = some o → (s.heap.update it (Obj.mapFields (·.setIfInBounds 0 Value.none))).get? b = some o := fun b o hb e => (Heap.get?_update_other _ _ (Ne.symm hb)).trans e
  generalize s.heap.update it (Obj.mapFields (·.setIfInBounds 0 Value.none)) = h1 at u1 uo ⊢
  refine wpAny_bind (wpAny_newObj_type ?_ (by size_fits)); refine wpAny_bind (m := firstArgMember _ _) (wpAny_of_eq (a := Value.none) (by first | rfl | (simp only [firstArgMember]; rfl)) ?_); refine wpAny_newObj_type ?_ (by size_fits)
  refine HotX.raiseNew_hot ⟨hh, o1, vs1, Heap.get?_push_of_some _ (Heap.get?_push_of_some _ u1), d1, c1⟩ (Nat.ne_of_lt (Heap.lt_size (Heap.get?_push_of_some _ u1))) (Heap.get?_push_size _ rfl) rfl (by first | (simp; done) | (simp; omega) | (simp only [Array.size_append]; simp; omega)) ?_
  refine wpAny_bind (wpAny_isInstance (T := "StopIteration") (b := true) ⟨_, Heap.get?_update_self _ (Heap.get?_push_size _ rfl) rfl, rfl⟩ isSubtype_stop ?_); refine wpAny_pure (q _ fun b o hb e => ?_)
  have e := uo b o hb e
  rw [Heap.get?_update_other _ _ (Nat.ne_of_gt (Heap.lt_size (Heap.get?_push_of_some _ e)))]; exact Heap.get?_push_of_some _ (Heap.get?_push_of_some _ e)
theorem keysWalk {x1 : Addr} (hh : A.handled = some (.ref x1)) (it d : Addr) (hd : d ≠ it) (hx : x1 ≠ it) (kvs : List (κ × Value)) (ep : Nat) :
    Walks prog w A it [it, d, x1] [it] kvs.length (fun i v => ∃ k x, kvs[i]? = some (k, x) ∧ knd.is k v = true) (fun i h => h.IsKeyIter it d i kvs.length ep ∧ h.DictAt knd d kvs ep ∧ XAt x1 h) where
  sub := fun b hb => by simp at hb; simp [hb]
  frame := fun _ _ _ y hk => ⟨y.1.at fun o e => hk it (by simp) o e, y.2.1.at' fun o e => hk d (by simp) o e, y.2.2.keep fun o e => hk x1 (by simp) o e⟩
  item := fun i s Q E hi y hQ => by
    obtain ⟨⟨k, x⟩, hkx⟩ : ∃ p, kvs[i]? = some p := ⟨kvs[i], by simp [hi]⟩
    refine wpAny_pyNext_dict_item y.1 y.2.1 hkx fun key h' hkey hit' hs' => ?_
    exact hQ key h' s.toks ⟨k, x, hkx, hkey⟩ ⟨hit', y.2.1.extBut hs'.extBut hd, y.2.2.keep fun o e => hs'.extBut x1 o hx e⟩ fun b o hb e => hs'.extBut b o (fun z => hb (by simp [z])) e
  done := fun s Q E y hQ => keys_end hh y.2.2 hx y.1 y.2.1 (by simp) fun h' he' => hQ h' s.toks fun b o hb e => he' b o (fun z => hb (by simp [z])) e
  self := fun _ _ _ _ y hQ => wpAny_pyIter_keyiter y.1 hQ
/-- collect(d) -/
theorem collects {R : List Value → Shared → Prop} {d x1 : Addr} {kvs : List (κ × Value)} {ep : Nat} (hh : A.handled = some (.ref x1)) (lo : (d == sysModules) = false) (D : s.heap.DictAt knd d kvs ep) (hx : XAt x1 s.heap) (hn : kvs.length ≤ sizeLine)
    (q : ∀ (h' : Heap) (tk : Nat) (acc : Array Value), (∀ b o, s.heap.get? b = some o → h'.get? b = some o) → ItemsOf (fun i v => ∃ k x, kvs[i]? = some (k, x) ∧ knd.is k v = true) acc kvs.length → R acc.toList { s with heap := h', toks := tk }) : wpAny (model prog w) A (collect (.ref d)) R E s := by
  have dlt := D.lt_size
  have xlt : x1 < s.heap.objs.size := by
    obtain ⟨o, _, a, _⟩ := hx
    exact Heap.lt_size a
  unfold collect
  refine wpAny_bind (wpAny_runValue (codeAny_builtin entry_proto_collect' ?_))
  rw [Around.under_plainId PySem.F.plain_proto_collect _]; show wpAny _ A.in1 (newList [] >>= fun l => again (.builtin "list.__iadd__" ⟨[l, .ref d], []⟩)) _ _ s
  refine wpAny_bind (wpAny_newObj_type ?_)
  refine wpAny_pure ⟨plainId_quiet PySem.F.plain_list_iadd _, codeAny_builtin entry_list_iadd' ?_⟩
  rw [Around.under_plainId PySem.F.plain_list_iadd _]
  generalize eS : s.heap.objs.size = S at *
  have gS : (s.heap.push { cls := .type "list", data := .seq ([] : List Value).toArray }).get? S = some { cls := .type "list", data := .seq #[] } := eS ▸ Heap.get?_push_size _ rfl
  have k1 : ∀ b o, s.heap.get? b = some o → (s.heap.push { cls := .type "list", data := .seq ([] : List Value).toArray }).get? b = some o := fun b o e => Heap.get?_push_of_some _ e
  have D1 := D.keep k1
  have X1 := hx.keep (k1 x1)
  show wpAny _ A.in1 (Builtin.List.listExtendWith (.ref S) (.ref d) (.ref S)) _ _ { s with heap := s.heap.push { cls := .type "list", data := .seq ([] : List Value).toArray } }
  generalize s.heap.push { cls := .type "list", data := .seq ([] : List Value).toArray } = h1 at gS k1 D1 X1 ⊢
  have old : ∀ b o, s.heap.get? b = some o → b ≠ S := fun b o e z => by
    rw [z, ← eS] at e
    exact absurd (Heap.lt_size e) (Nat.lt_irrefl _)
  have sd : S ≠ d := Nat.ne_of_gt dlt
  have sx : S ≠ x1 := Nat.ne_of_gt xlt
  have key : ∀ (h : Heap) (c tk : Nat), (h.IsKeyIter h1.objs.size d 0 kvs.length ep ∧ h.DictAt knd d kvs ep ∧ XAt x1 h) → (∀ b o, b ≠ S → h1.get? b = some o → h.get? b = some o) → h.get? S = some { cls := .type "list", data := .seq #[] c } →
      codeAny (model prog w) A (.builtin "list.extend.loop" ⟨[.ref S, .ref h1.objs.size, .ref S], []⟩) (fun r s' => ∃ (h' : Heap) (tk : Nat) (acc : Array Value) (c : Nat), r = .ok (.ret (.ref S)) ∧ s' = { s with heap := h', toks := tk } ∧ (∀ b o, s.heap.get? b = some o → h'.get? b = some o) ∧ h'.get? S = some { cls := .type "list", dict := none, data := .seq acc c, slots := #[] } ∧ ItemsOf (fun i v => ∃ k x, kvs[i]? = some (k, x) ∧ knd.is k v = true) acc kvs.length) { s with heap := h, toks := tk } := by
    intro h c tk y k gS'
    have sI : S ≠ h1.objs.size := Nat.ne_of_lt (Heap.lt_size gS)
    have W := keysWalk (prog := prog) (w := w) (A := A.in1) (knd := knd) (x1 := x1) hh h1.objs.size d (Nat.ne_of_lt D1.lt_size) (by
      obtain ⟨o, _, a, _⟩ := X1
      exact Nat.ne_of_lt (Heap.lt_size a)) kvs ep
    refine codeAny_extend_loopS W.toS hn S (by simp only [List.mem_cons, List.not_mem_nil, or_false, not_or]; exact ⟨sI, sd, sx⟩) (.ref S) kvs.length 0 _ #[] c rfl (Nat.zero_le _) y gS' (ItemsOf.nil _) fun s' acc c' hm gS2 it => ?_
    rw [Moved.eq_with hm]
    refine ⟨s'.heap, s'.toks, acc, c', rfl, rfl, fun b o e => ?_, gS2, it⟩
    have e1 := k1 b o e
    refine hm.heap b o (fun m => ?_) (k b o (old b o e) e1)
    rcases List.mem_cons.mp m with z | m
    · exact old b o e z
    · rw [List.mem_singleton.mp m] at e1
      exact absurd (Heap.lt_size e1) (Nat.lt_irrefl _)
  have fin : wpAny (model prog w) A.in1 (Builtin.List.listExtendWith (.ref S) (.ref d) (.ref S)) (fun f s' => match f with | .done f => False | .again c => c.quiet = true ∧ codeAny (model prog w) A c (fun r s' => ∃ (h' : Heap) (tk : Nat) (acc : Array Value) (c : Nat), r = .ok (.ret (.ref S)) ∧ s' = { s with heap := h', toks := tk } ∧ (∀ b o, s.heap.get? b = some o → h'.get? b = some o) ∧ h'.get? S = some { cls := .type "list", dict := none, data := .seq acc c, slots := #[] } ∧ ItemsOf (fun i v => ∃ k x, kvs[i]? = some (k, x) ∧ knd.is k v = true) acc kvs.length) s') (fun _ _ => False) { s with heap := h1 } := by
    unfold Builtin.List.listExtendWith
    refine wpAny_bind (wpAny_typeOf (T := "dict") D1.dictOf.typeIs ?_)
    have n1 : Builtin.List.listSameRef (.ref S) (.ref d) = false := by simp [Builtin.List.listSameRef, sd]
    have n2 : (Value.type "dict" == Value.type "list") = false := by decide
    have n3 : (Value.type "dict" == Value.type "tuple") = false := by decide
    simp only [n1, n2, n3, Bool.or_false, Bool.false_eq_true, if_false]
    refine wpAny_bind (wpAny_pyIter_dict lo D1 ?_)
    have gp := fun oI => Heap.get?_push_of_some oI gS
    have y0 : ∀ oI : Obj, oI = { cls := .type "dict_keyiterator", data := .fields #[.ref d, .int 0 0, .int kvs.length 0, .int ep 0] } → ((h1.push oI).IsKeyIter h1.objs.size d 0 kvs.length ep ∧ (h1.push oI).DictAt knd d kvs ep ∧ XAt x1 (h1.push oI)) := fun oI e => ⟨⟨_, Heap.get?_push_size _ (by rw [e]; rfl), by rw [e], by rw [e]; rfl⟩, D1.push _, X1.keep fun o e => Heap.get?_push_of_some _ e⟩
    refine wpAny_bind (wpAny_holding (kdl_hint_dict (D1.push _).dictOf.typeIs ?_))
    refine wpAny_ite_split (fun _ => ?_) (fun _ => wpAny_pure ⟨plainId_quiet PySem.F.plain_extend_loop _, key _ _ _ (y0 _ rfl) (fun b o _ e => Heap.get?_push_of_some _ e) (gp _)⟩)
    refine wpAny_bind (wpAny_rule ?_); refine wpAny_bind ?_
    show wpAny _ _ (updateSeq S (·.push .none) >>= fun _ => updateSeq S (·.pop)) _ _ _; refine wpAny_bind (wpAny_updateSeq (gp _) rfl ?_)
    have g2 := Heap.get?_update_self (Obj.mapSeq (·.push Value.none)) (gp { cls := .type "dict_keyiterator", data := .fields #[.ref d, .int 0 0, .int kvs.length 0, .int ep 0] }) rfl
    refine wpAny_updateSeq (hz := by seq_fits) g2 rfl ?_
    have g3 := Heap.get?_update_self (Obj.mapSeq (·.pop)) g2 rfl
    have oth : ∀ b o, b ≠ S → (h1.push { cls := .type "dict_keyiterator", data := .fields #[.ref d, .int 0 0, .int kvs.length 0, .int ep 0] }).get? b = some o → (((h1.push { cls := .type "dict_keyiterator", data := .fields #[.ref d, .int 0 0, .int kvs.length 0, .int ep 0] }).update S (Obj.mapSeq (·.push Value.none))).update S (Obj.mapSeq (·.pop))).get? b = some o := fun b o hb e => (Heap.get?_update_other _ _ (Ne.symm hb)).trans ((Heap.get?_update_other _ _ (Ne.symm hb)).trans e)
    have y1 := y0 _ rfl
    refine wpAny_pure ⟨plainId_quiet PySem.F.plain_extend_loop _, key _ _ _ ⟨y1.1.at fun o e => oth _ o (Ne.symm (Nat.ne_of_lt (Heap.lt_size gS))) e, y1.2.1.at' fun o e => oth _ o (Ne.symm sd) e, y1.2.2.keep fun o e => oth _ o (Ne.symm sx) e⟩ (fun b o hb e => oth b o hb (Heap.get?_push_of_some _ e)) g3⟩
  refine wpAny_mono fin (fun f s' y => ?_) fun _ _ y => y.elim
  cases f with
  | done f => exact y.elim
  | again c =>
    refine ⟨y.1, codeAny_mono y.2 fun r s2 z => ?_⟩
    obtain ⟨h', tk, acc, c', rfl, rfl, hk, gS', it⟩ := z
    show wpAny _ A (load S >>= _) _ _ _; refine wpAny_bind (wpAny_load gS' ?_)
    exact wpAny_pure (q h' tk acc hk it)
end
end HotY
namespace L2H
open PySem PySem.Spec PyProof.Rows L2
/-- sorted(d) there, the keys fewer than 64 texts -/
theorem call_sortedH {X : Cx} (hc : HotC X) : CallR X (.builtin "sorted") (fun xs H Q => ∃ (a : Addr) (kvs : List (Key × V)) (ks : List Str), xs = [.ref a] ∧ Rd H a (.dK kvs) ∧ kvs.map (·.1) = ks.map Sum.inr ∧ ks.length < 64 ∧ ∀ ys p, ys.Perm ks → sortedS ys = true → H p = none → Q (.ref p) (upd H p (.lst (ys.map V.str)))) := by
  intro pn0 s σ0 H0 xs us Q I0 r0 ⟨a, kvs, ks, ex, rd, hks, few, q⟩
  subst ex
  obtain ⟨u, eu, rx⟩ := vals1 r0
  subst eu; cases rx
  obtain ⟨_, lo, vs, rel, dd⟩ := dk_rd I0.hok rd
  obtain ⟨ep, hat⟩ := dd.dictAt
  obtain ⟨x1, hh, o1, vs1, g1, d1, c1⟩ := hc.at I0
  have hk : vs.map (·.1) = ks.map Sum.inr := rel.keys.symm.trans hks
  have hl : vs.length = ks.length := by have z := congrArg List.length hk; rw [List.length_map, List.length_map] at z; exact z
  refine Calls.call_function_entry PyProof.Rows.kind_sorted PyProof.Rows.plain_sorted PyProof.Rows.entry_sorted (PyProof.Rows.args_sorted1 _) ?_
  unfold Builtin.«sorted»
  refine wpAny_bind (m := checkCount "sorted" 1 1 _) (wpAny_pure ?_); refine wpAny_bind (HotY.collects (A := X.A.in1) (knd := mixKind X.prog X.w) (kvs := vs) (ep := ep) (x1 := x1) hh lo hat ⟨o1, vs1, g1, d1, c1⟩ (by rw [hl, sizeLine_eq]; omega) fun h' tk acc kp it => ?_)
  have al : acc.toList.length = ks.length := by rw [Array.length_toList, it.1, hl]
  have st : StrsAre acc.toList ks := strs_at al fun j v e => by
    obtain ⟨k, x, e1, e2⟩ := it.2 j v (by rw [← Array.getElem?_toList]; exact e)
    have e3 : (vs.map (·.1))[j]? = some k := by rw [List.getElem?_map, e1]; all_goals rfl
    rw [hk, List.getElem?_map] at e3
    cases e4 : ks[j]? with
    | none => rw [e4] at e3; cases e3
    | some y =>
      rw [e4] at e3
      have e5 : Sum.inr y = k := Option.some.inj e3
      subst e5; obtain ⟨t, ev⟩ := Value.isStrOf_shape (x := y) (v := v) e2; exact ⟨y, t, rfl, ev⟩
  have J : Inv X pn0 σ0 H0 { s with heap := h', toks := tk } := I0.kept kp
  refine wpAny_bind (wpAny_newList ?_ (by rw [al, sizeLine_eq]; omega))
  have hoL : (h'.push (seqObj "list" acc.toList.toArray 0)).get? h'.objs.size = some (seqObj "list" acc.toList.toArray 0) := Heap.get?_push_size _ rfl
  show wpAny _ _ _ _ _ { s with heap := h'.push (seqObj "list" acc.toList.toArray 0), toks := tk }
  refine wpAny_bind (wpAny_holding (wpAny_call_entry PyProof.Rows.slot_list_sort ⟨_, hoL, rfl⟩ PyProof.Rows.entry_list_sort (list_sort_treeK strKind_oneLt (s := { s with heap := h'.push (seqObj "list" acc.toList.toArray 0), toks := tk }) hoL st.keysOf (fun v₁ v₂ rest e => keyKind_strs (by rw [← e]; exact st)) (by rw [al]; exact few) fun st' hp hs => ⟨_, rfl, ?_⟩) (PyProof.Rows.args_list_sort _)))
  obtain ⟨ys, y1, y2, y3⟩ := sorted_out_str st hp hs
  obtain ⟨e', he'⟩ := PyProof.Rows.sortedHeap_at (vs := acc.toList) (out := (arrOf st').map (·.2)) hoL
  have len : (ys.map V.str).length ≤ sizeLine := by rw [List.length_map, y2.length_eq]; exact Nat.le_trans (Nat.le_of_lt few) (by decide)
  refine wpAny_pure ⟨_, rfl, .ref h'.objs.size, upd H0 h'.objs.size (.lst (ys.map V.str)), J.laid (t' := tk) (fun b u e => ?_) (Nat.le_refl _) (show ObjOk X.prog X.w _ _ _ (.lst (ys.map V.str)) from ⟨len, ((arrOf st').map (·.2)).toList, e', vals_of_strs y1, by rw [Array.toArray_toList]; exact he'⟩), rfl, q ys _ y2 y3 (J.hok.fresh (Nat.le_refl _))⟩
  have lt : b < h'.objs.size := Heap.lt_size e
  rw [PyProof.Rows.sortedHeap_old (Nat.ne_of_lt lt) (by rw [size_push']; exact Nat.lt_succ_of_lt lt)]; exact Heap.get?_push_of_some _ e
end L2H
namespace Mn
open PySem L2
def startD (N : List Str) (ds : List D) : Env := ds.map some ++ List.replicate (N.length - ds.length) none
theorem start_rel {C : Cc} {H : Hp} {S : Sto} {N : List Str} {ds : List D} {vs : List V} (r : RelDs C H S ds vs) : RelS C H S (startD N ds) (L2.start N vs) := by
  unfold startD L2.start
  rw [r.len]
  refine ⟨by simp [r.len], fun i d h => ?_⟩
  rcases Nat.lt_or_ge i ds.length with q | q
  · rw [List.getElem?_append_left (by simpa using q), List.getElem?_map] at h
    obtain ⟨d', h1, h2⟩ := Option.map_eq_some_iff.mp h
    cases h2
    obtain ⟨v, h3, h4⟩ := r.get h1
    exact ⟨v, by rw [List.getElem?_append_left (by simpa [r.len] using q), List.getElem?_map, h3]; rfl, h4⟩
  · rw [List.getElem?_append_right (by simpa using q)] at h
    rw [List.getElem?_replicate] at h
    split at h <;> cases h
/-- what the module's names stand for -/
structure Md (P : Program) (w : World) (K : PySem.W.Frag) (mg : Str → Option Value) (base : Heap) (ga : Str → Addr) (G : Gc) (k : Nat) : Prop where
  fns : ∀ f n sp, G.fn f = some (n, sp) → ∃ (fa : Addr) (fd : FuncData) (j : Nat) (ps : List Str), ps.length = n ∧ mg f = some (.ref fa) ∧ FnOk P w K mg base (L2N.CX P w) j fa fd ps (lift K ga n sp) ∧ j ≤ k ∧ PySem.W.keepIn K (.ref fa) = true ∧ Binds K fd ps []
  con : ∀ n d, G.con n = some d → ∃ v u, mg n = some u ∧ RelV v u ∧ ∀ Z H S, RelD ⟨K, ga, Z⟩ H S d v
  mts : ∀ c m n sp, G.mt c m = some (n, sp) → ∃ (fa : Addr) (fd : FuncData) (j : Nat) (ps : List Str), ps.length = n ∧ L2.Cls K (ga c) ∧ L2.Meth K (ga c) m fa ∧ FnOk P w K mg base (L2N.CX P w) j fa fd ps (lift K ga n sp) ∧ j ≤ k ∧ Binds K fd ps []
  mks : ∀ c n sp, G.mkr c = some (n, sp) → ∃ (fa : Addr) (fd : FuncData) (j : Nat) (ps : List Str), ps.length = n ∧ mg c = some (.ref (ga c)) ∧ L2.Mk K (ga c) fa ∧ FnOk P w K mg base (L2N.CX P w) j fa fd ps (lift K ga n sp) ∧ j + 1 ≤ k ∧ Binds K fd ps []
  flds : ∀ c f, G.fld c f = true → L2.Cls K (ga c) ∧ L2.NoAttr K (ga c) f
  excs : ∀ c n F, G.exc c = some (n, F) → ∃ (fI : Addr) (fd : FuncData) (j : Nat) (ps : List Str) (F' : List V → List (Str × V)), mg c = some (.ref (ga c)) ∧ OexC K (ga c) ∧ PySem.W.findIn K (.ref (ga c)) "__init__" = some (some (.ref fI)) ∧ PySem.W.typeIn K (.ref fI) = some (.type "function") ∧
    FnOk P w K mg base (L2N.CX P w) j fI fd ps (spEx (ga c) n F') ∧ j + 1 ≤ k ∧ Binds K fd ps [] ∧ RelFn F F'
  subs : ∀ c c' b, G.sub c c' = some b → mg c' = some (.ref (ga c')) ∧ PySem.W.exmOne K (.ref (ga c)) (.ref (ga c')) = some b ∧ PySem.W.kitOne K (.ref (ga c)) (.ref (ga c')) = some b ∧ ExcC K (ga c)
  xfls : ∀ c f, G.xfl c f = true → XfC K (ga c) ∧ PySem.W.findIn K (.ref (ga c)) f = some none
  isvs : ∀ c, G.isv c = true → mg "ValueError" = none ∧ PySem.W.kitOne K (.ref (ga c)) (.type "ValueError") = some true ∧ ExcC K (ga c)
  hots : ∀ c m f, G.hot c m = some f → ∃ (fa : Addr) (fd : FuncData) (j : Nat) (ps : List Str), L2.Cls K (ga c) ∧ L2.Meth K (ga c) m fa ∧ L2H.FnH P w K mg base (L2N.CX P w) j fa fd ps (spHot K (ga c) f) ∧ j ≤ k ∧ Binds K fd ps []
  cds : ∀ n l, G.cdc n = some l → ∃ a es m, mg n = some (.ref a) ∧ KDict K w a es m ∧ ∀ z, match l.lookup z with
    | none => PySem.W.nsIn K a z = some none
    | some y => ∃ u, PySem.W.nsIn K a z = some (some u) ∧ RelV (.str y) u ∧ PySem.PyData.strOk y = true
  cts : ∀ n l, G.cts n = some l → ∃ a, mg n = some (.ref a) ∧ KT K a (l.map V.str)
  zip : mg "zip" = none
  blt : ∀ f : Bf, mg f.nm = none
  tys : ∀ n, tyB n = true → mg (Str.ofString n) = none
  rng : mg "range" = none
  enm : mg "enumerate" = none
/-- the body's word: from the promise to its reading -/
def BodyOk (G : Gc) (N : List Str) (n : Nat) (ms : List MS) (sp : DSp) : Prop := ∀ (ds : List D) (S : Sto) (Q : D → Sto → Prop) (X : Exc → Sto → Prop), ds.length = n → sp ds S Q X → wSs G (fun e _ S' => X e S') ms (startD N ds) S { nx := fun _ S' => Q .non S', rt := Q }
theorem fn_ok {P : Program} {w : World} {K : PySem.W.Frag} {mg : Str → Option Value} {base : Heap} {ga : Str → Addr} {G : Gc} {k : Nat} {nm qual : Str} {params : Arguments} {body : List Stmt} {scope : Scope} {f : Addr} {fd : FuncData} {N ps : List Str} {ms : List MS} {sp : DSp}
    (F : FunD K nm qual params body scope [] [] f fd) (Sc : FnScope N ps scope) (M : Md P w K mg base ga G k) (hm : matchSs N scope ms body = true) (hb : BodyOk G N ps.length ms sp) : FnOk P w K mg base (L2N.CX P w) (k + 1) f fd ps (lift K ga ps.length sp) := by
  refine F.ok Sc (fun vs H Q E h => h.1) fun cdv A outer s H vs Q E hr h => ?_
  obtain ⟨hl, ds, S, Z, r, rp, Q', X', hQ, hX, hsp⟩ := h
  refine ⟨tDS ⟨K, ga, Z⟩ H S (wSs G (fun e _ S' => X' e S') ms), ?_, startD N ds, S, start_rel r, rp, Ext.refl _ _, wSs_mono ?_ ms _ S (hb ds S Q' X' (by rw [← r.len]; exact hl) hsp)⟩
  · refine soundSs ms (X := cxOf (L2N.CX P w) P w K mg base N qual scope f cdv A outer s H E) (sc := scope) (ga := ga) (Z := Z) ?_ ⟨rfl, rfl⟩ hm
    exact {
      nd := Sc.nd
      calm := rfl
      room := hr.units
      sck := ⟨Sc.kind, fun x k h => ⟨k, h, .inl rfl⟩⟩
      tk := takesL_of (L2N.Takes.imp (L2N.takes_of rfl rfl rfl rfl) fun cls d σ H' q => by
        obtain ⟨e, σd, S', _, rp', ex', rx, hx⟩ := q
        exact hX e S' hx H' cls d rp' ex' rx) rfl
      frm := ⟨_, _, _, rfl, rfl, rfl⟩
      own := fun _ => passes_of rfl
      fns := fun g n sp h => by
        obtain ⟨fa, fd, j, ps, h1, h2, h3, h4, h5, h6⟩ := M.fns g n sp h
        exact ⟨fa, fd, j, ps, h1, h2, h3, hr.mono h4, h5, h6⟩
      con := fun n d h => M.con n d h
      blt := M.blt
      tys := M.tys
      mts := fun c m n sp h => by
        obtain ⟨fa, fd, j, ps, h1, h2, h3, h4, h5, h6⟩ := M.mts c m n sp h
        exact ⟨fa, fd, j, ps, h1, h2, h3, h4, hr.mono h5, h6⟩
      mks := fun c n sp h => by
        obtain ⟨fa, fd, j, ps, h1, h2, h3, h4, h5, h6⟩ := M.mks c n sp h
        exact ⟨fa, fd, j, ps, h1, h2, h3, h4, hr.mono h5, h6⟩
      flds := M.flds
      excs := fun c n F h => by
        obtain ⟨fI, fd, j, ps, F', h1, h2, h3, h4, h5, h6, h7, h8⟩ := M.excs c n F h
        exact ⟨fI, fd, j, ps, F', h1, h2, h3, h4, h5, hr.mono h6, h7, h8⟩
      subs := fun c c' b h => by
        obtain ⟨h1, h2, h3, h4⟩ := M.subs c c' b h
        exact ⟨h1, h2, h3, h4⟩
      xfls := M.xfls
      isvs := fun c h => ⟨(M.isvs c h).1, (M.isvs c h).2.1, (M.isvs c h).2.2⟩
      hots := fun c m f h => by
        obtain ⟨fa, fd, j, ps, h1, h2, h3, h4, h5⟩ := M.hots c m f h
        exact ⟨fa, fd, j, ps, h1, h2, h3, hr.mono h4, h5⟩
      cds := fun n l h => ⟨M.cds n l h⟩
      cts := fun n l h => ⟨M.cts n l h⟩
      zip := M.zip
      rng := M.rng
      enm := M.enm
      fnl := fun _ _ => .inl rfl }
  · refine ⟨fun σ' S' q σv H' _ rp' e' => hQ _ _ q H' .non rp' e' mk_non, fun d S' q => hQ _ _ q, fun _ _ q => q.elim, fun _ _ q => q.elim⟩
def hotOf (N : List Str) (sc : Scope) : List Stmt → Option Str
  | [.Return (some (.Call (.Name x _) [.Attribute (.Name y _) f _] [] _)) _] => if (decide (x = "sorted") && (gloB sc x && (decide (N[0]? = some y) && (visB sc y && dbgB y)))) = true then some f else none
  | _ => none
theorem fn_okH {P : Program} {w : World} {K : PySem.W.Frag} {mg : Str → Option Value} {base : Heap} {nm qual : Str} {params : Arguments} {body : List Stmt} {scope : Scope} {f C : Addr} {fd : FuncData} {N ps : List Str} {fl : Str}
    (F : FunD K nm qual params body scope [] [] f fd) (Sc : FnScope N ps scope) (hp : ps.length = 1) (hf : hotOf N scope body = some fl) (hmg : mg "sorted" = none) : L2H.FnH P w K mg base (L2N.CX P w) 1 f fd ps (spHot K C fl) := by
  obtain ⟨oc, od, dV, kV, doc, pm, an, cdv, ct, osl, rfl, lk, hcd, _, _⟩ := F.ex
  refine L2H.fn_ofH lk hcd Sc (fun vs H Q E h => by obtain ⟨a, dx, fs, p, kvs, ks, rfl, _⟩ := h; rw [hp]; rfl) fun A outer s H vs Q E p hot hr h => ?_
  unfold hotOf at hf
  split at hf
  rotate_left
  · cases hf
  split at hf
  rotate_left
  · cases hf
  rename_i x px y py fl' pa pc ps' z
  cases hf
  obtain ⟨h1, z⟩ := and2 z
  obtain ⟨h2, z⟩ := and2 z
  obtain ⟨h3, z⟩ := and2 z
  obtain ⟨h4, h5⟩ := and2 z
  obtain rfl := of_decide_eq_true h1
  obtain ⟨h5, _⟩ := and2 h5
  obtain ⟨h5, h6⟩ := and2 h5
  have sk : Sck (L2H.cxH (L2N.CX P w) P w K mg base N qual scope f cdv A outer s H E p) scope := ⟨Sc.kind, fun x k h => ⟨k, h, .inl rfl⟩⟩
  have hc : L2H.HotC (L2H.cxH (L2N.CX P w) P w K mg base N qual scope f cdv A outer s H E p) := ⟨p, ⟨hot.1, hot.2⟩, List.mem_cons_self⟩
  have pv : PE (L2H.cxH (L2N.CX P w) P w K mg base N qual scope f cdv A outer s H E p) (.Name y py) _ := pe_var (i := 0) (of_decide_eq_true h3) (sk.vis h4) (by simpa using h5) (by simpa using h6)
  have pf := pe_fld (pos := pa) (f := fl) pv (notSuper_base rfl)
  have pc' := pe_callB (p := px) (pos := pc) (L2H.call_sortedH hc) (sk.glo h2) hmg (by decide +kernel) (pa_cons pf pa_nil rfl) (by decide) (by decide) rfl rfl
  refine ⟨_, pss_one (ps_ret pc'), ?_⟩
  obtain ⟨a, dx, fs, p', kvs, ks, rfl, k1, k2, k3, k4, k5, k6, k7, q⟩ := h
  refine ⟨.ref a, ?_, a, C, dx, fs, .ref p', rfl, k1, k2, k3, k4, p', kvs, ks, rfl, k5, k6, k7, fun ys q' hp' hs hn => ?_⟩
  · rfl
  · rw [srt_unique hp' hs]
    exact q q' hn
/-- self.f = e -/
def xSet (f : Str) : Stmt → Option Expr
  | .Assign [.Attribute (.Name x _) g _] v _ => if x = "self" ∧ g = f then some v else none
  | _ => none
/-- B.__init__(self, e) -/
def xUp (b : Str) : Stmt → Option Expr
  | .Expr (.Call (.Attribute (.Name x _) g ap) [.Name s _, v] [] cp) _ => if x = b ∧ g = "__init__" ∧ s = "self" ∧ (ap.endLine == cp.line) = true then some v else none
  | _ => none
def xNm (n : Str) : Option Expr → Bool
  | some (.Name x _) => decide (x = n)
  | _ => false
def xTx (w : Str) : Option Expr → Bool
  | some (.Constant (.str x) _ _) => decide (x = w)
  | _ => false
/-- the base's text; a further class's; a class's with a field of its own -/
def b0B : List Stmt → Bool
  | [s1, s2] => xNm "why" (xSet "why" s1) && xTx "" (xSet "word" s2)
  | _ => false
def b1B (b w : Str) : List Stmt → Bool
  | [s1, s2] => xNm "why" (xUp b s1) && xTx w (xSet "word" s2)
  | _ => false
def b2B (b w y f : Str) : List Stmt → Bool
  | [s1, s2, s3] => xTx y (xUp b s1) && (xTx w (xSet "word" s2) && xNm f (xSet f s3))
  | _ => false
theorem xSet_inv {f : Str} {s : Stmt} {v : Expr} (h : xSet f s = some v) : ∃ p1 p2 p3, s = .Assign [.Attribute (.Name "self" p1) f p2] v p3 := by
  unfold xSet at h
  split at h
  · split at h
    · rename_i x p1 g p2 v' p3 q
      cases h
      obtain ⟨rfl, rfl⟩ := q
      exact ⟨p1, p2, p3, rfl⟩
    · cases h
  · cases h
theorem xUp_inv {b : Str} {s : Stmt} {v : Expr} (h : xUp b s = some v) : ∃ p1 p2 p3 p4 p5, s = .Expr (.Call (.Attribute (.Name b p1) "__init__" p2) [.Name "self" p3, v] [] p4) p5 ∧ (p2.endLine == p4.line) = true := by
  unfold xUp at h
  split at h
  · split at h
    · rename_i x p1 g p2 s' p3 v' p4 p5 q
      cases h
      obtain ⟨rfl, rfl, rfl, q⟩ := q
      exact ⟨p1, p2, p3, p4, p5, rfl, q⟩
    · cases h
  · cases h
theorem xNm_inv {n : Str} {o : Option Expr} (h : xNm n o = true) : ∃ p, o = some (.Name n p) := by
  unfold xNm at h
  split at h
  · obtain rfl := of_decide_eq_true h
    exact ⟨_, rfl⟩
  · cases h
theorem xTx_inv {n : Str} {o : Option Expr} (h : xTx n o = true) : ∃ k p, o = some (.Constant (.str n) k p) := by
  unfold xTx at h
  split at h
  · obtain rfl := of_decide_eq_true h
    exact ⟨_, _, rfl⟩
  · cases h
/-- C.m(e, ..), m a def of the class C -/
theorem pe_base {X : Cx} {CX : CXT} {k : Nat} {f C : Addr} {fd : FuncData} {ps : List Str} {sp : Sp} {E : XK} {mc : Value} {b m : Str} {p1 p2 pos : Pos} {e : Expr} {es : List Expr} {t : TA} (r : ClX.CRead X.K C mc) (c : PySem.W.findCls X.K (.ref C) mc m = some (.val (.ref f))) (F : FnOk X.prog X.w X.K X.mg X.base CX k f fd ps sp) (hr : Room k X.A)
    (hk : PySem.W.keepIn X.K (.ref f) = true) (hb : Binds X.K fd ps []) (hx : Passes CX X E) (hg : Gl X b) (hm : X.mg b = some (.ref C)) (hdb : (b == ("__debug__" : Str)) = false) (ha : PA X (e :: es) t) (hl : (p2.endLine == pos.line) = true)
    (hf : methodCallForm ((e :: es).length + ([] : List Keyword).length) (backTo pos (starEach (e :: es) X.env)) (backToKw pos (keywordEach [] X.env)) = true)
    (hs : starEach (e :: es) X.env = (false, eval e X.env) :: starEach es X.env) (hpl : (backTo pos (starEach es X.env)).any (·.1) = false) : PE X (.Call (.Attribute (.Name b p1) m p2) (e :: es) [] pos) (fun σ H Q => t σ H fun vs H1 => sp (vs ++ []) H1 Q E) := by
  refine ⟨fun pins s σ H Q I h => ?_⟩
  refine PySem.W.methodCall_KW (ld_glob I hg hm ?_ hdb) (meth_eval rfl hf hl)
  refine PySem.W.method_cls I.kIn r.ga (ClX.getcval_ok (v := .ref f) I r ⟨c, rfl⟩ fun s' I' => ?_)
  exact PySem.W.callWith_K (first := []) (h₀ := X.base) I.ok.mod.kin hk (thn (ha.run pos pins s' σ H _ I' h) fun us s1 ⟨vs, H1, I1, rv, q⟩ => ⟨I1.kIn, run_fn (dvs := []) (ds := []) F hr hb .nil hx I1 rv q⟩) hs hpl
section
variable {P : Program} {w : World} {K : PySem.W.Frag} {mg : Str → Option Value} {base : Heap}
def noF (K : PySem.W.Frag) (C : Addr) (f : Str) : Prop := PySem.W.findIn K (.ref C) f = some none
/-- the base's word: any class over it -/
def spB0 (K : PySem.W.Frag) : Sp := fun vs H Q _ => ∃ a C y, vs = [.ref a, y] ∧ OexC K C ∧ noF K C "why" ∧ noF K C "word" ∧ H a = some (exo a C none) ∧ ∀ dx, H dx = none → dx ≠ a → Q .non (upd (upd H dx (exd dx [("word", .str ""), ("why", y)])) a (exo a C (some dx)))
theorem upd_upd {H : Hp} {a : Addr} {o u : HO} : upd (upd H a o) a u = upd H a u := by
  funext b
  by_cases h : b = a
  · subst h; rw [upd_same, upd_same]
  · rw [upd_ne h, upd_ne h, upd_ne h]
theorem upd_swap {H : Hp} {a b : Addr} {o u : HO} (n : a ≠ b) : upd (upd H a o) b u = upd (upd H b u) a o := by
  funext c
  by_cases h : c = a
  · subst h; rw [upd_ne n, upd_same, upd_same]
  · by_cases h2 : c = b
    · subst h2; rw [upd_same, upd_ne h, upd_same]
    · rw [upd_ne h2, upd_ne h, upd_ne h, upd_ne h2]
theorem b0_ok {nm qual : Str} {params : Arguments} {body : List Stmt} {scope : Scope} {f : Addr} {fd : FuncData} (F : FunD K nm qual params body scope [] [] f fd) (Sc : FnScope ["self", "why"] ["self", "why"] scope) (hb : b0B body = true) :
    FnOk P w K mg base (L2N.CX P w) 1 f fd ["self", "why"] (spB0 K) := by
  refine F.ok (k := 0) Sc (fun vs H Q E h => by obtain ⟨a, C, y, rfl, _⟩ := h; rfl) fun cdv A outer s H vs Q E hr h => ?_
  unfold b0B at hb
  split at hb
  · rename_i s1 s2
    obtain ⟨h1, h2⟩ := and2 hb
    obtain ⟨p, e1⟩ := xNm_inv h1
    obtain ⟨kk, p', e2⟩ := xTx_inv h2
    obtain ⟨q1, q2, q3, rfl⟩ := xSet_inv e1
    obtain ⟨q4, q5, q6, rfl⟩ := xSet_inv e2
    have v0 : Vis scope "self" := (Sc.par "self" (by simp)).imp id fun z => .inl z
    have v1 : Vis scope "why" := (Sc.par "why" (by simp)).imp id fun z => .inl z
    refine ⟨_, pss_cons (ps_ost (pe_var (i := 0) rfl v0 (by decide) (by decide)) (pe_var (i := 1) rfl v1 (by decide) (by decide)) rfl) (pss_one (ps_ost (pe_var (i := 0) rfl v0 (by decide) (by decide)) pe_str rfl)), ?_⟩
    obtain ⟨a, C, y, rfl, T, n1, n2, ha, k⟩ := h
    refine ⟨y, rfl, .ref a, rfl, a, C, rfl, T, n1, .inl ⟨ha, fun dx hd hne => ?_⟩⟩
    refine ⟨.ref a, rfl, a, C, rfl, T, n2, .inr ⟨dx, [("why", y)], upd_same, by rw [upd_ne hne, upd_same], by simp, ?_⟩⟩
    have e : upd (upd (upd H dx (exd dx [("why", y)])) a (exo a C (some dx))) dx (exd dx [("word", .str ""), ("why", y)]) = upd (upd H dx (exd dx [("word", .str ""), ("why", y)])) a (exo a C (some dx)) := by
      rw [← upd_swap hne, upd_upd]
    show Q .non _
    rw [e]
    exact k dx hd hne
  · cases hb
/-- the base, as its classes need it -/
structure Bs (P : Program) (w : World) (K : PySem.W.Frag) (mg : Str → Option Value) (base : Heap) (b : Str) (Cb f0 : Addr) (fd0 : FuncData) : Prop where
  rd : ClX.CRead K Cb (.type "type")
  fc : PySem.W.findCls K (.ref Cb) (.type "type") "__init__" = some (.val (.ref f0))
  ok : FnOk P w K mg base (L2N.CX P w) 1 f0 fd0 ["self", "why"] (spB0 K)
  kp : PySem.W.keepIn K (.ref f0) = true
  bi : Binds K fd0 ["self", "why"] []
  mg : mg b = some (.ref Cb)
  db : (b == ("__debug__" : Str)) = false
def F1 (α : Type) (s : Str → α) (n : α) (w : Str) : List α → List (Str × α) := fun ws => [("word", s w), ("word", s ""), ("why", ws.headD n)]
def F2' (α : Type) (s : Str → α) (n : α) (w y f : Str) : List α → List (Str × α) := fun ws => [(f, ws.headD n), ("word", s w), ("word", s ""), ("why", s y)]
theorem b1_ok {b : Str} {Cb f0 : Addr} {fd0 : FuncData} (B : Bs P w K mg base b Cb f0 fd0) {nm qual wd : Str} {params : Arguments} {body : List Stmt} {scope : Scope} {f C : Addr} {fd : FuncData} (F : FunD K nm qual params body scope [] [] f fd) (Sc : FnScope ["self", "why"] ["self", "why"] scope) (hg : gloB scope b = true) (hb : b1B b wd body = true)
    (T : OexC K C) (n1 : noF K C "why") (n2 : noF K C "word") : FnOk P w K mg base (L2N.CX P w) 2 f fd ["self", "why"] (spEx C 1 (F1 V V.str .non wd)) := by
  refine F.ok (k := 1) Sc (fun vs H Q E h => by obtain ⟨a, ws, rfl, hw, _⟩ := h; rw [List.length_cons, hw]; rfl) fun cdv A outer s H vs Q E hr h => ?_
  unfold b1B at hb
  split at hb
  · rename_i s1 s2
    obtain ⟨h1, h2⟩ := and2 hb
    obtain ⟨p, e1⟩ := xNm_inv h1
    obtain ⟨kk, p', e2⟩ := xTx_inv h2
    obtain ⟨q1, q2, q3, q4, q5, rfl, hl⟩ := xUp_inv e1
    obtain ⟨q6, q7, q8, rfl⟩ := xSet_inv e2
    have v0 : Vis scope "self" := (Sc.par "self" (by simp)).imp id fun z => .inl z
    have v1 : Vis scope "why" := (Sc.par "why" (by simp)).imp id fun z => .inl z
    have sk : Sck (cxOf (L2N.CX P w) P w K mg base ["self", "why"] qual scope f cdv A outer s H E) scope := ⟨Sc.kind, fun x k h => ⟨k, h, .inl rfl⟩⟩
    have up := pe_base (X := cxOf (L2N.CX P w) P w K mg base ["self", "why"] qual scope f cdv A outer s H E) (p1 := q1) (e := .Name "self" q3) (es := [.Name "why" p]) B.rd B.fc B.ok hr B.kp B.bi passes_no (sk.glo hg) B.mg B.db
      (pa_cons (pe_var (i := 0) rfl v0 (by decide) (by decide)) (pa_cons (pe_var (i := 1) rfl v1 (by decide) (by decide)) pa_nil rfl) rfl) hl rfl rfl rfl
    refine ⟨_, pss_cons (ps_expr up rfl) (pss_one (ps_ost (pe_var (i := 0) rfl v0 (by decide) (by decide)) pe_str rfl)), ?_⟩
    obtain ⟨a, ws, rfl, hw, ha, k⟩ := h
    obtain ⟨y, rfl⟩ := List.length_eq_one_iff.mp hw
    refine ⟨.ref a, rfl, y, rfl, a, C, y, rfl, T, n1, n2, ha, fun dx hd hne => ?_⟩
    refine ⟨.ref a, rfl, a, C, rfl, T, n2, .inr ⟨dx, [("word", .str ""), ("why", y)], upd_same, by rw [upd_ne hne, upd_same], by simp, ?_⟩⟩
    have e : upd (upd (upd H dx (exd dx [("word", .str ""), ("why", y)])) a (exo a C (some dx))) dx (exd dx (F1 V V.str .non wd [y])) = upd (upd H dx (exd dx (F1 V V.str .non wd [y]))) a (exo a C (some dx)) := by
      rw [← upd_swap hne, upd_upd]
    show Q .non _
    exact e ▸ k dx hd hne
  · cases hb
theorem b2_ok {b : Str} {Cb f0 : Addr} {fd0 : FuncData} (B : Bs P w K mg base b Cb f0 fd0) {nm qual wd yt g : Str} {params : Arguments} {body : List Stmt} {scope : Scope} {f C : Addr} {fd : FuncData} (F : FunD K nm qual params body scope [] [] f fd) (Sc : FnScope ["self", g] ["self", g] scope) (hg : gloB scope b = true) (hb : b2B b wd yt g body = true) (hd1 : (g == ("__debug__" : Str)) = false) (hd2 : (g == ("__classdict__" : Str)) = false)
    (T : OexC K C) (n1 : noF K C "why") (n2 : noF K C "word") (n3 : noF K C g) : FnOk P w K mg base (L2N.CX P w) 2 f fd ["self", g] (spEx C 1 (F2' V V.str .non wd yt g)) := by
  refine F.ok (k := 1) Sc (fun vs H Q E h => by obtain ⟨a, ws, rfl, hw, _⟩ := h; rw [List.length_cons, hw]; rfl) fun cdv A outer s H vs Q E hr h => ?_
  unfold b2B at hb
  split at hb
  · rename_i s1 s2 s3
    obtain ⟨h1, h2⟩ := and2 hb
    obtain ⟨h2, h3⟩ := and2 h2
    obtain ⟨kk, p, e1⟩ := xTx_inv h1
    obtain ⟨kk', p', e2⟩ := xTx_inv h2
    obtain ⟨p'', e3⟩ := xNm_inv h3
    obtain ⟨q1, q2, q3, q4, q5, rfl, hl⟩ := xUp_inv e1
    obtain ⟨q6, q7, q8, rfl⟩ := xSet_inv e2
    obtain ⟨q9, q10, q11, rfl⟩ := xSet_inv e3
    have v0 : Vis scope "self" := (Sc.par "self" (by simp)).imp id fun z => .inl z
    have v1 : Vis scope g := (Sc.par g (by simp)).imp id fun z => .inl z
    have sk : Sck (cxOf (L2N.CX P w) P w K mg base ["self", g] qual scope f cdv A outer s H E) scope := ⟨Sc.kind, fun x k h => ⟨k, h, .inl rfl⟩⟩
    have up := pe_base (X := cxOf (L2N.CX P w) P w K mg base ["self", g] qual scope f cdv A outer s H E) (p1 := q1) (e := .Name "self" q3) (es := [.Constant (.str yt) kk p]) B.rd B.fc B.ok hr B.kp B.bi passes_no (sk.glo hg) B.mg B.db
      (pa_cons (pe_var (i := 0) rfl v0 (by decide) (by decide)) (pa_cons pe_str pa_nil rfl) rfl) hl rfl rfl rfl
    refine ⟨_, pss_cons (ps_expr up rfl) (pss_cons (ps_ost (pe_var (i := 0) rfl v0 (by decide) (by decide)) pe_str rfl) (pss_one (ps_ost (pe_var (i := 0) rfl v0 (by decide) (by decide)) (pe_var (i := 1) rfl v1 hd1 hd2) rfl))), ?_⟩
    obtain ⟨a, ws, rfl, hw, ha, k⟩ := h
    obtain ⟨y, rfl⟩ := List.length_eq_one_iff.mp hw
    refine ⟨.ref a, rfl, a, C, .str yt, rfl, T, n1, n2, ha, fun dx hd hne => ?_⟩
    refine ⟨.ref a, rfl, a, C, rfl, T, n2, .inr ⟨dx, [("word", .str ""), ("why", .str yt)], upd_same, by rw [upd_ne hne, upd_same], by simp, ?_⟩⟩
    refine ⟨y, rfl, .ref a, rfl, a, C, rfl, T, n3, .inr ⟨dx, [("word", .str wd), ("word", .str ""), ("why", .str yt)], by rw [upd_ne (Ne.symm hne), upd_same], upd_same, by simp, ?_⟩⟩
    have e : upd (upd (upd (upd H dx (exd dx [("word", .str ""), ("why", .str yt)])) a (exo a C (some dx))) dx (exd dx [("word", .str wd), ("word", .str ""), ("why", .str yt)])) dx (exd dx (F2' V V.str .non wd yt g [y])) = upd (upd H dx (exd dx (F2' V V.str .non wd yt g [y]))) a (exo a C (some dx)) := by
      rw [upd_upd, ← upd_swap hne, upd_upd]
    show Q .non _
    exact e ▸ k dx hd hne
  · cases hb
theorem F1_rel {wd : Str} (h : PySem.PyData.strOk wd = true) : RelFn (F1 D D.str .non wd) (F1 V V.str .non wd) := by
  intro C H S ds vs r f x hx
  have h0 : RelD C H S (ds.headD .non) (vs.headD .non) := by
    cases ds with
    | nil => unfold RelDs at r; subst r; exact mk_non
    | cons d ds => unfold RelDs at r; obtain ⟨v, l, rfl, r1, _⟩ := r; exact r1
  unfold F1 at hx ⊢
  simp only [List.lookup_cons, List.lookup_nil] at hx ⊢
  split at hx
  · cases hx; exact ⟨_, rfl, mk_str h⟩
  · split at hx
    · cases hx; exact ⟨_, rfl, mk_str (by decide +kernel)⟩
    · split at hx
      · cases hx; exact ⟨_, rfl, h0⟩
      · cases hx
theorem F2_rel {wd yt g : Str} (h : PySem.PyData.strOk wd = true) (hy : PySem.PyData.strOk yt = true) : RelFn (F2' D D.str .non wd yt g) (F2' V V.str .non wd yt g) := by
  intro C H S ds vs r f x hx
  have h0 : RelD C H S (ds.headD .non) (vs.headD .non) := by
    cases ds with
    | nil => unfold RelDs at r; subst r; exact mk_non
    | cons d ds => unfold RelDs at r; obtain ⟨v, l, rfl, r1, _⟩ := r; exact r1
  unfold F2' at hx ⊢
  simp only [List.lookup_cons, List.lookup_nil] at hx ⊢
  split at hx
  · cases hx; exact ⟨_, rfl, h0⟩
  · split at hx
    · cases hx; exact ⟨_, rfl, mk_str h⟩
    · split at hx
      · cases hx; exact ⟨_, rfl, mk_str (by decide +kernel)⟩
      · split at hx
        · cases hx; exact ⟨_, rfl, mk_str hy⟩
        · cases hx
end
theorem oexB_ok {K : PySem.W.Frag} {C : Addr} (h : oexB K C = true) : OexC K C := by
  unfold oexB at h
  obtain ⟨h1, h⟩ := He.ba h
  obtain ⟨h2, h⟩ := He.ba h
  obtain ⟨h3, h⟩ := He.ba h
  obtain ⟨h4, h5⟩ := He.ba h
  refine ⟨?_, He.eqO_ok h2, of_decide_eq_true h3, of_decide_eq_true h4, h5⟩
  split at h1
  · rename_i dd cd sl ho
    split at h1
    · rename_i D bm k0 k1 k2 k3 n k5 hm hs
      obtain ⟨g1, h1⟩ := He.ba h1
      obtain ⟨g2, h1⟩ := He.ba h1
      obtain ⟨g3, h1⟩ := He.ba h1
      obtain ⟨g4, g5⟩ := He.ba h1
      obtain rfl := of_decide_eq_true g1
      obtain rfl := of_decide_eq_true g2
      obtain ⟨nm, bs, mro, ns, qn, hd, sn, sub, ab, col, del⟩ := cd
      dsimp only at hm g3 g4
      subst hm g4
      have g3 : del = false := by simpa using g3
      subst g3
      have e : sl = #[k0, k1, k2, k3, some (.builtin "ValueError.__new__"), k5] := Array.ext' hs
      subst e
      exact ⟨nm, qn, ns, bs, bm, sn, sub, ab, col, dd, k0, k1, k2, k3, k5, ho, g5⟩
    · cases h1
  · cases h1
theorem mro_ok {K : PySem.W.Frag} {c : Str} (h : (Fx.mro c).ok K = true) : (∃ cd, PySem.W.clsIn K (He.ga K c) = some cd ∧ cd.mro = mroL K c) ∧ PySem.W.typeIn K (.ref (He.ga K c)) = some (.type "type") ∧ PySem.W.hasDictIn K (He.ga K c) = true := by
  obtain ⟨h1, h⟩ := He.ba (show (decide ((PySem.W.clsIn K (He.ga K c)).map (·.mro) = some (mroL K c)) && (decide (PySem.W.typeIn K (.ref (He.ga K c)) = some (.type "type")) && PySem.W.hasDictIn K (He.ga K c))) = true from h)
  obtain ⟨h2, h3⟩ := He.ba h
  obtain ⟨cd, h4, h5⟩ := Option.map_eq_some_iff.mp (of_decide_eq_true h1)
  exact ⟨⟨cd, h4, h5⟩, of_decide_eq_true h2, h3⟩
theorem mro_sub {K : PySem.W.Frag} {c : Str} (h : (Fx.mro c).ok K = true) (v : Value) : PySem.W.subIn K (.ref (He.ga K c)) v = some ((mroL K c).contains v) := by
  obtain ⟨⟨cd, h1, h2⟩, _⟩ := mro_ok h
  show PySem.W.mroIn K (He.ga K c) v = _
  unfold PySem.W.mroIn
  rw [h1, Option.bind_some, h2, if_neg]
  unfold mroL
  split <;> simp
def subB (c c' : Str) : Bool := decide (c = c') || decide (c' = exTop)
theorem nodup_inj {α β : Type} {f : α → β} : ∀ {l : List α}, (l.map f).Nodup → ∀ {a b : α}, a ∈ l → b ∈ l → f a = f b → a = b
  | [], _, a, b, ha, _, _ => by cases ha
  | x :: l, h, a, b, ha, hb, e => by
    rw [List.map_cons, List.nodup_cons] at h
    rcases List.mem_cons.mp ha with z | ha2
    · rcases List.mem_cons.mp hb with z' | hb2
      · rw [z, z']
      · exact absurd (List.mem_map.mpr ⟨b, hb2, by rw [← e, z]⟩) h.1
    · rcases List.mem_cons.mp hb with z' | hb2
      · exact absurd (List.mem_map.mpr ⟨a, ha2, by rw [e, z']⟩) h.1
      · exact nodup_inj h.2 ha2 hb2 e
theorem ga_inj {K : PySem.W.Frag} {l : List Str} (h : (Fx.dis l).ok K = true) {c c' : Str} (m : c ∈ l) (m' : c' ∈ l) (e : He.ga K c = He.ga K c') : c = c' := by
  have hn : (l.map (He.ga K)).Nodup := of_decide_eq_true h
  exact nodup_inj hn m m' e
theorem mroL_has {K : PySem.W.Frag} {l : List Str} (h : (Fx.dis l).ok K = true) {c c' : Str} (m : c ∈ l) (m' : c' ∈ l) (mt : exTop ∈ l) : (mroL K c).contains (.ref (He.ga K c')) = subB c c' := by
  have key : ∀ x ∈ l, ((Value.ref (He.ga K c')) == (Value.ref (He.ga K x))) = decide (x = c') := fun x hx => by
    by_cases e : x = c'
    · subst e; simp
    · rw [decide_eq_false e]
      refine beq_eq_false_iff_ne.mpr fun z => e ?_
      exact (ga_inj h m' hx (Value.ref.inj z)).symm
  have kt : ∀ n, ((Value.ref (He.ga K c')) == (Value.type n)) = false := fun n => beq_eq_false_iff_ne.mpr fun z => nomatch z
  unfold mroL subB
  split
  · rename_i e
    subst e
    simp only [List.contains_cons, List.contains_nil, veT, key _ mt, kt, Bool.or_false]
    by_cases q : exTop = c'
    · subst q; simp
    · have q' : ¬ c' = exTop := fun z => q z.symm
      simp [q, q']
  · simp only [List.contains_cons, List.contains_nil, veT, key _ m, key _ mt, kt, Bool.or_false]
    by_cases q : exTop = c'
    · subst q; simp
    · have q' : ¬ c' = exTop := fun z => q z.symm
      simp [q, q']
/-- nothing leaves the law -/
theorem fn_shut {P : Program} {w : World} {K : PySem.W.Frag} {mg : Str → Option Value} {base : Heap} {k : Nat} {f : Addr} {fd : FuncData} {ps : List Str} {sp : Sp} (F : FnOk P w K mg base (L2N.CX P w) k f fd ps sp) :
    FnOk P w K mg base CX0 k f fd ps (fun vs H Q _ => sp vs H Q fun _ _ _ => False) where
  len := fun vs H Q E h => F.len _ _ _ _ h
  run := fun A outer s H args us vs Q E hr he hb hv h => codeAny_mono (F.run A outer s H args us vs Q _ hr he hb hv h) fun r s' q => by
    cases r with
    | ok fl => cases fl <;> exact q
    | error e =>
      obtain ⟨_, _, _, _, _, _, _, _, _, _, _, _, z⟩ := q
      exact z.elim
theorem walk_mn {l : PySem.W.OpenLaw} {k : Nat} {q : Program} {loose : List Str} {XP : (Str → Option Value) → Heap → Prop} {d : DefRec} {fa : List He.Fa} {fx : List Fx} {fn : List He.DefD} {x : Str} {sp : DSp} (hn : l.most = some 63) (hdf : d.params.defaults = []) (hr : Room k callerA) (hd : d.name = "law")
    (hsp : ∀ ns : List Int, ns.length ≤ 63 → sp [.scr ns] (fun _ => none) (fun v _ => v = .bl true) fun _ _ => False)
    (F : ∀ (w : World) (mg : Str → Option Value) (f : Addr) (h : Heap) (K : PySem.W.Frag), K.In h → h.Ns mainGlobals mg → mg "law" = some (.ref f) → SaysM fa fx fn K →
      ∃ (fd : FuncData) (ga : Str → Addr), (∀ (s : Shared) (u : Value), BindsTo s fd ⟨[u], []⟩ [(x, u)]) ∧ ∀ base : Heap, K.In base → base.Ns mainGlobals mg → FnOk l.prog w K mg base (L2N.CX l.prog w) k f fd [x] (lift K ga 1 sp)) :
    PySem.W.WalkO q loose XP (hookM fa fx fn).says l.row.toRowW d [] (fun f vs => PySem.call f vs) := by
  refine L2.walk_ofE (n := 63) (k := k) (x := x) (CX := L2.CX0) hn (by decide) hdf hr (fun w mg f h Y G hmg => ?_) fun _ _ _ _ z => z
  obtain ⟨K, KX, c⟩ := Y
  rw [hd] at hmg
  obtain ⟨fd, ga, hb, hF⟩ := F w mg f h K KX G hmg c
  refine ⟨K, fd, _, KX, hb, fun H a ns hl hO hS => ?_, fun base h1 h2 => fn_shut (hF base h1 h2)⟩
  refine ⟨rfl, [.scr ns], fun _ => none, fun _ => False, RelDs.cons ?_ RelDs.nil, ⟨fun _ _ h => (nomatch h), fun _ h => h.elim⟩, _, _, fun d S' e H' v rp ex r => ?_, fun _ _ z => z.elim, hsp ns hl⟩
  · unfold RelD
    rcases hS with hS | hS
    · exact ⟨a, rfl, .inl ⟨hS, rfl, fun z => z⟩⟩
    · exact ⟨a, rfl, .inr hS⟩
  · subst e
    unfold RelD at r
    exact r
end Mn
namespace Mn
open PySem L2
theorem for_rule {G : Gc} {x : XW} {b : List MS} {t : MT} {gd : Sto → Prop} {its : List D} {σ : Env} {S : Sto} {k : KS} (I : Nat → Env → Sto → Prop) (h0 : I 0 σ S)
    (hs : ∀ i d σ S, its[i]? = some d → I i σ S → gd S ∧ ∃ σ', asgT t d σ = some σ' ∧ wSs G x b σ' S { nx := I (i + 1), ct := I (i + 1), rt := k.rt, bk := k.nx })
    (hd : ∀ σ S, I its.length σ S → gd S ∧ k.nx σ S) : forLoop gd (fun d σ2 S2 q => ∃ σ', asgT t d σ2 = some σ' ∧ wSs G x b σ' S2 q) its σ S k := by
  have gen : ∀ (l : List D) (j : Nat) (σ : Env) (S : Sto), its.drop j = l → j ≤ its.length → I j σ S → forLoop gd (fun d σ2 S2 q => ∃ σ', asgT t d σ2 = some σ' ∧ wSs G x b σ' S2 q) l σ S k := by
    intro l
    induction l with
    | nil =>
      intro j σ S hj hl hI
      have e : j = its.length := Nat.le_antisymm hl (List.drop_eq_nil_iff.mp hj)
      rw [e] at hI
      exact hd σ S hI
    | cons d l ih =>
      intro j σ S hj hl hI
      have hjd : its[j]? = some d := by
        have : (its.drop j)[0]? = some d := by rw [hj]; rfl
        rw [List.getElem?_drop] at this
        simpa using this
      have hlt : j < its.length := (List.getElem?_eq_some_iff.mp hjd).1
      have hr : its.drop (j + 1) = l := by rw [← List.drop_drop, hj]; rfl
      obtain ⟨h1, σ', h2, h3⟩ := hs j d σ S hjd hI
      refine ⟨h1, σ', h2, wSs_mono ?_ b σ' S h3⟩
      exact ⟨fun σ2 S2 q => ih (j + 1) σ2 S2 hr hlt q, fun _ _ q => q, fun _ _ q => q, fun σ2 S2 q => ih (j + 1) σ2 S2 hr hlt q⟩
  exact gen its 0 σ S rfl (Nat.zero_le _) h0
/-- the same where the target is one name -/
theorem for_ruleN {G : Gc} {x : XW} {b : List MS} {n : Nat} {gd : Sto → Prop} {its : List D} {σ : Env} {S : Sto} {k : KS} (I : Nat → Env → Sto → Prop) (h0 : I 0 σ S)
    (hs : ∀ i d σ S, its[i]? = some d → I i σ S → gd S ∧ wSs G x b (σ.set n (some d)) S { nx := I (i + 1), ct := I (i + 1), rt := k.rt, bk := k.nx })
    (hd : ∀ σ S, I its.length σ S → gd S ∧ k.nx σ S) : forLoop gd (fun d σ2 S2 q => wSs G x b (σ2.set n (some d)) S2 q) its σ S k := by
  have e : (fun (d : D) (σ2 : Env) (S2 : Sto) (q : KS) => wSs G x b (σ2.set n (some d)) S2 q) = fun d σ2 S2 q => ∃ σ', asgT (.nm n) d σ2 = some σ' ∧ wSs G x b σ' S2 q := by
    funext d σ2 S2 q
    refine propext ⟨fun h => ⟨_, by unfold asgT; rfl, h⟩, ?_⟩
    rintro ⟨σ', h1, h2⟩
    unfold asgT at h1
    cases h1
    exact h2
  rw [e]
  exact for_rule I h0 (fun i d σ S h1 h2 => ⟨(hs i d σ S h1 h2).1, _, by unfold asgT; rfl, (hs i d σ S h1 h2).2⟩) hd
/-- any comprehension whose elements are values of a function, the store as it was -/
theorem lc_any {gd : Sto → Prop} {f : D → Sto → (Option D → Sto → Prop) → Prop} {its : List D} {S : Sto} {k : List D → Sto → Prop} (F : D → Option D) (hlen : its.length ≤ sizeLine) (hg : gd S) (hs : ∀ d ∈ its, ∀ q : Option D → Sto → Prop, q (F d) S → f d S q)
    (hk : k (its.filterMap F) S) : lcLoop gd f its [] S k := by
  have gen : ∀ (l acc : List D), (∀ d ∈ l, d ∈ its) → acc.length + l.length ≤ sizeLine → (acc ++ l.filterMap F = its.filterMap F) → lcLoop gd f l acc S k := by
    intro l
    induction l with
    | nil =>
      intro acc _ _ he
      rw [List.filterMap_nil, List.append_nil] at he
      exact ⟨hg, by rw [he]; exact hk⟩
    | cons d l ih =>
      intro acc hm hl he
      rw [List.length_cons] at hl
      refine ⟨hg, hs d (hm d List.mem_cons_self) _ ?_⟩
      cases hF : F d with
      | none =>
        rw [List.filterMap_cons, hF] at he
        exact ih acc (fun z hz => hm z (List.mem_cons_of_mem _ hz)) (by omega) he
      | some y =>
        rw [List.filterMap_cons, hF] at he
        refine ⟨by omega, ih (acc ++ [y]) (fun z hz => hm z (List.mem_cons_of_mem _ hz)) (by rw [List.length_append]; simp; omega) ?_⟩
        rw [List.append_assoc]
        exact he
  exact gen its [] (fun d h => h) (by simpa using hlen) (by simp)
theorem callW_of {sp : DSp} {ds : List D} {S : Sto} {k : D → Sto → Prop} {x : Exc → Sto → Prop} (h : sp ds S k x) : callW sp ds S k x := ⟨k, x, fun _ _ q => q, fun _ _ q => q, h⟩
end Mn
namespace Mn
open PySem L2
section
variable {S : Sto} {i j : Int} {x y : Str} {b c : Bool} {ds es : List D} {d e : D} {a : Addr} {m : Bool} {k : D → Sto → Prop} {G : Gc} {w : XW} {σ : Env}
theorem x_add : binR .Add (.int i) (.int j) S = some (.val (.int (i + j))) := rfl
theorem x_sub : binR .Sub (.int i) (.int j) S = some (.val (.int (i - j))) := rfl
theorem x_addS : binR .Add (.str x) (.str y) S = if x.length + y.length ≤ sizeLine then some (.val (.str (x ++ y))) else none := rfl
theorem x_addT : binR .Add (.tup ds) (.tup es) S = if ds.length + es.length ≤ sizeLine then some (.val (.tup (ds ++ es))) else none := rfl
theorem x_addL : binR .Add (.lst ds) (.lst es) S = if ds.length + es.length ≤ sizeLine then some (.newL (ds ++ es)) else none := rfl
theorem x_mul : binR .Mult (.int i) (.int j) S = if ((-(2 ^ 64) < i ∧ i < 2 ^ 64) ∨ (-(2 ^ 64) < j ∧ j < 2 ^ 64)) then some (.val (.int (i * j))) else none := rfl
theorem x_mulS : binR .Mult (.str x) (.int i) S = if (1 ≤ i ∧ i ≤ 1000 ∧ x.length ≤ 1000) then some (.val (.str (repS x i.toNat))) else none := rfl
theorem x_mulL : binR .Mult (.lst ds) (.int i) S = if (0 ≤ i ∧ i ≤ 1000 ∧ ds.length ≤ 1000) then some (.newL (List.replicate i.toNat ds).flatten) else none := rfl
theorem x_div : binR .FloorDiv (.int i) (.int j) S = if (0 < j ∧ j < 1073741824) then some (.val (.int (i / j))) else none := rfl
theorem x_mod : binR .Mod (.int i) (.int j) S = if 0 < j then some (.val (.int (i % j))) else none := rfl
theorem x_pow : binR .Pow (.int i) (.int j) S = if (0 ≤ j ∧ j ≤ 1000000 ∧ i.natAbs < 2 ^ 64) then some (.val (.int (i ^ j.toNat))) else none := rfl
theorem x_lt : cmpR .Lt (.int i) (.int j) S = some (decide (i < j)) := rfl
theorem x_le : cmpR .LtE (.int i) (.int j) S = some (decide (i ≤ j)) := rfl
theorem x_gt : cmpR .Gt (.int i) (.int j) S = some (decide (j < i)) := rfl
theorem x_ge : cmpR .GtE (.int i) (.int j) S = some (decide (j ≤ i)) := rfl
theorem x_eqD : cmpR .Eq d e S = eqR d e S := by cases d <;> cases e <;> rfl
theorem x_neD : cmpR .NotEq d e S = (eqR d e S).map (!·) := by cases d <;> cases e <;> rfl
theorem x_in : cmpR .In d e S = inR d e S := by cases d <;> cases e <;> rfl
theorem x_notIn : cmpR .NotIn d e S = (inR d e S).map (!·) := by cases d <;> cases e <;> rfl
theorem x_is : cmpR .Is d e S = isR d e := by cases d <;> cases e <;> rfl
theorem x_isNot : cmpR .IsNot d e S = (isR d e).map (!·) := by cases d <;> cases e <;> rfl
theorem g?_pos {α : Type} {c : Prop} [Decidable c] {r : α} (h : c) : g? c r = some r := by unfold g?; rw [if_pos h]
theorem x_eqI : eqR (.int i) (.int j) S = some (decide (i = j)) := by
  unfold eqR eqR0
  rw [g?_pos ⟨rfl, rfl, Nat.zero_le _⟩]
  rfl
theorem x_eqS : eqR (.str x) (.str y) S = some (decide (x = y)) := by
  unfold eqR eqR0
  rw [g?_pos ⟨rfl, rfl, Nat.zero_le _⟩]
  rfl
theorem x_eqB : eqR (.bl b) (.bl c) S = some (b == c) := by
  unfold eqR eqR0
  rw [g?_pos ⟨rfl, rfl, Nat.zero_le _⟩]
  rfl
theorem x_isNN : isR .non .non = some true := rfl
theorem x_isBN : isR (.bl b) .non = some false := rfl
theorem x_isIN : isR (.int i) .non = some false := rfl
theorem x_isSN : isR (.str x) .non = some false := rfl
theorem x_isTN : isR (.tup ds) .non = some false := rfl
theorem x_isLN : isR (.lst ds) .non = some false := rfl
theorem x_isRN : isR (.ref a) .non = some false := rfl
theorem x_isBB : isR (.bl b) (.bl c) = some (decide (b = c)) := rfl
theorem x_lenS : bltR .len [.str x] S = if x.length ≤ sizeLine then some (.val (.int x.length)) else none := rfl
theorem x_lenT : bltR .len [.tup ds] S = some (.val (.int ds.length)) := rfl
theorem x_lenL : bltR .len [.lst ds] S = some (.val (.int ds.length)) := rfl
theorem x_lenR (h : S a = some (.lst ds)) : bltR .len [.ref a] S = some (.val (.int ds.length)) := by
  show (match lstAt S a with | some ds => _ | none => _) = _
  rw [lstAt_of h]
theorem x_abs : bltR .abs [.int i] S = some (.val (.int (if i < 0 then -i else i))) := rfl
theorem x_intI : bltR .int [.int i] S = some (.val (.int i)) := rfl
theorem x_intB : bltR .int [.bl b] S = some (.val (.int (if b = true then 1 else 0))) := rfl
theorem x_max : bltR .max [.int i, .int j] S = some (.val (.int (if j > i then j else i))) := rfl
theorem x_allL : bltR .all [.lst ds] S = (allB S ds).map fun b => .val (.bl b) := rfl
theorem x_sumR (h : S a = some (.lst ds)) : bltR .sum [.ref a] S = (sumI ds).map fun i => .val (.int i) := by
  show (match lstAt S a with | some ds => _ | none => none) = _
  rw [lstAt_of h]
theorem x_sumL : bltR .sum [.lst ds] S = (sumI ds).map fun i => .val (.int i) := rfl
theorem x_listL : bltR .list [.lst ds] S = some (.newL ds) := rfl
theorem x_listT : bltR .list [.tup ds] S = some (.newL ds) := rfl
theorem x_isi : bltR .isinstance [d, e] S = (isiR S d e).map fun b => .val (.bl b) := rfl
theorem x_app (h : S a = some (.lst ds)) : bmR .append (.ref a) [d] S = if ds.length < sizeLine then some (.upd .non (put S a (.lst (ds ++ [d])))) else none := by
  show (match lstAt S a with | some ds => _ | none => none) = _
  rw [lstAt_of h]; rfl
theorem x_appT (h : S a = some (.lst ds)) : bmT .append (.ref a) S = true := by
  show (lstAt S a).isSome = true
  rw [lstAt_of h]; rfl
theorem x_truB : tru S (.bl b) = some b := rfl
theorem x_truI : tru S (.int i) = some (i != 0) := rfl
theorem x_truL : tru S (.lst ds) = some (!ds.isEmpty) := rfl
theorem x_truT : tru S (.tup ds) = some (!ds.isEmpty) := rfl
theorem x_truN : tru S .non = some false := rfl
theorem x_idxS : idxR (.str x) (.int i) S = if x.length ≤ sizeLine then (atI x.cps.toList i).map (fun c => .str ⟨#[c]⟩) else none := rfl
theorem x_idxL : idxR (.lst ds) (.int i) S = atI ds i := rfl
theorem x_idxT : idxR (.tup ds) (.int i) S = atI ds i := rfl
theorem x_idxR (h : S a = some (.lst ds)) : idxR (.ref a) (.int i) S = atI ds i := by
  show (match lstAt S a with | some ds => atI ds i | none => _) = _
  rw [lstAt_of h]
theorem x_slS (lo hi : Option Int) : slcR (.str x) lo hi S = if x.length ≤ sizeLine then some (.val (.str (cutS x lo hi))) else none := rfl
theorem x_slT (lo hi : Option Int) : slcR (.tup ds) lo hi S = some (.val (.tup (cutD ds lo hi))) := rfl
theorem x_slL (lo hi : Option Int) : slcR (.lst ds) lo hi S = some (.newL (cutD ds lo hi)) := rfl
theorem x_it0L : itS 0 [.lst ds] S = some (ds, fun _ => True) := rfl
theorem x_it0T : itS 0 [.tup ds] S = some (ds, fun _ => True) := rfl
theorem x_it0S : itS 0 [.str x] S = some (x.cps.toList.map fun c => .str ⟨#[c]⟩, fun _ => True) := rfl
theorem x_it0C {ns : List Int} : itS 0 [.scr ns] S = some (ns.map .int, fun _ => True) := rfl
theorem x_it1 : itS 1 [.int j] S = if (-(2 ^ 62) ≤ j ∧ j < 2 ^ 62) then some ((List.range j.toNat).map fun (k : Nat) => .int (k : Int), fun _ => True) else none := by
  show (if _ then _ else none : Option _).map _ = _
  split <;> rfl
theorem x_it2L : itS 2 [.lst ds] S = some (enmL 0 ds, fun _ => True) := rfl
theorem x_val : fin m (.val d) S k = k d S := rfl
theorem x_upd {S' : Sto} : fin m (.upd d S') S k = k d S' := rfl
theorem x_newF : fin false (.newL ds) S k = k (.lst ds) S := rfl
theorem x_newT : fin true (.newL ds) S k = ∀ p, S p = none → k (.ref p) (put S p (.lst ds)) := by
  unfold fin
  exact if_pos rfl
theorem x_nm {n : Nat} : asgT (.nm n) d σ = some (σ.set n (some d)) := by unfold asgT; rfl
theorem x_tp {ts : List MT} : asgT (.tp ts) (.tup ds) σ = asgTs ts ds σ := by rw [asgT]
theorem x_tps {t : MT} {ts : List MT} : asgTs (t :: ts) (d :: ds) σ = (asgT t d σ).bind fun σ' => asgTs ts ds σ' := by
  rw [asgTs]
  cases asgT t d σ <;> rfl
theorem x_tp0 : asgTs [] [] σ = some σ := by rw [asgTs]
theorem x_ite {c : Prop} [Decidable c] {r : R} {P : R → Prop} : (∃ r', (if c then some r else none) = some r' ∧ P r') ↔ (c ∧ P r) := by
  constructor
  · rintro ⟨r', h, p⟩
    split at h
    · cases h; exact ⟨‹_›, p⟩
    · cases h
  · rintro ⟨h, p⟩
    exact ⟨r, by rw [if_pos h], p⟩
theorem x_iteD {c : Prop} [Decidable c] {α : Type} {r : Option α} {P : α → Prop} : (∃ r', (if c then r else none) = some r' ∧ P r') ↔ (c ∧ ∃ r', r = some r' ∧ P r') := by
  constructor
  · rintro ⟨r', h, p⟩
    split at h
    · exact ⟨‹_›, r', h, p⟩
    · cases h
  · rintro ⟨h, r', e, p⟩
    exact ⟨r', by rw [if_pos h]; exact e, p⟩
theorem x_some {α : Type} {r : α} {P : α → Prop} : (∃ r', some r = some r' ∧ P r') ↔ P r := ⟨fun ⟨_, h, p⟩ => by cases h; exact p, fun p => ⟨r, rfl, p⟩⟩
theorem x_some2 {α : Type} {r : α} {P : α → Prop} : (∃ r', some (some r) = some (some r') ∧ P r') ↔ P r := ⟨fun ⟨_, h, p⟩ => by cases h; exact p, fun p => ⟨r, rfl, p⟩⟩
theorem x_map {α β : Type} {f : α → β} {o : Option α} {P : β → Prop} : (∃ r', o.map f = some r' ∧ P r') ↔ (∃ a, o = some a ∧ P (f a)) := by
  constructor
  · rintro ⟨r', h, p⟩
    obtain ⟨a, h1, rfl⟩ := Option.map_eq_some_iff.mp h
    exact ⟨a, h1, p⟩
  · rintro ⟨a, h, p⟩
    exact ⟨f a, by rw [h]; rfl, p⟩
theorem x_eqInt {P : Int → Prop} : (∃ r, D.int i = D.int r ∧ P r) ↔ P i := ⟨fun ⟨_, h, p⟩ => by cases h; exact p, fun p => ⟨i, rfl, p⟩⟩
end
end Mn
namespace Mn
open PySem L2
def spPure (f : List D → Option D) : DSp := fun ds S Q _ => ∃ d, f ds = some d ∧ Q d S
theorem x_pure {f : List D → Option D} {ds : List D} {S : Sto} {k : D → Sto → Prop} {x : Exc → Sto → Prop} : callW (spPure f) ds S k x ↔ ∃ d, f ds = some d ∧ k d S := by
  constructor
  · rintro ⟨Q, X, h1, h2, d, h3, h4⟩
    exact ⟨d, h3, h1 _ _ h4⟩
  · rintro ⟨d, h3, h4⟩
    exact ⟨k, x, fun _ _ q => q, fun _ _ q => q, d, h3, h4⟩
/-- a new list comes back, to be changed -/
def spNew (f : List D → Option (List D)) : DSp := fun ds S Q _ => ∃ l, f ds = some l ∧ ∀ p, S p = none → Q (.ref p) (put S p (.lst l))
theorem x_new {f : List D → Option (List D)} {ds : List D} {S : Sto} {k : D → Sto → Prop} {x : Exc → Sto → Prop} : callW (spNew f) ds S k x ↔ ∃ l, f ds = some l ∧ ∀ p, S p = none → k (.ref p) (put S p (.lst l)) := by
  constructor
  · rintro ⟨Q, X, h1, h2, d, h3, h4⟩
    exact ⟨d, h3, fun p hp => h1 _ _ (h4 p hp)⟩
  · rintro ⟨d, h3, h4⟩
    exact ⟨k, x, fun _ _ q => q, fun _ _ q => q, d, h3, h4⟩
theorem x_fn {n m : Nat} {sp0 : DSp} {P : DSp → Prop} : (∃ sp, some (n, sp0) = some (m, sp) ∧ P sp) ↔ (n = m ∧ P sp0) := by
  constructor
  · rintro ⟨sp, h, p⟩; cases h; exact ⟨rfl, p⟩
  · rintro ⟨rfl, p⟩; exact ⟨sp0, rfl, p⟩
theorem x_ifD {c : Prop} [Decidable c] {P : D → Prop} {d : D} : (∃ r', (if c then some d else none) = some r' ∧ P r') ↔ (c ∧ P d) := by
  constructor
  · rintro ⟨r', h, p⟩
    split at h
    · cases h; exact ⟨‹_›, p⟩
    · cases h
  · rintro ⟨h, p⟩
    exact ⟨d, by rw [if_pos h], p⟩
/-- the feed of a law: at least 270 numbers below 55440 -/
structure Feed (fs : List Int) : Prop where
  lo : 270 ≤ fs.length
  hi : fs.length ≤ 400
  nn : ∀ v ∈ fs, 0 ≤ v ∧ v < 55440
def fdD (fs : List Int) : D := .lst (fs.map .int)
def spFeed : DSp := fun ds S Q _ => ∃ ns, ds = [.scr ns] ∧ ∀ fs, Feed fs → Q (fdD fs) S
end Mn
namespace Mn
open PySem L2
section
variable {S : Sto} {i : Int} {ds es : List D} {d e : D} {a : Addr} {o : MO}
theorem x_lenP : bltR .len [.ref a] (put S a (.lst ds)) = some (.val (.int ds.length)) := x_lenR put_same
theorem x_sumP : bltR .sum [.ref a] (put S a (.lst ds)) = (sumI ds).map fun i => .val (.int i) := x_sumR put_same
theorem x_appP : bmR .append (.ref a) [d] (put S a (.lst ds)) = if ds.length < sizeLine then some (.upd .non (put S a (.lst (ds ++ [d])))) else none := by
  rw [x_app put_same, put_put]
theorem x_appTP : bmT .append (.ref a) (put S a (.lst ds)) = true := x_appT put_same
theorem x_idxP : idxR (.ref a) (.int i) (put S a (.lst ds)) = atI ds i := x_idxR put_same
theorem x_frzP {P : Addr → List D → Prop} : (∃ p l, D.ref a = .ref p ∧ put S a (.lst ds) p = some (.lst l) ∧ P p l) ↔ P a ds := by
  constructor
  · rintro ⟨p, l, h1, h2, h3⟩
    cases h1
    rw [put_same] at h2
    cases h2
    exact h3
  · intro h
    exact ⟨a, ds, rfl, put_same, h⟩
end
theorem sumI_map : ∀ fs : List Int, sumI (fs.map .int) = some fs.sum
  | [] => rfl
  | f :: fs => by
    show (sumI (fs.map .int)).map (f + ·) = _
    rw [sumI_map fs, List.sum_cons]
    rfl
theorem atI_map {α β : Type} {f : α → β} {l : List α} {i : Int} : atI (l.map f) i = (atI l i).map f := by
  unfold atI
  rw [List.length_map]
  cases ixN l.length i with
  | none => rfl
  | some j => simp
theorem atI_nn {α : Type} {l : List α} {i : Int} (h0 : 0 ≤ i) (h1 : i < l.length) : atI l i = l[i.toNat]? := by
  unfold atI ixN
  rw [if_pos h0, if_pos h1]
  rfl
end Mn
namespace Mn
open PySem L2
section
variable {S : Sto} {i : Int} {x : Str} {b : Bool} {ds : List D}
theorem i_N_tuple : isiR S .non (.ty "tuple") = some false := by simp [isiR, tyN, g?, isT]
theorem i_N_list : isiR S .non (.ty "list") = some false := by simp [isiR, tyN, g?, isT]
theorem i_N_bool : isiR S .non (.ty "bool") = some false := by simp [isiR, tyN, g?, isT]
theorem i_N_int : isiR S .non (.ty "int") = some false := by simp [isiR, tyN, g?, isT]
theorem i_N_str : isiR S .non (.ty "str") = some false := by simp [isiR, tyN, g?, isT]
theorem i_N_tl : isiR S .non (.tup [.ty "tuple", .ty "list"]) = some false := by simp [isiR, tyN, g?, isT]
theorem i_B_tuple : isiR S (.bl b) (.ty "tuple") = some false := by simp [isiR, tyN, g?, isT]
theorem i_B_list : isiR S (.bl b) (.ty "list") = some false := by simp [isiR, tyN, g?, isT]
theorem i_B_bool : isiR S (.bl b) (.ty "bool") = some true := by simp [isiR, tyN, g?, isT]
theorem i_B_int : isiR S (.bl b) (.ty "int") = some true := by simp [isiR, tyN, g?, isT]
theorem i_B_str : isiR S (.bl b) (.ty "str") = some false := by simp [isiR, tyN, g?, isT]
theorem i_B_tl : isiR S (.bl b) (.tup [.ty "tuple", .ty "list"]) = some false := by simp [isiR, tyN, g?, isT]
theorem i_I_tuple : isiR S (.int i) (.ty "tuple") = some false := by simp [isiR, tyN, g?, isT]
theorem i_I_list : isiR S (.int i) (.ty "list") = some false := by simp [isiR, tyN, g?, isT]
theorem i_I_bool : isiR S (.int i) (.ty "bool") = some false := by simp [isiR, tyN, g?, isT]
theorem i_I_int : isiR S (.int i) (.ty "int") = some true := by simp [isiR, tyN, g?, isT]
theorem i_I_str : isiR S (.int i) (.ty "str") = some false := by simp [isiR, tyN, g?, isT]
theorem i_I_tl : isiR S (.int i) (.tup [.ty "tuple", .ty "list"]) = some false := by simp [isiR, tyN, g?, isT]
theorem i_S_tuple : isiR S (.str x) (.ty "tuple") = some false := by simp [isiR, tyN, g?, isT]
theorem i_S_list : isiR S (.str x) (.ty "list") = some false := by simp [isiR, tyN, g?, isT]
theorem i_S_bool : isiR S (.str x) (.ty "bool") = some false := by simp [isiR, tyN, g?, isT]
theorem i_S_int : isiR S (.str x) (.ty "int") = some false := by simp [isiR, tyN, g?, isT]
theorem i_S_str : isiR S (.str x) (.ty "str") = some true := by simp [isiR, tyN, g?, isT]
theorem i_S_tl : isiR S (.str x) (.tup [.ty "tuple", .ty "list"]) = some false := by simp [isiR, tyN, g?, isT]
theorem i_T_tuple : isiR S (.tup ds) (.ty "tuple") = some true := by simp [isiR, tyN, g?, isT]
theorem i_T_list : isiR S (.tup ds) (.ty "list") = some false := by simp [isiR, tyN, g?, isT]
theorem i_T_bool : isiR S (.tup ds) (.ty "bool") = some false := by simp [isiR, tyN, g?, isT]
theorem i_T_int : isiR S (.tup ds) (.ty "int") = some false := by simp [isiR, tyN, g?, isT]
theorem i_T_str : isiR S (.tup ds) (.ty "str") = some false := by simp [isiR, tyN, g?, isT]
theorem i_T_tl : isiR S (.tup ds) (.tup [.ty "tuple", .ty "list"]) = some true := by simp [isiR, tyN, g?, isT]
theorem i_L_tuple : isiR S (.lst ds) (.ty "tuple") = some false := by simp [isiR, tyN, g?, isT]
theorem i_L_list : isiR S (.lst ds) (.ty "list") = some true := by simp [isiR, tyN, g?, isT]
theorem i_L_bool : isiR S (.lst ds) (.ty "bool") = some false := by simp [isiR, tyN, g?, isT]
theorem i_L_int : isiR S (.lst ds) (.ty "int") = some false := by simp [isiR, tyN, g?, isT]
theorem i_L_str : isiR S (.lst ds) (.ty "str") = some false := by simp [isiR, tyN, g?, isT]
theorem i_L_tl : isiR S (.lst ds) (.tup [.ty "tuple", .ty "list"]) = some true := by simp [isiR, tyN, g?, isT]
end
end Mn
namespace Mn
open PySem L2
section
variable {S : Sto} {i : Int} {ds es : List D} {d e j v : D} {a : Addr} {o : MO} {k : D → Sto → Prop}
theorem r_len : bltR .len [.ref a] S = match S a with
    | some (.lst ds) => some (.val (.int ds.length))
    | some (.dct kvs) => some (.val (.int kvs.length))
    | some (.ldc _ _ kvs) => some (.val (.int kvs.length))
    | _ => none := by
  show (match lstAt S a with | some ds => _ | none => _) = _
  unfold lstAt dctAt
  cases hS : S a with
  | none => simp [hS]
  | some m => cases m <;> simp [hS, g?]
theorem r_idx : idxR (.ref a) j S = match S a with
    | some (.lst ds) => (match j with
      | .int i => atI ds i
      | _ => none)
    | some (.dct kvs) => (keyOf j).bind (gv kvs)
    | some (.ldc _ _ kvs) => (keyOf j).bind (gv kvs)
    | some (.dcT kvs) => (keyT j).bind (gv kvs)
    | _ => none := by
  have e : idxR (.ref a) j S = (match seqOf S (.ref a) with
    | some ds => (match j with
      | .int i => atI ds i
      | _ => none)
    | none => (dGet S (.ref a) j).bind id) := by cases j <;> rfl
  rw [e]
  show (match lstAt S a with | some ds => _ | none => _) = _
  unfold lstAt dGet
  cases hS : S a with
  | none => simp [hS]
  | some m =>
    cases m with
    | dct kvs =>
      simp only [hS]
      cases keyOf j <;> rfl
    | ldc o ks kvs =>
      simp only [hS]
      cases keyOf j <;> rfl
    | dcT kvs =>
      simp only [hS]
      cases keyT j <;> rfl
    | _ => simp [hS]
theorem r_in : inR d (.ref a) S = match S a with
    | some (.lst ds) => g? (flat d = true ∧ ds.all flat = true) (ds.any fun z => deq z d)
    | some (.dct kvs) => (keyOf d).map fun k => (gv kvs k).isSome
    | some (.ldc _ _ kvs) => (keyOf d).map fun k => (gv kvs k).isSome
    | some (.dcT kvs) => (keyT d).map fun k => (gv kvs k).isSome
    | _ => none := by
  have e : inR d (.ref a) S = (match seqOf S (.ref a) with
    | some ds => g? (flat d = true ∧ ds.all flat = true) (ds.any fun z => deq z d)
    | none => (dGet S (.ref a) d).map Option.isSome) := by cases d <;> rfl
  rw [e]
  show (match lstAt S a with | some ds => _ | none => _) = _
  unfold lstAt dGet
  cases hS : S a with
  | none => simp [hS]
  | some m =>
    cases m with
    | dct kvs =>
      simp only [hS]
      cases keyOf d <;> rfl
    | ldc o ks kvs =>
      simp only [hS]
      cases keyOf d <;> rfl
    | dcT kvs =>
      simp only [hS]
      cases keyT d <;> rfl
    | _ => simp [hS]
theorem r_get : bmR .get (.ref a) [j, d] S = match S a with
    | some (.dct kvs) => (keyOf j).map fun k => .val ((gv kvs k).getD d)
    | some (.ldc _ _ kvs) => (keyOf j).map fun k => .val ((gv kvs k).getD d)
    | some (.dcT kvs) => (keyT j).map fun k => .val ((gv kvs k).getD d)
    | _ => none := by
  show (dGet S (.ref a) j).map _ = _
  unfold dGet
  cases hS : S a with
  | none => simp [hS]
  | some m =>
    cases m with
    | dct kvs =>
      simp only [hS]
      cases keyOf j <;> rfl
    | ldc o ks kvs =>
      simp only [hS]
      cases keyOf j <;> rfl
    | dcT kvs =>
      simp only [hS]
      cases keyT j <;> rfl
    | _ => simp [hS]
theorem r_getT : bmT .get (.ref a) S = match S a with
    | some (.dct _) => true
    | some (.dcT _) => true
    | _ => false := rfl
theorem r_setd : bmR .setdefault (.ref a) [j, d] S = match S a with
    | some (.dct kvs) => (match keyOf j with
      | some k => if kvs.length < sizeLine then some (match gv kvs k with
        | some v => .val v
        | none => .upd d (put S a (.dct (gp kvs k d)))) else none
      | none => none)
    | _ => none := by
  show (match dctW S a, keyOf j with
    | some kvs, some k => _
    | _, _ => none) = _
  unfold dctW
  cases hS : S a with
  | none => simp
  | some m =>
    cases m with
    | dct kvs =>
      dsimp only
      cases keyOf j <;> rfl
    | _ => simp
theorem r_setdT : bmT .setdefault (.ref a) S = match S a with
    | some (.dct _) => true
    | _ => false := by
  show (dctW S a).isSome = _
  unfold dctW
  cases S a with
  | none => rfl
  | some m => cases m <;> rfl
theorem r_app : bmR .append (.ref a) [d] S = match S a with
    | some (.lst ds) => if ds.length < sizeLine then some (.upd .non (put S a (.lst (ds ++ [d])))) else none
    | _ => none := by
  show (match lstAt S a with | some ds => _ | none => none) = _
  unfold lstAt
  cases S a with
  | none => rfl
  | some m => cases m <;> rfl
theorem r_appT : bmT .append (.ref a) S = match S a with
    | some (.lst _) => true
    | _ => false := by
  show (lstAt S a).isSome = _
  unfold lstAt
  cases S a with
  | none => rfl
  | some m => cases m <;> rfl
theorem r_six : sixR (.ref a) j v S = match S a with
    | some (.lst ds) => (match j with
      | .int i => (match ixN ds.length i with
        | some j => some (put S a (.lst (ds.set j v)))
        | none => none)
      | _ => none)
    | some (.dct kvs) => (match keyOf j with
      | some k => if kvs.length < sizeLine then some (put S a (.dct (gp kvs k v))) else none
      | none => none)
    | some (.dcT kvs) => (match keyT j with
      | some k => if kvs.length < sizeLine then some (put S a (.dcT (gp kvs k v))) else none
      | none => none)
    | _ => none := rfl
theorem r_it : itS 0 [.ref a] S = match S a with
    | some (.lst ds) => some (ds, fun S' => S' a = some (.lst ds))
    | some (.ldc o ks kvs) => if (kvs.all fun kv => kOk kv.1) = true then some (kvs.map fun kv => keyD kv.1, fun S' => S' a = some (.ldc o ks kvs)) else none
    | _ => none := rfl
theorem r_it2 : itS 2 [.ref a] S = match S a with
    | some (.lst ds) => some (enmL 0 ds, fun S' => S' a = some (.lst ds))
    | _ => none := by
  have e : itS 2 [.ref a] S = (match lstAt S a, itR (.ref a) S with
    | some _, some its => some (enmL 0 its.1, its.2)
    | _, _ => none) := rfl
  rw [e]
  unfold lstAt itR
  cases hS : S a with
  | none => simp [hS]
  | some m => cases m <;> simp [hS]
theorem r_sorted : bltR .sorted [.ref a] S = match S a with
    | some (.lst ds) => (match strsOf ds with
      | some l => if l.length < 64 then some (.newL ((srtS l).map .str)) else none
      | none => none)
    | some (.dct kvs) => (match ksOf kvs with
      | some l => if l.length < 64 ∧ l.all PySem.PyData.strOk = true then some (.newL ((srtS l).map .str)) else none
      | none => none)
    | some (.ldc _ _ kvs) => (match ksOf kvs with
      | some l => if l.length < 64 ∧ l.all PySem.PyData.strOk = true then some (.newL ((srtS l).map .str)) else none
      | none => none)
    | some (.dcT kvs) => (match prsOf kvs with
      | some l => if l.all prOk = true then some (.newL ((srtP l).map prD)) else none
      | none => none)
    | _ => none := by
  show (match lstAt S a with | some ds => _ | none => _) = _
  unfold lstAt dctAt dcTAt
  cases hS : S a with
  | none => simp [hS]
  | some m => cases m <;> first | (simp only [hS]; done) | (simp only [hS]; rfl) | (simp only [hS]; split <;> simp_all [g?])
theorem r_list : bltR .list [.ref a] S = match S a with
    | some (.lst ds) => some (.newL ds)
    | _ => none := by
  show (lstAt S a).map _ = _
  unfold lstAt
  cases S a with
  | none => rfl
  | some m => cases m <;> rfl
theorem r_dict : bltR .dict [.ref a] S = match S a with
    | some (.dct kvs) => some (.newD kvs)
    | some (.ldc _ _ kvs) => some (.newD kvs)
    | _ => none := by
  show (dctAt S a).map _ = _
  unfold dctAt
  cases S a with
  | none => rfl
  | some m => cases m <;> rfl
theorem r_sl (lo hi : Option Int) : slcR (.ref a) lo hi S = match S a with
    | some (.lst ds) => some (.newL (cutD ds lo hi))
    | _ => none := by
  show (match lstAt S a with | some ds => _ | none => none) = _
  unfold lstAt
  cases S a with
  | none => rfl
  | some m => cases m <;> rfl
theorem r_tru : tru S (.ref a) = match S a with
    | some (.lst ds) => some (!ds.isEmpty)
    | _ => none := by
  show (lstAt S a).map _ = _
  unfold lstAt
  cases S a with
  | none => rfl
  | some m => cases m <;> rfl
theorem r_newD {m : Bool} {kvs : List (Key × D)} : fin m (.newD kvs) S k = ∀ p, S p = none → k (.ref p) (put S p (.dct kvs)) := rfl
theorem r_att {fl : Str → Str → Bool} {f : Str} {P : D → Prop} : (∃ b c fs d, D.ref a = .ref b ∧ S b = some (.ins c fs) ∧ fl c f = true ∧ fs.lookup f = some d ∧ P d) ↔ (match S a with
    | some (.ins c fs) => fl c f = true ∧ ∃ d, fs.lookup f = some d ∧ P d
    | _ => False) := by
  constructor
  · rintro ⟨b, c, fs, d, e, h1, h2, h3, h4⟩
    cases e
    rw [h1]
    exact ⟨h2, d, h3, h4⟩
  · intro h
    split at h
    · rename_i c fs e
      obtain ⟨h1, d, h2, h3⟩ := h
      exact ⟨a, c, fs, d, rfl, e, h1, h2, h3⟩
    · exact h.elim
theorem r_self {P : Addr → List (Str × D) → Prop} {c : Str} : (∃ b fs, D.ref a = .ref b ∧ S b = some (.ins c fs) ∧ P b fs) ↔ (∃ fs, S a = some (.ins c fs) ∧ P a fs) := by
  constructor
  · rintro ⟨b, fs, e, h⟩
    cases e
    exact ⟨fs, h⟩
  · rintro ⟨fs, h⟩
    exact ⟨a, fs, rfl, h⟩
theorem r_sat {fl : Str → Str → Bool} {f : Str} {P : Str → List (Str × D) → Addr → Prop} : (∃ b c fs, D.ref a = .ref b ∧ S b = some (.ins c fs) ∧ fl c f = true ∧ fs.length < 1000 ∧ P c fs b) ↔ (∃ c fs, S a = some (.ins c fs) ∧ fl c f = true ∧ fs.length < 1000 ∧ P c fs a) := by
  constructor
  · rintro ⟨b, c, fs, e, h⟩
    cases e
    exact ⟨c, fs, h⟩
  · rintro ⟨c, fs, h⟩
    exact ⟨a, c, fs, rfl, h⟩
theorem r_ins {c : Str} {fs : List (Str × D)} {P : List (Str × D) → Prop} : (∃ l, some (MO.ins c fs) = some (.ins c l) ∧ P l) ↔ P fs := by
  constructor
  · rintro ⟨l, e, h⟩; cases e; exact h
  · intro h; exact ⟨fs, rfl, h⟩
theorem r_ins2 {c : Str} {fs : List (Str × D)} {P : Str → List (Str × D) → Prop} : (∃ c' l, some (MO.ins c fs) = some (.ins c' l) ∧ P c' l) ↔ P c fs := by
  constructor
  · rintro ⟨c', l, e, h⟩; cases e; exact h
  · intro h; exact ⟨c, fs, rfl, h⟩
theorem r_some2 {α : Type} {n m : Nat} {F0 : α} {P : α → Prop} : (∃ F, some (n, F0) = some (m, F) ∧ P F) ↔ (n = m ∧ P F0) := by
  constructor
  · rintro ⟨F, e, h⟩; cases e; exact ⟨rfl, h⟩
  · rintro ⟨rfl, h⟩; exact ⟨F0, rfl, h⟩
theorem r_aga {fl : Str → Str → Bool} {f : Str} {P : Str → Int → Addr → Prop} : (∃ b c fs i, D.ref a = .ref b ∧ S b = some (.ins c fs) ∧ fl c f = true ∧ fs.lookup f = some (.int i) ∧ P c i b) ↔ (∃ c fs, S a = some (.ins c fs) ∧ fl c f = true ∧ ∃ i, fs.lookup f = some (.int i) ∧ P c i a) := by
  constructor
  · rintro ⟨b, c, fs, i, e, h1, h2, h3, h4⟩; cases e; exact ⟨c, fs, h1, h2, i, h3, h4⟩
  · rintro ⟨c, fs, h1, h2, i, h3, h4⟩; exact ⟨a, c, fs, i, rfl, h1, h2, h3, h4⟩
theorem r_int {P : Int → Prop} : (∃ j, some (D.int i) = some (.int j) ∧ P j) ↔ P i := by
  constructor
  · rintro ⟨j, e, h⟩; cases e; exact h
  · intro h; exact ⟨i, rfl, h⟩
theorem r_ags {P : Addr → List (Key × D) → Key → D → Prop} : (∃ b kvs key v, D.ref a = .ref b ∧ S b = some (.dct kvs) ∧ keyOf j = some key ∧ gv kvs key = some v ∧ P b kvs key v) ↔ (∃ kvs, S a = some (.dct kvs) ∧ ∃ key, keyOf j = some key ∧ ∃ v, gv kvs key = some v ∧ P a kvs key v) := by
  constructor
  · rintro ⟨b, kvs, key, v, e, h1, h2, h3, h4⟩; cases e; exact ⟨kvs, h1, key, h2, v, h3, h4⟩
  · rintro ⟨kvs, h1, key, h2, v, h3, h4⟩; exact ⟨a, kvs, key, v, rfl, h1, h2, h3, h4⟩
theorem r_dct {kvs : List (Key × D)} {P : List (Key × D) → Prop} : (∃ l, some (MO.dct kvs) = some (.dct l) ∧ P l) ↔ P kvs := by
  constructor
  · rintro ⟨l, e, h⟩; cases e; exact h
  · intro h; exact ⟨kvs, rfl, h⟩
theorem r_new {S : Sto} {p b : Addr} {o : MO} (h : S p = none) (q : S b = some o) : b ≠ p := fun e => by rw [e, h] at q; cases q
end
end Mn
namespace Mn
open PySem L2
structure Ent where
  d : He.DefD
  ps : List Str
  N : List Str
  ms : List MS
  sp : DSp
def fnB (N ps : List Str) (sc : Scope) : Bool := decide (sc.kind = .function) && (decide (sc.isCoroutine = false) && (decide (sc.isGenerator = false) && (decide N.Nodup && (decide (N.take ps.length = ps) && (ps.all (fun x => decide (sc.names.lookup x = some .local ∨ sc.names.lookup x = some .cell)) && sc.names.all fun y => decide (y.2 ≠ .free))))))
theorem fnB_ok {N ps : List Str} {sc : Scope} (h : fnB N ps sc = true) : FnScope N ps sc := by
  unfold fnB at h
  obtain ⟨h1, h⟩ := He.ba h
  obtain ⟨h2, h⟩ := He.ba h
  obtain ⟨h3, h⟩ := He.ba h
  obtain ⟨h4, h⟩ := He.ba h
  obtain ⟨h5, h⟩ := He.ba h
  obtain ⟨h6, h7⟩ := He.ba h
  exact ⟨of_decide_eq_true h1, of_decide_eq_true h2, of_decide_eq_true h3, of_decide_eq_true h4, of_decide_eq_true h5, fun x hx => of_decide_eq_true (List.all_eq_true.mp h6 x hx), fun x hx => of_decide_eq_true (List.all_eq_true.mp h7 x hx)⟩
/-- the def's text is the reading's -/
def Ent.chk (e : Ent) : Bool := fnB e.N e.ps e.d.scope && (matchSs e.N e.d.scope e.ms e.d.body && ((e.d.dfl.isEmpty && e.d.kwd.isEmpty)))
def Ent.binds (e : Ent) : Prop := ∀ (kV doc pm : Value) (an : Option Addr) (cdv ct : Value) (us : List Value), us.length = e.ps.length → bindArgs (PySem.W.fnOf e.d.name e.d.qual e.d.params e.d.body e.d.scope .none kV doc pm an cdv ct) ⟨us, []⟩ = pure (e.ps.zip us)
/-- the module's constants, fields, exceptions -/
structure Cfg where
  con : Str → Option D
  fld : Str → Str → Bool := fun _ _ => false
  exc : Str → Option (Nat × (List D → List (Str × D))) := fun _ => none
  sub : Str → Str → Option Bool := fun _ _ => none
  xfl : Str → Str → Bool := fun _ _ => false
  isv : Str → Bool := fun _ => false
  cdc : Str → Option (List (Str × Str)) := fun _ => none
  cts : Str → Option (List Str) := fun _ => none
def gFn : List Ent → Str → Option (Nat × DSp)
  | [], _ => none
  | e :: r, f => if e.d.at_ = (f, none) then some (e.ps.length, e.sp) else gFn r f
def gMt : List Ent → Str → Str → Option (Nat × DSp)
  | [], _, _ => none
  | e :: r, c, m => if e.d.at_ = (c, some m) then some (e.ps.length, e.sp) else gMt r c m
def gHot : List Ent → Str → Str → Option Str
  | [], _, _ => none
  | e :: r, c, m => if e.d.at_ = (c, some m) then (if m = "__init__" ∨ e.ps.length ≠ 1 then none else hotOf e.N e.d.scope e.d.body) else gHot r c m
def gOf (cf : Cfg) (es : List Ent) : Gc := { hot := gHot es, fn := gFn es, con := cf.con, mt := fun c m => if m = "__init__" then none else gMt es c m, mkr := fun c => gMt es c "__init__", fld := cf.fld, exc := cf.exc, sub := cf.sub, xfl := cf.xfl, isv := cf.isv, cdc := cf.cdc, cts := cf.cts }
/-- each def's body keeps its word over those behind it -/
def atFa : Str × Option Str → List He.Fa
  | (f, none) => [.glo f]
  | (c, some m) => if m = "__init__" then [.glo c, .cls c, .mkr c] else [.cls c, .meth c m]
inductive Mods (cf : Cfg) (fa : List He.Fa) (fn : List He.DefD) : List Ent → Prop
  | nil : Mods cf fa fn []
  | cons {e : Ent} {r : List Ent} (h : Mods cf fa fn r) (i : Nat) (hd : fn[i]? = some e.d) (hg : ∀ f ∈ atFa e.d.at_, f ∈ fa) (hc : e.chk = true) (hb : e.binds) (ho : BodyOk (gOf cf r) e.N e.ps.length e.ms e.sp) : Mods cf fa fn (e :: r)
theorem says_mem {fa : List He.Fa} {fn : List He.DefD} {K : PySem.W.Frag} (c : He.SaysD fa fn K) {f : He.Fa} (h : f ∈ fa) : f.ok K = true := by
  obtain ⟨i, hi⟩ := List.mem_iff_getElem?.mp h
  exact c.fact i hi
/-- the constants of the module -/
def conOk (K : PySem.W.Frag) (mg : Str → Option Value) (con : Str → Option D) : Prop := ∀ n d, con n = some d → ∃ v u, mg n = some u ∧ RelV v u ∧ ∀ Z H S, RelD ⟨K, He.ga K, Z⟩ H S d v
/-- constants that are ints and texts -/
def conL (l : List (Str × D)) (n : Str) : Option D := l.lookup n
def conB (fa : List He.Fa) : Str × D → Prop
  | (x, .int i) => He.Fa.int x i ∈ fa
  | (x, .str z) => He.Fa.str x z ∈ fa ∧ PySem.PyData.strOk z = true
  | _ => False
theorem conL_ok {K : PySem.W.Frag} {h : Heap} {mg : Str → Option Value} {fa : List He.Fa} {fn : List He.DefD} {l : List (Str × D)} (hl : ∀ q ∈ l, conB fa q) (X : K.In h) (Gm : h.Ns mainGlobals mg) (c : He.SaysD fa fn K) : conOk K mg (conL l) := by
  intro n d e
  have hm : (n, d) ∈ l := by
    unfold conL at e
    induction l with
    | nil => cases e
    | cons q r ih =>
      obtain ⟨x, z⟩ := q
      rw [List.lookup_cons] at e
      cases q : (n == x) with
      | true =>
        rw [q] at e
        cases e
        rw [beq_iff_eq.mp q]
        exact List.mem_cons_self
      | false =>
        rw [q] at e
        exact List.mem_cons_of_mem _ (ih (fun q hq => hl q (List.mem_cons_of_mem _ hq)) e)
  have hb := hl _ hm
  cases d with
  | int i =>
    obtain ⟨t, ht⟩ := He.int_ok X Gm (says_mem c (show He.Fa.int n i ∈ fa from hb))
    exact ⟨.int i, _, ht, ⟨t, rfl⟩, fun _ _ _ => by unfold RelD; rfl⟩
  | str z =>
    obtain ⟨t, ht⟩ := He.str_ok X Gm (says_mem c (show He.Fa.str n z ∈ fa from hb.1))
    exact ⟨.str z, _, ht, ⟨t, rfl⟩, fun _ _ _ => by unfold RelD; exact ⟨rfl, hb.2⟩⟩
  | _ => exact hb.elim
/-- what the configuration must have -/
structure CfgOk (P : Program) (w : World) (K : PySem.W.Frag) (mg : Str → Option Value) (base : Heap) (cf : Cfg) : Prop where
  con : conOk K mg cf.con
  fld : ∀ c f, cf.fld c f = true → L2.Cls K (He.ga K c) ∧ L2.NoAttr K (He.ga K c) f
  exc : ∀ c n F, cf.exc c = some (n, F) → ∃ (fI : Addr) (fd : FuncData) (ps : List Str) (F' : List V → List (Str × V)), mg c = some (.ref (He.ga K c)) ∧ OexC K (He.ga K c) ∧ PySem.W.findIn K (.ref (He.ga K c)) "__init__" = some (some (.ref fI)) ∧ PySem.W.typeIn K (.ref fI) = some (.type "function") ∧
    FnOk P w K mg base (L2N.CX P w) 2 fI fd ps (spEx (He.ga K c) n F') ∧ Binds K fd ps [] ∧ RelFn F F'
  sub : ∀ c c' b, cf.sub c c' = some b → mg c' = some (.ref (He.ga K c')) ∧ PySem.W.exmOne K (.ref (He.ga K c)) (.ref (He.ga K c')) = some b ∧ PySem.W.kitOne K (.ref (He.ga K c)) (.ref (He.ga K c')) = some b ∧ ExcC K (He.ga K c)
  xfl : ∀ c f, cf.xfl c f = true → XfC K (He.ga K c) ∧ PySem.W.findIn K (.ref (He.ga K c)) f = some none
  isv : ∀ c, cf.isv c = true → mg "ValueError" = none ∧ PySem.W.kitOne K (.ref (He.ga K c)) (.type "ValueError") = some true ∧ ExcC K (He.ga K c)
  cds : ∀ n l, cf.cdc n = some l → ∃ a es m, mg n = some (.ref a) ∧ KDict K w a es m ∧ ∀ z, match l.lookup z with
    | none => PySem.W.nsIn K a z = some none
    | some y => ∃ u, PySem.W.nsIn K a z = some (some u) ∧ RelV (.str y) u ∧ PySem.PyData.strOk y = true
  cts : ∀ n l, cf.cts n = some l → ∃ a, mg n = some (.ref a) ∧ KT K a (l.map V.str)
/-- one entry keeps its word -/
theorem ent_ok {P : Program} {w : World} {K : PySem.W.Frag} {mg : Str → Option Value} {base : Heap} {fa : List He.Fa} {fn : List He.DefD} {cf : Cfg} {e : Ent} {r : List Ent} {k : Nat} (c : He.SaysD fa fn K) (M : Md P w K mg base (He.ga K) (gOf cf r) k) {i : Nat} (hd : fn[i]? = some e.d) (hc : e.chk = true) (hb : e.binds) (ho : BodyOk (gOf cf r) e.N e.ps.length e.ms e.sp) :
    ∃ fd, FunD K e.d.name e.d.qual e.d.params e.d.body e.d.scope [] [] (He.fAd K e.d.at_) fd ∧ FnOk P w K mg base (L2N.CX P w) (k + 1) (He.fAd K e.d.at_) fd e.ps (lift K (He.ga K) e.ps.length e.sp) ∧ Binds K fd e.ps [] := by
  obtain ⟨fd, F⟩ := c.def_ i hd
  unfold Ent.chk at hc
  obtain ⟨h1, hc⟩ := He.ba hc
  obtain ⟨h2, hc⟩ := He.ba hc
  obtain ⟨h4, h5⟩ := He.ba hc
  have h4 := List.isEmpty_iff.mp h4
  have h5 := List.isEmpty_iff.mp h5
  have F : FunD K e.d.name e.d.qual e.d.params e.d.body e.d.scope [] [] (He.fAd K e.d.at_) fd := by
    have := F
    unfold He.DefD.dvs He.DefD.kws at this
    rw [h4, h5] at this
    exact this
  exact ⟨fd, F, fn_ok F (fnB_ok h1) M h2 ho, F.bindsN hb⟩
/-- how deep calls may go -/
def lv : List Ent → Nat
  | [] => 3
  | e :: r => lv r + (if e.d.at_.2 = some "__init__" then 2 else 1)
theorem lv_ge : ∀ es, 3 ≤ lv es
  | [] => Nat.le_refl _
  | e :: r => Nat.le_trans (lv_ge r) (Nat.le_add_right _ _)
theorem md_of {P : Program} {w : World} {K : PySem.W.Frag} {mg : Str → Option Value} {base h : Heap} {fa : List He.Fa} {fn : List He.DefD} {cf : Cfg} (X : K.In h) (Gm : h.Ns mainGlobals mg) (c : He.SaysD fa fn K) (hfr : ∃ r, fa = frees.map He.Fa.free ++ r) (hcf : CfgOk P w K mg base cf) :
    ∀ es : List Ent, Mods cf fa fn es → Md P w K mg base (He.ga K) (gOf cf es) (lv es) := by
  have hfr : ∀ x ∈ frees, He.Fa.free x ∈ fa := fun x hx => by
    obtain ⟨r, rfl⟩ := hfr
    exact List.mem_append_left _ (List.mem_map.mpr ⟨x, hx, rfl⟩)
  have fr : ∀ x ∈ frees, mg x = none := fun x hx => He.free_ok X Gm (says_mem c (hfr x hx))
  have base0 : ∀ (es : List Ent) (k : Nat), 3 ≤ k → (∀ f n sp, gFn es f = some (n, sp) → ∃ (fa : Addr) (fd : FuncData) (j : Nat) (ps : List Str), ps.length = n ∧ mg f = some (.ref fa) ∧ FnOk P w K mg base (L2N.CX P w) j fa fd ps (lift K (He.ga K) n sp) ∧ j ≤ k ∧ PySem.W.keepIn K (.ref fa) = true ∧ Binds K fd ps []) →
      (∀ c m n sp, gMt es c m = some (n, sp) → ∃ (fa : Addr) (fd : FuncData) (j : Nat) (ps : List Str), ps.length = n ∧ (m ≠ "__init__" → L2.Cls K (He.ga K c) ∧ L2.Meth K (He.ga K c) m fa) ∧ (m = "__init__" → mg c = some (.ref (He.ga K c)) ∧ L2.Mk K (He.ga K c) fa) ∧ FnOk P w K mg base (L2N.CX P w) j fa fd ps (lift K (He.ga K) n sp) ∧ j ≤ k ∧ (m = "__init__" → j + 1 ≤ k) ∧ Binds K fd ps []) →
      (∀ c m f, gHot es c m = some f → ∃ (fa : Addr) (fd : FuncData) (j : Nat) (ps : List Str), L2.Cls K (He.ga K c) ∧ L2.Meth K (He.ga K c) m fa ∧ L2H.FnH P w K mg base (L2N.CX P w) j fa fd ps (spHot K (He.ga K c) f) ∧ j ≤ k ∧ Binds K fd ps []) →
      Md P w K mg base (He.ga K) (gOf cf es) k := fun es k hk hf hm hh => {
    hots := hh
    fns := hf
    con := hcf.con
    mts := fun c m n sp q => by
      have q : (if m = "__init__" then none else gMt es c m) = some (n, sp) := q
      split at q
      · cases q
      · rename_i e
        obtain ⟨a, fd, j, ps, h1, h2, h3, h4, h5, _, h6⟩ := hm c m n sp q
        exact ⟨a, fd, j, ps, h1, (h2 e).1, (h2 e).2, h4, h5, h6⟩
    mks := fun c n sp q => by
      obtain ⟨a, fd, j, ps, h1, h2, h3, h4, _, h5, h6⟩ := hm c "__init__" n sp q
      exact ⟨a, fd, j, ps, h1, (h3 rfl).1, (h3 rfl).2, h4, h5 rfl, h6⟩
    flds := hcf.fld
    excs := fun c n F q => by
      obtain ⟨fI, fd, ps, F', h1, h2, h3, h4, h5, h6, h7⟩ := hcf.exc c n F q
      exact ⟨fI, fd, 2, ps, F', h1, h2, h3, h4, h5, by omega, h6, h7⟩
    subs := hcf.sub
    xfls := hcf.xfl
    isvs := hcf.isv
    cds := hcf.cds
    cts := hcf.cts
    zip := fr _ (by decide +kernel)
    blt := fun f => fr _ (by cases f <;> decide +kernel)
    tys := fun n hn => by
      unfold tyB at hn
      simp only [Bool.or_eq_true, beq_iff_eq] at hn
      rcases hn with (((rfl | rfl) | rfl) | rfl) | rfl <;> exact fr _ (by decide +kernel)
    rng := fr _ (by decide +kernel)
    enm := fr _ (by decide +kernel) }
  have key : ∀ es : List Ent, Mods cf fa fn es → (∀ f n sp, gFn es f = some (n, sp) → ∃ (fa : Addr) (fd : FuncData) (j : Nat) (ps : List Str), ps.length = n ∧ mg f = some (.ref fa) ∧ FnOk P w K mg base (L2N.CX P w) j fa fd ps (lift K (He.ga K) n sp) ∧ j ≤ lv es ∧ PySem.W.keepIn K (.ref fa) = true ∧ Binds K fd ps []) ∧
      (∀ c m n sp, gMt es c m = some (n, sp) → ∃ (fa : Addr) (fd : FuncData) (j : Nat) (ps : List Str), ps.length = n ∧ (m ≠ "__init__" → L2.Cls K (He.ga K c) ∧ L2.Meth K (He.ga K c) m fa) ∧ (m = "__init__" → mg c = some (.ref (He.ga K c)) ∧ L2.Mk K (He.ga K c) fa) ∧ FnOk P w K mg base (L2N.CX P w) j fa fd ps (lift K (He.ga K) n sp) ∧ j ≤ lv es ∧ (m = "__init__" → j + 1 ≤ lv es) ∧ Binds K fd ps []) ∧ (∀ c m f, gHot es c m = some f → ∃ (fa : Addr) (fd : FuncData) (j : Nat) (ps : List Str), L2.Cls K (He.ga K c) ∧ L2.Meth K (He.ga K c) m fa ∧ L2H.FnH P w K mg base (L2N.CX P w) j fa fd ps (spHot K (He.ga K c) f) ∧ j ≤ lv es ∧ Binds K fd ps []) := by
    intro es
    induction es with
    | nil => exact fun _ => ⟨fun f n sp q => (by cases q), fun c m n sp q => (by cases q), fun c m f q => (by cases q)⟩
    | cons e r ih =>
      intro hm
      cases hm with
      | cons hr i hd hg hc hb ho =>
        obtain ⟨ihf, ihm, ihh⟩ := ih hr
        have M : Md P w K mg base (He.ga K) (gOf cf r) (lv r) := base0 r (lv r) (lv_ge r) ihf ihm ihh
        obtain ⟨fd, F, ok, bi⟩ := ent_ok c M hd hc hb ho
        have l1 : lv r + 1 ≤ lv (e :: r) := by
          show lv r + 1 ≤ lv r + (if e.d.at_.2 = some "__init__" then 2 else 1)
          split <;> omega
        refine ⟨fun f n sp q => ?_, fun cc m n sp q => ?_, fun cc m fl q => ?_⟩
        · have q : (if e.d.at_ = (f, none) then some (e.ps.length, e.sp) else gFn r f) = some (n, sp) := q
          split at q
          · rename_i ea
            cases q
            rw [ea] at ok F hg
            exact ⟨_, fd, _, e.ps, rfl, He.glo_ok X Gm (says_mem c (hg _ (by unfold atFa; exact List.mem_singleton.mpr rfl))), ok, l1, F.kp, bi⟩
          · obtain ⟨a, fd, j, ps, k1, k2, k3, k4, k5⟩ := ihf f n sp q
            exact ⟨a, fd, j, ps, k1, k2, k3, by omega, k5⟩
        · have q : (if e.d.at_ = (cc, some m) then some (e.ps.length, e.sp) else gMt r cc m) = some (n, sp) := q
          split at q
          · rename_i ea
            cases q
            rw [ea] at ok F hg
            refine ⟨_, fd, _, e.ps, rfl, fun hm => ?_, fun hm => ?_, ok, l1, fun hm => ?_, bi⟩
            · have hf : atFa (cc, some m) = [.cls cc, .meth cc m] := by unfold atFa; exact if_neg hm
              rw [hf] at hg
              exact ⟨He.cls_ok (says_mem c (hg _ (by simp))), He.meth_ok (says_mem c (hg _ (by simp)))⟩
            · have hf : atFa (cc, some m) = [.glo cc, .cls cc, .mkr cc] := by unfold atFa; exact if_pos hm
              rw [hf] at hg
              subst hm
              exact ⟨He.glo_ok X Gm (says_mem c (hg _ (by simp))), He.mkr_ok (says_mem c (hg _ (by simp)))⟩
            · show lv r + 1 + 1 ≤ lv r + (if e.d.at_.2 = some "__init__" then 2 else 1)
              have e2 : e.d.at_.2 = some "__init__" := by rw [ea]; exact congrArg some hm
              rw [if_pos e2]
              exact Nat.le_refl _
          · obtain ⟨a, fd, j, ps, k1, k2, k3, k4, k5, k6, k7⟩ := ihm cc m n sp q
            exact ⟨a, fd, j, ps, k1, k2, k3, k4, by omega, fun z => by have := k6 z; omega, k7⟩
        · have q : (if e.d.at_ = (cc, some m) then (if m = "__init__" ∨ e.ps.length ≠ 1 then none else hotOf e.N e.d.scope e.d.body) else gHot r cc m) = some fl := q
          split at q
          · rename_i ea
            split at q
            · cases q
            · rename_i nm
              have nm1 : m ≠ "__init__" := fun z => nm (.inl z)
              have nm2 : e.ps.length = 1 := Classical.byContradiction fun z => nm (.inr z)
              have hf : atFa (cc, some m) = [.cls cc, .meth cc m] := by unfold atFa; exact if_neg nm1
              rw [ea] at F hg
              rw [hf] at hg
              have hc1 : fnB e.N e.ps e.d.scope = true := (He.ba hc).1
              exact ⟨_, fd, 1, e.ps, He.cls_ok (says_mem c (hg _ (by simp))), He.meth_ok (says_mem c (hg _ (by simp))), fn_okH F (fnB_ok hc1) nm2 q (fr _ (by decide +kernel)), Nat.le_trans (by omega) (lv_ge (e :: r)), bi⟩
          · obtain ⟨a, fd, j, ps, k1, k2, k3, k4, k5⟩ := ihh cc m fl q
            exact ⟨a, fd, j, ps, k1, k2, k3, by omega, k5⟩
  intro es hm
  obtain ⟨kf, km, kh⟩ := key es hm
  exact base0 es _ (lv_ge es) kf km kh
/-- the law's def stands first -/
theorem law_of {P : Program} {fa : List He.Fa} {fx : List Fx} {fn : List He.DefD} {cf : Cfg} {e : Ent} {r : List Ent} {x : Str} {k : Nat} (hk : lv r + 1 = k) (hfr : ∃ r, fa = frees.map He.Fa.free ++ r) (hcf : ∀ (w : World) (K : PySem.W.Frag) (h : Heap) (mg : Str → Option Value) (base : Heap), K.In h → h.Ns mainGlobals mg → SaysM fa fx fn K → CfgOk P w K mg base cf) (hm : Mods cf fa fn (e :: r)) (hn : e.d.at_ = (("law" : Str), none)) (hp : e.ps = [x])
    (w : World) (mg : Str → Option Value) (f : Addr) (h : Heap) (K : PySem.W.Frag) (X : K.In h) (Gm : h.Ns mainGlobals mg) (hmg : mg "law" = some (.ref f)) (c : SaysM fa fx fn K) :
    ∃ (fd : FuncData) (ga : Str → Addr), (∀ (s : Shared) (u : Value), BindsTo s fd ⟨[u], []⟩ [(x, u)]) ∧ ∀ base : Heap, K.In base → base.Ns mainGlobals mg → FnOk P w K mg base (L2N.CX P w) k f fd [x] (lift K ga 1 e.sp) := by
  cases hm with
  | cons hr i hd hg hc hb ho =>
    have hf : atFa e.d.at_ = [.glo "law"] := by rw [hn]; rfl
    rw [hf] at hg
    have eg := He.glo_ok X Gm (says_mem c.d (hg _ List.mem_cons_self))
    have ef : f = He.ga K "law" := by
      have z := hmg.symm.trans eg
      cases z
      rfl
    obtain ⟨fd, F⟩ := c.d.def_ i hd
    unfold Ent.chk at hc
    obtain ⟨h1, hc⟩ := He.ba hc
    obtain ⟨h2, hc⟩ := He.ba hc
    obtain ⟨h4, h5⟩ := He.ba hc
    have h4 := List.isEmpty_iff.mp h4
    have h5 := List.isEmpty_iff.mp h5
    have F : FunD K e.d.name e.d.qual e.d.params e.d.body e.d.scope [] [] (He.fAd K e.d.at_) fd := by
      have := F
      unfold He.DefD.dvs He.DefD.kws at this
      rw [h4, h5] at this
      exact this
    refine ⟨fd, He.ga K, fun s u => ?_, fun base hK hN => ?_⟩
    · have b := F.bindsA hb s [u] (by rw [hp]; rfl)
      rw [hp] at b
      exact b
    · have M : Md P w K mg base (He.ga K) (gOf cf r) (lv r) := md_of X Gm c.d hfr (hcf w K h mg base X Gm c) r hr
      have ok := fn_ok F (fnB_ok h1) M h2 ho
      rw [hp, hn, hk] at ok
      rw [ef]
      exact ok
end Mn
namespace Mn
open PySem L2
local macro_rules | `(tactic| walk_at "x") => `(tactic| try simp only [wSs, wS, wE, wEs, wC, x_add, x_sub, x_addS, x_addT, x_addL, x_mul, x_mulS, x_mulL, x_div, x_mod, x_pow, x_lt, x_le, x_gt, x_ge, x_eqD, x_neD, x_in, x_notIn, x_is, x_isNot, x_eqI, x_eqS, x_eqB, x_isNN, x_isBN, x_isIN, x_isSN, x_isTN, x_isLN, x_isRN, x_isBB, x_lenS, x_lenT, x_lenL, x_lenP, x_sumP, x_appP, x_appTP, x_idxP, x_frzP, x_abs, x_intI, x_intB, x_max, x_allL, x_sumL, x_listL, x_listT, x_isi, x_truB, x_truI, x_truL, x_truT, x_truN, x_idxS, x_idxL, x_idxT, x_slS, x_slT, x_slL, x_it0L, x_it0T, x_it0S, x_it0C, x_it1, x_it2L, x_val, x_upd, x_newF, x_newT, x_nm, x_tp, x_tps, x_tp0, x_ite, x_iteD, x_ifD, x_some, x_some2, x_map, x_eqInt, x_pure, x_new, x_fn, List.getElem?_cons_zero, List.getElem?_cons_succ, List.set_cons_zero, List.set_cons_succ, Option.bind_some, List.length_cons, List.length_nil, Nat.reduceAdd, true_and, and_true, decide_eq_true_eq, Bool.not_eq_true', decide_eq_false_iff_not, Bool.not_false, Bool.not_true, Bool.false_eq_true, Bool.true_eq_false, if_true, if_false, ite_true, ite_false])
def n__law_feed : List Str := ["_law_script", "_law_feed_here", "_law_cell", "_law_left", "_law_turn", "_law_seed"]
def b__law_feed_1 : List MS := [(.ite (.cmp .Gt (.var 3) (.cst (.int 0))) [(.exp (.bm .append false (.var 1) [(.bin .Mod false (.var 3) (.cst (.int 55440)))])), (.asg (.nm 3) (.bin .FloorDiv false (.var 3) (.cst (.int 55440))))] [])]
def b__law_feed_2 : List MS := [(.asg (.nm 5) (.bin .Mod false (.bin .Add false (.bin .Mult false (.var 5) (.cst (.int 48271))) (.cst (.int 7919))) (.cst (.int 2147483647)))), (.exp (.bm .append false (.var 1) [(.bin .Mod false (.bin .FloorDiv false (.var 5) (.cst (.int 13))) (.cst (.int 55440)))]))]
def b__law_feed_3 : List MS := [(.ite (.cmp .Lt (.blt .len false [(.var 1)]) (.cst (.int 270))) [(.asg (.nm 3) (.blt .abs false [(.var 2)])), (.ite (.cmp .GtE (.var 3) (.bin .Pow false (.cst (.int 10)) (.cst (.int 18)))) [(.for_ 1 (.nm 4) [(.cst (.int 60))] b__law_feed_1)] [(.asg (.nm 5) (.bin .Mod false (.bin .Add false (.bin .Mult false (.bin .Add false (.bin .Mult false (.cst (.int 2)) (.var 3)) (.blt .int false [(.cmp .Lt (.var 2) (.cst (.int 0)))])) (.cst (.int 69621))) (.cst (.int 11))) (.cst (.int 2147483629)))), (.for_ 1 (.nm 4) [(.cst (.int 6))] b__law_feed_2)])] [])]
def b__law_feed_4 : List MS := [(.ite (.cmp .Lt (.blt .len false [(.var 1)]) (.cst (.int 270))) [(.asg (.nm 5) (.bin .Mod false (.bin .Add false (.bin .Mult false (.var 5) (.cst (.int 48271))) (.cst (.int 12345))) (.cst (.int 2147483629)))), (.exp (.bm .append false (.var 1) [(.bin .Mod false (.bin .FloorDiv false (.var 5) (.cst (.int 13))) (.cst (.int 55440)))]))] [])]
def m__law_feed : List MS := [(.asg (.nm 1) (.lst true [])), (.for_ 0 (.nm 2) [(.var 0)] b__law_feed_3), (.asg (.nm 5) (.bin .Add false (.bin .Add false (.cst (.int 271)) (.blt .len false [(.var 1)])) (.blt .sum false [(.var 1)]))), (.for_ 1 (.nm 4) [(.cst (.int 270))] b__law_feed_4), (.ret (.frz (.var 1)))]
def lettersS : Str := "abcdefghijklmnopqrstuvwxyz"
def isNm (x : Str) : Bool := decide (1 ≤ x.length) && (decide (x.length ≤ 8) && x.cps.toList.all fun c => decide (c ∈ lettersS.cps.toList))
/-- what the feed is between two turns -/
structure FdI (fs : List Int) (n : Nat) : Prop where
  hi : fs.length ≤ n
  nn : ∀ v ∈ fs, 0 ≤ v ∧ v < 55440
theorem FdI.app {fs : List Int} {n : Nat} (h : FdI fs n) {v : Int} (h1 : 0 ≤ v) (h2 : v < 55440) : FdI (fs ++ [v]) (n + 1) := ⟨by rw [List.length_append]; exact Nat.add_le_add_right h.hi 1, fun w hw => by
  rcases List.mem_append.mp hw with q | q
  · exact h.nn w q
  · obtain rfl := List.mem_singleton.mp q; exact ⟨h1, h2⟩⟩
theorem FdI.mono {fs : List Int} {n m : Nat} (h : FdI fs n) (hm : n ≤ m) : FdI fs m := ⟨Nat.le_trans h.hi hm, h.nn⟩
theorem ok_feed {G : Gc} : BodyOk G n__law_feed 1 m__law_feed spFeed := by
  rintro ds S Q X - ⟨ns, rfl, q⟩
  show wSs G _ m__law_feed [some (.scr ns), none, none, none, none, none] S _
  unfold m__law_feed
  walk_at "x"
  refine ⟨Nat.zero_le _, fun p hp => ?_⟩
  refine for_ruleN (fun i σ S' => ∃ fs a b c d, S' = put S p (.lst (fs.map .int)) ∧ σ = [some (.scr ns), some (.ref p), a, b, c, d] ∧ FdI fs 330) ⟨[], _, _, _, _, rfl, rfl, Nat.zero_le _, fun v h => by simp at h⟩ ?_ ?_
  · rintro i d0 σ S' hd ⟨fs, a, b, c, d, rfl, rfl, hfs⟩
    refine ⟨trivial, ?_⟩
    rw [List.getElem?_map] at hd
    obtain ⟨z, -, rfl⟩ := Option.map_eq_some_iff.mp hd
    unfold b__law_feed_3
    walk_at "x"
    rw [List.length_map]
    split
    · rename_i hlt
      have hlt : fs.length < 270 := by omega
      obtain ⟨l0, hl0⟩ : ∃ l0 : Int, (if z < 0 then -z else z) = l0 := ⟨_, rfl⟩
      rw [hl0]
      obtain ⟨sg, hsg⟩ : ∃ sg : Int, (if z < 0 then (1 : Int) else 0) = sg := ⟨_, rfl⟩
      rw [hsg]
      refine ⟨by decide, ?_⟩
      split
      · refine ⟨by decide, ?_⟩
        refine for_ruleN (fun j σ S' => ∃ fs l t d, S' = put S p (.lst (fs.map .int)) ∧ σ = [some (.scr ns), some (.ref p), some (.int z), some (.int l), t, d] ∧ FdI fs (270 + j)) ⟨fs, _, _, _, rfl, rfl, by omega, hfs.nn⟩ ?_ ?_
        · rintro j d1 σ S' hd ⟨fs, l, t, d, rfl, rfl, hfs⟩
          have hj : j < 60 := by simpa using (List.getElem?_eq_some_iff.mp hd).1
          refine ⟨trivial, ?_⟩
          unfold b__law_feed_1
          walk_at "x"
          split
          · refine ⟨by decide, ?_, by decide, ?_⟩
            · have := hfs.hi; have : sizeLine = 16777216 := rfl; rw [List.length_map]; omega
            · exact ⟨fs ++ [l % 55440], _, _, _, by rw [List.map_append]; rfl, rfl, hfs.app (Int.emod_nonneg _ (by decide)) (Int.emod_lt_of_pos _ (by decide))⟩
          · exact ⟨fs, _, _, _, rfl, rfl, hfs.mono (by omega)⟩
        · rintro σ S' ⟨fs, l, t, d, rfl, rfl, hfs⟩
          refine ⟨trivial, fs, _, _, _, _, rfl, rfl, hfs.mono (by simp)⟩
      · refine ⟨.inl (by decide), .inr (by decide), by decide, by decide, ?_⟩
        refine for_ruleN (fun j σ S' => ∃ fs l t d, S' = put S p (.lst (fs.map .int)) ∧ σ = [some (.scr ns), some (.ref p), some (.int z), some (.int l), t, some (.int d)] ∧ FdI fs (270 + j)) ⟨fs, _, _, _, rfl, rfl, by omega, hfs.nn⟩ ?_ ?_
        · rintro j d1 σ S' hd ⟨fs, l, t, d, rfl, rfl, hfs⟩
          have hj : j < 6 := by simpa using (List.getElem?_eq_some_iff.mp hd).1
          refine ⟨trivial, ?_⟩
          unfold b__law_feed_2
          walk_at "x"
          refine ⟨.inr (by decide), by decide, by decide, by decide, ?_, ?_⟩
          · have := hfs.hi; have : sizeLine = 16777216 := rfl; rw [List.length_map]; omega
          · exact ⟨fs ++ [_], _, _, _, by rw [List.map_append]; rfl, rfl, hfs.app (Int.emod_nonneg _ (by decide)) (Int.emod_lt_of_pos _ (by decide))⟩
        · rintro σ S' ⟨fs, l, t, d, rfl, rfl, hfs⟩
          refine ⟨trivial, fs, _, _, _, _, rfl, rfl, hfs.mono (by simp)⟩
    · exact ⟨fs, _, _, _, _, rfl, rfl, hfs⟩
  · rintro σ S' ⟨fs, a, b, c, d, rfl, rfl, hfs⟩
    refine ⟨trivial, ?_⟩
    walk_at "x"
    simp only [sumI_map, x_some]
    refine ⟨by decide, ?_⟩
    refine for_ruleN (fun j σ S' => ∃ fs a b c d, S' = put S p (.lst (fs.map .int)) ∧ σ = [some (.scr ns), some (.ref p), a, b, c, some (.int d)] ∧ FdI fs 330 ∧ (j ≤ fs.length ∨ 270 ≤ fs.length)) ⟨fs, _, _, _, _, rfl, rfl, hfs, .inl (Nat.zero_le _)⟩ ?_ ?_
    · rintro j d1 σ S' hd ⟨fs, a, b, c, d, rfl, rfl, hfs, hj⟩
      refine ⟨trivial, ?_⟩
      unfold b__law_feed_4
      walk_at "x"
      rw [List.length_map]
      split
      · rename_i hlt
        refine ⟨.inr (by decide), by decide, by decide, by decide, ?_, ?_⟩
        · have := hfs.hi; have : sizeLine = 16777216 := rfl; omega
        · refine ⟨fs ++ [_], _, _, _, _, by rw [List.map_append]; rfl, rfl, ⟨?_, (hfs.app (Int.emod_nonneg _ (by decide)) (Int.emod_lt_of_pos _ (by decide))).nn⟩, .inl ?_⟩
          · rw [List.length_append]; simp; omega
          · rw [List.length_append]; simp; omega
      · rename_i hlt
        exact ⟨fs, _, _, _, _, rfl, rfl, hfs, .inr (by omega)⟩
    · rintro σ S' ⟨fs, a, b, c, d, rfl, rfl, hfs, hj⟩
      refine ⟨trivial, ?_⟩
      walk_at "x"
      rw [rm_put hp]
      refine q fs ⟨?_, by have := hfs.hi; omega, hfs.nn⟩
      have e : ((List.range (Int.toNat 270)).map fun (k : Nat) => D.int (k : Int)).length = 270 := by simp
      omega
def n__law_same : List Str := ["_law_found", "_law_due", "_law_k"]
def e__law_same_1 : ME := (.call "_law_same" [(.idx (.var 0) (.var 2)), (.idx (.var 1) (.var 2))])
def m__law_same : List MS := [(.ite (.blt .isinstance false [(.var 1), (.tup [(.cst (.ty "tuple")), (.cst (.ty "list"))])]) [(.ite (.or (.cmp .NotEq (.blt .isinstance false [(.var 1), (.cst (.ty "tuple"))]) (.blt .isinstance false [(.var 0), (.cst (.ty "tuple"))])) (.cmp .NotEq (.blt .isinstance false [(.var 1), (.cst (.ty "list"))]) (.blt .isinstance false [(.var 0), (.cst (.ty "list"))]))) [(.ret (.cst (.bl false)))] []), (.ret (.and (.cmp .Eq (.blt .len false [(.var 0)]) (.blt .len false [(.var 1)])) (.blt .all false [(.lc 1 false (.nm 2) [(.blt .len false [(.var 1)])] [] e__law_same_1)])))] []), (.ite (.cmp .Is (.var 1) (.cst .non)) [(.ret (.cmp .Is (.var 0) (.cst .non)))] []), (.ite (.or (.blt .isinstance false [(.var 1), (.cst (.ty "bool"))]) (.blt .isinstance false [(.var 0), (.cst (.ty "bool"))])) [(.ret (.and (.blt .isinstance false [(.var 1), (.cst (.ty "bool"))]) (.and (.blt .isinstance false [(.var 0), (.cst (.ty "bool"))]) (.cmp .Eq (.var 0) (.var 1)))))] []), (.ret (.and (.cmp .Eq (.blt .isinstance false [(.var 0), (.cst (.ty "int"))]) (.blt .isinstance false [(.var 1), (.cst (.ty "int"))])) (.cmp .Eq (.var 0) (.var 1))))]
mutual
def sameD : D → D → Bool
  | f, .tup ds => (match f with
    | .tup fs => sameDs fs ds
    | _ => false)
  | f, .lst ds => (match f with
    | .lst fs => sameDs fs ds
    | _ => false)
  | f, .non => (match f with
    | .non => true
    | _ => false)
  | f, .bl b => (match f with
    | .bl c => c == b
    | _ => false)
  | f, .int j => (match f with
    | .int i => decide (i = j)
    | _ => false)
  | f, .str y => (match f with
    | .str x => decide (x = y)
    | _ => false)
  | _, _ => false
def sameDs : List D → List D → Bool
  | [], [] => true
  | f :: fs, d :: ds => sameD f d && sameDs fs ds
  | _, _ => false
end
mutual
/-- no list or tuple of it is too long -/
def dsize : D → Prop
  | .tup ds => ds.length ≤ 1000 ∧ dsizes ds
  | .lst ds => ds.length ≤ 1000 ∧ dsizes ds
  | _ => True
def dsizes : List D → Prop
  | [] => True
  | d :: ds => dsize d ∧ dsizes ds
end
theorem allB_some {S : Sto} : ∀ bs : List Bool, allB S (bs.map .bl) = some (bs.all id)
  | [] => rfl
  | b :: bs => by
    show (match allB S (bs.map .bl) with
      | some c => some (b && c)
      | none => none) = _
    rw [allB_some bs]
    rfl
def spLaw : DSp := fun ds S Q _ => ∃ ns : List Int, ds = [.scr ns] ∧ ns.length ≤ 63 ∧ S = (fun _ => none) ∧ ∀ S', Q (.bl true) S'
end Mn
namespace Mn
open PySem L2
/-- what is still to be shown when the head is done -/
def FinA : Prop := ∀ (w : World) (mg : Str → Option Value) (f : Addr) (h : Heap) (K : PySem.W.Frag), K.In h → h.Ns mainGlobals mg → mg "law" = some (.ref f) → SaysM faA fxA fnA K → 
  ∃ (fd : FuncData) (ga : Str → Addr), (∀ (s : Shared) (u : Value), BindsTo s fd ⟨[u], []⟩ [("_law_script", u)]) ∧ ∀ base : Heap, K.In base → base.Ns mainGlobals mg → FnOk PySem.Challenge.rw_allonge_k07_purses.prog w K mg base (L2N.CX PySem.Challenge.rw_allonge_k07_purses.prog w) 27 f fd ["_law_script"] (lift K ga 1 spLaw)
end Mn
section
open PySem PySem.W PySem.Calls PyProof.Rows
theorem Mn.fin_A (F : Mn.FinA) : PySem.Challenge.rw_allonge_k07_purses.Holds := by
  w_on; o_law
  refine HandSHeadRun.head_any (r := Mn.R0) (q := view Mn.R0.prog [19]) (H := Mn.hkA) (ob := Mn.obA) (M := 200000) (loose := Mn.nmZ) (d := HandSHeadRun.topDef Mn.R0.prog 19) (kwd := []) Mn.obA_eq
    (by kernel_rfl) (fun s => by kernel_rfl) Mn.runA (by kernel_rfl) (by kernel_rfl) (by kernel_rfl) (by rfl) (by first | assumption | decide +kernel) (by decide +kernel) ⟨rfl, rfl, rfl, rfl, rfl, by decide +kernel⟩ ?hw ?hc
  case hw => w_witness2
  case hc => exact Mn.walk_mn (l := PySem.Challenge.rw_allonge_k07_purses) (k := 27) (x := "_law_script") (sp := Mn.spLaw) rfl (by kernel_rfl) ⟨rfl, by decide, by decide⟩ (by kernel_rfl) (fun ns hl => ⟨ns, rfl, hl, rfl, fun _ => rfl⟩) F
end
namespace Mn
open PySem L2
local macro_rules | `(tactic| walk_at "x") => `(tactic| try simp only [wSs, wS, wE, wEs, wC, x_add, x_sub, x_addS, x_addT, x_addL, x_mul, x_mulS, x_mulL, x_div, x_mod, x_pow, x_lt, x_le, x_gt, x_ge, x_eqD, x_neD, x_in, x_notIn, x_is, x_isNot, x_eqI, x_eqS, x_eqB, x_isNN, x_isBN, x_isIN, x_isSN, x_isTN, x_isLN, x_isRN, x_isBB, x_lenS, x_lenT, x_lenL, x_lenP, x_sumP, x_appP, x_appTP, x_idxP, x_frzP, x_abs, x_intI, x_intB, x_max, x_allL, x_sumL, x_listL, x_listT, x_isi, x_truB, x_truI, x_truL, x_truT, x_truN, x_idxS, x_idxL, x_idxT, x_slS, x_slT, x_slL, x_it0L, x_it0T, x_it0S, x_it0C, x_it1, x_it2L, x_val, x_upd, x_newF, x_newT, x_nm, x_tp, x_tps, x_tp0, x_ite, x_iteD, x_ifD, x_some, x_some2, x_map, x_eqInt, i_N_tuple, i_N_list, i_N_bool, i_N_int, i_N_str, i_N_tl, i_B_tuple, i_B_list, i_B_bool, i_B_int, i_B_str, i_B_tl, i_I_tuple, i_I_list, i_I_bool, i_I_int, i_I_str, i_I_tl, i_S_tuple, i_S_list, i_S_bool, i_S_int, i_S_str, i_S_tl, i_T_tuple, i_T_list, i_T_bool, i_T_int, i_T_str, i_T_tl, i_L_tuple, i_L_list, i_L_bool, i_L_int, i_L_str, i_L_tl, x_pure, x_new, x_fn, List.getElem?_cons_zero, List.getElem?_cons_succ, List.set_cons_zero, List.set_cons_succ, Option.bind_some, List.length_cons, List.length_nil, Nat.reduceAdd, true_and, and_true, decide_eq_true_eq, Bool.not_eq_true', decide_eq_false_iff_not, Bool.not_false, Bool.not_true, Bool.false_eq_true, Bool.true_eq_false, if_true, if_false, ite_true, ite_false])
def n__law_name : List Str := ["_law_pick", "_law_k", "_law_sign", "_law_at", "_law_words", "_law_some"]
def m__law_name : List MS := [(.asg (.nm 2) (.idx (.cst (.str "abcdefghijklmnopqrstuvwxyz")) (.bin .Mod false (.bin .Add false (.bin .FloorDiv false (.var 0) (.cst (.int 32))) (.bin .Mult false (.cst (.int 11)) (.var 1))) (.cst (.int 26))))), (.asg (.nm 3) (.bin .Mod false (.bin .FloorDiv false (.var 0) (.cst (.int 4))) (.cst (.int 8)))), (.asg (.nm 4) (.lst false [(.cst (.str "ask")), (.cst (.str "bound")), (.cst (.str "in")), (.cst (.str "fair")), (.cst (.str "free")), (.cst (.str "none")), (.cst (.str "house")), (.cst (.str "a")), (.cst (.str "paid"))])), (.asg (.nm 5) (.lst false [(.var 2), (.bin .Add false (.bin .Add false (.slU false (.cst (.str "mistral")) (.var 3)) (.var 2)) (.slL false (.cst (.str "mistral")) (.var 3))), (.bin .Mult false (.var 2) (.bin .Add false (.cst (.int 1)) (.bin .Mod false (.bin .Add false (.var 3) (.bin .Mult false (.cst (.int 3)) (.var 1))) (.cst (.int 8)))))])), (.ret (.idx (.bin .Add false (.var 5) (.lst false [(.idx (.var 4) (.bin .Mod false (.bin .Add false (.var 3) (.var 1)) (.cst (.int 9))))])) (.bin .Mod false (.var 0) (.cst (.int 4)))))]
section
variable {S : Sto} {o : D} {ds : List D} {i : Int}
theorem x_lenO (h : listOf S o = some ds) : bltR .len [o] S = some (.val (.int ds.length)) := by
  cases o with
  | lst es => cases h; rfl
  | ref a => exact x_lenR (lstAt_some h)
  | _ => cases h
theorem x_idxO (h : listOf S o = some ds) : idxR o (.int i) S = atI ds i := by
  cases o with
  | lst es => cases h; rfl
  | ref a => exact x_idxR (lstAt_some h)
  | _ => cases h
end
def letC (i : Int) : Nat := 97 + i.toNat
theorem let_at {i : Int} (h0 : 0 ≤ i) (h1 : i < 26) : atI (Str.ofString "abcdefghijklmnopqrstuvwxyz").cps.toList i = some (letC i) := by
  obtain ⟨n, rfl⟩ : ∃ n : Nat, i = n := ⟨i.toNat, by omega⟩
  have hn : n < 26 := by omega
  have all : ∀ n : Fin 26, atI (Str.ofString "abcdefghijklmnopqrstuvwxyz").cps.toList (n.val : Int) = some (letC (n.val : Int)) := by decide +kernel
  exact all ⟨n, hn⟩
def wordsA : List Str := ["ask", "bound", "in", "fair", "free", "none", "house", "a", "paid"]
/-- the k-th name of a pick -/
def nameOf (p k : Int) : Str :=
  let c : Str := ⟨#[letC ((p / 32 + 11 * k) % 26)]⟩
  let t : Int := p / 4 % 8
  if p % 4 = 0 then c else if p % 4 = 1 then cutS "mistral" none (some t) ++ c ++ cutS "mistral" (some t) none else if p % 4 = 2 then repS c (1 + (t + 3 * k) % 8).toNat else wordsA.getD ((t + k) % 9).toNat ""
def spName : DSp := fun ds S Q _ => ∃ p k : Int, ds = [.int p, .int k] ∧ Q (.str (nameOf p k)) S
theorem len_app (x y : Str) : (x ++ y).length = x.length + y.length := by
  show (x.cps ++ y.cps).size = _
  rw [Array.size_append]; rfl
theorem cut_len {t : Int} (h0 : 0 ≤ t) (h1 : t < 8) : (cutS "mistral" none (some t)).length ≤ 7 ∧ (cutS "mistral" (some t) none).length ≤ 7 := by
  obtain ⟨n, rfl⟩ : ∃ n : Nat, t = n := ⟨t.toNat, by omega⟩
  have all : ∀ n : Fin 8, (cutS "mistral" none (some (n.val : Int))).length ≤ 7 ∧ (cutS "mistral" (some (n.val : Int)) none).length ≤ 7 := by decide +kernel
  exact all ⟨n, by omega⟩
theorem ok_name {G : Gc} : BodyOk G n__law_name 2 m__law_name spName := by
  rintro ds S Q X - ⟨p, k, rfl, q⟩
  show wSs G _ m__law_name [some (.int p), some (.int k), none, none, none, none] S _
  unfold m__law_name
  walk_at "x"
  refine ⟨by decide, .inl (by decide), by decide, by decide +kernel, ?_⟩
  rw [let_at (Int.emod_nonneg _ (by decide)) (Int.emod_lt_of_pos _ (by decide))]
  refine ⟨_, rfl, ?_⟩
  have hS : sizeLine = 16777216 := rfl
  have t0 : 0 ≤ p / 4 % 8 := Int.emod_nonneg _ (by decide)
  have t1 : p / 4 % 8 < 8 := Int.emod_lt_of_pos _ (by decide)
  have u0 : 0 ≤ (p / 4 % 8 + 3 * k) % 8 := Int.emod_nonneg _ (by decide)
  have u1 : (p / 4 % 8 + 3 * k) % 8 < 8 := Int.emod_lt_of_pos _ (by decide)
  have w0 : 0 ≤ (p / 4 % 8 + k) % 9 := Int.emod_nonneg _ (by decide)
  have w1 : (p / 4 % 8 + k) % 9 < 9 := Int.emod_lt_of_pos _ (by decide)
  have z0 : 0 ≤ p % 4 := Int.emod_nonneg _ (by decide)
  have z1 : p % 4 < 4 := Int.emod_lt_of_pos _ (by decide)
  obtain ⟨c1, c2⟩ := cut_len t0 t1
  have one : ∀ c : Nat, (⟨#[c]⟩ : Str).length = 1 := fun _ => rfl
  refine ⟨by decide, by decide, by decide, by decide +kernel, by rw [one]; omega, by decide +kernel, by rw [len_app, one]; omega, .inl (by decide), by decide, ⟨by omega, by omega, by rw [one]; decide⟩, by decide, by decide, ?_⟩
  have hw : ∀ n : Fin 9, atI [D.str (Str.ofString "ask"), D.str (Str.ofString "bound"), D.str (Str.ofString "in"), D.str (Str.ofString "fair"), D.str (Str.ofString "free"), D.str (Str.ofString "none"), D.str (Str.ofString "house"), D.str (Str.ofString "a"), D.str (Str.ofString "paid")] (n.val : Int) = some (.str (wordsA.getD n.val "")) := by
    intro n
    obtain ⟨n, hn⟩ := n
    rcases n with _ | _ | _ | _ | _ | _ | _ | _ | _ | n
    all_goals first | rfl | (exfalso; omega)
  have hw := hw ⟨((p / 4 % 8 + k) % 9).toNat, by omega⟩
  simp only [Int.toNat_of_nonneg w0] at hw
  rw [hw]
  refine ⟨_, rfl, by decide, by decide, by decide, ?_⟩
  unfold nameOf at q
  have hz : p % 4 = 0 ∨ p % 4 = 1 ∨ p % 4 = 2 ∨ p % 4 = 3 := by omega
  rcases hz with e | e | e | e
  · rw [e] at q ⊢
    exact ⟨_, rfl, q⟩
  · rw [e] at q ⊢
    exact ⟨_, rfl, q⟩
  · rw [e] at q ⊢
    exact ⟨_, rfl, q⟩
  · rw [e] at q ⊢
    exact ⟨_, rfl, q⟩
abbrev Row := List (Str × Bool)
def plD (q : Str × Bool) : D := .tup [.str q.1, .bl q.2]
def rowD (r : Row) : List D := r.map plD
/-- the first place where the house is bound; the row's length, if none -/
def rch : Row → Str → Nat
  | [], _ => 0
  | (n, b) :: r, h => if b = true ∧ n = h then 0 else rch r h + 1
theorem rowD_len {r : Row} : (rowD r).length = r.length := by unfold rowD; rw [List.length_map]
mutual
theorem deq_refl : ∀ d : D, PyData.eqv (toPy d) (toPy d) = true
  | .non => rfl
  | .bl b => by unfold toPy PyData.eqv; simp
  | .int b => by unfold toPy PyData.eqv; simp
  | .str b => by unfold toPy PyData.eqv; simp
  | .ty _ => rfl
  | .ref _ => rfl
  | .scr _ => rfl
  | .tup ds => by unfold toPy PyData.eqv; exact deqs_refl ds
  | .lst ds => by unfold toPy PyData.eqv; exact deqs_refl ds
theorem deqs_refl : ∀ ds : List D, PyData.eqvAll (toPys ds) (toPys ds) = true
  | [] => rfl
  | d :: ds => by unfold toPys PyData.eqvAll; rw [deq_refl d, deqs_refl ds]; rfl
end
def mayAsk (r : Row) (p : Bool) (j : Nat) : Bool := match r[j]? with
  | some (_, b) => b && (p || decide (j = 0))
  | none => false
def asksTo (r : Row) (p : Bool) (n : Nat) : List Nat := (List.range n).filter (mayAsk r p)
def asks (r : Row) (h : Str) (p : Bool) : List Nat := asksTo r p (rch r h)
def natsD (l : List Nat) : List D := l.map fun (j : Nat) => .int (j : Int)
mutual
theorem same_refl : ∀ d : D, pureD d = true → sameD d d = true
  | .non, _ => by unfold sameD; rfl
  | .bl b, _ => by unfold sameD; simp
  | .int b, _ => by unfold sameD; simp
  | .str b, _ => by unfold sameD; simp
  | .ty _, h => by unfold pureD at h; cases h
  | .ref _, h => by unfold pureD at h; cases h
  | .scr _, h => by unfold pureD at h; cases h
  | .tup ds, h => by unfold pureD at h; unfold sameD; exact sames_refl ds h
  | .lst ds, h => by unfold pureD at h; unfold sameD; exact sames_refl ds h
theorem sames_refl : ∀ ds : List D, pureDs ds = true → sameDs ds ds = true
  | [], _ => by unfold sameDs; rfl
  | d :: ds, h => by unfold pureDs at h; unfold sameDs; rw [same_refl d (and2 h).1, sames_refl ds (and2 h).2]; rfl
end
mutual
def Vw (S : Sto) : D → D → Prop
  | f, .lst gs => ∃ fs, (f = .lst fs ∨ ∃ a, f = .ref a ∧ S a = some (.lst fs)) ∧ Vws S fs gs
  | f, .tup gs => ∃ fs, f = .tup fs ∧ Vws S fs gs
  | f, .non => f = .non
  | f, .bl b => f = .bl b
  | f, .int b => f = .int b
  | f, .str b => f = .str b
  | _, .ty _ => False
  | _, .ref _ => False
  | _, .scr _ => False
def Vws (S : Sto) : List D → List D → Prop
  | fs, [] => fs = []
  | fs, g :: gs => ∃ f r, fs = f :: r ∧ Vw S f g ∧ Vws S r gs
end
theorem Vws.len {S : Sto} : ∀ {fs gs : List D}, Vws S fs gs → fs.length = gs.length
  | fs, [], h => by unfold Vws at h; rw [h]
  | fs, g :: gs, h => by
    unfold Vws at h
    obtain ⟨f, r, rfl, _, h2⟩ := h
    rw [List.length_cons, List.length_cons, h2.len]
theorem Vws.get {S : Sto} : ∀ {fs gs : List D} {i : Nat} {g : D}, Vws S fs gs → gs[i]? = some g → ∃ f, fs[i]? = some f ∧ Vw S f g
  | fs, [], i, g, h, e => by simp at e
  | fs, g' :: gs, 0, g, h, e => by
    unfold Vws at h
    obtain ⟨f, r, rfl, h1, h2⟩ := h
    simp at e; subst e
    exact ⟨f, rfl, h1⟩
  | fs, g' :: gs, i + 1, g, h, e => by
    unfold Vws at h
    obtain ⟨f, r, rfl, h1, h2⟩ := h
    obtain ⟨f', h3, h4⟩ := Vws.get (i := i) (g := g) h2 (by simpa using e)
    exact ⟨f', by simpa using h3, h4⟩
mutual
theorem Vw.refl {S : Sto} : ∀ d : D, pureD d = true → Vw S d d
  | .non, _ => by unfold Vw; rfl
  | .bl b, _ => by unfold Vw; rfl
  | .int b, _ => by unfold Vw; rfl
  | .str b, _ => by unfold Vw; rfl
  | .ty _, h => by unfold pureD at h; cases h
  | .ref _, h => by unfold pureD at h; cases h
  | .scr _, h => by unfold pureD at h; cases h
  | .tup ds, h => by unfold pureD at h; unfold Vw; exact ⟨ds, rfl, Vws.refl ds h⟩
  | .lst ds, h => by unfold pureD at h; unfold Vw; exact ⟨ds, .inl rfl, Vws.refl ds h⟩
theorem Vws.refl {S : Sto} : ∀ ds : List D, pureDs ds = true → Vws S ds ds
  | [], _ => by unfold Vws; rfl
  | d :: ds, h => by unfold pureDs at h; unfold Vws; exact ⟨d, ds, rfl, Vw.refl d (and2 h).1, Vws.refl ds (and2 h).2⟩
end
mutual
/-- no list or tuple of it is too long, nor too deep -/
def dSmall : Nat → D → Prop
  | 0, .tup _ => False
  | 0, .lst _ => False
  | n + 1, .tup ds => ds.length ≤ 100000 ∧ dSmalls n ds
  | n + 1, .lst ds => ds.length ≤ 100000 ∧ dSmalls n ds
  | _, _ => True
def dSmalls : Nat → List D → Prop
  | _, [] => True
  | n, d :: ds => dSmall n d ∧ dSmalls n ds
end
theorem dSmalls_get {n : Nat} : ∀ {ds : List D} {i : Nat} {d : D}, dSmalls n ds → ds[i]? = some d → dSmall n d
  | [], i, d, _, e => by simp at e
  | d' :: ds, 0, d, h, e => by unfold dSmalls at h; simp at e; subst e; exact h.1
  | d' :: ds, i + 1, d, h, e => by unfold dSmalls at h; exact dSmalls_get h.2 (by simpa using e)
def spSameV (n : Nat) : DSp := fun ds S Q _ => ∃ f d v, ds = [f, d] ∧ Vw S f v ∧ Vw S d v ∧ dSmall n v ∧ Q (.bl true) S
theorem sameV_seq {G : Gc} {n : Nat} {f d : D} {fs ds vs : List D} {S : Sto} {k : D → Sto → Prop} (hG : G.fn "_law_same" = some (2, spSameV n)) (hf : ∀ j : Int, idxR f (.int j) S = atI fs j) (hd : ∀ j : Int, idxR d (.int j) S = atI ds j) (hv : Vws S fs vs) (hw : Vws S ds vs) (hz : vs.length ≤ 100000) (zd : dSmalls n vs) (q : k (.bl true) S) :
    lcLoop (fun _ => True) (fun d_2 S2 q => wE G (fun _ _ _ => False) e__law_same_1 [some f, some d, some d_2] S2 fun y S4 => q (some y) S4) ((List.range ds.length).map fun (k : Nat) => .int (k : Int)) [] S fun acc S2 => ∃ a, allB S2 acc = some a ∧ k (.bl a) S2 := by
  have hl := hw.len
  refine lc_any (fun z => some (.bl true)) (by rw [List.length_map, List.length_range, hl]; exact Nat.le_trans hz (by decide)) trivial ?_ ?_
  · intro z hz q' hq
    obtain ⟨j, hj, rfl⟩ := List.mem_map.mp hz
    have hj : j < ds.length := List.mem_range.mp hj
    have hjv : j < vs.length := by omega
    have hv' : vs[j]? = some vs[j] := List.getElem?_eq_getElem hjv
    obtain ⟨u, hu, vw⟩ := hv.get hv'
    obtain ⟨u', hu', vw'⟩ := hw.get hv'
    unfold e__law_same_1
    walk_at "x"
    rw [hG]
    walk_at "x"
    rw [hf, hd, atI_nn (by omega) (by rw [hv.len]; omega), atI_nn (by omega) (by omega), Int.toNat_natCast, hu, hu']
    walk_at "x"
    exact callW_of ⟨_, _, _, rfl, vw, vw', dSmalls_get zd hv', hq⟩
  · refine ⟨true, ?_, q⟩
    have e : ((List.range ds.length).map fun (k : Nat) => D.int (k : Int)).filterMap (fun _ => some (D.bl true)) = (List.replicate ds.length true).map .bl := by
      rw [List.filterMap_map, List.map_replicate]
      generalize ds.length = m
      induction m with
      | zero => rfl
      | succ m ih => rw [List.range_succ, List.filterMap_append, ih, List.replicate_succ']; rfl
    rw [e, allB_some]
    simp
theorem Vw_list {S : Sto} {f : D} {fs : List D} (ho : f = .lst fs ∨ ∃ a, f = .ref a ∧ S a = some (.lst fs)) : listOf S f = some fs ∧ ∀ c, isiR S f c = isiR S (.lst fs) c := by
  rcases ho with rfl | ⟨a, rfl, h⟩
  · exact ⟨rfl, fun _ => rfl⟩
  · refine ⟨lstAt_of h, fun c => ?_⟩
    unfold isiR
    have e : tyN S (.ref a) = some "list" := by
      show (lstAt S a).map _ = _
      rw [lstAt_of h]; rfl
    rw [e]; rfl
theorem ok_sameV {G : Gc} (n : Nat) (hG : ∀ k, n = k + 1 → G.fn "_law_same" = some (2, spSameV k)) : BodyOk G n__law_same 2 m__law_same (spSameV n) := by
  rintro ds S Q X - ⟨f, d, v, rfl, vf, vd, sm, q⟩
  show wSs G _ m__law_same [some f, some d, none] S _
  unfold m__law_same
  cases v with
  | ty _ => unfold Vw at vf; exact vf.elim
  | ref _ => unfold Vw at vf; exact vf.elim
  | scr _ => unfold Vw at vf; exact vf.elim
  | non => unfold Vw at vf vd; subst vf vd; walk_at "x"; exact ⟨by decide, q⟩
  | bl b => unfold Vw at vf vd; subst vf vd; walk_at "x"; exact ⟨by decide, by simpa using q⟩
  | int b => unfold Vw at vf vd; subst vf vd; walk_at "x"; exact ⟨by decide, by simpa using q⟩
  | str b => unfold Vw at vf vd; subst vf vd; walk_at "x"; exact ⟨by decide, by simpa using q⟩
  | tup vs =>
    unfold Vw at vf vd
    obtain ⟨fs, rfl, hv⟩ := vf
    obtain ⟨ds, rfl, hw⟩ := vd
    obtain ⟨k, rfl⟩ : ∃ k, n = k + 1 := by
      cases n with
      | zero => unfold dSmall at sm; exact sm.elim
      | succ k => exact ⟨k, rfl⟩
    unfold dSmall at sm
    have l1 := hv.len
    have l2 := hw.len
    walk_at "x"
    refine ⟨by decide, ?_⟩
    rw [if_neg (by decide), if_neg (by decide), if_pos (by rw [l1, l2])]
    refine ⟨⟨by omega, by have := sm.1; omega⟩, ?_⟩
    rw [Int.toNat_natCast]
    exact sameV_seq (hG k rfl) (fun _ => rfl) (fun _ => rfl) hv hw sm.1 sm.2 q
  | lst vs =>
    unfold Vw at vf vd
    obtain ⟨fs, ho, hv⟩ := vf
    obtain ⟨ds, ho', hw⟩ := vd
    obtain ⟨k, rfl⟩ : ∃ k, n = k + 1 := by
      cases n with
      | zero => unfold dSmall at sm; exact sm.elim
      | succ k => exact ⟨k, rfl⟩
    unfold dSmall at sm
    have l1 := hv.len
    have l2 := hw.len
    obtain ⟨hl, hi⟩ := Vw_list ho
    obtain ⟨hl', hi'⟩ := Vw_list ho'
    walk_at "x"
    simp only [hi, hi', x_lenO hl, x_lenO hl', x_some]
    walk_at "x"
    refine ⟨by decide, ?_⟩
    rw [if_neg (by decide), if_neg (by decide)]
    simp only [x_lenO hl', x_some]
    walk_at "x"
    rw [if_pos (by rw [l1, l2])]
    simp only [x_lenO hl', x_some]
    walk_at "x"
    refine ⟨⟨by omega, by have := sm.1; omega⟩, ?_⟩
    rw [Int.toNat_natCast]
    exact sameV_seq (hG k rfl) (fun _ => x_idxO hl) (fun _ => x_idxO hl') hv hw sm.1 sm.2 q
theorem bl_mem {X : Xc} (h : X.bl = true) : ("BadLine" : Str) ∈ exA X := by unfold exA blL; rw [if_pos h]; exact List.mem_append_left _ List.mem_cons_self
def excP (X : Xc) (c : Str) : Option (Nat × (List D → List (Str × D))) := if c = "BadLine" then (if X.bl = true then some (1, F2' D D.str .non "BadLine" "a bad line" "at") else none) else if c ∈ X.xs then some (1, F1 D D.str .non c) else none
def subP (X : Xc) (c c' : Str) : Option Bool := if c ∈ exU X ∧ c' ∈ exU X then some (subB c c') else none
def xflP (X : Xc) (c f : Str) : Bool := decide (c ∈ exA X) && (decide (f = "word") || (decide (c = "BadLine") && (decide (f = "at") && X.bl)))
def cfgP (X : Xc) (fl : List (Str × Str)) (con : Str → Option D) : Cfg := { con := con, fld := fun c f => decide ((c, f) ∈ fl), exc := excP X, sub := subP X, xfl := xflP X, isv := fun c => decide (c ∈ exU X) }
def BindsD (d : He.DefD) (ps : List Str) : Prop := ∀ (kV doc pm : Value) (an : Option Addr) (cdv ct : Value) (us : List Value), us.length = ps.length → bindArgs (PySem.W.fnOf d.name d.qual d.params d.body d.scope .none kV doc pm an cdv ct) ⟨us, []⟩ = pure (ps.zip us)
def iniB (d : He.DefD) (c : Str) (ps : List Str) : Bool := decide (d.at_ = (c, some ("__init__" : Str))) && (d.dfl.isEmpty && (d.kwd.isEmpty && fnB ps ps d.scope))
def ini0 (d : He.DefD) : Bool := iniB d exTop ["self", "why"] && b0B d.body
def ini1 (d : He.DefD) (c : Str) : Bool := iniB d c ["self", "why"] && (gloB d.scope exTop && b1B exTop c d.body)
def ini2 (d : He.DefD) : Bool := iniB d "BadLine" ["self", "at"] && (gloB d.scope exTop && b2B exTop "BadLine" "a bad line" "at" d.body)
structure Inis (X : Xc) (fn : List He.DefD) : Prop where
  i0 : ∃ (i : Nat) (d : He.DefD), fn[i]? = some d ∧ ini0 d = true ∧ BindsD d ["self", "why"]
  i1 : ∀ c ∈ X.xs, ∃ (i : Nat) (d : He.DefD), fn[i]? = some d ∧ ini1 d c = true ∧ BindsD d ["self", "why"]
  i2 : X.bl = true → ∃ (i : Nat) (d : He.DefD), fn[i]? = some d ∧ ini2 d = true ∧ BindsD d ["self", "at"]
theorem ini_fun {fa : List He.Fa} {fn : List He.DefD} {K : PySem.W.Frag} (c : He.SaysD fa fn K) {i : Nat} {d : He.DefD} {x : Str} {ps : List Str} (hd : fn[i]? = some d) (h : iniB d x ps = true) (hb : BindsD d ps) :
    ∃ fd, FunD K d.name d.qual d.params d.body d.scope [] [] (He.ma K (He.ga K x) "__init__") fd ∧ FnScope ps ps d.scope ∧ Binds K fd ps [] := by
  obtain ⟨h1, h⟩ := He.ba h
  obtain ⟨h2, h⟩ := He.ba h
  obtain ⟨h3, h4⟩ := He.ba h
  obtain ⟨fd, F⟩ := c.def_ i hd
  have h2 := List.isEmpty_iff.mp h2
  have h3 := List.isEmpty_iff.mp h3
  have F : FunD K d.name d.qual d.params d.body d.scope [] [] (He.ma K (He.ga K x) "__init__") fd := by
    have := F
    unfold He.DefD.dvs He.DefD.kws at this
    rw [h2, h3, of_decide_eq_true h1] at this
    exact this
  exact ⟨fd, F, fnB_ok h4, F.bindsN hb⟩
theorem nofX {K : PySem.W.Frag} {c f : Str} (h : (Fx.nof c f).ok K = true) : noF K (He.ga K c) f := He.eqO_ok h
theorem oexX {K : PySem.W.Frag} {c : Str} (h : (Fx.oex c).ok K = true) : OexC K (He.ga K c) ∧ PySem.W.findIn K (.ref (He.ga K c)) "__init__" = some (some (.ref (He.ma K (He.ga K c) "__init__"))) ∧ PySem.W.typeIn K (.ref (He.ma K (He.ga K c) "__init__")) = some (.type "function") := by
  obtain ⟨h1, h⟩ := He.ba h
  obtain ⟨h2, h3⟩ := He.ba h
  exact ⟨oexB_ok h1, He.eqO_ok h2, of_decide_eq_true h3⟩
theorem excX {K : PySem.W.Frag} {c : Str} (h : (Fx.exc c).ok K = true) (hm : (Fx.mro c).ok K = true) : ExcC K (He.ga K c) := by
  obtain ⟨h1, h⟩ := He.ba h
  obtain ⟨h2, h⟩ := He.ba h
  obtain ⟨h3, h⟩ := He.ba h
  obtain ⟨h4, h⟩ := He.ba h
  obtain ⟨h5, h6⟩ := He.ba h
  have s1 := mro_sub hm (.type "BaseException")
  have s2 := mro_sub hm (.type "object")
  have e1 : (mroL K c).contains (.type "BaseException") = true := by unfold mroL; split <;> simp [veT]
  have e2 : (mroL K c).contains (.type "object") = true := by unfold mroL; split <;> simp [veT]
  rw [e1] at s1
  rw [e2] at s2
  exact ⟨He.eqO_ok h1, He.eqO_ok h2, s1, h3, He.eqO_ok h4, He.eqO_ok h5, of_decide_eq_true h6, s2⟩
theorem cfg_ok {P : Program} {w : World} {K : PySem.W.Frag} {mg : Str → Option Value} {base h : Heap} {fa : List He.Fa} {fx : List Fx} {fn : List He.DefD} {fl : List (Str × Str)} {con : Str → Option D} {X : Xc} (IX : K.In h) (Gm : h.Ns mainGlobals mg) (c : SaysM fa fx fn K) (hok : X.xs.all PySem.PyData.strOk = true) (hfa : ∀ f ∈ faX X fl, f ∈ fa) (hfx : ∀ f ∈ fxX X, f ∈ fx) (hi : Inis X fn) (hcon : conOk K mg con) :
    CfgOk P w K mg base (cfgP X fl con) := by
  have ka : ∀ f ∈ faX X fl, f.ok K = true := fun f m => says_mem c.d (hfa f m)
  have kx : ∀ f ∈ fxX X, f.ok K = true := fun f m => c.x f (hfx f m)
  have glo : ∀ x ∈ exU X, mg x = some (.ref (He.ga K x)) := fun x m => He.glo_ok IX Gm (ka (.glo x) (by unfold faX; simp only [List.mem_append, List.mem_map]; exact .inl (.inl ⟨x, m, rfl⟩)))
  have mem1 : ∀ {f : Fx}, (∃ x ∈ exA X, Fx.oex x = f) → f ∈ fxX X := fun q => by unfold fxX; simp only [List.mem_append, List.mem_map]; exact .inl q
  have mem2 : ∀ {f : Fx}, (∃ x ∈ exA X, Fx.nof x "why" = f) → f ∈ fxX X := fun q => by unfold fxX; simp only [List.mem_append, List.mem_map]; exact .inr (.inl q)
  have mem3 : ∀ {f : Fx}, (∃ x ∈ exA X, Fx.nof x "word" = f) → f ∈ fxX X := fun q => by unfold fxX; simp only [List.mem_append, List.mem_map]; exact .inr (.inr (.inl q))
  have mem4 : ∀ {f : Fx}, (∃ x ∈ exU X, Fx.mro x = f) → f ∈ fxX X := fun q => by unfold fxX; simp only [List.mem_append, List.mem_map]; exact .inr (.inr (.inr (.inl q)))
  have mem5 : ∀ {f : Fx}, (∃ x ∈ exU X, Fx.exc x = f) → f ∈ fxX X := fun q => by unfold fxX; simp only [List.mem_append, List.mem_map]; exact .inr (.inr (.inr (.inr (.inl q))))
  have mem6 : ∀ {f : Fx}, f ∈ [Fx.bas exTop, Fx.dis (exU X)] → f ∈ fxX X := fun q => by unfold fxX; simp only [List.mem_append]; exact .inr (.inr (.inr (.inr (.inr (.inl q)))))
  have mem7 : X.bl = true → Fx.nof "BadLine" "at" ∈ fxX X := fun q => by unfold fxX; simp only [List.mem_append]; refine .inr (.inr (.inr (.inr (.inr (.inr ?_))))); unfold blL; rw [if_pos q]; exact List.mem_cons_self
  have oex : ∀ x ∈ exA X, _ := fun x m => oexX (kx (.oex x) (mem1 ⟨x, m, rfl⟩))
  have why : ∀ x ∈ exA X, _ := fun x m => nofX (kx (.nof x "why") (mem2 ⟨x, m, rfl⟩))
  have word : ∀ x ∈ exA X, _ := fun x m => nofX (kx (.nof x "word") (mem3 ⟨x, m, rfl⟩))
  have mro : ∀ x ∈ exU X, (Fx.mro x).ok K = true := fun x m => kx (.mro x) (mem4 ⟨x, m, rfl⟩)
  have exc : ∀ x ∈ exU X, _ := fun x m => excX (kx (.exc x) (mem5 ⟨x, m, rfl⟩)) (mro x m)
  have bas : (Fx.bas exTop).ok K = true := kx _ (mem6 (by simp))
  have dis : (Fx.dis (exU X)).ok K = true := kx _ (mem6 (by simp))
  have at_ : X.bl = true → noF K (He.ga K "BadLine") "at" := fun q => nofX (kx _ (mem7 q))
  have top : exTop ∈ exU X := List.mem_cons_self
  have sub_of : ∀ {x : Str}, x ∈ exA X → x ∈ exU X := fun m => List.mem_cons_of_mem _ m
  -- the base
  obtain ⟨i0, d0, hd0, h0, hb0⟩ := hi.i0
  obtain ⟨h01, h02⟩ := He.ba h0
  obtain ⟨fd0, F0, S0, B0⟩ := ini_fun c.d hd0 h01 hb0
  have bs : Bs P w K mg base exTop (He.ga K exTop) (He.ma K (He.ga K exTop) "__init__") fd0 := by
    obtain ⟨q1, q⟩ := He.ba bas
    obtain ⟨q2, q3⟩ := He.ba q
    refine ⟨⟨q1, He.eqO_ok q2⟩, ?_, b0_ok F0 S0 h02, F0.kp, B0, glo _ top, by decide +kernel⟩
    have q3 : (match PySem.W.findCls K (.ref (He.ga K exTop)) (.type "type") "__init__" with
      | some (.val (.ref f)) => decide (f = He.ma K (He.ga K exTop) "__init__")
      | _ => false) = true := q3
    split at q3
    · rename_i f e
      rw [e, of_decide_eq_true q3]
    · cases q3
  exact {
    cds := fun n l q => (by cases q)
    cts := fun n l q => (by cases q)
    con := hcon
    fld := fun cc f q => by
      have m : (cc, f) ∈ fl := of_decide_eq_true q
      refine ⟨He.cls_ok (ka (.cls cc) ?_), He.noat_ok (ka (.noat cc f) ?_)⟩
      · unfold faX; simp only [List.mem_append, List.mem_map]; exact .inl (.inr ⟨_, m, rfl⟩)
      · unfold faX; simp only [List.mem_append, List.mem_map]; exact .inr (.inl ⟨_, m, rfl⟩)
    exc := fun cc n F q => by
      replace q : (if cc = "BadLine" then (if X.bl = true then some (1, F2' D D.str .non "BadLine" "a bad line" "at") else none) else if cc ∈ X.xs then some (1, F1 D D.str .non cc) else none) = some (n, F) := q
      split at q
      · rename_i e
        subst e
        by_cases hbl : X.bl = true
        rotate_left
        · rw [if_neg hbl] at q; cases q
        rw [if_pos hbl] at q
        cases q
        have m : ("BadLine" : Str) ∈ exA X := bl_mem hbl
        obtain ⟨i, d, hd, hh, hb⟩ := hi.i2 hbl
        obtain ⟨h1, hh⟩ := He.ba hh
        obtain ⟨h2, h3⟩ := He.ba hh
        obtain ⟨fd, FF, SS, BB⟩ := ini_fun c.d hd h1 hb
        obtain ⟨o1, o2, o3⟩ := oex _ m
        exact ⟨_, fd, _, _, glo _ (sub_of m), o1, o2, o3, b2_ok bs FF SS h2 h3 (by decide +kernel) (by decide +kernel) o1 (why _ m) (word _ m) (at_ hbl), BB, F2_rel (by decide +kernel) (by decide +kernel)⟩
      · split at q
        · rename_i m
          cases q
          have m' : cc ∈ exA X := List.mem_append_right _ m
          obtain ⟨i, d, hd, hh, hb⟩ := hi.i1 cc m
          obtain ⟨h1, hh⟩ := He.ba hh
          obtain ⟨h2, h3⟩ := He.ba hh
          obtain ⟨fd, FF, SS, BB⟩ := ini_fun c.d hd h1 hb
          obtain ⟨o1, o2, o3⟩ := oex _ m'
          refine ⟨_, fd, _, _, glo _ (sub_of m'), o1, o2, o3, b1_ok bs FF SS h2 h3 o1 (why _ m') (word _ m'), BB, F1_rel ?_⟩
          exact List.all_eq_true.mp hok cc m
        · cases q
    sub := fun cc c' b q => by
      have q : (if cc ∈ exU X ∧ c' ∈ exU X then some (subB cc c') else none) = some b := q
      split at q
      · rename_i m
        cases q
        have hs : PySem.W.subIn K (.ref (He.ga K cc)) (.ref (He.ga K c')) = some (subB cc c') := by rw [mro_sub (mro _ m.1), mroL_has dis m.1 m.2 top]
        obtain ⟨⟨cd, hcd, _⟩, ht, hdct⟩ := mro_ok (mro _ m.2)
        have he : PySem.W.exmOne K (.ref (He.ga K cc)) (.ref (He.ga K c')) = some (subB cc c') := PySem.W.exm_ref (exc _ m.2).hs hdct ht hs
        refine ⟨glo _ m.2, he, ?_, exc _ m.1⟩
        by_cases e : cc = c'
        · subst e
          unfold PySem.W.kitOne
          rw [if_pos (beq_self_eq_true _)]
          simp [subB]
        · have hne : ¬ (Value.ref (He.ga K cc) == Value.ref (He.ga K c')) = true := fun z => e (ga_inj dis m.1 m.2 (Value.ref.inj (beq_iff_eq.mp z)))
          unfold PySem.W.kitOne
          rw [if_neg hne]
          unfold PySem.W.exmOne at he
          split at he
          · exact he
          · cases he
      · cases q
    isv := fun cc q => by
      have m : cc ∈ exU X := of_decide_eq_true q
      refine ⟨He.free_ok IX Gm (ka (.free "ValueError") (by unfold faX; exact List.mem_append_right _ (List.mem_append_right _ (List.mem_singleton.mpr rfl)))), ?_, exc _ m⟩
      have s1 := mro_sub (mro _ m) (.type "ValueError")
      have e1 : (mroL K cc).contains (.type "ValueError") = true := by unfold mroL; split <;> simp [veT]
      rw [e1] at s1
      unfold PySem.W.kitOne
      have hne : ¬ ((Value.ref (He.ga K cc) == Value.type "ValueError") = true) := fun z => by
        have z := beq_iff_eq.mp z
        cases z
      rw [if_neg hne]
      have km : PySem.W.kitMeta "ValueError" = true := by decide +kernel
      show (if PySem.W.kitMeta "ValueError" = true then PySem.W.subIn K (.ref (He.ga K cc)) (.type "ValueError") else none) = some true
      rw [if_pos km]
      exact s1
    xfl := fun cc f q => by
      obtain ⟨q1, q2⟩ := He.ba (show (decide (cc ∈ exA X) && (decide (f = "word") || (decide (cc = "BadLine") && (decide (f = "at") && X.bl)))) = true from q)
      have m : cc ∈ exA X := of_decide_eq_true q1
      have e := exc _ (sub_of m)
      refine ⟨⟨e.hg, e.hk, e.hs, e.hd⟩, ?_⟩
      rcases Bool.or_eq_true_iff.mp q2 with z | z
      · rw [of_decide_eq_true z]; exact word _ m
      · obtain ⟨z1, z2⟩ := He.ba z
        obtain ⟨z2, z3⟩ := He.ba z2
        rw [of_decide_eq_true z1, of_decide_eq_true z2]
        exact at_ z3 }
end Mn
namespace Mn
open PySem L2
/-- what is still to be shown; not looked into by the walk -/
class Kt (α : Type) where
  k : α → Prop
class Pt where
  p : Prop
class Ct where
  k : D → Sto → Prop
  x : Exc → Sto → Prop
class Ft where
  g : Sto → Prop
  f : D → Env → Sto → KS → Prop
  k : KS
class Lt where
  g : Sto → Prop
  f : D → Sto → (Option D → Sto → Prop) → Prop
  k : List D → Sto → Prop
def bOp {α : Type} (o : Option α) [K : Kt α] : Prop := ∃ d, o = some d ∧ K.k d
def bFp {α : Type} (o : Option (Nat × α)) (n : Nat) [K : Kt α] : Prop := ∃ d, o = some (n, d) ∧ K.k d
def brp (b : Bool) [A : Pt] [B : Pt] : Prop := if b = true then A.p else B.p
def nwp (S : Sto) [K : Kt Addr] : Prop := ∀ p, S p = none → K.k p
def cwp (sp : DSp) (ds : List D) (S : Sto) [K : Ct] : Prop := callW sp ds S K.k K.x
def flp (ds : List D) (σ : Env) (S : Sto) [K : Ft] : Prop := forLoop K.g K.f ds σ S K.k
def lkp (S : Sto) [K : Kt (Addr × List (Key × D))] : Prop := ∃ q : Addr × List (Key × D), S q.1 = some (.dct q.2) ∧ K.k q
/-- an operation of one's own -/
def ckp (c : Sto → D → Prop) (S : Sto) (d : D) [K : Kt Unit] : Prop := c S d ∧ K.k ()
theorem ck_t {c : Sto → D → Prop} (h : ∀ S d, c S d) {S : Sto} {d : D} {k : Unit → Prop} : @ckp c S d ⟨k⟩ = k () := propext ⟨fun z => z.2, fun z => ⟨h S d, z⟩⟩
def pgp (p : Plug) (G : Gc) (ds : List D) (S : Sto) [K : Kt (D × Sto)] : Prop := p.sem G ds S fun d S' => K.k (d, S')
theorem pg_i {p : Plug} {G : Gc} {ds : List D} {S : Sto} {k : D × Sto → Prop} (h : p.sem G ds S fun d S' => k (d, S')) : @pgp p G ds S ⟨k⟩ := h
def lcp (ds : List D) (S : Sto) [K : Lt] : Prop := lcLoop K.g K.f ds [] S K.k
section
variable {α : Type} {d : α} {k : α → Prop}
theorem bO_some : @bOp _ (some d) ⟨k⟩ = k d := propext ⟨fun ⟨_, h, p⟩ => by cases h; exact p, fun p => ⟨d, rfl, p⟩⟩
theorem bO_none : @bOp _ none ⟨k⟩ = False := propext ⟨fun ⟨_, h, _⟩ => (by cases h), False.elim⟩
theorem bO_ite {c : Prop} [Decidable c] : @bOp _ (if c then some d else none) ⟨k⟩ = (c ∧ k d) := by
  by_cases h : c
  · rw [if_pos h, bO_some]; exact propext ⟨fun q => ⟨h, q⟩, fun q => q.2⟩
  · rw [if_neg h, bO_none]; exact propext ⟨False.elim, fun q => h q.1⟩
theorem bO_iteO {c : Prop} [Decidable c] {o : Option α} : @bOp _ (if c then o else none) ⟨k⟩ = (c ∧ @bOp _ o ⟨k⟩) := by
  by_cases h : c
  · rw [if_pos h]; exact propext ⟨fun q => ⟨h, q⟩, fun q => q.2⟩
  · rw [if_neg h, bO_none]; exact propext ⟨False.elim, fun q => h q.1⟩
theorem bO_map {β : Type} {f : β → α} {o : Option β} : @bOp _ (o.map f) ⟨k⟩ = @bOp _ o ⟨fun b => k (f b)⟩ := by
  cases o with
  | none => rw [Option.map_none, bO_none, bO_none]
  | some b => rw [Option.map_some, bO_some, bO_some]
theorem bF_some {n : Nat} : @bFp _ (some (n, d)) n ⟨k⟩ = k d := propext ⟨fun ⟨_, h, p⟩ => by cases h; exact p, fun p => ⟨d, rfl, p⟩⟩
theorem brk_t {A B : Prop} : @brp true ⟨A⟩ ⟨B⟩ = A := if_pos rfl
theorem brk_f {A B : Prop} : @brp false ⟨A⟩ ⟨B⟩ = B := if_neg (by decide)
theorem nw_i {S : Sto} {k : Addr → Prop} (h : ∀ p, S p = none → k p) : @nwp S ⟨k⟩ := h
/-- a call -/
theorem cw_i {sp : DSp} {ds : List D} {S : Sto} {k : D → Sto → Prop} {x : Exc → Sto → Prop} (h : sp ds S k x) : @cwp sp ds S ⟨k, x⟩ := callW_of h
theorem fl_i {ds : List D} {σ : Env} {S : Sto} {g : Sto → Prop} {f : D → Env → Sto → KS → Prop} {k : KS} (h : forLoop g f ds σ S k) : @flp ds σ S ⟨g, f, k⟩ := h
theorem lc_i {ds : List D} {S : Sto} {g : Sto → Prop} {f : D → Sto → (Option D → Sto → Prop) → Prop} {k : List D → Sto → Prop} (h : lcLoop g f ds [] S k) : @lcp ds S ⟨g, f, k⟩ := h
/-- a dict is locked -/
theorem lk_i {S : Sto} {k : Addr × List (Key × D) → Prop} (a : Addr) (kvs : List (Key × D)) (h : S a = some (.dct kvs)) (q : k (a, kvs)) : @lkp S ⟨k⟩ := ⟨(a, kvs), h, q⟩
theorem bO_i {o : Option α} {k : α → Prop} (d : α) (h : o = some d) (q : k d) : @bOp _ o ⟨k⟩ := ⟨d, h, q⟩
end
def attR (G : Gc) (u : D) (f : Str) (S : Sto) : Option D := match u with
  | .ref a => (match S a with
    | some (.ins c fs) => if G.fld c f = true then fs.lookup f else none
    | _ => none)
  | _ => none
def selR (c m : Str) (u : D) (S : Sto) : Option Unit := match u with
  | .ref a => (match S a with
    | some (.ins c' fs) => if c' = c then (match fs.lookup m with
      | none => some ()
      | some _ => none) else none
    | _ => none)
  | _ => none
def satR (G : Gc) (u : D) (f : Str) (v : D) (S : Sto) : Option Sto := match u with
  | .ref a => (match S a with
    | some (.ins c fs) => if G.fld c f = true then (if fs.length < 1000 then some (put S a (.ins c (pf f v fs))) else none) else none
    | _ => none)
  | _ => none
def intO : D → Option Int
  | .int i => some i
  | _ => none
theorem intO_int {i : Int} : intO (.int i) = some i := rfl
section
variable {G : Gc} {x : XW} {σ : Env} {S : Sto} {k : D → Sto → Prop} {a b c e : ME} {m : Bool} {o o' : Operator}
theorem p_var {i : Nat} : wE G x (.var i) σ S k = @bOp _ ((σ[i]?).bind id) ⟨fun d => k d S⟩ := by
  rw [wE]
  refine propext ⟨?_, ?_⟩
  · rintro ⟨d, h, q⟩; exact ⟨d, by rw [h]; rfl, q⟩
  · rintro ⟨d, h, q⟩
    cases hh : σ[i]? with
    | none => rw [hh] at h; cases h
    | some z => rw [hh] at h; exact ⟨d, by rw [show z = some d from h], q⟩
theorem p_cst {d : D} : wE G x (.cst d) σ S k = k d S := by rw [wE]
theorem p_glo {n : Str} : wE G x (.glo n) σ S k = @bOp _ (G.con n) ⟨fun d => k d S⟩ := by rw [wE]; rfl
theorem p_bin : wE G x (.bin o m a b) σ S k = wE G x a σ S fun u S1 => wE G x b σ S1 fun v S2 => @bOp _ (binR o u v S2) ⟨fun r => fin m r S2 k⟩ := by rw [wE]; rfl
theorem p_neg : wE G x (.neg a) σ S k = wE G x a σ S fun u S1 => @bOp _ (intO u) ⟨fun i => k (.int (-i)) S1⟩ := by
  rw [wE]
  congr 1
  funext u S1
  refine propext ⟨?_, ?_⟩
  · rintro ⟨i, rfl, q⟩; exact ⟨i, rfl, q⟩
  · rintro ⟨i, h, q⟩
    cases u <;> first | (exact (nomatch (show (none : Option Int) = some i from h))) | (cases h; exact ⟨_, rfl, q⟩)
theorem p_not : wE G x (.not a) σ S k = wE G x a σ S fun u S1 => @bOp _ (tru S1 u) ⟨fun b => k (.bl (!b)) S1⟩ := by rw [wE]; rfl
theorem p_cmp {o : CmpOp} : wE G x (.cmp o a b) σ S k = wE G x a σ S fun u S1 => wE G x b σ S1 fun v S2 => @bOp _ (cmpR o u v S2) ⟨fun r => k (.bl r) S2⟩ := by rw [wE]; rfl
theorem p_cmp2 {o o' : CmpOp} : wE G x (.cmp2 o o' a b c) σ S k = wE G x a σ S fun u S1 => wE G x b σ S1 fun v S2 => @bOp _ (cmpR o u v S2) ⟨fun r => @brp r ⟨(wE G x c σ S2 fun z S3 => @bOp _ (cmpR o' v z S3) ⟨fun r' => k (.bl r') S3⟩)⟩ ⟨(k (.bl false) S2)⟩⟩ := by rw [wE]; rfl
theorem p_and : wE G x (.and a b) σ S k = wE G x a σ S fun u S1 => @bOp _ (tru S1 u) ⟨fun c => @brp c ⟨(wE G x b σ S1 k)⟩ ⟨(k u S1)⟩⟩ := by rw [wE]; rfl
theorem p_or : wE G x (.or a b) σ S k = wE G x a σ S fun u S1 => @bOp _ (tru S1 u) ⟨fun c => @brp c ⟨(k u S1)⟩ ⟨(wE G x b σ S1 k)⟩⟩ := by rw [wE]; rfl
theorem p_ifx : wE G x (.ifx c a b) σ S k = wE G x c σ S fun u S1 => @bOp _ (tru S1 u) ⟨fun z => @brp z ⟨(wE G x a σ S1 k)⟩ ⟨(wE G x b σ S1 k)⟩⟩ := by rw [wE]; rfl
theorem p_idx : wE G x (.idx a b) σ S k = wE G x a σ S fun u S1 => wE G x b σ S1 fun v S2 => @bOp _ (idxR u v S2) ⟨fun d => k d S2⟩ := by rw [wE]; rfl
theorem exInt {v : D} {P : Int → Prop} : (∃ i, v = .int i ∧ P i) = @bOp _ (intO v) ⟨P⟩ := by
  refine propext ⟨?_, ?_⟩
  · rintro ⟨i, rfl, q⟩; exact ⟨i, rfl, q⟩
  · rintro ⟨i, h, q⟩
    cases v <;> first | (exact (nomatch (show (none : Option Int) = some i from h))) | (cases h; exact ⟨_, rfl, q⟩)
theorem p_slL : wE G x (.slL m a b) σ S k = wE G x a σ S fun u S1 => wE G x b σ S1 fun v S2 => @bOp _ (intO v) ⟨fun i => @bOp _ (slcR u (some i) none S2) ⟨fun r => fin m r S2 k⟩⟩ := by
  rw [wE]; congr 1; funext u S1; congr 1; funext v S2; rw [exInt]; rfl
theorem p_slU : wE G x (.slU m a b) σ S k = wE G x a σ S fun u S1 => wE G x b σ S1 fun v S2 => @bOp _ (intO v) ⟨fun i => @bOp _ (slcR u none (some i) S2) ⟨fun r => fin m r S2 k⟩⟩ := by
  rw [wE]; congr 1; funext u S1; congr 1; funext v S2; rw [exInt]; rfl
theorem p_slLU : wE G x (.slLU m a b c) σ S k = wE G x a σ S fun u S1 => wE G x b σ S1 fun v S2 => @bOp _ (intO v) ⟨fun i => wE G x c σ S2 fun z S3 => @bOp _ (intO z) ⟨fun j => @bOp _ (slcR u (some i) (some j) S3) ⟨fun r => fin m r S3 k⟩⟩⟩ := by
  rw [wE]; congr 1; funext u S1; congr 1; funext v S2; rw [exInt]; show (∃ i, _ = some i ∧ _) = (∃ i, _ = some i ∧ _); congr 1; funext i; congr 1; show wE G x c σ S2 _ = wE G x c σ S2 _; congr 1; funext z S3; rw [exInt]; rfl
theorem p_tup {es : List ME} : wE G x (.tup es) σ S k = wEs G x es σ S fun ds S1 => ds.length ≤ sizeLine ∧ k (.tup ds) S1 := by rw [wE]
theorem p_lstF {es : List ME} : wE G x (.lst false es) σ S k = wEs G x es σ S fun ds S1 => ds.length ≤ sizeLine ∧ k (.lst ds) S1 := by rw [wE]; rfl
theorem p_lstT {es : List ME} : wE G x (.lst true es) σ S k = wEs G x es σ S fun ds S1 => ds.length ≤ sizeLine ∧ @nwp S1 ⟨fun p => k (.ref p) (put S1 p (.lst ds))⟩ := by rw [wE]; rfl
theorem p_blt {f : Bf} {es : List ME} : wE G x (.blt f m es) σ S k = wEs G x es σ S fun ds S1 => @bOp _ (bltR f ds S1) ⟨fun r => fin m r S1 k⟩ := by rw [wE]; rfl
def tO (b : Bool) : Option Unit := if b = true then some () else none
theorem tO_t : tO true = some () := rfl
theorem exT {b : Bool} {P : Prop} : (b = true ∧ P) = @bOp _ (tO b) ⟨fun _ => P⟩ := by
  cases b
  · exact propext ⟨fun h => (by cases h.1), fun ⟨_, h, _⟩ => (by cases h)⟩
  · exact propext ⟨fun h => ⟨(), rfl, h.2⟩, fun ⟨_, _, h⟩ => ⟨rfl, h⟩⟩
theorem p_bm {f : Bm} {es : List ME} : wE G x (.bm f m a es) σ S k = wE G x a σ S fun u S1 => @bOp _ (tO (bmT f u S1)) ⟨fun _ => wEs G x es σ S1 fun ds S2 => @bOp _ (bmR f u ds S2) ⟨fun r => fin m r S2 k⟩⟩ := by
  rw [wE]; congr 1; funext u S1; rw [← exT]; rfl
theorem p_call {f : Str} {es : List ME} : wE G x (.call f es) σ S k = @bFp _ (G.fn f) es.length ⟨fun sp => wEs G x es σ S fun ds S1 => @cwp sp ds S1 ⟨k, fun e S2 => x e σ S2⟩⟩ := by rw [wE]; rfl
theorem p_lc {i : Nat} {t : MT} {as c : List ME} : wE G x (.lc i m t as c e) σ S k = wEs G x as σ S fun ds S1 => @bOp _ (itS i ds S1) ⟨fun its => @lcp its.1 S1 ⟨its.2, fun d S2 q => ∃ σ', asgT t d σ = some σ' ∧ wC G c σ' S2 fun b S3 => if b = true then wE G (fun _ _ _ => False) e σ' S3 fun y S4 => q (some y) S4 else q none S3, fun acc S2 => fin m (.newL acc) S2 k⟩⟩ := by rw [wE]; rfl
theorem p_att {f : Str} : wE G x (.att a f) σ S k = wE G x a σ S fun u S1 => @bOp _ (attR G u f S1) ⟨fun d => k d S1⟩ := by
  rw [wE]; congr 1; funext u S1
  refine propext ⟨?_, ?_⟩
  · rintro ⟨a, c, fs, d, rfl, h1, h2, h3, q⟩
    refine ⟨d, ?_, q⟩
    show (match S1 a with | some (.ins c fs) => if G.fld c f = true then fs.lookup f else none | _ => none) = _
    rw [h1]; show (if _ then _ else _) = _; rw [if_pos h2]; exact h3
  · rintro ⟨d, h, q⟩
    unfold attR at h
    split at h
    · rename_i a
      split at h
      · rename_i c fs e
        split at h
        · rename_i z; exact ⟨a, c, fs, d, rfl, e, z, h, q⟩
        · cases h
      · cases h
    · cases h
theorem p_mth {cl f : Str} {es : List ME} : wE G x (.mth cl a f es) σ S k = @bFp _ (G.mt cl f) (es.length + 1) ⟨fun sp => wE G x a σ S fun u S1 => @bOp _ (selR cl f u S1) ⟨fun _ => wEs G x es σ S1 fun ds S2 => @cwp sp (u :: ds) S2 ⟨k, fun e S3 => x e σ S3⟩⟩⟩ := by
  rw [wE]
  show (∃ sp, _ = some (_, sp) ∧ _) = (∃ sp, _ = some (_, sp) ∧ _)
  congr 1; funext sp; congr 1; congr 1; funext u S1
  refine propext ⟨?_, ?_⟩
  · rintro ⟨a, fs, rfl, h1, h2, q⟩
    refine ⟨(), ?_, q⟩
    show (match S1 a with | some (.ins c' fs) => if c' = cl then (match fs.lookup f with | none => some () | some _ => none) else none | _ => none) = _
    rw [h1]; show (if _ then _ else _) = _; rw [if_pos rfl, h2]
  · rintro ⟨_, h, q⟩
    unfold selR at h
    split at h
    · rename_i a
      split at h
      · rename_i c fs e
        split at h
        · rename_i z
          subst z
          split at h
          · rename_i e2; exact ⟨a, fs, rfl, e, e2, q⟩
          · cases h
        · cases h
      · cases h
    · cases h
theorem p_mk {cl : Str} {es : List ME} : wE G x (.mk cl es) σ S k = @bFp _ (G.mkr cl) (es.length + 1) ⟨fun sp => wEs G x es σ S fun ds S1 => @nwp S1 ⟨fun p => @cwp sp (.ref p :: ds) (put S1 p (.ins cl [])) ⟨fun v S2 => v = .non ∧ k (.ref p) S2, fun _ _ => False⟩⟩⟩ := by rw [wE]; rfl
theorem p_lck : wE G x (.lck e) σ S k = @lkp S ⟨fun q => ∀ o ks, wE G (fun _ _ _ => False) e σ (put S q.1 (.ldc o ks q.2)) fun d S' => S' q.1 = some (.ldc o ks q.2) ∧ k d (put S' q.1 (.dct q.2))⟩ := by
  rw [wE]
  exact propext ⟨fun ⟨a, kvs, h, q⟩ => ⟨(a, kvs), h, q⟩, fun ⟨q, h, z⟩ => ⟨q.1, q.2, h, z⟩⟩
theorem p_dcN : wE G x .dcN σ S k = @nwp S ⟨fun p => k (.ref p) (put S p (.dcT []))⟩ := by rw [wE]; rfl
theorem p_lns : wE G x (.lns e) σ S k = wE G x e σ S fun d S1 => @bOp _ (lnsR d S1) ⟨fun r => k r S1⟩ := by rw [wE]; rfl
theorem p_plug {p : Plug} {es : List ME} : wE G x (.plug p es) σ S k = wEp G x (p.chk G) es σ S fun ds S1 => @pgp p G ds S1 ⟨fun q => k q.1 q.2⟩ := by rw [wE]; rfl
theorem p_nilP {c : Sto → D → Prop} {k : List D → Sto → Prop} : wEp G x c [] σ S k = k [] S := by rw [wEp]
theorem p_consP {c : Sto → D → Prop} {es : List ME} {k : List D → Sto → Prop} : wEp G x c (e :: es) σ S k = wE G x e σ S fun d S1 => @ckp c S1 d ⟨fun _ => wEs G x es σ S1 fun ds S2 => k (d :: ds) S2⟩ := by rw [wEp]; rfl
theorem p_dct {kvs : List (Str × D)} : wE G x (.dct kvs) σ S k = @nwp S ⟨fun p => k (.ref p) (put S p (.dct (kvs.foldl (fun acc kv => gp acc (.inr kv.1) kv.2) [])))⟩ := by rw [wE]; rfl
theorem p_nil {k : List D → Sto → Prop} : wEs G x [] σ S k = k [] S := by rw [wEs]
theorem p_cons {es : List ME} {k : List D → Sto → Prop} : wEs G x (e :: es) σ S k = wE G x e σ S fun d S1 => wEs G x es σ S1 fun ds S2 => k (d :: ds) S2 := by rw [wEs]
theorem p_newT {ds : List D} : fin true (.newL ds) S k = @nwp S ⟨fun p => k (.ref p) (put S p (.lst ds))⟩ := rfl
theorem p_newD {kvs : List (Key × D)} : fin m (.newD kvs) S k = @nwp S ⟨fun p => k (.ref p) (put S p (.dct kvs))⟩ := rfl
theorem p_pure {f : List D → Option D} {ds : List D} {x : Exc → Sto → Prop} : @cwp (spPure f) ds S ⟨k, x⟩ = @bOp _ (f ds) ⟨fun d => k d S⟩ := propext x_pure
end
section
variable {G : Gc} {x : XW} {σ : Env} {S : Sto} {k : KS} {c e a : ME} {o : Operator}
theorem q_nil : wSs G x [] σ S k = k.nx σ S := by rw [wSs]
theorem q_cons {s : MS} {r : List MS} : wSs G x (s :: r) σ S k = wS G x s σ S { nx := fun σ' S' => wSs G x r σ' S' k, rt := k.rt, bk := k.bk, ct := k.ct } := by rw [wSs]
theorem q_asg {t : MT} : wS G x (.asg t e) σ S k = wE G x e σ S fun d S1 => @bOp _ (asgT t d σ) ⟨fun σ' => k.nx σ' S1⟩ := by rw [wS]; rfl
theorem q_six : wS G x (.six a c e) σ S k = wE G x e σ S fun v S1 => wE G x a σ S1 fun u S2 => wE G x c σ S2 fun j S3 => @bOp _ (sixR u j v S3) ⟨fun S' => k.nx σ S'⟩ := by rw [wS]; rfl
theorem q_aug {i : Nat} : wS G x (.aug i o e) σ S k = @bOp _ ((σ[i]?).bind id) ⟨fun u => wE G x e σ S fun v S1 => @bOp _ (augR o u v) ⟨fun d => k.nx (σ.set i (some d)) S1⟩⟩ := by
  rw [wS]
  refine propext ⟨?_, ?_⟩
  · rintro ⟨d, h, q⟩; exact ⟨d, by rw [h]; rfl, q⟩
  · rintro ⟨d, h, q⟩
    cases hh : σ[i]? with
    | none => rw [hh] at h; cases h
    | some z => rw [hh] at h; exact ⟨d, by rw [show z = some d from h], q⟩
theorem q_exp : wS G x (.exp e) σ S k = wE G x e σ S fun _ S1 => k.nx σ S1 := by rw [wS]
theorem q_ret : wS G x (.ret e) σ S k = wE G x e σ S k.rt := by rw [wS]
theorem q_ite {a b : List MS} : wS G x (.ite c a b) σ S k = wE G x c σ S fun u S1 => @bOp _ (tru S1 u) ⟨fun z => @brp z ⟨(wSs G x a σ S1 k)⟩ ⟨(wSs G x b σ S1 k)⟩⟩ := by rw [wS]; rfl
theorem q_for {i : Nat} {t : MT} {as : List ME} {b : List MS} : wS G x (.for_ i t as b) σ S k = wEs G x as σ S fun ds S1 => @bOp _ (itS i ds S1) ⟨fun its => @flp its.1 σ S1 ⟨its.2, fun d σ2 S2 q => ∃ σ', asgT t d σ2 = some σ' ∧ wSs G x b σ' S2 q, k⟩⟩ := by rw [wS]; rfl
theorem q_lck {s : MS} : wS G x (.lck s) σ S k = @lkp S ⟨fun q => ∀ o ks, wS G (fun _ _ _ => False) s σ (put S q.1 (.ldc o ks q.2)) { nx := fun σ' S' => S' q.1 = some (.ldc o ks q.2) ∧ k.nx σ' (put S' q.1 (.dct q.2)), rt := fun d S' => S' q.1 = some (.ldc o ks q.2) ∧ k.rt d (put S' q.1 (.dct q.2)), bk := fun σ' S' => S' q.1 = some (.ldc o ks q.2) ∧ k.bk σ' (put S' q.1 (.dct q.2)), ct := fun σ' S' => S' q.1 = some (.ldc o ks q.2) ∧ k.ct σ' (put S' q.1 (.dct q.2)) }⟩ := by
  rw [wS]
  exact propext ⟨fun ⟨a, kvs, h, q⟩ => ⟨(a, kvs), h, q⟩, fun ⟨q, h, z⟩ => ⟨q.1, q.2, h, z⟩⟩
theorem q_pas : wS G x .pas σ S k = k.nx σ S := by rw [wS]
theorem q_cont : wS G x .cont σ S k = k.ct σ S := by rw [wS]
theorem q_frS {i : Nat} : wS G x (.frS i) σ S k = ∃ a ds, σ[i]? = some (some (.ref a)) ∧ S a = some (.lst ds) ∧ k.nx (σ.set i (some (.lst ds))) (rm S a) := by rw [wS]
theorem q_sat {f : Str} : wS G x (.sat a f e) σ S k = wE G x e σ S fun v S1 => wE G x a σ S1 fun u S2 => @bOp _ (satR G u f v S2) ⟨fun S' => k.nx σ S'⟩ := by
  rw [wS]; congr 1; funext v S1; congr 1; funext u S2
  refine propext ⟨?_, ?_⟩
  · rintro ⟨a, c, fs, rfl, h1, h2, h3, q⟩
    refine ⟨_, ?_, q⟩
    show (match S2 a with | some (.ins c fs) => if G.fld c f = true then (if fs.length < 1000 then some (put S2 a (.ins c (pf f v fs))) else none) else none | _ => none) = _
    rw [h1]; show (if _ then _ else _) = _; rw [if_pos h2, if_pos h3]
  · rintro ⟨S', h, q⟩
    unfold satR at h
    split at h
    · rename_i a
      split at h
      · rename_i c fs e
        split at h
        · rename_i z
          split at h
          · rename_i z2; cases h; exact ⟨a, c, fs, rfl, e, z, z2, q⟩
          · cases h
        · cases h
      · cases h
    · cases h
theorem q_rai {cl : Str} {es : List ME} : wS G x (.rai cl es) σ S k = @bFp _ (G.exc cl) es.length ⟨fun F => wEs G x es σ S fun ds S1 => x ⟨cl, F ds⟩ σ S1⟩ := by rw [wS]; rfl
theorem q_tri {b : List MS} {cl : Str} {i : Option Nat} {q : List QS} : wS G x (.tri b cl i q) σ S k = (G.sub cl cl = some true ∧ wSs G (catch_ G x cl i q k) b σ S k) := by rw [wS]
end
section
variable {G : Gc} {a : Addr} {S : Sto} {f c : Str} {v d : D}
theorem p_attR : attR G (.ref a) f S = match S a with
    | some (.ins c fs) => if G.fld c f = true then fs.lookup f else none
    | _ => none := rfl
theorem p_selR : selR c f (.ref a) S = match S a with
    | some (.ins c' fs) => if c' = c then (match fs.lookup f with
      | none => some ()
      | some _ => none) else none
    | _ => none := rfl
theorem p_satR : satR G (.ref a) f v S = match S a with
    | some (.ins c fs) => if G.fld c f = true then (if fs.length < 1000 then some (put S a (.ins c (pf f v fs))) else none) else none
    | _ => none := rfl
theorem p_bool {b : Bool} : (decide (b = true)) = b := by cases b <;> rfl
end
section
variable {a b : Addr} {S : Sto} {ds es : List D}
theorem r_addRL : binR .Add (.ref a) (.lst es) S = match S a with
    | some (.lst ds) => if ds.length + es.length ≤ sizeLine then some (.newL (ds ++ es)) else none
    | _ => none := by
  show (match lstAt S a, some es with | some ds, some es => _ | _, _ => none) = _
  unfold lstAt
  cases S a with
  | none => rfl
  | some m => cases m <;> rfl
theorem r_addLR : binR .Add (.lst es) (.ref a) S = match S a with
    | some (.lst ds) => if es.length + ds.length ≤ sizeLine then some (.newL (es ++ ds)) else none
    | _ => none := by
  show (match some es, lstAt S a with | some ds, some es => _ | _, _ => none) = _
  unfold lstAt
  cases S a with
  | none => rfl
  | some m => cases m <;> rfl
end
theorem sl0 : (0 ≤ sizeLine) = True := eq_true (by decide)
theorem sm0 : (0 < sizeLine) = True := eq_true (by decide)
theorem sl1 : (1 ≤ sizeLine) = True := eq_true (by decide)
theorem sm1 : (1 < sizeLine) = True := eq_true (by decide)
theorem sl2 : (2 ≤ sizeLine) = True := eq_true (by decide)
theorem sm2 : (2 < sizeLine) = True := eq_true (by decide)
theorem sl3 : (3 ≤ sizeLine) = True := eq_true (by decide)
theorem sm3 : (3 < sizeLine) = True := eq_true (by decide)
theorem sl4 : (4 ≤ sizeLine) = True := eq_true (by decide)
theorem sm4 : (4 < sizeLine) = True := eq_true (by decide)
theorem sl5 : (5 ≤ sizeLine) = True := eq_true (by decide)
theorem sm5 : (5 < sizeLine) = True := eq_true (by decide)
theorem sl6 : (6 ≤ sizeLine) = True := eq_true (by decide)
theorem sm6 : (6 < sizeLine) = True := eq_true (by decide)
theorem sl7 : (7 ≤ sizeLine) = True := eq_true (by decide)
theorem sm7 : (7 < sizeLine) = True := eq_true (by decide)
theorem sl8 : (8 ≤ sizeLine) = True := eq_true (by decide)
theorem sm8 : (8 < sizeLine) = True := eq_true (by decide)
theorem sl9 : (9 ≤ sizeLine) = True := eq_true (by decide)
theorem sm9 : (9 < sizeLine) = True := eq_true (by decide)
theorem sl10 : (10 ≤ sizeLine) = True := eq_true (by decide)
theorem sm10 : (10 < sizeLine) = True := eq_true (by decide)
theorem sl11 : (11 ≤ sizeLine) = True := eq_true (by decide)
theorem sm11 : (11 < sizeLine) = True := eq_true (by decide)
theorem sl12 : (12 ≤ sizeLine) = True := eq_true (by decide)
theorem sm12 : (12 < sizeLine) = True := eq_true (by decide)
end Mn
namespace Mn
open PySem L2
theorem hgG {fa : List He.Fa} {f : Str} {i : Nat} (h : fa[i]? = some (.glo f)) : ∀ z ∈ atFa (f, none), z ∈ fa := fun z hz => by
  rw [List.mem_singleton.mp (show z ∈ [He.Fa.glo f] from hz)]
  exact List.mem_of_getElem? h
theorem hgM {fa : List He.Fa} {c m : Str} {i j : Nat} (hm : m ≠ "__init__") (h1 : fa[i]? = some (.cls c)) (h2 : fa[j]? = some (.meth c m)) : ∀ z ∈ atFa (c, some m), z ∈ fa := fun z hz => by
  have e : atFa (c, some m) = [.cls c, .meth c m] := if_neg hm
  rw [e] at hz
  rcases List.mem_cons.mp hz with rfl | hz
  · exact List.mem_of_getElem? h1
  · rw [List.mem_singleton.mp hz]; exact List.mem_of_getElem? h2
theorem hgI {fa : List He.Fa} {c : Str} {i j k : Nat} (h1 : fa[i]? = some (.glo c)) (h2 : fa[j]? = some (.cls c)) (h3 : fa[k]? = some (.mkr c)) : ∀ z ∈ atFa (c, some "__init__"), z ∈ fa := fun z hz => by
  have e : atFa (c, some "__init__") = [.glo c, .cls c, .mkr c] := by unfold atFa; exact if_pos rfl
  rw [e] at hz
  rcases List.mem_cons.mp hz with rfl | hz
  · exact List.mem_of_getElem? h1
  rcases List.mem_cons.mp hz with rfl | hz
  · exact List.mem_of_getElem? h2
  · rw [List.mem_singleton.mp hz]; exact List.mem_of_getElem? h3
end Mn
namespace Mn
open PySem L2
abbrev Cell := Addr × MO
structure Hd (S : Sto) (L : List Cell) : Prop where
  nd : (L.map (·.1)).Nodup
  at_ : ∀ q ∈ L, S q.1 = some q.2
namespace Hd
variable {S : Sto} {L L1 L2 L3 : List Cell} {a p : Addr} {m m' : MO}
theorem get (h : Hd S L) {a : Addr} {m : MO} (q : (a, m) ∈ L) : S a = some m := h.at_ _ q
theorem nil : Hd S [] := ⟨List.nodup_nil, fun _ h => nomatch h⟩
theorem perm (h : Hd S L) (q : L.Perm L1) : Hd S L1 := ⟨(q.map _).nodup_iff.mp h.nd, fun x hx => h.at_ x (q.mem_iff.mpr hx)⟩
theorem ne (h : Hd S (L1 ++ (a, m) :: L2)) : ∀ q ∈ L1 ++ L2, q.1 ≠ a := by
  have hn := h.nd
  rw [List.map_append, List.map_cons, List.nodup_append] at hn
  obtain ⟨h1, h2, h3⟩ := hn
  intro q hq e
  rcases List.mem_append.mp hq with z | z
  · exact h3 _ (List.mem_map.mpr ⟨q, z, rfl⟩) a List.mem_cons_self e
  · exact (List.nodup_cons.mp h2).1 (List.mem_map.mpr ⟨q, z, e⟩)
theorem upd (h : Hd S (L1 ++ (a, m) :: L2)) (m' : MO) : Hd (put S a m') (L1 ++ (a, m') :: L2) := by
  have hne := h.ne
  refine ⟨?_, fun q hq => ?_⟩
  · have := h.nd
    rw [List.map_append, List.map_cons] at this ⊢
    exact this
  · rcases List.mem_append.mp hq with z | z
    · rw [put_ne (hne q (List.mem_append_left _ z))]
      exact h.at_ q (List.mem_append_left _ z)
    · rcases List.mem_cons.mp z with rfl | z
      · exact put_same
      · rw [put_ne (hne q (List.mem_append_right _ z))]
        exact h.at_ q (List.mem_append_right _ (List.mem_cons_of_mem _ z))
theorem new (h : Hd S L) (hp : S p = none) (m : MO) : Hd (put S p m) ((p, m) :: L) := by
  have hne : ∀ q ∈ L, q.1 ≠ p := fun q hq e => by
    have := h.at_ q hq
    rw [e, hp] at this
    cases this
  refine ⟨List.nodup_cons.mpr ⟨fun z => ?_, h.nd⟩, fun q hq => ?_⟩
  · obtain ⟨q, hq, e⟩ := List.mem_map.mp z
    exact hne q hq e
  · rcases List.mem_cons.mp hq with rfl | hq
    · exact put_same
    · rw [put_ne (hne q hq)]
      exact h.at_ q hq
theorem sub (h : Hd S L) (q : L1.Sublist L) : Hd S L1 := ⟨h.nd.sublist (q.map _), fun x hx => h.at_ x (q.subset hx)⟩
theorem swap (h : Hd S (L1 ++ (L2 ++ L3))) : Hd S (L2 ++ (L1 ++ L3)) := h.perm (by
  rw [← List.append_assoc, ← List.append_assoc]
  exact (List.perm_append_comm).append_right _)
theorem right (h : Hd S (L1 ++ L2)) : Hd S L2 := h.sub (List.sublist_append_right _ _)
theorem left (h : Hd S (L1 ++ L2)) : Hd S L1 := h.sub (List.sublist_append_left _ _)
end Hd
structure Bl where
  drawer : Str
  drawee : Str
  payee : Str
  amount : Int
  due : Int
  slip : Row
  keeper : Str
  stage : Str
  edition : Int
  blank : Bool
abbrev Hs := List (Str × (Int × Bool))
structure Ha where
  hs : Hs
  clock : Int
  bills : List Bl
  done : List D
/-- purses by themselves -/
abbrev Ps := List (Str × Int)
def pkD (p : Ps) : List (Key × D) := p.map fun q => (.inr q.1, .int q.2)
def lp (p : Ps) (n : Str) : Option Int := (p.find? fun q => decide (q.1 = n)).map (·.2)
def setP (p : Ps) (n : Str) (c : Int) : Ps := if (lp p n).isSome = true then p.map (fun q => if q.1 = n then (q.1, c) else q) else p ++ [(n, c)]
theorem lp_cons {q : Str × Int} {p : Ps} {n : Str} : lp (q :: p) n = if q.1 = n then some q.2 else lp p n := by
  unfold lp
  by_cases h : q.1 = n <;> simp [List.find?_cons, h]
theorem gv_pk : ∀ (p : Ps) (n : Str), gv (pkD p) (.inr n) = (lp p n).map .int
  | [], n => rfl
  | q :: p, n => by
    show gv ((Sum.inr q.1, D.int q.2) :: pkD p) (.inr n) = _
    rw [lp_cons]
    by_cases h : q.1 = n
    · rw [gv_pos (by rw [h]), if_pos h]; rfl
    · rw [gv_neg (by simpa using h), if_neg h, gv_pk p n]
theorem any_pk (p : Ps) (n : Str) : ((pkD p).any fun kv => decide (kv.1 = (.inr n : Key))) = (lp p n).isSome := by
  induction p with
  | nil => rfl
  | cons q p ih =>
    show (decide ((Sum.inr q.1 : Key) = .inr n) || (pkD p).any _) = _
    rw [ih, lp_cons]
    by_cases h : q.1 = n
    · simp [h]
    · simp [h]
theorem gp_pk (p : Ps) (n : Str) (c : Int) : gp (pkD p) (.inr n) (.int c) = pkD (setP p n c) := by
  unfold gp setP
  rw [any_pk]
  split
  · unfold pkD
    rw [List.map_map, List.map_map]
    refine List.map_congr_left fun q _ => ?_
    simp only [Function.comp]
    by_cases e : q.1 = n <;> simp [e]
  · simp [pkD]
theorem len_pk (p : Ps) : (pkD p).length = p.length := by unfold pkD; rw [List.length_map]
def coinsOf (hs : Hs) : Ps := hs.map fun q => (q.1, q.2.1)
def heldK (hs : Hs) : List (Key × D) := pkD (coinsOf hs)
def downK (hs : Hs) : List (Key × D) := hs.map fun q => (.inr q.1, .bl q.2.2)
def lk (hs : Hs) (n : Str) : Option (Int × Bool) := (hs.find? fun q => decide (q.1 = n)).map (·.2)
theorem lk_cons {q : Str × (Int × Bool)} {hs : Hs} {n : Str} : lk (q :: hs) n = if q.1 = n then some q.2 else lk hs n := by
  unfold lk
  by_cases h : q.1 = n <;> simp [List.find?_cons, h]
theorem lp_coins : ∀ (hs : Hs) (n : Str), lp (coinsOf hs) n = (lk hs n).map (·.1)
  | [], n => rfl
  | q :: hs, n => by
    show lp ((q.1, q.2.1) :: coinsOf hs) n = _
    rw [lp_cons, lk_cons]
    by_cases h : q.1 = n
    · rw [if_pos h, if_pos h]; rfl
    · rw [if_neg h, if_neg h, lp_coins hs n]
theorem gv_held (hs : Hs) (n : Str) : gv (heldK hs) (.inr n) = (lk hs n).map fun q => .int q.1 := by
  unfold heldK
  rw [gv_pk, lp_coins]
  cases lk hs n <;> rfl
theorem gv_down : ∀ (hs : Hs) (n : Str), gv (downK hs) (.inr n) = (lk hs n).map fun q => .bl q.2
  | [], n => rfl
  | q :: hs, n => by
    show gv ((Sum.inr q.1, D.bl q.2.2) :: downK hs) (.inr n) = _
    rw [lk_cons]
    by_cases h : q.1 = n
    · rw [gv_pos (by rw [h]), if_pos h]; rfl
    · rw [gv_neg (by simpa using h), if_neg h, gv_down hs n]
theorem len_held (hs : Hs) : (heldK hs).length = hs.length := by unfold heldK coinsOf; rw [len_pk, List.length_map]
theorem len_down (hs : Hs) : (downK hs).length = hs.length := by unfold downK; rw [List.length_map]
theorem ks_pk (p : Ps) : ksOf (pkD p) = some (p.map (·.1)) := by
  induction p with
  | nil => rfl
  | cons q p ih =>
    show (match ksOf (pkD p) with | some l => some (q.1 :: l) | none => none) = _
    rw [ih]; rfl
/-- a bill's fields -/
def billF (b : Bl) (sa : Addr) : List (Str × D) := [("drawer", .str b.drawer), ("drawee", .str b.drawee), ("payee", .str b.payee), ("amount", .int b.amount), ("due", .int b.due), ("slip", .ref sa), ("keeper", .str b.keeper), ("stage", .str b.stage), ("edition", .int b.edition), ("blank", .bl b.blank)]
/-- a bill where it stands: its address, its slip's -/
abbrev Gb := Addr × (Addr × Bl)
def billC (g : Gb) : List Cell := [(g.1, .ins "Bill" (billF g.2.2 g.2.1)), (g.2.1, .lst (rowD g.2.2.slip))]
def billsC (l : List Gb) : List Cell := l.flatMap billC
structure Gh where
  a : Addr
  ca : Addr
  ha : Addr
  da : Addr
  ba : Addr
  na : Addr
  hs : Hs
  clock : Int
  bills : List Gb
  done : List D
def Gh.er (g : Gh) : Ha := ⟨g.hs, g.clock, g.bills.map (·.2.2), g.done⟩
def hallF (g : Gh) : List (Str × D) := [("chest", .ref g.ca), ("down", .ref g.da), ("clock", .int g.clock), ("bills", .ref g.ba), ("done", .ref g.na)]
def pursesF (ha : Addr) : List (Str × D) := [("held", .ref ha)]
def refsB (l : List Gb) : List D := l.map fun g => .ref g.1
def purC (ca ha : Addr) (p : List (Key × D)) : List Cell := [(ca, .ins "Purses" (pursesF ha)), (ha, .dct p)]
def fldA (c f : Str) : Bool := decide ((c, f) ∈ fldL)
section
variable {b : Bl} {sa ha x : Addr} {g : Gh} {s : Str} {i : Int} {t : Bool}
theorem fl_held : fldA "Purses" "held" = true := by decide +kernel
theorem fl_chest : fldA "Hall" "chest" = true := by decide +kernel
theorem fl_down : fldA "Hall" "down" = true := by decide +kernel
theorem fl_clock : fldA "Hall" "clock" = true := by decide +kernel
theorem fl_bills : fldA "Hall" "bills" = true := by decide +kernel
theorem fl_done : fldA "Hall" "done" = true := by decide +kernel
theorem fl_drawer : fldA "Bill" "drawer" = true := by decide +kernel
theorem fl_drawee : fldA "Bill" "drawee" = true := by decide +kernel
theorem fl_payee : fldA "Bill" "payee" = true := by decide +kernel
theorem fl_amount : fldA "Bill" "amount" = true := by decide +kernel
theorem fl_due : fldA "Bill" "due" = true := by decide +kernel
theorem fl_slip : fldA "Bill" "slip" = true := by decide +kernel
theorem fl_keeper : fldA "Bill" "keeper" = true := by decide +kernel
theorem fl_stage : fldA "Bill" "stage" = true := by decide +kernel
theorem fl_edition : fldA "Bill" "edition" = true := by decide +kernel
theorem fl_blank : fldA "Bill" "blank" = true := by decide +kernel
theorem lu_held : (pursesF ha).lookup ("held" : Str) = some (.ref ha) := by kernel_rfl
theorem lu_chest : (hallF g).lookup ("chest" : Str) = some (.ref g.ca) := by kernel_rfl
theorem lu_down : (hallF g).lookup ("down" : Str) = some (.ref g.da) := by kernel_rfl
theorem lu_clock : (hallF g).lookup ("clock" : Str) = some (.int g.clock) := by kernel_rfl
theorem lu_bills : (hallF g).lookup ("bills" : Str) = some (.ref g.ba) := by kernel_rfl
theorem lu_done : (hallF g).lookup ("done" : Str) = some (.ref g.na) := by kernel_rfl
theorem lu_drawer : (billF b sa).lookup ("drawer" : Str) = some (.str b.drawer) := by kernel_rfl
theorem lu_drawee : (billF b sa).lookup ("drawee" : Str) = some (.str b.drawee) := by kernel_rfl
theorem lu_payee : (billF b sa).lookup ("payee" : Str) = some (.str b.payee) := by kernel_rfl
theorem lu_amount : (billF b sa).lookup ("amount" : Str) = some (.int b.amount) := by kernel_rfl
theorem lu_due : (billF b sa).lookup ("due" : Str) = some (.int b.due) := by kernel_rfl
theorem lu_slip : (billF b sa).lookup ("slip" : Str) = some (.ref sa) := by kernel_rfl
theorem lu_keeper : (billF b sa).lookup ("keeper" : Str) = some (.str b.keeper) := by kernel_rfl
theorem lu_stage : (billF b sa).lookup ("stage" : Str) = some (.str b.stage) := by kernel_rfl
theorem lu_edition : (billF b sa).lookup ("edition" : Str) = some (.int b.edition) := by kernel_rfl
theorem lu_blank : (billF b sa).lookup ("blank" : Str) = some (.bl b.blank) := by kernel_rfl
theorem pf_stage : pf ("stage" : Str) (.str s) (billF b sa) = billF { b with stage := s } sa := by kernel_rfl
theorem pf_keeper : pf ("keeper" : Str) (.str s) (billF b sa) = billF { b with keeper := s } sa := by kernel_rfl
theorem pf_edition : pf ("edition" : Str) (.int i) (billF b sa) = billF { b with edition := i } sa := by kernel_rfl
theorem pf_blank : pf ("blank" : Str) (.bl t) (billF b sa) = billF { b with blank := t } sa := by kernel_rfl
theorem pf_slip : pf ("slip" : Str) (.ref x) (billF b sa) = billF b x := by kernel_rfl
theorem pf_clock : pf ("clock" : Str) (.int i) (hallF g) = hallF { g with clock := i } := by kernel_rfl
theorem len_pursesF : (pursesF ha).length = 1 := rfl
theorem len_hallF : (hallF g).length = 5 := rfl
theorem len_billF : (billF b sa).length = 10 := rfl
end
def ExOf (c : Str) (e : Exc) : Prop := e.cls = c ∧ e.fs.lookup ("word" : Str) = some (.str c)
def rz (c : Str) (S : Sto) (X : Exc → Sto → Prop) : Prop := ∀ e, ExOf c e → X e S
theorem exOf_F1 {c : Str} {ds : List D} : ExOf c ⟨c, F1 D D.str .non c ds⟩ := ⟨rfl, by simp [F1]⟩
section
variable {ys : List Str} {yb : Bool}
theorem exc_25 {c : Str} (h : c ∈ ex25) : excP (xc ys yb) c = some (1, F1 D D.str .non c) := by
  have hn : c ≠ "BadLine" := fun e => by
    have : ∀ c ∈ ex25, c ≠ "BadLine" := by decide +kernel
    exact this c h e
  exact (if_neg hn).trans (if_pos (List.mem_append_left _ h))
theorem ex_BadName : excP (xc ys yb) "BadName" = some (1, F1 D D.str .non "BadName") := exc_25 (by decide +kernel)
theorem ex_Taken : excP (xc ys yb) "Taken" = some (1, F1 D D.str .non "Taken") := exc_25 (by decide +kernel)
theorem ex_BadCoins : excP (xc ys yb) "BadCoins" = some (1, F1 D D.str .non "BadCoins") := exc_25 (by decide +kernel)
theorem ex_Full : excP (xc ys yb) "Full" = some (1, F1 D D.str .non "Full") := exc_25 (by decide +kernel)
theorem ex_NoHouse : excP (xc ys yb) "NoHouse" = some (1, F1 D D.str .non "NoHouse") := exc_25 (by decide +kernel)
theorem ex_NoCoins : excP (xc ys yb) "NoCoins" = some (1, F1 D D.str .non "NoCoins") := exc_25 (by decide +kernel)
theorem ex_Failed : excP (xc ys yb) "Failed" = some (1, F1 D D.str .non "Failed") := exc_25 (by decide +kernel)
theorem ex_Standing : excP (xc ys yb) "Standing" = some (1, F1 D D.str .non "Standing") := exc_25 (by decide +kernel)
theorem ex_BadCount : excP (xc ys yb) "BadCount" = some (1, F1 D D.str .non "BadCount") := exc_25 (by decide +kernel)
theorem ex_BadDay : excP (xc ys yb) "BadDay" = some (1, F1 D D.str .non "BadDay") := exc_25 (by decide +kernel)
theorem ex_NoBill : excP (xc ys yb) "NoBill" = some (1, F1 D D.str .non "NoBill") := exc_25 (by decide +kernel)
theorem ex_Void : excP (xc ys yb) "Void" = some (1, F1 D D.str .non "Void") := exc_25 (by decide +kernel)
theorem ex_Closed : excP (xc ys yb) "Closed" = some (1, F1 D D.str .non "Closed") := exc_25 (by decide +kernel)
theorem ex_Accepted : excP (xc ys yb) "Accepted" = some (1, F1 D D.str .non "Accepted") := exc_25 (by decide +kernel)
theorem ex_Same : excP (xc ys yb) "Same" = some (1, F1 D D.str .non "Same") := exc_25 (by decide +kernel)
theorem ex_NotBlank : excP (xc ys yb) "NotBlank" = some (1, F1 D D.str .non "NotBlank") := exc_25 (by decide +kernel)
theorem ex_NotYet : excP (xc ys yb) "NotYet" = some (1, F1 D D.str .non "NotYet") := exc_25 (by decide +kernel)
theorem ex_NotPresented : excP (xc ys yb) "NotPresented" = some (1, F1 D D.str .non "NotPresented") := exc_25 (by decide +kernel)
theorem ex_Protested : excP (xc ys yb) "Protested" = some (1, F1 D D.str .non "Protested") := exc_25 (by decide +kernel)
theorem ex_TooLate : excP (xc ys yb) "TooLate" = some (1, F1 D D.str .non "TooLate") := exc_25 (by decide +kernel)
theorem ex_NotBound : excP (xc ys yb) "NotBound" = some (1, F1 D D.str .non "NotBound") := exc_25 (by decide +kernel)
theorem ex_CantPay : excP (xc ys yb) "CantPay" = some (1, F1 D D.str .non "CantPay") := exc_25 (by decide +kernel)
theorem ex_NotProtested : excP (xc ys yb) "NotProtested" = some (1, F1 D D.str .non "NotProtested") := exc_25 (by decide +kernel)
theorem ex_IsBound : excP (xc ys yb) "IsBound" = some (1, F1 D D.str .non "IsBound") := exc_25 (by decide +kernel)
theorem ex_Twice : excP (xc ys yb) "Twice" = some (1, F1 D D.str .non "Twice") := exc_25 (by decide +kernel)
end
structure Hold (P : Prop) : Prop where
  h : P
end Mn
namespace Mn
open PySem L2
def n_Purses_need : List Str := ["self", "name"]
def m_Purses_need : List MS := [(.ite (.cmp .NotIn (.var 1) (.att (.var 0) "held")) [(.rai "NoHouse" [(.cst (.str "no such house"))])] [])]
def n_Purses_look_at : List Str := ["self", "coins"]
def m_Purses_look_at : List MS := [(.ite (.cmp .Lt (.var 1) (.cst (.int 0))) [(.rai "BadCoins" [(.cst (.str "coins below nought"))])] [])]
def n_Purses_add_purse : List Str := ["self", "name", "coins"]
def m_Purses_add_purse : List MS := [(.ite (.cmp .In (.var 1) (.att (.var 0) "held")) [(.rai "Taken" [(.cst (.str "a house has this name"))])] []), (.exp (.mth "Purses" (.var 0) "look_at" [(.var 2)])), (.six (.att (.var 0) "held") (.var 1) (.var 2))]
def n_Purses_coins : List Str := ["self", "name"]
def m_Purses_coins : List MS := [(.exp (.mth "Purses" (.var 0) "need" [(.var 1)])), (.ret (.idx (.att (.var 0) "held") (.var 1)))]
def n_Purses_fill : List Str := ["self", "name", "coins"]
def m_Purses_fill : List MS := [(.exp (.mth "Purses" (.var 0) "need" [(.var 1)])), (.exp (.mth "Purses" (.var 0) "look_at" [(.var 2)])), (.ags (.att (.var 0) "held") (.var 1) .Add (.var 2))]
def n_Purses_spend : List Str := ["self", "name", "coins"]
def m_Purses_spend : List MS := [(.exp (.mth "Purses" (.var 0) "need" [(.var 1)])), (.exp (.mth "Purses" (.var 0) "look_at" [(.var 2)])), (.ite (.cmp .Lt (.idx (.att (.var 0) "held") (.var 1)) (.var 2)) [(.rai "NoCoins" [(.cst (.str "not so many coins"))])] []), (.ags (.att (.var 0) "held") (.var 1) .Sub (.var 2))]
def n_Purses_pay : List Str := ["self", "payer", "taker", "coins"]
def m_Purses_pay : List MS := [(.exp (.mth "Purses" (.var 0) "need" [(.var 1)])), (.exp (.mth "Purses" (.var 0) "need" [(.var 2)])), (.exp (.mth "Purses" (.var 0) "spend" [(.var 1), (.var 3)])), (.exp (.mth "Purses" (.var 0) "fill" [(.var 2), (.var 3)]))]
def purS (ca ha : Addr) (p : Ps) : List Cell := purC ca ha (pkD p)
/-- a method's call -/
theorem cW {sp : DSp} {ds : List D} {S : Sto} {k : D → Sto → Prop} {x : Exc → Sto → Prop} (h : sp ds S k x) : callW sp ds S k x := ⟨k, x, fun _ _ q => q, fun _ _ q => q, h⟩
theorem noMeth {ha : Addr} : (pursesF ha).lookup ("need" : Str) = none ∧ (pursesF ha).lookup ("look_at" : Str) = none ∧ (pursesF ha).lookup ("spend" : Str) = none ∧ (pursesF ha).lookup ("fill" : Str) = none ∧ (pursesF ha).lookup ("coins" : Str) = none := ⟨by kernel_rfl, by kernel_rfl, by kernel_rfl, by kernel_rfl, by kernel_rfl⟩
theorem pur1 {S : Sto} {ca ha : Addr} {p : Ps} {F : List Cell} (h : Hd S (purS ca ha p ++ F)) : S ca = some (.ins "Purses" (pursesF ha)) := h.get (by simp [purS, purC])
theorem pur2 {S : Sto} {ca ha : Addr} {p : Ps} {F : List Cell} (h : Hd S (purS ca ha p ++ F)) : S ha = some (.dct (pkD p)) := h.get (by simp [purS, purC])
theorem purU {S : Sto} {ca ha : Addr} {p p' : Ps} {F : List Cell} (h : Hd S (purS ca ha p ++ F)) : Hd (put S ha (.dct (pkD p'))) (purS ca ha p' ++ F) := Hd.upd (L1 := [_]) h _
def spPNeed : DSp := fun ds S Q X => ∃ ca ha p F n, ds = [.ref ca, .str n] ∧ Hd S (purS ca ha p ++ F) ∧ if (lp p n).isSome = true then Q .non S else rz "NoHouse" S X
def spPLook : DSp := fun ds S Q X => ∃ u c, ds = [u, .int c] ∧ if c < 0 then rz "BadCoins" S X else Q .non S
def spPAdd : DSp := fun ds S Q X => ∃ ca ha p F n c, ds = [.ref ca, .str n, .int c] ∧ Hd S (purS ca ha p ++ F) ∧ p.length < 1000 ∧ if (lp p n).isSome = true then rz "Taken" S X else if c < 0 then rz "BadCoins" S X else ∀ S', Hd S' (purS ca ha (setP p n c) ++ F) → Q .non S'
def spPCoins : DSp := fun ds S Q X => ∃ ca ha p F n, ds = [.ref ca, .str n] ∧ Hd S (purS ca ha p ++ F) ∧ match lp p n with
  | some v => Q (.int v) S
  | none => rz "NoHouse" S X
def spPFill : DSp := fun ds S Q X => ∃ ca ha p F n c, ds = [.ref ca, .str n, .int c] ∧ Hd S (purS ca ha p ++ F) ∧ p.length < 1000 ∧ match lp p n with
  | none => rz "NoHouse" S X
  | some v => if c < 0 then rz "BadCoins" S X else ∀ S', Hd S' (purS ca ha (setP p n (v + c)) ++ F) → Q .non S'
def spPSpend : DSp := fun ds S Q X => ∃ ca ha p F n c, ds = [.ref ca, .str n, .int c] ∧ Hd S (purS ca ha p ++ F) ∧ p.length < 1000 ∧ match lp p n with
  | none => rz "NoHouse" S X
  | some v => if c < 0 then rz "BadCoins" S X else if v < c then rz "NoCoins" S X else ∀ S', Hd S' (purS ca ha (setP p n (v - c)) ++ F) → Q .non S'
def lpD (p : Ps) (n : Str) : Int := (lp p n).getD 0
def payP (p : Ps) (x y : Str) (c : Int) : Ps := setP (setP p x (lpD p x - c)) y (lpD (setP p x (lpD p x - c)) y + c)
theorem lp_app {p : Ps} {n : Str} {c : Int} (m : Str) (h : lp p n = none) : lp (p ++ [(n, c)]) m = if m = n then some c else lp p m := by
  induction p with
  | nil =>
    show lp [(n, c)] m = _
    rw [lp_cons]
    by_cases e : n = m
    · rw [if_pos e, if_pos e.symm]
    · rw [if_neg e, if_neg (fun z => e z.symm)]
  | cons q p ih =>
    rw [lp_cons] at h
    show lp (q :: (p ++ [(n, c)])) m = _
    rw [lp_cons, lp_cons]
    by_cases e : q.1 = m
    · rw [if_pos e, if_pos e]
      rw [if_neg]
      intro z
      rw [z] at e
      rw [if_pos e] at h
      cases h
    · rw [if_neg e, if_neg e]
      refine ih ?_
      split at h
      · cases h
      · exact h
theorem lp_setP (p : Ps) (n m : Str) (c : Int) : lp (setP p n c) m = if m = n then some c else lp p m := by
  unfold setP
  split
  · rename_i h
    have key : ∀ l : Ps, lp (l.map fun q => if q.1 = n then (q.1, c) else q) m = if m = n then (lp l n).map fun _ => c else lp l m := by
      intro l
      induction l with
      | nil => show none = _; split <;> rfl
      | cons q l ih =>
        rw [List.map_cons, lp_cons, ih, lp_cons, lp_cons]
        by_cases e : q.1 = n
        · simp only [e, if_true]
          by_cases e2 : n = m
          · simp [e2]
          · have e3 : ¬ m = n := fun z => e2 z.symm
            simp [e2, e3]
        · simp only [e, if_false]
          by_cases e2 : q.1 = m
          · have e3 : ¬ m = n := fun z => e (by rw [e2, z])
            simp [e2, e3]
          · simp [e2]
    rw [key]
    by_cases e : m = n
    · rw [if_pos e, if_pos e]
      obtain ⟨v, hv⟩ := Option.isSome_iff_exists.mp h
      rw [hv]; rfl
    · rw [if_neg e, if_neg e]
  · rename_i h
    refine lp_app m ?_
    cases q : lp p n with
    | none => rfl
    | some v => rw [q] at h; exact absurd rfl h
theorem len_setP {p : Ps} {n : Str} {c : Int} (h : (lp p n).isSome = true) : (setP p n c).length = p.length := by
  unfold setP
  rw [if_pos h, List.length_map]
def spPPay : DSp := fun ds S Q X => ∃ ca ha p F x y c, ds = [.ref ca, .str x, .str y, .int c] ∧ Hd S (purS ca ha p ++ F) ∧ p.length < 1000 ∧ if (lp p x).isSome = false ∨ (lp p y).isSome = false then rz "NoHouse" S X else if c < 0 then rz "BadCoins" S X else if lpD p x < c then rz "NoCoins" S X else ∀ S', Hd S' (purS ca ha (payP p x y c) ++ F) → Q .non S'
section
variable {b : Bl} {sa ha : Addr} {g : Gh}
theorem nH_need : (hallF g).lookup ("need" : Str) = none := by kernel_rfl
theorem nH_must_stand : (hallF g).lookup ("must_stand" : Str) = none := by kernel_rfl
theorem nH_find : (hallF g).lookup ("find" : Str) = none := by kernel_rfl
theorem nH_find_copy : (hallF g).lookup ("find_copy" : Str) = none := by kernel_rfl
theorem nH_house : (hallF g).lookup ("house" : Str) = none := by kernel_rfl
theorem nH_look_at_coins : (hallF g).lookup ("look_at_coins" : Str) = none := by kernel_rfl
theorem nH_put_in : (hallF g).lookup ("put_in" : Str) = none := by kernel_rfl
theorem nH_take_out : (hallF g).lookup ("take_out" : Str) = none := by kernel_rfl
theorem nH_fail : (hallF g).lookup ("fail" : Str) = none := by kernel_rfl
theorem nH_mend : (hallF g).lookup ("mend" : Str) = none := by kernel_rfl
theorem nH_pass_days : (hallF g).lookup ("pass_days" : Str) = none := by kernel_rfl
theorem nH_draw : (hallF g).lookup ("draw" : Str) = none := by kernel_rfl
theorem nH_accept : (hallF g).lookup ("accept" : Str) = none := by kernel_rfl
theorem nH_signed : (hallF g).lookup ("signed" : Str) = none := by kernel_rfl
theorem nH_sign : (hallF g).lookup ("sign" : Str) = none := by kernel_rfl
theorem nH_sign_blank : (hallF g).lookup ("sign_blank" : Str) = none := by kernel_rfl
theorem nH_hand : (hallF g).lookup ("hand" : Str) = none := by kernel_rfl
theorem nH_lose : (hallF g).lookup ("lose" : Str) = none := by kernel_rfl
theorem nH_can_pay : (hallF g).lookup ("can_pay" : Str) = none := by kernel_rfl
theorem nH_present : (hallF g).lookup ("present" : Str) = none := by kernel_rfl
theorem nH_protest : (hallF g).lookup ("protest" : Str) = none := by kernel_rfl
theorem nH_ask : (hallF g).lookup ("ask" : Str) = none := by kernel_rfl
theorem nH_may_honour : (hallF g).lookup ("may_honour" : Str) = none := by kernel_rfl
theorem nH_honour : (hallF g).lookup ("honour" : Str) = none := by kernel_rfl
theorem nH_fair : (hallF g).lookup ("fair" : Str) = none := by kernel_rfl
theorem nH_names : (hallF g).lookup ("names" : Str) = none := by kernel_rfl
theorem nH_coins : (hallF g).lookup ("coins" : Str) = none := by kernel_rfl
theorem nH_stands : (hallF g).lookup ("stands" : Str) = none := by kernel_rfl
theorem nH_today : (hallF g).lookup ("today" : Str) = none := by kernel_rfl
theorem nH_many_bills : (hallF g).lookup ("many_bills" : Str) = none := by kernel_rfl
theorem nH_paper : (hallF g).lookup ("paper" : Str) = none := by kernel_rfl
theorem nH_state : (hallF g).lookup ("state" : Str) = none := by kernel_rfl
theorem nH_holder : (hallF g).lookup ("holder" : Str) = none := by kernel_rfl
theorem nH_copy_of : (hallF g).lookup ("copy_of" : Str) = none := by kernel_rfl
theorem nH_in_blank : (hallF g).lookup ("in_blank" : Str) = none := by kernel_rfl
theorem nH_row : (hallF g).lookup ("row" : Str) = none := by kernel_rfl
theorem nH_story : (hallF g).lookup ("story" : Str) = none := by kernel_rfl
theorem nH_moment : (hallF g).lookup ("moment" : Str) = none := by kernel_rfl
theorem nH_twin : (hallF g).lookup ("twin" : Str) = none := by kernel_rfl
theorem nB_set_out : (billF b sa).lookup ("set_out" : Str) = none := by kernel_rfl
theorem nB_doubled : (billF b sa).lookup ("doubled" : Str) = none := by kernel_rfl
theorem nB_must_run : (billF b sa).lookup ("must_run" : Str) = none := by kernel_rfl
theorem nB_must_be_back : (billF b sa).lookup ("must_be_back" : Str) = none := by kernel_rfl
theorem nB_taken_on : (billF b sa).lookup ("taken_on" : Str) = none := by kernel_rfl
theorem nB_take_on : (billF b sa).lookup ("take_on" : Str) = none := by kernel_rfl
theorem nB_sign_on : (billF b sa).lookup ("sign_on" : Str) = none := by kernel_rfl
theorem nB_hand_on : (billF b sa).lookup ("hand_on" : Str) = none := by kernel_rfl
theorem nB_next_copy : (billF b sa).lookup ("next_copy" : Str) = none := by kernel_rfl
theorem nB_must_be_due : (billF b sa).lookup ("must_be_due" : Str) = none := by kernel_rfl
theorem nB_protest_on : (billF b sa).lookup ("protest_on" : Str) = none := by kernel_rfl
theorem nB_open_now : (billF b sa).lookup ("open_now" : Str) = none := by kernel_rfl
theorem nB_go_back : (billF b sa).lookup ("go_back" : Str) = none := by kernel_rfl
theorem nB_to_itself : (billF b sa).lookup ("to_itself" : Str) = none := by kernel_rfl
theorem nP_need : (pursesF ha).lookup ("need" : Str) = none := by kernel_rfl
theorem nP_look_at : (pursesF ha).lookup ("look_at" : Str) = none := by kernel_rfl
theorem nP_add_purse : (pursesF ha).lookup ("add_purse" : Str) = none := by kernel_rfl
theorem nP_coins : (pursesF ha).lookup ("coins" : Str) = none := by kernel_rfl
theorem nP_fill : (pursesF ha).lookup ("fill" : Str) = none := by kernel_rfl
theorem nP_spend : (pursesF ha).lookup ("spend" : Str) = none := by kernel_rfl
theorem nP_pay : (pursesF ha).lookup ("pay" : Str) = none := by kernel_rfl
theorem nP_total : (pursesF ha).lookup ("total" : Str) = none := by kernel_rfl
theorem nP_all_names : (pursesF ha).lookup ("all_names" : Str) = none := by kernel_rfl
theorem nP_doubled : (pursesF ha).lookup ("doubled" : Str) = none := by kernel_rfl
end
section
variable {S : Sto} {g : Gh} {F : List Cell}
/-- the purses of a hall, and back -/
def restP (g : Gh) (F : List Cell) : List Cell := (g.a, .ins "Hall" (hallF g)) :: (g.da, .dct (downK g.hs)) :: (g.ba, .lst (refsB g.bills)) :: (g.na, .lst g.done) :: (billsC g.bills ++ F)
end
structure OkB (hs : Hs) (b : Bl) : Prop where
  dr : (lk hs b.drawer).isSome = true
  de : (lk hs b.drawee).isSome = true
  py : (lk hs b.payee).isSome = true
  kp : (lk hs b.keeper).isSome = true
  sl : ∀ q ∈ b.slip, (lk hs q.1).isSome = true
  lo : 2 ≤ b.slip.length
  hi : b.slip.length ≤ 8
  s0 : ∀ q, b.slip[0]? = some q → q.1 = b.drawee
  s1 : ∀ q, b.slip[1]? = some q → q.1 = b.drawer
  am : 1 ≤ b.amount
structure OkH (h : Ha) : Prop where
  nm : ∀ q ∈ h.hs, isNm q.1 = true
  nd : (h.hs.map (·.1)).Nodup
  hn : h.hs.length ≤ 9
  bn : h.bills.length ≤ 40
  bl : ∀ b ∈ h.bills, OkB h.hs b
  dn : h.done.length < 100000
  cn : ∀ q ∈ h.hs, 0 ≤ q.2.1
theorem isNm_ok {x : Str} (h : isNm x = true) : PySem.PyData.strOk x = true := by
  unfold isNm at h
  have h3 := (and2 (and2 h).2).2
  rw [strOk_iff]
  intro c hc
  have hm := of_decide_eq_true (List.all_eq_true.mp h3 c hc)
  have all : lettersS.cps.toList.all (fun c => decide (c < 0x110000)) = true := by decide +kernel
  exact of_decide_eq_true (List.all_eq_true.mp all c hm)
theorem rp1 {S : Sto} {g : Gh} {F : List Cell} {p : Ps} (h : Hd S (purS g.ca g.ha p ++ restP g F)) : S g.a = some (.ins "Hall" (hallF g)) ∧ S g.da = some (.dct (downK g.hs)) ∧ S g.na = some (.lst g.done) := ⟨h.get (by simp [restP]), h.get (by simp [restP]), h.get (by simp [restP])⟩
def n_Purses___init__ : List Str := ["self"]
def m_Purses___init__ : List MS := [(.sat (.var 0) "held" (.dct []))]
def spPInit : DSp := fun ds S Q X => ∃ ca L, ds = [.ref ca] ∧ Hd S ((ca, .ins "Purses" []) :: L) ∧ ∀ S' ha, Hd S' (purS ca ha [] ++ L) → Q .non S'
section
variable {α : Type} {a b c d e f g h i j : α} {l : List α}
theorem at0 : atI (a :: l) 0 = some a := atI_nn (by decide) (by simp only [List.length_cons]; omega)
theorem at1 : atI (a :: b :: l) 1 = some b := atI_nn (by decide) (by simp only [List.length_cons]; omega)
theorem at2 : atI (a :: b :: c :: l) 2 = some c := atI_nn (by decide) (by simp only [List.length_cons]; omega)
theorem at3 : atI (a :: b :: c :: d :: l) 3 = some d := atI_nn (by decide) (by simp only [List.length_cons]; omega)
theorem at4 : atI (a :: b :: c :: d :: e :: l) 4 = some e := atI_nn (by decide) (by simp only [List.length_cons]; omega)
theorem at5 : atI (a :: b :: c :: d :: e :: f :: l) 5 = some f := atI_nn (by decide) (by simp only [List.length_cons]; omega)
theorem at6 : atI (a :: b :: c :: d :: e :: f :: g :: l) 6 = some g := atI_nn (by decide) (by simp only [List.length_cons]; omega)
theorem at7 : atI (a :: b :: c :: d :: e :: f :: g :: h :: l) 7 = some h := atI_nn (by decide) (by simp only [List.length_cons]; omega)
theorem at8 : atI (a :: b :: c :: d :: e :: f :: g :: h :: i :: l) 8 = some i := atI_nn (by decide) (by simp only [List.length_cons]; omega)
theorem at9 : atI (a :: b :: c :: d :: e :: f :: g :: h :: i :: j :: l) 9 = some j := atI_nn (by decide) (by simp only [List.length_cons]; omega)
end
theorem toNat_inj : ∀ {l m : List Char}, l.map Char.toNat = m.map Char.toNat → l = m
  | [], [], _ => rfl
  | [], _ :: _, h => by cases h
  | _ :: _, [], h => by cases h
  | c :: l, d :: m, h => by
    rw [List.map_cons, List.map_cons] at h
    have h1 := (List.cons.inj h).1
    have h2 := toNat_inj (List.cons.inj h).2
    have h3 : c = d := Char.ext (UInt32.toNat_inj.mp h1)
    rw [h2, h3]
theorem ofS_inj {s t : String} (h : Str.ofString s = Str.ofString t) : s = t := by
  rw [Str.ofString_eq_toList, Str.ofString_eq_toList] at h
  have h1 : s.toList.map Char.toNat = t.toList.map Char.toNat := by
    have := congrArg (fun z : Str => z.cps.toList) h
    simpa using this
  exact String.toList_inj.mp (toNat_inj h1)
theorem s_eq {s t : String} : (Str.ofString s = Str.ofString t) = (s = t) := propext ⟨ofS_inj, fun h => by rw [h]⟩
theorem deq_s {x y : Str} : deq (.str y) (.str x) = decide (x = y) := by
  show decide (y = x) = _
  rw [decide_eq_decide]; exact eq_comm
section
variable {S : Sto} {x a b c d e f g : Str}
theorem in_t2 : inR (.str x) (.tup [.str a, .str b]) S = some (decide (x = a) || decide (x = b)) := by
  show g? _ _ = _
  rw [g?_pos ⟨rfl, rfl⟩]
  simp only [List.any_cons, List.any_nil, deq_s, Bool.or_false]
theorem in_t3 : inR (.str x) (.tup [.str a, .str b, .str c]) S = some (decide (x = a) || (decide (x = b) || decide (x = c))) := by
  show g? _ _ = _
  rw [g?_pos ⟨rfl, rfl⟩]
  simp only [List.any_cons, List.any_nil, deq_s, Bool.or_false]
theorem in_t4 : inR (.str x) (.tup [.str a, .str b, .str c, .str d]) S = some (decide (x = a) || (decide (x = b) || (decide (x = c) || decide (x = d)))) := by
  show g? _ _ = _
  rw [g?_pos ⟨rfl, rfl⟩]
  simp only [List.any_cons, List.any_nil, deq_s, Bool.or_false]
theorem in_t7 : inR (.str x) (.tup [.str a, .str b, .str c, .str d, .str e, .str f, .str g]) S = some (decide (x = a) || (decide (x = b) || (decide (x = c) || (decide (x = d) || (decide (x = e) || (decide (x = f) || decide (x = g))))))) := by
  show g? _ _ = _
  rw [g?_pos ⟨rfl, rfl⟩]
  simp only [List.any_cons, List.any_nil, deq_s, Bool.or_false]
end
section
variable {S : Sto} {g : Gh} {F : List Cell} {i : Nat} {q q' : Gb}
end
section
variable {v0 v1 v2 v3 v4 v5 v6 v7 v8 v9 : D}
end
/-- the bill where it stands -/
structure BSt (S : Sto) (ba sa : Addr) (b : Bl) : Prop where
  o : S ba = some (.ins "Bill" (billF b sa))
  s : S sa = some (.lst (rowD b.slip))
def acc (b : Bl) : Bool := (b.slip.getD 0 default).2
/-- the open places -/
def openB (b : Bl) : List Nat := if b.stage = "running" ∨ b.stage = "paid" then [] else asks b.slip b.keeper (decide (b.stage = "protested"))
theorem nf {b : Bool} (h : ¬ b = false) : b = true := by
  cases b with
  | true => rfl
  | false => exact (h rfl).elim
def cf (hs : Hs) (n : Str) : Int × Bool := (lk hs n).getD (0, false)
/-- the bill of a number -/
def bIx (h : List α) (n : Int) : Option Nat := if 1 ≤ n ∧ n ≤ h.length then some (n - 1).toNat else none
def wB (bk : Bool) : Str := if bk = true then "blank" else "sign"
def nmA (r : Row) (j : Nat) : Str := (r.getD j default).1
def canP (hs : Hs) (n : Str) (c : Int) : Bool := match lk hs n with
  | some v => !v.2 && decide (c ≤ v.1)
  | none => false
def inP (l : List Nat) (p : Int) : Bool := l.any fun j => decide ((j : Int) = p)
theorem inR_nats {S : Sto} {l : List Nat} {p : Int} : inR (.int p) (.lst (natsD l)) S = some (inP l p) := by
  show g? _ _ = _
  have e : (natsD l).all flat = true := by
    unfold natsD
    rw [List.all_map, List.all_eq_true]
    intro x _; rfl
  rw [g?_pos ⟨rfl, e⟩]
  unfold natsD inP
  rw [List.any_map]
  rfl
theorem any_strs' (x : Str) : ∀ l : List Str, (l.any ((fun z => deq z (.str x)) ∘ D.str)) = decide (x ∈ l)
  | [] => rfl
  | y :: l => by
    rw [List.any_cons, any_strs' x l]
    show (deq (.str y) (.str x) || _) = _
    rw [deq_s]
    by_cases h : x = y
    · simp [h]
    · by_cases h2 : x ∈ l <;> simp [h, h2]
theorem inR_strL {S : Sto} {x : Str} {l : List Str} : inR (.str x) (.lst (l.map .str)) S = some (decide (x ∈ l)) := by
  show g? _ _ = _
  have e : (l.map D.str).all flat = true := by
    rw [List.all_map, List.all_eq_true]
    intro y _; rfl
  rw [g?_pos ⟨rfl, e⟩, List.any_map, any_strs']
def openN (b : Bl) : List Str := (openB b).map (nmA b.slip)
instance : Inhabited Bl := ⟨⟨"", "", "", 0, 0, [], "", "", 0, false⟩⟩
structure Crowd (p : List Str → Str → Bool) (l C : List Str) : Prop where
  sub : C.Sublist l
  st : ∀ x ∈ C, p C x = true
  gr : ∀ G : List Str, (∀ x ∈ G, x ∈ l) → (∀ x ∈ G, p G x = true) → ∀ x ∈ G, x ∈ C
def bAt (h : Ha) (n : Int) : Option Bl := (bIx h.bills n).bind fun i => h.bills[i]?
inductive Deed where
  | house (n : Str) (c : Int)
  | in_ (n : Str) (c : Int)
  | out (n : Str) (c : Int)
  | fail (n : Str)
  | mend (n : Str)
  | days (m : Int)
  | draw (dr de py : Str) (am du : Int) (bd : Bool)
  | accept (n c : Int)
  | sign (bk : Bool) (n c : Int) (to : Str) (bd : Bool)
  | hand (n c : Int) (to : Str)
  | lose (n : Int)
  | present (n c : Int)
  | protest (n c : Int)
  | ask (n c p : Int)
  | honour (n c : Int) (x : Str) (p : Int)
  | fair (l : List Str)
def deedD : Deed → D
  | .house n c => .tup [.str "house", .str n, .int c]
  | .in_ n c => .tup [.str "in", .str n, .int c]
  | .out n c => .tup [.str "out", .str n, .int c]
  | .fail n => .tup [.str "fail", .str n]
  | .mend n => .tup [.str "mend", .str n]
  | .days m => .tup [.str "days", .int m]
  | .draw dr de py am du bd => .tup [.str "draw", .str dr, .str de, .str py, .int am, .int du, .bl bd]
  | .accept n c => .tup [.str "accept", .int n, .int c]
  | .sign bk n c to bd => .tup [.str (wB bk), .int n, .int c, .str to, .bl bd]
  | .hand n c to => .tup [.str "hand", .int n, .int c, .str to]
  | .lose n => .tup [.str "lose", .int n]
  | .present n c => .tup [.str "present", .int n, .int c]
  | .protest n c => .tup [.str "protest", .int n, .int c]
  | .ask n c p => .tup [.str "ask", .int n, .int c, .int p]
  | .honour n c x p => .tup [.str "honour", .int n, .int c, .str x, .int p]
  | .fair l => .tup [.str "fair", .tup (l.map .str)]
/-- texts of a deed are short; fairs where they are let -/
def okDeed (fr : Bool) : Deed → Prop
  | .house n _ => n.length ≤ sizeLine
  | .fair l => fr = true ∧ l.length ≤ 100
  | _ => True
/-- who would pay -/
def payerA (b : Bl) (p : Int) : Str := if inP (openB b) p = true then nmA b.slip p.toNat else b.keeper
def chkB (h : Ha) (n : Int) (f : Bl → List (Bool × Str)) : List (Bool × Str) := match bAt h n with
  | none => [(false, "NoBill")]
  | some b => f b
/-- the checks of a deed, in their order -/
def chk (h : Ha) : Deed → List (Bool × Str)
  | .house n c => [(isNm n, "BadName"), (!(lk h.hs n).isSome, "Taken"), (decide (0 ≤ c ∧ c ≤ 1000000000000), "BadCoins"), (decide (h.hs.length < 9), "Full")]
  | .in_ n c => [((lk h.hs n).isSome, "NoHouse"), (decide (1 ≤ c ∧ c ≤ 1000000000000), "BadCoins"), (true, "NoCoins")]
  | .out n c => [((lk h.hs n).isSome, "NoHouse"), (decide (1 ≤ c ∧ c ≤ 1000000000000), "BadCoins"), (decide (c ≤ (cf h.hs n).1), "NoCoins")]
  | .fail n => [((lk h.hs n).isSome, "NoHouse"), (!(cf h.hs n).2, "Failed")]
  | .mend n => [((lk h.hs n).isSome, "NoHouse"), ((cf h.hs n).2, "Standing")]
  | .days m => [(decide (1 ≤ m ∧ m ≤ 1000), "BadCount")]
  | .draw dr de py am du _ => [((lk h.hs dr).isSome, "NoHouse"), ((lk h.hs de).isSome, "NoHouse"), ((lk h.hs py).isSome, "NoHouse"), (!(cf h.hs dr).2, "Failed"), (decide (1 ≤ am ∧ am ≤ 1000000000000), "BadCoins"), (decide (h.clock ≤ du ∧ du ≤ h.clock + 1000), "BadDay"), (decide (h.bills.length < 40), "Full")]
  | .accept n c => chkB h n fun b => [(decide (c = b.edition), "Void"), (!(cf h.hs b.drawee).2, "Failed"), (decide (b.stage = "running"), "Closed"), (!acc b, "Accepted")]
  | .sign _ n c to _ => chkB h n fun b => [(decide (c = b.edition), "Void"), ((lk h.hs to).isSome, "NoHouse"), (!(cf h.hs b.keeper).2, "Failed"), (decide (b.stage = "running"), "Closed"), (!decide (to = b.keeper), "Same"), (decide (b.slip.length < 8), "Full")]
  | .hand n c to => chkB h n fun b => [(decide (c = b.edition), "Void"), ((lk h.hs to).isSome, "NoHouse"), (decide (b.stage = "running"), "Closed"), (b.blank, "NotBlank"), (!decide (to = b.keeper), "Same")]
  | .lose n => chkB h n fun b => [(true, "Void"), (!decide (b.stage = "paid"), "Closed"), (decide (b.edition < 3), "Full")]
  | .present n c => chkB h n fun b => [(decide (c = b.edition), "Void"), (decide (b.stage = "running"), "Closed"), (decide (b.due ≤ h.clock), "NotYet")]
  | .protest n c => chkB h n fun b => [(decide (c = b.edition), "Void"), (!decide (b.stage = "paid"), "Closed"), (!decide (b.stage = "running"), "NotPresented"), (!decide (b.stage = "protested"), "Protested"), (decide (h.clock ≤ b.due + 3), "TooLate")]
  | .ask n c p => chkB h n fun b => [(decide (c = b.edition), "Void"), (!decide (b.stage = "paid"), "Closed"), (!decide (b.stage = "running"), "NotPresented"), (inP (openB b) p, "NotBound"), (canP h.hs (payerA b p) b.amount, "CantPay")]
  | .honour n c x p => chkB h n fun b => [(decide (c = b.edition), "Void"), ((lk h.hs x).isSome, "NoHouse"), (!decide (b.stage = "paid"), "Closed"), (!decide (b.stage = "running"), "NotPresented"), (decide (b.stage = "protested"), "NotProtested"), (inP (openB b) p, "NotBound"), (!decide (x = b.keeper), "Same"), (!decide (x ∈ openN b), "IsBound"), (canP h.hs x b.amount, "CantPay")]
  | .fair l => [(l.all fun x => (lk h.hs x).isSome, "NoHouse"), (decide l.Nodup, "Twice")]
section
variable {h : Ha} {P : Prop} {E : Str → Prop} {n c p am du : Int} {b : Bl} {to x dr de py : Str} {bd bk : Bool}
end
theorem lk_mem {hs : Hs} {n : Str} (h : n ∈ hs.map (·.1)) : ∃ v, lk hs n = some v := by
  obtain ⟨q, hq, rfl⟩ := List.mem_map.mp h
  have : (hs.find? fun z => decide (z.1 = q.1)).isSome = true := by
    rw [List.find?_isSome]
    exact ⟨q, hq, by simp⟩
  obtain ⟨z, hz⟩ := Option.isSome_iff_exists.mp this
  exact ⟨z.2, by unfold lk; rw [hz]; rfl⟩
theorem mem_lk {hs : Hs} {n : Str} (h : (lk hs n).isSome = true) : n ∈ hs.map (·.1) := by
  induction hs with
  | nil => cases h
  | cons q hs ih =>
    rw [lk_cons] at h
    rw [List.map_cons, List.mem_cons]
    by_cases e : q.1 = n
    · exact .inl e.symm
    · rw [if_neg e] at h; exact .inr (ih h)
theorem lk_iff {hs : Hs} {n : Str} : (lk hs n).isSome = true ↔ n ∈ hs.map (·.1) := ⟨mem_lk, fun h => by obtain ⟨v, hv⟩ := lk_mem h; rw [hv]; rfl⟩
theorem OkB.mono {hs hs' : Hs} {b : Bl} (m : ∀ n, n ∈ hs.map (·.1) → n ∈ hs'.map (·.1)) (o : OkB hs b) : OkB hs' b :=
  { dr := lk_iff.mpr (m _ (lk_iff.mp o.dr)), de := lk_iff.mpr (m _ (lk_iff.mp o.de)), py := lk_iff.mpr (m _ (lk_iff.mp o.py)), kp := lk_iff.mpr (m _ (lk_iff.mp o.kp)), sl := fun q hq => lk_iff.mpr (m _ (lk_iff.mp (o.sl q hq))), lo := o.lo, hi := o.hi, s0 := o.s0, s1 := o.s1, am := o.am }
theorem strs_pure : ∀ l : List Str, pureDs (l.map .str) = true
  | [] => rfl
  | x :: l => by show (true && pureDs (l.map .str)) = true; rw [strs_pure l]; rfl
theorem strs_small (n : Nat) : ∀ l : List Str, dSmalls n (l.map .str)
  | [] => by unfold dSmalls; trivial
  | x :: l => by
    show dSmalls n (.str x :: l.map .str)
    unfold dSmalls
    exact ⟨by cases n <;> (unfold dSmall; trivial), strs_small n l⟩
theorem deedD_pure (d : Deed) : pureD (deedD d) = true := by
  cases d with
  | fair l => show (true && (pureDs (l.map .str) && true)) = true; rw [strs_pure]; rfl
  | _ => rfl
def OkD (fr : Bool) (l : List D) : Prop := ∀ x ∈ l, ∃ d, x = deedD d ∧ okDeed fr d
theorem OkD.pure {fr : Bool} : ∀ {l : List D}, OkD fr l → pureDs l = true
  | [], _ => rfl
  | x :: l, h => by
    obtain ⟨d, rfl, _⟩ := h x List.mem_cons_self
    show (pureD (deedD d) && pureDs l) = true
    rw [deedD_pure, OkD.pure (l := l) (fun y hy => h y (List.mem_cons_of_mem _ hy))]; rfl
theorem OkD.app {fr : Bool} {l : List D} {d : Deed} (h : OkD fr l) (od : okDeed fr d) : OkD fr (l ++ [deedD d]) := fun x hx => by
  rcases List.mem_append.mp hx with z | z
  · exact h x z
  · exact ⟨d, List.mem_singleton.mp z, od⟩
theorem vInt {S : Sto} {i : Int} : Vw S (.int i) (.int i) := by unfold Vw; rfl
theorem vStr {S : Sto} {i : Str} : Vw S (.str i) (.str i) := by unfold Vw; rfl
theorem vCons {S : Sto} {f g : D} {r s : List D} (h : Vw S f g) (q : Vws S r s) : Vws S (f :: r) (g :: s) := by unfold Vws; exact ⟨f, r, rfl, h, q⟩
theorem vNil {S : Sto} : Vws S [] [] := by unfold Vws; rfl
theorem vLst {S : Sto} {fs gs : List D} (h : Vws S fs gs) : Vw S (.lst fs) (.lst gs) := by unfold Vw; exact ⟨fs, .inl rfl, h⟩
theorem vRef {S : Sto} {a : Addr} {fs gs : List D} (e : S a = some (.lst fs)) (h : Vws S fs gs) : Vw S (.ref a) (.lst gs) := by unfold Vw; exact ⟨fs, .inr ⟨a, rfl, e⟩, h⟩
section
variable {S : Sto}
theorem pw10 : binR .Pow (.int 10) (.int 10) S = some (.val (.int 10000000000)) := by kernel_rfl
theorem pw12 : binR .Pow (.int 10) (.int 12) S = some (.val (.int 1000000000000)) := by kernel_rfl
theorem pw20 : binR .Pow (.int 10) (.int 20) S = some (.val (.int 100000000000000000000)) := by kernel_rfl
end
theorem feed_i {fs : List Int} {j : Int} {k : D → Prop} (hf : Feed fs) (h0 : 0 ≤ j) (h1 : j < 270) (h : ∀ v : Int, 0 ≤ v → v < 55440 → k (.int v)) : @bOp _ (atI (fs.map .int) j) ⟨k⟩ := by
  have hl := hf.lo
  rw [atI_map, atI_nn h0 (by omega), List.getElem?_eq_getElem (by omega)]
  exact ⟨_, rfl, h _ (hf.nn _ (List.getElem_mem _)).1 (hf.nn _ (List.getElem_mem _)).2⟩
def isI : D → Bool
  | .int _ => true
  | _ => false
def isS : D → Bool
  | .str _ => true
  | _ => false
theorem pick_at {l : List D} {i : Int} {k : D → Prop} (h0 : 0 ≤ i) (h1 : i < l.length) (h : ∀ d ∈ l, k d) : @bOp _ (atI l i) ⟨k⟩ := by
  rw [atI_nn h0 h1, List.getElem?_eq_getElem (by omega)]
  exact ⟨_, rfl, h _ (List.getElem_mem _)⟩
theorem pickI {l : List D} {v n : Int} {k : D → Prop} (h0 : 0 < n) (h1 : n ≤ l.length) (hl : l.all isI = true) (h : ∀ j : Int, D.int j ∈ l → k (.int j)) : @bOp _ (atI l (v % n)) ⟨k⟩ :=
  pick_at (Int.emod_nonneg _ (by omega)) (by have := Int.emod_lt_of_pos v h0; omega) fun d hd => by
    have := List.all_eq_true.mp hl d hd
    cases d <;> first | (cases this; done) | exact h _ hd
theorem pickT {l : List D} {v n : Int} {k : D → Prop} (h0 : 0 < n) (h1 : n ≤ l.length) (hl : l.all isS = true) (h : ∀ j : Str, D.str j ∈ l → k (.str j)) : @bOp _ (atI l (v % n)) ⟨k⟩ :=
  pick_at (Int.emod_nonneg _ (by omega)) (by have := Int.emod_lt_of_pos v h0; omega) fun d hd => by
    have := List.all_eq_true.mp hl d hd
    cases d <;> first | (cases this; done) | exact h _ hd
def inB (n : Nat) : D → Bool
  | .int j => decide (0 ≤ j) && decide (j < n)
  | _ => false
theorem pickJ {l l' : List D} {j : Int} {k : D → Prop} (hj : D.int j ∈ l') (hb : l'.all (inB l.length) = true) (hl : l.all isI = true) (h : ∀ i : Int, D.int i ∈ l → k (.int i)) : @bOp _ (atI l j) ⟨k⟩ := by
  have b := List.all_eq_true.mp hb _ hj
  unfold inB at b
  obtain ⟨b1, b2⟩ := Bool.and_eq_true_iff.mp b
  refine pick_at (of_decide_eq_true b1) (of_decide_eq_true b2) fun d hd => ?_
  have := List.all_eq_true.mp hl d hd
  cases d <;> first | (cases this; done) | exact h _ hd
theorem let_mem (i : Int) : letC (i % 26) ∈ lettersS.cps.toList := by
  have all : ∀ n : Fin 26, letC (n.val : Int) ∈ lettersS.cps.toList := by decide +kernel
  have h0 := Int.emod_nonneg i (show (26 : Int) ≠ 0 by decide)
  have h1 := Int.emod_lt_of_pos i (show (0 : Int) < 26 by decide)
  have := all ⟨(i % 26).toNat, by omega⟩
  simp only at this
  rwa [Int.toNat_of_nonneg h0] at this
theorem rep_len (x : Str) (n : Nat) : (repS x n).length = n * x.length := by
  unfold repS
  have : ∀ (l : List (Array Nat)) (acc : Array Nat), (l.foldl (· ++ ·) acc).size = acc.size + (l.map Array.size).sum := by
    intro l
    induction l with
    | nil => intro acc; simp
    | cons a l ih => intro acc; rw [List.foldl_cons, ih, Array.size_append, List.map_cons, List.sum_cons]; omega
  show (List.foldl (· ++ ·) #[] (List.replicate n x.cps)).size = _
  rw [this, List.map_replicate, List.sum_replicate_nat]
  show 0 + n * x.length = _
  omega
theorem isNm_mk (x : Str) (h1 : 1 ≤ x.length) (h2 : x.length ≤ 8) (h3 : ∀ c ∈ x.cps.toList, c ∈ lettersS.cps.toList) : isNm x = true := by
  unfold isNm
  rw [decide_eq_true h1, decide_eq_true h2, Bool.true_and, Bool.true_and, List.all_eq_true]
  exact fun c hc => decide_eq_true (h3 c hc)
theorem isNm_name (p k : Int) : isNm (nameOf p k) = true := by
  have t0 : 0 ≤ p / 4 % 8 := Int.emod_nonneg _ (by decide)
  have t1 : p / 4 % 8 < 8 := Int.emod_lt_of_pos _ (by decide)
  have hm := let_mem (p / 32 + 11 * k)
  unfold nameOf
  simp only
  generalize letC ((p / 32 + 11 * k) % 26) = c at hm ⊢
  have one : (⟨#[c]⟩ : Str).length = 1 := rfl
  split
  · exact isNm_mk _ (by rw [one]; exact Nat.le_refl _) (by rw [one]; decide) (fun d hd => by
      have : d = c := by simpa using hd
      rw [this]; exact hm)
  · split
    · obtain ⟨n, hn⟩ : ∃ n : Nat, p / 4 % 8 = n := ⟨(p / 4 % 8).toNat, by omega⟩
      have all : ∀ n : Fin 8, (cutS "mistral" none (some (n.val : Int))).length + (cutS "mistral" (some (n.val : Int)) none).length = 7 ∧ (∀ c ∈ (cutS "mistral" none (some (n.val : Int))).cps.toList, c ∈ lettersS.cps.toList) ∧ (∀ c ∈ (cutS "mistral" (some (n.val : Int)) none).cps.toList, c ∈ lettersS.cps.toList) := by decide +kernel
      obtain ⟨a1, a2, a3⟩ := all ⟨n, by omega⟩
      simp only at a1 a2 a3
      rw [hn]
      refine isNm_mk _ (by rw [len_app, len_app, one]; omega) (by rw [len_app, len_app, one]; omega) (fun d hd => ?_)
      have hd : d ∈ ((cutS "mistral" none (some (n : Int))).cps ++ #[c] ++ (cutS "mistral" (some (n : Int)) none).cps).toList := hd
      rw [Array.toList_append, Array.toList_append, List.mem_append, List.mem_append] at hd
      rcases hd with (hd | hd) | hd
      · exact a2 d hd
      · have : d = c := by simpa using hd
        rw [this]; exact hm
      · exact a3 d hd
    · split
      · have u0 : 0 ≤ (p / 4 % 8 + 3 * k) % 8 := Int.emod_nonneg _ (by decide)
        have u1 : (p / 4 % 8 + 3 * k) % 8 < 8 := Int.emod_lt_of_pos _ (by decide)
        refine isNm_mk _ (by rw [rep_len, one]; omega) (by rw [rep_len, one]; omega) (fun d hd => ?_)
        rw [repS_list] at hd
        obtain ⟨l, h1, h2⟩ := List.mem_flatten.mp hd
        rw [(List.mem_replicate.mp h1).2] at h2
        have : d = c := by simpa using h2
        rw [this]; exact hm
      · have w0 : 0 ≤ (p / 4 % 8 + k) % 9 := Int.emod_nonneg _ (by decide)
        have w1 : (p / 4 % 8 + k) % 9 < 9 := Int.emod_lt_of_pos _ (by decide)
        have all : ∀ n : Fin 9, isNm (wordsA.getD n.val "") = true := by decide +kernel
        exact all ⟨((p / 4 % 8 + k) % 9).toNat, by omega⟩
/-- names and bills are never lost -/
structure Grow (h h' : Ha) : Prop where
  nm : ∀ n, n ∈ h.hs.map (·.1) → n ∈ h'.hs.map (·.1)
  bn : h.bills.length ≤ h'.bills.length
theorem Grow.refl (h : Ha) : Grow h h := ⟨fun _ z => z, Nat.le_refl _⟩
theorem Grow.trans {h1 h2 h3 : Ha} (a : Grow h1 h2) (b : Grow h2 h3) : Grow h1 h3 := ⟨fun n z => b.nm n (a.nm n z), Nat.le_trans a.bn b.bn⟩
def fv (fs : List Int) (i : Nat) : Int := fs.getD i 0
theorem feed_at {fs : List Int} (hf : Feed fs) {j : Nat} (h : j < 270) : atI (fs.map D.int) (j : Int) = some (.int (fv fs j)) := by
  have hl := hf.lo
  rw [atI_map, atI_nn (by omega) (by omega), Int.toNat_natCast, List.getElem?_eq_getElem (by omega)]
  unfold fv
  rw [List.getD_eq_getElem?_getD, List.getElem?_eq_getElem (by omega)]; rfl
/-- the houses of a law stand -/
structure Stood (fs : List Int) (n : Nat) (h : Ha) : Prop where
  ok : OkH h
  hl : h.hs.length ≤ n
  nm : ∀ k, k < n → nameOf (fv fs 2) (k : Int) ∈ h.hs.map (·.1)
  op : ∀ q ∈ h.hs, q.2.2 = false
  ck : h.clock = 0
  bl : h.bills = []
  dn : h.done.length ≤ n
def Spr (S S' : Sto) : Prop := ∀ a m, S a = some m → S' a = some m
theorem Spr.refl (S : Sto) : Spr S S := fun _ _ h => h
theorem Spr.trans {S S1 S2 : Sto} (a : Spr S S1) (b : Spr S1 S2) : Spr S S2 := fun x m h => b x m (a x m h)
theorem Spr.put {S S' : Sto} {p : Addr} {o : MO} (a : Spr S S') (h : S p = none) : Spr S (put S' p o) := fun x m e => by
  have n : x ≠ p := fun q => by subst q; rw [h] at e; cases e
  rw [put_ne n]
  exact a x m e
theorem Hd.spr {S S' : Sto} {L : List Cell} (h : Hd S L) (s : Spr S S') : Hd S' L := ⟨h.nd, fun q hq => s _ _ (h.at_ q hq)⟩
end Mn
namespace PySem.SeqAt
open AutoSeq1 (wpAny_loadPart')
open MeetsSeq MeetsSeq2 MeetsSeq3
section
variable {P : Program} {w : World} {x y : Addr} {us ws : Array Value} {nx ny : Nat} {dx dy : Option Addr} {sx sy : Array (Option Value)}
def lo (ds : Option Addr) (us : Array Value) (n : Nat) (sl : Array (Option Value)) : Obj := { cls := .type "list", dict := ds, data := .seq us n, slots := sl }
end
end PySem.SeqAt
namespace Mn
open PySem L2
open PySem.SeqAt (EqIn)
/-- item by item -/
def Pw {α : Type} (R : α → α → Prop) (xs ys : List α) : Prop := xs.length = ys.length ∧ ∀ (i : Nat) x y, xs[i]? = some x → ys[i]? = some y → R x y
def EqD (S : Sto) : Nat → D → D → Prop
  | 0 => fun _ _ => False
  | n + 1 => fun x y => (x = y ∧ flat x = true) ∨ (∃ a, x = .ref a ∧ y = .ref a) ∨ (∃ xs ys, x = .tup xs ∧ y = .tup ys ∧ Pw (EqD S n) xs ys) ∨
    (∃ xs ys, listOf S x = some xs ∧ listOf S y = some ys ∧ Pw (EqD S n) xs ys) ∨
    ∃ a b ks ls, x = .ref a ∧ y = .ref b ∧ S a = some (.dct ks) ∧ S b = some (.dct ls) ∧ ks.length = ls.length ∧ ∀ p ∈ ks, ∃ u, gv ls p.1 = some u ∧ EqD S n p.2 u
section
variable {C : Cc} {H : Hp} {S : Sto}
theorem RelDs.back : ∀ {ds : List D} {vs : List V} {i : Nat} {v : V}, RelDs C H S ds vs → vs[i]? = some v → ∃ d, ds[i]? = some d ∧ RelD C H S d v
  | [], _, i, v, h, e => by unfold RelDs at h; rw [h] at e; simp at e
  | d' :: ds, _, 0, v, h, e => by unfold RelDs at h; obtain ⟨w, r, rfl, h1, h2⟩ := h; simp at e; subst e; exact ⟨d', rfl, h1⟩
  | d' :: ds, _, i + 1, v, h, e => by
    unfold RelDs at h
    obtain ⟨w, r, rfl, h1, h2⟩ := h
    obtain ⟨d, h3, h4⟩ := RelDs.back (i := i) h2 (by simpa using e)
    exact ⟨d, by simpa using h3, h4⟩
theorem RelK.back {κ : Type} : ∀ {kvs : List (κ × D)} {l : List (κ × V)} {p : κ × V}, RelK C H S kvs l → p ∈ l → ∃ d, (p.1, d) ∈ kvs ∧ RelD C H S d p.2
  | [], _, p, h, e => by rw [show _ = [] from h] at e; cases e
  | (j, x) :: r, _, p, h, e => by
    obtain ⟨v, l', rfl, h1, h2⟩ := h
    rcases List.mem_cons.mp e with rfl | e
    · exact ⟨x, List.mem_cons_self, h1⟩
    · obtain ⟨d, h3, h4⟩ := RelK.back h2 e
      exact ⟨d, List.mem_cons_of_mem _ h3, h4⟩
theorem Pw.rel {R : D → D → Prop} {R' : V → V → Prop} (hr : ∀ d e v u, R d e → RelD C H S d v → RelD C H S e u → R' v u) {xs ys : List D} {vs us : List V} (r1 : RelDs C H S xs vs) (r2 : RelDs C H S ys us) (h : Pw R xs ys) : Pw R' vs us := by
  refine ⟨by rw [r1.len, r2.len]; exact h.1, fun i v u e1 e2 => ?_⟩
  obtain ⟨d, h1, h2⟩ := r1.back e1
  obtain ⟨e, h3, h4⟩ := r2.back e2
  exact hr d e v u (h.2 i d e h1 h3) h2 h4
end
section
variable {X : Cx} {pins : List (Addr × Obj)} {σ : St} {H : Hp} {s : Shared}
end
section
variable {X : Cx} {ga : Str → Addr} {Z : Addr → Prop}
end
theorem Pw.nil {α : Type} {R : α → α → Prop} : Pw R [] [] := ⟨rfl, fun i x y h => by simp at h⟩
theorem Pw.cons {α : Type} {R : α → α → Prop} {x y : α} {xs ys : List α} (h : R x y) (t : Pw R xs ys) : Pw R (x :: xs) (y :: ys) := by
  refine ⟨by rw [List.length_cons, List.length_cons, t.1], fun i a b e1 e2 => ?_⟩
  cases i with
  | zero => simp at e1 e2; rw [← e1, ← e2]; exact h
  | succ i => exact t.2 i a b (by simpa using e1) (by simpa using e2)
mutual
theorem EqD.pure {S : Sto} : ∀ (d : D) (n : Nat), dep d < n → pureD d = true → EqD S n d d
  | _, 0, h, _ => absurd h (Nat.not_lt_zero _)
  | .non, n + 1, _, _ => .inl ⟨rfl, rfl⟩
  | .bl _, n + 1, _, _ => .inl ⟨rfl, rfl⟩
  | .int _, n + 1, _, _ => .inl ⟨rfl, rfl⟩
  | .str _, n + 1, _, _ => .inl ⟨rfl, rfl⟩
  | .tup ds, n + 1, h, p => .inr (.inr (.inl ⟨ds, ds, rfl, rfl, EqD.pures ds n (by unfold dep at h; omega) (by unfold pureD at p; exact p)⟩))
  | .lst ds, n + 1, h, p => .inr (.inr (.inr (.inl ⟨ds, ds, rfl, rfl, EqD.pures ds n (by unfold dep at h; omega) (by unfold pureD at p; exact p)⟩)))
  | .ty _, n + 1, _, p => by unfold pureD at p; cases p
  | .ref _, n + 1, _, p => by unfold pureD at p; cases p
  | .scr _, n + 1, _, p => by unfold pureD at p; cases p
theorem EqD.pures {S : Sto} : ∀ (ds : List D) (n : Nat), deps ds < n → pureDs ds = true → Pw (EqD S n) ds ds
  | [], _, _, _ => Pw.nil
  | d :: ds, n, h, p => by
    unfold deps at h
    unfold pureDs at p
    obtain ⟨p1, p2⟩ := Bool.and_eq_true_iff.mp p
    exact Pw.cons (EqD.pure d n (by omega) p1) (EqD.pures ds n (by omega) p2)
end
end Mn
namespace Mn
open PySem L2
section
variable {X : Cx}
end
section
variable {X : Cx} {ga : Str → Addr} {Z : Addr → Prop} {H0 : Hp} {S0 : Sto}
theorem pt_w {e : Expr} {f : W1} (mf : MonoW f) (h : PE X e (tD (cc X ga Z) H0 S0 f)) (n : notTest e = true) : PT X e (tDT (cc X ga Z) H0 S0 f) := by
  refine PT.imp (pt_truth h (notTest_true n)) fun σ H Q q => ?_
  obtain ⟨σd, S, rs, rp, ex, w⟩ := q
  refine ⟨σd, S, rs, rp, ex, mf σd S _ _ (fun d S1 q H1 v rp1 e1 r1 => ?_) w⟩
  obtain ⟨b, h1, h2⟩ := q
  exact ⟨b, truOk rfl rp1 r1 h1, h2 H1 rp1 e1⟩
end
theorem one_es {es : List Expr} {a : Expr} {ms : List W1} (hl : ms.length = es.length) (he : es = [a]) : ∃ m, ms = [m] := by
  subst he
  match ms, hl with
  | [m], _ => exact ⟨m, rfl⟩
section
variable {X : Cx} {pins : List (Addr × Obj)} {σ : St} {H : Hp} {s : Shared}
end
section
variable {C : Cc} {H H' : Hp} {S : Sto}
theorem Ext.supM {p : Addr} {m : MO} (k : ∀ b o, H b = some o → H' b = some o) (hp : H p = none) : Ext H S H' (put S p m) := fun b u e s => ⟨k b u e, by rw [put_ne (ne_of_none e hp)]; exact s⟩
theorem Rp.supM (r : Rp C H S) (k : ∀ b o, H b = some o → H' b = some o) {p : Addr} {m : MO} {o : HO} (hp : H p = none) (ho : H' p = some o) (n : RelM C H' (put S p m) m o) : Rp C H' (put S p m) := ⟨fun a m' e => by
  by_cases q : a = p
  · subst q; rw [put_same] at e; cases e; exact ⟨o, ho, n⟩
  · rw [put_ne q] at e
    obtain ⟨u, h1, h2⟩ := r.obj a m' e
    exact ⟨u, k _ _ h1, h2.ext (Ext.supM k hp)⟩, fun a q => by
  obtain ⟨⟨xs, e⟩, s⟩ := r.z a q
  exact ⟨⟨xs, k _ _ e⟩, by rw [put_ne (ne_of_none e hp)]; exact s⟩⟩
def pairK (P : List (Str × Int)) : List (Key × D) := P.map fun q => (.inr q.1, .int q.2)
theorem relK_pk : ∀ {P : List (Str × Int)} {l : List (Key × V)}, RelK C H S (pairK P) l → l = P.map fun q => (.inr q.1, V.int q.2)
  | [], l, h => h
  | q :: P, l, h => by
    obtain ⟨v, l', rfl, h1, h2⟩ := h
    rw [relK_pk h2]
    unfold RelD at h1
    subst h1
    rfl
end
end Mn
namespace Mn
open PySem L2 PySem.Spec PyProof.Rows PySem.Calls PyProof.V
theorem kv_at {κ : Type} {kvs : List (κ × V)} {vs : List (κ × Value)} (r : KV kvs vs) {i : Nat} {k : κ} {v : Value} (e : vs[i]? = some (k, v)) : ∃ x, kvs[i]? = some (k, x) ∧ RelV x v := KV.at' r e
theorem presum_sum : ∀ (is : List Int), preSum (fun i => is.getD i 0) is.length = is.sum
  | [] => rfl
  | x :: r => by
    show preSum (fun i => (x :: r).getD i 0) (r.length + 1) = _
    rw [PySem.W.kdu_shift, List.sum_cons, ← presum_sum r]
    rfl
def rVals (K : List Int → Hp → VK → Prop) : V → Hp → VK → Prop := fun x H Q => ∃ a kvs is, x = V.ref a ∧ H a = some (.dK kvs) ∧ kvs.map (·.2) = is.map V.int ∧ K is H Q
def tSumVals (td : TE) : TE := fun σ H Q => td σ H fun x H1 => rVals (fun is H1 Q => Q (.int is.sum) H1) x H1 Q
def tListVals (td : TE) : TE := fun σ H Q => td σ H fun x H1 => rVals (fun is H1 Q => ∀ q, H1 q = none → Q (.ref q) (upd H1 q (.lst (is.map V.int)))) x H1 Q
section
variable {X : Cx} {o : Expr} {p pos apos mpos : Pos} {td : TE}
theorem val_at {kvs : List (Key × V)} {vs : List (Key × Value)} {is : List Int} (rel : KV kvs vs) (hv : kvs.map (·.2) = is.map V.int) (i : Nat) (v : Value) (h : ∃ k, vs[i]? = some (k, v)) : ∃ t, v = Value.int (is.getD i 0) t := by
  obtain ⟨k, hk⟩ := h
  obtain ⟨x, h1, h2⟩ := kv_at rel hk
  have e1 : (kvs.map (·.2))[i]? = some x := by rw [List.getElem?_map, h1] <;> rfl
  rw [hv, List.getElem?_map] at e1
  obtain ⟨j, hj, e2⟩ := Option.map_eq_some_iff.mp e1
  subst e2
  obtain ⟨t, e3⟩ := h2
  refine ⟨t, ?_⟩
  rw [e3, List.getD_eq_getElem?_getD, hj] <;> rfl
theorem pe_sumVals (hc : X.calm = true) (hg : Gl X "sum") (hm : X.mg "sum" = none) (hd : PE X o td) (hbase : attributeBase o "values" X.env (eval o X.env) = eval o X.env := by rfl) (hline : (apos.endLine == mpos.line) = true := by rfl)
    (hse : starEach [Expr.Call (.Attribute o "values" apos) [] [] mpos] X.env = [(false, eval (Expr.Call (.Attribute o "values" apos) [] [] mpos) X.env)] := by rfl) :
    PE X (.Call (.Name "sum" p) [.Call (.Attribute o "values" apos) [] [] mpos] [] pos) (tSumVals td) := by
  refine ⟨fun pins s σ H Q I h => ?_⟩
  refine wpAny_Call_Name_kw (ld_blt I hg hm (u := .builtin "sum") (by first | rfl | decide +kernel) ?_ (by first | decide +kernel | decide) (by first | decide +kernel | decide))
  rw [hse]
  refine PySem.callWith_builtin1 (wpAny_Call_method0_late hbase hline (thn (hd.run pins s σ H _ I h) fun v s1 ⟨x, H1, I1, r1, a, kvs, is, ex, ha, hv, q⟩ => ?_))
  subst ex
  obtain rfl : v = Value.ref a := r1
  obtain ⟨_, hsys, vs, rel, dof⟩ := dk_of I1.hok ha
  obtain ⟨ep, dat⟩ := dof.dictAt
  have dat' := dat
  obtain ⟨ob, es, ho, ex, hdat, hko, hpr, hnd⟩ := dat'
  refine ⟨"dict", "dict.values", F.plainAttrs_dict, F.slot_dict_values, F.type_dict_values, ⟨ob, ho, ex.1⟩, fun b e => ?_, Calls.callWith_builtin rfl (PySem.evalArgs_none ?_)⟩
  · cases e
    exact ⟨ob, ho, ex.2.1⟩
  refine call_meetsIn F.slot_dict_values ⟨ob, ho, ex.1⟩ F.entry_dict_values (F.args_dict_values_1 _) (meets_dict_values (mixKind X.prog X.w) a hsys) ⟨⟨vs, dof⟩, ?_⟩
  have k1 : ∀ b u, s1.heap.get? b = some u → (s1.heap.push { cls := .type "dict_values", data := .fields #[.ref a] }).get? b = some u := fun b u e => Heap.get?_push_of_some _ e
  have dat1 : (s1.heap.push { cls := .type "dict_values", data := .fields #[.ref a] }).DictAt (mixKind X.prog X.w) a vs ep := dat.keep k1
  have hlv : vs.length = is.length := by
    have e1 := congrArg List.length hv
    rw [List.length_map, List.length_map] at e1
    rw [← e1]
    exact (KV.length rel).symm
  have I2 : L2.Inv X pins σ H1 { s1 with heap := s1.heap.push { cls := .type "dict_values", data := .fields #[.ref a] } } := I1.kept (t' := s1.toks) k1
  refine call_sum_walkAnyS ?_
  obtain ⟨oI, St, hit, W, st⟩ := (PySem.W.kdl_values (prog := X.prog) (w := X.w) (knd := mixKind X.prog X.w) (kvs := vs) (ep := ep) (d := a) (r := s1.heap.objs.size)).iter X.A.in1 { s1 with heap := s1.heap.push { cls := .type "dict_values", data := .fields #[.ref a] } } (I.ok.hd hc) ⟨⟨_, Heap.get?_push_size _ rfl, rfl, rfl⟩, dat1⟩
  have hsz : (s1.heap.push { cls := .type "dict_values", data := .fields #[.ref a] }).objs.size = s1.heap.objs.size + 1 := Heap.size_push _ _
  refine hit _ _ ⟨_, _, _, _, vs.length, _, _, fun i => is.getD i 0, rfl, W.toS, st, fun b hb => ?_, fun i v hv' => val_at rel hv i v hv', fun s' t' hm => ?_⟩
  · show b < ((s1.heap.push _).push oI).objs.size
    have e9 : ((s1.heap.push { cls := .type "dict_values", data := .fields #[.ref a] }).push oI).objs.size = (s1.heap.push { cls := .type "dict_values", data := .fields #[.ref a] }).objs.size + 1 := Heap.size_push _ _
    rw [e9, hsz]
    rcases List.mem_cons.mp hb with e | hb
    · rw [e]
      show (s1.heap.push _).objs.size < _
      rw [hsz]
      exact Nat.lt_succ_self _
    · rw [List.mem_singleton.mp hb]
      exact Nat.lt_succ_of_lt (Nat.lt_succ_of_lt (Heap.lt_size ho))
  · have hk : ∀ b o, s1.heap.get? b = some o → s'.heap.get? b = some o := fun b o e =>
      hm.heap b o (fun hI => by
        have e1 := List.mem_singleton.mp hI
        have e2 := Heap.lt_size e
        rw [e1] at e2
        have e3 : (s1.heap.push { cls := .type "dict_values", data := .fields #[.ref a] }).objs.size < s1.heap.objs.size := e2
        rw [hsz] at e3
        omega) (Heap.get?_push_of_some _ (k1 b o e))
    rw [Moved.eq_with hm]
    refine ⟨.int _, H1, I1.kept (t' := s'.toks) fun b u e => hk b u e, ⟨t', rfl⟩, ?_⟩
    rw [hlv, presum_sum]
    exact q
theorem pe_listVals (hc : X.calm = true) (he : PE X o td) (hg : Gl X "list") (hm : X.mg "list" = none) (hv : bootBuiltins "list" = some (.type "list")) (hbase : attributeBase o "values" X.env (eval o X.env) = eval o X.env := by rfl) (hline : (apos.endLine == mpos.line) = true := by rfl)
    (hs : starEach [.Call (.Attribute o "values" apos) [] [] mpos] X.env = (false, eval (.Call (.Attribute o "values" apos) [] [] mpos) X.env) :: starEach [] X.env := by rfl) :
    PE X (.Call (.Name "list" p) [.Call (.Attribute o "values" apos) [] [] mpos] [] pos) (tListVals td) := by
  refine ⟨fun pins s σ H Q I hq => ?_⟩
  refine wpAny_Call_Name_kw (ld_blt I hg hm hv ?_)
  refine PyProof.Rows.callWith_type1 ?_ hs rfl
  rw [hs]
  show wpAny _ _ (spliced ((false, eval (.Call (.Attribute o "values" apos) [] [] mpos) X.env) :: backTo pos (starEach [] X.env))) _ _ s
  refine Calls.spliced_cons ?_
  refine wpAny_Call_method (T := "dict") (id := "dict.values") hbase rfl hline F.plainAttrs_dict F.slot_dict_values F.type_dict_values (thn (he.run pins s σ H _ I hq) fun u s1 ⟨x, H1, I1, rx, d, kvs, is, ex, hd, hvv, q⟩ => ?_)
  subst ex
  obtain rfl : u = Value.ref d := rx
  obtain ⟨hz, hs0, vs, kv, hdo⟩ := I1.hok d _ hd
  obtain ⟨ep, hat⟩ := hdo.dictAt
  have lk : kvs.length = vs.length := Paired.length kv
  have I2 : L2.Inv X pins σ H1 { s1 with heap := s1.heap.push { cls := .type "dict_values", data := .fields #[.ref d] } } := I1.kept (t' := s1.toks) fun b ob q => Heap.get?_push_of_some _ q
  refine ⟨hdo.typeIs, hdo.mapOf.noDict, ?_⟩
  show wpAny _ _ (callWith mpos (.builtin "dict.values") [.ref d] [] []) _ X.xe s1
  refine method_meetsIn F.slot_dict_values F.entry_dict_values rfl (PySem.evalArgs_none ⟨rfl, hdo.typeIs, F.args_dict_values_1 _, _, meets_dict_values (mixKind X.prog X.w) d hs0, ⟨vs, hdo⟩, ?_⟩)
  refine Calls.spliced_nil ?_
  have hl : is.length = vs.length := by
    have e1 := congrArg List.length hvv
    rw [List.length_map, List.length_map] at e1
    omega
  refine PySem.W.kdl_call (PySem.W.kdl_values (knd := mixKind X.prog X.w) (kvs := vs) (ep := ep)) (I1.ok.hd hc) ⟨⟨_, Heap.get?_push_size _ rfl, rfl, rfl⟩, hat.push _⟩ (by omega) fun h' tk acc c hk hS hacc => ?_
  have hk2 : ∀ b o, s1.heap.get? b = some o → h'.get? b = some o := fun b o e => hk b o (Heap.get?_push_of_some _ e)
  have big : s1.heap.objs.size ≤ (s1.heap.push { cls := .type "dict_values", data := .fields #[.ref d] }).objs.size := by rw [Heap.size_push]; omega
  refine ⟨.ref _, upd H1 _ (.lst (is.map V.int)), I1.laid hk2 big (show ObjOk X.prog X.w _ _ _ (.lst (is.map V.int)) from ⟨?_, acc.toList, c, ?_, ?_⟩), rfl, q _ (I1.hok.fresh big)⟩
  · rw [List.length_map]; omega
  · have el : acc.toList.length = acc.size := by simp
    refine vals_of_at (by rw [List.length_map, el, hacc.1, hl]) fun j x w h1 h2 => ?_
    obtain ⟨t, e⟩ := val_at kv hvv j w (hacc.2 j w (by rw [← Array.getElem?_toList]; exact h2))
    rw [List.getElem?_map] at h1
    obtain ⟨z, e1, e2⟩ := Option.map_eq_some_iff.mp h1
    subst e2
    refine ⟨t, ?_⟩
    rw [e, List.getD_eq_getElem?_getD, e1] <;> rfl
  · rw [Array.toArray_toList]; exact hS
end
theorem vals_pk {P : List (Str × Int)} : (P.map fun q => ((.inr q.1, V.int q.2) : Key × V)).map (·.2) = (P.map (·.2)).map V.int := by
  rw [List.map_map, List.map_map]; rfl
def mtSuV (sc : Scope) : Expr → Option (List Expr)
  | .Call (.Name x _) [.Call (.Attribute o y ap) [] [] cp] [] _ => if x = "sum" ∧ y = "values" ∧ gloB sc "sum" = true ∧ notSuper o = true ∧ (ap.endLine == cp.line) = true then some [o] else none
  | _ => none
theorem mtSuV_inv {sc : Scope} {e : Expr} {es : List Expr} (h : mtSuV sc e = some es) : ∃ o p1 ap cp p2, e = .Call (.Name "sum" p1) [.Call (.Attribute o "values" ap) [] [] cp] [] p2 ∧ gloB sc "sum" = true ∧ notSuper o = true ∧ (ap.endLine == cp.line) = true ∧ es = [o] := by
  unfold mtSuV at h
  split at h
  · split at h
    · rename_i z
      obtain ⟨rfl, rfl, z1, z2, z3⟩ := z
      cases h
      exact ⟨_, _, _, _, _, rfl, z1, z2, z3, rfl⟩
    · cases h
  · cases h
def smSuV : Gc → List D → Sto → (D → Sto → Prop) → Prop := fun _ ds S k => ∃ (a : Addr) (P : List (Str × Int)), ds = [.ref a] ∧ S a = some (.dct (pairK P)) ∧ k (.int (P.map (·.2)).sum) S
def pgSuV : Plug where
  mt := fun _ sc e => mtSuV sc e
  sem := smSuV
  mono := fun _ ds S k k' hk q => by
    obtain ⟨a, P, h1, h2, h4⟩ := q
    exact ⟨a, P, h1, h2, hk _ _ h4⟩
  snd := fun {X sc ga Z H0 S0 G x} g {e es} h ms hl hm hp => by
    obtain ⟨o, p1, ap, cp, p2, rfl, g1, hs, hln, rfl⟩ := mtSuV_inv h
    obtain ⟨m, rfl⟩ := one_es hl rfl
    have mm := hm m (by simp)
    have pe : PE X (.Call (.Name "sum" p1) [.Call (.Attribute o "values" ap) [] [] cp] [] p2) (tD (cc X ga Z) H0 S0 (seqC (fun _ _ => True) [m] (smSuV G))) := by
      refine PE.imp (pe_sumVals g.calm (g.sck.glo g1) (g.blt .sum) (hp 0 o m rfl rfl) (notSuper_base hs) hln rfl) fun σ H Q q => ?_
      obtain ⟨σd, S, rs, rp, ex, w⟩ := q
      refine ⟨σd, S, rs, rp, ex, mm σd S _ _ (fun u S1 q H1 v rp1 e1 r1 => ?_) w⟩
      obtain ⟨-, a, P, h1, h2, h4⟩ := q
      cases h1
      obtain ⟨ho, h6, vl, rfl, rk⟩ := rp1.obj a _ h2
      unfold RelD at r1
      subst r1
      have ek := relK_pk rk
      subst ek
      exact ⟨a, _, P.map (·.2), rfl, h6, vals_pk, h4 H1 _ rp1 e1 mk_int⟩
    exact ⟨pe, pt_w (fun σ S k k' hk q => mm σ S _ _ (fun d S' z => by
      obtain ⟨-, a, P, h1, h2, h4⟩ := z
      exact ⟨trivial, a, P, h1, h2, hk _ _ h4⟩) q) pe rfl⟩
theorem ck_SuV {G : Gc} {S : Sto} {d : D} {k : Unit → Prop} : @ckp (pgSuV.chk G) S d ⟨k⟩ = k () := ck_t fun _ _ => trivial
def mtLiV (sc : Scope) : Expr → Option (List Expr)
  | .Call (.Name x _) [.Call (.Attribute o y ap) [] [] cp] [] _ => if x = "list" ∧ y = "values" ∧ gloB sc "list" = true ∧ notSuper o = true ∧ (ap.endLine == cp.line) = true then some [o] else none
  | _ => none
theorem mtLiV_inv {sc : Scope} {e : Expr} {es : List Expr} (h : mtLiV sc e = some es) : ∃ o p1 ap cp p2, e = .Call (.Name "list" p1) [.Call (.Attribute o "values" ap) [] [] cp] [] p2 ∧ gloB sc "list" = true ∧ notSuper o = true ∧ (ap.endLine == cp.line) = true ∧ es = [o] := by
  unfold mtLiV at h
  split at h
  · split at h
    · rename_i z
      obtain ⟨rfl, rfl, z1, z2, z3⟩ := z
      cases h
      exact ⟨_, _, _, _, _, rfl, z1, z2, z3, rfl⟩
    · cases h
  · cases h
theorem rel_intsV {C : Cc} {H : Hp} {S : Sto} : ∀ (l : List Int), RelDs C H S (l.map D.int) (l.map V.int)
  | [] => RelDs.nil
  | _ :: l => RelDs.cons mk_int (rel_intsV l)
def smLiV : Gc → List D → Sto → (D → Sto → Prop) → Prop := fun _ ds S k => ∃ (a : Addr) (P : List (Str × Int)), ds = [.ref a] ∧ S a = some (.dct (pairK P)) ∧ ∀ p, S p = none → k (.ref p) (put S p (.lst ((P.map (·.2)).map D.int)))
def pgLiV : Plug where
  mt := fun _ sc e => mtLiV sc e
  sem := smLiV
  mono := fun _ ds S k k' hk q => by
    obtain ⟨a, P, h1, h2, h4⟩ := q
    exact ⟨a, P, h1, h2, fun p hp => hk _ _ (h4 p hp)⟩
  snd := fun {X sc ga Z H0 S0 G x} g {e es} h ms hl hm hp => by
    obtain ⟨o, p1, ap, cp, p2, rfl, g1, hs, hln, rfl⟩ := mtLiV_inv h
    obtain ⟨m, rfl⟩ := one_es hl rfl
    have mm := hm m (by simp)
    have pe : PE X (.Call (.Name "list" p1) [.Call (.Attribute o "values" ap) [] [] cp] [] p2) (tD (cc X ga Z) H0 S0 (seqC (fun _ _ => True) [m] (smLiV G))) := by
      refine PE.imp (pe_listVals g.calm (hp 0 o m rfl rfl) (g.sck.glo g1) (g.blt .list) (boot_bf .list) (notSuper_base hs) hln rfl) fun σ H Q q => ?_
      obtain ⟨σd, S, rs, rp, ex, w⟩ := q
      refine ⟨σd, S, rs, rp, ex, mm σd S _ _ (fun u S1 q H1 v rp1 e1 r1 => ?_) w⟩
      obtain ⟨-, a, P, h1, h2, h4⟩ := q
      cases h1
      obtain ⟨ho, h6, vl, rfl, rk⟩ := rp1.obj a _ h2
      unfold RelD at r1
      subst r1
      have ek := relK_pk rk
      subst ek
      refine ⟨a, _, P.map (·.2), rfl, h6, vals_pk, fun p hp => ?_⟩
      have k1 : ∀ b o, H1 b = some o → upd H1 p (.lst ((P.map (·.2)).map V.int)) b = some o := fun b o e => by
        rw [upd_ne (fun z => by rw [z, hp] at e; cases e)]; exact e
      have k5 : upd H1 p (.lst ((P.map (·.2)).map V.int)) p = some (.lst ((P.map (·.2)).map V.int)) := upd_same ..
      have rp2 := rp1.supM k1 (m := .lst ((P.map (·.2)).map D.int)) hp k5 ⟨_, rfl, rel_intsV _⟩
      refine h4 p (rp1.free hp) _ (.ref p) rp2 (e1.trans (Ext.supM k1 hp)) ?_
      unfold RelD; rfl
    exact ⟨pe, pt_w (fun σ S k k' hk q => mm σ S _ _ (fun d S' z => by
      obtain ⟨-, a, P, h1, h2, h4⟩ := z
      exact ⟨trivial, a, P, h1, h2, fun p hp => hk _ _ (h4 p hp)⟩) q) pe rfl⟩
theorem ck_LiV {G : Gc} {S : Sto} {d : D} {k : Unit → Prop} : @ckp (pgLiV.chk G) S d ⟨k⟩ = k () := ck_t fun _ _ => trivial
end Mn
namespace Mn
open PySem L2
local macro_rules | `(tactic| walk_at "f") => `(tactic| simp only [↓p_var, ↓p_cst, ↓p_glo, ↓p_bin, ↓p_neg, ↓p_not, ↓p_cmp, ↓p_cmp2, ↓p_and, ↓p_or, ↓p_ifx, ↓p_idx, ↓p_slL, ↓p_slU, ↓p_slLU, ↓p_tup, ↓p_lstF, ↓p_lstT, ↓p_blt, ↓p_bm, ↓p_call, ↓p_lc, ↓p_att, ↓p_mth, ↓p_mk, ↓p_dct, ↓p_lck, ↓p_dcN, ↓p_lns, ↓p_plug, ↓p_nilP, ↓p_consP, ↓p_nil, ↓p_cons, ↓p_newT, ↓p_newD, ↓p_pure, ↓q_nil, ↓q_cons, ↓q_asg, ↓q_six, ↓q_aug, ↓q_exp, ↓q_ret, ↓q_ite, ↓q_for, ↓q_lck, ↓q_pas, ↓q_cont, ↓q_frS, ↓q_sat, ↓q_rai, ↓q_tri, ↓x_val, ↓x_upd, ↓x_newF, ↓bO_some, ↓brk_t, ↓brk_f, ↓bF_some, bO_some, bO_none, bO_ite, bO_iteO, bO_map, bF_some, brk_t, brk_f, p_attR, p_selR, p_satR, intO_int, tO_t, p_bool, put_put, id, Option.bind_some, ↓reduceIte, r_addRL, r_addLR, List.cons_append, List.nil_append, sl0, sm0, sl1, sm1, sl2, sm2, sl3, sm3, sl4, sm4, sl5, sm5, sl6, sm6, sl7, sm7, sl8, sm8, sl9, sm9, sl10, sm10, sl11, sm11, sl12, sm12, decide_true, decide_false, x_add, x_sub, x_addS, x_addT, x_addL, x_mul, x_mulS, x_mulL, x_div, x_mod, x_lt, x_le, x_gt, x_ge, x_eqD, x_neD, x_in, x_notIn, x_is, x_isNot, x_eqI, x_eqS, x_eqB, x_isNN, x_isBN, x_isIN, x_isSN, x_isTN, x_isLN, x_isRN, x_isBB, x_lenS, x_lenT, x_lenL, x_lenP, x_sumP, x_appP, x_appTP, x_idxP, x_frzP, x_abs, x_intI, x_intB, x_max, x_allL, x_sumL, x_listL, x_listT, x_isi, x_truB, x_truI, x_truL, x_truT, x_truN, x_idxS, x_idxL, x_idxT, x_slS, x_slT, x_slL, x_it0L, x_it0T, x_it0S, x_it0C, x_it1, x_it2L, x_nm, x_tp, x_tps, x_tp0, i_N_tuple, i_N_list, i_N_bool, i_N_int, i_N_str, i_N_tl, i_B_tuple, i_B_list, i_B_bool, i_B_int, i_B_str, i_B_tl, i_I_tuple, i_I_list, i_I_bool, i_I_int, i_I_str, i_I_tl, i_S_tuple, i_S_list, i_S_bool, i_S_int, i_S_str, i_S_tl, i_T_tuple, i_T_list, i_T_bool, i_T_int, i_T_str, i_T_tl, i_L_tuple, i_L_list, i_L_bool, i_L_int, i_L_str, i_L_tl, List.getElem?_cons_zero, List.getElem?_cons_succ, List.set_cons_zero, List.set_cons_succ, Option.bind_some, List.length_cons, List.length_nil, Nat.reduceAdd, true_and, and_true, decide_eq_true_eq, Bool.not_eq_true', decide_eq_false_iff_not, Bool.not_false, Bool.not_true, Bool.false_eq_true, Bool.true_eq_false, if_true, if_false, ite_true, ite_false, r_len, r_idx, r_in, r_get, r_getT, r_setd, r_setdT, r_app, r_appT, r_six, r_it, r_it2, r_sorted, r_list, r_dict, r_sl, r_tru, fl_held, fl_chest, fl_down, fl_clock, fl_bills, fl_done, fl_drawer, fl_drawee, fl_payee, fl_amount, fl_due, fl_slip, fl_keeper, fl_stage, fl_edition, fl_blank, lu_held, lu_chest, lu_down, lu_clock, lu_bills, lu_done, lu_drawer, lu_drawee, lu_payee, lu_amount, lu_due, lu_slip, lu_keeper, lu_stage, lu_edition, lu_blank, pf_stage, pf_keeper, pf_edition, pf_blank, pf_slip, pf_clock, len_pursesF, len_hallF, len_billF, keyOf, Option.map_some, Option.map_none, Option.bind_none, Option.getD_some, Option.getD_none, Option.isSome_some, Option.isSome_none, ex_BadName, ex_Taken, ex_BadCoins, ex_Full, ex_NoHouse, ex_NoCoins, ex_Failed, ex_Standing, ex_BadCount, ex_BadDay, ex_NoBill, ex_Void, ex_Closed, ex_Accepted, ex_Same, ex_NotBlank, ex_NotYet, ex_NotPresented, ex_Protested, ex_TooLate, ex_NotBound, ex_CantPay, ex_NotProtested, ex_IsBound, ex_Twice, gv_pk, gp_pk, len_pk, nH_need, nH_must_stand, nH_find, nH_find_copy, nH_house, nH_look_at_coins, nH_put_in, nH_take_out, nH_fail, nH_mend, nH_pass_days, nH_draw, nH_accept, nH_signed, nH_sign, nH_sign_blank, nH_hand, nH_lose, nH_can_pay, nH_present, nH_protest, nH_ask, nH_may_honour, nH_honour, nH_fair, nH_names, nH_coins, nH_stands, nH_today, nH_many_bills, nH_paper, nH_state, nH_holder, nH_copy_of, nH_in_blank, nH_row, nH_story, nH_moment, nH_twin, nB_set_out, nB_doubled, nB_must_run, nB_must_be_back, nB_taken_on, nB_take_on, nB_sign_on, nB_hand_on, nB_next_copy, nB_must_be_due, nB_protest_on, nB_open_now, nB_go_back, nB_to_itself, nP_need, nP_look_at, nP_add_purse, nP_coins, nP_fill, nP_spend, nP_pay, nP_total, nP_all_names, nP_doubled, put_same, gv_held, gv_down, len_held, len_down, s_eq, String.reduceEq, in_t2, in_t3, in_t4, in_t7, Bool.or_false, Bool.false_or, Bool.true_or, Bool.or_true, Bool.and_true, Bool.true_and, Bool.and_false, Bool.false_and, rowD_len, inR_nats, inR_strL, Int.reduceLT, Int.reduceLE, Int.reduceAdd, Int.reduceSub, Int.reduceMul, Int.reduceNeg, Int.reducePow, Int.reduceEq, Nat.reduceLeDiff, Nat.reduceLT, true_or, or_true, and_self, false_or, or_false, pw10, pw12, pw20, at0, at1, at2, at3, at4, at5, at6, at7, at8, at9, eq_self, *])
def n_Purses_total : List Str := ["self"]
def m_Purses_total : List MS := [(.ret (.plug pgSuV [(.att (.var 0) "held")]))]
def n_Purses_all_names : List Str := ["self"]
def m_Purses_all_names : List MS := [(.ret (.blt .sorted true [(.att (.var 0) "held")]))]
local macro_rules | `(tactic| walk_at "h") => `(tactic| simp only [wSs, wS, wE, wEs, wC, x_add, x_sub, x_addS, x_addT, x_addL, x_mul, x_mulS, x_mulL, x_div, x_mod, x_pow, x_lt, x_le, x_gt, x_ge, x_eqD, x_neD, x_in, x_notIn, x_is, x_isNot, x_eqI, x_eqS, x_eqB, x_isNN, x_isBN, x_isIN, x_isSN, x_isTN, x_isLN, x_isRN, x_isBB, x_lenS, x_lenT, x_lenL, x_lenP, x_sumP, x_appP, x_appTP, x_idxP, x_frzP, x_abs, x_intI, x_intB, x_max, x_allL, x_sumL, x_listL, x_listT, x_isi, x_truB, x_truI, x_truL, x_truT, x_truN, x_idxS, x_idxL, x_idxT, x_slS, x_slT, x_slL, x_it0L, x_it0T, x_it0S, x_it0C, x_it1, x_it2L, x_val, x_upd, x_newF, x_newT, x_nm, x_tp, x_tps, x_tp0, x_ite, x_iteD, x_ifD, x_some, x_some2, x_map, x_eqInt, i_N_tuple, i_N_list, i_N_bool, i_N_int, i_N_str, i_N_tl, i_B_tuple, i_B_list, i_B_bool, i_B_int, i_B_str, i_B_tl, i_I_tuple, i_I_list, i_I_bool, i_I_int, i_I_str, i_I_tl, i_S_tuple, i_S_list, i_S_bool, i_S_int, i_S_str, i_S_tl, i_T_tuple, i_T_list, i_T_bool, i_T_int, i_T_str, i_T_tl, i_L_tuple, i_L_list, i_L_bool, i_L_int, i_L_str, i_L_tl, x_pure, x_new, x_fn, List.getElem?_cons_zero, List.getElem?_cons_succ, List.set_cons_zero, List.set_cons_succ, Option.bind_some, List.length_cons, List.length_nil, Nat.reduceAdd, true_and, and_true, decide_eq_true_eq, Bool.not_eq_true', decide_eq_false_iff_not, Bool.not_false, Bool.not_true, Bool.false_eq_true, Bool.true_eq_false, if_true, if_false, ite_true, ite_false, r_len, r_idx, r_in, r_get, r_getT, r_setd, r_setdT, r_app, r_appT, r_six, r_it, r_it2, r_sorted, r_list, r_dict, r_sl, r_tru, r_newD, r_att, r_self, r_sat, r_ins, r_ins2, fl_held, fl_chest, fl_down, fl_clock, fl_bills, fl_done, fl_drawer, fl_drawee, fl_payee, fl_amount, fl_due, fl_slip, fl_keeper, fl_stage, fl_edition, fl_blank, lu_held, lu_chest, lu_down, lu_clock, lu_bills, lu_done, lu_drawer, lu_drawee, lu_payee, lu_amount, lu_due, lu_slip, lu_keeper, lu_stage, lu_edition, lu_blank, pf_stage, pf_keeper, pf_edition, pf_blank, pf_slip, pf_clock, len_pursesF, len_hallF, len_billF, keyOf, Option.map_some, Option.map_none, Option.bind_none, Option.getD_some, Option.getD_none, Option.isSome_some, Option.isSome_none, r_some2, r_aga, r_int, r_ags, r_dct, ex_BadName, ex_Taken, ex_BadCoins, ex_Full, ex_NoHouse, ex_NoCoins, ex_Failed, ex_Standing, ex_BadCount, ex_BadDay, ex_NoBill, ex_Void, ex_Closed, ex_Accepted, ex_Same, ex_NotBlank, ex_NotYet, ex_NotPresented, ex_Protested, ex_TooLate, ex_NotBound, ex_CantPay, ex_NotProtested, ex_IsBound, ex_Twice, gv_pk, gp_pk, len_pk, put_same, gv_held, gv_down, len_held, len_down, *])
theorem ok7_PNeed {G : Gc} (hf : G.fld "Purses" "held" = true) (x_NoHouse : G.exc "NoHouse" = some (1, F1 D D.str .non "NoHouse")) : BodyOk G n_Purses_need 2 m_Purses_need spPNeed := by
  rintro ds S Q X - ⟨ca, ha, p, F, n, rfl, hS, q⟩
  have h1 := pur1 hS
  have h2 := pur2 hS
  have q := Hold.mk q
  show wSs G _ m_Purses_need [some (.ref ca), some (.str n)] S _
  unfold m_Purses_need
  walk_at "h"
  obtain ⟨q⟩ := q
  cases hb : lp p n with
  | some v => simpa [hb] using q
  | none =>
    rw [hb] at q
    exact q _ exOf_F1
theorem ok7_PLook {G : Gc} (x_BadCoins : G.exc "BadCoins" = some (1, F1 D D.str .non "BadCoins")) : BodyOk G n_Purses_look_at 2 m_Purses_look_at spPLook := by
  rintro ds S Q X - ⟨u, c, rfl, q⟩
  have q := Hold.mk q
  show wSs G _ m_Purses_look_at [some u, some (.int c)] S _
  unfold m_Purses_look_at
  walk_at "h"
  obtain ⟨q⟩ := q
  by_cases hb : c < 0
  · rw [if_pos hb] at q ⊢
    exact q _ exOf_F1
  · rw [if_neg hb] at q ⊢
    exact q
theorem ok7_PAdd {G : Gc} (hf : G.fld "Purses" "held" = true) (x_Taken : G.exc "Taken" = some (1, F1 D D.str .non "Taken")) (m1 : G.mt "Purses" "look_at" = some (2, spPLook)) : BodyOk G n_Purses_add_purse 3 m_Purses_add_purse spPAdd := by
  rintro ds S Q X - ⟨ca, ha, p, F, n, c, rfl, hS, hl, q⟩
  have h1 := pur1 hS
  have h2 := pur2 hS
  have q := Hold.mk q
  have z1 := (noMeth (ha := ha)).2.1
  show wSs G _ m_Purses_add_purse [some (.ref ca), some (.str n), some (.int c)] S _
  unfold m_Purses_add_purse
  walk_at "h"
  obtain ⟨q⟩ := q
  cases hb : lp p n with
  | some v =>
    rw [hb] at q
    exact q _ exOf_F1
  | none =>
    rw [hb] at q
    rw [if_neg (by simp)] at q
    simp only [Option.map_none, Option.isSome_none, Bool.false_eq_true, if_false]
    refine cW ⟨_, c, rfl, ?_⟩
    by_cases hc : c < 0
    · rw [if_pos hc] at q ⊢
      exact q
    · rw [if_neg hc] at q ⊢
      have q := Hold.mk q
      walk_at "h"
      exact ⟨Nat.lt_trans hl (by decide), q.h _ (purU hS)⟩
theorem ok7_PCoins {G : Gc} (hf : G.fld "Purses" "held" = true) (m1 : G.mt "Purses" "need" = some (2, spPNeed)) : BodyOk G n_Purses_coins 2 m_Purses_coins spPCoins := by
  rintro ds S Q X - ⟨ca, ha, p, F, n, rfl, hS, q⟩
  have h1 := pur1 hS
  have h2 := pur2 hS
  have q := Hold.mk q
  have z1 := (noMeth (ha := ha)).1
  show wSs G _ m_Purses_coins [some (.ref ca), some (.str n)] S _
  unfold m_Purses_coins
  walk_at "h"
  obtain ⟨q⟩ := q
  refine cW ⟨ca, ha, p, F, n, rfl, hS, ?_⟩
  cases hb : lp p n with
  | none => rw [hb] at q; exact q
  | some v =>
    rw [hb] at q
    have q := Hold.mk q
    rw [if_pos (by rfl)]
    walk_at "h"
theorem ok7_PFill {G : Gc} (hf : G.fld "Purses" "held" = true) (m1 : G.mt "Purses" "need" = some (2, spPNeed)) (m2 : G.mt "Purses" "look_at" = some (2, spPLook)) : BodyOk G n_Purses_fill 3 m_Purses_fill spPFill := by
  rintro ds S Q X - ⟨ca, ha, p, F, n, c, rfl, hS, hl, q⟩
  have h1 := pur1 hS
  have h2 := pur2 hS
  have q := Hold.mk q
  have z1 := (noMeth (ha := ha)).1
  have z2 := (noMeth (ha := ha)).2.1
  show wSs G _ m_Purses_fill [some (.ref ca), some (.str n), some (.int c)] S _
  unfold m_Purses_fill
  walk_at "h"
  obtain ⟨q⟩ := q
  refine cW ⟨ca, ha, p, F, n, rfl, hS, ?_⟩
  cases hb : lp p n with
  | none => rw [hb] at q; exact q
  | some v =>
    rw [hb] at q
    have q : if c < 0 then rz "BadCoins" S X else ∀ S', Hd S' (purS ca ha (setP p n (v + c)) ++ F) → Q .non S' := q
    have q := Hold.mk q
    rw [if_pos (by rfl)]
    walk_at "h"
    obtain ⟨q⟩ := q
    refine cW ⟨_, c, rfl, ?_⟩
    by_cases hc : c < 0
    · rw [if_pos hc] at q ⊢
      exact q
    · rw [if_neg hc] at q ⊢
      have q := Hold.mk q
      walk_at "h"
      exact ⟨ha, _, _, _, rfl, h2, rfl, by rw [gv_pk, hb]; rfl, _, _, rfl, h2, by rw [len_pk]; exact Nat.lt_trans hl (by decide), by rw [gp_pk]; exact q.h _ (purU hS)⟩
theorem ok7_PSpend {G : Gc} (hf : G.fld "Purses" "held" = true) (x_NoCoins : G.exc "NoCoins" = some (1, F1 D D.str .non "NoCoins")) (m1 : G.mt "Purses" "need" = some (2, spPNeed)) (m2 : G.mt "Purses" "look_at" = some (2, spPLook)) : BodyOk G n_Purses_spend 3 m_Purses_spend spPSpend := by
  rintro ds S Q X - ⟨ca, ha, p, F, n, c, rfl, hS, hl, q⟩
  have h1 := pur1 hS
  have h2 := pur2 hS
  have q := Hold.mk q
  have z1 := (noMeth (ha := ha)).1
  have z2 := (noMeth (ha := ha)).2.1
  show wSs G _ m_Purses_spend [some (.ref ca), some (.str n), some (.int c)] S _
  unfold m_Purses_spend
  walk_at "h"
  obtain ⟨q⟩ := q
  refine cW ⟨ca, ha, p, F, n, rfl, hS, ?_⟩
  cases hb : lp p n with
  | none => rw [hb] at q; exact q
  | some v =>
    rw [hb] at q
    have q : if c < 0 then rz "BadCoins" S X else if v < c then rz "NoCoins" S X else ∀ S', Hd S' (purS ca ha (setP p n (v - c)) ++ F) → Q .non S' := q
    have q := Hold.mk q
    rw [if_pos (by rfl)]
    walk_at "h"
    obtain ⟨q⟩ := q
    refine cW ⟨_, c, rfl, ?_⟩
    by_cases hc : c < 0
    · rw [if_pos hc] at q ⊢
      exact q
    · rw [if_neg hc] at q ⊢
      have q := Hold.mk q
      walk_at "h"
      obtain ⟨q⟩ := q
      by_cases hv : v < c
      · rw [if_pos hv] at q ⊢
        exact q _ exOf_F1
      · rw [if_neg hv] at q ⊢
        exact ⟨ha, _, _, _, rfl, h2, rfl, by rw [gv_pk, hb]; rfl, _, _, rfl, h2, by rw [len_pk]; exact Nat.lt_trans hl (by decide), by rw [gp_pk]; exact q _ (purU hS)⟩
theorem ok7_PPay {G : Gc} (hf : G.fld "Purses" "held" = true) (m1 : G.mt "Purses" "need" = some (2, spPNeed)) (m2 : G.mt "Purses" "spend" = some (3, spPSpend)) (m3 : G.mt "Purses" "fill" = some (3, spPFill)) : BodyOk G n_Purses_pay 4 m_Purses_pay spPPay := by
  rintro ds S Q X - ⟨ca, ha, p, F, x, y, c, rfl, hS, hl, q⟩
  have h1 := pur1 hS
  have q := Hold.mk q
  have z1 := (noMeth (ha := ha)).1
  have z2 := (noMeth (ha := ha)).2.2.1
  have z3 := (noMeth (ha := ha)).2.2.2.1
  show wSs G _ m_Purses_pay [some (.ref ca), some (.str x), some (.str y), some (.int c)] S _
  unfold m_Purses_pay
  walk_at "h"
  obtain ⟨q⟩ := q
  refine cW ⟨ca, ha, p, F, x, rfl, hS, ?_⟩
  cases hx : lp p x with
  | none => rw [if_pos (.inl (by rw [hx]; rfl))] at q; exact q
  | some v =>
    rw [if_pos (by rfl)]
    have q := Hold.mk q
    walk_at "h"
    obtain ⟨q⟩ := q
    refine cW ⟨ca, ha, p, F, y, rfl, hS, ?_⟩
    cases hy : lp p y with
    | none => rw [if_pos (.inr (by rw [hy]; rfl))] at q; exact q
    | some w =>
      rw [if_neg (by rw [hx, hy]; simp)] at q
      have ex : lpD p x = v := by unfold lpD; rw [hx]; rfl
      rw [if_pos (by rfl)]
      have q := Hold.mk q
      walk_at "h"
      obtain ⟨q⟩ := q
      refine cW ⟨ca, ha, p, F, x, c, rfl, hS, hl, ?_⟩
      rw [hx]
      show if c < 0 then _ else _
      by_cases hc : c < 0
      · rw [if_pos hc] at q ⊢
        exact q
      · rw [if_neg hc] at q ⊢
        by_cases hv : v < c
        · rw [if_pos (by rw [ex]; exact hv)] at q
          rw [if_pos hv]
          exact q
        · rw [if_neg (by rw [ex]; exact hv)] at q
          rw [if_neg hv]
          intro S' hS'
          have h1 := pur1 hS'
          have q := Hold.mk q
          walk_at "h"
          obtain ⟨q⟩ := q
          have hy' : ∃ u, lp (setP p x (v - c)) y = some u := by
            rw [lp_setP]
            split
            · exact ⟨_, rfl⟩
            · exact ⟨w, hy⟩
          obtain ⟨u, hu⟩ := hy'
          refine cW ⟨ca, ha, setP p x (v - c), F, y, c, rfl, hS', by rw [len_setP (by rw [hx]; rfl)]; exact hl, ?_⟩
          rw [hu]
          show if c < 0 then _ else _
          rw [if_neg hc]
          intro S2 hS2
          have e : payP p x y c = setP (setP p x (v - c)) y (u + c) := by
            unfold payP
            rw [ex]
            have : lpD (setP p x (v - c)) y = u := by unfold lpD; rw [hu]; rfl
            rw [this]
          rw [← e] at hS2
          exact q S2 hS2
theorem ok7_PInit {G : Gc} (hf : G.fld "Purses" "held" = true) : BodyOk G n_Purses___init__ 1 m_Purses___init__ spPInit := by
  rintro ds S Q X - ⟨ca, L, rfl, hS, q⟩
  have h1 : S ca = some (.ins "Purses" []) := hS.get (by simp)
  have q := Hold.mk q
  show wSs G _ m_Purses___init__ [some (.ref ca)] S _
  unfold m_Purses___init__
  simp only [wSs, wS, wE]
  intro p hp
  have ne : ca ≠ p := r_new hp h1
  have h2 := hS.new hp (.dct [])
  have h3 := (Hd.upd (L1 := [_]) h2 (.ins "Purses" (pursesF p)))
  have h1' : put S p (.dct []) ca = some (.ins "Purses" []) := h2.get (by simp)
  refine ⟨_, rfl, ca, _, _, rfl, h1', ?_, by decide, q.h _ p ?_⟩
  · exact hf
  · exact h3.perm (List.Perm.swap ..)
def sumP (p : Ps) : Int := (p.map (·.2)).sum
def spPTotal : DSp := fun ds S Q X => ∃ ca ha p F, ds = [.ref ca] ∧ Hd S (purS ca ha p ++ F) ∧ Q (.int (sumP p)) S
theorem ok7_PTotal {G : Gc} (hf : G.fld "Purses" "held" = true) : BodyOk G n_Purses_total 1 m_Purses_total spPTotal := by
  rintro ds S Q X - ⟨ca, ha, p, F, rfl, hS, q⟩
  have h1 := pur1 hS
  have h2 := pur2 hS
  have q := Hold.mk q
  have ck := @ck_SuV
  show wSs G _ m_Purses_total [some (.ref ca)] S _
  unfold m_Purses_total
  walk_at "f"
  exact pg_i ⟨ha, p, rfl, h2, q.h⟩
def namesP (p : Ps) : List D := (srtS (p.map (·.1))).map .str
def OkP (p : Ps) : Prop := (p.map (·.1)).all PySem.PyData.strOk = true ∧ p.length ≤ 62
def spPNames : DSp := fun ds S Q X => ∃ ca ha p F, ds = [.ref ca] ∧ Hd S (purS ca ha p ++ F) ∧ OkP p ∧ ∀ a, S a = none → Q (.ref a) (put S a (.lst (namesP p)))
theorem ok7_PNames {G : Gc} (hf : G.fld "Purses" "held" = true) : BodyOk G n_Purses_all_names 1 m_Purses_all_names spPNames := by
  rintro ds S Q X - ⟨ca, ha, p, F, rfl, hS, ok, q⟩
  have h1 := pur1 hS
  have h2 := pur2 hS
  have e1 := ks_pk p
  have cond : (p.map (·.1)).length < 64 ∧ (p.map (·.1)).all PySem.PyData.strOk = true := ⟨by rw [List.length_map]; have := ok.2; omega, ok.1⟩
  have q := Hold.mk q
  show wSs G _ m_Purses_all_names [some (.ref ca)] S _
  unfold m_Purses_all_names
  walk_at "f"
  exact nw_i fun p hp => q.h p hp
theorem lc_map {gd : Sto → Prop} {f : D → Sto → (Option D → Sto → Prop) → Prop} {its : List D} {S : Sto} {k : List D → Sto → Prop} (F : D → D) (hlen : its.length ≤ sizeLine) (hg : gd S) (hs : ∀ d ∈ its, ∀ q : Option D → Sto → Prop, q (some (F d)) S → f d S q) (hk : k (its.map F) S) : lcLoop gd f its [] S k := by
  have gen : ∀ (l acc : List D), (∀ d ∈ l, d ∈ its) → acc.length + l.length = its.length → acc ++ l.map F = its.map F → lcLoop gd f l acc S k := by
    intro l
    induction l with
    | nil => intro acc _ _ h2; refine ⟨hg, ?_⟩; rw [List.map_nil, List.append_nil] at h2; rw [h2]; exact hk
    | cons d l ih =>
      intro acc hm h1 h2
      rw [List.length_cons] at h1
      refine ⟨hg, hs d (hm d List.mem_cons_self) _ ⟨by omega, ?_⟩⟩
      exact ih (acc ++ [F d]) (fun z hz => hm z (List.mem_cons_of_mem _ hz)) (by rw [List.length_append]; simp; omega) (by rw [List.append_assoc]; exact h2)
  exact gen its [] (fun d h => h) (by simp) rfl
def n__law_do : List Str := ["_law_purses", "_law_way", "_law_one", "_law_other", "_law_coins"]
def m__law_do : List MS := [(.ite (.cmp .Eq (.var 1) (.cst (.int 0))) [(.ret (.mth "Purses" (.var 0) "add_purse" [(.var 2), (.var 4)]))] []), (.ite (.cmp .Eq (.var 1) (.cst (.int 1))) [(.ret (.mth "Purses" (.var 0) "fill" [(.var 2), (.var 4)]))] []), (.ite (.cmp .Eq (.var 1) (.cst (.int 2))) [(.ret (.mth "Purses" (.var 0) "spend" [(.var 2), (.var 4)]))] []), (.ret (.mth "Purses" (.var 0) "pay" [(.var 2), (.var 3), (.var 4)]))]
def n__law_kinds : List Str := ["_law_purses", "_law_way", "_law_one", "_law_other", "_law_coins", "_law_kinds_here", "e"]
def b__law_kinds_1 : List MS := [(.ite (.cmp .IsNot (.call "_law_do" [(.var 0), (.var 1), (.var 2), (.var 3), (.var 4)]) (.cst .non)) [(.asg (.nm 5) (.cst (.str "answer")))] [])]
def m__law_kinds : List MS := [(.asg (.nm 5) (.cst (.str ""))), (.tri b__law_kinds_1 "HallError" (some 6) [(.asg 5 (.add (.idx (.lst [(.cst (.str "")), (.cst (.str "taken"))]) (.int (.isE "Taken"))) (.idx (.lst [(.cst (.str "")), (.cst (.str "house"))]) (.int (.isE "NoHouse"))))), (.asg 5 (.add (.add (.var 5) (.idx (.lst [(.cst (.str "")), (.cst (.str "bad"))]) (.int (.isE "BadCoins")))) (.idx (.lst [(.cst (.str "")), (.cst (.str "short"))]) (.int (.isE "NoCoins")))))]), (.ret (.var 5))]
def n__law_due : List Str := ["_law_held", "_law_way", "_law_one", "_law_other", "_law_coins"]
def m__law_due : List MS := [(.ite (.and (.cmp .Eq (.var 1) (.cst (.int 0))) (.cmp .In (.var 2) (.var 0))) [(.ret (.cst (.str "taken")))] []), (.ite (.or (.and (.cmp .Gt (.var 1) (.cst (.int 0))) (.cmp .NotIn (.var 2) (.var 0))) (.and (.cmp .Eq (.var 1) (.cst (.int 3))) (.cmp .NotIn (.var 3) (.var 0)))) [(.ret (.cst (.str "house")))] []), (.ite (.cmp .Lt (.var 4) (.cst (.int 0))) [(.ret (.cst (.str "bad")))] []), (.ret (.idx (.lst false [(.cst (.str "")), (.cst (.str "short"))]) (.blt .int false [(.and (.cmp .Gt (.var 1) (.cst (.int 1))) (.cmp .Lt (.idx (.var 0) (.var 2)) (.var 4)))])))]
def n__law_moved : List Str := ["_law_held", "_law_way", "_law_one", "_law_other", "_law_coins"]
def m__law_moved : List MS := [(.ite (.cmp .Eq (.var 1) (.cst (.int 0))) [(.six (.var 0) (.var 2) (.var 4))] [(.ite (.cmp .Eq (.var 1) (.cst (.int 1))) [(.six (.var 0) (.var 2) (.bin .Add false (.idx (.var 0) (.var 2)) (.var 4)))] [(.six (.var 0) (.var 2) (.bin .Sub false (.idx (.var 0) (.var 2)) (.var 4))), (.ite (.cmp .Eq (.var 1) (.cst (.int 3))) [(.six (.var 0) (.var 3) (.bin .Add false (.idx (.var 0) (.var 3)) (.var 4)))] [])])])]
def n__law_strange : List Str := ["_law_purses", "_law_name_here", "_law_held", "_law_refused"]
def b__law_strange_1 : List MS := [(.exp (.mth "Purses" (.var 0) "coins" [(.var 1)]))]
def m__law_strange : List MS := [(.asg (.nm 3) (.cst (.bl false))), (.tri b__law_strange_1 "NoHouse" none [(.asg 3 (.cst (.bl true)))]), (.ret (.cmp .Eq (.var 3) (.cmp .NotIn (.var 1) (.var 2))))]
def n__law_right : List Str := ["_law_purses", "_law_held", "_law_told", "_law_name_here"]
def e__law_right_1 : ME := (.call "_law_same" [(.mth "Purses" (.var 0) "coins" [(.var 3)]), (.idx (.var 1) (.var 3))])
def m__law_right : List MS := [(.asg (.nm 2) (.mth "Purses" (.var 0) "all_names" [])), (.ite (.or (.not (.call "_law_same" [(.var 2), (.blt .sorted false [(.var 1)])])) (.not (.call "_law_same" [(.mth "Purses" (.var 0) "total" []), (.blt .sum false [(.plug pgLiV [(.var 1)])])]))) [(.ret (.cst (.bl false)))] []), (.exp (.bm .append false (.var 2) [(.cst (.str "more"))])), (.ret (.blt .all false [(.lck (.lc 0 false (.nm 3) [(.var 1)] [] e__law_right_1))]))]
def K07n_law : List Str := ["_law_script", "_law_feed_here", "_law_books", "_law_models", "_law_scale", "_law_turn", "_law_at", "_law_k", "_law_way", "_law_one", "_law_other", "_law_coins", "_law_due_here", "_law_name_here"]
def K07e_law_1 : ME := (.call "_law_strange" [(.idx (.var 2) (.var 7)), (.var 13), (.idx (.var 3) (.var 7))])
def K07b_law_2 : List MS := [(.asg (.nm 6) (.bin .Add false (.cst (.int 10)) (.bin .Mult false (.cst (.int 6)) (.var 5)))), (.asg (.nm 7) (.bin .Mod false (.idx (.var 1) (.var 6)) (.cst (.int 2)))), (.asg (.nm 8) (.idx (.lst false [(.cst (.int 0)), (.cst (.int 1)), (.cst (.int 2)), (.cst (.int 3)), (.cst (.int 3))]) (.bin .Mod false (.bin .FloorDiv false (.idx (.var 1) (.var 6)) (.cst (.int 2))) (.cst (.int 5))))), (.asg (.nm 9) (.idx (.lst false [(.call "_law_name" [(.idx (.var 1) (.cst (.int 2))), (.bin .Mod false (.idx (.var 1) (.bin .Add false (.var 6) (.cst (.int 1)))) (.cst (.int 9)))]), (.cst (.str "nobody"))]) (.blt .int false [(.cmp .Eq (.bin .Mod false (.bin .FloorDiv false (.idx (.var 1) (.bin .Add false (.var 6) (.cst (.int 1)))) (.cst (.int 9))) (.cst (.int 12))) (.cst (.int 5)))]))), (.asg (.nm 10) (.idx (.lst false [(.call "_law_name" [(.idx (.var 1) (.cst (.int 2))), (.bin .Mod false (.idx (.var 1) (.bin .Add false (.var 6) (.cst (.int 2)))) (.cst (.int 9)))]), (.cst (.str "nobody")), (.var 9)]) (.idx (.lst false [(.cst (.int 0)), (.cst (.int 0)), (.cst (.int 0)), (.cst (.int 0)), (.cst (.int 0)), (.cst (.int 0)), (.cst (.int 1)), (.cst (.int 2))]) (.bin .Mod false (.bin .FloorDiv false (.idx (.var 1) (.bin .Add false (.var 6) (.cst (.int 2)))) (.cst (.int 9))) (.cst (.int 8)))))), (.asg (.nm 11) (.bin .Mult false (.var 4) (.bin .Sub false (.bin .Mod false (.idx (.var 1) (.bin .Add false (.var 6) (.cst (.int 3)))) (.cst (.int 64))) (.cst (.int 3))))), (.asg (.nm 12) (.call "_law_due" [(.idx (.var 3) (.var 7)), (.var 8), (.var 9), (.var 10), (.var 11)])), (.ite (.cmp .NotEq (.call "_law_kinds" [(.idx (.var 2) (.var 7)), (.var 8), (.var 9), (.var 10), (.var 11)]) (.var 12)) [(.ret (.cst (.bl false)))] []), (.ite (.cmp .Eq (.var 12) (.cst (.str ""))) [(.exp (.call "_law_moved" [(.idx (.var 3) (.var 7)), (.var 8), (.var 9), (.var 10), (.var 11)]))] []), (.ite (.not (.blt .all false [(.lc 0 false (.nm 13) [(.tup [(.var 9), (.var 10), (.cst (.str "nobody")), (.cst (.str ""))])] [] K07e_law_1)])) [(.ret (.cst (.bl false)))] []), (.ite (.or (.not (.call "_law_right" [(.idx (.var 2) (.cst (.int 0))), (.idx (.var 3) (.cst (.int 0)))])) (.not (.call "_law_right" [(.idx (.var 2) (.cst (.int 1))), (.idx (.var 3) (.cst (.int 1)))]))) [(.ret (.cst (.bl false)))] [])]
def K07m_law : List MS := [(.asg (.nm 1) (.call "_law_feed" [(.var 0)])), (.asg (.nm 2) (.lst false [(.mk "Purses" []), (.mk "Purses" [])])), (.asg (.nm 3) (.lst false [(.dct []), (.dct [])])), (.asg (.nm 4) (.idx (.lst false [(.cst (.int 1)), (.cst (.int 1)), (.bin .Pow false (.cst (.int 10)) (.cst (.int 9)))]) (.bin .Mod false (.idx (.var 1) (.cst (.int 1))) (.cst (.int 3))))), (.for_ 1 (.nm 5) [(.bin .Mod false (.idx (.var 1) (.cst (.int 0))) (.cst (.int 31)))] K07b_law_2), (.ret (.cst (.bl true)))]
def x7 : Xc := ⟨["Taken", "BadCoins", "NoHouse", "NoCoins"], false⟩
def w7 (P : Ps) (w : Int) (a b : Str) (c : Int) : Str := if w = 0 ∧ (lp P a).isSome = true then "taken" else if (0 < w ∧ (lp P a).isSome = false) ∨ (w = 3 ∧ (lp P b).isSome = false) then "house" else if c < 0 then "bad" else if 1 < w ∧ lpD P a < c then "short" else ""
def m7 (P : Ps) (w : Int) (a b : Str) (c : Int) : Ps := if w = 0 then setP P a c else if w = 1 then setP P a (lpD P a + c) else if w = 2 then setP P a (lpD P a - c) else payP P a b c
def spDo7 : DSp := fun ds S Q X => ∃ ca ha P F w a b c, ds = [.ref ca, .int w, .str a, .str b, .int c] ∧ Hd S (purS ca ha P ++ F) ∧ P.length < 1000 ∧ 0 ≤ w ∧ w ≤ 3 ∧
  if w = 0 ∧ (lp P a).isSome = true then rz "Taken" S X else if (0 < w ∧ (lp P a).isSome = false) ∨ (w = 3 ∧ (lp P b).isSome = false) then rz "NoHouse" S X else if c < 0 then rz "BadCoins" S X else if 1 < w ∧ lpD P a < c then rz "NoCoins" S X else ∀ S', Hd S' (purS ca ha (m7 P w a b c) ++ F) → Q .non S'
theorem ok_Do7 {G : Gc} (m1 : G.mt "Purses" "add_purse" = some (3, spPAdd)) (m2 : G.mt "Purses" "fill" = some (3, spPFill)) (m3 : G.mt "Purses" "spend" = some (3, spPSpend)) (m4 : G.mt "Purses" "pay" = some (4, spPPay)) : BodyOk G n__law_do 5 m__law_do spDo7 := by
  rintro ds S Q X - ⟨ca, ha, P, F, w, a, b, c, rfl, hS, hl, w0, w3, q⟩
  have h1 := pur1 hS
  show wSs G _ m__law_do [some (.ref ca), some (.int w), some (.str a), some (.str b), some (.int c)] S _
  unfold m__law_do
  have hw : w = 0 ∨ w = 1 ∨ w = 2 ∨ w = 3 := by omega
  clear w0 w3
  rcases hw with rfl | rfl | rfl | rfl
  · have q' : if (lp P a).isSome = true then rz "Taken" S X else if c < 0 then rz "BadCoins" S X else ∀ S', Hd S' (purS ca ha (setP P a c) ++ F) → Q .non S' := by
      by_cases h : (lp P a).isSome = true
      · rw [if_pos ⟨rfl, h⟩] at q; rw [if_pos h]; exact q
      · rw [if_neg (fun z => h z.2), if_neg (by omega)] at q; rw [if_neg h]
        by_cases hc : c < 0
        · rw [if_pos hc] at q ⊢; exact q
        · rw [if_neg hc, if_neg (by omega)] at q; rw [if_neg hc]; exact q
    clear q
    replace q' := Hold.mk q'
    walk_at "f"
    exact cw_i ⟨ca, ha, P, F, a, c, rfl, hS, hl, q'.h⟩
  · have q' : match lp P a with
        | none => rz "NoHouse" S X
        | some v => if c < 0 then rz "BadCoins" S X else ∀ S', Hd S' (purS ca ha (setP P a (v + c)) ++ F) → Q .non S' := by
      rw [if_neg (by omega)] at q
      cases h : lp P a with
      | none => rw [h, if_pos (.inl ⟨by decide, rfl⟩)] at q; exact q
      | some v =>
        have e : lpD P a = v := by unfold lpD; rw [h]; rfl
        rw [h, if_neg (by rintro (⟨_, z⟩ | ⟨z, _⟩) <;> revert z <;> simp)] at q
        show if c < 0 then _ else _
        by_cases hc : c < 0
        · rw [if_pos hc] at q ⊢; exact q
        · rw [if_neg hc, if_neg (by omega)] at q; rw [if_neg hc]
          unfold m7 at q
          rw [if_neg (by decide), if_pos rfl, e] at q
          exact q
    clear q
    replace q' := Hold.mk q'
    walk_at "f"
    exact cw_i ⟨ca, ha, P, F, a, c, rfl, hS, hl, q'.h⟩
  · have q' : match lp P a with
        | none => rz "NoHouse" S X
        | some v => if c < 0 then rz "BadCoins" S X else if v < c then rz "NoCoins" S X else ∀ S', Hd S' (purS ca ha (setP P a (v - c)) ++ F) → Q .non S' := by
      rw [if_neg (by omega)] at q
      cases h : lp P a with
      | none => rw [h, if_pos (.inl ⟨by decide, rfl⟩)] at q; exact q
      | some v =>
        have e : lpD P a = v := by unfold lpD; rw [h]; rfl
        rw [h, if_neg (by rintro (⟨_, z⟩ | ⟨z, _⟩) <;> revert z <;> simp)] at q
        show if c < 0 then _ else _
        by_cases hc : c < 0
        · rw [if_pos hc] at q ⊢; exact q
        · rw [if_neg hc] at q ⊢
          by_cases hv : v < c
          · rw [if_pos ⟨by decide, by rw [e]; exact hv⟩] at q; rw [if_pos hv]; exact q
          · rw [if_neg (fun z => hv (by rw [← e]; exact z.2))] at q; rw [if_neg hv]
            unfold m7 at q
            rw [if_neg (by decide), if_neg (by decide), if_pos rfl, e] at q
            exact q
    clear q
    replace q' := Hold.mk q'
    walk_at "f"
    exact cw_i ⟨ca, ha, P, F, a, c, rfl, hS, hl, q'.h⟩
  · have q' : if (lp P a).isSome = false ∨ (lp P b).isSome = false then rz "NoHouse" S X else if c < 0 then rz "BadCoins" S X else if lpD P a < c then rz "NoCoins" S X else ∀ S', Hd S' (purS ca ha (payP P a b c) ++ F) → Q .non S' := by
      rw [if_neg (by omega)] at q
      by_cases h : (lp P a).isSome = false ∨ (lp P b).isSome = false
      · rw [if_pos (by rcases h with h | h; exact .inl ⟨by decide, h⟩; exact .inr ⟨rfl, h⟩)] at q; rw [if_pos h]; exact q
      · rw [if_neg (by rintro (z | z); exact h (.inl z.2); exact h (.inr z.2))] at q; rw [if_neg h]
        by_cases hc : c < 0
        · rw [if_pos hc] at q ⊢; exact q
        · rw [if_neg hc] at q ⊢
          by_cases hv : lpD P a < c
          · rw [if_pos ⟨by decide, hv⟩] at q; rw [if_pos hv]; exact q
          · rw [if_neg (fun z => hv z.2)] at q; rw [if_neg hv]
            unfold m7 at q
            rw [if_neg (by decide), if_neg (by decide), if_neg (by decide)] at q
            exact q
    clear q
    replace q' := Hold.mk q'
    walk_at "f"
    exact cw_i ⟨ca, ha, P, F, a, b, c, rfl, hS, hl, q'.h⟩
def q7 : List QS := [(.asg 5 (.add (.idx (.lst [(.cst (.str "")), (.cst (.str "taken"))]) (.int (.isE "Taken"))) (.idx (.lst [(.cst (.str "")), (.cst (.str "house"))]) (.int (.isE "NoHouse"))))), (.asg 5 (.add (.add (.var 5) (.idx (.lst [(.cst (.str "")), (.cst (.str "bad"))]) (.int (.isE "BadCoins")))) (.idx (.lst [(.cst (.str "")), (.cst (.str "short"))]) (.int (.isE "NoCoins")))))]
def u7 (c : Str) : Str := if c = "Taken" then "taken" else if c = "NoHouse" then "house" else if c = "BadCoins" then "bad" else "short"
theorem sub7 {G : Gc} (hs : G.sub = subP x7) : ∀ c ∈ x7.xs, ∀ c' ∈ x7.xs, G.sub c c' = some (decide (c = c')) := by
  rw [hs]; decide +kernel
theorem sub7t {G : Gc} (hs : G.sub = subP x7) : ∀ c ∈ x7.xs, G.sub c "HallError" = some true := by
  rw [hs]; decide +kernel
theorem kinds7 {G : Gc} {e : Exc} {a b c d f v : Option D} {w : Str} (hs : G.sub = subP x7) (hw : w ∈ x7.xs) (he : e.cls = w) : exQs G e q7 [a, b, c, d, f, v, none] = some ([a, b, c, d, f, some (.str (u7 w)), none], none) := by
  have s0 := sub7 hs w hw "Taken" (by decide +kernel)
  have s1 := sub7 hs w hw "NoHouse" (by decide +kernel)
  have s2 := sub7 hs w hw "BadCoins" (by decide +kernel)
  have s3 := sub7 hs w hw "NoCoins" (by decide +kernel)
  have l2 : (2 ≤ sizeLine) = True := eq_true (by decide)
  have l1 : (1 ≤ sizeLine) = True := eq_true (by decide)
  have l0 : (0 ≤ sizeLine) = True := eq_true (by decide)
  have hw' : w = "Taken" ∨ w = "BadCoins" ∨ w = "NoHouse" ∨ w = "NoCoins" := by simpa [x7] using hw
  unfold q7
  simp only [exQs, exQ, evQ, evQs, he, s0, s1, s2, s3, Option.map_some, g?, List.length_cons, List.length_nil, Nat.reduceAdd, l2, l1, l0, if_true]
  rcases hw' with rfl | rfl | rfl | rfl <;> kernel_rfl
def spKinds7 : DSp := fun ds S Q X => ∃ ca ha P F w a b c, ds = [.ref ca, .int w, .str a, .str b, .int c] ∧ Hd S (purS ca ha P ++ F) ∧ P.length < 1000 ∧ 0 ≤ w ∧ w ≤ 3 ∧
  (w7 P w a b c ≠ "" → Q (.str (w7 P w a b c)) S) ∧ (w7 P w a b c = "" → ∀ S', Hd S' (purS ca ha (m7 P w a b c) ++ F) → Q (.str "") S')
theorem ok_Kinds7 {G : Gc} (hs : G.sub = subP x7) (f1 : G.fn "_law_do" = some (5, spDo7)) : BodyOk G n__law_kinds 5 m__law_kinds spKinds7 := by
  rintro ds S Q X - ⟨ca, ha, P, F, w, a, b, c, rfl, hS, hl, w0, w3, z1, z2⟩
  have st : G.sub "HallError" "HallError" = some true := by rw [hs]; decide +kernel
  have fin : ∀ (S' : Sto) (v : D) , Q v S' → wSs G (fun e _ S' => X e S') (m__law_kinds.drop 2) [some (.ref ca), some (.int w), some (.str a), some (.str b), some (.int c), some v, none] S' { nx := fun _ S' => Q .non S', rt := Q } := by
    intro S' v h
    show wSs G _ [_] _ _ _
    walk_at "f"
  replace fin := Hold.mk fin
  have exc : ∀ (e : Exc) (cl : Str), cl ∈ x7.xs → ExOf cl e → Q (.str (u7 cl)) S → catch_ G (fun e _ S' => X e S') "HallError" (some 6) q7 { nx := fun σ' S' => wSs G (fun e _ S' => X e S') (m__law_kinds.drop 2) σ' S' { nx := fun _ S' => Q .non S', rt := Q }, rt := Q } e [some (.ref ca), some (.int w), some (.str a), some (.str b), some (.int c), some (.str ""), none] S := by
    intro e cl hc ⟨ec, _⟩ hq
    refine ⟨(by decide : 6 < 7), true, ?_, ?_⟩
    · rw [ec]; exact sub7t hs cl hc
    · rw [if_pos rfl]
      exact ⟨_, kinds7 hs hc ec, fin.h _ _ hq⟩
  replace exc := Hold.mk exc
  have z1 := Hold.mk z1
  have z2 := Hold.mk z2
  show wSs G _ (_ :: .tri b__law_kinds_1 "HallError" (some 6) q7 :: m__law_kinds.drop 2) [some (.ref ca), some (.int w), some (.str a), some (.str b), some (.int c), none, none] S _
  generalize m__law_kinds.drop 2 = R at fin exc ⊢
  generalize q7 = qs at exc ⊢
  walk_at "f"
  unfold b__law_kinds_1
  walk_at "f"
  refine cw_i ⟨ca, ha, P, F, w, a, b, c, rfl, hS, hl, w0, w3, ?_⟩
  have n1 : (Str.ofString "taken") ≠ "" := by decide +kernel
  have n2 : (Str.ofString "house") ≠ "" := by decide +kernel
  have n3 : (Str.ofString "bad") ≠ "" := by decide +kernel
  have n4 : (Str.ofString "short") ≠ "" := by decide +kernel
  by_cases c1 : w = 0 ∧ (lp P a).isSome = true
  · rw [if_pos c1]
    have e : w7 P w a b c = "taken" := by unfold w7; rw [if_pos c1]
    exact fun ex he => exc.h ex "Taken" (by decide +kernel) he (by have := z1.h (by rw [e]; exact n1); rw [e] at this; exact this)
  · rw [if_neg c1]
    by_cases c2 : (0 < w ∧ (lp P a).isSome = false) ∨ (w = 3 ∧ (lp P b).isSome = false)
    · rw [if_pos c2]
      have e : w7 P w a b c = "house" := by unfold w7; rw [if_neg c1, if_pos c2]
      exact fun ex he => exc.h ex "NoHouse" (by decide +kernel) he (by have := z1.h (by rw [e]; exact n2); rw [e] at this; exact this)
    · rw [if_neg c2]
      by_cases c3 : c < 0
      · rw [if_pos c3]
        have e : w7 P w a b c = "bad" := by unfold w7; rw [if_neg c1, if_neg c2, if_pos c3]
        exact fun ex he => exc.h ex "BadCoins" (by decide +kernel) he (by have := z1.h (by rw [e]; exact n3); rw [e] at this; exact this)
      · rw [if_neg c3]
        by_cases c4 : 1 < w ∧ lpD P a < c
        · rw [if_pos c4]
          have e : w7 P w a b c = "short" := by unfold w7; rw [if_neg c1, if_neg c2, if_neg c3, if_pos c4]
          exact fun ex he => exc.h ex "NoCoins" (by decide +kernel) he (by have := z1.h (by rw [e]; exact n4); rw [e] at this; exact this)
        · rw [if_neg c4]
          have e : w7 P w a b c = "" := by unfold w7; rw [if_neg c1, if_neg c2, if_neg c3, if_neg c4]
          intro S' hS'
          have q := Hold.mk (fin.h _ _ (z2.h e S' hS'))
          walk_at "f"
          exact q.h
def spDue7 : DSp := fun ds S Q X => ∃ d P w a b c, ds = [.ref d, .int w, .str a, .str b, .int c] ∧ S d = some (.dct (pkD P)) ∧ 0 ≤ w ∧ w ≤ 3 ∧ Q (.str (w7 P w a b c)) S
theorem ok_Due7 {G : Gc} : BodyOk G n__law_due 5 m__law_due spDue7 := by
  rintro ds S Q X - ⟨d, P, w, a, b, c, rfl, hd, w0, w3, q⟩
  have ea := any_pk P a
  have eb := any_pk P b
  unfold w7 lpD at q
  show wSs G _ m__law_due [some (.ref d), some (.int w), some (.str a), some (.str b), some (.int c)] S _
  unfold m__law_due
  have hw : w = 0 ∨ w = 1 ∨ w = 2 ∨ w = 3 := by omega
  clear w0 w3
  cases ha : lp P a with
  | none =>
    rw [ha] at q ea
    cases hb : lp P b with
    | none =>
      rw [hb] at q eb
      by_cases hc : c < 0
      all_goals
        replace q := Hold.mk q
        rcases hw with rfl | rfl | rfl | rfl
        all_goals
          walk_at "f"
          simpa [hc] using q.h
    | some u =>
      rw [hb] at q eb
      by_cases hc : c < 0
      all_goals
        replace q := Hold.mk q
        rcases hw with rfl | rfl | rfl | rfl
        all_goals
          walk_at "f"
          simpa [hc] using q.h
  | some v =>
    rw [ha] at q ea
    cases hb : lp P b with
    | none =>
      rw [hb] at q eb
      by_cases hc : c < 0
      all_goals
        by_cases hv : v < c
        all_goals
          replace q := Hold.mk q
          rcases hw with rfl | rfl | rfl | rfl
          all_goals
            walk_at "f"
            simpa [hc, hv] using q.h
    | some u =>
      rw [hb] at q eb
      by_cases hc : c < 0
      all_goals
        by_cases hv : v < c
        all_goals
          replace q := Hold.mk q
          rcases hw with rfl | rfl | rfl | rfl
          all_goals
            walk_at "f"
            simpa [hc, hv] using q.h
def spMoved7 : DSp := fun ds S Q X => ∃ d P w a b c, ds = [.ref d, .int w, .str a, .str b, .int c] ∧ S d = some (.dct (pkD P)) ∧ P.length < 1000 ∧ 0 ≤ w ∧ w ≤ 3 ∧ w7 P w a b c = "" ∧ Q .non (put S d (.dct (pkD (m7 P w a b c))))
theorem ok_Moved7 {G : Gc} : BodyOk G n__law_moved 5 m__law_moved spMoved7 := by
  rintro ds S Q X - ⟨d, P, w, a, b, c, rfl, hd, hl, w0, w3, e, q⟩
  have hz : (P.length < sizeLine) = True := eq_true (Nat.lt_trans hl (by decide))
  have n1 : (Str.ofString "taken") ≠ "" := by decide +kernel
  have n2 : (Str.ofString "house") ≠ "" := by decide +kernel
  unfold w7 at e
  by_cases c1 : w = 0 ∧ (lp P a).isSome = true
  · rw [if_pos c1] at e; exact absurd e n1
  rw [if_neg c1] at e
  by_cases c2 : (0 < w ∧ (lp P a).isSome = false) ∨ (w = 3 ∧ (lp P b).isSome = false)
  · rw [if_pos c2] at e; exact absurd e n2
  clear e
  show wSs G _ m__law_moved [some (.ref d), some (.int w), some (.str a), some (.str b), some (.int c)] S _
  unfold m__law_moved
  have hw : w = 0 ∨ w = 1 ∨ w = 2 ∨ w = 3 := by omega
  unfold m7 at q
  have pos : 0 < w → ∃ v, lp P a = some v := fun h => by
    cases ha : lp P a with
    | some v => exact ⟨v, rfl⟩
    | none => exact absurd (.inl ⟨h, by rw [ha]; rfl⟩) c2
  have pos2 : w = 3 → ∃ v, lp P b = some v := fun h => by
    cases hb : lp P b with
    | some v => exact ⟨v, rfl⟩
    | none => exact absurd (.inr ⟨h, by rw [hb]; rfl⟩) c2
  clear c1 c2 w0 w3
  rcases hw with rfl | rfl | rfl | rfl
  · clear pos pos2
    replace q := Hold.mk q
    walk_at "f"
    simpa using q.h
  · obtain ⟨v, hv⟩ := pos (by decide)
    have el : lpD P a = v := by unfold lpD; rw [hv]; rfl
    clear pos pos2
    rw [el] at q
    replace q := Hold.mk q
    walk_at "f"
    simpa using q.h
  · obtain ⟨v, hv⟩ := pos (by decide)
    have el : lpD P a = v := by unfold lpD; rw [hv]; rfl
    clear pos pos2
    rw [el] at q
    replace q := Hold.mk q
    walk_at "f"
    simpa using q.h
  · obtain ⟨v, hv⟩ := pos (by decide)
    obtain ⟨u, hu⟩ := pos2 rfl
    have el : lpD P a = v := by unfold lpD; rw [hv]; rfl
    clear pos pos2
    have e2 : ∃ u', lp (setP P a (v - c)) b = some u' := by
      rw [lp_setP]; split
      · exact ⟨_, rfl⟩
      · exact ⟨u, hu⟩
    obtain ⟨u', hu'⟩ := e2
    have el2 : lpD (setP P a (v - c)) b = u' := by unfold lpD; rw [hu']; rfl
    have hz2 : ((setP P a (v - c)).length < sizeLine) = True := by rw [len_setP (by rw [hv]; rfl)]; exact hz
    unfold payP at q
    rw [el, el2] at q
    replace q := Hold.mk q
    walk_at "f"
    simpa using q.h
def spStrange7 : DSp := fun ds S Q X => ∃ ca ha P F d n, ds = [.ref ca, .str n, .ref d] ∧ Hd S (purS ca ha P ++ F) ∧ S d = some (.dct (pkD P)) ∧ Q (.bl true) S
theorem ok_Strange7 {G : Gc} (hs : G.sub = subP x7) (m1 : G.mt "Purses" "coins" = some (2, spPCoins)) : BodyOk G n__law_strange 3 m__law_strange spStrange7 := by
  rintro ds S Q X - ⟨ca, ha, P, F, d, n, rfl, hS, hd, q⟩
  have st : G.sub "NoHouse" "NoHouse" = some true := by rw [hs]; decide +kernel
  have en := any_pk P n
  have h1 := pur1 hS
  have fin : ∀ (v : Bool) , v = !(lp P n).isSome → wSs G (fun e _ S' => X e S') (m__law_strange.drop 2) [some (.ref ca), some (.str n), some (.ref d), some (.bl v)] S { nx := fun _ S' => Q .non S', rt := Q } := by
    intro v h
    replace q := Hold.mk q
    show wSs G _ [_] _ _ _
    cases hb : lp P n with
    | none =>
      rw [hb] at en h
      replace h : v = true := h
      subst h
      walk_at "f"
      exact q.h
    | some u =>
      rw [hb] at en h
      replace h : v = false := h
      subst h
      walk_at "f"
      exact q.h
  replace fin := Hold.mk fin
  show wSs G _ (_ :: .tri b__law_strange_1 "NoHouse" none [(.asg 3 (.cst (.bl true)))] :: m__law_strange.drop 2) [some (.ref ca), some (.str n), some (.ref d), none] S _
  generalize m__law_strange.drop 2 = R at fin ⊢
  walk_at "f"
  unfold b__law_strange_1
  walk_at "f"
  refine cw_i ⟨ca, ha, P, F, n, rfl, hS, ?_⟩
  cases hb : lp P n with
  | some v =>
    have f := Hold.mk (fin.h false (by rw [hb]; rfl))
    walk_at "f"
    exact f.h
  | none =>
    intro e ⟨ec, _⟩
    have f := fin.h true (by rw [hb]; rfl)
    refine ⟨trivial, true, ?_, ?_⟩
    · rw [ec]; exact st
    · rw [if_pos rfl]
      exact ⟨_, rfl, f⟩
theorem strsV (S : Sto) : ∀ l : List Str, Vws S (l.map .str) (l.map .str)
  | [] => vNil
  | _ :: l => vCons vStr (strsV S l)
theorem sumI_k7 : ∀ l : List Int, sumI (l.map .int) = some l.sum
  | [] => rfl
  | x :: l => by
    show (sumI (l.map .int)).map (x + ·) = some _
    rw [sumI_k7 l, List.sum_cons]; rfl
theorem put_back7 {S : Sto} {a : Addr} {m m' : MO} (h : S a = some m) : put (put S a m') a m = S := by
  funext b
  unfold put
  split
  · rename_i e; rw [e, h]
  · rfl
theorem all_k7 (S : Sto) : ∀ l : List D, allB S (l.map fun _ => .bl true) = some true
  | [] => rfl
  | d :: l => by
    show (match allB S (l.map fun _ => .bl true) with | some c => some (true && c) | none => none) = _
    rw [all_k7 S l]; rfl
theorem ks_it : ∀ (P : Ps), (P.map (·.1)).all PySem.PyData.strOk = true → ((pkD P).all fun kv => kOk kv.1) = true
  | [], _ => rfl
  | q :: P, h => by
    rw [List.map_cons, List.all_cons] at h
    obtain ⟨h1, h2⟩ := Bool.and_eq_true_iff.mp h
    show ((pkD (q :: P)).all fun kv => kOk kv.1) = true
    show (kOk (.inr q.1) && (pkD P).all fun kv => kOk kv.1) = true
    rw [ks_it P h2, Bool.and_true]
    exact h1
theorem key_it (P : Ps) : (pkD P).map (fun kv => keyD kv.1) = (P.map (·.1)).map D.str := by
  unfold pkD
  rw [List.map_map, List.map_map]; rfl
theorem lp_mem : ∀ {P : Ps} {n : Str}, n ∈ P.map (·.1) → ∃ v, lp P n = some v
  | q :: P, n, h => by
    rw [lp_cons]
    by_cases e : q.1 = n
    · exact ⟨_, if_pos e⟩
    · rw [if_neg e]
      rw [List.map_cons] at h
      exact lp_mem ((List.mem_cons.mp h).resolve_left fun z => e z.symm)
def spRight7 : DSp := fun ds S Q X => ∃ ca ha P F d, ds = [.ref ca, .ref d] ∧ Hd S (purS ca ha P ++ (d, .dct (pkD P)) :: F) ∧ OkP P ∧ ∀ S', Spr S S' → Q (.bl true) S'
theorem ok_Right7 {G : Gc} (m1 : G.mt "Purses" "coins" = some (2, spPCoins)) (m2 : G.mt "Purses" "total" = some (1, spPTotal)) (m3 : G.mt "Purses" "all_names" = some (1, spPNames)) (f1 : G.fn "_law_same" = some (2, spSameV 3)) : BodyOk G n__law_right 2 m__law_right spRight7 := by
  rintro ds S Q X - ⟨ca, ha, P, F, d, rfl, hS, ok, q⟩
  replace q := Hold.mk q
  have h1 := pur1 hS
  have ck := @ck_LiV
  show wSs G _ m__law_right [some (.ref ca), some (.ref d), none, none] S _
  unfold m__law_right
  walk_at "f"
  refine cw_i ⟨ca, ha, P, _, rfl, hS, ok, fun p1 hp1 => ?_⟩
  have hS1 := hS.new hp1 (.lst (namesP P))
  have s1 : Spr S (put S p1 (.lst (namesP P))) := (Spr.refl S).put hp1
  have t1 : put S p1 (.lst (namesP P)) p1 = some (.lst (namesP P)) := put_same
  generalize put S p1 (.lst (namesP P)) = S1 at hS1 s1 t1 ⊢
  have hd1 : S1 d = some (.dct (pkD P)) := hS1.get (by simp)
  have h1 : S1 ca = some (.ins "Purses" (pursesF ha)) := s1 _ _ h1
  have e1 := ks_pk P
  have cond : (P.map (·.1)).length < 64 ∧ (P.map (·.1)).all PySem.PyData.strOk = true := ⟨by rw [List.length_map]; have := ok.2; omega, ok.1⟩
  walk_at "f"
  refine cw_i ⟨_, _, .lst (namesP P), rfl, vRef t1 (strsV _ _), vLst (strsV _ _), ?_, ?_⟩
  · unfold dSmall
    exact ⟨by unfold namesP; rw [List.length_map, srtS_len, List.length_map]; have := ok.2; omega, strs_small _ _⟩
  have hS1' : Hd S1 (purS ca ha P ++ (p1, MO.lst (namesP P)) :: (d, .dct (pkD P)) :: F) := hS1.perm List.perm_middle.symm
  walk_at "f"
  refine cw_i ⟨ca, ha, P, _, rfl, hS1', ?_⟩
  walk_at "f"
  refine pg_i ⟨d, P, rfl, hd1, fun p2 hp2 => ?_⟩
  have hS2 := hS1'.new hp2 (.lst ((P.map (·.2)).map D.int))
  have s2 : Spr S1 (put S1 p2 (.lst ((P.map (·.2)).map D.int))) := (Spr.refl S1).put hp2
  have t2 : put S1 p2 (.lst ((P.map (·.2)).map D.int)) p2 = some (.lst ((P.map (·.2)).map D.int)) := put_same
  generalize put S1 p2 (.lst ((P.map (·.2)).map D.int)) = S2 at hS2 s2 t2 ⊢
  have e2 : bltR .sum [.ref p2] S2 = some (.val (.int (sumP P))) := by rw [x_sumR t2, sumI_k7]; rfl
  have t21 : S2 p1 = some (.lst (namesP P)) := s2 _ _ t1
  have nl : (namesP P).length < sizeLine := by unfold namesP; rw [List.length_map, srtS_len, List.length_map]; exact Nat.lt_of_le_of_lt ok.2 (by decide)
  have hd2 : S2 d = some (.dct (pkD P)) := hS2.get (by simp)
  walk_at "f"
  refine cw_i ⟨_, _, .int (sumP P), rfl, vInt, vInt, by simp [dSmall], ?_⟩
  walk_at "f"
  have dp1 : d ≠ p1 := fun z => by rw [z, t21] at hd2; cases hd2
  have hS3 : Hd (put S2 p1 (.lst (namesP P ++ [.str "more"]))) ((p2, MO.lst ((P.map (·.2)).map D.int)) :: purS ca ha P ++ (p1, MO.lst (namesP P ++ [.str "more"])) :: (d, .dct (pkD P)) :: F) := Hd.upd (L1 := (p2, MO.lst ((P.map (·.2)).map D.int)) :: purS ca ha P) hS2 _
  have s3 : Spr S (put S2 p1 (.lst (namesP P ++ [.str "more"]))) := (s1.trans s2).put hp1
  have hd3 : put S2 p1 (.lst (namesP P ++ [.str "more"])) d = some (.dct (pkD P)) := hS3.get (by simp)
  generalize put S2 p1 (.lst (namesP P ++ [.str "more"])) = S3 at hS3 s3 hd3 ⊢
  refine lk_i d (pkD P) hd3 fun o ks => ?_
  have back : put (put S3 d (.ldc o ks (pkD P))) d (.dct (pkD P)) = S3 := put_back7 hd3
  have hS4 : Hd (put S3 d (.ldc o ks (pkD P))) ((p2, MO.lst ((P.map (·.2)).map D.int)) :: purS ca ha P ++ (p1, MO.lst (namesP P ++ [.str "more"])) :: (d, .ldc o ks (pkD P)) :: F) := by
    have := Hd.upd (L1 := (p2, MO.lst ((P.map (·.2)).map D.int)) :: purS ca ha P ++ [(p1, MO.lst (namesP P ++ [.str "more"]))]) (a := d) (m := .dct (pkD P)) (L2 := F) (S := S3) (by simpa using hS3) (.ldc o ks (pkD P))
    simpa using this
  have hd4 : put S3 d (.ldc o ks (pkD P)) d = some (.ldc o ks (pkD P)) := put_same
  generalize put S3 d (.ldc o ks (pkD P)) = S4 at hS4 hd4 back ⊢
  have hP4 : Hd S4 (purS ca ha P ++ ((p2, MO.lst ((P.map (·.2)).map D.int)) :: (p1, MO.lst (namesP P ++ [.str "more"])) :: (d, .ldc o ks (pkD P)) :: F)) := hS4.perm List.perm_middle.symm
  have ki := key_it P
  have kk := ks_it P ok.1
  have h1 : S4 ca = some (.ins "Purses" (pursesF ha)) := pur1 hP4
  have fin := Hold.mk (q.h S3 s3)
  clear hS1 hS1' hS2 hS3 hS4 hd1 hd2 hd3 t1 t2 t21 e1 e2 cond nl dp1 hp1 hp2 s1 s2 s3 q
  walk_at "f"
  refine lc_i (lc_map (fun _ => .bl true) (by rw [List.length_map, List.length_map]; exact Nat.le_trans ok.2 (by decide)) hd4 ?_ ?_)
  · intro z hz q' hq
    obtain ⟨n, hn, rfl⟩ := List.mem_map.mp hz
    obtain ⟨v, hv⟩ := lp_mem hn
    replace hq := Hold.mk hq
    refine ⟨_, rfl, ?_⟩
    unfold e__law_right_1
    rw [wC]
    walk_at "f"
    refine cw_i ⟨ca, ha, P, _, n, rfl, hP4, ?_⟩
    rw [hv]
    walk_at "f"
    refine cw_i ⟨_, _, .int v, rfl, vInt, vInt, by simp [dSmall], ?_⟩
    exact hq.h
  · have at_ := all_k7 S3 ((P.map (·.1)).map D.str)
    walk_at "f"
    exact fin.h
def p7 (P : Ps) (w : Int) (a b : Str) (c : Int) : Ps := if w7 P w a b c = "" then m7 P w a b c else P
theorem k07_m {G : Gc} {x : XW} {K : KS} {S : Sto} {c h d c0 c1 d0 d1 : Addr} {P : Ps} {F : List Cell} {k w cc : Int} {one other : Str} {R : List MS} {u0 u1 u4 u5 u6 u12 u13 : Option D} (f2 : G.fn "_law_due" = some (5, spDue7)) (f3 : G.fn "_law_kinds" = some (5, spKinds7)) (f4 : G.fn "_law_moved" = some (5, spMoved7)) (f5 : G.fn "_law_strange" = some (3, spStrange7)) (hk : atI [D.ref c0, D.ref c1] k = some (.ref c)) (hd : atI [D.ref d0, D.ref d1] k = some (.ref d)) (hS : Hd S (purS c h P ++ (d, .dct (pkD P)) :: F)) (hl : P.length < 1000) (w0 : 0 ≤ w) (w3 : w ≤ 3)
    (q : ∀ S' y12 y13, Hd S' (purS c h (p7 P w one other cc) ++ (d, .dct (pkD (p7 P w one other cc))) :: F) → wSs G x R [u0, u1, some (.lst [.ref c0, .ref c1]), some (.lst [.ref d0, .ref d1]), u4, u5, u6, some (.int k), some (.int w), some (.str one), some (.str other), some (.int cc), y12, y13] S' K) :
    wSs G x (((K07b_law_2.drop 6).take 4) ++ R) [u0, u1, some (.lst [.ref c0, .ref c1]), some (.lst [.ref d0, .ref d1]), u4, u5, u6, some (.int k), some (.int w), some (.str one), some (.str other), some (.int cc), u12, u13] S K := by
  have hdS : S d = some (.dct (pkD P)) := hS.get (by simp)
  have strange : ∀ S' y12, Hd S' (purS c h (p7 P w one other cc) ++ (d, .dct (pkD (p7 P w one other cc))) :: F) → wSs G x (((K07b_law_2.drop 9).take 1) ++ R) [u0, u1, some (.lst [.ref c0, .ref c1]), some (.lst [.ref d0, .ref d1]), u4, u5, u6, some (.int k), some (.int w), some (.str one), some (.str other), some (.int cc), y12, u13] S' K := by
    intro S' y12 hS'
    have fin := q S' y12 u13 hS'
    replace fin := Hold.mk fin
    clear q hS hdS
    generalize p7 P w one other cc = P' at hS'
    have hd' : S' d = some (.dct (pkD P')) := hS'.get (by simp)
    show wSs G x (_ :: R) _ _ _
    walk_at "f"
    refine lc_i (lc_map (fun _ => .bl true) (show 4 ≤ sizeLine by decide) trivial ?_ ?_)
    · intro z hz q' hq
      obtain ⟨n, rfl⟩ : ∃ n, z = .str n := by
        simp only [List.mem_cons, List.not_mem_nil, or_false] at hz
        rcases hz with rfl | rfl | rfl | rfl <;> exact ⟨_, rfl⟩
      replace hq := Hold.mk hq
      clear fin hz
      refine ⟨_, rfl, ?_⟩
      unfold K07e_law_1
      rw [wC]
      walk_at "f"
      refine cw_i ⟨c, h, P', _, d, n, rfl, hS', hd', ?_⟩
      exact hq.h
    · have at_ := all_k7 S' [D.str one, .str other, .str "nobody", .str ""]
      walk_at "f"
      exact fin.h
  replace strange := Hold.mk strange
  show wSs G x (_ :: _ :: _ :: (((K07b_law_2.drop 9).take 1) ++ R)) _ _ _
  generalize ((K07b_law_2.drop 9).take 1) ++ R = R2 at strange ⊢
  clear q
  walk_at "f"
  refine cw_i ⟨d, P, w, one, other, cc, rfl, hdS, w0, w3, ?_⟩
  by_cases hW : w7 P w one other cc = ""
  · have ep : p7 P w one other cc = m7 P w one other cc := by unfold p7; rw [if_pos hW]
    rw [ep] at strange
    have hm : ∀ S' : Sto, Hd S' (purS c h (m7 P w one other cc) ++ (d, .dct (pkD P)) :: F) → Hd (put S' d (.dct (pkD (m7 P w one other cc)))) (purS c h (m7 P w one other cc) ++ (d, .dct (pkD (m7 P w one other cc))) :: F) := fun S' h' => Hd.upd h' _
    rw [hW]
    clear ep
    have hW' := Hold.mk hW
    clear hW
    walk_at "f"
    refine cw_i ⟨c, h, P, _, w, one, other, cc, rfl, hS, hl, w0, w3, fun z => absurd hW'.h z, fun _ S' hS' => ?_⟩
    have hd' : S' d = some (.dct (pkD P)) := hS'.get (by simp)
    walk_at "f"
    refine cw_i ⟨d, P, w, one, other, cc, rfl, hd', hl, w0, w3, hW'.h, ?_⟩
    exact strange.h _ _ (hm S' hS')
  · have ep : p7 P w one other cc = P := by unfold p7; rw [if_neg hW]
    rw [ep] at strange
    clear ep
    have hW' := Hold.mk hW
    generalize hv : w7 P w one other cc = W at hW
    replace hv := Hold.mk hv
    walk_at "f"
    refine cw_i ⟨c, h, P, _, w, one, other, cc, rfl, hS, hl, w0, w3, fun _ => ?_, fun z => absurd z hW'.h⟩
    rw [hv.h]
    walk_at "f"
    exact strange.h _ _ hS
def L7 (c h d : Addr) (P : Ps) : List Cell := purS c h P ++ [(d, .dct (pkD P))]
def N7 (P : Ps) (m : Nat) : Prop := (P.map (·.1)).all PySem.PyData.strOk = true ∧ P.length ≤ m
theorem set7 {P : Ps} {m : Nat} {n : Str} {c : Int} (h : N7 P m) (hn : PySem.PyData.strOk n = true) : N7 (setP P n c) (m + 1) := by
  unfold setP
  split
  · refine ⟨?_, by rw [List.length_map]; have := h.2; omega⟩
    rw [List.map_map]
    have e : ((fun q : Str × Int => q.1) ∘ fun q => if q.1 = n then (q.1, c) else q) = fun q => q.1 := by
      funext q
      simp only [Function.comp]
      split <;> rfl
    rw [e]
    exact h.1
  · refine ⟨?_, by rw [List.length_append]; have := h.2; simp; omega⟩
    rw [List.map_append, List.all_append, h.1]
    simpa using hn
theorem N7.up {P : Ps} {m : Nat} (h : N7 P m) : N7 P (m + 1) := ⟨h.1, Nat.le_succ_of_le h.2⟩
theorem mv7 {P : Ps} {m : Nat} {w c : Int} {a b : Str} (h : N7 P m) (ha : PySem.PyData.strOk a = true) (hb : PySem.PyData.strOk b = true) : N7 (p7 P w a b c) (m + 2) := by
  unfold p7 m7 payP
  split
  · split
    · exact (set7 h ha).up
    · split
      · exact (set7 h ha).up
      · split
        · exact (set7 h ha).up
        · exact set7 (set7 h ha) hb
  · exact h.up.up
theorem k07_r {G : Gc} {x : XW} {K : KS} {S : Sto} {c0 h0 d0 c1 h1 d1 : Addr} {P0 P1 : Ps} {u0 u1 u4 u5 u6 u7 u8 u9 u10 u11 u12 u13 : Option D} (f6 : G.fn "_law_right" = some (2, spRight7)) (hS : Hd S (L7 c0 h0 d0 P0 ++ L7 c1 h1 d1 P1)) (ok0 : OkP P0) (ok1 : OkP P1)
    (q : ∀ S', Hd S' (L7 c0 h0 d0 P0 ++ L7 c1 h1 d1 P1) → K.nx [u0, u1, some (.lst [.ref c0, .ref c1]), some (.lst [.ref d0, .ref d1]), u4, u5, u6, u7, u8, u9, u10, u11, u12, u13] S') :
    wSs G x (K07b_law_2.drop 10) [u0, u1, some (.lst [.ref c0, .ref c1]), some (.lst [.ref d0, .ref d1]), u4, u5, u6, u7, u8, u9, u10, u11, u12, u13] S K := by
  replace q := Hold.mk q
  have h0' : Hd S (purS c0 h0 P0 ++ (d0, .dct (pkD P0)) :: L7 c1 h1 d1 P1) := hS
  show wSs G x [_] _ _ _
  walk_at "f"
  refine cw_i ⟨c0, h0, P0, _, d0, rfl, h0', ok0, fun S1 s1 => ?_⟩
  have hS1 := hS.spr s1
  have h1' : Hd S1 (purS c1 h1 P1 ++ (d1, .dct (pkD P1)) :: L7 c0 h0 d0 P0) := hS1.perm List.perm_append_comm
  walk_at "f"
  refine cw_i ⟨c1, h1, P1, _, d1, rfl, h1', ok1, fun S2 s2 => ?_⟩
  have f := Hold.mk (q.h S2 (hS1.spr s2))
  walk_at "f"
  exact f.h
theorem k07_b {G : Gc} {x : XW} {K : KS} {S : Sto} {fs : List Int} {c0 h0 d0 c1 h1 d1 : Addr} {P0 P1 : Ps} {t : Nat} {sc : Int} {u0 u6 u7 u8 u9 u10 u11 u12 u13 : Option D} (f1 : G.fn "_law_name" = some (2, spName)) (f2 : G.fn "_law_due" = some (5, spDue7)) (f3 : G.fn "_law_kinds" = some (5, spKinds7)) (f4 : G.fn "_law_moved" = some (5, spMoved7)) (f5 : G.fn "_law_strange" = some (3, spStrange7)) (f6 : G.fn "_law_right" = some (2, spRight7)) (hf : Feed fs) (ht : t < 31) (hS : Hd S (L7 c0 h0 d0 P0 ++ L7 c1 h1 d1 P1)) (ok0 : N7 P0 (2 * t)) (ok1 : N7 P1 (2 * t))
    (q : ∀ S' Q0 Q1 y6 y7 y8 y9 y10 y11 y12 y13, Hd S' (L7 c0 h0 d0 Q0 ++ L7 c1 h1 d1 Q1) → N7 Q0 (2 * (t + 1)) → N7 Q1 (2 * (t + 1)) → K.nx [u0, some (.lst (fs.map .int)), some (.lst [.ref c0, .ref c1]), some (.lst [.ref d0, .ref d1]), some (.int sc), some (.int (t : Int)), y6, y7, y8, y9, y10, y11, y12, y13] S') :
    wSs G x K07b_law_2 [u0, some (.lst (fs.map .int)), some (.lst [.ref c0, .ref c1]), some (.lst [.ref d0, .ref d1]), some (.int sc), some (.int (t : Int)), u6, u7, u8, u9, u10, u11, u12, u13] S K := by
  replace q := Hold.mk q
  have n2 : atI (fs.map D.int) 2 = some (.int (fv fs 2)) := feed_at hf (j := 2) (by decide)
  have a0 : atI (fs.map D.int) (10 + 6 * (t : Int)) = some (.int (fv fs (10 + 6 * t))) := by rw [show 10 + 6 * (t : Int) = ((10 + 6 * t : Nat) : Int) by omega]; exact feed_at hf (by omega)
  have a1 : atI (fs.map D.int) (10 + 6 * (t : Int) + 1) = some (.int (fv fs (11 + 6 * t))) := by rw [show 10 + 6 * (t : Int) + 1 = ((11 + 6 * t : Nat) : Int) by omega]; exact feed_at hf (by omega)
  have a2 : atI (fs.map D.int) (10 + 6 * (t : Int) + 2) = some (.int (fv fs (12 + 6 * t))) := by rw [show 10 + 6 * (t : Int) + 2 = ((12 + 6 * t : Nat) : Int) by omega]; exact feed_at hf (by omega)
  have a3 : atI (fs.map D.int) (10 + 6 * (t : Int) + 3) = some (.int (fv fs (13 + 6 * t))) := by rw [show 10 + 6 * (t : Int) + 3 = ((13 + 6 * t : Nat) : Int) by omega]; exact feed_at hf (by omega)
  generalize fv fs (10 + 6 * t) = va at a0
  generalize fv fs (11 + 6 * t) = vb at a1
  generalize fv fs (12 + 6 * t) = vc at a2
  generalize fv fs (13 + 6 * t) = vd at a3
  generalize fv fs 2 = vp at n2
  have w : ∃ w : Int, 0 ≤ w ∧ w ≤ 3 ∧ atI [D.int 0, .int 1, .int 2, .int 3, .int 3] (va / 2 % 5) = some (.int w) := by
    have z0 := Int.emod_nonneg (va / 2) (show (5 : Int) ≠ 0 by decide)
    have z1 := Int.emod_lt_of_pos (va / 2) (show (0 : Int) < 5 by decide)
    generalize va / 2 % 5 = z at z0 z1
    have : z = 0 ∨ z = 1 ∨ z = 2 ∨ z = 3 ∨ z = 4 := by omega
    rcases this with rfl | rfl | rfl | rfl | rfl
    · exact ⟨0, by decide, by decide, rfl⟩
    · exact ⟨1, by decide, by decide, rfl⟩
    · exact ⟨2, by decide, by decide, rfl⟩
    · exact ⟨3, by decide, by decide, rfl⟩
    · exact ⟨3, by decide, by decide, rfl⟩
  obtain ⟨w, w0, w3, ew⟩ := w
  have e8 : ∃ z : Int, 0 ≤ z ∧ z ≤ 2 ∧ atI [D.int 0, .int 0, .int 0, .int 0, .int 0, .int 0, .int 1, .int 2] (vc / 9 % 8) = some (.int z) := by
    have z0 := Int.emod_nonneg (vc / 9) (show (8 : Int) ≠ 0 by decide)
    have z1 := Int.emod_lt_of_pos (vc / 9) (show (0 : Int) < 8 by decide)
    generalize vc / 9 % 8 = z at z0 z1
    have : z = 0 ∨ z = 1 ∨ z = 2 ∨ z = 3 ∨ z = 4 ∨ z = 5 ∨ z = 6 ∨ z = 7 := by omega
    rcases this with rfl | rfl | rfl | rfl | rfl | rfl | rfl | rfl
    all_goals first | exact ⟨0, by decide, by decide, rfl⟩ | exact ⟨1, by decide, by decide, rfl⟩ | exact ⟨2, by decide, by decide, rfl⟩
  obtain ⟨z, z0, z2, ez⟩ := e8
  have fin : ∀ (w cc : Int) (one other : Str) (y6 : Option D), 0 ≤ w → w ≤ 3 → PySem.PyData.strOk one = true → PySem.PyData.strOk other = true → wSs G x (K07b_law_2.drop 6) [u0, some (.lst (fs.map .int)), some (.lst [.ref c0, .ref c1]), some (.lst [.ref d0, .ref d1]), some (.int sc), some (.int (t : Int)), y6, some (.int (va % 2)), some (.int w), some (.str one), some (.str other), some (.int cc), u12, u13] S K := by
    intro w cc one other y6 w0 w3 k1 k2
    have hva : va % 2 = 0 ∨ va % 2 = 1 := by omega
    show wSs G x (((K07b_law_2.drop 6).take 4) ++ K07b_law_2.drop 10) _ _ _
    rcases hva with e | e
    · rw [e]
      refine k07_m f2 f3 f4 f5 (c := c0) (h := h0) (d := d0) (P := P0) (F := L7 c1 h1 d1 P1) rfl rfl hS (by have := ok0.2; omega) w0 w3 fun S' y12 y13 hS' => ?_
      have n0 := mv7 (w := w) (c := cc) ok0 k1 k2
      refine k07_r (P0 := p7 P0 w one other cc) (P1 := P1) f6 hS' ⟨n0.1, by have := n0.2; omega⟩ ⟨ok1.1, by have := ok1.2; omega⟩ fun S'' hS'' => q.h S'' _ _ _ _ _ _ _ _ _ _ hS'' ?_ ?_
      · exact n0
      · exact ok1.up.up
    · rw [e]
      refine k07_m f2 f3 f4 f5 (c := c1) (h := h1) (d := d1) (P := P1) (F := L7 c0 h0 d0 P0) rfl rfl (hS.perm List.perm_append_comm) (by have := ok1.2; omega) w0 w3 fun S' y12 y13 hS' => ?_
      have n1 := mv7 (w := w) (c := cc) ok1 k1 k2
      have hS2 : Hd S' (L7 c0 h0 d0 P0 ++ L7 c1 h1 d1 (p7 P1 w one other cc)) := (show Hd S' (L7 c1 h1 d1 (p7 P1 w one other cc) ++ L7 c0 h0 d0 P0) from hS').perm List.perm_append_comm
      refine k07_r (P0 := P0) (P1 := p7 P1 w one other cc) f6 hS2 ⟨ok0.1, by have := ok0.2; omega⟩ ⟨n1.1, by have := n1.2; omega⟩ fun S'' hS'' => q.h S'' _ _ _ _ _ _ _ _ _ _ hS'' ?_ ?_
      · exact ok0.up.up
      · exact n1
  replace fin := Hold.mk fin
  clear q hS ok0 ok1
  show wSs G x (_ :: _ :: _ :: _ :: _ :: _ :: K07b_law_2.drop 6) _ _ _
  generalize K07b_law_2.drop 6 = R at fin ⊢
  walk_at "f"
  refine cw_i ⟨vp, _, rfl, ?_⟩
  have o1 := isNm_ok (isNm_name vp (vb % 9))
  generalize nameOf vp (vb % 9) = n1 at o1 ⊢
  walk_at "f"
  have ob : PySem.PyData.strOk "nobody" = true := by decide +kernel
  have e1 : ∃ y : Str, PySem.PyData.strOk y = true ∧ atI [D.str n1, D.str "nobody"] (if vb / 9 % 12 = 5 then 1 else 0) = some (.str y) := by
    split
    · exact ⟨_, ob, rfl⟩
    · exact ⟨_, o1, rfl⟩
  obtain ⟨one, k1, e1⟩ := e1
  refine bO_i _ e1 ?_
  clear e1 o1
  walk_at "f"
  refine cw_i ⟨vp, _, rfl, ?_⟩
  have o2 := isNm_ok (isNm_name vp (vc % 9))
  generalize nameOf vp (vc % 9) = n2' at o2 ⊢
  have e3 : ∃ y : Str, PySem.PyData.strOk y = true ∧ atI [D.str n2', D.str "nobody", D.str one] z = some (.str y) := by
    have : z = 0 ∨ z = 1 ∨ z = 2 := by omega
    rcases this with rfl | rfl | rfl
    · exact ⟨_, o2, rfl⟩
    · exact ⟨_, ob, rfl⟩
    · exact ⟨_, k1, rfl⟩
  obtain ⟨other, k2, e3⟩ := e3
  clear z0 z2
  have fin2 := Hold.mk (fin.h w (sc * (vd % 64 - 3)) one other (some (.int (10 + 6 * (t : Int)))) w0 w3 k1 k2)
  clear fin
  walk_at "f"
  exact ⟨.inr ⟨by omega, by omega⟩, fin2.h⟩
theorem ok_k07 {G : Gc} (f0 : G.fn "_law_feed" = some (1, spFeed)) (k1 : G.mkr "Purses" = some (1, spPInit)) (f1 : G.fn "_law_name" = some (2, spName)) (f2 : G.fn "_law_due" = some (5, spDue7)) (f3 : G.fn "_law_kinds" = some (5, spKinds7)) (f4 : G.fn "_law_moved" = some (5, spMoved7)) (f5 : G.fn "_law_strange" = some (3, spStrange7)) (f6 : G.fn "_law_right" = some (2, spRight7)) : BodyOk G K07n_law 1 K07m_law spLaw := by
  rintro ds S Q X - ⟨ns, rfl, hl, rfl, q⟩
  replace q := Hold.mk q
  show wSs G _ K07m_law [some (.scr ns), none, none, none, none, none, none, none, none, none, none, none, none, none] (fun _ => none) _
  unfold K07m_law
  walk_at "f"
  refine cw_i ⟨ns, rfl, fun fs hf => ?_⟩
  unfold fdD
  walk_at "f"
  refine nw_i fun c0 hc0 => ?_
  refine cw_i ⟨c0, [], rfl, Hd.nil.new hc0 _, fun S1 h0 hS1 => ⟨rfl, ?_⟩⟩
  walk_at "f"
  refine nw_i fun c1 hc1 => ?_
  refine cw_i ⟨c1, _, rfl, hS1.new hc1 _, fun S2 h1 hS2 => ⟨rfl, ?_⟩⟩
  walk_at "f"
  refine nw_i fun d0 hd0 => ?_
  refine nw_i fun d1 hd1 => ?_
  have hS4 := (hS2.new hd0 (.dct [])).new hd1 (.dct [])
  replace hS4 : Hd (put (put S2 d0 (.dct [])) d1 (.dct [])) (L7 c0 h0 d0 [] ++ L7 c1 h1 d1 []) := hS4.perm (by
    show List.Perm [(d1, MO.dct []), (d0, MO.dct []), (c1, .ins "Purses" (pursesF h1)), (h1, .dct []), (c0, .ins "Purses" (pursesF h0)), (h0, .dct [])] [(c0, .ins "Purses" (pursesF h0)), (h0, .dct []), (d0, MO.dct []), (c1, .ins "Purses" (pursesF h1)), (h1, .dct []), (d1, MO.dct [])]
    refine (List.perm_append_comm (l₁ := [(d1, MO.dct []), (d0, MO.dct []), (c1, .ins "Purses" (pursesF h1)), (h1, .dct [])]) (l₂ := [(c0, .ins "Purses" (pursesF h0)), (h0, .dct [])])).trans ?_
    refine .cons _ (.cons _ ?_)
    refine (List.Perm.swap ..).trans (.cons _ ?_)
    exact (List.perm_append_comm (l₁ := [(d1, MO.dct [])]) (l₂ := [(c1, .ins "Purses" (pursesF h1)), (h1, .dct [])])))
  replace hS4 := Hold.mk hS4
  clear hS2 hS1 hd1 hd0 hc0 hc1
  have n1 : atI (fs.map D.int) 1 = some (.int (fv fs 1)) := feed_at hf (j := 1) (by decide)
  have n0 : atI (fs.map D.int) 0 = some (.int (fv fs 0)) := feed_at hf (j := 0) (by decide)
  have es : ∃ z : Int, atI [D.int 1, .int 1, .int 1000000000] (fv fs 1 % 3) = some (.int z) := by
    have z0 := Int.emod_nonneg (fv fs 1) (show (3 : Int) ≠ 0 by decide)
    have z1 := Int.emod_lt_of_pos (fv fs 1) (show (0 : Int) < 3 by decide)
    generalize fv fs 1 % 3 = z at z0 z1
    have : z = 0 ∨ z = 1 ∨ z = 2 := by omega
    rcases this with rfl | rfl | rfl
    · exact ⟨_, rfl⟩
    · exact ⟨_, rfl⟩
    · exact ⟨_, rfl⟩
  obtain ⟨sc, es⟩ := es
  have v0 := Int.emod_nonneg (fv fs 0) (show (31 : Int) ≠ 0 by decide)
  have v1 := Int.emod_lt_of_pos (fv fs 0) (show (0 : Int) < 31 by decide)
  obtain ⟨m, hm⟩ : ∃ m : Nat, fv fs 0 % 31 = m := ⟨(fv fs 0 % 31).toNat, by omega⟩
  have pw9 : ∀ S : Sto, binR .Pow (.int 10) (.int 9) S = some (.val (.int 1000000000)) := fun S => by kernel_rfl
  walk_at "f"
  refine ⟨⟨by omega, by omega⟩, fl_i (for_rule (fun i σ' S' => ∃ Q0 Q1 y5 y6 y7 y8 y9 y10 y11 y12 y13, Hd S' (L7 c0 h0 d0 Q0 ++ L7 c1 h1 d1 Q1) ∧ N7 Q0 (2 * i) ∧ N7 Q1 (2 * i) ∧ σ' = [some (.scr ns), some (.lst (fs.map .int)), some (.lst [.ref c0, .ref c1]), some (.lst [.ref d0, .ref d1]), some (.int sc), y5, y6, y7, y8, y9, y10, y11, y12, y13]) ⟨[], [], _, _, _, _, _, _, _, _, _, hS4.h, ⟨rfl, Nat.le_refl _⟩, ⟨rfl, Nat.le_refl _⟩, rfl⟩ ?_ ?_)⟩
  · rintro i d σ' S' hd ⟨Q0, Q1, y5, y6, y7, y8, y9, y10, y11, y12, y13, hS', o0, o1, rfl⟩
    rw [List.getElem?_map] at hd
    obtain ⟨j, hr, rfl⟩ := Option.map_eq_some_iff.mp hd
    obtain ⟨hij, ej⟩ := List.getElem?_eq_some_iff.mp hr
    rw [List.getElem_range] at ej
    subst ej
    rw [List.length_range] at hij
    exact ⟨trivial, _, rfl, k07_b f1 f2 f3 f4 f5 f6 hf (by omega) hS' o0 o1 fun S'' R0 R1 _ _ _ _ _ _ _ _ h1 h2 h3 => ⟨R0, R1, _, _, _, _, _, _, _, _, _, h1, h2, h3, rfl⟩⟩
  · rintro σ' S' ⟨Q0, Q1, y5, y6, y7, y8, y9, y10, y11, y12, y13, -, -, -, rfl⟩
    refine ⟨trivial, ?_⟩
    walk_at "f"
    exact q.h _
end Mn
namespace Mn
open PySem L2
def conA : List (Str × D) := []
def cfA : Cfg := cfgP XA flA (conL conA)
def en0 : Ent := ⟨d_Purses___init__, ["self"], ["self"], m_Purses___init__, spPInit⟩
def es0 : List Ent := [en0]
def en1 : Ent := ⟨d_Purses_need, ["self", "name"], ["self", "name"], m_Purses_need, spPNeed⟩
def es1 : List Ent := en1 :: es0
def en2 : Ent := ⟨d_Purses_look_at, ["self", "coins"], ["self", "coins"], m_Purses_look_at, spPLook⟩
def es2 : List Ent := en2 :: es1
def en3 : Ent := ⟨d_Purses_add_purse, ["self", "name", "coins"], ["self", "name", "coins"], m_Purses_add_purse, spPAdd⟩
def es3 : List Ent := en3 :: es2
def en4 : Ent := ⟨d_Purses_coins, ["self", "name"], ["self", "name"], m_Purses_coins, spPCoins⟩
def es4 : List Ent := en4 :: es3
def en5 : Ent := ⟨d_Purses_fill, ["self", "name", "coins"], ["self", "name", "coins"], m_Purses_fill, spPFill⟩
def es5 : List Ent := en5 :: es4
def en6 : Ent := ⟨d_Purses_spend, ["self", "name", "coins"], ["self", "name", "coins"], m_Purses_spend, spPSpend⟩
def es6 : List Ent := en6 :: es5
def en7 : Ent := ⟨d_Purses_pay, ["self", "payer", "taker", "coins"], ["self", "payer", "taker", "coins"], m_Purses_pay, spPPay⟩
def es7 : List Ent := en7 :: es6
def en8 : Ent := ⟨d_Purses_total, ["self"], ["self"], m_Purses_total, spPTotal⟩
def es8 : List Ent := en8 :: es7
def en9 : Ent := ⟨d_Purses_all_names, ["self"], ["self"], m_Purses_all_names, spPNames⟩
def es9 : List Ent := en9 :: es8
def en10 : Ent := ⟨d__law_feed, ["_law_script"], ["_law_script", "_law_feed_here", "_law_cell", "_law_left", "_law_turn", "_law_seed"], m__law_feed, spFeed⟩
def es10 : List Ent := en10 :: es9
def en11 : Ent := ⟨d__law_name, ["_law_pick", "_law_k"], ["_law_pick", "_law_k", "_law_sign", "_law_at", "_law_words", "_law_some"], m__law_name, spName⟩
def es11 : List Ent := en11 :: es10
def en12 : Ent := ⟨d__law_same, ["_law_found", "_law_due_here"], ["_law_found", "_law_due_here", "_law_k"], m__law_same, spSameV 0⟩
def es12 : List Ent := en12 :: es11
def en13 : Ent := ⟨d__law_same, ["_law_found", "_law_due_here"], ["_law_found", "_law_due_here", "_law_k"], m__law_same, spSameV 1⟩
def es13 : List Ent := en13 :: es12
def en14 : Ent := ⟨d__law_same, ["_law_found", "_law_due_here"], ["_law_found", "_law_due_here", "_law_k"], m__law_same, spSameV 2⟩
def es14 : List Ent := en14 :: es13
def en15 : Ent := ⟨d__law_same, ["_law_found", "_law_due_here"], ["_law_found", "_law_due_here", "_law_k"], m__law_same, spSameV 3⟩
def es15 : List Ent := en15 :: es14
def en16 : Ent := ⟨d__law_do, ["_law_purses", "_law_way", "_law_one", "_law_other", "_law_coins"], ["_law_purses", "_law_way", "_law_one", "_law_other", "_law_coins"], m__law_do, spDo7⟩
def es16 : List Ent := en16 :: es15
def en17 : Ent := ⟨d__law_kinds, ["_law_purses", "_law_way", "_law_one", "_law_other", "_law_coins"], ["_law_purses", "_law_way", "_law_one", "_law_other", "_law_coins", "_law_kinds_here", "e"], m__law_kinds, spKinds7⟩
def es17 : List Ent := en17 :: es16
def en18 : Ent := ⟨d__law_due, ["_law_held", "_law_way", "_law_one", "_law_other", "_law_coins"], ["_law_held", "_law_way", "_law_one", "_law_other", "_law_coins"], m__law_due, spDue7⟩
def es18 : List Ent := en18 :: es17
def en19 : Ent := ⟨d__law_moved, ["_law_held", "_law_way", "_law_one", "_law_other", "_law_coins"], ["_law_held", "_law_way", "_law_one", "_law_other", "_law_coins"], m__law_moved, spMoved7⟩
def es19 : List Ent := en19 :: es18
def en20 : Ent := ⟨d__law_strange, ["_law_purses", "_law_name_here", "_law_held"], ["_law_purses", "_law_name_here", "_law_held", "_law_refused"], m__law_strange, spStrange7⟩
def es20 : List Ent := en20 :: es19
def en21 : Ent := ⟨d__law_right, ["_law_purses", "_law_held"], ["_law_purses", "_law_held", "_law_told", "_law_name_here"], m__law_right, spRight7⟩
def es21 : List Ent := en21 :: es20
def en22 : Ent := ⟨d_law, ["_law_script"], ["_law_script", "_law_feed_here", "_law_books", "_law_models", "_law_scale", "_law_turn", "_law_at", "_law_k", "_law_way", "_law_one", "_law_other", "_law_coins", "_law_due_here", "_law_name_here"], K07m_law, spLaw⟩
def es22 : List Ent := en22 :: es21
theorem ck0 : en0.chk = true := by kernel_rfl
theorem bi0 : en0.binds := fun _ _ _ _ _ _ us hl => match us, hl with | [_], _ => rfl
theorem md0 : Mods cfA faA fnA es0 := .cons .nil 0 (by rfl) (hgI (by kernel_rfl : faA[19]? = _) (by kernel_rfl : faA[20]? = _) (by kernel_rfl : faA[21]? = _)) ck0 bi0 (ok7_PInit (by kernel_rfl))
theorem ck1 : en1.chk = true := by kernel_rfl
theorem bi1 : en1.binds := fun _ _ _ _ _ _ us hl => match us, hl with | [_, _], _ => rfl
theorem md1 : Mods cfA faA fnA es1 := .cons md0 1 (by rfl) (hgM (by decide +kernel) (by kernel_rfl : faA[20]? = _) (by kernel_rfl : faA[22]? = _)) ck1 bi1 (ok7_PNeed (by kernel_rfl) (by kernel_rfl))
theorem ck2 : en2.chk = true := by kernel_rfl
theorem bi2 : en2.binds := fun _ _ _ _ _ _ us hl => match us, hl with | [_, _], _ => rfl
theorem md2 : Mods cfA faA fnA es2 := .cons md1 2 (by rfl) (hgM (by decide +kernel) (by kernel_rfl : faA[20]? = _) (by kernel_rfl : faA[23]? = _)) ck2 bi2 (ok7_PLook (by kernel_rfl))
theorem ck3 : en3.chk = true := by kernel_rfl
theorem bi3 : en3.binds := fun _ _ _ _ _ _ us hl => match us, hl with | [_, _, _], _ => rfl
theorem md3 : Mods cfA faA fnA es3 := .cons md2 3 (by rfl) (hgM (by decide +kernel) (by kernel_rfl : faA[20]? = _) (by kernel_rfl : faA[24]? = _)) ck3 bi3 (ok7_PAdd (by kernel_rfl) (by kernel_rfl) (by kernel_rfl))
theorem ck4 : en4.chk = true := by kernel_rfl
theorem bi4 : en4.binds := fun _ _ _ _ _ _ us hl => match us, hl with | [_, _], _ => rfl
theorem md4 : Mods cfA faA fnA es4 := .cons md3 4 (by rfl) (hgM (by decide +kernel) (by kernel_rfl : faA[20]? = _) (by kernel_rfl : faA[25]? = _)) ck4 bi4 (ok7_PCoins (by kernel_rfl) (by kernel_rfl))
theorem ck5 : en5.chk = true := by kernel_rfl
theorem bi5 : en5.binds := fun _ _ _ _ _ _ us hl => match us, hl with | [_, _, _], _ => rfl
theorem md5 : Mods cfA faA fnA es5 := .cons md4 5 (by rfl) (hgM (by decide +kernel) (by kernel_rfl : faA[20]? = _) (by kernel_rfl : faA[26]? = _)) ck5 bi5 (ok7_PFill (by kernel_rfl) (by kernel_rfl) (by kernel_rfl))
theorem ck6 : en6.chk = true := by kernel_rfl
theorem bi6 : en6.binds := fun _ _ _ _ _ _ us hl => match us, hl with | [_, _, _], _ => rfl
theorem md6 : Mods cfA faA fnA es6 := .cons md5 6 (by rfl) (hgM (by decide +kernel) (by kernel_rfl : faA[20]? = _) (by kernel_rfl : faA[27]? = _)) ck6 bi6 (ok7_PSpend (by kernel_rfl) (by kernel_rfl) (by kernel_rfl) (by kernel_rfl))
theorem ck7 : en7.chk = true := by kernel_rfl
theorem bi7 : en7.binds := fun _ _ _ _ _ _ us hl => match us, hl with | [_, _, _, _], _ => rfl
theorem md7 : Mods cfA faA fnA es7 := .cons md6 7 (by rfl) (hgM (by decide +kernel) (by kernel_rfl : faA[20]? = _) (by kernel_rfl : faA[28]? = _)) ck7 bi7 (ok7_PPay (by kernel_rfl) (by kernel_rfl) (by kernel_rfl) (by kernel_rfl))
theorem ck8 : en8.chk = true := by kernel_rfl
theorem bi8 : en8.binds := fun _ _ _ _ _ _ us hl => match us, hl with | [_], _ => rfl
theorem md8 : Mods cfA faA fnA es8 := .cons md7 8 (by rfl) (hgM (by decide +kernel) (by kernel_rfl : faA[20]? = _) (by kernel_rfl : faA[29]? = _)) ck8 bi8 (ok7_PTotal (by kernel_rfl))
theorem ck9 : en9.chk = true := by kernel_rfl
theorem bi9 : en9.binds := fun _ _ _ _ _ _ us hl => match us, hl with | [_], _ => rfl
theorem md9 : Mods cfA faA fnA es9 := .cons md8 9 (by rfl) (hgM (by decide +kernel) (by kernel_rfl : faA[20]? = _) (by kernel_rfl : faA[30]? = _)) ck9 bi9 (ok7_PNames (by kernel_rfl))
theorem ck10 : en10.chk = true := by kernel_rfl
theorem bi10 : en10.binds := fun _ _ _ _ _ _ us hl => match us, hl with | [_], _ => rfl
theorem md10 : Mods cfA faA fnA es10 := .cons md9 10 (by rfl) (hgG (by kernel_rfl : faA[31]? = _)) ck10 bi10 (ok_feed)
theorem ck11 : en11.chk = true := by kernel_rfl
theorem bi11 : en11.binds := fun _ _ _ _ _ _ us hl => match us, hl with | [_, _], _ => rfl
theorem md11 : Mods cfA faA fnA es11 := .cons md10 11 (by rfl) (hgG (by kernel_rfl : faA[32]? = _)) ck11 bi11 (ok_name)
theorem ck12 : en12.chk = true := by kernel_rfl
theorem bi12 : en12.binds := fun _ _ _ _ _ _ us hl => match us, hl with | [_, _], _ => rfl
theorem md12 : Mods cfA faA fnA es12 := .cons md11 12 (by rfl) (hgG (by kernel_rfl : faA[33]? = _)) ck12 bi12 (ok_sameV 0 (fun _ h => nomatch h))
theorem ck13 : en13.chk = true := ck12
theorem bi13 : en13.binds := bi12
theorem md13 : Mods cfA faA fnA es13 := .cons md12 12 (by rfl) (hgG (by kernel_rfl : faA[33]? = _)) ck13 bi13 (ok_sameV 1 (fun _ h => by cases h; kernel_rfl))
theorem ck14 : en14.chk = true := ck12
theorem bi14 : en14.binds := bi12
theorem md14 : Mods cfA faA fnA es14 := .cons md13 12 (by rfl) (hgG (by kernel_rfl : faA[33]? = _)) ck14 bi14 (ok_sameV 2 (fun _ h => by cases h; kernel_rfl))
theorem ck15 : en15.chk = true := ck12
theorem bi15 : en15.binds := bi12
theorem md15 : Mods cfA faA fnA es15 := .cons md14 12 (by rfl) (hgG (by kernel_rfl : faA[33]? = _)) ck15 bi15 (ok_sameV 3 (fun _ h => by cases h; kernel_rfl))
theorem ck16 : en16.chk = true := by kernel_rfl
theorem bi16 : en16.binds := fun _ _ _ _ _ _ us hl => match us, hl with | [_, _, _, _, _], _ => rfl
theorem md16 : Mods cfA faA fnA es16 := .cons md15 13 (by rfl) (hgG (by kernel_rfl : faA[34]? = _)) ck16 bi16 (ok_Do7 (by kernel_rfl) (by kernel_rfl) (by kernel_rfl) (by kernel_rfl))
theorem ck17 : en17.chk = true := by kernel_rfl
theorem bi17 : en17.binds := fun _ _ _ _ _ _ us hl => match us, hl with | [_, _, _, _, _], _ => rfl
theorem md17 : Mods cfA faA fnA es17 := .cons md16 14 (by rfl) (hgG (by kernel_rfl : faA[35]? = _)) ck17 bi17 (ok_Kinds7 rfl (by kernel_rfl))
theorem ck18 : en18.chk = true := by kernel_rfl
theorem bi18 : en18.binds := fun _ _ _ _ _ _ us hl => match us, hl with | [_, _, _, _, _], _ => rfl
theorem md18 : Mods cfA faA fnA es18 := .cons md17 15 (by rfl) (hgG (by kernel_rfl : faA[36]? = _)) ck18 bi18 (ok_Due7)
theorem ck19 : en19.chk = true := by kernel_rfl
theorem bi19 : en19.binds := fun _ _ _ _ _ _ us hl => match us, hl with | [_, _, _, _, _], _ => rfl
theorem md19 : Mods cfA faA fnA es19 := .cons md18 16 (by rfl) (hgG (by kernel_rfl : faA[37]? = _)) ck19 bi19 (ok_Moved7)
theorem ck20 : en20.chk = true := by kernel_rfl
theorem bi20 : en20.binds := fun _ _ _ _ _ _ us hl => match us, hl with | [_, _, _], _ => rfl
theorem md20 : Mods cfA faA fnA es20 := .cons md19 17 (by rfl) (hgG (by kernel_rfl : faA[38]? = _)) ck20 bi20 (ok_Strange7 rfl (by kernel_rfl))
theorem ck21 : en21.chk = true := by kernel_rfl
theorem bi21 : en21.binds := fun _ _ _ _ _ _ us hl => match us, hl with | [_, _], _ => rfl
theorem md21 : Mods cfA faA fnA es21 := .cons md20 18 (by rfl) (hgG (by kernel_rfl : faA[39]? = _)) ck21 bi21 (ok_Right7 (by kernel_rfl) (by kernel_rfl) (by kernel_rfl) (by kernel_rfl))
theorem ck22 : en22.chk = true := by kernel_rfl
theorem bi22 : en22.binds := fun _ _ _ _ _ _ us hl => match us, hl with | [_], _ => rfl
theorem md22 : Mods cfA faA fnA es22 := .cons md21 19 (by rfl) (hgG (by kernel_rfl : faA[40]? = _)) ck22 bi22 (ok_k07 (by kernel_rfl) (by kernel_rfl) (by kernel_rfl) (by kernel_rfl) (by kernel_rfl) (by kernel_rfl) (by kernel_rfl) (by kernel_rfl))
theorem ib_HallError : BindsD x_HallError ["self", "why"] := fun _ _ _ _ _ _ us hl => match us, hl with | [_, _], _ => rfl
theorem ib_Taken : BindsD x_Taken ["self", "why"] := fun _ _ _ _ _ _ us hl => match us, hl with | [_, _], _ => rfl
theorem ib_BadCoins : BindsD x_BadCoins ["self", "why"] := fun _ _ _ _ _ _ us hl => match us, hl with | [_, _], _ => rfl
theorem ib_NoHouse : BindsD x_NoHouse ["self", "why"] := fun _ _ _ _ _ _ us hl => match us, hl with | [_, _], _ => rfl
theorem ib_NoCoins : BindsD x_NoCoins ["self", "why"] := fun _ _ _ _ _ _ us hl => match us, hl with | [_, _], _ => rfl
theorem ic_Taken : ∃ (i : Nat) (d : He.DefD), fnA[i]? = some d ∧ ini1 d "Taken" = true ∧ BindsD d ["self", "why"] := ⟨21, x_Taken, by rfl, by kernel_rfl, ib_Taken⟩
theorem ic_BadCoins : ∃ (i : Nat) (d : He.DefD), fnA[i]? = some d ∧ ini1 d "BadCoins" = true ∧ BindsD d ["self", "why"] := ⟨22, x_BadCoins, by rfl, by kernel_rfl, ib_BadCoins⟩
theorem ic_NoHouse : ∃ (i : Nat) (d : He.DefD), fnA[i]? = some d ∧ ini1 d "NoHouse" = true ∧ BindsD d ["self", "why"] := ⟨23, x_NoHouse, by rfl, by kernel_rfl, ib_NoHouse⟩
theorem ic_NoCoins : ∃ (i : Nat) (d : He.DefD), fnA[i]? = some d ∧ ini1 d "NoCoins" = true ∧ BindsD d ["self", "why"] := ⟨24, x_NoCoins, by rfl, by kernel_rfl, ib_NoCoins⟩
theorem iniA : Inis XA fnA := ⟨⟨20, x_HallError, by rfl, by kernel_rfl, ib_HallError⟩, List.forall_mem_cons.mpr ⟨ic_Taken, List.forall_mem_cons.mpr ⟨ic_BadCoins, List.forall_mem_cons.mpr ⟨ic_NoHouse, List.forall_mem_cons.mpr ⟨ic_NoCoins, (fun _ h => nomatch h)⟩⟩⟩⟩, fun h => by cases h⟩
theorem conB_A : ∀ q ∈ conA, conB faA q := fun _ h => nomatch h
end Mn
open PySem PySem.W PySem.Calls PyProof.Rows
theorem PySem.Challenge.cw_allonge_k07_purses_holds : PySem.Challenge.rw_allonge_k07_purses.Holds := by
  exact Mn.fin_A (Mn.law_of (e := Mn.en22) (r := Mn.es21) (cf := Mn.cfA) (by kernel_rfl) ⟨_, List.append_assoc ..⟩ (fun w K h mg base X G c => Mn.cfg_ok X G c (by decide +kernel) (fun f hf => List.mem_append_right _ (List.mem_append_right _ (hf))) (fun f hf => hf) Mn.iniA (Mn.conL_ok Mn.conB_A X G c.d)) Mn.md22 rfl rfl)

