import PyProof.Rows.All
import Wide.All
import OpenK.AllK
import Wide.FinOn
import HandS.ForMost
import HandS.Exc
import HandS.ExcOwn
import HandS.TryOnly
import HandS.WordsExc
import HandS.CallSlots
import HandS.Flow
import HandS.IsInst
import HandS.TupAny
import HandS.More
import HandS.Zip
import HandS.Deep
import HandS.Style
import HandS.Dict
import HandS.SetKeys
import HandS.Strs
import HandS.Text
import HandS.ExcInit
import HandS.ExcIs
import HandS.ExcField
import KE.KExcIs
import KE.KStateDown
import HandS.Head0
import HandS.Head1
import HandS.Head2
import HandS.HeadEnd
import HandS.HeadHook1
import HandS.HeadHook2
import HandS.Defaults
import HandS.ClsMeth
import PySem.Challenge.RW_allonge_k08_houses_and_coins
set_option Elab.async false
set_option linter.all false
set_option maxRecDepth 100000
set_option maxHeartbeats 0
namespace Mn
open PySem L2
open PySem L2
/-! ### the head's facts: the module's names, functions, classes, methods, their code -/
def fnCode (g : Addr → Option Obj) (v : Value) : List Addr := match v with
  | .ref f => (match g f with
    | some ⟨_, _, .func fd, _⟩ => f :: He.refV fd.code
    | _ => [f])
  | _ => []
def nsVals (g : Addr → Option Obj) (a : Addr) : List Value := match g a with
  | some ⟨_, _, .dict es _, _⟩ => es.toList.map (·.val)
  | _ => []
def clsMore (g : Addr → Option Obj) (v : Value) : List Addr := match v with
  | .ref c => (match g c with
    | some ⟨_, _, .cls cd, _⟩ => cd.ns :: (nsVals g cd.ns).flatMap (fnCode g)
    | _ => [])
  | _ => []
def asM (g : Addr → Option Obj) : List Addr := mainGlobals :: cStatics :: ((nsVals g mainGlobals).flatMap (fnCode g) ++ (nsVals g mainGlobals).flatMap (clsMore g))
/-- facts of classes of exceptions -/
inductive Fx where
  | oex (c : Str)
  | nof (c f : Str)
  | mro (c : Str)
  | exc (c : Str)
  | bas (c : Str)
  | dis (l : List Str)
def oexB (K : PySem.W.Frag) (C : Addr) : Bool := (match K.lookup C with
  | some ⟨.type "type", _, .cls cd, sl⟩ => (match cd.mro, sl.toList with
    | .ref D :: bm, [_, _, _, _, some (.builtin n), _] => decide (D = C) && (decide (n = "ValueError.__new__") && (!cd.hasDel && (cd.hasDict && PySem.HandSPX.refsVE bm)))
    | _, _ => false)
  | _ => false) && (He.eqO (PySem.W.findIn K (.ref C) "__setattr__") (some (some (.builtin "object.__setattr__"))) && (decide (PySem.W.subIn K (.ref C) (.type "BaseException") = some true) && (decide (PySem.W.typeIn K (.ref C) = some (.type "type")) && PySem.W.keepIn K (.ref C))))
def veT : List Value := [.type "ValueError", .type "Exception", .type "BaseException", .type "object"]
def exTop : Str := "HallError"
def mroL (K : PySem.W.Frag) (c : Str) : List Value := if c = exTop then .ref (He.ga K c) :: veT else .ref (He.ga K c) :: .ref (He.ga K exTop) :: veT
def Fx.ok (K : PySem.W.Frag) : Fx → Bool
  | .oex c => oexB K (He.ga K c) && (He.eqO (PySem.W.findIn K (.ref (He.ga K c)) "__init__") (some (some (.ref (He.ma K (He.ga K c) "__init__")))) && decide (PySem.W.typeIn K (.ref (He.ma K (He.ga K c) "__init__")) = some (.type "function")))
  | .nof c f => He.eqO (PySem.W.findIn K (.ref (He.ga K c)) f) (some none)
  | .mro c => decide ((PySem.W.clsIn K (He.ga K c)).map (·.mro) = some (mroL K c)) && (decide (PySem.W.typeIn K (.ref (He.ga K c)) = some (.type "type")) && PySem.W.hasDictIn K (He.ga K c))
  | .exc c => He.eqO (PySem.W.findIn K (.ref (He.ga K c)) "__getattribute__") (some (some (.builtin "BaseException.__getattribute__"))) && (He.eqO (PySem.W.findIn K (.ref (He.ga K c)) "__getattr__") (some none) && (PySem.W.hasDictIn K (He.ga K c) && (He.eqO (PySem.W.findIn K (.ref (He.ga K c)) "__class__") (some (some (.builtin "object.__class__"))) &&
      (He.eqO (PySem.W.specialIn K (.builtin "object.__class__") "__get__") (some (some (.builtin "getset_descriptor.__get__"))) && decide (PySem.W.takesIn K (.builtin "object.__class__") = some true)))))
  | .bas c => PySem.W.readsIn K (He.ga K c) (.type "type") && (He.eqO (PySem.W.specialIn K (.ref (He.ga K c)) "__getattribute__") (some (some (.builtin "type.__getattribute__"))) && (match PySem.W.findCls K (.ref (He.ga K c)) (.type "type") "__init__" with
    | some (.val (.ref f)) => decide (f = He.ma K (He.ga K c) "__init__")
    | _ => false))
  | .dis l => decide ((l.map (He.ga K)).Nodup)
abbrev AlM : Type := Bool × He.AlD
def obsMG (fa : List He.Fa) (fx : List Fx) (fn : List He.DefD) (g : Addr → Option Obj) : AlM := (fx.all (fun f => f.ok (He.frG g (asM g))), He.obsD fa fn (He.frG g (asM g)))
/-- what the head leaves -/
structure SaysM (fa : List He.Fa) (fx : List Fx) (fn : List He.DefD) (K : PySem.W.Frag) : Prop where
  d : He.SaysD fa fn K
  x : ∀ f ∈ fx, f.ok K = true
def hookM (fa : List He.Fa) (fx : List Fx) (fn : List He.DefD) : PySem.W.Hook where
  α := AlM
  obs := fun s => obsMG fa fx fn s.heap.get?
  val := fun _ => (true, He.valD fn)
  says := fun _ h => ∃ K : PySem.W.Frag, K.In h ∧ SaysM fa fx fn K
  of := fun _ _ e => ⟨_, He.frG_in, ⟨congrArg (fun z : AlM => z.2) e, List.all_eq_true.mp (congrArg (fun z : AlM => z.1) e)⟩⟩
  keeps := fun _ _ _ ⟨K, hK, c⟩ k => ⟨K, PySem.W.Frag.In.keeps hK k, c⟩
theorem obsMG_eq {fa : List He.Fa} {fx : List Fx} {fn : List He.DefD} {g : Addr → Option Obj} {s : Shared} (h : ∀ a, g a = s.heap.get? a) : obsMG fa fx fn g = (hookM fa fx fn).obs s := by
  have e : g = s.heap.get? := funext h
  rw [e]; rfl
def frees : List Str := ["len", "abs", "int", "max", "sum", "all", "list", "isinstance", "tuple", "bool", "str", "range", "enumerate", "min", "any", "sorted", "dict", "zip"]
def clsSt (s : Stmt) (j : Nat) : Stmt := match s with
  | .ClassDef _ _ _ b _ _ _ _ _ _ _ => b.getD j (.Pass ⟨0, 0, 0, 0⟩)
  | _ => .Pass ⟨0, 0, 0, 0⟩
/-- which exceptions there are: those of one text, and BadLine -/
structure Xc where
  xs : List Str
  bl : Bool
def blL (X : Xc) : List Str := if X.bl = true then ["BadLine"] else []
def exA (X : Xc) : List Str := blL X ++ X.xs
def exU (X : Xc) : List Str := exTop :: exA X
def fldL : List (Str × Str) := [("Purses", "held"), ("Hall", "chest"), ("Hall", "down"), ("Hall", "clock"), ("Hall", "bills"), ("Hall", "done"), ("Bill", "drawer"), ("Bill", "drawee"), ("Bill", "payee"), ("Bill", "amount"), ("Bill", "due"), ("Bill", "slip"), ("Bill", "keeper"), ("Bill", "stage"), ("Bill", "edition"), ("Bill", "blank")]
/-- the facts that the head must tell -/
def faX (X : Xc) (fl : List (Str × Str)) : List He.Fa := (exU X).map .glo ++ (fl.map fun q => He.Fa.cls q.1) ++ fl.map fun q => He.Fa.noat q.1 q.2
def fxX (X : Xc) : List Fx := (exA X).map .oex ++ (((exA X).map fun c => Fx.nof c "why") ++ (((exA X).map fun c => Fx.nof c "word") ++ ((exU X).map .mro ++ ((exU X).map .exc ++ ([.bas exTop, .dis (exU X)] ++ (blL X).map fun c => Fx.nof c "at")))))
def ex25 : List Str := ["BadName", "Taken", "BadCoins", "Full", "NoHouse", "NoCoins", "Failed", "Standing", "BadCount", "BadDay", "NoBill", "Void", "Closed", "Accepted", "Same", "NotBlank", "NotYet", "NotPresented", "Protested", "TooLate", "NotBound", "CantPay", "NotProtested", "IsBound", "Twice"]
/-- the exceptions of the hall, and others -/
def xc (ys : List Str) (yb : Bool) : Xc := ⟨ex25 ++ ys, yb⟩
end Mn

namespace Mn
open PySem L2
def cmb (a b : AlM) : AlM := (a.1 && b.1, (a.2.1 && b.2.1, a.2.2 ++ b.2.2))
theorem obs_app {fa fa' : List He.Fa} {fx fx' : List Fx} {fn fn' : List He.DefD} {g : Addr → Option Obj} : obsMG (fa ++ fa') (fx ++ fx') (fn ++ fn') g = cmb (obsMG fa fx fn g) (obsMG fa' fx' fn' g) := by
  unfold obsMG cmb He.obsD
  simp only [List.all_append, List.map_append, Prod.mk.injEq, true_and, and_true]
  generalize (fa.all fun f => f.ok (He.frG g (asM g))) = a
  generalize (fa'.all fun f => f.ok (He.frG g (asM g))) = b
  generalize (fn.all fun d => d.ok (He.frG g (asM g))) = c
  generalize (fn'.all fun d => d.ok (He.frG g (asM g))) = d
  cases a <;> cases b <;> cases c <;> cases d <;> rfl
def obM (fa : List He.Fa) (fx : List Fx) (fn : List He.DefD) (s : PySem.W.SharedT) : AlM := obsMG fa fx fn (HandSHeadRun.getT s)
theorem obM_eq {fa : List He.Fa} {fx : List Fx} {fn : List He.DefD} (s : PySem.W.SharedT) : obM fa fx fn s = (hookM fa fx fn).obs s.abs := obsMG_eq (HandSHeadRun.getT_eq s)
/-- the head's run, looked at by a hook alone -/
def RunOb (r : PySem.W.OpenRow) (H : PySem.W.Hook) (ob : PySem.W.SharedT → H.α) (M : Nat) (w : World) : Prop :=
  ∀ os : OsState, (HandSHeadRun.endF (HandSHeadRun.stepQ (HandSHeadRun.denQ HandSHeadRun.tabQ) r.prog w) M r.prog w os).map ob = some (H.val w)
theorem ob_app {r : PySem.W.OpenRow} {M : Nat} {w : World} {fa fa' : List He.Fa} {fx fx' : List Fx} {fn fn' : List He.DefD} (h1 : RunOb r (hookM fa fx fn) (obM fa fx fn) M w) (h2 : RunOb r (hookM fa' fx' fn') (obM fa' fx' fn') M w) :
    RunOb r (hookM (fa ++ fa') (fx ++ fx') (fn ++ fn')) (obM (fa ++ fa') (fx ++ fx') (fn ++ fn')) M w := by
  intro os
  obtain ⟨s, hs, e3⟩ := Option.map_eq_some_iff.mp (h1 os)
  obtain ⟨s', hs', e4⟩ := Option.map_eq_some_iff.mp (h2 os)
  obtain rfl : s = s' := Option.some.inj (hs.symm.trans hs')
  refine Option.map_eq_some_iff.mpr ⟨s, hs, ?_⟩
  replace e3 : obM fa fx fn s = (true, He.valD fn) := e3
  replace e4 : obM fa' fx' fn' s = (true, He.valD fn') := e4
  show obM (fa ++ fa') (fx ++ fx') (fn ++ fn') s = (true, He.valD (fn ++ fn'))
  unfold obM at e3 e4 ⊢
  rw [obs_app, e3, e4]
  show cmb (true, He.valD fn) (true, He.valD fn') = _
  unfold cmb He.valD
  simp
theorem run_ob {r : PySem.W.OpenRow} {q : Program} {M : Nat} {nm : List PySem.Str} {w : World} {fa : List He.Fa} {fx : List Fx} {fn : List He.DefD} (h1 : RunOb r (hookM fa fx fn) (obM fa fx fn) M w) (h2 : HandSHeadRun.RunEq r q (hookM [] [] []) (obM [] [] []) M nm w) :
    HandSHeadRun.RunEq r q (hookM fa fx fn) (obM fa fx fn) M nm w := by
  intro os
  obtain ⟨s, hs, e3⟩ := Option.map_eq_some_iff.mp (h1 os)
  obtain ⟨s', hs', e'⟩ := Option.map_eq_some_iff.mp (h2 os)
  obtain rfl : s = s' := Option.some.inj (hs.symm.trans hs')
  exact Option.map_eq_some_iff.mpr ⟨s, hs, Prod.ext (congrArg (fun z => z.1) e') (Prod.ext (congrArg (fun z => z.2.1) e') e3)⟩
end Mn
namespace Mn
open PySem L2
def stAt (i : Nat) : Stmt := PySem.Challenge.pw_allonge_k08_houses_and_coins.main.body.getD i (.Pass ⟨0, 0, 0, 0⟩)
def d_is_name : He.DefD := ⟨("is_name", none), "is_name", "is_name", defArgs (stAt 30), defBody (stAt 30), defScope (stAt 30), [], []⟩
def d_Purses___init__ : He.DefD := ⟨("Purses", some "__init__"), "__init__", "Purses.__init__", defArgs (clsSt (stAt 48) 0), defBody (clsSt (stAt 48) 0), defScope (clsSt (stAt 48) 0), [], []⟩
def d_Purses_need : He.DefD := ⟨("Purses", some "need"), "need", "Purses.need", defArgs (clsSt (stAt 48) 1), defBody (clsSt (stAt 48) 1), defScope (clsSt (stAt 48) 1), [], []⟩
def d_Purses_look_at : He.DefD := ⟨("Purses", some "look_at"), "look_at", "Purses.look_at", defArgs (clsSt (stAt 48) 2), defBody (clsSt (stAt 48) 2), defScope (clsSt (stAt 48) 2), [], []⟩
def d_Purses_add_purse : He.DefD := ⟨("Purses", some "add_purse"), "add_purse", "Purses.add_purse", defArgs (clsSt (stAt 48) 3), defBody (clsSt (stAt 48) 3), defScope (clsSt (stAt 48) 3), [], []⟩
def d_Purses_coins : He.DefD := ⟨("Purses", some "coins"), "coins", "Purses.coins", defArgs (clsSt (stAt 48) 4), defBody (clsSt (stAt 48) 4), defScope (clsSt (stAt 48) 4), [], []⟩
def d_Purses_fill : He.DefD := ⟨("Purses", some "fill"), "fill", "Purses.fill", defArgs (clsSt (stAt 48) 5), defBody (clsSt (stAt 48) 5), defScope (clsSt (stAt 48) 5), [], []⟩
def d_Purses_spend : He.DefD := ⟨("Purses", some "spend"), "spend", "Purses.spend", defArgs (clsSt (stAt 48) 6), defBody (clsSt (stAt 48) 6), defScope (clsSt (stAt 48) 6), [], []⟩
def d_Hall___init__ : He.DefD := ⟨("Hall", some "__init__"), "__init__", "Hall.__init__", defArgs (clsSt (stAt 54) 0), defBody (clsSt (stAt 54) 0), defScope (clsSt (stAt 54) 0), [], []⟩
def d_Hall_need : He.DefD := ⟨("Hall", some "need"), "need", "Hall.need", defArgs (clsSt (stAt 54) 1), defBody (clsSt (stAt 54) 1), defScope (clsSt (stAt 54) 1), [], []⟩
def d_Hall_must_stand : He.DefD := ⟨("Hall", some "must_stand"), "must_stand", "Hall.must_stand", defArgs (clsSt (stAt 54) 2), defBody (clsSt (stAt 54) 2), defScope (clsSt (stAt 54) 2), [], []⟩
def d_Hall_house : He.DefD := ⟨("Hall", some "house"), "house", "Hall.house", defArgs (clsSt (stAt 54) 5), defBody (clsSt (stAt 54) 5), defScope (clsSt (stAt 54) 5), [], []⟩
def d_Hall_look_at_coins : He.DefD := ⟨("Hall", some "look_at_coins"), "look_at_coins", "Hall.look_at_coins", defArgs (clsSt (stAt 54) 6), defBody (clsSt (stAt 54) 6), defScope (clsSt (stAt 54) 6), [], []⟩
def d_Hall_put_in : He.DefD := ⟨("Hall", some "put_in"), "put_in", "Hall.put_in", defArgs (clsSt (stAt 54) 7), defBody (clsSt (stAt 54) 7), defScope (clsSt (stAt 54) 7), [], []⟩
def d_Hall_take_out : He.DefD := ⟨("Hall", some "take_out"), "take_out", "Hall.take_out", defArgs (clsSt (stAt 54) 8), defBody (clsSt (stAt 54) 8), defScope (clsSt (stAt 54) 8), [], []⟩
def d_Hall_fail : He.DefD := ⟨("Hall", some "fail"), "fail", "Hall.fail", defArgs (clsSt (stAt 54) 9), defBody (clsSt (stAt 54) 9), defScope (clsSt (stAt 54) 9), [], []⟩
def d_Hall_mend : He.DefD := ⟨("Hall", some "mend"), "mend", "Hall.mend", defArgs (clsSt (stAt 54) 10), defBody (clsSt (stAt 54) 10), defScope (clsSt (stAt 54) 10), [], []⟩
def d_Hall_pass_days : He.DefD := ⟨("Hall", some "pass_days"), "pass_days", "Hall.pass_days", defArgs (clsSt (stAt 54) 11), defBody (clsSt (stAt 54) 11), defScope (clsSt (stAt 54) 11), [], []⟩
def d_Hall_names : He.DefD := ⟨("Hall", some "names"), "names", "Hall.names", defArgs (clsSt (stAt 54) 26), defBody (clsSt (stAt 54) 26), defScope (clsSt (stAt 54) 26), [], []⟩
def d_Hall_coins : He.DefD := ⟨("Hall", some "coins"), "coins", "Hall.coins", defArgs (clsSt (stAt 54) 27), defBody (clsSt (stAt 54) 27), defScope (clsSt (stAt 54) 27), [], []⟩
def d_Hall_stands : He.DefD := ⟨("Hall", some "stands"), "stands", "Hall.stands", defArgs (clsSt (stAt 54) 28), defBody (clsSt (stAt 54) 28), defScope (clsSt (stAt 54) 28), [], []⟩
def d_Hall_today : He.DefD := ⟨("Hall", some "today"), "today", "Hall.today", defArgs (clsSt (stAt 54) 29), defBody (clsSt (stAt 54) 29), defScope (clsSt (stAt 54) 29), [], []⟩
def d_Hall_many_bills : He.DefD := ⟨("Hall", some "many_bills"), "many_bills", "Hall.many_bills", defArgs (clsSt (stAt 54) 30), defBody (clsSt (stAt 54) 30), defScope (clsSt (stAt 54) 30), [], []⟩
def d_Hall_story : He.DefD := ⟨("Hall", some "story"), "story", "Hall.story", defArgs (clsSt (stAt 54) 37), defBody (clsSt (stAt 54) 37), defScope (clsSt (stAt 54) 37), [], []⟩
def d_Hall_moment : He.DefD := ⟨("Hall", some "moment"), "moment", "Hall.moment", defArgs (clsSt (stAt 54) 38), defBody (clsSt (stAt 54) 38), defScope (clsSt (stAt 54) 38), [], []⟩
def d_do_simple : He.DefD := ⟨("do_simple", none), "do_simple", "do_simple", defArgs (stAt 56), defBody (stAt 56), defScope (stAt 56), [], []⟩
def d_do_deed : He.DefD := ⟨("do_deed", none), "do_deed", "do_deed", defArgs (stAt 58), defBody (stAt 58), defScope (stAt 58), [], []⟩
def d__law_feed : He.DefD := ⟨("_law_feed", none), "_law_feed", "_law_feed", defArgs (stAt 60), defBody (stAt 60), defScope (stAt 60), [], []⟩
def d__law_name : He.DefD := ⟨("_law_name", none), "_law_name", "_law_name", defArgs (stAt 61), defBody (stAt 61), defScope (stAt 61), [], []⟩
def d__law_same : He.DefD := ⟨("_law_same", none), "_law_same", "_law_same", defArgs (stAt 64), defBody (stAt 64), defScope (stAt 64), [], []⟩
def d__law_is_name : He.DefD := ⟨("_law_is_name", none), "_law_is_name", "_law_is_name", defArgs (stAt 65), defBody (stAt 65), defScope (stAt 65), [], []⟩
def d__law_checks : He.DefD := ⟨("_law_checks", none), "_law_checks", "_law_checks", defArgs (stAt 70), defBody (stAt 70), defScope (stAt 70), [], []⟩
def d__law_word : He.DefD := ⟨("_law_word", none), "_law_word", "_law_word", defArgs (stAt 71), defBody (stAt 71), defScope (stAt 71), [], []⟩
def d__law_done : He.DefD := ⟨("_law_done", none), "_law_done", "_law_done", defArgs (stAt 75), defBody (stAt 75), defScope (stAt 75), [], []⟩
def d__law_tried : He.DefD := ⟨("_law_tried", none), "_law_tried", "_law_tried", defArgs (stAt 77), defBody (stAt 77), defScope (stAt 77), [], []⟩
def d__law_stands : He.DefD := ⟨("_law_stands", none), "_law_stands", "_law_stands", defArgs (stAt 78), defBody (stAt 78), defScope (stAt 78), [], []⟩
def d__law_step : He.DefD := ⟨("_law_step", none), "_law_step", "_law_step", defArgs (stAt 79), defBody (stAt 79), defScope (stAt 79), [], []⟩
def d__law_small : He.DefD := ⟨("_law_small", none), "_law_small", "_law_small", defArgs (stAt 80), defBody (stAt 80), defScope (stAt 80), [], []⟩
def d_law : He.DefD := ⟨("law", none), "law", "law", defArgs (stAt 81), defBody (stAt 81), defScope (stAt 81), [], []⟩
def x_HallError : He.DefD := ⟨("HallError", some "__init__"), "__init__", "HallError.__init__", defArgs (clsSt (stAt 2) 0), defBody (clsSt (stAt 2) 0), defScope (clsSt (stAt 2) 0), [], []⟩
def x_BadName : He.DefD := ⟨("BadName", some "__init__"), "__init__", "BadName.__init__", defArgs (clsSt (stAt 3) 0), defBody (clsSt (stAt 3) 0), defScope (clsSt (stAt 3) 0), [], []⟩
def x_Taken : He.DefD := ⟨("Taken", some "__init__"), "__init__", "Taken.__init__", defArgs (clsSt (stAt 4) 0), defBody (clsSt (stAt 4) 0), defScope (clsSt (stAt 4) 0), [], []⟩
def x_BadCoins : He.DefD := ⟨("BadCoins", some "__init__"), "__init__", "BadCoins.__init__", defArgs (clsSt (stAt 5) 0), defBody (clsSt (stAt 5) 0), defScope (clsSt (stAt 5) 0), [], []⟩
def x_Full : He.DefD := ⟨("Full", some "__init__"), "__init__", "Full.__init__", defArgs (clsSt (stAt 6) 0), defBody (clsSt (stAt 6) 0), defScope (clsSt (stAt 6) 0), [], []⟩
def x_NoHouse : He.DefD := ⟨("NoHouse", some "__init__"), "__init__", "NoHouse.__init__", defArgs (clsSt (stAt 7) 0), defBody (clsSt (stAt 7) 0), defScope (clsSt (stAt 7) 0), [], []⟩
def x_NoCoins : He.DefD := ⟨("NoCoins", some "__init__"), "__init__", "NoCoins.__init__", defArgs (clsSt (stAt 8) 0), defBody (clsSt (stAt 8) 0), defScope (clsSt (stAt 8) 0), [], []⟩
def x_Failed : He.DefD := ⟨("Failed", some "__init__"), "__init__", "Failed.__init__", defArgs (clsSt (stAt 9) 0), defBody (clsSt (stAt 9) 0), defScope (clsSt (stAt 9) 0), [], []⟩
def x_Standing : He.DefD := ⟨("Standing", some "__init__"), "__init__", "Standing.__init__", defArgs (clsSt (stAt 10) 0), defBody (clsSt (stAt 10) 0), defScope (clsSt (stAt 10) 0), [], []⟩
def x_BadCount : He.DefD := ⟨("BadCount", some "__init__"), "__init__", "BadCount.__init__", defArgs (clsSt (stAt 11) 0), defBody (clsSt (stAt 11) 0), defScope (clsSt (stAt 11) 0), [], []⟩
def x_BadDay : He.DefD := ⟨("BadDay", some "__init__"), "__init__", "BadDay.__init__", defArgs (clsSt (stAt 12) 0), defBody (clsSt (stAt 12) 0), defScope (clsSt (stAt 12) 0), [], []⟩
def x_NoBill : He.DefD := ⟨("NoBill", some "__init__"), "__init__", "NoBill.__init__", defArgs (clsSt (stAt 13) 0), defBody (clsSt (stAt 13) 0), defScope (clsSt (stAt 13) 0), [], []⟩
def x_Void : He.DefD := ⟨("Void", some "__init__"), "__init__", "Void.__init__", defArgs (clsSt (stAt 14) 0), defBody (clsSt (stAt 14) 0), defScope (clsSt (stAt 14) 0), [], []⟩
def x_Closed : He.DefD := ⟨("Closed", some "__init__"), "__init__", "Closed.__init__", defArgs (clsSt (stAt 15) 0), defBody (clsSt (stAt 15) 0), defScope (clsSt (stAt 15) 0), [], []⟩
def x_Accepted : He.DefD := ⟨("Accepted", some "__init__"), "__init__", "Accepted.__init__", defArgs (clsSt (stAt 16) 0), defBody (clsSt (stAt 16) 0), defScope (clsSt (stAt 16) 0), [], []⟩
def x_Same : He.DefD := ⟨("Same", some "__init__"), "__init__", "Same.__init__", defArgs (clsSt (stAt 17) 0), defBody (clsSt (stAt 17) 0), defScope (clsSt (stAt 17) 0), [], []⟩
def x_NotBlank : He.DefD := ⟨("NotBlank", some "__init__"), "__init__", "NotBlank.__init__", defArgs (clsSt (stAt 18) 0), defBody (clsSt (stAt 18) 0), defScope (clsSt (stAt 18) 0), [], []⟩
def x_NotYet : He.DefD := ⟨("NotYet", some "__init__"), "__init__", "NotYet.__init__", defArgs (clsSt (stAt 19) 0), defBody (clsSt (stAt 19) 0), defScope (clsSt (stAt 19) 0), [], []⟩
def x_NotPresented : He.DefD := ⟨("NotPresented", some "__init__"), "__init__", "NotPresented.__init__", defArgs (clsSt (stAt 20) 0), defBody (clsSt (stAt 20) 0), defScope (clsSt (stAt 20) 0), [], []⟩
def x_Protested : He.DefD := ⟨("Protested", some "__init__"), "__init__", "Protested.__init__", defArgs (clsSt (stAt 21) 0), defBody (clsSt (stAt 21) 0), defScope (clsSt (stAt 21) 0), [], []⟩
def x_TooLate : He.DefD := ⟨("TooLate", some "__init__"), "__init__", "TooLate.__init__", defArgs (clsSt (stAt 22) 0), defBody (clsSt (stAt 22) 0), defScope (clsSt (stAt 22) 0), [], []⟩
def x_NotBound : He.DefD := ⟨("NotBound", some "__init__"), "__init__", "NotBound.__init__", defArgs (clsSt (stAt 23) 0), defBody (clsSt (stAt 23) 0), defScope (clsSt (stAt 23) 0), [], []⟩
def x_CantPay : He.DefD := ⟨("CantPay", some "__init__"), "__init__", "CantPay.__init__", defArgs (clsSt (stAt 24) 0), defBody (clsSt (stAt 24) 0), defScope (clsSt (stAt 24) 0), [], []⟩
def x_NotProtested : He.DefD := ⟨("NotProtested", some "__init__"), "__init__", "NotProtested.__init__", defArgs (clsSt (stAt 25) 0), defBody (clsSt (stAt 25) 0), defScope (clsSt (stAt 25) 0), [], []⟩
def x_IsBound : He.DefD := ⟨("IsBound", some "__init__"), "__init__", "IsBound.__init__", defArgs (clsSt (stAt 26) 0), defBody (clsSt (stAt 26) 0), defScope (clsSt (stAt 26) 0), [], []⟩
def x_Twice : He.DefD := ⟨("Twice", some "__init__"), "__init__", "Twice.__init__", defArgs (clsSt (stAt 27) 0), defBody (clsSt (stAt 27) 0), defScope (clsSt (stAt 27) 0), [], []⟩
def fn0 : List He.DefD := [d_is_name, d_Purses___init__, d_Purses_need, d_Purses_look_at, d_Purses_add_purse, d_Purses_coins, d_Purses_fill, d_Purses_spend, d_Hall___init__, d_Hall_need, d_Hall_must_stand, d_Hall_house, d_Hall_look_at_coins, d_Hall_put_in, d_Hall_take_out, d_Hall_fail, d_Hall_mend, d_Hall_pass_days, d_Hall_names, d_Hall_coins]
def fn1 : List He.DefD := [d_Hall_stands, d_Hall_today, d_Hall_many_bills, d_Hall_story, d_Hall_moment, d_do_simple, d_do_deed, d__law_feed, d__law_name, d__law_same, d__law_is_name, d__law_checks, d__law_word, d__law_done, d__law_tried, d__law_stands, d__law_step, d__law_small, d_law, x_HallError]
def fn2 : List He.DefD := [x_BadName, x_Taken, x_BadCoins, x_Full, x_NoHouse, x_NoCoins, x_Failed, x_Standing, x_BadCount, x_BadDay, x_NoBill, x_Void, x_Closed, x_Accepted, x_Same, x_NotBlank, x_NotYet, x_NotPresented, x_Protested, x_TooLate]
def fn3 : List He.DefD := [x_NotBound, x_CantPay, x_NotProtested, x_IsBound, x_Twice]
def fnA : List He.DefD := fn0 ++ fn1 ++ fn2 ++ fn3
def fa0 : List He.Fa := [.glo "is_name", .glo "Purses", .cls "Purses", .mkr "Purses", .meth "Purses" "need", .meth "Purses" "look_at", .meth "Purses" "add_purse", .meth "Purses" "coins", .meth "Purses" "fill", .meth "Purses" "spend", .glo "Hall", .cls "Hall", .mkr "Hall", .meth "Hall" "need", .meth "Hall" "must_stand", .meth "Hall" "house", .meth "Hall" "look_at_coins", .meth "Hall" "put_in", .meth "Hall" "take_out", .meth "Hall" "fail"]
def fa1 : List He.Fa := [.meth "Hall" "mend", .meth "Hall" "pass_days", .meth "Hall" "names", .meth "Hall" "coins", .meth "Hall" "stands", .meth "Hall" "today", .meth "Hall" "many_bills", .meth "Hall" "story", .meth "Hall" "moment", .glo "do_simple", .glo "do_deed", .glo "_law_feed", .glo "_law_name", .glo "_law_same", .glo "_law_is_name", .glo "_law_checks", .glo "_law_word", .glo "_law_done", .glo "_law_tried", .glo "_law_stands"]
def fa2 : List He.Fa := [.glo "_law_step", .glo "_law_small", .glo "law", .str "LETTERS" "abcdefghijklmnopqrstuvwxyz", .int "HOUSES_MOST" 9, .int "COINS_MOST" 1000000000000, .int "DAYS_MOST" 1000]
def XA : Xc := xc [] false
def faA : List He.Fa := frees.map He.Fa.free ++ ((fa0 ++ fa1 ++ fa2) ++ faX XA fldL)
def fxA : List Fx := fxX XA
def nm0 : List PySem.Str := ["_wall", "__name__", "HallError", "BadName", "Taken", "BadCoins", "Full", "NoHouse", "NoCoins", "Failed", "Standing", "BadCount", "BadDay", "NoBill", "Void", "Closed", "Accepted", "Same", "NotBlank", "NotYet"]
def nm1 : List PySem.Str := ["NotPresented", "Protested", "TooLate", "NotBound", "CantPay", "NotProtested", "IsBound", "Twice", "LETTERS", "is_name", "reach", "askable", "returned", "honoured", "SIGNERS_MOST", "COPIES_MOST", "GRACE", "Bill", "look_at_names", "bills_at"]
def nm2 : List PySem.Str := ["owed_at", "debts", "pays_itself", "crowd", "Purses", "HOUSES_MOST", "BILLS_MOST", "COINS_MOST", "DAYS_MOST", "Hall", "do_simple", "do_paper", "do_deed", "_law_feed", "_law_name", "_law_reach", "_law_askable", "_law_same", "_law_is_name", "_law_able"]
def nm3 : List PySem.Str := ["_law_open", "_law_back_checks", "_law_bill_checks", "_law_checks", "_law_word", "_law_pay", "_law_paid_back", "_law_due_day", "_law_done", "_law_bill_done", "_law_tried", "_law_stands", "_law_step", "_law_small"]
def nmA : List PySem.Str := nm0 ++ nm1 ++ nm2 ++ nm3
abbrev R0 : PySem.W.OpenRow := PySem.W.OpenLaw.row PySem.Challenge.rw_allonge_k08_houses_and_coins
abbrev hkA : PySem.W.Hook := hookM faA fxA fnA
def obA (s : PySem.W.SharedT) : AlM := obsMG faA fxA fnA (HandSHeadRun.getT s)
theorem obA_eq (s : PySem.W.SharedT) : obA s = hkA.obs s.abs := obsMG_eq (HandSHeadRun.getT_eq s)
theorem runP0 (w : World) : RunOb R0 (hookM (frees.map He.Fa.free) [] (fn0 ++ fn1)) (obM (frees.map He.Fa.free) [] (fn0 ++ fn1)) 100000 w := by
  intro os
  kernel_rfl
theorem runP1 (w : World) : RunOb R0 (hookM ((fa0 ++ fa1 ++ fa2) ++ faX XA fldL) fxA (fn2 ++ fn3)) (obM ((fa0 ++ fa1 ++ fa2) ++ faX XA fldL) fxA (fn2 ++ fn3)) 100000 w := by
  intro os
  kernel_rfl
theorem runE (w : World) : HandSHeadRun.RunEq R0 (PySem.W.view R0.prog [81]) (hookM [] [] []) (obM [] [] []) 100000 nmA w := by
  intro os
  kernel_rfl
theorem fn_two : fnA = (fn0 ++ fn1) ++ (fn2 ++ fn3) := List.append_assoc _ _ _
theorem runA (w : World) : HandSHeadRun.RunEq R0 (PySem.W.view R0.prog [81]) hkA obA 100000 nmA w := by
  have h := run_ob (ob_app (runP0 w) (runP1 w)) (runE w)
  rw [← fn_two] at h
  exact h
end Mn

namespace Mn
open PySem L2

/-! ### data: tuples and frozen lists are values, mutable things are addresses -/
inductive D where
  | non | bl (b : Bool) | int (i : Int) | str (x : Str) | ty (n : String) | ref (a : Addr)
  | tup (xs : List D) | lst (xs : List D) | scr (ns : List Int)
inductive MO where
  | lst (xs : List D)
  | dct (kvs : List (Key × D))
  | dcT (kvs : List (List Key × D))
  | ins (c : Str) (fs : List (Str × D))
abbrev Sto := Addr → Option MO
/-! ### tables, fields -/
section
variable {κ α : Type} [DecidableEq κ]
def gv (kvs : List (κ × α)) (k : κ) : Option α := (kvs.find? fun kv => decide (kv.1 = k)).map (·.2)
def gp (kvs : List (κ × α)) (k : κ) (v : α) : List (κ × α) := if (kvs.any fun kv => decide (kv.1 = k)) = true then kvs.map (fun kv => if kv.1 = k then (kv.1, v) else kv) else kvs ++ [(k, v)]
def pf (f : κ) (v : α) : List (κ × α) → List (κ × α)
  | [] => [(f, v)]
  | (g, x) :: r => if g = f then (g, v) :: r else (g, x) :: pf f v r
end
abbrev Env := List (Option D)
def put (S : Sto) (a : Addr) (o : MO) : Sto := fun b => if b = a then some o else S b
def rm (S : Sto) (a : Addr) : Sto := fun b => if b = a then none else S b
theorem put_same {S : Sto} {a : Addr} {o : MO} : put S a o a = some o := by unfold put; rw [if_pos rfl]
theorem put_ne {S : Sto} {a b : Addr} {o : MO} (h : b ≠ a) : put S a o b = S b := by unfold put; rw [if_neg h]
theorem rm_same {S : Sto} {a : Addr} : rm S a a = none := by unfold rm; rw [if_pos rfl]
theorem rm_ne {S : Sto} {a b : Addr} (h : b ≠ a) : rm S a b = S b := by unfold rm; rw [if_neg h]
theorem put_put {S : Sto} {a : Addr} {o u : MO} : put (put S a o) a u = put S a u := by
  funext b; unfold put; split <;> rfl
theorem rm_put {S : Sto} {a : Addr} {o : MO} (h : S a = none) : rm (put S a o) a = S := by
  funext b; unfold rm put; split
  · rename_i e; rw [e, h]
  · rfl

/-- where one stands: the written part, the classes' addresses, the lists that are being made -/
structure Cc where
  K : PySem.W.Frag
  ga : Str → Addr
  Z : Addr → Prop

def KT (K : PySem.W.Frag) (a : Addr) (xs : List V) : Prop := ∃ (o : Obj) (its : Array Value) (n : Nat), K.lookup a = some o ∧ o.cls = .type "tuple" ∧ o.data = .seq its n ∧ its.size ≤ sizeLine ∧ Vals xs its.toList
def KL (K : PySem.W.Frag) (a : Addr) (xs : List V) : Prop := ∃ (o : Obj) (its : Array Value) (n : Nat), K.lookup a = some o ∧ o.cls = .type "list" ∧ o.dict = none ∧ o.data = .seq its n ∧ its.size ≤ sizeLine ∧ Vals xs its.toList
def FzT (C : Cc) (H : Hp) (S : Sto) (a : Addr) (vs : List V) : Prop := (H a = some (.tup vs) ∧ S a = none) ∨ KT C.K a vs
def FzL (C : Cc) (H : Hp) (S : Sto) (a : Addr) (vs : List V) : Prop := H a = some (.lst vs) ∧ S a = none ∧ ¬ C.Z a
theorem FzT.sq {C : Cc} {H : Hp} {S : Sto} {a : Addr} {vs : List V} (h : FzT C H S a vs) : SqT C.K H a vs := by
  rcases h with ⟨h, _⟩ | h
  · exact .inl (.inl h)
  · exact .inr h
theorem FzL.sq {C : Cc} {H : Hp} {S : Sto} {a : Addr} {vs : List V} (h : FzL C H S a vs) : SqL C.K H a vs := .inl (.inl h.1)

mutual
def RelD (C : Cc) (H : Hp) (S : Sto) : D → V → Prop
  | .non, v => v = .non
  | .bl b, v => v = .bl b
  | .int i, v => v = .int i
  | .str x, v => v = .str x ∧ PySem.PyData.strOk x = true
  | .ty n, v => v = .ty n
  | .ref a, v => v = .ref a
  | .tup ds, v => ∃ a vs, v = .ref a ∧ FzT C H S a vs ∧ RelDs C H S ds vs
  | .lst ds, v => ∃ a vs, v = .ref a ∧ FzL C H S a vs ∧ RelDs C H S ds vs
  | .scr ns, v => ∃ a, v = .ref a ∧ ((Rd H a (.lst (ns.map V.int)) ∧ S a = none ∧ ¬ C.Z a) ∨ KL C.K a (ns.map V.int))
def RelDs (C : Cc) (H : Hp) (S : Sto) : List D → List V → Prop
  | [], vs => vs = []
  | d :: ds, vs => ∃ v r, vs = v :: r ∧ RelD C H S d v ∧ RelDs C H S ds r
end

/-- what is tracked and not in the store stays -/
def Ext (H : Hp) (S : Sto) (H' : Hp) (S' : Sto) : Prop := ∀ b u, H b = some u → S b = none → H' b = some u ∧ S' b = none
theorem Ext.refl (H : Hp) (S : Sto) : Ext H S H S := fun _ _ h s => ⟨h, s⟩
theorem Ext.trans {H H1 H2 : Hp} {S S1 S2 : Sto} (a : Ext H S H1 S1) (b : Ext H1 S1 H2 S2) : Ext H S H2 S2 := fun c u h s => by
  obtain ⟨h1, s1⟩ := a c u h s
  exact b c u h1 s1
theorem Ext.new {H : Hp} {S : Sto} {p : Addr} {o : HO} (h : H p = none) : Ext H S (upd H p o) S := fun b u e s => ⟨by rw [upd_ne (ne_of_none e h)]; exact e, s⟩
theorem Ext.newM {H : Hp} {S : Sto} {p : Addr} {o : HO} {m : MO} (h : H p = none) : Ext H S (upd H p o) (put S p m) := fun b u e s => by
  have n := ne_of_none e h
  exact ⟨by rw [upd_ne n]; exact e, by rw [put_ne n]; exact s⟩
theorem Ext.set {H : Hp} {S : Sto} {p : Addr} {o : HO} {m m' : MO} (h : S p = some m') : Ext H S (upd H p o) (put S p m) := fun b u e s => by
  have n : b ≠ p := fun z => by subst z; rw [h] at s; cases s
  exact ⟨by rw [upd_ne n]; exact e, by rw [put_ne n]; exact s⟩
theorem Ext.rm {H : Hp} {S : Sto} {p : Addr} : Ext H S H (rm S p) := fun b u e s => ⟨e, by unfold Mn.rm; split <;> first | rfl | exact s⟩

section
variable {C : Cc} {H H' : Hp} {S S' : Sto}
theorem Rd.ext {a : Addr} {u : HO} (h : Rd H a u) (s : S a = none) (e : Ext H S H' S') : Rd H' a u ∧ S' a = none := by
  rcases h with h | ⟨o, h⟩
  · exact ⟨.inl (e _ _ h s).1, (e _ _ h s).2⟩
  · exact ⟨.inr ⟨o, (e _ _ h s).1⟩, (e _ _ h s).2⟩
theorem FzT.ext {a : Addr} {vs : List V} (h : FzT C H S a vs) (e : Ext H S H' S') : FzT C H' S' a vs := by
  rcases h with ⟨h, s⟩ | h
  · exact .inl (e _ _ h s)
  · exact .inr h
theorem FzL.ext {a : Addr} {vs : List V} (h : FzL C H S a vs) (e : Ext H S H' S') : FzL C H' S' a vs :=
  ⟨(e _ _ h.1 h.2.1).1, (e _ _ h.1 h.2.1).2, h.2.2⟩
mutual
theorem RelD.ext (e : Ext H S H' S') : ∀ {d : D} {v : V}, RelD C H S d v → RelD C H' S' d v
  | .non, _, h => by unfold RelD at h ⊢; exact h
  | .bl _, _, h => by unfold RelD at h ⊢; exact h
  | .int _, _, h => by unfold RelD at h ⊢; exact h
  | .str _, _, h => by unfold RelD at h ⊢; exact h
  | .ty _, _, h => by unfold RelD at h ⊢; exact h
  | .ref _, _, h => by unfold RelD at h ⊢; exact h
  | .tup _, _, h => by
    unfold RelD at h ⊢
    obtain ⟨a, vs, rfl, f, r⟩ := h
    exact ⟨a, vs, rfl, f.ext e, RelDs.ext e r⟩
  | .lst _, _, h => by
    unfold RelD at h ⊢
    obtain ⟨a, vs, rfl, f, r⟩ := h
    exact ⟨a, vs, rfl, f.ext e, RelDs.ext e r⟩
  | .scr _, _, h => by
    unfold RelD at h ⊢
    obtain ⟨a, rfl, ⟨f, r, z⟩ | f⟩ := h
    · exact ⟨a, rfl, .inl ⟨(Rd.ext f r e).1, (Rd.ext f r e).2, z⟩⟩
    · exact ⟨a, rfl, .inr f⟩
theorem RelDs.ext (e : Ext H S H' S') : ∀ {ds : List D} {vs : List V}, RelDs C H S ds vs → RelDs C H' S' ds vs
  | [], _, h => by unfold RelDs at h ⊢; exact h
  | _ :: _, _, h => by
    unfold RelDs at h ⊢
    obtain ⟨v, r, rfl, h1, h2⟩ := h
    exact ⟨v, r, rfl, RelD.ext e h1, RelDs.ext e h2⟩
end
/-- fewer lists in the making -/
def Cc.wz (C : Cc) (Z : Addr → Prop) : Cc := { C with Z := Z }
mutual
theorem RelD.wz {Z : Addr → Prop} (e : ∀ a, Z a → C.Z a ∨ H a = none) : ∀ {d : D} {v : V}, RelD C H S d v → RelD (C.wz Z) H S d v
  | .non, _, h => by unfold RelD at h ⊢; exact h
  | .bl _, _, h => by unfold RelD at h ⊢; exact h
  | .int _, _, h => by unfold RelD at h ⊢; exact h
  | .str _, _, h => by unfold RelD at h ⊢; exact h
  | .ty _, _, h => by unfold RelD at h ⊢; exact h
  | .ref _, _, h => by unfold RelD at h ⊢; exact h
  | .tup _, _, h => by
    unfold RelD at h ⊢
    obtain ⟨a, vs, rfl, f, r⟩ := h
    exact ⟨a, vs, rfl, f, RelDs.wz e r⟩
  | .lst _, _, h => by
    unfold RelD at h ⊢
    obtain ⟨a, vs, rfl, f, r⟩ := h
    exact ⟨a, vs, rfl, ⟨f.1, f.2.1, fun z => (e a z).elim f.2.2 fun q => by rw [f.1] at q; cases q⟩, RelDs.wz e r⟩
  | .scr _, _, h => by
    unfold RelD at h ⊢
    obtain ⟨a, rfl, ⟨f, r, z⟩ | f⟩ := h
    · refine ⟨a, rfl, .inl ⟨f, r, fun q => (e a q).elim z fun w => ?_⟩⟩
      rcases f with f | ⟨o, f⟩ <;> (rw [w] at f; cases f)
    · exact ⟨a, rfl, .inr f⟩
theorem RelDs.wz {Z : Addr → Prop} (e : ∀ a, Z a → C.Z a ∨ H a = none) : ∀ {ds : List D} {vs : List V}, RelDs C H S ds vs → RelDs (C.wz Z) H S ds vs
  | [], _, h => by unfold RelDs at h ⊢; exact h
  | _ :: _, _, h => by
    unfold RelDs at h ⊢
    obtain ⟨v, r, rfl, h1, h2⟩ := h
    exact ⟨v, r, rfl, RelD.wz e h1, RelDs.wz e h2⟩
end
end

/-- moved to another heap and store: what is frozen must stay -/
structure Mv (C C' : Cc) (H H' : Hp) (S S' : Sto) : Prop where
  K : C'.K = C.K
  t : ∀ a vs, H a = some (.tup vs) → S a = none → H' a = some (.tup vs) ∧ S' a = none
  l : ∀ a u, H a = some u → S a = none → ¬ C.Z a → H' a = some u ∧ S' a = none ∧ ¬ C'.Z a
section
variable {C C' : Cc} {H H' : Hp} {S S' : Sto}
mutual
theorem RelD.mv (e : Mv C C' H H' S S') : ∀ {d : D} {v : V}, RelD C H S d v → RelD C' H' S' d v
  | .non, _, h => by unfold RelD at h ⊢; exact h
  | .bl _, _, h => by unfold RelD at h ⊢; exact h
  | .int _, _, h => by unfold RelD at h ⊢; exact h
  | .str _, _, h => by unfold RelD at h ⊢; exact h
  | .ty _, _, h => by unfold RelD at h ⊢; exact h
  | .ref _, _, h => by unfold RelD at h ⊢; exact h
  | .tup _, _, h => by
    unfold RelD at h ⊢
    obtain ⟨a, vs, rfl, f, r⟩ := h
    refine ⟨a, vs, rfl, ?_, RelDs.mv e r⟩
    rcases f with ⟨f, s⟩ | f
    · exact .inl (e.t _ _ f s)
    · exact .inr (by rw [e.K]; exact f)
  | .lst _, _, h => by
    unfold RelD at h ⊢
    obtain ⟨a, vs, rfl, f, r⟩ := h
    exact ⟨a, vs, rfl, e.l _ _ f.1 f.2.1 f.2.2, RelDs.mv e r⟩
  | .scr _, _, h => by
    unfold RelD at h ⊢
    obtain ⟨a, rfl, ⟨(f | ⟨o, f⟩), r, z⟩ | f⟩ := h
    · obtain ⟨h1, h2, h3⟩ := e.l _ _ f r z
      exact ⟨a, rfl, .inl ⟨.inl h1, h2, h3⟩⟩
    · obtain ⟨h1, h2, h3⟩ := e.l _ _ f r z
      exact ⟨a, rfl, .inl ⟨.inr ⟨o, h1⟩, h2, h3⟩⟩
    · exact ⟨a, rfl, .inr (by rw [e.K]; exact f)⟩
theorem RelDs.mv (e : Mv C C' H H' S S') : ∀ {ds : List D} {vs : List V}, RelDs C H S ds vs → RelDs C' H' S' ds vs
  | [], _, h => by unfold RelDs at h ⊢; exact h
  | _ :: _, _, h => by
    unfold RelDs at h ⊢
    obtain ⟨v, r, rfl, h1, h2⟩ := h
    exact ⟨v, r, rfl, RelD.mv e h1, RelDs.mv e h2⟩
end
end

/-! ### objects, the store -/
def RelF (C : Cc) (H : Hp) (S : Sto) : List (Str × D) → List (Str × V) → Prop
  | [], l => l = []
  | (f, d) :: r, l => ∃ v l', l = (f, v) :: l' ∧ RelD C H S d v ∧ RelF C H S r l'
def RelK {κ : Type} (C : Cc) (H : Hp) (S : Sto) : List (κ × D) → List (κ × V) → Prop
  | [], l => l = []
  | (f, d) :: r, l => ∃ v l', l = (f, v) :: l' ∧ RelD C H S d v ∧ RelK C H S r l'
def RelM (C : Cc) (H : Hp) (S : Sto) : MO → HO → Prop
  | .lst ds, o => ∃ vs, o = .lst vs ∧ RelDs C H S ds vs
  | .dct kvs, o => ∃ ks, o = .dK ks ∧ RelK C H S kvs ks
  | .dcT kvs, o => ∃ ks, o = .dT ks ∧ RelK C H S kvs ks
  | .ins c fs, o => ∃ dx l, o = .ins (C.ga c) dx l ∧ RelF C H S fs l
structure Rp (C : Cc) (H : Hp) (S : Sto) : Prop where
  obj : ∀ a m, S a = some m → ∃ o, H a = some o ∧ RelM C H S m o
  z : ∀ a, C.Z a → (∃ xs, H a = some (.lst xs)) ∧ S a = none
section
variable {C : Cc} {H H' : Hp} {S S' : Sto}
theorem RelF.ext (e : Ext H S H' S') : ∀ {fs : List (Str × D)} {l : List (Str × V)}, RelF C H S fs l → RelF C H' S' fs l
  | [], _, h => h
  | (_, _) :: _, _, h => by
    obtain ⟨v, l', rfl, h1, h2⟩ := h
    exact ⟨v, l', rfl, h1.ext e, RelF.ext e h2⟩
theorem RelK.ext {κ : Type} (e : Ext H S H' S') : ∀ {fs : List (κ × D)} {l : List (κ × V)}, RelK C H S fs l → RelK C H' S' fs l
  | [], _, h => h
  | (_, _) :: _, _, h => by
    obtain ⟨v, l', rfl, h1, h2⟩ := h
    exact ⟨v, l', rfl, h1.ext e, RelK.ext e h2⟩
theorem RelM.ext (e : Ext H S H' S') {m : MO} {o : HO} (h : RelM C H S m o) : RelM C H' S' m o := by
  cases m with
  | lst ds => obtain ⟨vs, rfl, r⟩ := h; exact ⟨vs, rfl, r.ext e⟩
  | dct ks => obtain ⟨vs, rfl, r⟩ := h; exact ⟨vs, rfl, r.ext e⟩
  | dcT ks => obtain ⟨vs, rfl, r⟩ := h; exact ⟨vs, rfl, r.ext e⟩
  | ins c fs => obtain ⟨dx, l, rfl, r⟩ := h; exact ⟨dx, l, rfl, r.ext e⟩
theorem RelF.wz {Z : Addr → Prop} (e : ∀ a, Z a → C.Z a ∨ H a = none) : ∀ {fs : List (Str × D)} {l : List (Str × V)}, RelF C H S fs l → RelF (C.wz Z) H S fs l
  | [], _, h => h
  | (_, _) :: _, _, h => by
    obtain ⟨v, l', rfl, h1, h2⟩ := h
    exact ⟨v, l', rfl, h1.wz e, RelF.wz e h2⟩
theorem RelK.wz {κ : Type} {Z : Addr → Prop} (e : ∀ a, Z a → C.Z a ∨ H a = none) : ∀ {fs : List (κ × D)} {l : List (κ × V)}, RelK C H S fs l → RelK (C.wz Z) H S fs l
  | [], _, h => h
  | (_, _) :: _, _, h => by
    obtain ⟨v, l', rfl, h1, h2⟩ := h
    exact ⟨v, l', rfl, h1.wz e, RelK.wz e h2⟩
theorem RelM.wz {Z : Addr → Prop} (e : ∀ a, Z a → C.Z a ∨ H a = none) {m : MO} {o : HO} (h : RelM C H S m o) : RelM (C.wz Z) H S m o := by
  cases m with
  | lst ds => obtain ⟨vs, rfl, r⟩ := h; exact ⟨vs, rfl, r.wz e⟩
  | dct ks => obtain ⟨vs, rfl, r⟩ := h; exact ⟨vs, rfl, r.wz e⟩
  | dcT ks => obtain ⟨vs, rfl, r⟩ := h; exact ⟨vs, rfl, r.wz e⟩
  | ins c fs => obtain ⟨dx, l, rfl, r⟩ := h; exact ⟨dx, l, rfl, r.wz e⟩
theorem Rp.wz {Z : Addr → Prop} (r : Rp C H S) (e : ∀ a, Z a → C.Z a) : Rp (C.wz Z) H S := ⟨fun a m h => by
  obtain ⟨o, h1, h2⟩ := r.obj a m h
  exact ⟨o, h1, h2.wz fun a z => .inl (e a z)⟩, fun a h => r.z a (e a h)⟩
theorem Rp.free (r : Rp C H S) {a : Addr} (h : H a = none) : S a = none := by
  cases e : S a with
  | none => rfl
  | some m => obtain ⟨o, h1, _⟩ := r.obj a m e; rw [h] at h1; cases h1
/-- one more list in the making -/
theorem Rp.addZ (r : Rp C H S) {p : Addr} (h : H p = none) : Rp (C.wz fun a => C.Z a ∨ a = p) (upd H p (.lst [])) S := ⟨fun a m q => by
  obtain ⟨o, h1, h2⟩ := r.obj a m q
  refine ⟨o, by rw [upd_ne (ne_of_none h1 h)]; exact h1, RelM.ext (Ext.new h) (h2.wz fun a z => z.imp (fun q => q) fun q => by rw [q]; exact h)⟩, fun a q => by
  rcases q with q | rfl
  · obtain ⟨⟨xs, e⟩, s⟩ := r.z a q
    exact ⟨⟨xs, by rw [upd_ne (ne_of_none e h)]; exact e⟩, s⟩
  · exact ⟨⟨[], upd_same⟩, r.free h⟩⟩
theorem Rp.nz (r : Rp C H S) {a : Addr} (h : H a = none) : ¬ C.Z a := fun q => by
  obtain ⟨⟨xs, e⟩, _⟩ := r.z a q
  rw [h] at e; cases e
/-- a new tracked thing, out of the store -/
theorem Rp.new (r : Rp C H S) {p : Addr} {o : HO} (h : H p = none) : Rp C (upd H p o) S := ⟨fun a m e => by
  obtain ⟨u, h1, h2⟩ := r.obj a m e
  exact ⟨u, by rw [upd_ne (ne_of_none h1 h)]; exact h1, h2.ext (Ext.new h)⟩, fun a q => by
  obtain ⟨⟨xs, e⟩, s⟩ := r.z a q
  exact ⟨⟨xs, by rw [upd_ne (ne_of_none e h)]; exact e⟩, s⟩⟩
theorem Rp.newM (r : Rp C H S) {p : Addr} {o : HO} {m : MO} (h : H p = none) (n : RelM C (upd H p o) (put S p m) m o) : Rp C (upd H p o) (put S p m) := ⟨fun a m' e => by
  by_cases q : a = p
  · subst q; rw [put_same] at e; cases e; exact ⟨o, upd_same, n⟩
  · rw [put_ne q] at e
    obtain ⟨u, h1, h2⟩ := r.obj a m' e
    exact ⟨u, by rw [upd_ne q]; exact h1, h2.ext (Ext.newM h)⟩, fun a q => by
  obtain ⟨⟨xs, e⟩, s⟩ := r.z a q
  have n := ne_of_none e h
  exact ⟨⟨xs, by rw [upd_ne n]; exact e⟩, by rw [put_ne n]; exact s⟩⟩
theorem Rp.set (r : Rp C H S) {p : Addr} {o : HO} {m m' : MO} (h : S p = some m') (n : RelM C (upd H p o) (put S p m) m o) : Rp C (upd H p o) (put S p m) := ⟨fun a m2 e => by
  by_cases q : a = p
  · subst q; rw [put_same] at e; cases e; exact ⟨o, upd_same, n⟩
  · rw [put_ne q] at e
    obtain ⟨u, h1, h2⟩ := r.obj a m2 e
    exact ⟨u, by rw [upd_ne q]; exact h1, h2.ext (Ext.set h)⟩, fun a q => by
  obtain ⟨⟨xs, e⟩, s⟩ := r.z a q
  have n : a ≠ p := fun z => by subst z; rw [h] at s; cases s
  exact ⟨⟨xs, by rw [upd_ne n]; exact e⟩, by rw [put_ne n]; exact s⟩⟩
theorem Rp.rm (r : Rp C H S) {p : Addr} : Rp C H (rm S p) := ⟨fun a m e => by
  have q : a ≠ p := fun z => by subst z; rw [rm_same] at e; cases e
  rw [rm_ne q] at e
  obtain ⟨u, h1, h2⟩ := r.obj a m e
  exact ⟨u, h1, h2.ext Ext.rm⟩, fun a q => by
  obtain ⟨e, s⟩ := r.z a q
  exact ⟨e, by unfold Mn.rm; split <;> first | rfl | exact s⟩⟩
end

section
variable {C C' : Cc} {H H' : Hp} {S S' : Sto}
theorem RelF.mv (e : Mv C C' H H' S S') : ∀ {fs : List (Str × D)} {l : List (Str × V)}, RelF C H S fs l → RelF C' H' S' fs l
  | [], _, h => h
  | (_, _) :: _, _, h => by
    obtain ⟨v, l', rfl, h1, h2⟩ := h
    exact ⟨v, l', rfl, h1.mv e, RelF.mv e h2⟩
theorem RelK.mv {κ : Type} (e : Mv C C' H H' S S') : ∀ {fs : List (κ × D)} {l : List (κ × V)}, RelK C H S fs l → RelK C' H' S' fs l
  | [], _, h => h
  | (_, _) :: _, _, h => by
    obtain ⟨v, l', rfl, h1, h2⟩ := h
    exact ⟨v, l', rfl, h1.mv e, RelK.mv e h2⟩
theorem RelM.mv (e : Mv C C' H H' S S') (g : C'.ga = C.ga) {m : MO} {o : HO} (h : RelM C H S m o) : RelM C' H' S' m o := by
  cases m with
  | lst ds => obtain ⟨vs, rfl, r⟩ := h; exact ⟨vs, rfl, r.mv e⟩
  | dct ks => obtain ⟨vs, rfl, r⟩ := h; exact ⟨vs, rfl, r.mv e⟩
  | dcT ks => obtain ⟨vs, rfl, r⟩ := h; exact ⟨vs, rfl, r.mv e⟩
  | ins c fs => obtain ⟨dx, l, rfl, r⟩ := h; exact ⟨dx, l, by rw [g], r.mv e⟩
/-- a list in the making grows -/
theorem mv_grow {p : Addr} {xs ys : List V} (hz : C.Z p) (hp : H p = some (.lst xs)) : Mv C C H (upd H p (.lst ys)) S S := ⟨rfl, fun a vs h s => ⟨by rw [upd_ne (ne_of h hp fun q => nomatch q)]; exact h, s⟩, fun a u h s z => by
  have n : a ≠ p := fun q => z (by rw [q]; exact hz)
  exact ⟨by rw [upd_ne n]; exact h, s, z⟩⟩
theorem Rp.grow (r : Rp C H S) {p : Addr} {xs ys : List V} (hz : C.Z p) (hp : H p = some (.lst xs)) : Rp C (upd H p (.lst ys)) S := ⟨fun a m h => by
  obtain ⟨o, h1, h2⟩ := r.obj a m h
  have n : a ≠ p := fun q => by subst q; rw [(r.z a hz).2] at h; cases h
  exact ⟨o, by rw [upd_ne n]; exact h1, h2.mv (mv_grow hz hp) rfl⟩, fun a h => by
  obtain ⟨⟨zs, h1⟩, h2⟩ := r.z a h
  by_cases n : a = p
  · subst n; exact ⟨⟨ys, upd_same⟩, h2⟩
  · exact ⟨⟨zs, by rw [upd_ne n]; exact h1⟩, h2⟩⟩
/-- a list in the making is made: it goes into the store -/
theorem mv_thaw {p : Addr} {xs : List V} {m : MO} {Z : Addr → Prop} (hz : ∀ a, C.Z a ↔ (Z a ∨ a = p)) (hp : H p = some (.lst xs)) : Mv C (C.wz Z) H H S (put S p m) := ⟨rfl, fun a vs h s => ⟨h, by rw [put_ne (ne_of h hp fun q => nomatch q)]; exact s⟩, fun a u h s z => by
  have n : a ≠ p := fun q => z ((hz a).mpr (.inr q))
  exact ⟨h, by rw [put_ne n]; exact s, fun q => z ((hz a).mpr (.inl q))⟩⟩
theorem Rp.thaw (r : Rp C H S) {p : Addr} {xs : List V} {ds : List D} {Z : Addr → Prop} (hz : ∀ a, C.Z a ↔ (Z a ∨ a = p)) (hn : ¬ Z p) (hp : H p = some (.lst xs)) (hd : RelDs C H S ds xs) : Rp (C.wz Z) H (put S p (.lst ds)) := ⟨fun a m h => by
  by_cases n : a = p
  · subst n; rw [put_same] at h; cases h; exact ⟨_, hp, xs, rfl, hd.mv (mv_thaw hz hp)⟩
  · rw [put_ne n] at h
    obtain ⟨o, h1, h2⟩ := r.obj a m h
    exact ⟨o, h1, h2.mv (mv_thaw hz hp) rfl⟩, fun a h => by
  have n : a ≠ p := fun q => hn (by rw [← q]; exact h)
  obtain ⟨h1, h2⟩ := r.z a ((hz a).mpr (.inl h))
  exact ⟨h1, by rw [put_ne n]; exact h2⟩⟩
end

/-! ### tables and fields, related -/
section
variable {C : Cc} {H : Hp} {S : Sto} {κ : Type} [DecidableEq κ]
theorem gv_nil {α : Type} {k : κ} : gv ([] : List (κ × α)) k = none := rfl
theorem gv_pos {α : Type} {p : κ × α} {r : List (κ × α)} {k : κ} (e : p.1 = k) : gv (p :: r) k = some p.2 := by simp [gv, List.find?_cons, e]
theorem gv_neg {α : Type} {p : κ × α} {r : List (κ × α)} {k : κ} (e : ¬ p.1 = k) : gv (p :: r) k = gv r k := by simp [gv, List.find?_cons, e]
theorem RelK.len : ∀ {kvs : List (κ × D)} {l : List (κ × V)}, RelK C H S kvs l → l.length = kvs.length
  | [], _, h => by rw [show _ = [] from h]; rfl
  | (_, _) :: _, _, h => by obtain ⟨v, l', rfl, _, h2⟩ := h; simp [RelK.len h2]
theorem RelK.keys : ∀ {kvs : List (κ × D)} {l : List (κ × V)}, RelK C H S kvs l → l.map (·.1) = kvs.map (·.1)
  | [], _, h => by rw [show _ = [] from h]; rfl
  | (_, _) :: _, _, h => by obtain ⟨v, l', rfl, _, h2⟩ := h; simp [RelK.keys h2]
theorem RelK.some : ∀ {kvs : List (κ × D)} {l : List (κ × V)} {k : κ} {d : D}, RelK C H S kvs l → gv kvs k = some d → ∃ v, valV l k = some v ∧ RelD C H S d v
  | [], _, k, d, h, e => by cases e
  | (j, x) :: r, _, k, d, h, e => by
    obtain ⟨v, l', rfl, h1, h2⟩ := h
    by_cases q : j = k
    · rw [gv_pos q] at e; cases e
      exact ⟨v, valV_pos q, h1⟩
    · rw [gv_neg q] at e
      rw [valV_neg q]
      exact RelK.some h2 e
theorem RelK.none : ∀ {kvs : List (κ × D)} {l : List (κ × V)} {k : κ}, RelK C H S kvs l → gv kvs k = none → valV l k = none
  | [], _, k, h, e => by rw [show _ = [] from h]; rfl
  | (j, x) :: r, _, k, h, e => by
    obtain ⟨v, l', rfl, h1, h2⟩ := h
    by_cases q : j = k
    · rw [gv_pos q] at e; cases e
    · rw [gv_neg q] at e
      rw [valV_neg q]
      exact RelK.none h2 e
theorem RelK.isSome {kvs : List (κ × D)} {l : List (κ × V)} {k : κ} (h : RelK C H S kvs l) : (valV l k).isSome = (gv kvs k).isSome := by
  cases e : gv kvs k with
  | none => rw [h.none e]; rfl
  | some d => obtain ⟨v, h1, _⟩ := h.some e; rw [h1]; rfl
theorem RelK.app : ∀ {kvs kvs' : List (κ × D)} {l l' : List (κ × V)}, RelK C H S kvs l → RelK C H S kvs' l' → RelK C H S (kvs ++ kvs') (l ++ l')
  | [], _, _, _, h, q => by rw [show _ = [] from h]; exact q
  | (_, _) :: _, _, _, _, h, q => by
    obtain ⟨v, l1, rfl, h1, h2⟩ := h
    exact ⟨v, _, rfl, h1, RelK.app h2 q⟩
theorem RelK.rep {k : κ} {d : D} {v : V} (r : RelD C H S d v) : ∀ {kvs : List (κ × D)} {l : List (κ × V)}, RelK C H S kvs l → RelK C H S (kvs.map fun kv => if kv.1 = k then (kv.1, d) else kv) (l.map fun kv => if kv.1 = k then (kv.1, v) else kv)
  | [], _, h => by rw [show _ = [] from h]; rfl
  | (j, x) :: _, _, h => by
    obtain ⟨w, l1, rfl, h1, h2⟩ := h
    rw [List.map_cons, List.map_cons]
    by_cases q : j = k
    · simp only [q, if_true]
      exact ⟨v, _, rfl, r, RelK.rep r h2⟩
    · simp only [q, if_false]
      exact ⟨w, _, rfl, h1, RelK.rep r h2⟩
theorem RelK.put {kvs : List (κ × D)} {l : List (κ × V)} (k : κ) {d : D} {v : V} (h : RelK C H S kvs l) (r : RelD C H S d v) : RelK C H S (gp kvs k d) (putK l k v) := by
  have e : (l.any fun kv => decide (kv.1 = k)) = kvs.any fun kv => decide (kv.1 = k) := by
    have q := congrArg (fun z => z.any fun x => decide (x = k)) h.keys
    simpa [List.any_map, Function.comp_def] using q
  unfold gp putK
  rw [e]
  split
  · exact RelK.rep r h
  · exact h.app ⟨v, [], rfl, r, rfl⟩
theorem RelF.some : ∀ {fs : List (Str × D)} {l : List (Str × V)} {f : Str} {d : D}, RelF C H S fs l → fs.lookup f = some d → ∃ v, l.lookup f = some v ∧ RelD C H S d v
  | [], _, f, d, h, e => by cases e
  | (g, x) :: r, _, f, d, h, e => by
    obtain ⟨v, l', rfl, h1, h2⟩ := h
    rw [List.lookup_cons] at e ⊢
    cases q : (f == g) with
    | true => rw [q] at e; cases e; exact ⟨v, rfl, h1⟩
    | false => rw [q] at e; exact RelF.some h2 e
theorem RelF.none : ∀ {fs : List (Str × D)} {l : List (Str × V)} {f : Str}, RelF C H S fs l → fs.lookup f = none → l.lookup f = none
  | [], _, f, h, e => by rw [show _ = [] from h]; rfl
  | (g, x) :: r, _, f, h, e => by
    obtain ⟨v, l', rfl, h1, h2⟩ := h
    rw [List.lookup_cons] at e ⊢
    cases q : (f == g) with
    | true => rw [q] at e; cases e
    | false => rw [q] at e; exact RelF.none h2 e
theorem RelF.len : ∀ {fs : List (Str × D)} {l : List (Str × V)}, RelF C H S fs l → l.length = fs.length
  | [], _, h => by rw [show _ = [] from h]; rfl
  | (_, _) :: _, _, h => by obtain ⟨v, l', rfl, _, h2⟩ := h; simp [RelF.len h2]
theorem RelF.put {f : Str} {d : D} {v : V} (r : RelD C H S d v) : ∀ {fs : List (Str × D)} {l : List (Str × V)}, RelF C H S fs l → RelF C H S (pf f d fs) (putF f v l)
  | [], _, h => by rw [show _ = [] from h]; exact ⟨v, [], rfl, r, rfl⟩
  | (g, x) :: fs, _, h => by
    obtain ⟨w, l', rfl, h1, h2⟩ := h
    show RelF C H S (if g = f then (g, d) :: fs else (g, x) :: pf f d fs) (if g = f then (g, v) :: l' else (g, w) :: putF f v l')
    split
    · exact ⟨v, l', rfl, r, h2⟩
    · exact ⟨w, _, rfl, h1, RelF.put r h2⟩
end
/-! ### the slots -/
def RelS (C : Cc) (H : Hp) (S : Sto) (σd : Env) (σ : St) : Prop := σd.length = σ.length ∧ ∀ (i : Nat) d, σd[i]? = some (some d) → ∃ v, σ[i]? = some (some v) ∧ RelD C H S d v
theorem RelS.ext {C : Cc} {H H' : Hp} {S S' : Sto} {σd : Env} {σ : St} (h : RelS C H S σd σ) (e : Ext H S H' S') : RelS C H' S' σd σ := ⟨h.1, fun i d q => by
  obtain ⟨v, h1, h2⟩ := h.2 i d q
  exact ⟨v, h1, h2.ext e⟩⟩
theorem RelS.wz {C : Cc} {H : Hp} {S : Sto} {σd : Env} {σ : St} {Z : Addr → Prop} (e : ∀ a, Z a → C.Z a ∨ H a = none) (h : RelS C H S σd σ) : RelS (C.wz Z) H S σd σ := ⟨h.1, fun i d q => by
  obtain ⟨v, h1, h2⟩ := h.2 i d q
  exact ⟨v, h1, h2.wz e⟩⟩
theorem RelS.set {C : Cc} {H : Hp} {S : Sto} {σd : Env} {σ : St} (h : RelS C H S σd σ) (i : Nat) {d : D} {v : V} (r : RelD C H S d v) : RelS C H S (σd.set i (some d)) (σ.set i (some v)) := by
  refine ⟨by simp [h.1], fun j e q => ?_⟩
  rw [List.getElem?_set] at q
  by_cases hij : i = j
  · subst hij
    rw [if_pos rfl] at q
    split at q
    · rename_i hl
      cases q
      exact ⟨v, by rw [List.getElem?_set, if_pos rfl, if_pos (by rw [← h.1]; exact hl)], r⟩
    · cases q
  · rw [if_neg hij] at q
    obtain ⟨w, h1, h2⟩ := h.2 j e q
    exact ⟨w, by rw [List.getElem?_set, if_neg hij]; exact h1, h2⟩
theorem RelS.del {C : Cc} {H : Hp} {S : Sto} {σd : Env} {σ : St} (h : RelS C H S σd σ) (i : Nat) (o : Option V) : RelS C H S (σd.set i none) (σ.set i o) := by
  refine ⟨by simp [h.1], fun j e q => ?_⟩
  rw [List.getElem?_set] at q
  by_cases hij : i = j
  · subst hij
    rw [if_pos rfl] at q
    split at q <;> cases q
  · rw [if_neg hij] at q
    obtain ⟨w, h1, h2⟩ := h.2 j e q
    exact ⟨w, by rw [List.getElem?_set, if_neg hij]; exact h1, h2⟩
end Mn

namespace Mn
open PySem L2

/-! ### the small syntax -/
inductive Bf where
  | len | abs | int | max | sum | all | list | isinstance | min | any | sorted | tuple | dict | str
  deriving DecidableEq
def Bf.nm : Bf → Str
  | .len => "len" | .abs => "abs" | .int => "int" | .max => "max" | .sum => "sum" | .all => "all" | .list => "list" | .isinstance => "isinstance"
  | .min => "min" | .any => "any" | .sorted => "sorted" | .tuple => "tuple" | .dict => "dict" | .str => "str"
inductive Bm where
  | append | get | setdefault | join | split
  deriving DecidableEq
def Bm.nm : Bm → Str
  | .append => "append" | .get => "get" | .setdefault => "setdefault" | .join => "join" | .split => "split"
inductive MT where
  | nm (i : Nat)
  | tp (ts : List MT)
inductive ME where
  | var (i : Nat)
  | cst (d : D)
  | glo (x : Str)
  | bin (o : Operator) (m : Bool) (a b : ME)
  | neg (a : ME)
  | not (a : ME)
  | cmp (o : CmpOp) (a b : ME)
  | cmp2 (o o' : CmpOp) (a b c : ME)
  | and (a b : ME)
  | or (a b : ME)
  | ifx (c a b : ME)
  | idx (a i : ME)
  | slL (m : Bool) (a lo : ME)
  | slU (m : Bool) (a hi : ME)
  | slLU (m : Bool) (a lo hi : ME)
  | tup (es : List ME)
  | lst (m : Bool) (es : List ME)
  | blt (f : Bf) (m : Bool) (es : List ME)
  | bm (f : Bm) (m : Bool) (o : ME) (es : List ME)
  | call (f : Str) (es : List ME)
  | lc (i : Nat) (m : Bool) (t : MT) (as : List ME) (c : List ME) (e : ME)
  | frz (e : ME)
  | att (o : ME) (f : Str)
  | mth (c : Str) (o : ME) (m : Str) (es : List ME)
  | mk (c : Str) (es : List ME)
  | dct (kvs : List (Str × D))
  | bad
/-- expressions, statements of an except suite -/
inductive QE where
  | var (i : Nat)
  | cst (d : D)
  | isE (c : Str)
  | fld (f : Str)
  | tup (es : List QE)
  | lst (es : List QE)
  | add (a b : QE)
  | idx (a i : QE)
  | int (a : QE)
inductive QS where
  | asg (i : Nat) (e : QE)
  | ret (e : QE)
  | ite (c : QE) (a : List QS)
inductive MS where
  | asg (t : MT) (e : ME)
  | six (o i e : ME)
  | aug (i : Nat) (o : Operator) (e : ME)
  | exp (e : ME)
  | ret (e : ME)
  | ite (c : ME) (a b : List MS)
  | for_ (i : Nat) (t : MT) (as : List ME) (b : List MS)
  | whl (c : ME) (b : List MS)
  | pas
  | cont
  | drp (i : Nat)
  | frS (i : Nat)
  | sat (o : ME) (f : Str) (e : ME)
  | aga (o : ME) (f : Str) (op : Operator) (e : ME)
  | ags (o i : ME) (op : Operator) (e : ME)
  | rai (c : Str) (es : List ME)
  | tri (b : List MS) (c : Str) (i : Option Nat) (q : List QS)
  | bad

/-! ### results of operations -/
inductive R where
  | val (d : D)
  | newL (ds : List D)
  | newD (kvs : List (Key × D))
  | upd (d : D) (S : Sto)
def fin (m : Bool) (r : R) (S : Sto) (k : D → Sto → Prop) : Prop :=
  match r with
  | .val d => k d S
  | .newL ds => if m = true then ∀ p, S p = none → k (.ref p) (put S p (.lst ds)) else k (.lst ds) S
  | .newD kvs => ∀ p, S p = none → k (.ref p) (put S p (.dct kvs))
  | .upd d S' => k d S'
theorem fin_mono {m : Bool} {r : R} {S : Sto} {k k' : D → Sto → Prop} (h : ∀ d S', k d S' → k' d S') (q : fin m r S k) : fin m r S k' := by
  unfold fin at q ⊢
  cases r with
  | val d => exact h _ _ q
  | newL ds =>
    cases m with
    | true => exact fun p hp => h _ _ (q p hp)
    | false => exact h _ _ q
  | newD kvs => exact fun p hp => h _ _ (q p hp)
  | upd d S' => exact h _ _ q

/-! ### pure pieces -/
def keyOf : D → Option Key
  | .int i => some (.inl i)
  | .str x => some (.inr x)
  | _ => none
def keysOf : List D → Option (List Key)
  | [] => some []
  | d :: ds => match keyOf d, keysOf ds with
    | some k, some ks => some (k :: ks)
    | _, _ => none
def keyT : D → Option (List Key)
  | .tup ds => keysOf ds
  | _ => none
/-- what a dict holds at a key -/
def dGet (S : Sto) (x i : D) : Option (Option D) := match x with
  | .ref a => (match S a with
    | some (.dct kvs) => (keyOf i).map (gv kvs)
    | _ => none)
  | _ => none
def strsOf : List D → Option (List Str)
  | [] => some []
  | .str x :: ds => match strsOf ds with
    | some l => some (x :: l)
    | none => none
  | _ => none
def ksOf : List (Key × D) → Option (List Str)
  | [] => some []
  | (.inr x, _) :: ds => match ksOf ds with
    | some l => some (x :: l)
    | none => none
  | _ => none
/-- a text goes into its place -/
def insS (x : Str) : List Str → List Str
  | [] => [x]
  | y :: r => if PySem.Spec.ltCps y.cps.toList x.cps.toList = true then y :: insS x r else x :: y :: r
def srtS : List Str → List Str
  | [] => []
  | x :: r => insS x (srtS r)
def lstAt (S : Sto) (a : Addr) : Option (List D) := match S a with
  | some (.lst ds) => some ds
  | _ => none
theorem lstAt_of {S : Sto} {a : Addr} {ds : List D} (h : S a = some (.lst ds)) : lstAt S a = some ds := by unfold lstAt; rw [h]
theorem lstAt_some {S : Sto} {a : Addr} {ds : List D} (h : lstAt S a = some ds) : S a = some (.lst ds) := by
  unfold lstAt at h
  split at h
  · rename_i e; cases h; exact e
  · cases h
def listOf (S : Sto) : D → Option (List D)
  | .lst ds => some ds
  | .ref a => lstAt S a
  | _ => none
def seqOf (S : Sto) : D → Option (List D)
  | .lst ds => some ds
  | .tup ds => some ds
  | .ref a => lstAt S a
  | _ => none
mutual
def toPy : D → PyData
  | .bl b => .bool b
  | .int i => .int i
  | .str x => .str x
  | .tup ds => .tuple (toPys ds)
  | .lst ds => .list (toPys ds)
  | _ => .none
def toPys : List D → List PyData
  | [] => []
  | d :: ds => toPy d :: toPys ds
end
mutual
/-- no address in it -/
def pureD : D → Bool
  | .non => true
  | .bl _ => true
  | .int _ => true
  | .str _ => true
  | .tup ds => pureDs ds
  | .lst ds => pureDs ds
  | _ => false
def pureDs : List D → Bool
  | [] => true
  | d :: ds => pureD d && pureDs ds
end
mutual
def dep : D → Nat
  | .tup ds => deps ds + 1
  | .lst ds => deps ds + 1
  | _ => 0
def deps : List D → Nat
  | [] => 0
  | d :: ds => max (dep d) (deps ds)
end
/-- a list of the store as a value -/
def top (S : Sto) : D → D
  | .ref a => match lstAt S a with
    | some ds => .lst ds
    | none => .ref a
  | d => d
def tru (S : Sto) : D → Option Bool
  | .non => some false
  | .bl b => some b
  | .int i => some (i != 0)
  | .str x => if x.length ≤ sizeLine then some ((x.length : Int) != 0) else none
  | .tup ds => some (!ds.isEmpty)
  | .lst ds => some (!ds.isEmpty)
  | .ref a => (lstAt S a).map fun ds => !ds.isEmpty
  | _ => none
def g? {α : Type} (c : Prop) [Decidable c] (r : α) : Option α := if c then some r else none
/-- a text some times -/
def repS (x : Str) (n : Nat) : Str := ⟨(List.replicate n x.cps).foldl (· ++ ·) #[]⟩
def binR (o : Operator) (x y : D) (S : Sto) : Option R :=
  match o, x, y with
  | .Add, .int i, .int j => some (.val (.int (i + j)))
  | .Sub, .int i, .int j => some (.val (.int (i - j)))
  | .Mult, .int i, .int j => g? ((-(2 ^ 64) < i ∧ i < 2 ^ 64) ∨ (-(2 ^ 64) < j ∧ j < 2 ^ 64)) (.val (.int (i * j)))
  | .FloorDiv, .int i, .int j => g? (0 < j ∧ j < 1073741824) (.val (.int (i / j)))
  | .Mod, .int i, .int j => g? (0 < j) (.val (.int (i % j)))
  | .Pow, .int i, .int j => g? (0 ≤ j ∧ j ≤ 1000000 ∧ i.natAbs < 2 ^ 64) (.val (.int (i ^ j.toNat)))
  | .Add, .str i, .str j => g? (i.length + j.length ≤ sizeLine) (.val (.str (i ++ j)))
  | .Add, .tup ds, .tup es => g? (ds.length + es.length ≤ sizeLine) (.val (.tup (ds ++ es)))
  | .Add, x, y => match listOf S x, listOf S y with
    | some ds, some es => g? (ds.length + es.length ≤ sizeLine) (.newL (ds ++ es))
    | _, _ => none
  | .Mult, .str z, .int n => g? (1 ≤ n ∧ n ≤ 1000 ∧ z.length ≤ 1000) (.val (.str (repS z n.toNat)))
  | .Mult, x, .int n => match listOf S x with
    | some ds => g? (0 ≤ n ∧ n ≤ 1000 ∧ ds.length ≤ 1000) (.newL (List.replicate n.toNat ds).flatten)
    | none => none
  | _, _, _ => none
def deq (x y : D) : Bool := PyData.eqv (toPy x) (toPy y)
def eqR (x y : D) (S : Sto) : Option Bool := g? (pureD (top S x) = true ∧ pureD (top S y) = true ∧ min (dep (top S x)) (dep (top S y)) ≤ 60) (deq (top S x) (top S y))
def flat : D → Bool
  | .non => true
  | .bl _ => true
  | .int _ => true
  | .str _ => true
  | _ => false
def inR (x y : D) (S : Sto) : Option Bool := match x, y with
  | .str z, .str y => match z.cps.toList with
    | [c] => some (decide (c ∈ y.cps.toList))
    | _ => none
  | x, y => match seqOf S y with
    | some ds => g? (flat x = true ∧ ds.all flat = true) (ds.any fun z => deq z x)
    | none => (dGet S y x).map Option.isSome
def isR (x y : D) : Option Bool := match x, y with
  | .non, .non => some true
  | .bl _, .non => some false
  | .int _, .non => some false
  | .str _, .non => some false
  | .tup _, .non => some false
  | .lst _, .non => some false
  | .ref _, .non => some false
  | .bl a, .bl b => some (decide (a = b))
  | _, _ => none
def cmpR (o : CmpOp) (x y : D) (S : Sto) : Option Bool :=
  match o, x, y with
  | .Lt, .int i, .int j => some (decide (i < j))
  | .LtE, .int i, .int j => some (decide (i ≤ j))
  | .Gt, .int i, .int j => some (decide (j < i))
  | .GtE, .int i, .int j => some (decide (j ≤ i))
  | .Eq, x, y => eqR x y S
  | .NotEq, x, y => (eqR x y S).map (!·)
  | .In, x, y => inR x y S
  | .NotIn, x, y => (inR x y S).map (!·)
  | .Is, x, y => isR x y
  | .IsNot, x, y => (isR x y).map (!·)
  | _, _, _ => none
def idxR (x i : D) (S : Sto) : Option D :=
  match x, i with
  | .str z, .int i => if z.length ≤ sizeLine then (atI z.cps.toList i).map (fun c => .str ⟨#[c]⟩) else none
  | x, i => match seqOf S x with
    | some ds => (match i with
      | .int i => atI ds i
      | _ => none)
    | none => (dGet S x i).bind id
def cutD (ds : List D) (lo hi : Option Int) : List D := (ds.drop (HT.sIx ds.length 0 lo)).take (HT.sIx ds.length ds.length hi - HT.sIx ds.length 0 lo)
def slcR (x : D) (lo hi : Option Int) (S : Sto) : Option R :=
  match x with
  | .str z => g? (z.length ≤ sizeLine) (.val (.str (cutS z lo hi)))
  | .tup ds => some (.val (.tup (cutD ds lo hi)))
  | x => match listOf S x with
    | some ds => some (.newL (cutD ds lo hi))
    | none => none
def tyN (S : Sto) : D → Option String
  | .non => some "NoneType"
  | .bl _ => some "bool"
  | .int _ => some "int"
  | .str _ => some "str"
  | .tup _ => some "tuple"
  | .lst _ => some "list"
  | .ref a => (lstAt S a).map fun _ => "list"
  | _ => none
/-- isinstance by the types' names -/
def isT (t : String) (c : String) : Bool := t == c || (t == "bool" && c == "int")
def isiR (S : Sto) (x c : D) : Option Bool := match tyN S x, c with
  | some t, .ty n => g? (n = "int" ∨ n = "bool" ∨ n = "str" ∨ n = "list" ∨ n = "tuple") (isT t n)
  | some t, .tup [.ty n, .ty n'] => g? (n = "tuple" ∧ n' = "list") (isT t n || isT t n')
  | _, _ => none
def allB (S : Sto) : List D → Option Bool
  | [] => some true
  | .bl b :: r => match allB S r with
    | some c => some (b && c)
    | none => none
  | _ => none
def anyB (S : Sto) : List D → Option Bool
  | [] => some false
  | .bl b :: r => match anyB S r with
    | some c => some (b || c)
    | none => none
  | _ => none
def dctAt (S : Sto) (a : Addr) : Option (List (Key × D)) := match S a with
  | some (.dct kvs) => some kvs
  | _ => none
def sumI : List D → Option Int
  | [] => some 0
  | .int i :: r => (sumI r).map (i + ·)
  | _ => none
def bltR (f : Bf) (xs : List D) (S : Sto) : Option R := match f, xs with
  | .len, [.str z] => g? (z.length ≤ sizeLine) (.val (.int z.length))
  | .len, [x] => match seqOf S x with
    | some ds => some (.val (.int ds.length))
    | none => (match x with
      | .ref a => (dctAt S a).map fun kvs => .val (.int kvs.length)
      | _ => none)
  | .abs, [.int i] => some (.val (.int (if i < 0 then -i else i)))
  | .int, [.int i] => some (.val (.int i))
  | .int, [.bl k] => some (.val (.int (if k = true then 1 else 0)))
  | .max, [.int i, .int j] => some (.val (.int (if j > i then j else i)))
  | .sum, [x] => match listOf S x with
    | some ds => (sumI ds).map fun i => .val (.int i)
    | none => none
  | .all, [x] => match listOf S x with
    | some ds => (allB S ds).map fun b => .val (.bl b)
    | none => none
  | .list, [x] => (seqOf S x).map fun ds => .newL ds
  | .isinstance, [x, c] => (isiR S x c).map fun b => .val (.bl b)
  | .min, [.int i, .int j] => some (.val (.int (if j < i then j else i)))
  | .any, [x] => match listOf S x with
    | some ds => (anyB S ds).map fun b => .val (.bl b)
    | none => none
  | .sorted, [x] => match listOf S x with
    | some ds => (match strsOf ds with
      | some l => g? (l.length < 64) (.newL ((srtS l).map .str))
      | none => none)
    | none => (match x with
      | .ref a => (match dctAt S a with
        | some kvs => (match ksOf kvs with
          | some l => g? (l.length < 64 ∧ l.all PySem.PyData.strOk = true) (.newL ((srtS l).map .str))
          | none => none)
        | none => none)
      | _ => none)
  | .tuple, [.tup ds] => some (.val (.tup ds))
  | .tuple, [x] => (listOf S x).map fun ds => .val (.tup ds)
  | .dict, [.ref a] => (dctAt S a).map fun kvs => .newD kvs
  | .str, [.int i] => g? (i.natAbs.log2 < 1920 ∧ PySem.PyData.strOk (toString i : String) = true) (.val (.str (toString i : String)))
  | _, _ => none
/-- is it of the method's type? -/
def bmT (f : Bm) (o : D) (S : Sto) : Bool := match f with
  | .append => (listOf S o).isSome
  | .get => (match o with
    | .ref a => (match S a with
      | some (.dct _) => true
      | _ => false)
    | _ => false)
  | .setdefault => (match o with
    | .ref a => (dctAt S a).isSome
    | _ => false)
  | .join => (match o with
    | .str _ => true
    | _ => false)
  | .split => (match o with
    | .str _ => true
    | _ => false)
def bmR (f : Bm) (o : D) (xs : List D) (S : Sto) : Option R := match f, o, xs with
  | .append, .ref a, [d] => match lstAt S a with
    | some ds => g? (ds.length < sizeLine) (.upd .non (put S a (.lst (ds ++ [d]))))
    | none => none
  | .get, .ref a, [i, d] => (dGet S (.ref a) i).map fun o => .val (o.getD d)
  | .setdefault, .ref a, [i, d] => match dctAt S a, keyOf i with
    | some kvs, some k => g? (kvs.length < sizeLine) (match gv kvs k with
      | some v => .val v
      | none => .upd d (put S a (.dct (gp kvs k d))))
    | _, _ => none
  | .join, .str z, [x] => match seqOf S x with
    | some ds => (match strsOf ds with
      | some ys => g? ((ys.map (·.length)).sum + ys.length * z.length ≤ 16777216 ∧ PySem.PyData.strOk (Txt.join z ys) = true) (.val (.str (Txt.join z ys)))
      | none => none)
    | none => none
  | .split, .str z, [.str b] => g? ((b.length == 0) = false ∧ z.length + 2 ≤ sizeLine ∧ (Txt.split z b).all PySem.PyData.strOk = true) (.newL ((Txt.split z b).map .str))
  | _, _, _ => none

/-! ### targets -/
mutual
def asgT : MT → D → Env → Option Env
  | .nm i, d, σ => some (σ.set i (some d))
  | .tp ts, .tup ds, σ => asgTs ts ds σ
  | .tp _, _, _ => none
def asgTs : List MT → List D → Env → Option Env
  | [], [], σ => some σ
  | t :: ts, d :: ds, σ => match asgT t d σ with
    | some σ' => asgTs ts ds σ'
    | none => none
  | _, _, _ => none
end

/-! ### contexts -/
structure Exc where
  cls : Str
  fs : List (Str × D)
abbrev DSp := List D → Sto → (D → Sto → Prop) → (Exc → Sto → Prop) → Prop
structure Gc where
  fn : Str → Option (Nat × DSp)
  con : Str → Option D
  mt : Str → Str → Option (Nat × DSp) := fun _ _ => none
  mkr : Str → Option (Nat × DSp) := fun _ => none
  fld : Str → Str → Bool := fun _ _ => false
  exc : Str → Option (Nat × (List D → List (Str × D))) := fun _ => none
  sub : Str → Str → Option Bool := fun _ _ => none
  xfl : Str → Str → Bool := fun _ _ => false
abbrev XW := Exc → Env → Sto → Prop
def callW (sp : DSp) (ds : List D) (S : Sto) (k : D → Sto → Prop) (x : Exc → Sto → Prop) : Prop :=
  ∃ (Q : D → Sto → Prop) (X : Exc → Sto → Prop), (∀ d S', Q d S' → k d S') ∧ (∀ e S', X e S' → x e S') ∧ sp ds S Q X
/-- what is walked: the items, and what must stand at each turn -/
def itR (x : D) (S : Sto) : Option (List D × (Sto → Prop)) := match x with
  | .lst ds => some (ds, fun _ => True)
  | .tup ds => some (ds, fun _ => True)
  | .str z => some (z.cps.toList.map fun c => .str ⟨#[c]⟩, fun _ => True)
  | .ref a => (lstAt S a).map fun ds => (ds, fun S' => S' a = some (.lst ds))
  | .scr ns => some (ns.map .int, fun _ => True)
  | _ => none
def rngR : List D → Option (List D)
  | [.int j] => g? (-(2 ^ 62) ≤ j ∧ j < 2 ^ 62) ((List.range j.toNat).map fun (k : Nat) => .int (k : Int))
  | [.int i, .int j] => g? (-(2 ^ 62) ≤ i ∧ i < 2 ^ 62 ∧ -(2 ^ 62) ≤ j ∧ j < 2 ^ 62) ((List.range (j - i).toNat).map fun (k : Nat) => .int (i + k))
  | _ => none
def enmL : Nat → List D → List D
  | _, [] => []
  | n, d :: ds => .tup [.int n, d] :: enmL (n + 1) ds
def zipL : List D → List D → List D
  | d :: ds, e :: es => .tup [d, e] :: zipL ds es
  | _, _ => []
/-- what is walked, by its form: 0 a value, 1 range, 2 enumerate, 3 zip -/
def itS (i : Nat) (xs : List D) (S : Sto) : Option (List D × (Sto → Prop)) := match i, xs with
  | 0, [x] => itR x S
  | 1, xs => (rngR xs).map fun l => (l, fun _ => True)
  | 2, [x] => match listOf S x, itR x S with
    | some _, some its => some (enmL 0 its.1, its.2)
    | _, _ => none
  | 3, [x, y] => match listOf S x, itR x S, listOf S y, itR y S with
    | some _, some its, some _, some jts => some (zipL its.1 jts.1, fun S' => its.2 S' ∧ jts.2 S')
    | _, _, _, _ => none
  | _, _ => none
/-- the loop of a comprehension -/
def lcLoop (g : Sto → Prop) (f : D → Sto → (Option D → Sto → Prop) → Prop) : List D → List D → Sto → (List D → Sto → Prop) → Prop
  | [], acc, S, k => g S ∧ k acc S
  | d :: ds, acc, S, k => g S ∧ f d S fun r S' => match r with
    | some y => acc.length < sizeLine ∧ lcLoop g f ds (acc ++ [y]) S' k
    | none => lcLoop g f ds acc S' k

mutual
def wE (G : Gc) (x : XW) : ME → Env → Sto → (D → Sto → Prop) → Prop
  | .var i, σ, S, k => ∃ d, σ[i]? = some (some d) ∧ k d S
  | .cst d, _, S, k => k d S
  | .glo n, _, S, k => ∃ d, G.con n = some d ∧ k d S
  | .bin o m a b, σ, S, k => wE G x a σ S fun u S1 => wE G x b σ S1 fun v S2 => ∃ r, binR o u v S2 = some r ∧ fin m r S2 k
  | .neg a, σ, S, k => wE G x a σ S fun u S1 => ∃ i, u = .int i ∧ k (.int (-i)) S1
  | .not a, σ, S, k => wE G x a σ S fun u S1 => ∃ b, tru S1 u = some b ∧ k (.bl (!b)) S1
  | .cmp o a b, σ, S, k => wE G x a σ S fun u S1 => wE G x b σ S1 fun v S2 => ∃ r, cmpR o u v S2 = some r ∧ k (.bl r) S2
  | .cmp2 o o' a b c, σ, S, k => wE G x a σ S fun u S1 => wE G x b σ S1 fun v S2 => ∃ r, cmpR o u v S2 = some r ∧
      if r = true then wE G x c σ S2 fun z S3 => ∃ r', cmpR o' v z S3 = some r' ∧ k (.bl r') S3 else k (.bl false) S2
  | .and a b, σ, S, k => wE G x a σ S fun u S1 => ∃ c, tru S1 u = some c ∧ if c = true then wE G x b σ S1 k else k u S1
  | .or a b, σ, S, k => wE G x a σ S fun u S1 => ∃ c, tru S1 u = some c ∧ if c = true then k u S1 else wE G x b σ S1 k
  | .ifx c a b, σ, S, k => wE G x c σ S fun u S1 => ∃ z, tru S1 u = some z ∧ if z = true then wE G x a σ S1 k else wE G x b σ S1 k
  | .idx a i, σ, S, k => wE G x a σ S fun u S1 => wE G x i σ S1 fun v S2 => ∃ d, idxR u v S2 = some d ∧ k d S2
  | .slL m a lo, σ, S, k => wE G x a σ S fun u S1 => wE G x lo σ S1 fun v S2 => ∃ i, v = .int i ∧ ∃ r, slcR u (some i) none S2 = some r ∧ fin m r S2 k
  | .slU m a hi, σ, S, k => wE G x a σ S fun u S1 => wE G x hi σ S1 fun v S2 => ∃ i, v = .int i ∧ ∃ r, slcR u none (some i) S2 = some r ∧ fin m r S2 k
  | .slLU m a lo hi, σ, S, k => wE G x a σ S fun u S1 => wE G x lo σ S1 fun v S2 => ∃ i, v = .int i ∧ wE G x hi σ S2 fun z S3 => ∃ j, z = .int j ∧ ∃ r, slcR u (some i) (some j) S3 = some r ∧ fin m r S3 k
  | .tup es, σ, S, k => wEs G x es σ S fun ds S1 => ds.length ≤ sizeLine ∧ k (.tup ds) S1
  | .lst m es, σ, S, k => wEs G x es σ S fun ds S1 => ds.length ≤ sizeLine ∧ fin m (.newL ds) S1 k
  | .blt f m es, σ, S, k => wEs G x es σ S fun ds S1 => ∃ r, bltR f ds S1 = some r ∧ fin m r S1 k
  | .bm f m o es, σ, S, k => wE G x o σ S fun u S1 => bmT f u S1 = true ∧ wEs G x es σ S1 fun ds S2 => ∃ r, bmR f u ds S2 = some r ∧ fin m r S2 k
  | .call f es, σ, S, k => ∃ sp, G.fn f = some (es.length, sp) ∧ wEs G x es σ S fun ds S1 => callW sp ds S1 k fun e S2 => x e σ S2
  | .lc i m t as c e, σ, S, k => wEs G x as σ S fun ds S1 => ∃ its, itS i ds S1 = some its ∧
      lcLoop its.2 (fun d S2 q => ∃ σ', asgT t d σ = some σ' ∧ wC G c σ' S2 fun b S3 => if b = true then wE G (fun _ _ _ => False) e σ' S3 fun y S4 => q (some y) S4 else q none S3) its.1 [] S1 fun acc S2 => fin m (.newL acc) S2 k
  | .frz a, σ, S, k => wE G x a σ S fun u S1 => ∃ p ds, u = .ref p ∧ S1 p = some (.lst ds) ∧ k (.lst ds) (rm S1 p)
  | .att o f, σ, S, k => wE G x o σ S fun u S1 => ∃ a c fs d, u = .ref a ∧ S1 a = some (.ins c fs) ∧ G.fld c f = true ∧ fs.lookup f = some d ∧ k d S1
  | .mth c o m es, σ, S, k => ∃ sp, G.mt c m = some (es.length + 1, sp) ∧ wE G x o σ S fun u S1 => ∃ a fs, u = .ref a ∧ S1 a = some (.ins c fs) ∧ fs.lookup m = none ∧
      wEs G x es σ S1 fun ds S2 => callW sp (u :: ds) S2 k fun e S3 => x e σ S3
  | .mk c es, σ, S, k => ∃ sp, G.mkr c = some (es.length + 1, sp) ∧ wEs G x es σ S fun ds S1 => ∀ p, S1 p = none →
      callW sp (.ref p :: ds) (put S1 p (.ins c [])) (fun v S2 => v = .non ∧ k (.ref p) S2) (fun _ _ => False)
  | .dct kvs, _, S, k => ∀ p, S p = none → k (.ref p) (put S p (.dct (kvs.foldl (fun acc kv => gp acc (.inr kv.1) kv.2) [])))
  | .bad, _, _, _ => False
def wEs (G : Gc) (x : XW) : List ME → Env → Sto → (List D → Sto → Prop) → Prop
  | [], _, S, k => k [] S
  | e :: es, σ, S, k => wE G x e σ S fun d S1 => wEs G x es σ S1 fun ds S2 => k (d :: ds) S2
/-- the tests of a comprehension -/
def wC (G : Gc) : List ME → Env → Sto → (Bool → Sto → Prop) → Prop
  | [], _, S, k => k true S
  | [c], σ, S, k => wE G (fun _ _ _ => False) c σ S fun u S1 => ∃ b, tru S1 u = some b ∧ k b S1
  | _, _, _, _ => False
end

/-! ### statements -/
structure KS where
  nx : Env → Sto → Prop
  rt : D → Sto → Prop
  bk : Env → Sto → Prop := fun _ _ => False
  ct : Env → Sto → Prop := fun _ _ => False
def forLoop (g : Sto → Prop) (f : D → Env → Sto → KS → Prop) : List D → Env → Sto → KS → Prop
  | [], σ, S, k => g S ∧ k.nx σ S
  | d :: ds, σ, S, k => g S ∧ f d σ S { nx := fun σ' S' => forLoop g f ds σ' S' k, ct := fun σ' S' => forLoop g f ds σ' S' k, rt := k.rt, bk := k.nx }
def augR (o : Operator) (x y : D) : Option D := match o, x, y with
  | .Add, .int i, .int j => some (.int (i + j))
  | .Sub, .int i, .int j => some (.int (i - j))
  | _, _, _ => none
def sixR (o i v : D) (S : Sto) : Option Sto := match o with
  | .ref a => (match S a with
    | some (.lst ds) => (match i with
      | .int i => (match ixN ds.length i with
        | some j => some (put S a (.lst (ds.set j v)))
        | none => none)
      | _ => none)
    | some (.dct kvs) => (match keyOf i with
      | some k => g? (kvs.length < sizeLine) (put S a (.dct (gp kvs k v)))
      | none => none)
    | _ => none)
  | _ => none
/-! ### except suites -/
mutual
def evQ (G : Gc) (ex : Exc) : QE → Env → Option D
  | .var i, σ => (σ[i]?).bind id
  | .cst d, _ => some d
  | .isE c, _ => (G.sub ex.cls c).map .bl
  | .fld f, _ => if G.xfl ex.cls f = true then ex.fs.lookup f else none
  | .tup es, σ => (evQs G ex es σ).map .tup
  | .lst es, σ => (evQs G ex es σ).map .lst
  | .add a b, σ => (match evQ G ex a σ, evQ G ex b σ with
    | some (.str x), some (.str y) => g? (x.length + y.length ≤ sizeLine) (.str (x ++ y))
    | some (.lst ds), some (.lst es) => g? (ds.length + es.length ≤ sizeLine) (.lst (ds ++ es))
    | _, _ => none)
  | .idx a i, σ => (match evQ G ex a σ, evQ G ex i σ with
    | some (.lst ds), some (.int j) => atI ds j
    | _, _ => none)
  | .int a, σ => (match evQ G ex a σ with
    | some (.bl b) => some (.int (if b = true then 1 else 0))
    | _ => none)
def evQs (G : Gc) (ex : Exc) : List QE → Env → Option (List D)
  | [], _ => some []
  | e :: es, σ => (match evQ G ex e σ, evQs G ex es σ with
    | some d, some ds => g? (ds.length + 1 ≤ sizeLine) (d :: ds)
    | _, _ => none)
end
mutual
/-- the slots behind it; what is returned -/
def exQ (G : Gc) (ex : Exc) : QS → Env → Option (Env × Option D)
  | .asg i e, σ => (evQ G ex e σ).map fun d => (σ.set i (some d), none)
  | .ret e, σ => (evQ G ex e σ).map fun d => (σ, some d)
  | .ite c a, σ => (match evQ G ex c σ with
    | some (.bl true) => exQs G ex a σ
    | some (.bl false) => some (σ, none)
    | _ => none)
def exQs (G : Gc) (ex : Exc) : List QS → Env → Option (Env × Option D)
  | [], σ => some (σ, none)
  | s :: r, σ => (match exQ G ex s σ with
    | some (σ', none) => exQs G ex r σ'
    | o => o)
end
def delI (i : Option Nat) (σ : Env) : Env := match i with
  | some i => σ.set i none
  | none => σ
def okI : Option Nat → Env → Prop
  | some i, σ => i < σ.length
  | none, _ => True
def catch_ (G : Gc) (x : XW) (c : Str) (i : Option Nat) (q : List QS) (k : KS) : XW := fun e σ S => okI i σ ∧ ∃ t, G.sub e.cls c = some t ∧
  if t = true then ∃ r, exQs G e q (delI i σ) = some r ∧ (match r.2 with
    | some d => k.rt d S
    | none => k.nx (delI i r.1) S) else x e σ S
mutual
def wS (G : Gc) (x : XW) : MS → Env → Sto → KS → Prop
  | .asg t e, σ, S, k => wE G x e σ S fun d S1 => ∃ σ', asgT t d σ = some σ' ∧ k.nx σ' S1
  | .six o i e, σ, S, k => wE G x e σ S fun v S1 => wE G x o σ S1 fun u S2 => wE G x i σ S2 fun j S3 => ∃ S', sixR u j v S3 = some S' ∧ k.nx σ S'
  | .aug i o e, σ, S, k => ∃ u, σ[i]? = some (some u) ∧ wE G x e σ S fun v S1 => ∃ d, augR o u v = some d ∧ k.nx (σ.set i (some d)) S1
  | .exp e, σ, S, k => wE G x e σ S fun _ S1 => k.nx σ S1
  | .ret e, σ, S, k => wE G x e σ S k.rt
  | .ite c a b, σ, S, k => wE G x c σ S fun u S1 => ∃ z, tru S1 u = some z ∧ if z = true then wSs G x a σ S1 k else wSs G x b σ S1 k
  | .for_ i t as b, σ, S, k => wEs G x as σ S fun ds S1 => ∃ its, itS i ds S1 = some its ∧
      forLoop its.2 (fun d σ2 S2 q => ∃ σ', asgT t d σ2 = some σ' ∧ wSs G x b σ' S2 q) its.1 σ S1 k
  | .whl c b, σ, S, k => ∃ W : Nat → Env → Sto → Prop, (∃ m, W m σ S) ∧ ∀ m σ S, W m σ S → wE G x c σ S fun u S1 => ∃ z, tru S1 u = some z ∧
      if z = true then ∃ N : Env → Sto → Prop, (∀ σ' S', N σ' S' → ∃ m', m' < m ∧ W m' σ' S') ∧ wSs G x b σ S1 { nx := N, ct := N, rt := k.rt, bk := k.nx } else k.nx σ S1
  | .pas, σ, S, k => k.nx σ S
  | .cont, σ, S, k => k.ct σ S
  | .drp i, σ, S, k => ∃ a, σ[i]? = some (some (.ref a)) ∧ k.nx σ (rm S a)
  | .frS i, σ, S, k => ∃ a ds, σ[i]? = some (some (.ref a)) ∧ S a = some (.lst ds) ∧ k.nx (σ.set i (some (.lst ds))) (rm S a)
  | .sat o f e, σ, S, k => wE G x e σ S fun v S1 => wE G x o σ S1 fun u S2 => ∃ a c fs, u = .ref a ∧ S2 a = some (.ins c fs) ∧ G.fld c f = true ∧ fs.length < 1000 ∧ k.nx σ (put S2 a (.ins c (pf f v fs)))
  | .aga o f op e, σ, S, k => wE G x o σ S fun u S1 => ∃ a c fs i, u = .ref a ∧ S1 a = some (.ins c fs) ∧ G.fld c f = true ∧ fs.lookup f = some (.int i) ∧
      wE G x e σ S1 fun v S2 => ∃ d fs', augR op (.int i) v = some d ∧ S2 a = some (.ins c fs') ∧ fs'.length < 1000 ∧ k.nx σ (put S2 a (.ins c (pf f d fs')))
  | .ags o i op e, σ, S, k => wE G x o σ S fun u S1 => wE G x i σ S1 fun j S2 => ∃ a kvs key v, u = .ref a ∧ S2 a = some (.dct kvs) ∧ keyOf j = some key ∧ gv kvs key = some v ∧
      wE G x e σ S2 fun y S3 => ∃ d kvs', augR op v y = some d ∧ S3 a = some (.dct kvs') ∧ kvs'.length < sizeLine ∧ k.nx σ (put S3 a (.dct (gp kvs' key d)))
  | .rai c es, σ, S, k => ∃ F, G.exc c = some (es.length, F) ∧ wEs G x es σ S fun ds S1 => x ⟨c, F ds⟩ σ S1
  | .tri b c i q, σ, S, k => G.sub c c = some true ∧ wSs G (catch_ G x c i q k) b σ S k
  | .bad, _, _, _ => False
def wSs (G : Gc) (x : XW) : List MS → Env → Sto → KS → Prop
  | [], σ, S, k => k.nx σ S
  | s :: r, σ, S, k => wS G x s σ S { nx := fun σ' S' => wSs G x r σ' S' k, rt := k.rt, bk := k.bk, ct := k.ct }
end

/-! ### the wish may grow -/
theorem callW_mono {sp : DSp} {ds : List D} {S : Sto} {k k' : D → Sto → Prop} {x x' : Exc → Sto → Prop} (h : ∀ d S', k d S' → k' d S') (hx : ∀ e S', x e S' → x' e S') (q : callW sp ds S k x) : callW sp ds S k' x' := by
  obtain ⟨Q, X, h1, h2, h3⟩ := q
  exact ⟨Q, X, fun d S' z => h _ _ (h1 _ _ z), fun e S' z => hx _ _ (h2 _ _ z), h3⟩
theorem lcLoop_mono {g : Sto → Prop} {f f' : D → Sto → (Option D → Sto → Prop) → Prop} (hf : ∀ d S q q', (∀ r S', q r S' → q' r S') → f d S q → f' d S q') {k k' : List D → Sto → Prop} (h : ∀ d S', k d S' → k' d S') :
    ∀ (ds acc : List D) (S : Sto), lcLoop g f ds acc S k → lcLoop g f' ds acc S k'
  | [], acc, S, q => ⟨q.1, h _ _ q.2⟩
  | d :: ds, acc, S, q => ⟨q.1, hf _ _ _ _ (fun r S' z => by
      cases r with
      | none => exact lcLoop_mono hf h ds acc S' z
      | some y => exact ⟨z.1, lcLoop_mono hf h ds _ S' z.2⟩) q.2⟩
mutual
theorem wE_mono {G : Gc} {x : XW} {k k' : D → Sto → Prop} (h : ∀ d S', k d S' → k' d S') : ∀ (e : ME) (σ : Env) (S : Sto), wE G x e σ S k → wE G x e σ S k'
  | .var i, σ, S, q => by unfold wE at q ⊢; obtain ⟨d, h1, h2⟩ := q; exact ⟨d, h1, h _ _ h2⟩
  | .cst d, σ, S, q => by unfold wE at q ⊢; exact h _ _ q
  | .glo n, σ, S, q => by unfold wE at q ⊢; obtain ⟨d, h1, h2⟩ := q; exact ⟨d, h1, h _ _ h2⟩
  | .bin o m a b, σ, S, q => by
    unfold wE at q ⊢
    refine wE_mono (fun u S1 q => wE_mono (fun v S2 q => ?_) b σ S1 q) a σ S q
    obtain ⟨r, h1, h2⟩ := q
    exact ⟨r, h1, fin_mono h h2⟩
  | .neg a, σ, S, q => by
    unfold wE at q ⊢
    refine wE_mono (fun u S1 q => ?_) a σ S q
    obtain ⟨r, h1, h2⟩ := q
    exact ⟨r, h1, h _ _ h2⟩
  | .not a, σ, S, q => by
    unfold wE at q ⊢
    refine wE_mono (fun u S1 q => ?_) a σ S q
    obtain ⟨r, h1, h2⟩ := q
    exact ⟨r, h1, h _ _ h2⟩
  | .cmp o a b, σ, S, q => by
    unfold wE at q ⊢
    refine wE_mono (fun u S1 q => wE_mono (fun v S2 q => ?_) b σ S1 q) a σ S q
    obtain ⟨r, h1, h2⟩ := q
    exact ⟨r, h1, h _ _ h2⟩
  | .cmp2 o o' a b c, σ, S, q => by
    unfold wE at q ⊢
    refine wE_mono (fun u S1 q => wE_mono (fun v S2 q => ?_) b σ S1 q) a σ S q
    obtain ⟨r, h1, h2⟩ := q
    refine ⟨r, h1, ?_⟩
    split at h2
    · rename_i e; rw [if_pos e]
      refine wE_mono (fun z S3 q => ?_) c σ S2 h2
      obtain ⟨r', h1, h2⟩ := q
      exact ⟨r', h1, h _ _ h2⟩
    · rename_i e; rw [if_neg e]; exact h _ _ h2
  | .and a b, σ, S, q => by
    unfold wE at q ⊢
    refine wE_mono (fun u S1 q => ?_) a σ S q
    obtain ⟨r, h1, h2⟩ := q
    refine ⟨r, h1, ?_⟩
    split at h2
    · rename_i e; rw [if_pos e]; exact wE_mono h b σ S1 h2
    · rename_i e; rw [if_neg e]; exact h _ _ h2
  | .or a b, σ, S, q => by
    unfold wE at q ⊢
    refine wE_mono (fun u S1 q => ?_) a σ S q
    obtain ⟨r, h1, h2⟩ := q
    refine ⟨r, h1, ?_⟩
    split at h2
    · rename_i e; rw [if_pos e]; exact h _ _ h2
    · rename_i e; rw [if_neg e]; exact wE_mono h b σ S1 h2
  | .ifx c a b, σ, S, q => by
    unfold wE at q ⊢
    refine wE_mono (fun u S1 q => ?_) c σ S q
    obtain ⟨r, h1, h2⟩ := q
    refine ⟨r, h1, ?_⟩
    split at h2
    · rename_i e; rw [if_pos e]; exact wE_mono h a σ S1 h2
    · rename_i e; rw [if_neg e]; exact wE_mono h b σ S1 h2
  | .idx a i, σ, S, q => by
    unfold wE at q ⊢
    refine wE_mono (fun u S1 q => wE_mono (fun v S2 q => ?_) i σ S1 q) a σ S q
    obtain ⟨r, h1, h2⟩ := q
    exact ⟨r, h1, h _ _ h2⟩
  | .slL m a lo, σ, S, q => by
    unfold wE at q ⊢
    refine wE_mono (fun u S1 q => wE_mono (fun v S2 q => ?_) lo σ S1 q) a σ S q
    obtain ⟨i, h0, r, h1, h2⟩ := q
    exact ⟨i, h0, r, h1, fin_mono h h2⟩
  | .slU m a lo, σ, S, q => by
    unfold wE at q ⊢
    refine wE_mono (fun u S1 q => wE_mono (fun v S2 q => ?_) lo σ S1 q) a σ S q
    obtain ⟨i, h0, r, h1, h2⟩ := q
    exact ⟨i, h0, r, h1, fin_mono h h2⟩
  | .slLU m a lo hi, σ, S, q => by
    unfold wE at q ⊢
    refine wE_mono (fun u S1 q => wE_mono (fun v S2 q => ?_) lo σ S1 q) a σ S q
    obtain ⟨i, h0, q⟩ := q
    refine ⟨i, h0, wE_mono (fun z S3 q => ?_) hi σ S2 q⟩
    obtain ⟨j, h0, r, h1, h2⟩ := q
    exact ⟨j, h0, r, h1, fin_mono h h2⟩
  | .tup es, σ, S, q => by
    unfold wE at q ⊢
    exact wEs_mono (fun ds S1 q => ⟨q.1, h _ _ q.2⟩) es σ S q
  | .lst m es, σ, S, q => by
    unfold wE at q ⊢
    exact wEs_mono (fun ds S1 q => ⟨q.1, fin_mono h q.2⟩) es σ S q
  | .blt f m es, σ, S, q => by
    unfold wE at q ⊢
    refine wEs_mono (fun ds S1 q => ?_) es σ S q
    obtain ⟨r, h1, h2⟩ := q
    exact ⟨r, h1, fin_mono h h2⟩
  | .bm f m o es, σ, S, q => by
    unfold wE at q ⊢
    refine wE_mono (fun u S1 q => ⟨q.1, wEs_mono (fun ds S2 q => ?_) es σ S1 q.2⟩) o σ S q
    obtain ⟨r, h1, h2⟩ := q
    exact ⟨r, h1, fin_mono h h2⟩
  | .call f es, σ, S, q => by
    unfold wE at q ⊢
    obtain ⟨sp, h1, q⟩ := q
    exact ⟨sp, h1, wEs_mono (fun ds S1 q => callW_mono h (fun _ _ z => z) q) es σ S q⟩
  | .lc i m t as c e, σ, S, q => by
    unfold wE at q ⊢
    refine wEs_mono (fun ds S1 q => ?_) as σ S q
    obtain ⟨its, h1, h2⟩ := q
    refine ⟨its, h1, lcLoop_mono (fun d S2 q q' hq z => ?_) (fun acc S2 z => fin_mono h z) _ _ _ h2⟩
    obtain ⟨σ', e1, z⟩ := z
    refine ⟨σ', e1, wC_mono (fun b S3 z => ?_) c σ' S2 z⟩
    cases b with
    | true => exact wE_mono (fun y S4 z => hq _ _ z) e σ' S3 z
    | false => exact hq _ _ z
  | .frz a, σ, S, q => by
    unfold wE at q ⊢
    refine wE_mono (fun u S1 q => ?_) a σ S q
    obtain ⟨p, ds, h1, h2, h3⟩ := q
    exact ⟨p, ds, h1, h2, h _ _ h3⟩
  | .att o f, σ, S, q => by
    unfold wE at q ⊢
    refine wE_mono (fun u S1 q => ?_) o σ S q
    obtain ⟨a, c, fs, d, h1, h2, h3, h4, h5⟩ := q
    exact ⟨a, c, fs, d, h1, h2, h3, h4, h _ _ h5⟩
  | .mth c o m es, σ, S, q => by
    unfold wE at q ⊢
    obtain ⟨sp, h0, q⟩ := q
    refine ⟨sp, h0, wE_mono (fun u S1 q => ?_) o σ S q⟩
    obtain ⟨a, fs, h1, h2, h3, h4⟩ := q
    exact ⟨a, fs, h1, h2, h3, wEs_mono (fun ds S2 q => callW_mono h (fun _ _ z => z) q) es σ S1 h4⟩
  | .mk c es, σ, S, q => by
    unfold wE at q ⊢
    obtain ⟨sp, h0, q⟩ := q
    exact ⟨sp, h0, wEs_mono (fun ds S1 q p hp => callW_mono (fun v S2 z => ⟨z.1, h _ _ z.2⟩) (fun _ _ z => z) (q p hp)) es σ S q⟩
  | .dct kvs, σ, S, q => by
    unfold wE at q ⊢
    exact fun p hp => h _ _ (q p hp)
  | .bad, σ, S, q => by unfold wE at q; exact q.elim
theorem wEs_mono {G : Gc} {x : XW} {k k' : List D → Sto → Prop} (h : ∀ d S', k d S' → k' d S') : ∀ (es : List ME) (σ : Env) (S : Sto), wEs G x es σ S k → wEs G x es σ S k'
  | [], σ, S, q => by unfold wEs at q ⊢; exact h _ _ q
  | e :: es, σ, S, q => by
    unfold wEs at q ⊢
    exact wE_mono (fun d S1 q => wEs_mono (fun ds S2 q => h _ _ q) es σ S1 q) e σ S q
theorem wC_mono {G : Gc} {k k' : Bool → Sto → Prop} (h : ∀ d S', k d S' → k' d S') : ∀ (es : List ME) (σ : Env) (S : Sto), wC G es σ S k → wC G es σ S k'
  | [], σ, S, q => by unfold wC at q ⊢; exact h _ _ q
  | [c], σ, S, q => by
    unfold wC at q ⊢
    refine wE_mono (fun d S1 q => ?_) c σ S q
    obtain ⟨b, h1, h2⟩ := q
    exact ⟨b, h1, h _ _ h2⟩
  | _ :: _ :: _, σ, S, q => by unfold wC at q; exact q.elim
end
theorem wEs_len {G : Gc} {x : XW} : ∀ (es : List ME) (σ : Env) (S : Sto) (k : List D → Sto → Prop), wEs G x es σ S k → wEs G x es σ S fun ds S' => ds.length = es.length ∧ k ds S'
  | [], σ, S, k, q => by unfold wEs at q ⊢; exact ⟨rfl, q⟩
  | e :: es, σ, S, k, q => by
    unfold wEs at q ⊢
    exact wE_mono (fun d S1 q => wEs_mono (fun ds S2 q => ⟨by rw [List.length_cons, List.length_cons, q.1], q.2⟩) es σ S1 (wEs_len es σ S1 _ q)) e σ S q
/-! ### the wish for what is raised may grow -/
mutual
theorem wE_monoX {G : Gc} {x x' : XW} {k : D → Sto → Prop} (hx : ∀ e σ S', x e σ S' → x' e σ S') : ∀ (e : ME) (σ : Env) (S : Sto), wE G x e σ S k → wE G x' e σ S k
  | .var i, σ, S, q => by unfold wE at q ⊢; exact q
  | .cst d, σ, S, q => by unfold wE at q ⊢; exact q
  | .glo n, σ, S, q => by unfold wE at q ⊢; exact q
  | .bin o m a b, σ, S, q => by
    unfold wE at q ⊢
    exact wE_mono (fun u S1 q => wE_monoX hx b σ S1 q) a σ S (wE_monoX hx a σ S q)
  | .neg a, σ, S, q => by unfold wE at q ⊢; exact wE_monoX hx a σ S q
  | .not a, σ, S, q => by unfold wE at q ⊢; exact wE_monoX hx a σ S q
  | .cmp o a b, σ, S, q => by
    unfold wE at q ⊢
    exact wE_mono (fun u S1 q => wE_monoX hx b σ S1 q) a σ S (wE_monoX hx a σ S q)
  | .cmp2 o o' a b c, σ, S, q => by
    unfold wE at q ⊢
    refine wE_mono (fun u S1 q => wE_mono (fun v S2 q => ?_) b σ S1 (wE_monoX hx b σ S1 q)) a σ S (wE_monoX hx a σ S q)
    obtain ⟨r, h1, h2⟩ := q
    refine ⟨r, h1, ?_⟩
    split at h2
    · rename_i e; rw [if_pos e]; exact wE_monoX hx c σ S2 h2
    · rename_i e; rw [if_neg e]; exact h2
  | .and a b, σ, S, q => by
    unfold wE at q ⊢
    refine wE_mono (fun u S1 q => ?_) a σ S (wE_monoX hx a σ S q)
    obtain ⟨r, h1, h2⟩ := q
    refine ⟨r, h1, ?_⟩
    split at h2
    · rename_i e; rw [if_pos e]; exact wE_monoX hx b σ S1 h2
    · rename_i e; rw [if_neg e]; exact h2
  | .or a b, σ, S, q => by
    unfold wE at q ⊢
    refine wE_mono (fun u S1 q => ?_) a σ S (wE_monoX hx a σ S q)
    obtain ⟨r, h1, h2⟩ := q
    refine ⟨r, h1, ?_⟩
    split at h2
    · rename_i e; rw [if_pos e]; exact h2
    · rename_i e; rw [if_neg e]; exact wE_monoX hx b σ S1 h2
  | .ifx c a b, σ, S, q => by
    unfold wE at q ⊢
    refine wE_mono (fun u S1 q => ?_) c σ S (wE_monoX hx c σ S q)
    obtain ⟨r, h1, h2⟩ := q
    refine ⟨r, h1, ?_⟩
    split at h2
    · rename_i e; rw [if_pos e]; exact wE_monoX hx a σ S1 h2
    · rename_i e; rw [if_neg e]; exact wE_monoX hx b σ S1 h2
  | .idx a i, σ, S, q => by
    unfold wE at q ⊢
    exact wE_mono (fun u S1 q => wE_monoX hx i σ S1 q) a σ S (wE_monoX hx a σ S q)
  | .slL m a lo, σ, S, q => by
    unfold wE at q ⊢
    exact wE_mono (fun u S1 q => wE_monoX hx lo σ S1 q) a σ S (wE_monoX hx a σ S q)
  | .slU m a lo, σ, S, q => by
    unfold wE at q ⊢
    exact wE_mono (fun u S1 q => wE_monoX hx lo σ S1 q) a σ S (wE_monoX hx a σ S q)
  | .slLU m a lo hi, σ, S, q => by
    unfold wE at q ⊢
    refine wE_mono (fun u S1 q => wE_mono (fun v S2 q => ?_) lo σ S1 (wE_monoX hx lo σ S1 q)) a σ S (wE_monoX hx a σ S q)
    obtain ⟨i, h0, q⟩ := q
    exact ⟨i, h0, wE_monoX hx hi σ S2 q⟩
  | .tup es, σ, S, q => by unfold wE at q ⊢; exact wEs_monoX hx es σ S q
  | .lst m es, σ, S, q => by unfold wE at q ⊢; exact wEs_monoX hx es σ S q
  | .blt f m es, σ, S, q => by unfold wE at q ⊢; exact wEs_monoX hx es σ S q
  | .bm f m o es, σ, S, q => by
    unfold wE at q ⊢
    exact wE_mono (fun u S1 q => ⟨q.1, wEs_monoX hx es σ S1 q.2⟩) o σ S (wE_monoX hx o σ S q)
  | .call f es, σ, S, q => by
    unfold wE at q ⊢
    obtain ⟨sp, h1, q⟩ := q
    exact ⟨sp, h1, wEs_mono (fun ds S1 q => callW_mono (fun _ _ z => z) (fun _ _ z => hx _ _ _ z) q) es σ S (wEs_monoX hx es σ S q)⟩
  | .lc i m t as c e, σ, S, q => by unfold wE at q ⊢; exact wEs_monoX hx as σ S q
  | .frz a, σ, S, q => by unfold wE at q ⊢; exact wE_monoX hx a σ S q
  | .att o f, σ, S, q => by unfold wE at q ⊢; exact wE_monoX hx o σ S q
  | .mth c o m es, σ, S, q => by
    unfold wE at q ⊢
    obtain ⟨sp, h0, q⟩ := q
    refine ⟨sp, h0, wE_mono (fun u S1 q => ?_) o σ S (wE_monoX hx o σ S q)⟩
    obtain ⟨a, fs, h1, h2, h3, h4⟩ := q
    exact ⟨a, fs, h1, h2, h3, wEs_mono (fun ds S2 q => callW_mono (fun _ _ z => z) (fun _ _ z => hx _ _ _ z) q) es σ S1 (wEs_monoX hx es σ S1 h4)⟩
  | .mk c es, σ, S, q => by
    unfold wE at q ⊢
    obtain ⟨sp, h0, q⟩ := q
    exact ⟨sp, h0, wEs_monoX hx es σ S q⟩
  | .dct kvs, σ, S, q => by unfold wE at q ⊢; exact q
  | .bad, σ, S, q => by unfold wE at q; exact q.elim
theorem wEs_monoX {G : Gc} {x x' : XW} {k : List D → Sto → Prop} (hx : ∀ e σ S', x e σ S' → x' e σ S') : ∀ (es : List ME) (σ : Env) (S : Sto), wEs G x es σ S k → wEs G x' es σ S k
  | [], σ, S, q => by unfold wEs at q ⊢; exact q
  | e :: es, σ, S, q => by
    unfold wEs at q ⊢
    exact wE_mono (fun d S1 q => wEs_monoX hx es σ S1 q) e σ S (wE_monoX hx e σ S q)
end
structure KS.Le (k k' : KS) : Prop where
  nx : ∀ σ S, k.nx σ S → k'.nx σ S
  rt : ∀ d S, k.rt d S → k'.rt d S
  bk : ∀ σ S, k.bk σ S → k'.bk σ S
  ct : ∀ σ S, k.ct σ S → k'.ct σ S
theorem forLoop_mono {g : Sto → Prop} {f f' : D → Env → Sto → KS → Prop} (hf : ∀ d σ S q q', KS.Le q q' → f d σ S q → f' d σ S q') {k k' : KS} (h : KS.Le k k') :
    ∀ (ds : List D) (σ : Env) (S : Sto), forLoop g f ds σ S k → forLoop g f' ds σ S k'
  | [], σ, S, q => ⟨q.1, h.nx _ _ q.2⟩
  | d :: ds, σ, S, q => by
    refine ⟨q.1, hf _ _ _ _ _ ?_ q.2⟩
    exact ⟨fun σ' S' z => forLoop_mono hf h ds σ' S' z, h.rt, h.nx, fun σ' S' z => forLoop_mono hf h ds σ' S' z⟩
theorem catch_mono {G : Gc} {x x' : XW} {c : Str} {i : Option Nat} {q : List QS} {k k' : KS} (hx : ∀ e σ S', x e σ S' → x' e σ S') (h : KS.Le k k') : ∀ e σ S, catch_ G x c i q k e σ S → catch_ G x' c i q k' e σ S := by
  rintro e σ S ⟨h0, t, h1, h2⟩
  refine ⟨h0, t, h1, ?_⟩
  split at h2
  · rename_i z; rw [if_pos z]
    obtain ⟨r, h3, h4⟩ := h2
    refine ⟨r, h3, ?_⟩
    obtain ⟨σ', o⟩ := r
    cases o with
    | none => exact h.nx _ _ h4
    | some d => exact h.rt _ _ h4
  · rename_i z; rw [if_neg z]; exact hx _ _ _ h2
mutual
theorem wS_monoX {G : Gc} {x x' : XW} {k k' : KS} (hx : ∀ e σ S', x e σ S' → x' e σ S') (h : KS.Le k k') : ∀ (s : MS) (σ : Env) (S : Sto), wS G x s σ S k → wS G x' s σ S k'
  | .asg t e, σ, S, q => by
    unfold wS at q ⊢
    refine wE_mono (fun d S1 q => ?_) e σ S (wE_monoX hx e σ S q)
    obtain ⟨σ', h1, h2⟩ := q
    exact ⟨σ', h1, h.nx _ _ h2⟩
  | .six o i e, σ, S, q => by
    unfold wS at q ⊢
    refine wE_mono (fun d S1 q => wE_mono (fun u S2 q => wE_mono (fun j S3 q => ?_) i σ S2 (wE_monoX hx i σ S2 q)) o σ S1 (wE_monoX hx o σ S1 q)) e σ S (wE_monoX hx e σ S q)
    obtain ⟨σ', h1, h2⟩ := q
    exact ⟨σ', h1, h.nx _ _ h2⟩
  | .aug i o e, σ, S, q => by
    unfold wS at q ⊢
    obtain ⟨u, h0, q⟩ := q
    refine ⟨u, h0, wE_mono (fun d S1 q => ?_) e σ S (wE_monoX hx e σ S q)⟩
    obtain ⟨σ', h1, h2⟩ := q
    exact ⟨σ', h1, h.nx _ _ h2⟩
  | .exp e, σ, S, q => by unfold wS at q ⊢; exact wE_mono (fun d S1 q => h.nx _ _ q) e σ S (wE_monoX hx e σ S q)
  | .ret e, σ, S, q => by unfold wS at q ⊢; exact wE_mono (fun d S1 q => h.rt _ _ q) e σ S (wE_monoX hx e σ S q)
  | .ite c a b, σ, S, q => by
    unfold wS at q ⊢
    refine wE_mono (fun d S1 q => ?_) c σ S (wE_monoX hx c σ S q)
    obtain ⟨z, h1, h2⟩ := q
    refine ⟨z, h1, ?_⟩
    split at h2
    · rename_i e; rw [if_pos e]; exact wSs_monoX hx h a σ S1 h2
    · rename_i e; rw [if_neg e]; exact wSs_monoX hx h b σ S1 h2
  | .for_ i t as b, σ, S, q => by
    unfold wS at q ⊢
    refine wEs_mono (fun ds S1 q => ?_) as σ S (wEs_monoX hx as σ S q)
    obtain ⟨its, h1, h2⟩ := q
    refine ⟨its, h1, forLoop_mono (fun d σ2 S2 q q' hq z => ?_) h _ _ _ h2⟩
    obtain ⟨σ', e1, z⟩ := z
    exact ⟨σ', e1, wSs_monoX hx hq b σ' S2 z⟩
  | .whl c b, σ, S, q => by
    unfold wS at q ⊢
    obtain ⟨W, h0, q⟩ := q
    refine ⟨W, h0, fun m σ S w => wE_mono (fun u S1 q => ?_) c σ S (wE_monoX hx c σ S (q m σ S w))⟩
    obtain ⟨z, h1, h2⟩ := q
    refine ⟨z, h1, ?_⟩
    split at h2
    · rename_i e; rw [if_pos e]
      obtain ⟨N, hN, h2⟩ := h2
      refine ⟨N, hN, wSs_monoX hx ?_ b σ S1 h2⟩
      exact ⟨fun _ _ z => z, h.rt, h.nx, fun _ _ z => z⟩
    · rename_i e; rw [if_neg e]; exact h.nx _ _ h2
  | .pas, σ, S, q => by unfold wS at q ⊢; exact h.nx _ _ q
  | .cont, σ, S, q => by unfold wS at q ⊢; exact h.ct _ _ q
  | .drp i, σ, S, q => by unfold wS at q ⊢; obtain ⟨a, h1, h2⟩ := q; exact ⟨a, h1, h.nx _ _ h2⟩
  | .frS i, σ, S, q => by unfold wS at q ⊢; obtain ⟨a, ds, h1, h2, h3⟩ := q; exact ⟨a, ds, h1, h2, h.nx _ _ h3⟩
  | .sat o f e, σ, S, q => by
    unfold wS at q ⊢
    refine wE_mono (fun v S1 q => wE_mono (fun u S2 q => ?_) o σ S1 (wE_monoX hx o σ S1 q)) e σ S (wE_monoX hx e σ S q)
    obtain ⟨a, c, fs, h1, h2, h3, h4, h5⟩ := q
    exact ⟨a, c, fs, h1, h2, h3, h4, h.nx _ _ h5⟩
  | .aga o f op e, σ, S, q => by
    unfold wS at q ⊢
    refine wE_mono (fun u S1 q => ?_) o σ S (wE_monoX hx o σ S q)
    obtain ⟨a, c, fs, i, h1, h2, h3, h4, h5⟩ := q
    refine ⟨a, c, fs, i, h1, h2, h3, h4, wE_mono (fun v S2 q => ?_) e σ S1 (wE_monoX hx e σ S1 h5)⟩
    obtain ⟨d, fs', h6, h7, h8, h9⟩ := q
    exact ⟨d, fs', h6, h7, h8, h.nx _ _ h9⟩
  | .ags o i op e, σ, S, q => by
    unfold wS at q ⊢
    refine wE_mono (fun u S1 q => wE_mono (fun j S2 q => ?_) i σ S1 (wE_monoX hx i σ S1 q)) o σ S (wE_monoX hx o σ S q)
    obtain ⟨a, kvs, key, v, h1, h2, h3, h4, h5⟩ := q
    refine ⟨a, kvs, key, v, h1, h2, h3, h4, wE_mono (fun y S3 q => ?_) e σ S2 (wE_monoX hx e σ S2 h5)⟩
    obtain ⟨d, kvs', h6, h7, h8, h9⟩ := q
    exact ⟨d, kvs', h6, h7, h8, h.nx _ _ h9⟩
  | .rai c es, σ, S, q => by
    unfold wS at q ⊢
    obtain ⟨F, h1, q⟩ := q
    exact ⟨F, h1, wEs_mono (fun ds S1 q => hx _ _ _ q) es σ S (wEs_monoX hx es σ S q)⟩
  | .tri b c i q, σ, S, z => by
    unfold wS at z ⊢
    exact ⟨z.1, wSs_monoX (catch_mono hx h) h b σ S z.2⟩
  | .bad, σ, S, q => by unfold wS at q; exact q.elim
theorem wSs_monoX {G : Gc} {x x' : XW} {k k' : KS} (hx : ∀ e σ S', x e σ S' → x' e σ S') (h : KS.Le k k') : ∀ (ss : List MS) (σ : Env) (S : Sto), wSs G x ss σ S k → wSs G x' ss σ S k'
  | [], σ, S, q => by unfold wSs at q ⊢; exact h.nx _ _ q
  | s :: r, σ, S, q => by
    unfold wSs at q ⊢
    refine wS_monoX hx ?_ s σ S q
    exact ⟨fun σ' S' z => wSs_monoX hx h r σ' S' z, h.rt, h.bk, h.ct⟩
end
theorem wS_mono {G : Gc} {x : XW} {k k' : KS} (h : KS.Le k k') (s : MS) (σ : Env) (S : Sto) (q : wS G x s σ S k) : wS G x s σ S k' := wS_monoX (fun _ _ _ z => z) h s σ S q
theorem wSs_mono {G : Gc} {x : XW} {k k' : KS} (h : KS.Le k k') (ss : List MS) (σ : Env) (S : Sto) (q : wSs G x ss σ S k) : wSs G x ss σ S k' := wSs_monoX (fun _ _ _ z => z) h ss σ S q
end Mn

namespace Mn
open PySem L2
/-! ### texts in order -/
theorem Spec.ltCps_iff : ∀ a b : List Nat, Spec.ltCps a b = true ↔ a < b
  | [], [] => by simp [Spec.ltCps]
  | [], _ :: _ => by simp [Spec.ltCps]
  | _ :: _, [] => by simp [Spec.ltCps]
  | a :: r, b :: t => by
    rw [List.cons_lt_cons_iff]
    simp [Spec.ltCps, Spec.ltCps_iff r t]
def leS (a b : Str) : Prop := ¬ (b.cps.toList < a.cps.toList)
theorem leS_refl (a : Str) : leS a a := List.lt_irrefl _
theorem leS_trans {a b c : Str} (h1 : leS a b) (h2 : leS b c) : leS a c := by
  unfold leS at *
  rw [List.not_lt] at *
  exact List.le_trans h1 h2
theorem leS_antisymm {a b : Str} (h1 : leS a b) (h2 : leS b a) : a = b := by
  unfold leS at *
  rw [List.not_lt] at h1 h2
  have := List.le_antisymm h1 h2
  obtain ⟨⟨a⟩⟩ := a
  obtain ⟨⟨b⟩⟩ := b
  simp at this
  rw [this]
theorem leS_total (a b : Str) : leS a b ∨ leS b a := by
  unfold leS
  rw [List.not_lt, List.not_lt]
  exact List.le_total _ _
theorem risingS_iff : ∀ (l : List Str) (p : Str), PyProof.Rows.risingS p l = true ↔ (p :: l).Pairwise leS
  | [], p => by simp [PyProof.Rows.risingS]
  | x :: r, p => by
    have e : PyProof.Rows.risingS p (x :: r) = (!Spec.ltCps x.cps.toList p.cps.toList && PyProof.Rows.risingS x r) := rfl
    rw [e, Bool.and_eq_true, risingS_iff r x, Bool.not_eq_true', ← Bool.not_eq_true, Spec.ltCps_iff]
    constructor
    · rintro ⟨h1, h2⟩
      have h3 := List.pairwise_cons.mp h2
      refine List.pairwise_cons.mpr ⟨fun z hz => ?_, h2⟩
      rcases List.mem_cons.mp hz with rfl | hz
      · exact h1
      · exact leS_trans h1 (h3.1 z hz)
    · intro h
      have h' := List.pairwise_cons.mp h
      exact ⟨h'.1 x List.mem_cons_self, h'.2⟩
theorem sortedS_iff : ∀ l : List Str, PyProof.Rows.sortedS l = true ↔ l.Pairwise leS
  | [] => by simp [PyProof.Rows.sortedS]
  | x :: r => risingS_iff r x
theorem insS_perm (x : Str) : ∀ l : List Str, (insS x l).Perm (x :: l)
  | [] => .refl _
  | y :: r => by
    unfold insS
    split
    · exact ((insS_perm x r).cons y).trans (List.Perm.swap x y r)
    · exact .refl _
theorem srtS_perm : ∀ l : List Str, (srtS l).Perm l
  | [] => .refl _
  | x :: r => (insS_perm x _).trans ((srtS_perm r).cons x)
theorem insS_sorted (x : Str) : ∀ l : List Str, l.Pairwise leS → (insS x l).Pairwise leS
  | [], _ => by unfold insS; simp
  | y :: r, h => by
    have h' := List.pairwise_cons.mp h
    unfold insS
    split
    · rename_i q
      rw [Spec.ltCps_iff] at q
      refine List.pairwise_cons.mpr ⟨fun z hz => ?_, insS_sorted x r h'.2⟩
      rcases List.mem_cons.mp ((insS_perm x r).mem_iff.mp hz) with rfl | hz
      · intro w
        exact List.lt_irrefl _ (List.lt_trans w q)
      · exact h'.1 z hz
    · rename_i q
      rw [Spec.ltCps_iff] at q
      refine List.pairwise_cons.mpr ⟨fun z hz => ?_, h⟩
      rcases List.mem_cons.mp hz with rfl | hz
      · exact q
      · exact leS_trans q (h'.1 z hz)
theorem srtS_sorted : ∀ l : List Str, (srtS l).Pairwise leS
  | [] => .nil
  | x :: r => insS_sorted x _ (srtS_sorted r)
theorem srt_unique {xs ys : List Str} (hp : ys.Perm xs) (hs : PyProof.Rows.sortedS ys = true) : ys = srtS xs :=
  List.Perm.eq_of_pairwise (le := leS) (fun _ _ _ _ => leS_antisymm) ((sortedS_iff ys).mp hs) (srtS_sorted xs) (hp.trans (srtS_perm xs).symm)
theorem srtS_len (l : List Str) : (srtS l).length = l.length := (srtS_perm l).length_eq
end Mn

namespace Mn
open PySem L2

abbrev cc (X : Cx) (ga : Str → Addr) (Z : Addr → Prop) : Cc := ⟨X.K, ga, Z⟩
abbrev W1 := Env → Sto → (D → Sto → Prop) → Prop
/-- what the caller's wish looks like from here -/
def kD (C : Cc) (H : Hp) (S : Sto) (Q : VK) : D → Sto → Prop := fun d S' => ∀ H' v, Rp C H' S' → Ext H S H' S' → RelD C H' S' d v → Q v H'
def tD (C : Cc) (H0 : Hp) (S0 : Sto) (f : W1) : TE := fun σ H Q => ∃ (σd : Env) (S : Sto), RelS C H S σd σ ∧ Rp C H S ∧ Ext H0 S0 H S ∧ f σd S (kD C H S Q)
def kDs (C : Cc) (H : Hp) (S : Sto) (Q : List V → Hp → Prop) : List D → Sto → Prop := fun ds S' => ∀ H' vs, Rp C H' S' → Ext H S H' S' → RelDs C H' S' ds vs → Q vs H'
def tDA (C : Cc) (H0 : Hp) (S0 : Sto) (f : Env → Sto → (List D → Sto → Prop) → Prop) : TA := fun σ H Q => ∃ (σd : Env) (S : Sto), RelS C H S σd σ ∧ Rp C H S ∧ Ext H0 S0 H S ∧ f σd S (kDs C H S Q)
theorem kD_ext {C : Cc} {H H1 : Hp} {S S1 : Sto} {Q : VK} (e : Ext H S H1 S1) {d : D} {S' : Sto} (h : kD C H S Q d S') : kD C H1 S1 Q d S' := fun H' v rp ex r => h H' v rp (e.trans ex) r
theorem PE.imp {X : Cx} {e : Expr} {t t' : TE} (h : PE X e t) (i : ∀ σ H Q, t' σ H Q → t σ H Q) : PE X e t' := ⟨fun pins s σ H Q I q => h.run pins s σ H Q I (i σ H Q q)⟩
theorem PT.imp {X : Cx} {e : Expr} {t t' : TT} (h : PT X e t) (i : ∀ σ H Q, t' σ H Q → t σ H Q) : PT X e t' := ⟨fun pins s σ H Q I q => h.run pins s σ H Q I (i σ H Q q)⟩
theorem PW.imp {X : Cx} {e : Expr} {t t' : TT} (h : PW X e t) (i : ∀ σ H Q, t' σ H Q → t σ H Q) : PW X e t' := ⟨fun wh pins s σ H Q I q => h.run wh pins s σ H Q I (i σ H Q q)⟩
theorem PA.imp {X : Cx} {e : List Expr} {t t' : TA} (h : PA X e t) (i : ∀ σ H Q, t' σ H Q → t σ H Q) : PA X e t' := ⟨fun pos pins s σ H Q I q => h.run pos pins s σ H Q I (i σ H Q q)⟩
theorem PS.imp {X : Cx} {e : Stmt} {t t' : TS} (h : PS X e t) (i : ∀ D σ H, t' D σ H → t D σ H) : PS X e t' := ⟨fun pins s σ H D I q => h.run pins s σ H D I (i D σ H q)⟩
theorem PSs.imp {X : Cx} {e : List Stmt} {t t' : TS} (h : PSs X e t) (i : ∀ D σ H, t' D σ H → t D σ H) : PSs X e t' := ⟨fun pins s σ H D I q => h.run pins s σ H D I (i D σ H q)⟩

/-! ### operations by values -/
abbrev F2 := D → D → Sto → (D → Sto → Prop) → Prop
def rD2 (C : Cc) (f : F2) : R2 := fun x y H Q => ∃ u v S, Rp C H S ∧ RelD C H S u x ∧ RelD C H S v y ∧ f u v S (kD C H S Q)
def rD1 (C : Cc) (f : D → Sto → (D → Sto → Prop) → Prop) : V → Hp → VK → Prop := fun x H Q => ∃ u S, Rp C H S ∧ RelD C H S u x ∧ f u S (kD C H S Q)
def rDc (C : Cc) (f : List D → Sto → (D → Sto → Prop) → Prop) : List V → Hp → VK → Prop := fun xs H Q => ∃ us S, Rp C H S ∧ RelDs C H S us xs ∧ f us S (kD C H S Q)
def rDm (C : Cc) (f : D → List D → Sto → (D → Sto → Prop) → Prop) : V → List V → Hp → VK → Prop := fun x xs H Q => ∃ u us S, Rp C H S ∧ RelD C H S u x ∧ RelDs C H S us xs ∧ f u us S (kD C H S Q)
section
variable {C : Cc} {H0 : Hp} {S0 : Sto} {G : Gc} {x : XW}
theorem tD_one {a : ME} {f : D → Sto → (D → Sto → Prop) → Prop} (hf : ∀ u S k k', (∀ d S', k d S' → k' d S') → f u S k → f u S k') {σ : St} {H : Hp} {Q : VK} (h : tD C H0 S0 (fun σ S k => wE G x a σ S fun u S1 => f u S1 k) σ H Q) :
    tD C H0 S0 (wE G x a) σ H fun z H1 => rD1 C f z H1 Q := by
  obtain ⟨σd, S, rs, rp, ex, w⟩ := h
  exact ⟨σd, S, rs, rp, ex, wE_mono (fun u S1 q H1 z rp1 e1 r1 => ⟨u, S1, rp1, r1, hf _ _ _ _ (fun d S' => kD_ext e1) q⟩) a σd S w⟩
theorem tD_two {a b : ME} {f : F2} (hf : ∀ u v S k k', (∀ d S', k d S' → k' d S') → f u v S k → f u v S k') {σ : St} {H : Hp} {Q : VK} (h : tD C H0 S0 (fun σ S k => wE G x a σ S fun u S1 => wE G x b σ S1 fun v S2 => f u v S2 k) σ H Q) :
    tOp (rD2 C f) (tD C H0 S0 (wE G x a)) (tD C H0 S0 (wE G x b)) σ H Q := by
  obtain ⟨σd, S, rs, rp, ex, w⟩ := h
  exact ⟨σd, S, rs, rp, ex, wE_mono (fun u S1 q H1 z rp1 e1 r1 => ⟨σd, S1, rs.ext e1, rp1, ex.trans e1, wE_mono (fun v S2 q H2 z2 rp2 e2 r2 =>
    ⟨u, v, S2, rp2, r1.ext e2, r2, hf _ _ _ _ _ (fun d S' => kD_ext (e1.trans e2)) q⟩) b σd S1 q⟩) a σd S w⟩
theorem tD_args {es : List ME} {f : List D → Sto → (D → Sto → Prop) → Prop} (hf : ∀ u S k k', (∀ d S', k d S' → k' d S') → f u S k → f u S k') {σ : St} {H : Hp} {Q : VK} (h : tD C H0 S0 (fun σ S k => wEs G x es σ S fun u S1 => f u S1 k) σ H Q) :
    tCB (rDc C f) (tDA C H0 S0 (wEs G x es)) σ H Q := by
  obtain ⟨σd, S, rs, rp, ex, w⟩ := h
  exact ⟨σd, S, rs, rp, ex, wEs_mono (fun u S1 q H1 z rp1 e1 r1 => ⟨u, S1, rp1, r1, hf _ _ _ _ (fun d S' => kD_ext e1) q⟩) es σd S w⟩
end
/-- the end of an operation: a value as it stands -/
theorem kD_val {C : Cc} {H : Hp} {S : Sto} {Q : VK} {d : D} {v : V} (rp : Rp C H S) (h : kD C H S Q d S) (r : RelD C H S d v) : Q v H := h H v rp (Ext.refl _ _) r
/-- a new list -/
theorem fin_new {C : Cc} {H : Hp} {S : Sto} {Q : VK} {m : Bool} {ds : List D} {vs : List V} (rp : Rp C H S) (h : fin m (.newL ds) S (kD C H S Q)) (r : RelDs C H S ds vs) : ∀ p, H p = none → Q (.ref p) (upd H p (.lst vs)) := by
  intro p hp
  cases m with
  | true =>
    refine h p (rp.free hp) _ (.ref p) (rp.newM hp ⟨vs, rfl, r.ext (Ext.newM hp)⟩) (Ext.newM hp) ?_
    unfold RelD; rfl
  | false =>
    refine h _ (.ref p) (rp.new hp) (Ext.new hp) ?_
    unfold RelD
    exact ⟨p, vs, rfl, ⟨upd_same, rp.free hp, rp.nz hp⟩, r.ext (Ext.new hp)⟩
/-- a new dict -/
theorem fin_newD {C : Cc} {H : Hp} {S : Sto} {Q : VK} {m : Bool} {kvs : List (Key × D)} {l : List (Key × V)} (rp : Rp C H S) (h : fin m (.newD kvs) S (kD C H S Q)) (r : RelK C H S kvs l) : ∀ p, H p = none → Q (.ref p) (upd H p (.dK l)) := by
  intro p hp
  refine h p (rp.free hp) _ (.ref p) (rp.newM hp ⟨l, rfl, r.ext (Ext.newM hp)⟩) (Ext.newM hp) ?_
  unfold RelD; rfl
/-- a new tuple -/
theorem kD_tup {C : Cc} {H : Hp} {S : Sto} {Q : VK} {ds : List D} {vs : List V} (rp : Rp C H S) (h : kD C H S Q (.tup ds) S) (r : RelDs C H S ds vs) : ∀ p, H p = none → Q (.ref p) (upd H p (.tup vs)) := by
  intro p hp
  refine h _ (.ref p) (rp.new hp) (Ext.new hp) ?_
  unfold RelD
  exact ⟨p, vs, rfl, .inl ⟨upd_same, rp.free hp⟩, r.ext (Ext.new hp)⟩

/-! ### data as lists -/
section
variable {C : Cc} {H : Hp} {S : Sto}
theorem RelDs.len : ∀ {ds : List D} {vs : List V}, RelDs C H S ds vs → vs.length = ds.length
  | [], _, h => by unfold RelDs at h; rw [h]; rfl
  | d :: ds, _, h => by unfold RelDs at h; obtain ⟨v, r, rfl, _, h2⟩ := h; simp [RelDs.len h2]
theorem RelDs.nil : RelDs C H S [] [] := by unfold RelDs; rfl
theorem RelDs.cons {d : D} {v : V} {ds : List D} {vs : List V} (a : RelD C H S d v) (b : RelDs C H S ds vs) : RelDs C H S (d :: ds) (v :: vs) := by unfold RelDs; exact ⟨v, vs, rfl, a, b⟩
theorem RelDs.app : ∀ {ds es : List D} {vs ws : List V}, RelDs C H S ds vs → RelDs C H S es ws → RelDs C H S (ds ++ es) (vs ++ ws)
  | [], es, _, ws, h, q => by unfold RelDs at h; rw [h]; exact q
  | d :: ds, es, _, ws, h, q => by unfold RelDs at h; obtain ⟨v, r, rfl, h1, h2⟩ := h; exact RelDs.cons h1 (RelDs.app h2 q)
theorem RelDs.drop : ∀ {ds : List D} {vs : List V} (n : Nat), RelDs C H S ds vs → RelDs C H S (ds.drop n) (vs.drop n)
  | ds, vs, 0, h => h
  | [], _, n + 1, h => by unfold RelDs at h; rw [h]; exact RelDs.nil
  | d :: ds, _, n + 1, h => by unfold RelDs at h; obtain ⟨v, r, rfl, h1, h2⟩ := h; exact RelDs.drop n h2
theorem RelDs.take : ∀ {ds : List D} {vs : List V} (n : Nat), RelDs C H S ds vs → RelDs C H S (ds.take n) (vs.take n)
  | ds, vs, 0, h => RelDs.nil
  | [], _, n + 1, h => by unfold RelDs at h; rw [h]; exact RelDs.nil
  | d :: ds, _, n + 1, h => by unfold RelDs at h; obtain ⟨v, r, rfl, h1, h2⟩ := h; exact RelDs.cons h1 (RelDs.take n h2)
theorem RelDs.get : ∀ {ds : List D} {vs : List V} {i : Nat} {d : D}, RelDs C H S ds vs → ds[i]? = some d → ∃ v, vs[i]? = some v ∧ RelD C H S d v
  | [], _, i, d, h, e => by simp at e
  | d' :: ds, _, 0, d, h, e => by unfold RelDs at h; obtain ⟨v, r, rfl, h1, h2⟩ := h; simp at e; subst e; exact ⟨v, rfl, h1⟩
  | d' :: ds, _, i + 1, d, h, e => by
    unfold RelDs at h; obtain ⟨v, r, rfl, h1, h2⟩ := h
    obtain ⟨w, h3, h4⟩ := RelDs.get (i := i) (d := d) h2 (by simpa using e)
    exact ⟨w, by simpa using h3, h4⟩
theorem RelDs.set : ∀ {ds : List D} {vs : List V} (i : Nat) {d : D} {v : V}, RelDs C H S ds vs → RelD C H S d v → RelDs C H S (ds.set i d) (vs.set i v)
  | [], _, i, d, v, h, e => by unfold RelDs at h; rw [h]; exact RelDs.nil
  | d' :: ds, _, 0, d, v, h, e => by unfold RelDs at h; obtain ⟨w, r, rfl, h1, h2⟩ := h; exact RelDs.cons e h2
  | d' :: ds, _, i + 1, d, v, h, e => by unfold RelDs at h; obtain ⟨w, r, rfl, h1, h2⟩ := h; exact RelDs.cons h1 (RelDs.set i h2 e)
theorem RelDs.atI {ds : List D} {vs : List V} {i : Int} {d : D} (h : RelDs C H S ds vs) (e : L2.atI ds i = some d) : ∃ v, L2.atI vs i = some v ∧ RelD C H S d v := by
  unfold L2.atI at e ⊢
  rw [h.len]
  cases q : ixN ds.length i with
  | none => rw [q] at e; cases e
  | some j =>
    rw [q] at e
    exact h.get (show ds[j]? = some d from e)
theorem RelDs.cut {ds : List D} {vs : List V} (lo hi : Option Int) (h : RelDs C H S ds vs) : RelDs C H S (cutD ds lo hi) (cutV vs lo hi) := by
  unfold cutD cutV
  rw [h.len]
  exact (h.drop _).take _
/-- a list: frozen or in the store -/
theorem listOf_sq (rp : Rp C H S) {d : D} {v : V} {ds : List D} (r : RelD C H S d v) (e : listOf S d = some ds) : ∃ a vs, v = .ref a ∧ H a = some (.lst vs) ∧ RelDs C H S ds vs := by
  cases d with
  | lst es =>
    cases e
    unfold RelD at r
    obtain ⟨a, vs, rfl, f, q⟩ := r
    exact ⟨a, vs, rfl, f.1, q⟩
  | ref a =>
    unfold RelD at r
    subst r
    obtain ⟨o, h1, h2⟩ := rp.obj a _ (lstAt_some (show lstAt S a = some ds from e))
    obtain ⟨vs, rfl, q⟩ := h2
    exact ⟨a, vs, rfl, h1, q⟩
  | _ => cases e
theorem seqOf_sq (rp : Rp C H S) {d : D} {v : V} {ds : List D} (r : RelD C H S d v) (e : seqOf S d = some ds) : ∃ a vs, v = .ref a ∧ (SqL C.K H a vs ∨ SqT C.K H a vs) ∧ RelDs C H S ds vs := by
  cases d with
  | lst es =>
    cases e
    unfold RelD at r
    obtain ⟨a, vs, rfl, f, q⟩ := r
    exact ⟨a, vs, rfl, .inl f.sq, q⟩
  | tup es =>
    cases e
    unfold RelD at r
    obtain ⟨a, vs, rfl, f, q⟩ := r
    exact ⟨a, vs, rfl, .inr f.sq, q⟩
  | ref a =>
    unfold RelD at r
    subst r
    obtain ⟨o, h1, h2⟩ := rp.obj a _ (lstAt_some (show lstAt S a = some ds from e))
    obtain ⟨vs, rfl, q⟩ := h2
    exact ⟨a, vs, rfl, .inl (.of h1), q⟩
  | _ => cases e
theorem RelD.strOk {x : Str} {v : V} (r : RelD C H S (.str x) v) : PySem.PyData.strOk x = true := by unfold RelD at r; exact r.2
mutual
theorem toPy_dp : ∀ {d : D} {v : V}, RelD C H S d v → pureD d = true → Dp C.K H v (toPy d) ∧ (toPy d).canLay0 = true ∧ (toPy d).depth = dep d
  | .non, _, h, e => by unfold RelD at h; subst h; exact ⟨.non, rfl, rfl⟩
  | .bl b, _, h, e => by unfold RelD at h; subst h; exact ⟨.bl b, rfl, rfl⟩
  | .int b, _, h, e => by unfold RelD at h; subst h; exact ⟨.int b, rfl, rfl⟩
  | .str b, _, h, e => by unfold RelD at h; obtain ⟨rfl, h⟩ := h; exact ⟨.str b, by unfold toPy PyData.canLay0; exact h, rfl⟩
  | .ty _, _, h, e => by unfold pureD at e; cases e
  | .ref _, _, h, e => by unfold pureD at e; cases e
  | .scr _, _, h, e => by unfold pureD at e; cases e
  | .tup ds, _, h, e => by
    unfold RelD at h; unfold pureD at e
    obtain ⟨a, vs, rfl, f, q⟩ := h
    obtain ⟨h1, h2, h3⟩ := toPys_dp q e
    unfold toPy dep
    refine ⟨.tup f.sq h1, by unfold PyData.canLay0; exact h2, ?_⟩
    unfold PyData.depth; rw [h3]
  | .lst ds, _, h, e => by
    unfold RelD at h; unfold pureD at e
    obtain ⟨a, vs, rfl, f, q⟩ := h
    obtain ⟨h1, h2, h3⟩ := toPys_dp q e
    unfold toPy dep
    refine ⟨.lst f.sq h1, by unfold PyData.canLay0; exact h2, ?_⟩
    unfold PyData.depth; rw [h3]
theorem toPys_dp : ∀ {ds : List D} {vs : List V}, RelDs C H S ds vs → pureDs ds = true → DpAll C.K H vs (toPys ds) ∧ PyData.canLayAll0 (toPys ds) = true ∧ PyData.depthAll (toPys ds) = deps ds
  | [], _, h, e => by unfold RelDs at h; subst h; exact ⟨.nil, rfl, rfl⟩
  | d :: ds, _, h, e => by
    unfold RelDs at h; unfold pureDs at e
    obtain ⟨v, r, rfl, h1, h2⟩ := h
    obtain ⟨e1, e2⟩ := Bool.and_eq_true_iff.mp e
    obtain ⟨a1, a2, a3⟩ := toPy_dp h1 e1
    obtain ⟨b1, b2, b3⟩ := toPys_dp h2 e2
    unfold toPys deps
    refine ⟨.cons a1 b1, by unfold PyData.canLayAll0; rw [a2, b2]; rfl, by unfold PyData.depthAll; rw [a3, b3]⟩
end
theorem top_dp (rp : Rp C H S) {d : D} {v : V} (r : RelD C H S d v) (e : pureD (top S d) = true) : Dp C.K H v (toPy (top S d)) ∧ (toPy (top S d)).canLay0 = true ∧ (toPy (top S d)).depth = dep (top S d) := by
  cases d with
  | ref a =>
    unfold RelD at r
    subst r
    cases h : lstAt S a with
    | none =>
      have q : top S (.ref a) = .ref a := by simp only [top, h]
      rw [q] at e; unfold pureD at e; cases e
    | some ds =>
      have q : top S (.ref a) = .lst ds := by simp only [top, h]
      rw [q] at e ⊢
      unfold pureD at e
      obtain ⟨o, h2, h3⟩ := rp.obj a _ (lstAt_some h)
      obtain ⟨vs, rfl, z⟩ := h3
      obtain ⟨h1, h4, h5⟩ := toPys_dp z e
      unfold toPy dep
      refine ⟨.lst (.of h2) h1, by unfold PyData.canLay0; exact h4, ?_⟩
      unfold PyData.depth; rw [h5]
  | _ => exact toPy_dp r e
theorem flat_rel {d : D} {v : V} (r : RelD C H S d v) (f : flat d = true) : flatV v = true := by
  cases d with
  | non => unfold RelD at r; subst r; rfl
  | bl b => unfold RelD at r; subst r; rfl
  | int b => unfold RelD at r; subst r; rfl
  | str b => unfold RelD at r; rw [r.1]; rfl
  | _ => cases f
theorem flat_eq {d e : D} {v w : V} (r : RelD C H S d v) (q : RelD C H S e w) (f : flat d = true) (g : flat e = true) : eqV v w = deq d e := by
  cases d with
  | non => cases e with
    | non => unfold RelD at r q; subst r q; rfl
    | bl b => unfold RelD at r q; subst r q; rfl
    | int b => unfold RelD at r q; subst r q; rfl
    | str b => unfold RelD at r q; rw [r, q.1]; rfl
    | _ => cases g
  | bl b => cases e with
    | non => unfold RelD at r q; subst r q; rfl
    | bl b => unfold RelD at r q; subst r q; rfl
    | int b => unfold RelD at r q; subst r q; rfl
    | str b => unfold RelD at r q; rw [r, q.1]; rfl
    | _ => cases g
  | int b => cases e with
    | non => unfold RelD at r q; subst r q; rfl
    | bl b => unfold RelD at r q; subst r q; rfl
    | int b => unfold RelD at r q; subst r q; rfl
    | str b => unfold RelD at r q; rw [r, q.1]; rfl
    | _ => cases g
  | str b => cases e with
    | non => unfold RelD at r q; rw [r.1, q]; rfl
    | bl b => unfold RelD at r q; rw [r.1, q]; rfl
    | int b => unfold RelD at r q; rw [r.1, q]; rfl
    | str b => unfold RelD at r q; rw [r.1, q.1]; rfl
    | _ => cases g
  | _ => cases f
theorem flats_in {x : D} {v : V} (r : RelD C H S x v) (f : flat x = true) : ∀ {ds : List D} {vs : List V}, RelDs C H S ds vs → ds.all flat = true → vs.all flatV = true ∧ inV v vs = ds.any fun z => deq z x
  | [], _, h, _ => by unfold RelDs at h; subst h; exact ⟨rfl, rfl⟩
  | d :: ds, _, h, e => by
    unfold RelDs at h
    obtain ⟨w, l, rfl, h1, h2⟩ := h
    rw [List.all_cons] at e
    obtain ⟨e1, e2⟩ := Bool.and_eq_true_iff.mp e
    obtain ⟨a1, a2⟩ := flats_in r f h2 e2
    refine ⟨by rw [List.all_cons, flat_rel h1 e1, a1]; rfl, ?_⟩
    unfold inV at a2 ⊢
    rw [List.any_cons, List.any_cons, a2, flat_eq h1 r e1 f]
end
end Mn

namespace Mn
open PySem L2
/-! ### operations keep their word -/
theorem g?_some {α : Type} {c : Prop} [Decidable c] {r r' : α} (h : g? c r = some r') : c ∧ r = r' := by
  unfold g? at h
  split at h
  · rename_i q; exact ⟨q, Option.some.inj h⟩
  · cases h
theorem rel_int {C : Cc} {H : Hp} {S : Sto} {i : Int} {v : V} (r : RelD C H S (.int i) v) : v = .int i := by unfold RelD at r; exact r
theorem rel_str {C : Cc} {H : Hp} {S : Sto} {i : Str} {v : V} (r : RelD C H S (.str i) v) : v = .str i := by unfold RelD at r; exact r.1
theorem mk_int {C : Cc} {H : Hp} {S : Sto} {i : Int} : RelD C H S (.int i) (.int i) := by unfold RelD; rfl
theorem mk_bl {C : Cc} {H : Hp} {S : Sto} {i : Bool} : RelD C H S (.bl i) (.bl i) := by unfold RelD; rfl
theorem mk_non {C : Cc} {H : Hp} {S : Sto} : RelD C H S .non .non := by unfold RelD; rfl
theorem mk_str {C : Cc} {H : Hp} {S : Sto} {i : Str} (h : PySem.PyData.strOk i = true) : RelD C H S (.str i) (.str i) := by unfold RelD; exact ⟨rfl, h⟩
def strB (x : Str) : Bool := PySem.PyData.strOk x
theorem strOk_list {l : List Nat} : PySem.PyData.strOk ⟨l.toArray⟩ = l.all (fun c => decide (c < 0x110000)) := by
  show l.toArray.all (fun c => decide (c < 0x110000)) = _
  simp
theorem strOk_iff {x : Str} : PySem.PyData.strOk x = true ↔ ∀ c ∈ x.cps.toList, c < 0x110000 := by
  show x.cps.all (fun c => decide (c < 0x110000)) = true ↔ _
  rw [← Array.all_toList, List.all_eq_true]
  simp
theorem strOk_app {x y : Str} (h1 : PySem.PyData.strOk x = true) (h2 : PySem.PyData.strOk y = true) : PySem.PyData.strOk (x ++ y) = true := by
  rw [strOk_iff] at *
  intro c hc
  have e : (x ++ y).cps = x.cps ++ y.cps := rfl
  rw [e, Array.toList_append, List.mem_append] at hc
  rcases hc with hc | hc
  · exact h1 c hc
  · exact h2 c hc
theorem strOk_sign {x : Str} {c : Nat} (h : PySem.PyData.strOk x = true) (hc : c ∈ x.cps.toList) : PySem.PyData.strOk ⟨#[c]⟩ = true := by
  rw [strOk_iff] at *
  intro d hd
  have : d = c := by simpa using hd
  rw [this]; exact h c hc
theorem strOk_cut {x : Str} (lo hi : Option Int) (h : PySem.PyData.strOk x = true) : PySem.PyData.strOk (cutS x lo hi) = true := by
  rw [strOk_iff] at *
  intro c hc
  unfold cutS at hc
  exact h c (List.mem_of_mem_drop (List.mem_of_mem_take (by simpa using hc)))
theorem atI_mem {α : Type} {l : List α} {i : Int} {c : α} (h : atI l i = some c) : c ∈ l := by
  unfold atI at h
  obtain ⟨j, _, h⟩ := Option.bind_eq_some_iff.mp h
  exact List.mem_of_getElem? h
section
variable {X : Cx} {ga : Str → Addr} {Z : Addr → Prop}
theorem foldl_app {α : Type} : ∀ (l : List (Array α)) (a : Array α), (l.foldl (· ++ ·) a).toList = a.toList ++ (l.map Array.toList).flatten
  | [], a => by simp
  | b :: l, a => by
    rw [List.foldl_cons, foldl_app l]
    simp
theorem repS_list (x : Str) (n : Nat) : (repS x n).cps.toList = (List.replicate n x.cps.toList).flatten := by
  unfold repS
  rw [foldl_app]
  simp
theorem repS_ok {x : Str} {n : Nat} (h : PySem.PyData.strOk x = true) : PySem.PyData.strOk (repS x n) = true := by
  unfold PySem.PyData.strOk at h ⊢
  rw [← Array.all_toList] at h ⊢
  rw [repS_list]
  rw [List.all_eq_true] at h ⊢
  intro c hc
  obtain ⟨l, h1, h2⟩ := List.mem_flatten.mp hc
  rw [(List.mem_replicate.mp h1).2] at h2
  exact h c h2
theorem rel_reps {C : Cc} {H : Hp} {S : Sto} {ds : List D} {vs : List V} (r : RelDs C H S ds vs) : ∀ n : Nat, RelDs C H S (List.replicate n ds).flatten (List.replicate n vs).flatten
  | 0 => RelDs.nil
  | n + 1 => by
    rw [List.replicate_succ, List.replicate_succ, List.flatten_cons, List.flatten_cons]
    exact r.app (rel_reps r n)
theorem mul_strR {pins : List (Addr × Obj)} {s : Shared} {σ : St} {H : Hp} {z : Str} {n : Int} {v u : Value} {Q : VK} (I : Inv X pins σ H s) (rx : RelV (.str z) v) (ry : RelV (.int n) u) (h1 : 1 ≤ n) (h2 : n ≤ 1000) (h3 : z.length ≤ 1000) (q : Q (.str (repS z n.toNat)) H) : wpAny (model X.prog X.w) X.A (binaryOp .Mult v u) (EP X pins σ Q) X.xe s := by
  obtain ⟨t, rfl⟩ := rx
  obtain ⟨t', rfl⟩ := ry
  have hz : z.length * n.toNat ≤ 1000000 := Nat.mul_le_mul h3 (show n.toNat ≤ 1000 by omega)
  refine P.mul_str ?_ (fun _ _ hb => ?_) (fun _ _ => ?_) ?_
  · rw [decide_eq_false (by omega), decide_eq_false (by omega)]; rfl
  · have : (1000 : Int) ≤ (2 ^ 63 - 1) / n := (Int.le_ediv_iff_mul_le (by omega)).mpr (by omega)
    omega
  · unfold PySem.Builtin.Str.tooLong
    exact decide_eq_false (by have : sizeLine = 16777216 := rfl; omega)
  · rw [if_neg (by omega)]
    split
    · rename_i hc
      have e : repS z n.toNat = z := by
        have hl : (repS z n.toNat).cps.toList = z.cps.toList := by
          rw [repS_list]
          rcases Bool.or_eq_true_iff.mp hc with h | h
          · have : n = 1 := by simpa using h
            subst this
            simp
          · have h : z.length = 0 := by simpa using h
            have : z.cps.toList = [] := List.length_eq_zero_iff.mp (by simpa [Str.length] using h)
            rw [this]
            simp
        have : (repS z n.toNat).cps = z.cps := Array.toList_inj.mp hl
        cases z
        unfold repS at this ⊢
        exact congrArg Str.mk this
      rw [e] at q
      exact ⟨.str z, H, I, ⟨_, rfl⟩, q⟩
    · refine ⟨?_, .str _, H, I.tok _, ⟨_, rfl⟩, q⟩
      show (repS z n.toNat).length ≤ sizeLine
      have e : (repS z n.toNat).length = (repS z n.toNat).cps.toList.length := by simp [Str.length]
      rw [e, repS_list]
      simp only [List.length_flatten, List.map_replicate, List.sum_replicate_nat, Array.length_toList]
      have : sizeLine = 16777216 := rfl
      have hz' : z.cps.size * n.toNat ≤ 1000000 := hz
      rw [Nat.mul_comm] at hz'
      omega
theorem binOk (o : Operator) (m : Bool) : OpR X (binaryOp o) (rD2 (cc X ga Z) fun u v S k => ∃ r, binR o u v S = some r ∧ fin m r S k) := by
  intro pins s σ H x y v u Q I rx ry h
  obtain ⟨d, e, S, rp, r1, r2, r, hb, hf⟩ := h
  unfold binR at hb
  split at hb
  · cases hb; cases rel_int r1; cases rel_int r2
    exact op_add pins s σ H _ _ v u Q I rx ry ⟨_, _, rfl, rfl, kD_val rp hf mk_int⟩
  · cases hb; cases rel_int r1; cases rel_int r2
    exact op_sub pins s σ H _ _ v u Q I rx ry ⟨_, _, rfl, rfl, kD_val rp hf mk_int⟩
  · obtain ⟨c, rfl⟩ := g?_some hb; cases rel_int r1; cases rel_int r2
    exact op_mul pins s σ H _ _ v u Q I rx ry ⟨_, _, rfl, rfl, c, kD_val rp hf mk_int⟩
  · obtain ⟨c, rfl⟩ := g?_some hb; cases rel_int r1; cases rel_int r2
    exact op_fdiv pins s σ H _ _ v u Q I rx ry ⟨_, _, rfl, rfl, c, kD_val rp hf mk_int⟩
  · obtain ⟨c, rfl⟩ := g?_some hb; cases rel_int r1; cases rel_int r2
    exact op_mod pins s σ H _ _ v u Q I rx ry ⟨_, _, rfl, rfl, c, kD_val rp hf mk_int⟩
  · obtain ⟨c, rfl⟩ := g?_some hb; cases rel_int r1; cases rel_int r2
    exact op_pow pins s σ H _ _ v u Q I rx ry ⟨_, _, rfl, rfl, c, kD_val rp hf mk_int⟩
  · obtain ⟨c, rfl⟩ := g?_some hb
    have q1 := r1.strOk; have q2 := r2.strOk
    cases rel_str r1; cases rel_str r2
    exact op_add_str pins s σ H _ _ v u Q I rx ry ⟨_, _, rfl, rfl, c, kD_val rp hf (mk_str (strOk_app q1 q2))⟩
  · rename_i ds es
    obtain ⟨c, rfl⟩ := g?_some hb
    unfold RelD at r1 r2
    obtain ⟨a, vs, rfl, f1, q1⟩ := r1
    obtain ⟨b, ws, rfl, f2, q2⟩ := r2
    refine op_catA pins s σ H _ _ v u Q I rx ry ⟨a, b, vs, ws, rfl, rfl, f1.sq, f2.sq, by rw [q1.len, q2.len]; exact c, fun e => ?_, fun _ e => ?_, fun _ _ => kD_tup rp hf (q1.app q2)⟩
    · refine kD_val rp hf ?_
      subst e
      have n : ds = [] := List.length_eq_zero_iff.mp (by rw [← q1.len]; rfl)
      subst n
      unfold RelD
      exact ⟨b, ws, rfl, f2, q2⟩
    · refine kD_val rp hf ?_
      subst e
      have n : es = [] := List.length_eq_zero_iff.mp (by rw [← q2.len]; rfl)
      subst n
      rw [List.append_nil]
      unfold RelD
      exact ⟨a, vs, rfl, f1, q1⟩
  · split at hb
    · rename_i ds es e1 e2
      obtain ⟨c, rfl⟩ := g?_some hb
      obtain ⟨a, vs, rfl, h1, q1⟩ := listOf_sq rp r1 e1
      obtain ⟨b, ws, rfl, h2, q2⟩ := listOf_sq rp r2 e2
      exact op_cat pins s σ H _ _ v u Q I rx ry ⟨a, b, vs, ws, rfl, rfl, h1, h2, by rw [q1.len, q2.len]; exact c, fin_new rp hf (q1.app q2)⟩
    · cases hb
  · obtain ⟨⟨c1, c2, c3⟩, rfl⟩ := g?_some hb
    have q1 := r1.strOk
    cases rel_str r1; cases rel_int r2
    exact mul_strR I rx ry c1 c2 c3 (kD_val rp hf (mk_str (repS_ok q1)))
  · split at hb
    · rename_i n _ _ _ ds e1
      obtain ⟨⟨c1, c2, c3⟩, rfl⟩ := g?_some hb
      obtain ⟨a, vs, rfl, h1, q1⟩ := listOf_sq rp r1 e1
      cases rel_int r2
      have hm : ds.length * n.toNat ≤ 1000000 := Nat.mul_le_mul c3 (show n.toNat ≤ 1000 by omega)
      exact op_rep pins s σ H _ _ v u Q I rx ry ⟨a, _, vs, rfl, rfl, h1, by omega, by omega, by rw [q1.len]; exact Nat.le_trans hm (by decide), fin_new rp hf (rel_reps q1 _)⟩
    · cases hb
  · cases hb
theorem un_rel {C : Cc} {H : Hp} {S : Sto} {d : D} {v : V} (h : RelD C H S d v) : d = .non ↔ v = .non := by
  cases d with
  | non => unfold RelD at h; simp [h]
  | str x => unfold RelD at h; rw [h.1]; simp
  | tup x => unfold RelD at h; obtain ⟨a, vs, rfl, _⟩ := h; simp
  | lst x => unfold RelD at h; obtain ⟨a, vs, rfl, _⟩ := h; simp
  | scr x => unfold RelD at h; obtain ⟨a, rfl, _⟩ := h; simp
  | _ => unfold RelD at h; rw [h]; simp
theorem eqOk (hu : X.A.units + 64 < cLine) {C : Cc} (hC : C.K = X.K) {pins : List (Addr × Obj)} {s : Shared} {σ : St} {H : Hp} {S : Sto} {d e : D} {x y : V} {v u : Value} {b : Bool} {Q : VK} (I : Inv X pins σ H s) (rx : RelV x v) (ry : RelV y u) (rp : Rp C H S)
    (r1 : RelD C H S d x) (r2 : RelD C H S e y) (h : eqR d e S = some b) : (Q (.bl b) H → wpAny (model X.prog X.w) X.A (compareOp .Eq v u) (EP X pins σ Q) X.xe s) ∧ (Q (.bl (!b)) H → wpAny (model X.prog X.w) X.A (compareOp .NotEq v u) (EP X pins σ Q) X.xe s) := by
  obtain ⟨⟨p1, p2, p3⟩, rfl⟩ := g?_some h
  obtain ⟨a1, a2, a3⟩ := top_dp rp r1 p1
  obtain ⟨b1, b2, b3⟩ := top_dp rp r2 p2
  rw [hC] at a1 b1
  obtain ⟨as, c1⟩ := Dp.reads I _ x v a1 rx
  obtain ⟨bs, c2⟩ := Dp.reads I _ y u b1 ry
  have hw : X.A.units + min (toPy (top S d)).depth (toPy (top S e)).depth < cLine := by rw [a3, b3]; omega
  exact ⟨fun q => SeqAt.compareEq_reads c1 c2 a2 b2 hw ⟨.bl _, H, I, rfl, q⟩, fun q => SeqAt.compareNe_reads c1 c2 a2 b2 hw ⟨.bl _, H, I, rfl, q⟩⟩
theorem keyOf_rel {C : Cc} {H : Hp} {S : Sto} {i : D} {w : V} {k : Key} (r : RelD C H S i w) (h : keyOf i = some k) : w = kV k := by
  cases i with
  | int i => cases h; exact rel_int r
  | str x => cases h; exact rel_str r
  | _ => cases h
theorem dGet_ok {C : Cc} {H : Hp} {S : Sto} {x i : D} {v w : V} {o : Option D} (rp : Rp C H S) (r1 : RelD C H S x v) (r2 : RelD C H S i w) (h : dGet S x i = some o) :
    ∃ a ov, v = .ref a ∧ DGet H a w ov ∧ ov.isSome = o.isSome ∧ (∀ d, o = some d → ∃ z, ov = some z ∧ RelD C H S d z) := by
  cases x with
  | ref a =>
    unfold RelD at r1
    subst r1
    have h : (match S a with
      | some (.dct kvs) => (keyOf i).map (gv kvs)
      | _ => none) = some o := h
    split at h
    · rename_i kvs hS
      obtain ⟨k, h1, rfl⟩ := Option.map_eq_some_iff.mp h
      obtain ⟨ob, h2, h3⟩ := rp.obj a _ hS
      obtain ⟨l, rfl, rk⟩ := h3
      cases keyOf_rel r2 h1
      exact ⟨a, _, rfl, DGet.k h2, rk.isSome, fun d e => rk.some e⟩
    · cases h
  | _ => cases h
theorem inOk (hu : X.A.units + 64 < cLine) {C : Cc} (hC : C.K = X.K) {pins : List (Addr × Obj)} {s : Shared} {σ : St} {H : Hp} {S : Sto} {d e : D} {x y : V} {v u : Value} {b : Bool} {Q : VK} (I : Inv X pins σ H s) (rx : RelV x v) (ry : RelV y u) (rp : Rp C H S)
    (r1 : RelD C H S d x) (r2 : RelD C H S e y) (h : inR d e S = some b) : (Q (.bl b) H → wpAny (model X.prog X.w) X.A (compareOp .In v u) (EP X pins σ Q) X.xe s) ∧ (Q (.bl (!b)) H → wpAny (model X.prog X.w) X.A (compareOp .NotIn v u) (EP X pins σ Q) X.xe s) := by
  unfold inR at h
  split at h
  · rename_i z y
    split at h
    · rename_i c hc
      cases h
      cases rel_str r1; cases rel_str r2
      have ez : z = ⟨#[c]⟩ := by
        obtain ⟨cs⟩ := z
        exact congrArg Str.mk (Array.ext' hc)
      subst ez
      exact ⟨fun q => op_in_sign pins s σ H _ _ v u Q I rx ry ⟨c, _, rfl, rfl, q⟩, fun q => op_notIn_sign pins s σ H _ _ v u Q I rx ry ⟨c, _, rfl, rfl, q⟩⟩
    · cases h
  · split at h
    · rename_i ds hs
      obtain ⟨⟨p1, p2⟩, rfl⟩ := g?_some h
      obtain ⟨a, vs, rfl, h1, q1⟩ := seqOf_sq rp r2 hs
      rw [hC] at h1
      obtain ⟨f1, f2⟩ := flats_in r1 p1 q1 p2
      have f0 := flat_rel r1 p1
      exact ⟨fun q => op_in_seq pins s σ H _ _ v u Q I rx ry ⟨a, vs, rfl, h1, f0, f1, by rw [f2]; exact q⟩, fun q => op_notIn_seq pins s σ H _ _ v u Q I rx ry ⟨a, vs, rfl, h1, f0, f1, by rw [f2]; exact q⟩⟩
    · obtain ⟨o, h1, rfl⟩ := Option.map_eq_some_iff.mp h
      obtain ⟨a, ov, rfl, g, e, _⟩ := dGet_ok rp r2 r1 h1
      cases (show u = Value.ref a from ry)
      exact ⟨fun q => d_in (by omega) I g rx fun s' I' => ⟨.bl _, H, I', by rw [e]; rfl, q⟩, fun q => d_notIn (by omega) I g rx fun s' I' => ⟨.bl _, H, I', by rw [e]; rfl, q⟩⟩
theorem isOk {C : Cc} {pins : List (Addr × Obj)} {s : Shared} {σ : St} {H : Hp} {S : Sto} {d e : D} {x y : V} {v u : Value} {b : Bool} {Q : VK} (I : Inv X pins σ H s) (rx : RelV x v) (ry : RelV y u)
    (r1 : RelD C H S d x) (r2 : RelD C H S e y) (h : isR d e = some b) : (Q (.bl b) H → wpAny (model X.prog X.w) X.A (compareOp .Is v u) (EP X pins σ Q) X.xe s) ∧ (Q (.bl (!b)) H → wpAny (model X.prog X.w) X.A (compareOp .IsNot v u) (EP X pins σ Q) X.xe s) := by
  by_cases hn : e = .non
  · subst hn
    have hy : y = .non := (un_rel r2).mp rfl
    have hb : b = decide (x = .non) := by
      have w := un_rel r1
      unfold isR at h
      split at h
      · cases h; exact (decide_eq_true (w.mp rfl)).symm
      all_goals first
        | (cases h; exact (decide_eq_false fun z => nomatch w.mpr z).symm)
        | (rename_i q; cases q)
        | cases h
    subst hb
    exact ⟨fun q => op_isN pins s σ H _ _ v u Q I rx ry ⟨hy, q⟩, fun q => op_notN pins s σ H _ _ v u Q I rx ry ⟨hy, q⟩⟩
  · unfold isR at h
    split at h
    all_goals first
      | exact absurd rfl hn
      | cases h
    rename_i a c
    unfold RelD at r1 r2
    subst r1 r2
    exact ⟨fun q => op_isBl pins s σ H _ _ v u Q I rx ry ⟨a, c, rfl, rfl, q⟩, fun q => op_notBl pins s σ H _ _ v u Q I rx ry ⟨a, c, rfl, rfl, q⟩⟩
theorem cmpOk (hu : X.A.units + 64 < cLine) (o : CmpOp) : OpR X (compareOp o) (rD2 (cc X ga Z) fun u v S k => ∃ r, cmpR o u v S = some r ∧ k (.bl r) S) := by
  intro pins s σ H x y v u Q I rx ry h
  obtain ⟨d, e, S, rp, r1, r2, r, hb, hf⟩ := h
  have q := kD_val rp hf mk_bl
  unfold cmpR at hb
  split at hb
  · cases hb; cases rel_int r1; cases rel_int r2
    exact op_lt pins s σ H _ _ v u Q I rx ry ⟨_, _, rfl, rfl, q⟩
  · cases hb; cases rel_int r1; cases rel_int r2
    exact op_le pins s σ H _ _ v u Q I rx ry ⟨_, _, rfl, rfl, q⟩
  · cases hb; cases rel_int r1; cases rel_int r2
    exact op_gt pins s σ H _ _ v u Q I rx ry ⟨_, _, rfl, rfl, q⟩
  · cases hb; cases rel_int r1; cases rel_int r2
    exact op_ge pins s σ H _ _ v u Q I rx ry ⟨_, _, rfl, rfl, q⟩
  · exact (eqOk hu rfl I rx ry rp r1 r2 hb).1 q
  · obtain ⟨b, h1, rfl⟩ := Option.map_eq_some_iff.mp hb
    exact (eqOk hu rfl I rx ry rp r1 r2 h1).2 q
  · exact (inOk hu rfl I rx ry rp r1 r2 hb).1 q
  · obtain ⟨b, h1, rfl⟩ := Option.map_eq_some_iff.mp hb
    exact (inOk hu rfl I rx ry rp r1 r2 h1).2 q
  · exact (isOk I rx ry r1 r2 hb).1 q
  · obtain ⟨b, h1, rfl⟩ := Option.map_eq_some_iff.mp hb
    exact (isOk I rx ry r1 r2 h1).2 q
  · cases hb
theorem negOk : UnR X (unaryOp .USub) (rD1 (cc X ga Z) fun u S k => ∃ i, u = .int i ∧ k (.int (-i)) S) := by
  intro pins s σ H x v Q I rx h
  obtain ⟨d, S, rp, r1, i, rfl, hf⟩ := h
  cases rel_int r1
  exact un_neg pins s σ H _ v Q I rx ⟨i, rfl, kD_val rp hf mk_int⟩
theorem truOk {C : Cc} (hC : C.K = X.K) {H : Hp} {S : Sto} {d : D} {v : V} {b : Bool} (rp : Rp C H S) (r : RelD C H S d v) (h : tru S d = some b) : TruV X.K v H b := by
  cases d with
  | non => cases h; unfold RelD at r; subst r; rfl
  | bl c => cases h; unfold RelD at r; subst r; rfl
  | int c => cases h; unfold RelD at r; subst r; rfl
  | str x =>
    unfold RelD at r
    rw [r.1]
    have h : (if x.length ≤ sizeLine then some ((x.length : Int) != 0) else none) = some b := h
    split at h
    · rename_i q; cases h; exact ⟨q, rfl⟩
    · cases h
  | tup ds =>
    cases h
    unfold RelD at r
    obtain ⟨a, vs, rfl, f, q⟩ := r
    refine .inr (.inl ⟨vs, by rw [← hC]; exact f.sq, ?_⟩)
    have l := q.len
    cases vs <;> cases ds <;> first | rfl | (simp at l)
  | lst ds =>
    cases h
    unfold RelD at r
    obtain ⟨a, vs, rfl, f, q⟩ := r
    refine .inl ⟨vs, by rw [← hC]; exact f.sq, ?_⟩
    have l := q.len
    cases vs <;> cases ds <;> first | rfl | (simp at l)
  | ref a =>
    unfold RelD at r
    subst r
    obtain ⟨ds, h1, rfl⟩ := Option.map_eq_some_iff.mp (show (lstAt S a).map (fun ds => !ds.isEmpty) = some b from h)
    obtain ⟨o, h2, h3⟩ := rp.obj a _ (lstAt_some h1)
    obtain ⟨vs, rfl, z⟩ := h3
    refine .inl ⟨vs, .of h2, ?_⟩
    have l := z.len
    cases vs <;> cases ds <;> first | rfl | (simp at l)
  | _ => cases h
theorem subD_tail {prog : Program} {w : World} {A : Around} {E : Value → Shared → Prop} {s : Shared} {value slice : Expr} {o i : Value} {T id : String} {Q : Value → Shared → Prop} (hT : s.TypeIs o T) (hl : typeLookup (.type T) "__getitem__" = pure (some (.builtin id)))
    (hs : subscripted slice false o i = operate [o, i] (getItem o i)) (h₂ : wpAny (model prog w) A (getItem o i) Q E s) : wpAny (model prog w) A (PyProof.Rows.subscriptTail value slice o i) Q E s := by
  unfold PyProof.Rows.subscriptTail
  refine wpAny_bind ?_
  rw [getitemInPython_of_ne hT.not_modules]
  refine wpAny_bind (wpAny_specialOf hT hl ?_)
  have fin : wpAny (model prog w) A (subscripted slice false o i) (fun r s₃ => wpAny (model prog w) A (letTemporaryGo value o r >>= fun _ => pure r) Q E s₃) E s := by
    rw [hs]
    exact wpAny_operating (wpAny_mono h₂ (fun r s₃ h₃ => wpAny_bind (wpAny_letTemporaryGo (wpAny_pure h₃))) fun _ _ x => x)
  first
    | exact wpAny_pure (wpAny_bind fin)
    | exact wpAny_bind (wpAny_pure (wpAny_bind fin))
    | exact wpAny_bind fin
theorem idxOk (hu : X.A.units + 64 < cLine) : IxR X (rD2 (cc X ga Z) fun u v S k => ∃ d, idxR u v S = some d ∧ k d S) := by
  intro value slice pins s σ H x y v u Q I rx ry h
  obtain ⟨d, e, S, rp, r1, r2, r, hb, hf⟩ := h
  unfold idxR at hb
  split at hb
  · rename_i z i
    split at hb
    · rename_i hz
      obtain ⟨c, h1, rfl⟩ := Option.map_eq_some_iff.mp hb
      have q1 := r1.strOk
      cases rel_str r1; cases rel_int r2
      exact ix_str value slice pins s σ H _ _ v u Q I rx ry ⟨z, i, c, rfl, rfl, hz, h1, kD_val rp hf (mk_str (strOk_sign q1 (atI_mem h1)))⟩
    · cases hb
  · split at hb
    · rename_i ds hs
      split at hb
      · rename_i i _
        obtain ⟨a, vs, rfl, h1, q1⟩ := seqOf_sq rp r1 hs
        cases rel_int r2
        obtain ⟨w, h2, h3⟩ := q1.atI hb
        rcases h1 with h1 | h1
        · exact ix_list value slice pins s σ H _ _ v u Q I rx ry ⟨a, vs, i, w, rfl, rfl, h1, h2, kD_val rp hf h3⟩
        · exact ix_tup value slice pins s σ H _ _ v u Q I rx ry ⟨a, vs, i, w, rfl, rfl, h1, h2, kD_val rp hf h3⟩
      · cases hb
    · obtain ⟨o, h1, h2⟩ := Option.bind_eq_some_iff.mp hb
      cases (show o = some r from h2)
      obtain ⟨a, ov, rfl, g, _, e⟩ := dGet_ok rp r1 r2 h1
      obtain ⟨z, rfl, rz⟩ := e _ rfl
      cases (show v = Value.ref a from rx)
      intro hs
      have q := kD_val rp hf rz
      refine subD_tail (dict_typeIs I g) PySem.F.slot_dict_getitem.lookup hs ?_
      exact d_getItem (by omega) I g ry fun w' s' I' rw' => ⟨z, H, I', rw', q⟩
def rSl (C : Cc) (m : Bool) : V → Option Int → Option Int → Hp → VK → Prop := fun x lo hi H Q => ∃ u S, Rp C H S ∧ RelD C H S u x ∧ ∃ r, slcR u lo hi S = some r ∧ fin m r S (kD C H S Q)
theorem slcOk (m : Bool) : SlR X (rSl (cc X ga Z) m) := by
  intro pins s σ H x v vl vu lo hi sl Q I rx hs pl pu h
  obtain ⟨d, S, rp, r1, r, hb, hf⟩ := h
  unfold slcR at hb
  split at hb
  · obtain ⟨c, rfl⟩ := g?_some hb
    have q1 := r1.strOk
    cases rel_str r1
    exact sl_str pins s σ H _ v vl vu lo hi sl Q I rx hs pl pu ⟨_, rfl, c, kD_val rp hf (mk_str (strOk_cut lo hi q1))⟩
  · cases hb
    rename_i ds
    unfold RelD at r1
    obtain ⟨a, vs, rfl, f, q⟩ := r1
    refine sl_tupA pins s σ H _ v vl vu lo hi sl Q I rx hs pl pu ⟨a, vs, rfl, f.sq, fun hw => ?_, fun _ => kD_tup rp hf (q.cut lo hi)⟩
    refine kD_val rp hf ?_
    have e : cutD ds lo hi = ds := by
      rw [q.len] at hw
      unfold cutD
      rw [hw.1, hw.2, List.drop_zero, Nat.sub_zero, List.take_length]
    rw [e]
    unfold RelD
    exact ⟨a, vs, rfl, f, q⟩
  · split at hb
    · cases hb
      rename_i ds hs'
      obtain ⟨a, vs, rfl, h1, q1⟩ := listOf_sq rp r1 hs'
      exact sl_list pins s σ H _ v vl vu lo hi sl Q I rx hs pl pu ⟨a, vs, rfl, .of h1, fin_new rp hf (q1.cut lo hi)⟩
    · cases hb
/-! ### built-in functions and methods -/
theorem sumI_ints {C : Cc} {H : Hp} {S : Sto} : ∀ {ds : List D} {vs : List V} {n : Int}, RelDs C H S ds vs → sumI ds = some n → ∃ ns : List Int, vs = ns.map V.int ∧ n = ns.sum
  | [], _, _, h, e => by unfold RelDs at h; subst h; cases e; exact ⟨[], rfl, rfl⟩
  | d :: ds, _, _, h, e => by
    unfold RelDs at h
    obtain ⟨v, r, rfl, h1, h2⟩ := h
    cases d with
    | int i =>
      obtain ⟨m, e1, rfl⟩ := Option.map_eq_some_iff.mp (show (sumI ds).map (i + ·) = some _ from e)
      obtain ⟨ns, rfl, rfl⟩ := sumI_ints h2 e1
      cases rel_int h1
      exact ⟨i :: ns, rfl, by rw [List.sum_cons]⟩
    | _ => cases e
theorem allB_bls {C : Cc} {H : Hp} {S : Sto} : ∀ {ds : List D} {vs : List V} {b : Bool}, RelDs C H S ds vs → allB S ds = some b → ∃ bs : List Bool, vs = bs.map V.bl ∧ b = bs.all id
  | [], _, _, h, e => by unfold RelDs at h; subst h; cases e; exact ⟨[], rfl, rfl⟩
  | d :: ds, _, _, h, e => by
    unfold RelDs at h
    obtain ⟨v, r, rfl, h1, h2⟩ := h
    cases d with
    | bl i =>
      have e : (match allB S ds with
        | some c => some (i && c)
        | none => none) = some _ := e
      cases q : allB S ds with
      | none => rw [q] at e; cases e
      | some c =>
        rw [q] at e
        cases e
        obtain ⟨bs, rfl, rfl⟩ := allB_bls h2 q
        unfold RelD at h1
        subst h1
        exact ⟨i :: bs, rfl, rfl⟩
    | _ => cases e
theorem rel1 {C : Cc} {H : Hp} {S : Sto} {x : D} {vs : List V} (h : RelDs C H S [x] vs) : ∃ v, vs = [v] ∧ RelD C H S x v := by
  unfold RelDs at h
  obtain ⟨v, r, rfl, h1, h2⟩ := h
  unfold RelDs at h2
  subst h2
  exact ⟨v, rfl, h1⟩
theorem rel2 {C : Cc} {H : Hp} {S : Sto} {x y : D} {vs : List V} (h : RelDs C H S [x, y] vs) : ∃ v w, vs = [v, w] ∧ RelD C H S x v ∧ RelD C H S y w := by
  unfold RelDs at h
  obtain ⟨v, r, rfl, h1, h2⟩ := h
  obtain ⟨w, rfl, h3⟩ := rel1 h2
  exact ⟨v, w, rfl, h1, h3⟩
theorem tyX_of {C : Cc} (hC : C.K = X.K) {H : Hp} {S : Sto} {d : D} {v : V} {t : String} (rp : Rp C H S) (r : RelD C H S d v) (h : tyN S d = some t) : TyX X.K H v (.type t) := by
  cases d with
  | non => cases h; unfold RelD at r; subst r; exact .base .non
  | bl b => cases h; unfold RelD at r; subst r; exact .base (.bl b)
  | int b => cases h; unfold RelD at r; subst r; exact .base (.int b)
  | str b => cases h; unfold RelD at r; rw [r.1]; exact .base (.str b)
  | tup ds =>
    cases h
    unfold RelD at r
    obtain ⟨a, vs, rfl, f, q⟩ := r
    rcases f with ⟨f, _⟩ | ⟨o, its, n, f, fc, _⟩
    · exact .base (.tup f)
    · exact .kTuple (by rw [← hC]; exact f) fc
  | lst ds =>
    cases h
    unfold RelD at r
    obtain ⟨a, vs, rfl, f, q⟩ := r
    exact .base (.lst f.1)
  | ref a =>
    unfold RelD at r
    subst r
    obtain ⟨ds, h1, rfl⟩ := Option.map_eq_some_iff.mp (show (lstAt S a).map (fun _ => "list") = some t from h)
    obtain ⟨o, h2, h3⟩ := rp.obj a _ (lstAt_some h1)
    obtain ⟨vs, rfl, z⟩ := h3
    exact .base (.lst h2)
  | _ => cases h
theorem tyN_in {S : Sto} {d : D} {t : String} (h : tyN S d = some t) : t = "NoneType" ∨ t = "bool" ∨ t = "int" ∨ t = "str" ∨ t = "tuple" ∨ t = "list" := by
  cases d with
  | ref a =>
    obtain ⟨ds, h1, rfl⟩ := Option.map_eq_some_iff.mp (show (lstAt S a).map (fun _ => "list") = some t from h)
    simp
  | non => cases h; simp
  | bl b => cases h; simp
  | int b => cases h; simp
  | str b => cases h; simp
  | tup b => cases h; simp
  | lst b => cases h; simp
  | _ => cases h
theorem kit_in {K : PySem.W.Frag} {t n : String} (ht : t = "NoneType" ∨ t = "bool" ∨ t = "int" ∨ t = "str" ∨ t = "tuple" ∨ t = "list") (hn : n = "int" ∨ n = "bool" ∨ n = "str" ∨ n = "list" ∨ n = "tuple") :
    PySem.W.kitOne K (.type t) (.type n) = some (isT t n) := by
  rcases ht with rfl | rfl | rfl | rfl | rfl | rfl <;> rcases hn with rfl | rfl | rfl | rfl | rfl <;> exact kit_ty (by decide +kernel)
theorem isiOk {C : Cc} (hC : C.K = X.K) {pins : List (Addr × Obj)} {s : Shared} {σ : St} {H : Hp} {S : Sto} {d c : D} {x y : V} {us : List Value} {b : Bool} {Q : VK} (I : Inv X pins σ H s) (rx : Vals [x, y] us) (rp : Rp C H S)
    (r1 : RelD C H S d x) (r2 : RelD C H S c y) (h : isiR S d c = some b) (q : Q (.bl b) H) : wpAny (model X.prog X.w) X.A (call (.builtin "isinstance") us) (EP X pins σ Q) X.xe s := by
  unfold isiR at h
  split at h
  · rename_i t n ht
    obtain ⟨hn, rfl⟩ := g?_some h
    unfold RelD at r2
    subst r2
    exact call_isi pins s σ H _ us Q I rx ⟨x, _, _, _, _, rfl, .ty n, tyX_of hC rp r1 ht, kit_in (tyN_in ht) hn, q⟩
  · rename_i t n n' ht
    obtain ⟨⟨rfl, rfl⟩, rfl⟩ := g?_some h
    unfold RelD at r2
    obtain ⟨a, vs, rfl, f, z⟩ := r2
    obtain ⟨v1, v2, rfl, z1, z2⟩ := rel2 z
    unfold RelD at z1 z2
    subst z1 z2
    have k1 : PySem.W.kitOne X.K (.type t) (.type "tuple") = some (isT t "tuple") := kit_in (tyN_in ht) (by simp)
    have k2 : PySem.W.kitOne X.K (.type t) (.type "list") = some (isT t "list") := kit_in (tyN_in ht) (by simp)
    have k : PySem.W.kitAny X.K (.type t) [.type "tuple", .type "list"] = some (isT t "tuple" || isT t "list") := by
      refine kitAny_cons k1 (fun e => ?_) (fun e => by rw [e]; rfl)
      rw [e, Bool.false_or]
      refine kitAny_cons k2 (fun e => ?_) (fun e => e)
      rw [e]; exact kitAny_nil
    rcases f with ⟨f, _⟩ | ⟨o, its, nn, f, fc, fd, fz, fv⟩
    · exact call_isiT pins s σ H _ us Q I rx ⟨x, a, _, _, _, _, rfl, f, .cons (.ty _) (.cons (.ty _) .nil), tyX_of hC rp r1 ht, k, q⟩
    · obtain ⟨u1, u2, e1, ru1, ru2⟩ := vals2 fv
      cases ru1
      cases ru2
      obtain ⟨oc, od, dt, sl⟩ := o
      simp only at fc fd
      subst fc fd
      have ei : its = [Value.type "tuple", Value.type "list"].toArray := Array.ext' e1
      rw [ei, hC] at f
      exact call_isiK pins s σ H _ us Q I rx ⟨x, a, _, _, _, _, _, _, rfl, f, tyX_of hC rp r1 ht, k, q⟩
  · cases h
theorem len_of {C : Cc} (hC : C.K = X.K) {H : Hp} {S : Sto} {x : D} {v : V} {ds : List D} (rp : Rp C H S) (r : RelD C H S x v) (h : seqOf S x = some ds) : LenV X.K v H ds.length := by
  obtain ⟨a, vs, rfl, h1, q⟩ := seqOf_sq rp r h
  rw [hC] at h1
  rcases h1 with h1 | h1
  · exact .inl ⟨vs, h1, q.len.symm⟩
  · exact .inr ⟨vs, h1, q.len.symm⟩
def bfV : Bf → Value
  | .len => .builtin "len" | .abs => .builtin "abs" | .int => .type "int" | .max => .builtin "max" | .sum => .builtin "sum" | .all => .builtin "all" | .list => .type "list" | .isinstance => .builtin "isinstance"
  | .min => .builtin "min" | .any => .builtin "any" | .sorted => .builtin "sorted" | .tuple => .type "tuple" | .dict => .type "dict" | .str => .type "str"
theorem anyB_bls {C : Cc} {H : Hp} {S : Sto} : ∀ {ds : List D} {vs : List V} {b : Bool}, RelDs C H S ds vs → anyB S ds = some b → ∃ bs : List Bool, vs = bs.map V.bl ∧ b = bs.any id
  | [], _, _, h, e => by unfold RelDs at h; subst h; cases e; exact ⟨[], rfl, rfl⟩
  | d :: ds, _, _, h, e => by
    unfold RelDs at h
    obtain ⟨v, r, rfl, h1, h2⟩ := h
    cases d with
    | bl i =>
      have e : (match anyB S ds with
        | some c => some (i || c)
        | none => none) = some _ := e
      cases q : anyB S ds with
      | none => rw [q] at e; cases e
      | some c =>
        rw [q] at e
        cases e
        obtain ⟨bs, rfl, rfl⟩ := anyB_bls h2 q
        unfold RelD at h1
        subst h1
        exact ⟨i :: bs, rfl, rfl⟩
    | _ => cases e
theorem strs_rel {C : Cc} {H : Hp} {S : Sto} : ∀ {ds : List D} {vs : List V} {l : List Str}, RelDs C H S ds vs → strsOf ds = some l → vs = l.map V.str ∧ l.all PySem.PyData.strOk = true
  | [], _, _, h, e => by unfold RelDs at h; subst h; cases e; exact ⟨rfl, rfl⟩
  | d :: ds, _, _, h, e => by
    unfold RelDs at h
    obtain ⟨v, r, rfl, h1, h2⟩ := h
    cases d with
    | str x =>
      have e : (match strsOf ds with
        | some c => some (x :: c)
        | none => none) = some _ := e
      cases q : strsOf ds with
      | none => rw [q] at e; cases e
      | some c =>
        rw [q] at e
        cases e
        obtain ⟨rfl, h3⟩ := strs_rel h2 q
        have h4 := h1.strOk
        cases rel_str h1
        exact ⟨rfl, by rw [List.all_cons, h4, h3]; rfl⟩
    | _ => cases e
theorem ks_rel : ∀ {kvs : List (Key × D)} {l : List Str}, ksOf kvs = some l → kvs.map (·.1) = l.map Sum.inr
  | [], _, e => by cases e; rfl
  | (k, d) :: ds, _, e => by
    cases k with
    | inr x =>
      have e : (match ksOf ds with
        | some c => some (x :: c)
        | none => none) = some _ := e
      cases q : ksOf ds with
      | none => rw [q] at e; cases e
      | some c =>
        rw [q] at e
        cases e
        rw [List.map_cons, List.map_cons, ks_rel q]
    | inl x => cases e
theorem rel_strs {C : Cc} {H : Hp} {S : Sto} : ∀ {l : List Str}, l.all PySem.PyData.strOk = true → RelDs C H S (l.map .str) (l.map V.str)
  | [], _ => RelDs.nil
  | x :: l, h => by
    rw [List.all_cons] at h
    obtain ⟨h1, h2⟩ := Bool.and_eq_true_iff.mp h
    exact RelDs.cons (mk_str h1) (rel_strs h2)
theorem all_perm {l l' : List Str} (h : l'.Perm l) (q : l.all PySem.PyData.strOk = true) : l'.all PySem.PyData.strOk = true := by
  rw [List.all_eq_true] at q ⊢
  exact fun x hx => q x (h.mem_iff.mp hx)
theorem dct_of {C : Cc} {H : Hp} {S : Sto} {a : Addr} {kvs : List (Key × D)} (rp : Rp C H S) (h : dctAt S a = some kvs) : ∃ l, H a = some (.dK l) ∧ RelK C H S kvs l := by
  unfold dctAt at h
  split at h
  · rename_i e
    cases h
    obtain ⟨o, h2, h3⟩ := rp.obj a _ e
    obtain ⟨l, rfl, rk⟩ := h3
    exact ⟨l, h2, rk⟩
  · cases h
theorem bltOk (hc : X.calm = true) (f : Bf) (m : Bool) : CallR X (bfV f) (rDc (cc X ga Z) fun us S k => ∃ r, bltR f us S = some r ∧ fin m r S k) := by
  intro pins s σ H xs us Q I rv h
  obtain ⟨ds, S, rp, rs, r, hb, hf⟩ := h
  unfold bltR at hb
  split at hb
  · obtain ⟨c, rfl⟩ := g?_some hb
    obtain ⟨v, rfl, r1⟩ := rel1 rs
    cases rel_str r1
    exact call_len pins s σ H _ us Q I rv ⟨_, _, rfl, ⟨c, rfl⟩, kD_val rp hf mk_int⟩
  · obtain ⟨v, rfl, r1⟩ := rel1 rs
    split at hb
    · rename_i ds h1
      cases hb
      exact call_len pins s σ H _ us Q I rv ⟨_, _, rfl, len_of rfl rp r1 h1, kD_val rp hf mk_int⟩
    · split at hb
      · rename_i a _ _
        obtain ⟨kvs, h1, rfl⟩ := Option.map_eq_some_iff.mp hb
        obtain ⟨l, h2, rk⟩ := dct_of rp h1
        unfold RelD at r1
        subst r1
        rw [Vals.ref1 rv]
        refine d_len I (.inl h2) fun t s' I' => ⟨.int l.length, H, I', ⟨t, rfl⟩, ?_⟩
        rw [rk.len]
        exact kD_val rp hf mk_int
      · cases hb
  · cases hb
    obtain ⟨v, rfl, r1⟩ := rel1 rs
    cases rel_int r1
    exact call_abs pins s σ H _ us Q I rv ⟨_, rfl, kD_val rp hf mk_int⟩
  · cases hb
    obtain ⟨v, rfl, r1⟩ := rel1 rs
    cases rel_int r1
    exact call_int1 pins s σ H _ us Q I rv (.inl ⟨_, rfl, kD_val rp hf mk_int⟩)
  · cases hb
    obtain ⟨v, rfl, r1⟩ := rel1 rs
    unfold RelD at r1
    subst r1
    exact call_int1 pins s σ H _ us Q I rv (.inr ⟨_, rfl, kD_val rp hf mk_int⟩)
  · cases hb
    obtain ⟨v, w, rfl, r1, r2⟩ := rel2 rs
    cases rel_int r1; cases rel_int r2
    exact call_max2 hc pins s σ H _ us Q I rv ⟨_, _, rfl, kD_val rp hf mk_int⟩
  · split at hb
    · rename_i ds h0
      obtain ⟨n, h1, rfl⟩ := Option.map_eq_some_iff.mp hb
      obtain ⟨v, rfl, r1⟩ := rel1 rs
      obtain ⟨a, vs, rfl, h2, q⟩ := listOf_sq rp r1 h0
      obtain ⟨ns, rfl, rfl⟩ := sumI_ints q h1
      exact cr_sum hc pins s σ H _ us Q I rv ⟨a, ns, rfl, .of h2, kD_val rp hf mk_int⟩
    · cases hb
  · split at hb
    · rename_i ds h0
      obtain ⟨n, h1, rfl⟩ := Option.map_eq_some_iff.mp hb
      obtain ⟨v, rfl, r1⟩ := rel1 rs
      obtain ⟨a, vs, rfl, h2, q⟩ := listOf_sq rp r1 h0
      obtain ⟨ns, rfl, rfl⟩ := allB_bls q h1
      exact cr_all hc pins s σ H _ us Q I rv ⟨a, ns, rfl, .of h2, kD_val rp hf mk_bl⟩
    · cases hb
  · obtain ⟨ds, h1, rfl⟩ := Option.map_eq_some_iff.mp hb
    obtain ⟨v, rfl, r1⟩ := rel1 rs
    obtain ⟨a, vs, rfl, h2, q⟩ := seqOf_sq rp r1 h1
    exact call_list_of pins s σ H _ us Q I rv ⟨a, vs, rfl, h2, fin_new rp hf q⟩
  · obtain ⟨b, h1, rfl⟩ := Option.map_eq_some_iff.mp hb
    obtain ⟨v, w, rfl, r1, r2⟩ := rel2 rs
    exact isiOk rfl I rv rp r1 r2 h1 (kD_val rp hf mk_bl)
  · cases hb
    obtain ⟨v, w, rfl, r1, r2⟩ := rel2 rs
    cases rel_int r1; cases rel_int r2
    exact call_min2 hc pins s σ H _ us Q I rv ⟨_, _, rfl, kD_val rp hf mk_int⟩
  · split at hb
    · rename_i ds h0
      obtain ⟨n, h1, rfl⟩ := Option.map_eq_some_iff.mp hb
      obtain ⟨v, rfl, r1⟩ := rel1 rs
      obtain ⟨a, vs, rfl, h2, q⟩ := listOf_sq rp r1 h0
      obtain ⟨ns, rfl, rfl⟩ := anyB_bls q h1
      exact cr_any hc pins s σ H _ us Q I rv ⟨a, ns, rfl, .of h2, kD_val rp hf mk_bl⟩
    · cases hb
  · obtain ⟨v, rfl, r1⟩ := rel1 rs
    split at hb
    · rename_i ds h0
      split at hb
      · rename_i l h1
        obtain ⟨c, rfl⟩ := g?_some hb
        obtain ⟨a, vs, rfl, h2, q⟩ := listOf_sq rp r1 h0
        obtain ⟨rfl, hok⟩ := strs_rel q h1
        refine cr_sortedS pins s σ H _ us Q I rv ⟨a, l, rfl, .of h2, c, fun ys p hp hs hn => ?_⟩
        rw [srt_unique hp hs]
        exact fin_new rp hf (rel_strs (all_perm (srtS_perm l) hok)) p hn
      · cases hb
    · split at hb
      · rename_i a _
        split at hb
        · rename_i kvs h1
          split at hb
          · rename_i l h2
            obtain ⟨⟨c, hok⟩, rfl⟩ := g?_some hb
            obtain ⟨vl, h3, rk⟩ := dct_of rp h1
            unfold RelD at r1
            subst r1
            refine call_sortedD hc pins s σ H _ us Q I rv ⟨a, vl, l, rfl, .inl h3, by rw [rk.keys, ks_rel h2], c, fun ys p hp hs hn => ?_⟩
            rw [srt_unique hp hs]
            exact fin_new rp hf (rel_strs (all_perm (srtS_perm l) hok)) p hn
          · cases hb
        · cases hb
      · cases hb
  · rename_i ds
    cases hb
    obtain ⟨v, rfl, r1⟩ := rel1 rs
    unfold RelD at r1
    obtain ⟨a, vs, rfl, f, q⟩ := r1
    refine call_tuple_of pins s σ H _ us Q I rv ⟨a, vs, rfl, .inr ⟨f.sq, kD_val rp hf ?_⟩⟩
    unfold RelD
    exact ⟨a, vs, rfl, f, q⟩
  · obtain ⟨ds, h1, rfl⟩ := Option.map_eq_some_iff.mp hb
    obtain ⟨v, rfl, r1⟩ := rel1 rs
    obtain ⟨a, vs, rfl, h2, q⟩ := listOf_sq rp r1 h1
    exact call_tuple_of pins s σ H _ us Q I rv ⟨a, vs, rfl, .inl ⟨.of h2, kD_tup rp hf q⟩⟩
  · rename_i a
    obtain ⟨kvs, h1, rfl⟩ := Option.map_eq_some_iff.mp hb
    obtain ⟨v, rfl, r1⟩ := rel1 rs
    obtain ⟨l, h2, rk⟩ := dct_of rp h1
    unfold RelD at r1
    subst r1
    rw [Vals.ref1 rv]
    exact d_copyOf I (.inl h2) fun p s' hp I' => ⟨.ref p, _, I', rfl, fin_newD rp hf rk p hp⟩
  · obtain ⟨⟨c, hok⟩, rfl⟩ := g?_some hb
    obtain ⟨v, rfl, r1⟩ := rel1 rs
    cases rel_int r1
    exact call_str_int pins s σ H _ us Q I rv ⟨_, rfl, c, kD_val rp hf (mk_str hok)⟩
  · cases hb
end
end Mn

namespace Mn
open PySem L2
/-! ### does a text of Python's match a text of the small syntax? -/
def visB (sc : Scope) (x : Str) : Bool := match sc.names.lookup x with
  | some .local => true
  | some .cell => true
  | some .free => true
  | _ => false
def locB (sc : Scope) (x : Str) : Bool := match sc.names.lookup x with
  | some .local => true
  | some .cell => true
  | _ => false
def gloB (sc : Scope) (x : Str) : Bool := match sc.names.lookup x with
  | some .globalImplicit => true
  | _ => false
def dbgB (x : Str) : Bool := !(x == ("__debug__" : Str)) && !(x == ("__classdict__" : Str)) && !(x == ("__name__" : Str))
def notStar : Expr → Bool
  | .Starred _ _ => false
  | _ => true
def notSl : Expr → Bool
  | .Slice _ _ _ _ => false
  | _ => true
def notLc : Expr → Bool
  | .ListComp _ _ _ _ => false
  | .SetComp _ _ _ _ => false
  | .DictComp _ _ _ _ _ => false
  | _ => true
def notSet : Expr → Bool
  | .Set _ _ _ => false
  | _ => true
def notSuper : Expr → Bool
  | .Call (.Name _ _) [] [] _ => false
  | _ => true
def cstB : D → Const → Bool
  | .non, .none => true
  | .bl b, .bool c => b == c
  | .int i, .int j => decide (i = j)
  | .str x, .str y => decide (x = y) && PySem.PyData.strOk x
  | _, _ => false
def tyB (n : String) : Bool := n == "int" || n == "bool" || n == "str" || n == "list" || n == "tuple"
mutual
def slots : MT → List Nat
  | .nm i => [i]
  | .tp ts => slotss ts
def slotss : List MT → List Nat
  | [] => []
  | t :: ts => slots t ++ slotss ts
end
mutual
def matchT (N : List Str) (sc : Scope) : MT → Expr → Bool
  | .nm i, .Name x _ => decide (N[i]? = some x) && locB sc x
  | .tp ts, .Tuple es _ _ => matchTs N sc ts es
  | _, _ => false
def matchTs (N : List Str) (sc : Scope) : List MT → List Expr → Bool
  | [], [] => true
  | t :: ts, e :: es => matchT N sc t e && matchTs N sc ts es
  | _, _ => false
end
def isTupT : Expr → Bool
  | .Tuple _ _ _ => true
  | _ => false
def dctB : List (Str × D) → List (Option Expr) → List Expr → Bool
  | [], [], [] => true
  | (k, d) :: r, some (.Constant (.str x) _ _) :: ks, .Constant c _ _ :: vs => decide (k = x) && (PySem.PyData.strOk k && (cstB d c && dctB r ks vs))
  | _, _, _ => false
mutual
def matchE (N : List Str) (sc : Scope) : ME → Expr → Bool
  | .var i, e => match e with
    | .Name x _ => decide (N[i]? = some x) && (visB sc x && dbgB x)
    | _ => false
  | .cst d, e => match e with
    | .Constant c _ _ => cstB d c
    | .Name x _ => (match d with
      | .ty n => decide (x = Str.ofString n) && (gloB sc x && tyB n)
      | _ => false)
    | _ => false
  | .glo n, e => match e with
    | .Name x _ => decide (x = n) && (gloB sc x && dbgB x)
    | _ => false
  | .bin o _ a b, e => match e with
    | .BinOp l o' r _ => decide (o = o') && (matchE N sc a l && matchE N sc b r)
    | _ => false
  | .neg a, e => match e with
    | .UnaryOp .USub l _ => matchE N sc a l
    | _ => false
  | .not a, e => match e with
    | .UnaryOp .Not l _ => matchE N sc a l
    | _ => false
  | .cmp o a b, e => match e with
    | .Compare l [o'] [r] _ => decide (o = o') && (notSet r && (matchE N sc a l && matchE N sc b r))
    | _ => false
  | .cmp2 o p a b c, e => match e with
    | .Compare l [o', p'] [r, z] _ => decide (o = o') && (decide (p = p') && (notSet z && (matchE N sc a l && (matchE N sc b r && matchE N sc c z))))
    | _ => false
  | .and a b, e => match e with
    | .BoolOp .And [l, r] _ => matchE N sc a l && matchE N sc b r
    | .BoolOp .And (l :: r :: z :: q) pos => matchE N sc a l && matchE N sc b (.BoolOp .And (r :: z :: q) pos)
    | _ => false
  | .or a b, e => match e with
    | .BoolOp .Or [l, r] _ => matchE N sc a l && matchE N sc b r
    | .BoolOp .Or (l :: r :: z :: q) pos => matchE N sc a l && matchE N sc b (.BoolOp .Or (r :: z :: q) pos)
    | _ => false
  | .ifx c a b, e => match e with
    | .IfExp c' a' b' _ => matchE N sc c c' && (matchE N sc a a' && matchE N sc b b')
    | _ => false
  | .idx a i, e => match e with
    | .Subscript l r _ => notSl r && (matchE N sc a l && matchE N sc i r)
    | _ => false
  | .slL _ a lo, e => match e with
    | .Subscript l (.Slice (some lo') none none _) _ => matchE N sc a l && matchE N sc lo lo'
    | _ => false
  | .slU _ a hi, e => match e with
    | .Subscript l (.Slice none (some hi') none _) _ => matchE N sc a l && matchE N sc hi hi'
    | _ => false
  | .slLU _ a lo hi, e => match e with
    | .Subscript l (.Slice (some lo') (some hi') none _) _ => matchE N sc a l && (matchE N sc lo lo' && matchE N sc hi hi')
    | _ => false
  | .tup es, e => match e with
    | .Tuple es' _ _ => matchEs N sc es es'
    | _ => false
  | .lst _ es, e => match e with
    | .List es' _ => matchEs N sc es es'
    | _ => false
  | .blt f _ es, e => match e with
    | .Call (.Name x _) as [] _ => decide (x = f.nm) && (gloB sc x && (!as.isEmpty && matchEs N sc es as))
    | _ => false
  | .bm f _ o es, e => match e with
    | .Call (.Attribute o' x ap) as [] cp => decide (x = f.nm) && ((ap.endLine == cp.line) && (notSuper o' && (decide (as.length < 20) && (!as.isEmpty && (matchE N sc o o' && matchEs N sc es as)))))
    | _ => false
  | .call f es, e => match e with
    | .Call (.Name x _) as [] _ => decide (x = f) && (gloB sc x && (dbgB x && (!as.isEmpty && matchEs N sc es as)))
    | _ => false
  | .lc i _ t as c e, ex => match ex with
    | .ListComp elt [⟨tg, iter, ifs, ay⟩] scope _ => decide (ay = 0) && (blkC N sc scope ((slots t).map fun i => (N.getD i "", i)) && (matchT N scope t tg && (matchEs N scope c ifs && (matchE N scope e elt && (decide (c.length ≤ 1) && (notSet iter &&
        (match i with
        | 0 => matchEs N sc as [iter]
        | 1 => (match iter with
          | .Call (.Name x _) as' [] _ => decide (x = "range") && (gloB sc x && (decide (as'.length = 1 ∨ as'.length = 2) && matchEs N sc as as'))
          | _ => false)
        | 2 => (match iter with
          | .Call (.Name x _) as' [] _ => decide (x = "enumerate") && (gloB sc x && (decide (as'.length = 1) && (isTupT tg && matchEs N sc as as')))
          | _ => false)
        | 3 => (match iter with
          | .Call (.Name x _) as' [] _ => decide (x = "zip") && (gloB sc x && (decide (as'.length = 2) && (isTupT tg && matchEs N sc as as')))
          | _ => false)
        | _ => false)))))))
    | _ => false
  | .frz a, e => matchE N sc a e
  | .att o f, e => match e with
    | .Attribute o' x _ => decide (x = f) && (notSuper o' && matchE N sc o o')
    | _ => false
  | .mth c o m es, e => match e with
    | .Call (.Attribute o' x ap) as [] cp => decide (x = m) && ((ap.endLine == cp.line) && (notSuper o' && (decide (as.length < 20) && (matchE N sc o o' && matchEs N sc es as))))
    | _ => false
  | .mk c es, e => match e with
    | .Call (.Name x _) as [] _ => decide (x = c) && (gloB sc x && (dbgB x && matchEs N sc es as))
    | _ => false
  | .dct kvs, e => match e with
    | .Dict ks vs _ => dctB kvs ks vs && decide (kvs.length ≤ 15)
    | _ => false
  | .bad, _ => true
def matchEs (N : List Str) (sc : Scope) : List ME → List Expr → Bool
  | [], es => es.isEmpty
  | m :: ms, es => match es with
    | e :: es => notStar e && (matchE N sc m e && matchEs N sc ms es)
    | [] => false
end

/-! ### where one stands -/
structure Sck (X : Cx) (sc : Scope) : Prop where
  kind : X.env.scope.kind = .function
  look : ∀ x k, sc.names.lookup x = some k → ∃ k', X.env.scope.names.lookup x = some k' ∧ (k' = k ∨ (k = .free ∧ k' = .cell))
theorem Sck.vis {X : Cx} {sc : Scope} (h : Sck X sc) {x : Str} (q : visB sc x = true) : Vis X.env.scope x := by
  unfold visB at q
  cases e : sc.names.lookup x with
  | none => rw [e] at q; cases q
  | some k =>
    obtain ⟨k', h1, h2⟩ := h.look x k e
    rw [e] at q
    unfold Vis
    rw [h1]
    rcases h2 with rfl | ⟨rfl, rfl⟩
    · cases k' <;> first | exact .inl rfl | exact .inr (.inl rfl) | exact .inr (.inr rfl) | cases q
    · exact .inr (.inl rfl)
theorem Sck.loc {X : Cx} {sc : Scope} (h : Sck X sc) {x : Str} (q : locB sc x = true) : L2.Loc X.env.scope x := by
  unfold locB at q
  cases e : sc.names.lookup x with
  | none => rw [e] at q; cases q
  | some k =>
    obtain ⟨k', h1, h2⟩ := h.look x k e
    rw [e] at q
    unfold L2.Loc
    rw [h1]
    rcases h2 with rfl | ⟨rfl, rfl⟩
    · cases k' <;> first | exact .inl rfl | exact .inr rfl | cases q
    · exact .inr rfl
theorem Sck.glo {X : Cx} {sc : Scope} (h : Sck X sc) {x : Str} (q : gloB sc x = true) : Gl X x := by
  unfold gloB at q
  cases e : sc.names.lookup x with
  | none => rw [e] at q; cases q
  | some k =>
    obtain ⟨k', h1, h2⟩ := h.look x k e
    rw [e] at q
    unfold Gl Env.kindOf
    rw [h1]
    rcases h2 with rfl | ⟨rfl, rfl⟩
    · cases k' <;> first | rfl | cases q
    · cases q
/-- an exception as it lies -/
def RelX (C : Cc) (H : Hp) (S : Sto) (e : Exc) (cls : Value) (d : Option Addr) : Prop :=
  cls = .ref (C.ga e.cls) ∧ ∃ dd fs, d = some dd ∧ H dd = some (.xd fs) ∧ S dd = none ∧ ∀ f x, e.fs.lookup f = some x → ∃ v, fs.lookup f = some v ∧ RelD C H S x v
/-- a promise as HandS has it -/
def lift (K : PySem.W.Frag) (ga : Str → Addr) (n : Nat) (sp : DSp) : Sp := fun vs H Q E => vs.length = n ∧ ∃ (ds : List D) (S : Sto) (Z : Addr → Prop), RelDs ⟨K, ga, Z⟩ H S ds vs ∧ Rp ⟨K, ga, Z⟩ H S ∧
  callW sp ds S (kD ⟨K, ga, Z⟩ H S Q) (fun e S' => ∀ H' cls d, Rp ⟨K, ga, Z⟩ H' S' → Ext H S H' S' → RelX ⟨K, ga, Z⟩ H' S' e cls d → E cls d H')
def liftX (C : Cc) (H0 : Hp) (S0 : Sto) (x : XW) : WX := fun cls d σ H => ∃ (e : Exc) (σd : Env) (S : Sto), RelS C H S σd σ ∧ Rp C H S ∧ Ext H0 S0 H S ∧ RelX C H S e cls d ∧ x e σd S
structure FnAt (X : Cx) (ga : Str → Addr) (f : Str) (n : Nat) (sp : DSp) : Prop where
  ex : ∃ (fa : Addr) (fd : FuncData) (k : Nat) (ps : List Str), ps.length = n ∧ X.mg f = some (.ref fa) ∧ FnOk X.prog X.w X.K X.mg X.base (L2.CX X.prog X.w) k fa fd ps (lift X.K ga n sp) ∧ Room k X.A ∧ PySem.W.keepIn X.K (.ref fa) = true ∧ Binds X.K fd ps []
/-- a method, a class to be made, an exception, two classes of exceptions -/
structure MtAt (X : Cx) (ga : Str → Addr) (c m : Str) (n : Nat) (sp : DSp) : Prop where
  ex : ∃ (fa : Addr) (fd : FuncData) (k : Nat) (ps : List Str), ps.length = n ∧ L2.Cls X.K (ga c) ∧ L2.Meth X.K (ga c) m fa ∧ FnOk X.prog X.w X.K X.mg X.base (L2.CX X.prog X.w) k fa fd ps (lift X.K ga n sp) ∧ Room k X.A ∧ Binds X.K fd ps []
structure MkAt (X : Cx) (ga : Str → Addr) (c : Str) (n : Nat) (sp : DSp) : Prop where
  ex : ∃ (fa : Addr) (fd : FuncData) (k : Nat) (ps : List Str), ps.length = n ∧ X.mg c = some (.ref (ga c)) ∧ L2.Mk X.K (ga c) fa ∧ FnOk X.prog X.w X.K X.mg X.base (L2.CX X.prog X.w) k fa fd ps (lift X.K ga n sp) ∧ Room (k + 1) X.A ∧ Binds X.K fd ps []
/-- what an exception's __init__ does -/
def spEx (C : Addr) (n : Nat) (F : List V → List (Str × V)) : Sp := fun vs H Q _ => ∃ a ws, vs = .ref a :: ws ∧ ws.length = n ∧ H a = some (exo a C none) ∧ ∀ dx, H dx = none → dx ≠ a → Q .non (upd (upd H dx (exd dx (F ws))) a (exo a C (some dx)))
def RelFn (F : List D → List (Str × D)) (F' : List V → List (Str × V)) : Prop := ∀ (C : Cc) (H : Hp) (S : Sto) (ds : List D) (vs : List V), RelDs C H S ds vs → ∀ f x, (F ds).lookup f = some x → ∃ v, (F' vs).lookup f = some v ∧ RelD C H S x v
structure ExAt (X : Cx) (ga : Str → Addr) (c : Str) (n : Nat) (F : List D → List (Str × D)) : Prop where
  ex : ∃ (fI : Addr) (fd : FuncData) (k : Nat) (ps : List Str) (F' : List V → List (Str × V)), X.mg c = some (.ref (ga c)) ∧ OexC X.K (ga c) ∧ PySem.W.findIn X.K (.ref (ga c)) "__init__" = some (some (.ref fI)) ∧ PySem.W.typeIn X.K (.ref fI) = some (.type "function") ∧
    FnOk X.prog X.w X.K X.mg X.base (L2.CX X.prog X.w) k fI fd ps (spEx (ga c) n F') ∧ Room (k + 1) X.A ∧ Binds X.K fd ps [] ∧ RelFn F F'
structure SubAt (X : Cx) (ga : Str → Addr) (c c' : Str) (b : Bool) : Prop where
  mg : X.mg c' = some (.ref (ga c'))
  exm : PySem.W.exmOne X.K (.ref (ga c)) (.ref (ga c')) = some b
  kit : PySem.W.kitOne X.K (.ref (ga c)) (.ref (ga c')) = some b
  exc : ExcC X.K (ga c)
structure Gd (X : Cx) (sc : Scope) (ga : Str → Addr) (Z : Addr → Prop) (H0 : Hp) (S0 : Sto) (G : Gc) (x : XW) : Prop where
  nd : X.N.Nodup
  calm : X.calm = true
  room : X.A.units + 64 < cLine
  sck : Sck X sc
  tk : Takes X (liftX (cc X ga Z) H0 S0 x)
  own : PassesOwn (model X.prog X.w) X.A X.env X.xe
  fns : ∀ f n sp, G.fn f = some (n, sp) → FnAt X ga f n sp
  con : ∀ n d, G.con n = some d → ∃ v u, X.mg n = some u ∧ RelV v u ∧ ∀ Z H S, RelD (cc X ga Z) H S d v
  blt : ∀ f : Bf, X.mg f.nm = none
  tys : ∀ n, tyB n = true → X.mg (Str.ofString n) = none
  mts : ∀ c m n sp, G.mt c m = some (n, sp) → MtAt X ga c m n sp
  mks : ∀ c n sp, G.mkr c = some (n, sp) → MkAt X ga c n sp
  flds : ∀ c f, G.fld c f = true → L2.Cls X.K (ga c) ∧ L2.NoAttr X.K (ga c) f
  excs : ∀ c n F, G.exc c = some (n, F) → ExAt X ga c n F
  subs : ∀ c c' b, G.sub c c' = some b → SubAt X ga c c' b
  xfls : ∀ c f, G.xfl c f = true → XfC X.K (ga c) ∧ PySem.W.findIn X.K (.ref (ga c)) f = some none
  zip : X.mg "zip" = none
  rng : X.mg "range" = none
  enm : X.mg "enumerate" = none
  fnl : ∀ x, locB sc x = true → X.fn x = true ∨ X.env.scope.names.lookup x = some .local
end Mn

namespace Mn
open PySem L2
/-! ### small facts of the syntax -/
theorem and2 {a b : Bool} (h : (a && b) = true) : a = true ∧ b = true := Bool.and_eq_true_iff.mp h
theorem starEach_cons {e : Expr} {es : List Expr} {env : PySem.Env} (h : notStar e = true) : starEach (e :: es) env = (false, eval e env) :: starEach es env := by
  cases e <;> first | rfl | cases h
theorem star_all : ∀ {ms : List ME} {N : List Str} {sc : Scope} {es : List Expr} {env : PySem.Env} {pos : Pos}, matchEs N sc ms es = true → (backTo pos (starEach es env)).any (·.1) = false ∧ (backTo pos (starEach es env)).all (fun x => !x.1) = true
  | [], _, _, [], _, _, _ => ⟨rfl, rfl⟩
  | [], _, _, _ :: _, _, _, h => by unfold matchEs at h; cases h
  | _ :: _, _, _, [], _, _, h => by unfold matchEs at h; cases h
  | m :: ms, N, sc, e :: es, env, pos, h => by
    unfold matchEs at h
    obtain ⟨h1, h2⟩ := and2 h
    obtain ⟨h2, h3⟩ := and2 h2
    obtain ⟨a, b⟩ := star_all (env := env) (pos := pos) h3
    rw [starEach_cons h1]
    unfold backTo at a b ⊢
    rw [List.map_cons, List.any_cons, List.all_cons, a, b]
    exact ⟨rfl, rfl⟩
theorem matchEs_len : ∀ {ms : List ME} {N : List Str} {sc : Scope} {es : List Expr}, matchEs N sc ms es = true → ms.length = es.length
  | [], _, _, [], _ => rfl
  | [], _, _, _ :: _, h => by unfold matchEs at h; cases h
  | _ :: _, _, _, [], h => by unfold matchEs at h; cases h
  | m :: ms, N, sc, e :: es, h => by
    unfold matchEs at h
    obtain ⟨h1, h2⟩ := and2 h
    rw [List.length_cons, List.length_cons, matchEs_len (and2 h2).2]
theorem star1 {ms : List ME} {N : List Str} {sc : Scope} {e : Expr} {es : List Expr} (h : matchEs N sc ms (e :: es) = true) : notStar e = true := by
  cases ms with
  | nil => unfold matchEs at h; cases h
  | cons m ms => unfold matchEs at h; exact (and2 h).1
theorem star2 {ms : List ME} {N : List Str} {sc : Scope} {e e' : Expr} {es : List Expr} (h : matchEs N sc ms (e :: e' :: es) = true) : notStar e' = true := by
  cases ms with
  | nil => unfold matchEs at h; cases h
  | cons m ms => unfold matchEs at h; exact star1 (and2 (and2 h).2).2
theorem notSet_marks {e : Expr} {o : CmpOp} (h : notSet e = true) : behindInMarks o e = false := by cases e <;> first | rfl | cases h
theorem notSet_last {a e : Expr} {o p : CmpOp} (h : notSet e = true) : lastMarks [o, p] [a, e] = false := notSet_marks h
theorem notSl_plain {e : Expr} (h : notSl e = true) : PlainIx e := fun o i => by cases e <;> first | rfl | cases h
theorem notSuper_base {o : Expr} {f : Str} {env : PySem.Env} {w : Sem Value} (h : notSuper o = true) : attributeBase o f env w = w := by
  unfold attributeBase
  cases o with
  | Call fn as ks pos =>
    cases fn with
    | Name x p =>
      cases as with
      | nil =>
        cases ks with
        | nil => cases h
        | cons k ks => rfl
      | cons a as => rfl
    | _ => rfl
  | _ => rfl
theorem notSet_fold {e : Expr} {env : PySem.Env} (h : notSet e = true) : ∀ x, foldedSetIterable e env x = pure x := fun x => by
  unfold foldedSetIterable
  cases e with
  | Set a b c => cases h
  | _ => rfl
theorem notLc_swap {e : Expr} {t : Option Expr} {l : Nat} {env : PySem.Env} (h : notLc e = true) : swapsWith e t l env = pure false := by
  unfold swapsWith
  cases e with
  | ListComp a b c d => cases h
  | SetComp a b c d => cases h
  | DictComp a b c d e => cases h
  | _ => rfl
def notTest : Expr → Bool
  | .UnaryOp .Not _ _ => false
  | .BoolOp _ _ _ => false
  | .IfExp _ _ _ _ => false
  | .Compare _ _ _ _ => false
  | _ => true
theorem notTest_true {e : Expr} {env : PySem.Env} (h : notTest e = true) : ∀ whole, isTrue e env whole = (do let v ← whole; standAt e.pos; holding [v] (truthy v)) := fun whole => by
  cases e with
  | UnaryOp o a p => cases o <;> first | rfl | cases h
  | BoolOp a b c => cases h
  | IfExp a b c d => cases h
  | Compare a b c d => cases h
  | _ => rfl
def tDT (C : Cc) (H0 : Hp) (S0 : Sto) (f : W1) : TT := fun σ H Q => ∃ (σd : Env) (S : Sto), RelS C H S σd σ ∧ Rp C H S ∧ Ext H0 S0 H S ∧ f σd S (fun d S' => ∃ b, tru S' d = some b ∧ ∀ H', Rp C H' S' → Ext H S H' S' → Q b H')
section
variable {X : Cx} {ga : Str → Addr} {Z : Addr → Prop} {H0 : Hp} {S0 : Sto} {G : Gc} {x : XW}
theorem pt_of {e : Expr} {m : ME} (h : PE X e (tD (cc X ga Z) H0 S0 (wE G x m))) (n : notTest e = true) : PT X e (tDT (cc X ga Z) H0 S0 (wE G x m)) := by
  refine PT.imp (pt_truth h (notTest_true n)) fun σ H Q q => ?_
  obtain ⟨σd, S, rs, rp, ex, w⟩ := q
  refine ⟨σd, S, rs, rp, ex, wE_mono (fun d S1 q H1 v rp1 e1 r1 => ?_) m σd S w⟩
  obtain ⟨b, h1, h2⟩ := q
  exact ⟨b, truOk rfl rp1 r1 h1, h2 H1 rp1 e1⟩
theorem pw_of {op : BoolOp} {vs : List Expr} {pos : Pos} {t : TT} (h : PT X (.BoolOp op vs pos) t) : PW X (.BoolOp op vs pos) t := ⟨fun _ pins s σ H Q I q => h.run pins s σ H Q I q⟩
/-- and, or as values -/
theorem and_v {a b : Expr} {rest : List Expr} {pos : Pos} {ma mb : ME} (ha : PE X a (tD (cc X ga Z) H0 S0 (wE G x ma))) (hb : PE X (.BoolOp .And (b :: rest) pos) (tD (cc X ga Z) H0 S0 (wE G x mb))) :
    PE X (.BoolOp .And (a :: b :: rest) pos) (tD (cc X ga Z) H0 S0 (wE G x (.and ma mb))) := by
  refine PE.imp (pe_andT ha hb) fun σ H Q q => ?_
  obtain ⟨σd, S, rs, rp, ex, w⟩ := q
  unfold wE at w
  refine ⟨σd, S, rs, rp, ex, wE_mono (fun d S1 q H1 v rp1 e1 r1 => ?_) ma σd S w⟩
  obtain ⟨c, h1, h2⟩ := q
  refine ⟨c, truOk rfl rp1 r1 h1, ?_⟩
  cases c with
  | true => exact ⟨σd, S1, rs.ext e1, rp1, ex.trans e1, wE_mono (fun d S' => kD_ext e1) mb σd S1 h2⟩
  | false => exact h2 H1 v rp1 e1 r1
theorem or_v {a b : Expr} {rest : List Expr} {pos : Pos} {ma mb : ME} (ha : PE X a (tD (cc X ga Z) H0 S0 (wE G x ma))) (hb : PE X (.BoolOp .Or (b :: rest) pos) (tD (cc X ga Z) H0 S0 (wE G x mb))) :
    PE X (.BoolOp .Or (a :: b :: rest) pos) (tD (cc X ga Z) H0 S0 (wE G x (.or ma mb))) := by
  refine PE.imp (pe_orT ha hb) fun σ H Q q => ?_
  obtain ⟨σd, S, rs, rp, ex, w⟩ := q
  unfold wE at w
  refine ⟨σd, S, rs, rp, ex, wE_mono (fun d S1 q H1 v rp1 e1 r1 => ?_) ma σd S w⟩
  obtain ⟨c, h1, h2⟩ := q
  refine ⟨c, truOk rfl rp1 r1 h1, ?_⟩
  cases c with
  | true => exact h2 H1 v rp1 e1 r1
  | false => exact ⟨σd, S1, rs.ext e1, rp1, ex.trans e1, wE_mono (fun d S' => kD_ext e1) mb σd S1 h2⟩
/-- .. as tests -/
theorem and_t {a b : Expr} {rest : List Expr} {pos : Pos} {ma mb : ME} (ha : PT X a (tDT (cc X ga Z) H0 S0 (wE G x ma))) (hb : PT X (.BoolOp .And (b :: rest) pos) (tDT (cc X ga Z) H0 S0 (wE G x mb))) :
    PT X (.BoolOp .And (a :: b :: rest) pos) (tDT (cc X ga Z) H0 S0 (wE G x (.and ma mb))) := by
  refine PT.imp (pw_and ha (pw_of hb)).pt fun σ H Q q => ?_
  obtain ⟨σd, S, rs, rp, ex, w⟩ := q
  unfold wE at w
  refine ⟨σd, S, rs, rp, ex, wE_mono (fun d S1 q => ?_) ma σd S w⟩
  obtain ⟨c, h1, h2⟩ := q
  refine ⟨c, h1, fun H1 rp1 e1 => ?_⟩
  cases c with
  | true =>
    refine ⟨σd, S1, rs.ext e1, rp1, ex.trans e1, wE_mono (fun d S' q => ?_) mb σd S1 h2⟩
    obtain ⟨b, h3, h4⟩ := q
    exact ⟨b, h3, fun H' rp' e' => h4 H' rp' (e1.trans e')⟩
  | false =>
    obtain ⟨b, h3, h4⟩ := h2
    rw [h1] at h3
    cases h3
    exact h4 H1 rp1 e1
theorem or_t {a b : Expr} {rest : List Expr} {pos : Pos} {ma mb : ME} (ha : PT X a (tDT (cc X ga Z) H0 S0 (wE G x ma))) (hb : PT X (.BoolOp .Or (b :: rest) pos) (tDT (cc X ga Z) H0 S0 (wE G x mb))) :
    PT X (.BoolOp .Or (a :: b :: rest) pos) (tDT (cc X ga Z) H0 S0 (wE G x (.or ma mb))) := by
  refine PT.imp (pw_or ha (pw_of hb)).pt fun σ H Q q => ?_
  obtain ⟨σd, S, rs, rp, ex, w⟩ := q
  unfold wE at w
  refine ⟨σd, S, rs, rp, ex, wE_mono (fun d S1 q => ?_) ma σd S w⟩
  obtain ⟨c, h1, h2⟩ := q
  refine ⟨c, h1, fun H1 rp1 e1 => ?_⟩
  cases c with
  | false =>
    refine ⟨σd, S1, rs.ext e1, rp1, ex.trans e1, wE_mono (fun d S' q => ?_) mb σd S1 h2⟩
    obtain ⟨b, h3, h4⟩ := q
    exact ⟨b, h3, fun H' rp' e' => h4 H' rp' (e1.trans e')⟩
  | true =>
    obtain ⟨b, h3, h4⟩ := h2
    rw [h1] at h3
    cases h3
    exact h4 H1 rp1 e1
theorem not_t {a : Expr} {pos : Pos} {ma : ME} (ha : PT X a (tDT (cc X ga Z) H0 S0 (wE G x ma))) : PT X (.UnaryOp .Not a pos) (tDT (cc X ga Z) H0 S0 (wE G x (.not ma))) := by
  refine PT.imp (pt_not ha) fun σ H Q q => ?_
  obtain ⟨σd, S, rs, rp, ex, w⟩ := q
  unfold wE at w
  refine ⟨σd, S, rs, rp, ex, wE_mono (fun d S1 q => ?_) ma σd S w⟩
  obtain ⟨c, h1, b, h2, h3⟩ := q
  cases (show some (!c) = some b from h2)
  exact ⟨c, h1, fun H' rp' e' => h3 H' rp' e'⟩
theorem not_v {a : Expr} {pos : Pos} {ma : ME} (ha : PE X a (tD (cc X ga Z) H0 S0 (wE G x ma))) : PE X (.UnaryOp .Not a pos) (tD (cc X ga Z) H0 S0 (wE G x (.not ma))) := by
  refine PE.imp (pe_notT ha) fun σ H Q q => ?_
  obtain ⟨σd, S, rs, rp, ex, w⟩ := q
  unfold wE at w
  refine ⟨σd, S, rs, rp, ex, wE_mono (fun d S1 q H1 v rp1 e1 r1 => ?_) ma σd S w⟩
  obtain ⟨c, h1, h2⟩ := q
  exact ⟨c, truOk rfl rp1 r1 h1, h2 H1 _ rp1 e1 mk_bl⟩
theorem cmp_v (hu : X.A.units + 64 < cLine) {a b : Expr} {pos : Pos} {o : CmpOp} {ma mb : ME} (hn : notSet b = true) (ha : PE X a (tD (cc X ga Z) H0 S0 (wE G x ma))) (hb : PE X b (tD (cc X ga Z) H0 S0 (wE G x mb))) : PE X (.Compare a [o] [b] pos) (tD (cc X ga Z) H0 S0 (wE G x (.cmp o ma mb))) := by
  refine PE.imp (pe_cmpR (cmpOk (ga := ga) (Z := Z) hu o) ha hb (notSet_marks hn)) fun σ H Q q => ?_
  unfold wE at q
  refine tD_two (fun u v S k k' hk z => ?_) q
  obtain ⟨r, h1, h2⟩ := z
  exact ⟨r, h1, hk _ _ h2⟩
theorem cmp_t (hu : X.A.units + 64 < cLine) {a b : Expr} {pos : Pos} {o : CmpOp} {ma mb : ME} (hn : notSet b = true) (ha : PE X a (tD (cc X ga Z) H0 S0 (wE G x ma))) (hb : PE X b (tD (cc X ga Z) H0 S0 (wE G x mb))) : PT X (.Compare a [o] [b] pos) (tDT (cc X ga Z) H0 S0 (wE G x (.cmp o ma mb))) := by
  refine PT.imp (pt_cmpR (cmpOk (ga := ga) (Z := Z) hu o) ha hb (notSet_marks hn)) fun σ H Q q => ?_
  obtain ⟨σd, S, rs, rp, ex, w⟩ := q
  unfold wE at w
  refine ⟨σd, S, rs, rp, ex, wE_mono (fun u S1 q H1 v rp1 e1 r1 => ⟨σd, S1, rs.ext e1, rp1, ex.trans e1, wE_mono (fun w S2 q H2 z rp2 e2 r2 => ⟨u, w, S2, rp2, r1.ext e2, r2, ?_⟩) mb σd S1 q⟩) ma σd S w⟩
  obtain ⟨r, h1, b, h2, h3⟩ := q
  cases (show some r = some b from h2)
  refine ⟨r, h1, fun H' v' rp' e' r' => ⟨r, ?_, h3 H' rp' ((e1.trans e2).trans e')⟩⟩
  unfold RelD at r'
  exact r'
theorem cmp2_v (hu : X.A.units + 64 < cLine) {a b c : Expr} {pos : Pos} {o p : CmpOp} {ma mb mc : ME} (hn : notSet c = true) (ha : PE X a (tD (cc X ga Z) H0 S0 (wE G x ma))) (hb : PE X b (tD (cc X ga Z) H0 S0 (wE G x mb))) (hc : PE X c (tD (cc X ga Z) H0 S0 (wE G x mc))) :
    PE X (.Compare a [o, p] [b, c] pos) (tD (cc X ga Z) H0 S0 (wE G x (.cmp2 o p ma mb mc))) := by
  refine PE.imp (pe_chain (cmpOk (ga := ga) (Z := Z) hu o) (cmpOk (ga := ga) (Z := Z) hu p) ha hb hc (notSet_last hn)) fun σ H Q q => ?_
  obtain ⟨σd, S, rs, rp, ex, w⟩ := q
  unfold wE at w
  refine ⟨σd, S, rs, rp, ex, wE_mono (fun u S1 q H1 v rp1 e1 r1 => ⟨σd, S1, rs.ext e1, rp1, ex.trans e1, wE_mono (fun w S2 q H2 z rp2 e2 r2 => ⟨u, w, S2, rp2, r1.ext e2, r2, ?_⟩) mb σd S1 q⟩) ma σd S w⟩
  obtain ⟨r, h1, q⟩ := q
  refine ⟨r, h1, fun H3 v3 rp3 e3 r3 => ⟨r, by unfold RelD at r3; exact r3, ?_⟩⟩
  have e13 := (e1.trans e2).trans e3
  cases r with
  | true =>
    refine ⟨σd, S2, rs.ext e13, rp3, ex.trans e13, wE_mono (fun y S4 q H4 v4 rp4 e4 r4 => ⟨w, y, S4, rp4, (r2.ext e3).ext e4, r4, ?_⟩) mc σd S2 q⟩
    obtain ⟨r', h2, h3⟩ := q
    exact ⟨r', h2, kD_ext (e13.trans e4) h3⟩
  | false => exact q H3 _ rp3 e13 mk_bl
theorem cmp2_t (hu : X.A.units + 64 < cLine) {a b c : Expr} {pos : Pos} {o p : CmpOp} {ma mb mc : ME} (hn : notSet c = true) (ha : PE X a (tD (cc X ga Z) H0 S0 (wE G x ma))) (hb : PE X b (tD (cc X ga Z) H0 S0 (wE G x mb))) (hc : PE X c (tD (cc X ga Z) H0 S0 (wE G x mc))) :
    PT X (.Compare a [o, p] [b, c] pos) (tDT (cc X ga Z) H0 S0 (wE G x (.cmp2 o p ma mb mc))) := by
  refine PT.imp (pt_chain (cmpOk (ga := ga) (Z := Z) hu o) (cmpOk (ga := ga) (Z := Z) hu p) ha hb hc (notSet_last hn)) fun σ H Q q => ?_
  obtain ⟨σd, S, rs, rp, ex, w⟩ := q
  unfold wE at w
  refine ⟨σd, S, rs, rp, ex, wE_mono (fun u S1 q H1 v rp1 e1 r1 => ⟨σd, S1, rs.ext e1, rp1, ex.trans e1, wE_mono (fun w S2 q H2 z rp2 e2 r2 => ⟨u, w, S2, rp2, r1.ext e2, r2, ?_⟩) mb σd S1 q⟩) ma σd S w⟩
  obtain ⟨r, h1, q⟩ := q
  refine ⟨r, h1, fun H3 v3 rp3 e3 r3 => ⟨r, by unfold RelD at r3; exact r3, ?_⟩⟩
  have e13 := (e1.trans e2).trans e3
  cases r with
  | true =>
    refine ⟨σd, S2, rs.ext e13, rp3, ex.trans e13, wE_mono (fun y S4 q H4 v4 rp4 e4 r4 => ⟨w, y, S4, rp4, (r2.ext e3).ext e4, r4, ?_⟩) mc σd S2 q⟩
    obtain ⟨r', h2, b, h3, h4⟩ := q
    cases (show some r' = some b from h3)
    exact ⟨r', h2, fun H5 v5 rp5 e5 r5 => ⟨r', by unfold RelD at r5; exact r5, h4 H5 rp5 ((e13.trans e4).trans e5)⟩⟩
  | false =>
    obtain ⟨b, h3, h4⟩ := q
    cases (show some false = some b from h3)
    exact ⟨false, rfl, h4 H3 rp3 e13⟩
theorem ifx_v {c a b : Expr} {pos : Pos} {mc ma mb : ME} (hc : PT X c (tDT (cc X ga Z) H0 S0 (wE G x mc))) (ha : PE X a (tD (cc X ga Z) H0 S0 (wE G x ma))) (hb : PE X b (tD (cc X ga Z) H0 S0 (wE G x mb))) : PE X (.IfExp c a b pos) (tD (cc X ga Z) H0 S0 (wE G x (.ifx mc ma mb))) := by
  refine PE.imp (pe_ifExp hc ha hb) fun σ H Q q => ?_
  obtain ⟨σd, S, rs, rp, ex, w⟩ := q
  unfold wE at w
  refine ⟨σd, S, rs, rp, ex, wE_mono (fun u S1 q => ?_) mc σd S w⟩
  obtain ⟨z, h1, h2⟩ := q
  refine ⟨z, h1, fun H1 rp1 e1 => ?_⟩
  cases z with
  | true => exact ⟨σd, S1, rs.ext e1, rp1, ex.trans e1, wE_mono (fun d S' => kD_ext e1) ma σd S1 h2⟩
  | false => exact ⟨σd, S1, rs.ext e1, rp1, ex.trans e1, wE_mono (fun d S' => kD_ext e1) mb σd S1 h2⟩
end
end Mn

namespace Mn
open PySem L2
section
variable {X : Cx} {ga : Str → Addr} {Z : Addr → Prop} {H0 : Hp} {S0 : Sto} {G : Gc} {x : XW}
/-! ### subscripts, slices, displays -/
theorem bin_v {a b : Expr} {pos : Pos} {o : Operator} {m : Bool} {ma mb : ME} (ha : PE X a (tD (cc X ga Z) H0 S0 (wE G x ma))) (hb : PE X b (tD (cc X ga Z) H0 S0 (wE G x mb))) : PE X (.BinOp a o b pos) (tD (cc X ga Z) H0 S0 (wE G x (.bin o m ma mb))) := by
  refine PE.imp (pe_op (binOk (ga := ga) (Z := Z) o m) ha hb) fun σ H Q q => ?_
  unfold wE at q
  refine tD_two (fun u v S k k' hk z => ?_) q
  obtain ⟨r, h1, h2⟩ := z
  exact ⟨r, h1, fin_mono hk h2⟩
theorem neg_v {a : Expr} {pos : Pos} {ma : ME} (ha : PE X a (tD (cc X ga Z) H0 S0 (wE G x ma))) : PE X (.UnaryOp .USub a pos) (tD (cc X ga Z) H0 S0 (wE G x (.neg ma))) := by
  refine PE.imp (pe_un (negOk (ga := ga) (Z := Z)) ha) fun σ H Q q => ?_
  unfold wE at q
  refine tD_one (fun u S k k' hk z => ?_) q
  obtain ⟨r, h1, h2⟩ := z
  exact ⟨r, h1, hk _ _ h2⟩
theorem idx_v (hu : X.A.units + 64 < cLine) {a b : Expr} {pos : Pos} {ma mb : ME} (hn : notSl b = true) (ha : PE X a (tD (cc X ga Z) H0 S0 (wE G x ma))) (hb : PE X b (tD (cc X ga Z) H0 S0 (wE G x mb))) : PE X (.Subscript a b pos) (tD (cc X ga Z) H0 S0 (wE G x (.idx ma mb))) := by
  refine PE.imp (pe_ix (idxOk (ga := ga) (Z := Z) hu) ha hb (notSl_plain hn)) fun σ H Q q => ?_
  unfold wE at q
  refine tD_two (fun u v S k k' hk z => ?_) q
  obtain ⟨r, h1, h2⟩ := z
  exact ⟨r, h1, hk _ _ h2⟩
theorem slL_v {a b : Expr} {pos p2 : Pos} {m : Bool} {ma mb : ME} (ha : PE X a (tD (cc X ga Z) H0 S0 (wE G x ma))) (hb : PE X b (tD (cc X ga Z) H0 S0 (wE G x mb))) : PE X (.Subscript a (.Slice (some b) none none p2) pos) (tD (cc X ga Z) H0 S0 (wE G x (.slL m ma mb))) := by
  refine PE.imp (pe_slice (slcOk (ga := ga) (Z := Z) m) ha (po_some hb) po_none) fun σ H Q q => ?_
  obtain ⟨σd, S, rs, rp, ex, w⟩ := q
  unfold wE at w
  refine ⟨σd, S, rs, rp, ex, wE_mono (fun u S1 q H1 v rp1 e1 r1 => ⟨σd, S1, rs.ext e1, rp1, ex.trans e1, wE_mono (fun w S2 q H2 z rp2 e2 r2 => ?_) mb σd S1 q⟩) ma σd S w⟩
  obtain ⟨i, rfl, r, h1, h2⟩ := q
  refine ⟨i, rel_int r2, u, S2, rp2, r1.ext e2, r, h1, fin_mono (fun d S' => kD_ext (e1.trans e2)) h2⟩
theorem slU_v {a b : Expr} {pos p2 : Pos} {m : Bool} {ma mb : ME} (ha : PE X a (tD (cc X ga Z) H0 S0 (wE G x ma))) (hb : PE X b (tD (cc X ga Z) H0 S0 (wE G x mb))) : PE X (.Subscript a (.Slice none (some b) none p2) pos) (tD (cc X ga Z) H0 S0 (wE G x (.slU m ma mb))) := by
  refine PE.imp (pe_slice (slcOk (ga := ga) (Z := Z) m) ha po_none (po_some hb)) fun σ H Q q => ?_
  obtain ⟨σd, S, rs, rp, ex, w⟩ := q
  unfold wE at w
  refine ⟨σd, S, rs, rp, ex, wE_mono (fun u S1 q H1 v rp1 e1 r1 => ⟨σd, S1, rs.ext e1, rp1, ex.trans e1, wE_mono (fun w S2 q H2 z rp2 e2 r2 => ?_) mb σd S1 q⟩) ma σd S w⟩
  obtain ⟨i, rfl, r, h1, h2⟩ := q
  refine ⟨i, rel_int r2, u, S2, rp2, r1.ext e2, r, h1, fin_mono (fun d S' => kD_ext (e1.trans e2)) h2⟩
theorem slLU_v {a b c : Expr} {pos p2 : Pos} {m : Bool} {ma mb mc : ME} (ha : PE X a (tD (cc X ga Z) H0 S0 (wE G x ma))) (hb : PE X b (tD (cc X ga Z) H0 S0 (wE G x mb))) (hc : PE X c (tD (cc X ga Z) H0 S0 (wE G x mc))) :
    PE X (.Subscript a (.Slice (some b) (some c) none p2) pos) (tD (cc X ga Z) H0 S0 (wE G x (.slLU m ma mb mc))) := by
  refine PE.imp (pe_slice (slcOk (ga := ga) (Z := Z) m) ha (po_some hb) (po_some hc)) fun σ H Q q => ?_
  obtain ⟨σd, S, rs, rp, ex, w⟩ := q
  unfold wE at w
  refine ⟨σd, S, rs, rp, ex, wE_mono (fun u S1 q H1 v rp1 e1 r1 => ⟨σd, S1, rs.ext e1, rp1, ex.trans e1, wE_mono (fun w S2 q H2 z rp2 e2 r2 => ?_) mb σd S1 q⟩) ma σd S w⟩
  obtain ⟨i, rfl, q⟩ := q
  have e12 := e1.trans e2
  refine ⟨i, rel_int r2, σd, S2, rs.ext e12, rp2, ex.trans e12, wE_mono (fun y S3 q H3 z3 rp3 e3 r3 => ?_) mc σd S2 q⟩
  obtain ⟨j, rfl, r, h1, h2⟩ := q
  exact ⟨j, rel_int r3, u, S3, rp3, (r1.ext e2).ext e3, r, h1, fin_mono (fun d S' => kD_ext (e12.trans e3)) h2⟩
theorem tup_v {es : List Expr} {k : Nat} {pos : Pos} {ms : List ME} (h : PA X es (tDA (cc X ga Z) H0 S0 (wEs G x ms))) : PE X (.Tuple es k pos) (tD (cc X ga Z) H0 S0 (wE G x (.tup ms))) := by
  refine PE.imp (pe_tup h) fun σ H Q q => ?_
  obtain ⟨σd, S, rs, rp, ex, w⟩ := q
  unfold wE at w
  refine ⟨σd, S, rs, rp, ex, wEs_mono (fun ds S1 q H1 vs rp1 e1 r1 => ?_) ms σd S w⟩
  exact ⟨by rw [r1.len]; exact q.1, kD_tup rp1 (kD_ext e1 q.2) r1⟩
theorem lst_v {es : List Expr} {pos : Pos} {m : Bool} {ms : List ME} (h : PA X es (tDA (cc X ga Z) H0 S0 (wEs G x ms))) : PE X (.List es pos) (tD (cc X ga Z) H0 S0 (wE G x (.lst m ms))) := by
  refine PE.imp (pe_lst h) fun σ H Q q => ?_
  obtain ⟨σd, S, rs, rp, ex, w⟩ := q
  unfold wE at w
  refine ⟨σd, S, rs, rp, ex, wEs_mono (fun ds S1 q H1 vs rp1 e1 r1 => ?_) ms σd S w⟩
  exact ⟨by rw [r1.len]; exact q.1, fin_new rp1 (fin_mono (fun d S' => kD_ext e1) q.2) r1⟩
/-! ### calls -/
theorem boot_bf (f : Bf) : bootBuiltins f.nm = some (bfV f) := by cases f <;> decide +kernel
theorem bf_name (f : Bf) : f.nm ≠ "__name__" ∧ (f.nm == ("__debug__" : Str)) = false := by cases f <;> exact ⟨by decide +kernel, by decide +kernel⟩
theorem blt_v {sc : Scope} (g : Gd X sc ga Z H0 S0 G x) {f : Bf} {m : Bool} {e : Expr} {es : List Expr} {p pos : Pos} {ms : List ME} (hg : gloB sc f.nm = true) (hm : matchEs X.N sc ms (e :: es) = true) (h : PA X (e :: es) (tDA (cc X ga Z) H0 S0 (wEs G x ms))) :
    PE X (.Call (.Name f.nm p) (e :: es) [] pos) (tD (cc X ga Z) H0 S0 (wE G x (.blt f m ms))) := by
  have hs : starEach (e :: es) X.env = (false, eval e X.env) :: starEach es X.env ∧ (backTo pos (starEach es X.env)).any (·.1) = false := by
    cases ms with
    | nil => unfold matchEs at hm; cases hm
    | cons m ms =>
      unfold matchEs at hm
      obtain ⟨h1, h2⟩ := and2 hm
      exact ⟨starEach_cons h1, (star_all (and2 h2).2).1⟩
  have imp : ∀ σ H Q, tD (cc X ga Z) H0 S0 (wE G x (.blt f m ms)) σ H Q → tCB (rDc (cc X ga Z) fun us S k => ∃ r, bltR f us S = some r ∧ fin m r S k) (tDA (cc X ga Z) H0 S0 (wEs G x ms)) σ H Q := fun σ H Q q => by
    obtain ⟨σd, S, rs, rp, ex, w⟩ := q
    unfold wE at w
    refine tD_args (fun u S k k' hk z => ?_) ⟨σd, S, rs, rp, ex, w⟩
    obtain ⟨r, h1, h2⟩ := z
    exact ⟨r, h1, fin_mono hk h2⟩
  have hc := bltOk (X := X) (ga := ga) (Z := Z) g.calm f m
  have hb := boot_bf f
  have hn := bf_name f
  have hgl := g.sck.glo hg
  have hmg := g.blt f
  cases f with
  | int => exact PE.imp (pe_callTy hc hgl hmg hb h hn.1 hn.2 hs.1 hs.2) imp
  | list => exact PE.imp (pe_callTy hc hgl hmg hb h hn.1 hn.2 hs.1 hs.2) imp
  | len => exact PE.imp (pe_callB hc hgl hmg hb h hn.1 hn.2 hs.1 hs.2) imp
  | abs => exact PE.imp (pe_callB hc hgl hmg hb h hn.1 hn.2 hs.1 hs.2) imp
  | max => exact PE.imp (pe_callB hc hgl hmg hb h hn.1 hn.2 hs.1 hs.2) imp
  | sum => exact PE.imp (pe_callB hc hgl hmg hb h hn.1 hn.2 hs.1 hs.2) imp
  | all => exact PE.imp (pe_callB hc hgl hmg hb h hn.1 hn.2 hs.1 hs.2) imp
  | isinstance => exact PE.imp (pe_callB hc hgl hmg hb h hn.1 hn.2 hs.1 hs.2) imp
  | min => exact PE.imp (pe_callB hc hgl hmg hb h hn.1 hn.2 hs.1 hs.2) imp
  | any => exact PE.imp (pe_callB hc hgl hmg hb h hn.1 hn.2 hs.1 hs.2) imp
  | sorted => exact PE.imp (pe_callB hc hgl hmg hb h hn.1 hn.2 hs.1 hs.2) imp
  | tuple => exact PE.imp (pe_callTy hc hgl hmg hb h hn.1 hn.2 hs.1 hs.2) imp
  | dict => exact PE.imp (pe_callTy hc hgl hmg hb h hn.1 hn.2 hs.1 hs.2) imp
  | str => exact PE.imp (pe_callTy hc hgl hmg hb h hn.1 hn.2 hs.1 hs.2) imp
/-! ### built-in methods -/
def Bm.ty : Bm → String
  | .append => "list" | .get => "dict" | .setdefault => "dict" | .join => "str" | .split => "str"
def Bm.id : Bm → String
  | .append => "list.append" | .get => "dict.get" | .setdefault => "dict.setdefault" | .join => "str.join" | .split => "str.split"
theorem bmT_ty {C : Cc} (hC : C.K = X.K) {H : Hp} {S : Sto} {f : Bm} {u : D} {v : V} (rp : Rp C H S) (r : RelD C H S u v) (h : bmT f u S = true) : tyV X.K f.ty v H := by
  cases f with
  | append =>
    obtain ⟨l, hl⟩ := Option.isSome_iff_exists.mp (show (listOf S u).isSome = true from h)
    obtain ⟨a, vs, rfl, h1, _⟩ := listOf_sq rp r hl
    exact .inl ⟨rfl, vs, .of h1⟩
  | get =>
    cases u with
    | ref a =>
      unfold RelD at r
      subst r
      have h : (match S a with
        | some (.dct _) => true
        | _ => false) = true := h
      split at h
      · rename_i kvs e
        obtain ⟨l, h1, _⟩ := dct_of rp (show dctAt S a = some kvs by unfold dctAt; rw [e])
        exact .inr (.inr (.inl ⟨rfl, .inl ⟨l, h1⟩⟩))
      · cases h
    | _ => cases h
  | setdefault =>
    cases u with
    | ref a =>
      unfold RelD at r
      subst r
      obtain ⟨kvs, hk⟩ := Option.isSome_iff_exists.mp (show (dctAt S a).isSome = true from h)
      obtain ⟨l, h1, _⟩ := dct_of rp hk
      exact .inr (.inr (.inl ⟨rfl, .inl ⟨l, h1⟩⟩))
    | _ => cases h
  | join =>
    cases u with
    | str z => rw [rel_str r]; rfl
    | _ => cases h
  | split =>
    cases u with
    | str z => rw [rel_str r]; rfl
    | _ => cases h
theorem dctAt_some {S : Sto} {a : Addr} {kvs : List (Key × D)} (h : dctAt S a = some kvs) : S a = some (.dct kvs) := by
  unfold dctAt at h
  split at h
  · rename_i e; cases h; exact e
  · cases h
theorem mtOk (hu : X.A.units + 64 < cLine) (f : Bm) (m : Bool) : MtR X f.id (rDm (cc X ga Z) fun u us S k => ∃ r, bmR f u us S = some r ∧ fin m r S k) := by
  intro pins s σ H x xs v us Q I rx rxs h
  obtain ⟨u, ds, S, rp, r1, r2, r, hb, hf⟩ := h
  unfold bmR at hb
  split at hb
  · rename_i a d
    split at hb
    · rename_i l' hl'
      obtain ⟨c, rfl⟩ := g?_some hb
      unfold RelD at r1
      subst r1
      obtain ⟨w, rfl, r3⟩ := rel1 r2
      have hS := lstAt_some hl'
      obtain ⟨o, h2, h3⟩ := rp.obj a _ hS
      obtain ⟨ys, rfl, z⟩ := h3
      refine mt_append pins s σ H _ _ v us Q I rx rxs ⟨a, ys, w, rfl, rfl, h2, by rw [z.len]; exact c, ?_⟩
      have eS := Ext.set (H := H) (S := S) (p := a) (o := .lst (ys ++ [w])) (m := .lst (l' ++ [d])) hS
      exact hf _ _ (rp.set hS ⟨_, rfl, (z.app (RelDs.cons r3 RelDs.nil)).ext eS⟩) eS mk_non
    · cases hb
  · rename_i a i d
    obtain ⟨o, h1, rfl⟩ := Option.map_eq_some_iff.mp hb
    obtain ⟨w, z, rfl, r3, r4⟩ := rel2 r2
    obtain ⟨a', ov, ea, g, e1, e2⟩ := dGet_ok rp r1 r3 h1
    subst ea
    cases (show v = Value.ref a' from rx)
    cases rxs with
    | cons q1 q2 =>
      cases q2 with
      | cons q2 q3 =>
        cases q3
        refine d_get2 (by omega) I g q1 q2 fun w' s' I' rw' => ⟨_, H, I', rw', ?_⟩
        cases o with
        | none =>
          have e3 : ov = none := by
            cases ov with
            | none => rfl
            | some z => cases e1
          rw [e3]
          exact kD_val rp hf r4
        | some d' =>
          obtain ⟨z', rfl, rz⟩ := e2 _ rfl
          exact kD_val rp hf rz
  · rename_i a i d
    obtain ⟨w, z, rfl, r3, r4⟩ := rel2 r2
    split at hb
    · rename_i kvs k hk hi
      obtain ⟨l, h2, rk⟩ := dct_of rp hk
      have hS := dctAt_some hk
      unfold RelD at r1
      subst r1
      cases (show v = Value.ref a from rx)
      cases keyOf_rel r3 hi
      cases rxs with
      | cons q1 q2 =>
        cases q2 with
        | cons q2 q3 =>
          cases q3
          obtain ⟨c, rfl⟩ := g?_some hb
          refine d_setd I h2 q1 q2 (by rw [rk.len]; exact c) (fun v0 hv w' s' I' rw' => ⟨v0, H, I', rw', ?_⟩) (fun hn w' s' I' rw' => ⟨z, _, I', rw', ?_⟩)
          · cases hg : gv kvs k with
            | none => rw [rk.none hg] at hv; cases hv
            | some d' =>
              rw [hg] at hf
              obtain ⟨z', hz, rz⟩ := rk.some hg
              rw [hv] at hz
              cases hz
              exact kD_val rp hf rz
          · cases hg : gv kvs k with
            | some d' =>
              obtain ⟨z', hz, rz⟩ := rk.some hg
              rw [hn] at hz
              cases hz
            | none =>
              rw [hg] at hf
              have eS := Ext.set (H := H) (S := S) (p := a) (o := .dK (putK l k z)) (m := .dct (gp kvs k d)) hS
              exact hf _ _ (rp.set hS ⟨_, rfl, (rk.put k r4).ext eS⟩) eS (r4.ext eS)
    · cases hb
  · rename_i z x'
    obtain ⟨w, rfl, r3⟩ := rel1 r2
    split at hb
    · rename_i ds hs
      split at hb
      · rename_i ys hy
        obtain ⟨⟨c1, c2⟩, rfl⟩ := g?_some hb
        obtain ⟨a, vs, rfl, h1, q⟩ := seqOf_sq rp r3 hs
        obtain ⟨rfl, _⟩ := strs_rel q hy
        cases rel_str r1
        exact mt_join pins s σ H _ _ v us Q I rx rxs ⟨z, a, ys, rfl, rfl, h1, c1, kD_val rp hf (mk_str c2)⟩
      · cases hb
    · cases hb
  · rename_i z b
    obtain ⟨⟨c1, c2, c3⟩, rfl⟩ := g?_some hb
    obtain ⟨w, rfl, r3⟩ := rel1 r2
    cases rel_str r1; cases rel_str r3
    exact mt_split pins s σ H _ _ v us Q I rx rxs ⟨z, b, rfl, rfl, c1, c2, fin_new rp hf (rel_strs c3)⟩
  · cases hb
theorem bm_v (hu : X.A.units + 64 < cLine) {sc : Scope} {f : Bm} {m : Bool} {o e : Expr} {es : List Expr} {ap pos : Pos} {mo : ME} {ms : List ME} (hl : (ap.endLine == pos.line) = true) (hsu : notSuper o = true) (hfew : es.length < 20) (hm : matchEs X.N sc ms (e :: es) = true)
    (ho : PE X o (tD (cc X ga Z) H0 S0 (wE G x mo))) (h : PA X (e :: es) (tDA (cc X ga Z) H0 S0 (wEs G x ms))) :
    PE X (.Call (.Attribute o f.nm ap) (e :: es) [] pos) (tD (cc X ga Z) H0 S0 (wE G x (.bm f m mo ms))) := by
  have hs : starEach (e :: es) X.env = (false, eval e X.env) :: starEach es X.env ∧ (backTo pos (starEach es X.env)).any (·.1) = false := by
    cases ms with
    | nil => unfold matchEs at hm; cases hm
    | cons m ms =>
      unfold matchEs at hm
      obtain ⟨h1, h2⟩ := and2 hm
      exact ⟨starEach_cons h1, (star_all (and2 h2).2).1⟩
  have hf : ((backTo pos (starEach (e :: es) X.env)).all (fun x => !x.1) && (backToKw pos (keywordEach [] X.env)).all (fun x => x.1.isSome)
      && decide ((e :: es).length + ([] : List Keyword).length + (if ([] : List Keyword).isEmpty then 0 else 1) < 30)) = true := by
    rw [(star_all (env := X.env) (pos := pos) hm).2]
    show (true && true && decide (es.length + 1 + 0 + 0 < 30)) = true
    simp only [Bool.true_and, decide_eq_true_eq]
    omega
  have imp : ∀ σ H Q, tD (cc X ga Z) H0 S0 (wE G x (.bm f m mo ms)) σ H Q → tBM X.K f.ty (rDm (cc X ga Z) fun u us S k => ∃ r, bmR f u us S = some r ∧ fin m r S k) (tD (cc X ga Z) H0 S0 (wE G x mo)) (tDA (cc X ga Z) H0 S0 (wEs G x ms)) σ H Q := fun σ H Q q => by
    obtain ⟨σd, S, rs, rp, ex, w⟩ := q
    unfold wE at w
    refine ⟨σd, S, rs, rp, ex, wE_mono (fun u S1 q H1 v rp1 e1 r1 => ?_) mo σd S w⟩
    obtain ⟨t1, q⟩ := q
    refine ⟨bmT_ty rfl rp1 r1 t1, σd, S1, rs.ext e1, rp1, ex.trans e1, wEs_mono (fun ds S2 q H2 ws rp2 e2 r2 => ?_) ms σd S1 q⟩
    obtain ⟨r, hb, hf⟩ := q
    exact ⟨u, ds, S2, rp2, r1.ext e2, r2, r, hb, fin_mono (fun d S' => kD_ext (e1.trans e2)) hf⟩
  cases f with
  | append => exact PE.imp (pe_bm PySem.F.plainAttrs_list PySem.F.slot_list_append PySem.F.type_list_append (mtOk hu .append m) ho h (notSuper_base hsu) hf hl hs.1 hs.2) imp
  | get => exact PE.imp (pe_bm PySem.F.plainAttrs_dict PySem.F.slot_dict_get PySem.F.type_dict_get (mtOk hu .get m) ho h (notSuper_base hsu) hf hl hs.1 hs.2) imp
  | setdefault => exact PE.imp (pe_bm PySem.F.plainAttrs_dict PySem.F.slot_dict_setdefault PySem.F.type_dict_setdefault (mtOk hu .setdefault m) ho h (notSuper_base hsu) hf hl hs.1 hs.2) imp
  | join => exact PE.imp (pe_bm PySem.F.plainAttrs_str PySem.F.slot_str_join PySem.F.type_str_join (mtOk hu .join m) ho h (notSuper_base hsu) hf hl hs.1 hs.2) imp
  | split => exact PE.imp (pe_bm PySem.F.plainAttrs_str PySem.F.slot_str_split PySem.F.type_str_split (mtOk hu .split m) ho h (notSuper_base hsu) hf hl hs.1 hs.2) imp
/-- f(e, ..) of an own def -/
theorem call_v {sc : Scope} (g : Gd X sc ga Z H0 S0 G x) {f : Str} {e : Expr} {es : List Expr} {p pos : Pos} {ms : List ME} (hg : gloB sc f = true) (hd : dbgB f = true) (hm : matchEs X.N sc ms (e :: es) = true) (h : PA X (e :: es) (tDA (cc X ga Z) H0 S0 (wEs G x ms))) :
    PE X (.Call (.Name f p) (e :: es) [] pos) (tD (cc X ga Z) H0 S0 (wE G x (.call f ms))) := by
  have hs : starEach (e :: es) X.env = (false, eval e X.env) :: starEach es X.env ∧ (backTo pos (starEach es X.env)).any (·.1) = false := by
    cases ms with
    | nil => unfold matchEs at hm; cases hm
    | cons m ms =>
      unfold matchEs at hm
      obtain ⟨h1, h2⟩ := and2 hm
      exact ⟨starEach_cons h1, (star_all (and2 h2).2).1⟩
  have hdb : (f == ("__debug__" : Str)) = false := by
    have := (and2 (and2 hd).1).1
    simpa using this
  by_cases hf : ∃ sp, G.fn f = some (ms.length, sp)
  · obtain ⟨sp, hf⟩ := hf
    obtain ⟨fa, fd, k, ps, hps, hmg, F, hr, hk, hb⟩ := (g.fns f _ sp hf).ex
    refine PE.imp (pe_callSD (dvs := []) (ds := []) (E := fun σ cls d H' => liftX (cc X ga Z) H0 S0 x cls d σ H') F hr (g.sck.glo hg) hmg hk hb .nil (fun σ => passAt g.tk σ) h hdb hs.1 hs.2) fun σ H Q q => ?_
    obtain ⟨σd, S, rs, rp, ex, w⟩ := q
    unfold wE at w
    obtain ⟨sp', h1, w⟩ := w
    rw [hf] at h1
    cases h1
    refine ⟨σd, S, rs, rp, ex, wEs_mono (fun ds S1 q H1 vs rp1 e1 r1 => ?_) ms σd S (wEs_len ms σd S _ w)⟩
    refine ⟨by rw [List.append_nil, r1.len, q.1], ds, S1, Z, by rw [List.append_nil]; exact r1, rp1, callW_mono (fun d S' => kD_ext e1) (fun e S' hx H' cls d rp' e' rx => ?_) q.2⟩
    exact ⟨e, σd, S', rs.ext (e1.trans e'), rp', ex.trans (e1.trans e'), rx, hx⟩
  · refine ⟨fun pins s σ H Q I q => ?_⟩
    exfalso
    obtain ⟨σd, S, rs, rp, ex, w⟩ := q
    unfold wE at w
    obtain ⟨sp', h1, w⟩ := w
    exact hf ⟨sp', h1⟩
end
end Mn

namespace Mn
open PySem L2
/-! ### attributes, methods, making -/
theorem meth_eval {o : Expr} {m : Str} {apos pos : Pos} {as : List Expr} {env : PySem.Env} (hs : notSuper o = true) (hf : methodCallForm (as.length + ([] : List Keyword).length) (backTo pos (starEach as env)) (backToKw pos (keywordEach [] env)) = true) (hl : (apos.endLine == pos.line) = true) :
    eval (.Call (.Attribute o m apos) as [] pos) env = (do
      let ov ← eval o env
      standAt apos.atName
      let (f, first) ← holding [ov] (getMethod ov m (do return (← importBound o env).getD true))
      callWith pos f first (backTo pos (starEach as env)) (backToKw pos (keywordEach [] env))) := by
  show (do
    let ov ← attributeBase o m env (eval o env)
    standAt apos.atName
    methodCall o m apos pos env ov (as.length + ([] : List Keyword).length) (backTo pos (starEach as env)) (backToKw pos (keywordEach [] env))) = _
  rw [notSuper_base hs]
  unfold methodCall calleeOf methodCallPos
  rw [hf]
  simp [hl]
section
variable {X : Cx} {CX : CXT} {k : Nat} {f C : Addr} {fd : FuncData} {ps : List Str} {sp : Sp} {E : St → XK} {m : Str} {pos apos : Pos} {e o : Expr} {es : List Expr} {ta : TE} {t : TA}
def tMethS (C : Addr) (m : Str) (sp : Sp) (E : St → XK) (ta : TE) (t : TA) : TE := fun σ H Q => ta σ H fun x H1 => ∃ a dx fs, x = .ref a ∧ H1 a = some (.ins C dx fs) ∧ fs.lookup m = none ∧
  t σ H1 fun vs H2 => sp (x :: (vs ++ [])) H2 Q (E σ)
theorem pe_methSD {pl : Sem Bool} (he : PE X o ta) (c : Cls X.K C) (hm : Meth X.K C m f) (F : FnOk X.prog X.w X.K X.mg X.base CX k f fd ps sp) (hr : Room k X.A) (hb : Binds X.K fd ps []) (hx : ∀ σ, PassesAt CX X σ (E σ)) (ha : PA X (e :: es) t)
    (hst : starEach (e :: es) X.env = (false, eval e X.env) :: starEach es X.env) (hpl : (backTo pos (starEach es X.env)).any (·.1) = false)
    (ht : eval (.Call (.Attribute o m apos) (e :: es) [] pos) X.env = (do
      let ov ← eval o X.env
      standAt apos.atName
      let (f, first) ← holding [ov] (getMethod ov m pl)
      callWith pos f first (backTo pos (starEach (e :: es) X.env)) (backToKw pos (keywordEach [] X.env)))) :
    PE X (.Call (.Attribute o m apos) (e :: es) [] pos) (tMethS C m sp E ta t) := by
  refine ⟨fun pins s σ H Q I h => ?_⟩
  refine PySem.W.methodCall_KW (pl := pl) (thn (he.run pins s σ H _ I h) fun u s1 ⟨x, H1, I1, rx, a, dx, fs, ex, ea, l, q⟩ => ?_) ht
  subst ex
  obtain rfl : u = Value.ref a := rx
  refine getmeth_ok I1 ea c hm l ?_
  refine PySem.W.callWith_K (first := [.ref a]) (h₀ := X.base) I.ok.mod.kin hm.kp (thn (ha.run pos pins s1 σ H1 _ I1 q) fun us s2 ⟨vs, H2, I2, r, q2⟩ => ⟨I2.kIn, ?_⟩) hst hpl
  exact run_fnSD (us := .ref a :: us) (vs := .ref a :: vs) (dvs := []) (ds := []) F hr hb .nil (hx σ) I2 (.cons rfl r) q2
theorem pe_methSD0 {pl : Sem Bool} (he : PE X o ta) (c : Cls X.K C) (hm : Meth X.K C m f) (F : FnOk X.prog X.w X.K X.mg X.base CX k f fd ps sp) (hr : Room k X.A) (hb : Binds X.K fd ps []) (hx : ∀ σ, PassesAt CX X σ (E σ))
    (ht : eval (.Call (.Attribute o m apos) [] [] pos) X.env = (do
      let ov ← eval o X.env
      standAt apos.atName
      let (f, first) ← holding [ov] (getMethod ov m pl)
      callWith pos f first (backTo pos (starEach [] X.env)) (backToKw pos (keywordEach [] X.env)))) :
    PE X (.Call (.Attribute o m apos) [] [] pos) (tMethS C m sp E ta tNil) := by
  refine ⟨fun pins s σ H Q I h => ?_⟩
  refine PySem.W.methodCall_KW (pl := pl) (thn (he.run pins s σ H _ I h) fun u s1 ⟨x, H1, I1, rx, a, dx, fs, ex, ea, l, q⟩ => ?_) ht
  subst ex
  obtain rfl : u = Value.ref a := rx
  refine getmeth_ok I1 ea c hm l ?_
  exact PySem.W.callWith_K0 (first := [.ref a]) I1.kIn hm.kp (run_fnSD (us := [.ref a]) (vs := [.ref a]) (dvs := []) (ds := []) F hr hb .nil (hx σ) I1 (.cons rfl .nil) q)
theorem passes_no {P : Program} {w : World} {X : Cx} : Passes (L2.CX P w) X (fun _ _ _ => False) := fun _ _ _ _ _ _ _ c => by
  obtain ⟨_, _, _, _, _, _, _, _, _, _, _, _, z⟩ := c
  exact z.elim
end
section
variable {X : Cx} {ga : Str → Addr} {Z : Addr → Prop} {H0 : Hp} {S0 : Sto} {G : Gc} {x : XW}
theorem att_v {sc : Scope} (g : Gd X sc ga Z H0 S0 G x) {o : Expr} {f : Str} {pos : Pos} {mo : ME} (hsu : notSuper o = true) (ho : PE X o (tD (cc X ga Z) H0 S0 (wE G x mo))) : PE X (.Attribute o f pos) (tD (cc X ga Z) H0 S0 (wE G x (.att mo f))) := by
  refine PE.imp (pe_fld ho (notSuper_base hsu)) fun σ H Q q => ?_
  obtain ⟨σd, S, rs, rp, ex, w⟩ := q
  unfold wE at w
  refine ⟨σd, S, rs, rp, ex, wE_mono (fun u S1 q H1 v rp1 e1 r1 => ?_) mo σd S w⟩
  obtain ⟨a, c, fs, d, rfl, hS, hf, hl, hk⟩ := q
  unfold RelD at r1
  subst r1
  obtain ⟨ob, h2, h3⟩ := rp1.obj a _ hS
  obtain ⟨dx, l, rfl, rf⟩ := h3
  obtain ⟨w, h3, h4⟩ := rf.some hl
  exact ⟨a, ga c, dx, l, w, rfl, h2, (g.flds c f hf).1, (g.flds c f hf).2, h3, hk H1 w rp1 e1 h4⟩
theorem mth_v {sc : Scope} (g : Gd X sc ga Z H0 S0 G x) {c m : Str} {o : Expr} {es : List Expr} {ap pos : Pos} {mo : ME} {ms : List ME} (hl : (ap.endLine == pos.line) = true) (hsu : notSuper o = true) (hfew : es.length < 20) (hm : matchEs X.N sc ms es = true)
    (ho : PE X o (tD (cc X ga Z) H0 S0 (wE G x mo))) (h : PA X es (tDA (cc X ga Z) H0 S0 (wEs G x ms))) : PE X (.Call (.Attribute o m ap) es [] pos) (tD (cc X ga Z) H0 S0 (wE G x (.mth c mo m ms))) := by
  have hf : methodCallForm (es.length + ([] : List Keyword).length) (backTo pos (starEach es X.env)) (backToKw pos (keywordEach [] X.env)) = true := by
    unfold methodCallForm
    rw [(star_all (env := X.env) (pos := pos) hm).2]
    show (true && true && decide (es.length + 0 + 0 < 30)) = true
    simp only [Bool.true_and, decide_eq_true_eq]
    omega
  have ht := meth_eval (m := m) hsu hf hl
  by_cases hmt : ∃ sp, G.mt c m = some (ms.length + 1, sp)
  · obtain ⟨sp, hmt⟩ := hmt
    obtain ⟨fa, fd, k, ps, hps, hC, hM, F, hr, hb⟩ := (g.mts c m _ sp hmt).ex
    have hp : ∀ σ, PassesAt (L2.CX X.prog X.w) X σ (WE (liftX (cc X ga Z) H0 S0 x) σ) := fun σ => passAt g.tk σ
    have imp : ∀ σ H Q, tD (cc X ga Z) H0 S0 (wE G x (.mth c mo m ms)) σ H Q → tMethS (ga c) m (lift X.K ga (ms.length + 1) sp) (WE (liftX (cc X ga Z) H0 S0 x)) (tD (cc X ga Z) H0 S0 (wE G x mo)) (tDA (cc X ga Z) H0 S0 (wEs G x ms)) σ H Q := fun σ H Q q => by
      obtain ⟨σd, S, rs, rp, ex, w⟩ := q
      unfold wE at w
      obtain ⟨sp', h1, w⟩ := w
      rw [hmt] at h1
      cases h1
      refine ⟨σd, S, rs, rp, ex, wE_mono (fun u S1 q H1 v rp1 e1 r1 => ?_) mo σd S w⟩
      obtain ⟨a, fs, rfl, hS, hlk, q⟩ := q
      have r0 := r1
      unfold RelD at r1
      subst r1
      obtain ⟨ob, h2, h3⟩ := rp1.obj a _ hS
      obtain ⟨dx, l, rfl, rf⟩ := h3
      refine ⟨a, dx, l, rfl, h2, rf.none hlk, σd, S1, rs.ext e1, rp1, ex.trans e1, wEs_mono (fun ds S2 q H2 vs rp2 e2 r2 => ?_) ms σd S1 (wEs_len ms σd S1 _ q)⟩
      refine ⟨by rw [List.append_nil, List.length_cons, r2.len, q.1], .ref a :: ds, S2, Z, ?_, rp2, callW_mono (fun d S' => kD_ext (e1.trans e2)) (fun e S' hx H' cls d rp' e' rx => ?_) q.2⟩
      · rw [List.append_nil]
        exact RelDs.cons (r0.ext e2) r2
      · exact ⟨e, σd, S', rs.ext ((e1.trans e2).trans e'), rp', ex.trans ((e1.trans e2).trans e'), rx, hx⟩
    cases es with
    | nil =>
      have e0 : ms = [] := List.length_eq_zero_iff.mp (matchEs_len hm)
      refine PE.imp (pe_methSD0 ho hC hM F hr hb hp ht) fun σ H Q q => ?_
      obtain ⟨σd, S, rs, rp, ex, w⟩ := imp σ H Q q
      refine ⟨σd, S, rs, rp, ex, wE_mono (fun u S1 q H1 v rp1 e1 r1 => ?_) mo σd S w⟩
      obtain ⟨a, dx, fs, h1, h2, h3, σd', S2, rs2, rp2, ex2, w2⟩ := q H1 v rp1 e1 r1
      refine ⟨a, dx, fs, h1, h2, h3, ?_⟩
      subst e0
      unfold wEs at w2
      exact w2 H1 [] rp2 (Ext.refl _ _) RelDs.nil
    | cons e es =>
      have hs : starEach (e :: es) X.env = (false, eval e X.env) :: starEach es X.env ∧ (backTo pos (starEach es X.env)).any (·.1) = false := by
        cases ms with
        | nil => unfold matchEs at hm; cases hm
        | cons m ms =>
          unfold matchEs at hm
          obtain ⟨h1, h2⟩ := and2 hm
          exact ⟨starEach_cons h1, (star_all (and2 h2).2).1⟩
      exact PE.imp (pe_methSD ho hC hM F hr hb hp h hs.1 hs.2 ht) imp
  · refine ⟨fun pins s σ H Q I q => ?_⟩
    exfalso
    obtain ⟨σd, S, rs, rp, ex, w⟩ := q
    unfold wE at w
    obtain ⟨sp', h1, w⟩ := w
    exact hmt ⟨sp', h1⟩
theorem mk_v {sc : Scope} (g : Gd X sc ga Z H0 S0 G x) {c : Str} {es : List Expr} {p pos : Pos} {ms : List ME} (hg : gloB sc c = true) (hd : dbgB c = true) (hm : matchEs X.N sc ms es = true) (h : PA X es (tDA (cc X ga Z) H0 S0 (wEs G x ms))) :
    PE X (.Call (.Name c p) es [] pos) (tD (cc X ga Z) H0 S0 (wE G x (.mk c ms))) := by
  have hdb : (c == ("__debug__" : Str)) = false := by
    have := (and2 (and2 hd).1).1
    simpa using this
  by_cases hmk : ∃ sp, G.mkr c = some (ms.length + 1, sp)
  · obtain ⟨sp, hmk⟩ := hmk
    obtain ⟨fa, fd, k, ps, hps, hmg, hM, F, hr, hb⟩ := (g.mks c _ sp hmk).ex
    have imp : ∀ σ H Q, tD (cc X ga Z) H0 S0 (wE G x (.mk c ms)) σ H Q → tMake (ga c) (lift X.K ga (ms.length + 1) sp) [] (fun _ _ _ => False) (tDA (cc X ga Z) H0 S0 (wEs G x ms)) σ H Q := fun σ H Q q => by
      obtain ⟨σd, S, rs, rp, ex, w⟩ := q
      unfold wE at w
      obtain ⟨sp', h1, w⟩ := w
      rw [hmk] at h1
      cases h1
      refine ⟨σd, S, rs, rp, ex, wEs_mono (fun ds S1 q H1 vs rp1 e1 r1 p dx hp hdx hne => ?_) ms σd S (wEs_len ms σd S _ w)⟩
      obtain ⟨hlen, q⟩ := q
      have hp' : upd H1 dx (.own p) p = none := by rw [upd_ne (Ne.symm hne)]; exact hp
      have e2 : Ext H1 S1 (upd (upd H1 dx (.own p)) p (.ins (ga c) dx [])) (put S1 p (.ins c [])) := (Ext.new hdx).trans (Ext.newM hp')
      refine ⟨by rw [List.append_nil, List.length_cons, r1.len, hlen], .ref p :: ds, put S1 p (.ins c []), Z, ?_, (rp1.new hdx).newM hp' ⟨dx, [], rfl, rfl⟩, callW_mono (fun d S' hk H' v rp' e' r' => ?_) (fun e S' hx => hx.elim) (q p (rp1.free hp))⟩
      · rw [List.append_nil]
        exact RelDs.cons (by unfold RelD; rfl) (r1.ext e2)
      · obtain ⟨rfl, hk⟩ := hk
        refine ⟨by unfold RelD at r'; exact r', hk H' (.ref p) rp' ((e1.trans e2).trans e') (by unfold RelD; rfl)⟩
    cases es with
    | nil =>
      have e0 : ms = [] := List.length_eq_zero_iff.mp (matchEs_len hm)
      refine PE.imp (pe_make0 hM F hr (g.sck.glo hg) hmg hb .nil passes_no hdb) fun σ H Q q => ?_
      obtain ⟨σd, S, rs, rp, ex, w⟩ := imp σ H Q q
      subst e0
      unfold wEs at w
      exact w H [] rp (Ext.refl _ _) RelDs.nil
    | cons e es =>
      have hs : starEach (e :: es) X.env = (false, eval e X.env) :: starEach es X.env ∧ (backTo pos (starEach es X.env)).any (·.1) = false := by
        cases ms with
        | nil => unfold matchEs at hm; cases hm
        | cons m ms =>
          unfold matchEs at hm
          obtain ⟨h1, h2⟩ := and2 hm
          exact ⟨starEach_cons h1, (star_all (and2 h2).2).1⟩
      exact PE.imp (pe_make hM F hr (g.sck.glo hg) hmg hb .nil passes_no h hdb hs.1 hs.2) imp
  · refine ⟨fun pins s σ H Q I q => ?_⟩
    exfalso
    obtain ⟨σd, S, rs, rp, ex, w⟩ := q
    unfold wE at w
    obtain ⟨sp', h1, w⟩ := w
    exact hmk ⟨sp', h1⟩
/-! ### dicts as they are written -/
theorem cst_pe {d : D} {c : Const} {k : Nat} {pos : Pos} (h : cstB d c = true) : ∃ v, PE X (.Constant c k pos) (tC v) ∧ ∀ C H S, RelD C H S d v := by
  cases d with
  | non => cases c with
    | none => exact ⟨_, pe_non, fun _ _ _ => mk_non⟩
    | _ => cases h
  | bl b => cases c with
    | bool b' =>
      have e : b = b' := by simpa [cstB] using h
      subst e
      exact ⟨_, pe_bl, fun _ _ _ => mk_bl⟩
    | _ => cases h
  | int i => cases c with
    | int j =>
      have e : i = j := of_decide_eq_true h
      subst e
      exact ⟨_, pe_int, fun _ _ _ => mk_int⟩
    | _ => cases h
  | str z => cases c with
    | str y =>
      obtain ⟨h1, h2⟩ := and2 h
      have e : z = y := of_decide_eq_true h1
      subst e
      exact ⟨_, pe_str, fun _ _ _ => mk_str h2⟩
    | _ => cases h
  | _ => cases h
theorem dct_pps {pos : Pos} : ∀ {kvs : List (Str × D)} {ks : List (Option Expr)} {vs : List Expr}, dctB kvs ks vs = true → ks.all (·.isSome) = true ∧ ks.length = vs.length ∧ ks.length = kvs.length ∧
    ∃ (trs : List (TE × TE)) (l : List (Key × V)), PPs X pos ks vs trs ∧ (∀ C H S, RelK C H S (kvs.map fun kv => ((.inr kv.1 : Key), kv.2)) l) ∧ ∀ σ H Q, Q (l.map fun kv => (kV kv.1, kv.2)) H → tPairs trs σ H Q
  | [], [], [], _ => ⟨rfl, rfl, rfl, [], [], pps_nil, fun _ _ _ => rfl, fun _ _ _ q => q⟩
  | [], [], _ :: _, h => by unfold dctB at h; cases h
  | [], _ :: _, _, h => by unfold dctB at h; cases h
  | (k, d) :: r, [], _, h => by unfold dctB at h; cases h
  | (k, d) :: r, none :: _, _, h => by unfold dctB at h; cases h
  | (k, d) :: r, some e :: ks, [], h => by cases e <;> first | (unfold dctB at h; cases h) | (rename_i c _ _; cases c <;> (unfold dctB at h; cases h))
  | (k, d) :: r, some e :: ks, v :: vs, h => by
    cases e with
    | Constant c kk p =>
      cases c with
      | str y =>
        cases v with
        | Constant c2 k2 p2 =>
          unfold dctB at h
          obtain ⟨h1, h⟩ := and2 h
          obtain ⟨h2, h⟩ := and2 h
          obtain ⟨h3, h4⟩ := and2 h
          have e : k = y := of_decide_eq_true h1
          subst e
          obtain ⟨a1, a2, a3, trs, l, b1, b2, b3⟩ := dct_pps h4
          obtain ⟨w, c1, c2⟩ := cst_pe (X := X) h3
          refine ⟨by simpa using a1, by simp [a2], by simp [a3], _, ((.inr k : Key), w) :: l, pps_cons pe_str c1 b1, fun C H S => ⟨w, l, rfl, c2 C H S, b2 C H S⟩, fun σ H Q q => ?_⟩
          exact b3 σ H _ q
        | _ => unfold dctB at h; cases h
      | _ => unfold dctB at h; cases h
    | _ => unfold dctB at h; cases h
theorem RelK.merge {C : Cc} {H : Hp} {S : Sto} : ∀ {kvs : List (Str × D)} {l : List (Key × V)} {acc : List (Key × D)} {l' : List (Key × V)}, RelK C H S (kvs.map fun kv => ((.inr kv.1 : Key), kv.2)) l → RelK C H S acc l' →
    RelK C H S (kvs.foldl (fun acc kv => gp acc (.inr kv.1) kv.2) acc) (mergeK l' l)
  | [], l, acc, l', h, q => by rw [show l = [] from h]; exact q
  | (k, d) :: r, l, acc, l', h, q => by
    obtain ⟨v, l1, rfl, h1, h2⟩ := h
    show RelK C H S (r.foldl (fun acc kv => gp acc (.inr kv.1) kv.2) (gp acc (.inr k) d)) (mergeK (putK l' (.inr k) v) l1)
    exact RelK.merge h2 (q.put _ h1)
theorem dct_v {kvs : List (Str × D)} {ks : List (Option Expr)} {vs : List Expr} {pos : Pos} (h : dctB kvs ks vs = true) (hl : kvs.length ≤ 15) : PE X (.Dict ks vs pos) (tD (cc X ga Z) H0 S0 (wE G x (.dct kvs))) := by
  obtain ⟨a1, a2, a3, trs, l, b1, b2, b3⟩ := dct_pps (X := X) (pos := pos) h
  cases ks with
  | nil =>
    have e1 : kvs = [] := List.length_eq_zero_iff.mp (by rw [← a3]; rfl)
    have e2 : vs = [] := List.length_eq_zero_iff.mp (by rw [← a2]; rfl)
    subst e1 e2
    refine PE.imp pe_dnewK fun σ H Q q p hp => ?_
    obtain ⟨σd, S, rs, rp, ex, w⟩ := q
    unfold wE at w
    exact w p (rp.free hp) _ (.ref p) (rp.newM hp ⟨[], rfl, rfl⟩) (Ext.newM hp) (by unfold RelD; rfl)
  | cons k ks =>
    refine PE.imp (pe_disp b1 a1 a2 (fun z => nomatch z) (by rw [a3]; exact hl)) fun σ H Q q p hp => ?_
    obtain ⟨σd, S, rs, rp, ex, w⟩ := q
    unfold wE at w
    have hln : l.length = kvs.length := by
      have := (b2 ⟨[], fun _ => 0, fun _ => False⟩ (fun _ => none) (fun _ => none)).len
      rw [this, List.length_map]
    refine b3 σ _ _ ⟨upd_same, l, rfl, by rw [hln]; exact hl, ?_⟩
    have e : upd (upd H p (.dK [])) p (.dK (mergeK [] l)) = upd H p (.dK (mergeK [] l)) := by
      funext b
      by_cases hb : b = p
      · subst hb; rw [upd_same, upd_same]
      · rw [upd_ne hb, upd_ne hb, upd_ne hb]
    rw [e]
    exact w p (rp.free hp) _ (.ref p) (rp.newM hp ⟨_, rfl, RelK.merge (b2 _ _ _) rfl⟩) (Ext.newM hp) (by unfold RelD; rfl)
end
end Mn

namespace Mn
open PySem L2
/-! ### targets -/
def gD (C : Cc) (t : MT) : TG := fun v σ H Q => ∃ (d : D) (σd σ' : Env) (S : Sto), RelS C H S σd σ ∧ Rp C H S ∧ RelD C H S d v ∧ asgT t d σd = some σ' ∧
  ∀ σv, RelS C H S σ' σv → (∀ vs, (∀ i ∈ slots t, i ∈ vs) → wipe σv vs = wipe σ vs) → Q σv H
def gDs (C : Cc) (ts : List MT) : TGs := fun v σ H Q => ∃ (ds : List D) (σd σ' : Env) (S : Sto), RelS C H S σd σ ∧ Rp C H S ∧ RelDs C H S ds v ∧ asgTs ts ds σd = some σ' ∧
  ∀ σv, RelS C H S σ' σv → (∀ vs, (∀ i ∈ slotss ts, i ∈ vs) → wipe σv vs = wipe σ vs) → Q σv H
theorem PG.imp {X : Cx} {e : Expr} {t t' : TG} (h : PG X e t) (i : ∀ v σ H Q, t' v σ H Q → t v σ H Q) : PG X e t' := ⟨fun pins s σ H v u Q I r q => h.run pins s σ H v u Q I r (i v σ H Q q)⟩
theorem PGs.imp {X : Cx} {e : List Expr} {t t' : TGs} (h : PGs X e t) (i : ∀ v σ H Q, t' v σ H Q → t v σ H Q) : PGs X e t' := ⟨fun pins s σ H v u Q I r q => h.run pins s σ H v u Q I r (i v σ H Q q)⟩
theorem wipe_set {σ : St} {i : Nat} {o : Option V} : ∀ {vs : List Nat}, i ∈ vs → wipe (σ.set i o) vs = wipe σ vs
  | [], h => by simp at h
  | v :: vs, h => by
    unfold wipe
    by_cases e : i ∈ vs
    · rw [wipe_set e]
    · have ei : i = v := by
        rcases List.mem_cons.mp h with q | q
        · exact q
        · exact absurd q e
      subst ei
      have aux : ∀ (vs : List Nat) (σ : St), i ∉ vs → wipe (σ.set i o) vs = (wipe σ vs).set i o := by
        intro vs
        induction vs with
        | nil => intro σ _; rfl
        | cons w ws ih =>
          intro σ hn
          unfold wipe
          have hw : w ≠ i := fun q => hn (by rw [q]; exact List.mem_cons_self)
          rw [ih σ fun q => hn (List.mem_cons_of_mem _ q), List.set_comm _ _ (Ne.symm hw)]
      rw [aux vs σ e, List.set_set]
theorem assign_each {N : List Str} {sc : Scope} {env : PySem.Env} : ∀ {ts : List MT} {es : List Expr}, matchTs N sc ts es = true → (assignEach es env).length = ts.length ∧ (assignEach es env).findIdx? (·.1) = none ∧
    ∀ e r, es = e :: r → (assignEach (e :: r) env).map (·.2) = assign e env :: (assignEach r env).map (·.2)
  | [], [], _ => ⟨rfl, rfl, fun e r h => nomatch h⟩
  | [], _ :: _, h => by unfold matchTs at h; cases h
  | _ :: _, [], h => by unfold matchTs at h; cases h
  | t :: ts, e :: es, h => by
    unfold matchTs at h
    obtain ⟨h1, h2⟩ := and2 h
    obtain ⟨a1, a2, a3⟩ := assign_each (env := env) h2
    have hc : assignEach (e :: es) env = (false, assign e env) :: assignEach es env := by
      cases e with
      | Starred a b => cases t <;> (unfold matchT at h1; cases h1)
      | _ => rfl
    refine ⟨by rw [hc, List.length_cons, List.length_cons, a1], by rw [hc]; simp [List.findIdx?_cons, a2], fun e' r hr => ?_⟩
    cases hr
    rw [hc]; rfl
mutual
theorem soundG {X : Cx} {sc : Scope} {ga : Str → Addr} {Z : Addr → Prop} {H0 : Hp} {S0 : Sto} {G : Gc} {x : XW} (g : Gd X sc ga Z H0 S0 G x) : ∀ (t : MT) {e : Expr}, matchT X.N sc t e = true → PG X e (gD (cc X ga Z) t)
  | .nm i, e, h => by
    cases e with
    | Name y p =>
      unfold matchT at h
      obtain ⟨h1, h2⟩ := and2 h
      refine PG.imp (pg_name (i := i) g.nd (of_decide_eq_true h1) (g.sck.loc h2) (g.fnl y h2)) fun v σ H Q q => ?_
      obtain ⟨d, σd, σ', S, rs, rp, rd, ha, k⟩ := q
      unfold asgT at ha
      cases ha
      exact k _ (rs.set i rd) fun vs hv => wipe_set (hv i (by unfold slots; exact List.mem_singleton.mpr rfl))
    | _ => unfold matchT at h; cases h
  | .tp ts, e, h => by
    cases e with
    | Tuple es kk p =>
      unfold matchT at h
      obtain ⟨a1, a2, _⟩ := assign_each (env := X.env) h
      refine PG.imp (pg_tup g.calm (soundGs g ts h) a1 a2) fun v σ H Q q => ?_
      obtain ⟨d, σd, σ', S, rs, rp, rd, ha, k⟩ := q
      cases d with
      | tup ds =>
        unfold asgT at ha
        unfold RelD at rd
        obtain ⟨a, vs, rfl, f, r⟩ := rd
        refine ⟨a, vs, rfl, f.sq, ?_, ds, σd, σ', S, rs, rp, r, ha, fun σv q1 q2 => k σv q1 fun vs hv => q2 vs fun i hi => hv i (by unfold slots; exact hi)⟩
        rw [r.len]
        exact asgTs_len ts ds σd ha
      | _ => unfold asgT at ha; cases ha
    | _ => unfold matchT at h; cases h
theorem asgTs_len : ∀ (ts : List MT) (ds : List D) (σ : Env) {σ' : Env}, asgTs ts ds σ = some σ' → ds.length = ts.length
  | [], [], _, _, _ => rfl
  | [], _ :: _, _, _, h => by unfold asgTs at h; cases h
  | _ :: _, [], _, _, h => by unfold asgTs at h; cases h
  | t :: ts, d :: ds, σ, σ', h => by
    unfold asgTs at h
    split at h
    · rw [List.length_cons, List.length_cons, asgTs_len ts ds _ h]
    · cases h
theorem soundGs {X : Cx} {sc : Scope} {ga : Str → Addr} {Z : Addr → Prop} {H0 : Hp} {S0 : Sto} {G : Gc} {x : XW} (g : Gd X sc ga Z H0 S0 G x) : ∀ (ts : List MT) {es : List Expr}, matchTs X.N sc ts es = true → PGs X es (gDs (cc X ga Z) ts)
  | [], [], _ => by
    refine PGs.imp pgs_nil fun v σ H Q q => ?_
    obtain ⟨ds, σd, σ', S, rs, rp, rd, ha, k⟩ := q
    cases ds with
    | nil =>
      unfold asgTs at ha
      cases ha
      unfold RelDs at rd
      exact ⟨rd, k _ rs fun vs hv => rfl⟩
    | cons d ds => unfold asgTs at ha; cases ha
  | [], _ :: _, h => by unfold matchTs at h; cases h
  | _ :: _, [], h => by unfold matchTs at h; cases h
  | t :: ts, e :: es, h => by
    have h0 := h
    unfold matchTs at h
    obtain ⟨h1, h2⟩ := and2 h
    obtain ⟨_, _, a3⟩ := assign_each (env := X.env) h0
    refine PGs.imp (pgs_cons (soundG g t h1) (soundGs g ts h2) (a3 e es rfl)) fun v σ H Q q => ?_
    obtain ⟨ds, σd, σ', S, rs, rp, rd, ha, k⟩ := q
    cases ds with
    | nil => unfold asgTs at ha; cases ha
    | cons d ds =>
      unfold RelDs at rd
      obtain ⟨w, r, rfl, r1, r2⟩ := rd
      unfold asgTs at ha
      split at ha
      · rename_i σ1 h3
        refine ⟨w, r, rfl, d, σd, σ1, S, rs, rp, r1, h3, fun σv q1 q2 => ⟨ds, σ1, σ', S, q1, rp, r2, ha, fun σw q3 q4 => k σw q3 fun vs hv => ?_⟩⟩
        rw [q4 vs fun i hi => hv i (by unfold slotss; exact List.mem_append_right _ hi), q2 vs fun i hi => hv i (by unfold slotss; exact List.mem_append_left _ hi)]
      · cases ha
end
end Mn

namespace Mn
open PySem L2
/-! ### what is walked -/
def ItOk (C : Cc) (H1 : Hp) (S1 : Sto) (J : It) (its : List D) (gd : Sto → Prop) : Prop := ∀ (i : Nat) (H : Hp) (S : Sto), Rp C H S → Ext H1 S1 H S → gd S →
  (∀ d, its[i]? = some d → J.go i H ∧ ∀ v H', J.yld i H v H' → Rp C H' S ∧ Ext H S H' S ∧ RelD C H' S d v) ∧ (its.length ≤ i → J.stop i H)
section
variable {C : Cc} {H1 : Hp} {S1 : Sto}
theorem itok_seqL {a : Addr} {ds : List D} {gd : Sto → Prop} (h : ∀ H S, Rp C H S → Ext H1 S1 H S → gd S → ∃ vs, SqL C.K H a vs ∧ RelDs C H S ds vs) : ItOk C H1 S1 (Itl C.K a) ds gd := fun i H S rp ex hg => by
  obtain ⟨vs, h1, r⟩ := h H S rp ex hg
  refine ⟨fun d hd => ?_, fun hl => ⟨vs, h1, by rw [r.len]; exact hl⟩⟩
  obtain ⟨v, hv, rv⟩ := r.get hd
  refine ⟨⟨vs, v, h1, hv⟩, fun w H' hy => ?_⟩
  obtain ⟨rfl, hy⟩ := hy
  have e := hy vs h1
  rw [hv] at e
  cases e
  exact ⟨rp, Ext.refl _ _, rv⟩
theorem itok_seqT {a : Addr} {ds : List D} {gd : Sto → Prop} (h : ∀ H S, Rp C H S → Ext H1 S1 H S → gd S → ∃ vs, SqT C.K H a vs ∧ RelDs C H S ds vs) : ItOk C H1 S1 (Itt C.K a) ds gd := fun i H S rp ex hg => by
  obtain ⟨vs, h1, r⟩ := h H S rp ex hg
  refine ⟨fun d hd => ?_, fun hl => ⟨vs, h1, by rw [r.len]; exact hl⟩⟩
  obtain ⟨v, hv, rv⟩ := r.get hd
  refine ⟨⟨vs, v, h1, hv⟩, fun w H' hy => ?_⟩
  obtain ⟨rfl, hy⟩ := hy
  have e := hy vs h1
  rw [hv] at e
  cases e
  exact ⟨rp, Ext.refl _ _, rv⟩
theorem enmL_get : ∀ (ds : List D) (n i : Nat), (enmL n ds)[i]? = ds[i]?.map fun d => .tup [.int ((n + i : Nat) : Int), d]
  | [], n, i => by unfold enmL; simp
  | d :: ds, n, 0 => by unfold enmL; simp
  | d :: ds, n, i + 1 => by
    unfold enmL
    rw [List.getElem?_cons_succ, List.getElem?_cons_succ, enmL_get ds (n + 1) i, show n + 1 + i = n + (i + 1) by omega]
theorem enmL_len : ∀ (ds : List D) (n : Nat), (enmL n ds).length = ds.length
  | [], n => rfl
  | d :: ds, n => by unfold enmL; rw [List.length_cons, List.length_cons, enmL_len ds]
theorem itok_enum {a : Addr} {ds : List D} {gd : Sto → Prop} (h : ∀ H S, Rp C H S → Ext H1 S1 H S → gd S → ∃ vs, SqL C.K H a vs ∧ RelDs C H S ds vs) : ItOk C H1 S1 (Ite C.K a) (enmL 0 ds) gd := fun i H S rp ex hg => by
  obtain ⟨vs, h1, r⟩ := h H S rp ex hg
  refine ⟨fun d hd => ?_, fun hl => ⟨vs, h1, by rw [r.len]; rw [enmL_len] at hl; exact hl⟩⟩
  rw [enmL_get] at hd
  obtain ⟨e, he, rfl⟩ := Option.map_eq_some_iff.mp hd
  obtain ⟨v, hv, rv⟩ := r.get he
  refine ⟨⟨vs, v, h1, hv⟩, fun w H' hy => ?_⟩
  obtain ⟨T, y, rfl, nT, rfl, hy⟩ := hy
  have q := hy vs h1
  rw [hv] at q
  cases q
  refine ⟨rp.new nT, Ext.new nT, ?_⟩
  unfold RelD
  refine ⟨T, _, rfl, .inl ⟨upd_same, rp.free nT⟩, RelDs.cons ?_ (RelDs.cons (rv.ext (Ext.new nT)) RelDs.nil)⟩
  rw [Nat.zero_add]
  exact mk_int
theorem zipL_get : ∀ (ds es : List D) (i : Nat), (zipL ds es)[i]? = (ds[i]?).bind fun d => (es[i]?).map fun e => .tup [d, e]
  | [], es, i => by unfold zipL; simp
  | d :: ds, [], i => by unfold zipL; simp
  | d :: ds, e :: es, 0 => by unfold zipL; simp
  | d :: ds, e :: es, i + 1 => by
    unfold zipL
    rw [List.getElem?_cons_succ, List.getElem?_cons_succ, List.getElem?_cons_succ, zipL_get ds es i]
theorem zipL_len : ∀ (ds es : List D), (zipL ds es).length = min ds.length es.length
  | [], es => by unfold zipL; simp
  | d :: ds, [] => by unfold zipL; simp
  | d :: ds, e :: es => by unfold zipL; rw [List.length_cons, List.length_cons, List.length_cons, zipL_len ds es]; omega
theorem itok_zip {a b : Addr} {ds es : List D} {gd : Sto → Prop} (h : ∀ H S, Rp C H S → Ext H1 S1 H S → gd S → ∃ vs ws, SqL C.K H a vs ∧ RelDs C H S ds vs ∧ SqL C.K H b ws ∧ RelDs C H S es ws) : ItOk C H1 S1 (Itz C.K a b) (zipL ds es) gd := fun i H S rp ex hg => by
  obtain ⟨vs, ws, h1, r1, h2, r2⟩ := h H S rp ex hg
  refine ⟨fun d hd => ?_, fun hl => ⟨vs, ws, h1, h2, by rw [r1.len, r2.len]; rw [zipL_len] at hl; omega⟩⟩
  rw [zipL_get] at hd
  obtain ⟨u, hu, hd⟩ := Option.bind_eq_some_iff.mp hd
  obtain ⟨e, he, rfl⟩ := Option.map_eq_some_iff.mp hd
  obtain ⟨v, hv, rv⟩ := r1.get hu
  obtain ⟨w, hw, rw'⟩ := r2.get he
  refine ⟨⟨vs, ws, v, w, h1, h2, hv, hw⟩, fun z H' hy => ?_⟩
  obtain ⟨T, y, y', rfl, nT, rfl, hy1, hy2⟩ := hy
  have q1 := hy1 vs h1
  have q2 := hy2 ws h2
  rw [hv] at q1; rw [hw] at q2
  cases q1; cases q2
  refine ⟨rp.new nT, Ext.new nT, ?_⟩
  unfold RelD
  exact ⟨T, _, rfl, .inl ⟨upd_same, rp.free nT⟩, RelDs.cons (rv.ext (Ext.new nT)) (RelDs.cons (rw'.ext (Ext.new nT)) RelDs.nil)⟩
theorem itok_range {lo : Int} {n : Nat} {ds : List D} (h : ds = (List.range n).map fun (k : Nat) => D.int (lo + k)) : ItOk C H1 S1 (Itr lo n) ds (fun _ => True) := fun i H S rp ex _ => by
  subst h
  refine ⟨fun d hd => ?_, fun hl => by
    have h2 : n ≤ i := by simpa using hl
    exact h2⟩
  rw [List.getElem?_map] at hd
  obtain ⟨k, hk, rfl⟩ := Option.map_eq_some_iff.mp hd
  have hi : i < n ∧ k = i := by
    obtain ⟨h1, h2⟩ := List.getElem?_eq_some_iff.mp hk
    rw [List.getElem_range] at h2
    exact ⟨by simpa using h1, h2.symm⟩
  refine ⟨hi.1, fun v H' hy => ?_⟩
  obtain ⟨rfl, rfl⟩ := hy
  rw [hi.2]
  exact ⟨rp, Ext.refl _ _, mk_int⟩
theorem itok_str {z : Str} (hz : PySem.PyData.strOk z = true) : ItOk C H1 S1 (Its z) (z.cps.toList.map fun c => .str ⟨#[c]⟩) (fun _ => True) := fun i H S rp ex _ => by
  refine ⟨fun d hd => ?_, fun hl => by
    have h2 : z.cps.size ≤ i := by simpa using hl
    exact h2⟩
  rw [List.getElem?_map] at hd
  obtain ⟨c, hc, rfl⟩ := Option.map_eq_some_iff.mp hd
  have hi : i < z.cps.size := by
    have := (List.getElem?_eq_some_iff.mp hc).1
    simpa using this
  refine ⟨hi, fun v H' hy => ?_⟩
  obtain ⟨rfl, c', h1, rfl⟩ := hy
  have e : c' = c := by
    rw [Array.getElem?_toList] at hc
    rw [h1] at hc
    exact Option.some.inj hc
  subst e
  exact ⟨rp, Ext.refl _ _, mk_str (strOk_sign hz (List.mem_of_getElem? hc))⟩
end
section
variable {X : Cx} {ga : Str → Addr} {Z : Addr → Prop} {H0 : Hp} {S0 : Sto} {G : Gc} {x : XW}
def ItAll (C : Cc) (H1 : Hp) (S1 : Sto) (J : It) (its : List D) (gd : Sto → Prop) : Prop := ∀ Z : Addr → Prop, (∀ a, Z a → C.Z a ∨ H1 a = none) → ItOk (C.wz Z) H1 S1 J its gd
/-- what a for or a comprehension asks of its source -/
def wiD (C : Cc) (H0 : Hp) (S0 : Sto) (G : Gc) (x : XW) (i : Nat) (as : List ME) : TI := fun σ H R => ∃ (σd : Env) (S : Sto), RelS C H S σd σ ∧ Rp C H S ∧ Ext H0 S0 H S ∧
  wEs G x as σd S fun ds S1 => ∃ its, itS i ds S1 = some its ∧ ∀ H1 J, Rp C H1 S1 → Ext H S H1 S1 → ItAll C H1 S1 J its.1 its.2 → R J H1
theorem PI.imp {X : Cx} {tg e : Expr} {t t' : TI} (h : PI X tg e t) (i : ∀ σ H R, t' σ H R → t σ H R) : PI X tg e t' := ⟨fun pins s σ H R I q => h.run pins s σ H R I (i σ H R q)⟩
theorem iterL {pins : List (Addr × Obj)} {σ : St} {H : Hp} {s : Shared} {tg : Expr} {R : It → Hp → Prop} {a : Addr} {vs : List V} (I : Inv X pins σ H s) (h : SqL X.K H a vs) (q : R (Itl X.K a) H) : wpAny (model X.prog X.w) X.A (pyIter (.ref a)) (PIE X pins σ tg R) X.xe s := by
  obtain ⟨its, _, p, _⟩ := I.list h
  exact wpAny_pyIter_list p.isList (pi_one (tk := s.toks) I _ (turn_list a _) ⟨_, Heap.get?_push_size _ rfl, rfl, rfl⟩ q)
theorem iterT {pins : List (Addr × Obj)} {σ : St} {H : Hp} {s : Shared} {tg : Expr} {R : It → Hp → Prop} {a : Addr} {vs : List V} (I : Inv X pins σ H s) (h : SqT X.K H a vs) (q : R (Itt X.K a) H) : wpAny (model X.prog X.w) X.A (pyIter (.ref a)) (PIE X pins σ tg R) X.xe s := by
  obtain ⟨its, _, p, _⟩ := I.tuple h
  exact wpAny_pyIter_tuple (show s.heap.IsTuple a its.toArray from p) (pi_one (tk := s.toks) I _ (turn_tuple a _) ⟨_, Heap.get?_push_size _ rfl, rfl, rfl⟩ q)
theorem iterS {pins : List (Addr × Obj)} {σ : St} {H : Hp} {s : Shared} {tg : Expr} {R : It → Hp → Prop} {z : Str} {t : Tok} (I : Inv X pins σ H s) (q : R (Its z) H) : wpAny (model X.prog X.w) X.A (pyIter (.str z t)) (PIE X pins σ tg R) X.xe s := by
  cases ha : z.cps.all (· < 128) with
  | false => exact wpAny_pyIter_wide ha (pi_one (tk := s.toks) I _ (turn_str _ z t "str_iterator" (.inr rfl)) ⟨_, Heap.get?_push_size _ rfl, rfl, rfl⟩ q)
  | true => exact wpAny_pyIter_ascii ha (pi_one (tk := s.toks) I _ (turn_str _ z t "str_ascii_iterator" (.inl rfl)) ⟨_, Heap.get?_push_size _ rfl, rfl, rfl⟩ q)
theorem rel_ints {C : Cc} {H : Hp} {S : Sto} : ∀ ns : List Int, RelDs C H S (ns.map D.int) (ns.map V.int)
  | [] => RelDs.nil
  | n :: ns => RelDs.cons mk_int (rel_ints ns)
/-- over a value -/
theorem pi_val {tg e : Expr} {m : ME} (h : PE X e (tD (cc X ga Z) H0 S0 (wE G x m))) : PI X tg e (wiD (cc X ga Z) H0 S0 G x 0 [m]) := by
  refine ⟨fun pins s σ H R I q => ?_⟩
  obtain ⟨σd, S, rs, rp, ex, w⟩ := q
  have w2 : wE G x m σd S (kD (cc X ga Z) H S fun v H1 => ∃ u S1 its, itR u S1 = some its ∧ RelD (cc X ga Z) H1 S1 u v ∧ Rp (cc X ga Z) H1 S1 ∧ ∀ J, ItAll (cc X ga Z) H1 S1 J its.1 its.2 → R J H1) := by
    unfold wEs at w
    refine wE_mono (fun u S1 q H1 v rp1 e1 r1 => ?_) m σd S w
    unfold wEs at q
    obtain ⟨its, h1, h2⟩ := q
    exact ⟨u, S1, its, h1, r1, rp1, fun J hJ => h2 H1 J rp1 e1 hJ⟩
  refine thn (h.run pins s σ H _ I ⟨σd, S, rs, rp, ex, w2⟩) fun v s1 ⟨z, H1, I1, rz, u, S1, its, hi, rd, rp1, k⟩ => ?_
  cases u with
  | lst ds =>
    cases hi
    unfold RelD at rd
    obtain ⟨a, vs, rfl, f, r⟩ := rd
    cases rz
    refine iterL I1 f.sq (k _ fun Z' hz => itok_seqL fun H2 S2 _ e _ => ⟨vs, (f.ext e).sq, (r.wz hz).ext e⟩)
  | tup ds =>
    cases hi
    unfold RelD at rd
    obtain ⟨a, vs, rfl, f, r⟩ := rd
    cases rz
    refine iterT I1 f.sq (k _ fun Z' hz => itok_seqT fun H2 S2 _ e _ => ⟨vs, (f.ext e).sq, (r.wz hz).ext e⟩)
  | str y =>
    cases hi
    have hz := rd.strOk
    cases rel_str rd
    obtain ⟨t, rfl⟩ := rz
    exact iterS I1 (k _ fun _ _ => itok_str hz)
  | scr ns =>
    cases hi
    unfold RelD at rd
    obtain ⟨a, rfl, ⟨f, r, _⟩ | f⟩ := rd
    · cases rz
      exact iterL I1 (.inl f) (k _ fun _ _ => itok_seqL fun H2 S2 _ e _ => ⟨ns.map V.int, .inl (Rd.ext f r e).1, rel_ints ns⟩)
    · cases rz
      exact iterL I1 (.inr f) (k _ fun _ _ => itok_seqL fun H2 S2 _ e _ => ⟨ns.map V.int, .inr f, rel_ints ns⟩)
  | ref a =>
    obtain ⟨ds, h1, rfl⟩ := Option.map_eq_some_iff.mp (show (lstAt S1 a).map (fun ds => (ds, fun S' => S' a = some (.lst ds))) = some its from hi)
    unfold RelD at rd
    subst rd
    cases rz
    obtain ⟨o, h2, h3⟩ := rp1.obj a _ (lstAt_some h1)
    obtain ⟨vs, rfl, r⟩ := h3
    refine iterL I1 (.of h2) (k _ fun Z' hz => itok_seqL fun H2 S2 rp2 e hg => ?_)
    obtain ⟨o, h4, h5⟩ := rp2.obj a _ hg
    obtain ⟨ws, rfl, r5⟩ := h5
    exact ⟨ws, .of h4, r5⟩
  | _ => cases hi
theorem pi_rng {sc : Scope} (g : Gd X sc ga Z H0 S0 G x) {tg : Expr} {as : List Expr} {ms : List ME} {p pos : Pos} (hg : gloB sc "range" = true) (hn : as.length = 1 ∨ as.length = 2) (hm : matchEs X.N sc ms as = true) (h : PA X as (tDA (cc X ga Z) H0 S0 (wEs G x ms))) :
    PI X tg (.Call (.Name "range" p) as [] pos) (wiD (cc X ga Z) H0 S0 G x 1 ms) := by
  have key : ∀ σ H R, wiD (cc X ga Z) H0 S0 G x 1 ms σ H R → tDA (cc X ga Z) H0 S0 (wEs G x ms) σ H fun vs H1 => vs.length = ms.length ∧ ∃ lo hi : Int, -(2 ^ 62) ≤ lo ∧ lo < 2 ^ 62 ∧ -(2 ^ 62) ≤ hi ∧ hi < 2 ^ 62 ∧ ((vs = [.int hi] ∧ lo = 0) ∨ vs = [.int lo, .int hi]) ∧ R (Itr lo (hi - lo).toNat) H1 := fun σ H R q => by
    obtain ⟨σd, S, rs, rp, ex, w⟩ := q
    refine ⟨σd, S, rs, rp, ex, wEs_mono (fun ds S1 q H1 vs rp1 e1 r1 => ?_) ms σd S (wEs_len ms σd S _ w)⟩
    obtain ⟨hl, its, h1, h2⟩ := q
    refine ⟨by rw [r1.len, hl], ?_⟩
    obtain ⟨l, h3, rfl⟩ := Option.map_eq_some_iff.mp (show (rngR ds).map (fun l => (l, fun _ => True)) = some its from h1)
    unfold rngR at h3
    split at h3
    · obtain ⟨c, rfl⟩ := g?_some h3
      obtain ⟨v, rfl, rv⟩ := rel1 r1
      rename_i j
      cases rel_int rv
      exact ⟨0, j, by omega, by omega, c.1, c.2, .inl ⟨rfl, rfl⟩, h2 H1 _ rp1 e1 fun _ _ => itok_range (by simp)⟩
    · obtain ⟨c, rfl⟩ := g?_some h3
      obtain ⟨v, w, rfl, rv, rw'⟩ := rel2 r1
      rename_i i j
      cases rel_int rv; cases rel_int rw'
      exact ⟨i, j, c.1, c.2.1, c.2.2.1, c.2.2.2, .inr rfl, h2 H1 _ rp1 e1 fun _ _ => itok_range rfl⟩
    · cases h3
  have hlen : ms.length = as.length := matchEs_len hm
  match as, hn, hm, h, hlen with
  | [a], _, hm, h, hlen =>
    refine PI.imp (pi_range1 (g.sck.glo hg) g.rng h (starEach_cons (star1 hm))) fun σ H R q => ?_
    obtain ⟨σd, S, rs, rp, ex, w⟩ := key σ H R q
    refine ⟨σd, S, rs, rp, ex, wEs_mono (fun ds S1 q H1 vs rp1 e1 r1 => ?_) ms σd S w⟩
    obtain ⟨h0, lo, hi, h1, h2, h3, h4, h5, h6⟩ := q H1 vs rp1 e1 r1
    rcases h5 with ⟨rfl, rfl⟩ | rfl
    · refine ⟨hi, rfl, h3, h4, ?_⟩
      rw [Int.sub_zero] at h6
      exact h6
    · rw [hlen] at h0; cases h0
  | [a, b], _, hm, h, hlen =>
    have s1 := star1 hm
    have s2 := star2 hm
    refine PI.imp (pi_range2 (g.sck.glo hg) g.rng h (by rw [starEach_cons s1, starEach_cons s2]; rfl) (starEach_cons s2)) fun σ H R q => ?_
    obtain ⟨σd, S, rs, rp, ex, w⟩ := key σ H R q
    refine ⟨σd, S, rs, rp, ex, wEs_mono (fun ds S1 q H1 vs rp1 e1 r1 => ?_) ms σd S w⟩
    obtain ⟨h0, lo, hi, h1, h2, h3, h4, h5, h6⟩ := q H1 vs rp1 e1 r1
    rcases h5 with ⟨rfl, rfl⟩ | rfl
    · rw [hlen] at h0; cases h0
    · exact ⟨lo, hi, rfl, ⟨h1, h2, h3, h4⟩, h6⟩
  | [], hn, _, _, _ => simp at hn
  | _ :: _ :: _ :: _, hn, _, _, _ => simp at hn
theorem pi_enm {sc : Scope} (g : Gd X sc ga Z H0 S0 G x) {elts : List Expr} {kk : Nat} {tpos : Pos} {as : List Expr} {ms : List ME} {p pos : Pos} (hg : gloB sc "enumerate" = true) (hn : as.length = 1) (hm : matchEs X.N sc ms as = true) (h : PA X as (tDA (cc X ga Z) H0 S0 (wEs G x ms))) :
    PI X (.Tuple elts kk tpos) (.Call (.Name "enumerate" p) as [] pos) (wiD (cc X ga Z) H0 S0 G x 2 ms) := by
  match as, hn, hm, h with
  | [a], _, hm, h =>
    refine PI.imp (pi_enum (g.sck.glo hg) g.enm h (starEach_cons (star1 hm))) fun σ H R q => ?_
    obtain ⟨σd, S, rs, rp, ex, w⟩ := q
    refine ⟨σd, S, rs, rp, ex, wEs_mono (fun ds S1 q H1 vs rp1 e1 r1 => ?_) ms σd S w⟩
    obtain ⟨its, h1, h2⟩ := q
    match ds, h1, r1 with
    | [u], h1, r1 =>
      obtain ⟨v, rfl, rv⟩ := rel1 r1
      have h1 : (match listOf S1 u, itR u S1 with
        | some _, some its => some (enmL 0 its.1, its.2)
        | _, _ => none) = some its := h1
      cases hl : listOf S1 u with
      | none => rw [hl] at h1; cases h1
      | some l =>
        cases hi : itR u S1 with
        | none => rw [hl, hi] at h1; cases h1
        | some it =>
          rw [hl, hi] at h1
          cases h1
          obtain ⟨b, vs, rfl, hb, r⟩ := listOf_sq rp1 rv hl
          refine ⟨b, vs, rfl, .of hb, h2 H1 _ rp1 e1 fun Z' hz => itok_enum fun H2 S2 rp2 e2 hgd => ?_⟩
          cases u with
          | lst es =>
            cases hi
            cases hl
            unfold RelD at rv
            obtain ⟨b', vs', eb, f, r'⟩ := rv
            cases eb
            exact ⟨vs', (f.ext e2).sq, (r'.wz hz).ext e2⟩
          | ref c =>
            obtain ⟨es, h3, rfl⟩ := Option.map_eq_some_iff.mp (show (lstAt S1 c).map (fun ds => (ds, fun S' => S' c = some (.lst ds))) = some it from hi)
            unfold RelD at rv
            cases rv
            obtain ⟨o, h4, h5⟩ := rp2.obj _ _ hgd
            obtain ⟨ws, rfl, r5⟩ := h5
            exact ⟨ws, .of h4, r5⟩
          | _ => cases hl
    | [], h1, _ => cases h1
    | _ :: _ :: _, h1, _ => cases h1
/-- a list that is walked by its place -/
theorem lst_src {C : Cc} {H1 : Hp} {S1 : Sto} {u : D} {v : V} {l : List D} {it : List D × (Sto → Prop)} (rp1 : Rp C H1 S1) (rv : RelD C H1 S1 u v) (hl : listOf S1 u = some l) (hi : itR u S1 = some it) :
    ∃ b vs, v = .ref b ∧ SqL C.K H1 b vs ∧ ∀ Z' : Addr → Prop, (∀ a, Z' a → C.Z a ∨ H1 a = none) → ∀ H2 S2, Rp (C.wz Z') H2 S2 → Ext H1 S1 H2 S2 → it.2 S2 → ∃ ws, SqL C.K H2 b ws ∧ RelDs (C.wz Z') H2 S2 it.1 ws := by
  obtain ⟨b, vs, rfl, hb, r⟩ := listOf_sq rp1 rv hl
  refine ⟨b, vs, rfl, .of hb, fun Z' hz H2 S2 rp2 e2 hgd => ?_⟩
  cases u with
  | lst es =>
    cases hi
    unfold RelD at rv
    obtain ⟨b', vs', eb, f, r'⟩ := rv
    cases eb
    exact ⟨vs', (f.ext e2).sq, (r'.wz hz).ext e2⟩
  | ref c =>
    obtain ⟨es, h3, rfl⟩ := Option.map_eq_some_iff.mp (show (lstAt S1 c).map (fun ds => (ds, fun S' => S' c = some (.lst ds))) = some it from hi)
    unfold RelD at rv
    cases rv
    obtain ⟨o, h4, h5⟩ := rp2.obj _ _ hgd
    obtain ⟨ws, rfl, r5⟩ := h5
    exact ⟨ws, .of h4, r5⟩
  | _ => cases hl
theorem pi_zp {sc : Scope} (g : Gd X sc ga Z H0 S0 G x) {elts : List Expr} {kk : Nat} {tpos : Pos} {as : List Expr} {ms : List ME} {p pos : Pos} (hg : gloB sc "zip" = true) (hn : as.length = 2) (hm : matchEs X.N sc ms as = true) (h : PA X as (tDA (cc X ga Z) H0 S0 (wEs G x ms))) :
    PI X (.Tuple elts kk tpos) (.Call (.Name "zip" p) as [] pos) (wiD (cc X ga Z) H0 S0 G x 3 ms) := by
  match as, hn, hm, h with
  | [a, b], _, hm, h =>
    have hm2 : ∃ ms', matchEs X.N sc ms' [b] = true := by
      cases ms with
      | nil => unfold matchEs at hm; cases hm
      | cons m ms => unfold matchEs at hm; exact ⟨ms, (and2 (and2 hm).2).2⟩
    obtain ⟨ms', hm2⟩ := hm2
    refine PI.imp (pi_zip (g.sck.glo hg) g.zip h (starEach_cons (star1 hm)) (star_all hm2).1) fun σ H R q => ?_
    obtain ⟨σd, S, rs, rp, ex, w⟩ := q
    refine ⟨σd, S, rs, rp, ex, wEs_mono (fun ds S1 q H1 vs rp1 e1 r1 => ?_) ms σd S w⟩
    obtain ⟨its, h1, h2⟩ := q
    match ds, h1, r1 with
    | [u, u'], h1, r1 =>
      obtain ⟨v, v', rfl, rv, rv'⟩ := rel2 r1
      have h1 : (match listOf S1 u, itR u S1, listOf S1 u', itR u' S1 with
        | some _, some its, some _, some jts => some (zipL its.1 jts.1, fun S' => its.2 S' ∧ jts.2 S')
        | _, _, _, _ => none) = some its := h1
      split at h1
      · rename_i l it l' it' hl hi hl' hi'
        cases h1
        obtain ⟨b1, vs1, rfl, s1, k1⟩ := lst_src rp1 rv hl hi
        obtain ⟨b2, vs2, rfl, s2, k2⟩ := lst_src rp1 rv' hl' hi'
        refine ⟨b1, b2, vs1, vs2, rfl, s1, s2, h2 H1 _ rp1 e1 fun Z' hz => itok_zip fun H2 S2 rp2 e2 hgd => ?_⟩
        obtain ⟨w1, z1, y1⟩ := k1 Z' hz H2 S2 rp2 e2 hgd.1
        obtain ⟨w2, z2, y2⟩ := k2 Z' hz H2 S2 rp2 e2 hgd.2
        exact ⟨w1, w2, z1, y1, z2, y2⟩
      · cases h1
    | [], h1, _ => cases h1
    | [_], h1, _ => cases h1
    | _ :: _ :: _ :: _, h1, _ => cases h1
  | [], hn, _, _ => simp at hn
  | [_], hn, _, _ => simp at hn
  | _ :: _ :: _ :: _, hn, _, _ => simp at hn
end
end Mn

namespace Mn
open PySem L2
/-! ### comprehensions -/
abbrev noX : XW := fun _ _ _ => False
theorem takes_no {X : Cx} {C : Cc} {H0 : Hp} {S0 : Sto} : Takes X (liftX C H0 S0 noX) := fun u s' h => by
  obtain ⟨a, B, sI, pins, σ, H, cls, d, _, _, _, _, _, _, _, _, w⟩ := h
  obtain ⟨e, σd, S, _, _, _, _, w⟩ := w
  exact w.elim
theorem relabel_look {env : PySem.Env} : ∀ {names : List (Str × NameKind)} {x : Str} {k : NameKind}, names.lookup x = some k →
    ∃ k', (names.map fun (n, k) => if (k == NameKind.free && env.scope.kind == .function && env.kindOf n == some .cell) then (n, NameKind.cell) else (n, k)).lookup x = some k' ∧ (k' = k ∨ (k = .free ∧ k' = .cell))
  | [], _, _, h => by cases h
  | (n, k) :: r, x, j, h => by
    rw [List.map_cons]
    rw [List.lookup_cons] at h
    by_cases e : x = n
    · subst e
      rw [beq_self_eq_true] at h
      cases h
      dsimp only
      split
      · rename_i q
        refine ⟨.cell, by rw [List.lookup_cons, beq_self_eq_true], .inr ⟨?_, rfl⟩⟩
        have q1 := (and2 (and2 q).1).1
        exact beq_iff_eq.mp q1
      · exact ⟨k, by rw [List.lookup_cons, beq_self_eq_true], .inl rfl⟩
    · have hb : (x == n) = false := beq_eq_false_iff_ne.mpr e
      rw [hb] at h
      obtain ⟨k', h1, h2⟩ := relabel_look (env := env) h
      refine ⟨k', ?_, h2⟩
      dsimp only
      split <;> (rw [List.lookup_cons, hb]; exact h1)
section
variable {X : Cx} {ga : Str → Addr} {Z : Addr → Prop} {H0 : Hp} {S0 : Sto} {G : Gc} {x : XW}
theorem Gd.blk {sc : Scope} (g : Gd X sc ga Z H0 S0 G x) {scope : Scope} (hk : scope.kind = .function) (s : Shared) (H : Hp) (Ca : Addr) (cl : List (Str × Addr)) (fp : List Addr) (Z' : Addr → Prop) (H0' : Hp) (S0' : Sto) :
    Gd (X.blk s H scope (compEnvC scope cl Ca X.env) fp) scope ga Z' H0' S0' G noX where
  nd := g.nd
  calm := g.calm
  room := g.room
  sck := ⟨hk, fun y k h => relabel_look h⟩
  tk := takes_no
  own := PassesOwn.never
  fns := fun f n sp h => ⟨(g.fns f n sp h).ex⟩
  con := fun n d h => g.con n d h
  blt := g.blt
  tys := g.tys
  mts := fun c m n sp h => ⟨(g.mts c m n sp h).ex⟩
  mks := fun c n sp h => ⟨(g.mks c n sp h).ex⟩
  flds := g.flds
  excs := fun c n F h => ⟨(g.excs c n F h).ex⟩
  subs := fun c c' b h => ⟨(g.subs c c' b h).mg, (g.subs c c' b h).exm, (g.subs c c' b h).kit, (g.subs c c' b h).exc⟩
  xfls := g.xfls
  zip := g.zip
  rng := g.rng
  enm := g.enm
  fnl := fun y h => by
    unfold locB at h
    cases e : scope.names.lookup y with
    | none => rw [e] at h; cases h
    | some k =>
      rw [e] at h
      cases k with
      | «local» =>
        refine .inr ?_
        obtain ⟨k', h1, h2⟩ := relabel_look (env := X.env) e
        rcases h2 with rfl | ⟨q, _⟩
        · exact h1
        · cases q
      | cell =>
        refine .inl ?_
        show (scope.names.lookup y == some .cell) = true
        rw [e]; rfl
      | _ => cases h
def tDx (X : Cx) (ga : Str → Addr) (f : W1) : TE := fun σ H Q => ∃ (Z : Addr → Prop) (H0 : Hp) (S0 : Sto), tD (cc X ga Z) H0 S0 f σ H Q
def tCx (X : Cx) (ga : Str → Addr) (G : Gc) (c : List ME) : TT := fun σ H Q => ∃ (Z : Addr → Prop) (σd : Env) (S : Sto), RelS (cc X ga Z) H S σd σ ∧ Rp (cc X ga Z) H S ∧ wC G c σd S fun b S' => ∀ H', Rp (cc X ga Z) H' S' → Ext H S H' S' → Q b H'
def gDx (X : Cx) (ga : Str → Addr) (t : MT) : TG := fun v σ H Q => ∃ Z : Addr → Prop, gD (cc X ga Z) t v σ H Q
def wipeE (σ : Env) : List Nat → Env
  | [] => σ
  | v :: vs => (wipeE σ vs).set v none
theorem relS_wipe {C : Cc} {H : Hp} {S : Sto} {σd : Env} {σ : St} (h : RelS C H S σd σ) : ∀ vs, RelS C H S (wipeE σd vs) (wipe σ vs)
  | [] => h
  | v :: vs => by
    obtain ⟨h1, h2⟩ := relS_wipe h vs
    unfold wipeE wipe
    refine ⟨by simp [h1], fun i d q => ?_⟩
    rw [List.getElem?_set] at q ⊢
    by_cases e : v = i
    · rw [if_pos e] at q
      split at q <;> cases q
    · rw [if_neg e] at q ⊢
      exact h2 i d q
theorem wipe_wipe (σ : St) : ∀ vs ws : List Nat, (∀ i ∈ ws, i ∈ vs) → wipe (wipe σ ws) vs = wipe σ vs
  | vs, [], _ => rfl
  | vs, w :: ws, h => by
    show wipe ((wipe σ ws).set w none) vs = wipe σ vs
    rw [wipe_set (h w List.mem_cons_self), wipe_wipe σ vs ws fun i hi => h i (List.mem_cons_of_mem _ hi)]
/-- two environments alike but at some slots -/
def Alike (P : Nat → Prop) (σ τ : Env) : Prop := σ.length = τ.length ∧ ∀ i, ¬ P i → σ[i]? = τ[i]?
theorem alike_set {P : Nat → Prop} {σ τ : Env} (h : Alike P σ τ) (i : Nat) (o : Option D) : Alike (fun j => P j ∧ j ≠ i) (σ.set i o) (τ.set i o) := ⟨by simp [h.1], fun j hj => by
  rw [List.getElem?_set, List.getElem?_set, h.1]
  by_cases e : i = j
  · rw [if_pos e, if_pos e]
  · rw [if_neg e, if_neg e]
    exact h.2 j fun q => hj ⟨q, fun z => e z.symm⟩⟩
mutual
theorem asgT_alike : ∀ (t : MT) (d : D) {P : Nat → Prop} {σ τ σ' : Env}, Alike P σ τ → asgT t d σ = some σ' → ∃ τ', asgT t d τ = some τ' ∧ Alike (fun j => P j ∧ j ∉ slots t) σ' τ'
  | .nm i, d, P, σ, τ, σ', h, e => by
    unfold asgT at e ⊢
    cases e
    refine ⟨_, rfl, (alike_set h i _).1, fun j hj => (alike_set h i (some d)).2 j fun q => hj ⟨q.1, fun z => q.2 ?_⟩⟩
    unfold slots at z
    simpa using z
  | .tp ts, .tup ds, P, σ, τ, σ', h, e => by
    unfold asgT at e ⊢
    obtain ⟨τ', h1, h2⟩ := asgTs_alike ts ds h e
    exact ⟨τ', h1, by unfold slots; exact h2⟩
  | .tp _, .non, _, _, _, _, _, e => by unfold asgT at e; cases e
  | .tp _, .bl _, _, _, _, _, _, e => by unfold asgT at e; cases e
  | .tp _, .int _, _, _, _, _, _, e => by unfold asgT at e; cases e
  | .tp _, .str _, _, _, _, _, _, e => by unfold asgT at e; cases e
  | .tp _, .ty _, _, _, _, _, _, e => by unfold asgT at e; cases e
  | .tp _, .ref _, _, _, _, _, _, e => by unfold asgT at e; cases e
  | .tp _, .lst _, _, _, _, _, _, e => by unfold asgT at e; cases e
  | .tp _, .scr _, _, _, _, _, _, e => by unfold asgT at e; cases e
theorem asgTs_alike : ∀ (ts : List MT) (ds : List D) {P : Nat → Prop} {σ τ σ' : Env}, Alike P σ τ → asgTs ts ds σ = some σ' → ∃ τ', asgTs ts ds τ = some τ' ∧ Alike (fun j => P j ∧ j ∉ slotss ts) σ' τ'
  | [], [], P, σ, τ, σ', h, e => by
    unfold asgTs at e ⊢
    cases e
    exact ⟨τ, rfl, h.1, fun j hj => h.2 j fun q => hj ⟨q, by unfold slotss; simp⟩⟩
  | [], _ :: _, _, _, _, _, _, e => by unfold asgTs at e; cases e
  | _ :: _, [], _, _, _, _, _, e => by unfold asgTs at e; cases e
  | t :: ts, d :: ds, P, σ, τ, σ', h, e => by
    unfold asgTs at e ⊢
    cases q : asgT t d σ with
    | none => rw [q] at e; cases e
    | some σ1 =>
      rw [q] at e
      obtain ⟨τ1, h1, h2⟩ := asgT_alike t d h q
      obtain ⟨τ', h3, h4⟩ := asgTs_alike ts ds h2 e
      rw [h1]
      refine ⟨τ', h3, h4.1, fun j hj => h4.2 j fun z => hj ⟨z.1.1, fun w => ?_⟩⟩
      unfold slotss at w
      rcases List.mem_append.mp w with w | w
      · exact z.1.2 w
      · exact z.2 w
end
theorem wipeE_alike (σ : Env) : ∀ vs, Alike (fun j => j ∈ vs) σ (wipeE σ vs)
  | [] => ⟨rfl, fun _ _ => rfl⟩
  | v :: vs => by
    obtain ⟨h1, h2⟩ := wipeE_alike σ vs
    unfold wipeE
    refine ⟨by simp [h1], fun j hj => ?_⟩
    rw [List.getElem?_set, if_neg (fun e => hj (by rw [e]; exact List.mem_cons_self))]
    exact h2 j fun q => hj (List.mem_cons_of_mem _ q)
theorem asgT_wipe {t : MT} {d : D} {σ σ' : Env} (h : asgT t d σ = some σ') : asgT t d (wipeE σ (slots t)) = some σ' := by
  obtain ⟨τ', h1, h2⟩ := asgT_alike t d (wipeE_alike σ (slots t)) h
  have e : σ' = τ' := by
    refine List.ext_getElem? fun i => h2.2 i fun q => q.2 q.1
  rw [e]; exact h1
theorem lc_imp {i : Nat} {m : Bool} {t : MT} {as c : List ME} {e : ME} {σ : St} {H : Hp} {Q : VK} (h : tD (cc X ga Z) H0 S0 (wE G x (.lc i m t as c e)) σ H Q) :
    tLc (wiD (cc X ga Z) H0 S0 G x i as) (gDx X ga t) (tCx X ga G c) (tDx X ga (wE G noX e)) (slots t) σ H Q := by
  obtain ⟨σd, S, rs, rp, ex, w⟩ := h
  unfold wE at w
  refine ⟨σd, S, rs, rp, ex, wEs_mono (fun ds S1 q => ?_) as σd S w⟩
  obtain ⟨its, hi, hl⟩ := q
  refine ⟨its, hi, fun H1 J rp1 e1 hJ Da hD => ?_⟩
  obtain ⟨Z', hZ'⟩ : ∃ Z' : Addr → Prop, Z' = fun a => Z a ∨ a = Da := ⟨_, rfl⟩
  have hzz : ∀ a, Z' a ↔ (Z a ∨ a = Da) := fun a => by rw [hZ']
  have hzD : Z' Da := (hzz Da).mpr (.inr rfl)
  have rp1' : Rp (cc X ga Z') (upd H1 Da (.lst [])) S1 := by rw [hZ']; exact rp1.addZ hD
  have hJ' : ItOk (cc X ga Z') H1 S1 J its.1 its.2 := hJ Z' fun a z => ((hzz a).mp z).imp (fun q => q) fun q => by rw [q]; exact hD
  have rs1 : RelS (cc X ga Z') H1 S1 σd σ := (rs.ext e1).wz (Z := Z') fun a z => ((hzz a).mp z).imp (fun q => q) fun q => by rw [q]; exact hD
  refine ⟨fun j n Hh => ∃ S2 acc accV, Rp (cc X ga Z') Hh S2 ∧ Ext H1 S1 Hh S2 ∧ Hh Da = some (.lst accV) ∧ RelDs (cc X ga Z') Hh S2 acc accV ∧ j ≤ its.1.length ∧ n = its.1.length - j ∧
    lcLoop its.2 (fun d S2 q => ∃ σ', asgT t d σd = some σ' ∧ wC G c σ' S2 fun b S3 => if b = true then wE G noX e σ' S3 fun y S4 => q (some y) S4 else q none S3) (its.1.drop j) acc S2 (fun acc S2 => fin m (.newL acc) S2 (kD (cc X ga Z) H S Q)),
    ⟨its.1.length, S1, [], [], rp1', Ext.new hD, upd_same, RelDs.nil, Nat.zero_le _, rfl, hl⟩, ?_⟩
  rintro j n Hh ⟨S2, acc, accV, rp2, e2, hDa, racc, hj, hn, hl⟩
  cases hd : its.1.drop j with
  | nil =>
    rw [hd] at hl
    left
    obtain ⟨hg, hk⟩ := hl
    refine ⟨(hJ' j Hh S2 rp2 e2 hg).2 (List.drop_eq_nil_iff.mp hd), ?_⟩
    have rp3 : Rp (cc X ga Z) Hh S2 := rp2.wz (Z := Z) fun a z => (hzz a).mpr (.inl z)
    cases m with
    | false =>
      refine hk Hh (.ref Da) rp3 (e1.trans e2) ?_
      unfold RelD
      exact ⟨Da, accV, rfl, ⟨hDa, (rp2.z Da hzD).2, rp1.nz hD⟩, racc.wz (Z := Z) fun a z => .inl ((hzz a).mpr (.inl z))⟩
    | true =>
      have hS := (rp2.z Da hzD).2
      refine hk Da hS Hh (.ref Da) (rp2.thaw (Z := Z) hzz (rp1.nz hD) hDa racc) (fun b u hb sb => ?_) (by unfold RelD; rfl)
      obtain ⟨q1, q2⟩ := e1 b u hb sb
      obtain ⟨q3, q4⟩ := e2 b u q1 q2
      exact ⟨q3, by rw [put_ne (ne_of_none q1 hD)]; exact q4⟩
  | cons d rest =>
    rw [hd] at hl
    right
    obtain ⟨hg, hk⟩ := hl
    have hjd : its.1[j]? = some d := by
      have : (its.1.drop j)[0]? = some d := by rw [hd]; rfl
      rw [List.getElem?_drop] at this
      simpa using this
    have hlt : j < its.1.length := (List.getElem?_eq_some_iff.mp hjd).1
    obtain ⟨hgo, hy⟩ := (hJ' j Hh S2 rp2 e2 hg).1 d hjd
    refine ⟨hgo, _, fun H' q => ⟨its.1.length - (j + 1), by omega, q⟩, fun v H' hyl => ?_⟩
    obtain ⟨rp3, e3, rd⟩ := hy v H' hyl
    obtain ⟨σ', ha, hw⟩ := hk
    have rs3 : RelS (cc X ga Z') H' S2 σd σ := rs1.ext (e2.trans e3)
    refine ⟨Z', d, wipeE σd (slots t), σ', S2, relS_wipe rs3 _, rp3, rd, asgT_wipe ha, fun σv rv hv => ⟨?_, ?_⟩⟩
    · rw [hv (slots t) fun i hi => hi]
      exact wipe_wipe σ _ _ fun i hi => hi
    · refine ⟨Z', σ', S2, rv, rp3, wC_mono (fun b S3 q H3 rp4 e4 => ?_) c σ' S2 hw⟩
      have hrest : its.1.drop (j + 1) = rest := by
        rw [← List.drop_drop, hd]; rfl
      have hD3 : H3 Da = some (.lst accV) := ((e3.trans e4) Da _ hDa (rp2.z Da hzD).2).1
      cases b with
      | false =>
        rw [if_neg Bool.false_ne_true] at q
        refine iteF ?_
        exact ⟨S3, acc, accV, rp4, e2.trans (e3.trans e4), hD3, racc.ext (e3.trans e4), hlt, rfl, by rw [hrest]; exact q⟩
      | true =>
        rw [if_pos rfl] at q
        refine iteT ?_
        refine ⟨Z', H3, S3, σ', S3, rv.ext e4, rp4, Ext.refl _ _, wE_mono (fun y S4 q H4 yv rp5 e5 r5 => ?_) e σ' S3 q⟩
        obtain ⟨hlen, q⟩ := q
        have hS3 : S3 Da = none := (rp4.z Da hzD).2
        have hD4 : H4 Da = some (.lst accV) := (e5 Da _ hD3 hS3).1
        have racc4 : RelDs (cc X ga Z') H4 S4 acc accV := racc.ext ((e3.trans e4).trans e5)
        have mvg : Mv (cc X ga Z') (cc X ga Z') H4 (upd H4 Da (.lst (accV ++ [yv]))) S4 S4 := mv_grow hzD hD4
        refine ⟨accV, hD4, by rw [racc4.len]; exact hlen, S4, acc ++ [y], accV ++ [yv], rp5.grow hzD hD4, fun b u hb sb => ?_, upd_same, (racc4.app (RelDs.cons r5 RelDs.nil)).mv mvg, hlt, rfl, by rw [hrest]; exact q⟩
        obtain ⟨q1, q2⟩ := (e2.trans ((e3.trans e4).trans e5)) b u hb sb
        exact ⟨by rw [upd_ne (ne_of_none hb hD)]; exact q1, q2⟩
end
end Mn

namespace Mn
open PySem L2
theorem PE.ex {X : Cx} {e : Expr} {ι : Sort _} {t : ι → TE} (h : ∀ i, PE X e (t i)) : PE X e (fun σ H Q => ∃ i, t i σ H Q) := ⟨fun pins s σ H Q I ⟨i, q⟩ => (h i).run pins s σ H Q I q⟩
theorem PG.ex {X : Cx} {e : Expr} {ι : Sort _} {t : ι → TG} (h : ∀ i, PG X e (t i)) : PG X e (fun v σ H Q => ∃ i, t i v σ H Q) := ⟨fun pins s σ H v u Q I r ⟨i, q⟩ => (h i).run pins s σ H v u Q I r q⟩
theorem pt_ifx {X : Cx} {c a b : Expr} {pos : Pos} {tc ta tb : TT} (hc : PT X c tc) (ha : PT X a ta) (hb : PT X b tb) : PT X (.IfExp c a b pos) (fun σ H Q => tc σ H fun z H1 => if z = true then ta σ H1 Q else tb σ H1 Q) := ⟨fun pins s σ H Q I h => by
  show wpAny _ _ (do if ← isTrue c X.env (eval c X.env) then isTrue a X.env (eval a X.env) else isTrue b X.env (eval b X.env)) _ _ s
  refine wpAny_bind (thn (hc.run pins s σ H _ I h) fun z s1 ⟨H1, I1, q⟩ => ?_)
  cases z with
  | true => exact ha.run pins s1 σ H1 Q I1 q
  | false => exact hb.run pins s1 σ H1 Q I1 q⟩
theorem tys_boot (n : String) (h : tyB n = true) : bootBuiltins (Str.ofString n) = some (.type n) ∧ Str.ofString n ≠ "__name__" ∧ (Str.ofString n == ("__debug__" : Str)) = false := by
  unfold tyB at h
  simp only [Bool.or_eq_true, beq_iff_eq] at h
  rcases h with (((rfl | rfl) | rfl) | rfl) | rfl <;> exact ⟨by decide +kernel, by decide +kernel, by decide +kernel⟩
theorem isEmpty_cons {α : Type} {l : List α} (h : (!l.isEmpty) = true) : ∃ a r, l = a :: r := by
  cases l with
  | nil => cases h
  | cons a r => exact ⟨a, r, rfl⟩
theorem pts_of {X : Cx} {sc : Scope} {ga : Str → Addr} {G : Gc} {c : List ME} {ifs : List Expr} (hl : c.length ≤ 1) (hm : matchEs X.N sc c ifs = true)
    (h : ∀ m, c = [m] → ∀ e, ifs = [e] → ∀ Z H0 S0, PT X e (tDT (cc X ga Z) H0 S0 (wE G noX m))) : PTs X ifs (tCx X ga G c) := by
  match c, ifs, hl, hm with
  | [], [], _, _ =>
    refine ⟨fun pins s σ H Q I q => pts_nil.run pins s σ H Q I ?_⟩
    obtain ⟨Z, σd, S, rs, rp, w⟩ := q
    unfold wC at w
    exact w H rp (Ext.refl _ _)
  | [], _ :: _, _, hm => unfold matchEs at hm; cases hm
  | [m], [], _, hm => unfold matchEs at hm; cases hm
  | [m], [e], _, hm =>
    refine ⟨fun pins s σ H Q I q => ?_⟩
    obtain ⟨Z, σd, S, rs, rp, w⟩ := q
    unfold wC at w
    refine (pts_one (h m rfl e rfl Z H S)).run pins s σ H Q I ⟨σd, S, rs, rp, Ext.refl _ _, wE_mono (fun d S1 q => ?_) m σd S w⟩
    obtain ⟨b, h1, h2⟩ := q
    exact ⟨b, h1, h2⟩
  | [m], _ :: _ :: _, _, hm =>
    unfold matchEs at hm
    have := (and2 (and2 hm).2).2
    unfold matchEs at this
    cases this
  | _ :: _ :: _, _, hl, _ => simp at hl
section
variable {X : Cx} {ga : Str → Addr} {Z : Addr → Prop} {H0 : Hp} {S0 : Sto} {G : Gc} {x : XW}
theorem cst_v {d : D} {c : Const} {k : Nat} {pos : Pos} (h : cstB d c = true) : PE X (.Constant c k pos) (tD (cc X ga Z) H0 S0 (wE G x (.cst d))) := by
  have imp : ∀ v, (∀ H S, RelD (cc X ga Z) H S d v) → ∀ σ H Q, tD (cc X ga Z) H0 S0 (wE G x (.cst d)) σ H Q → tC v σ H Q := fun v hv σ H Q q => by
    obtain ⟨σd, S, rs, rp, ex, w⟩ := q
    unfold wE at w
    exact w H v rp (Ext.refl _ _) (hv H S)
  cases d with
  | non => cases c <;> first | exact PE.imp pe_non (imp _ fun _ _ => mk_non) | cases h
  | bl b =>
    cases c with
    | bool b' =>
      obtain rfl := beq_iff_eq.mp (show (b == b') = true from h)
      exact PE.imp pe_bl (imp _ fun _ _ => mk_bl)
    | _ => cases h
  | int b =>
    cases c with
    | int b' =>
      obtain rfl := of_decide_eq_true (show decide (b = b') = true from h)
      exact PE.imp pe_int (imp _ fun _ _ => mk_int)
    | _ => cases h
  | str b =>
    cases c with
    | str b' =>
      obtain ⟨h1, h2⟩ := and2 (show (decide (b = b') && PySem.PyData.strOk b) = true from h)
      obtain rfl := of_decide_eq_true h1
      exact PE.imp pe_str (imp _ fun _ _ => mk_str h2)
    | _ => cases h
  | _ => cases c <;> cases h
end
theorem blk_to {X : Cx} {sc scope : Scope} {own : List (Str × Nat)} (h : Sck X sc) (b : BlkOk X.N sc scope own) : BlkOk X.N X.env.scope scope own := ⟨b.kind, b.uniq, b.ix, fun y hy hf => by
  rcases b.free y hy hf with q | q
  · obtain ⟨k', h1, h2⟩ := h.look _ _ q
    rcases h2 with rfl | ⟨z, _⟩
    · exact .inl h1
    · cases z
  · obtain ⟨k', h1, h2⟩ := h.look _ _ q
    rcases h2 with rfl | ⟨_, rfl⟩
    · exact .inr h1
    · exact .inl h1, b.own⟩
mutual
theorem soundE : ∀ (m : ME) {X : Cx} {sc : Scope} {ga : Str → Addr} {Z : Addr → Prop} {H0 : Hp} {S0 : Sto} {G : Gc} {x : XW}, Gd X sc ga Z H0 S0 G x → ∀ {e : Expr}, matchE X.N sc m e = true →
    PE X e (tD (cc X ga Z) H0 S0 (wE G x m)) ∧ PT X e (tDT (cc X ga Z) H0 S0 (wE G x m))
  | .var i, X, sc, ga, Z, H0, S0, G, x, g, e, h => by
    unfold matchE at h
    cases e with
    | Name y p =>
      obtain ⟨h1, h2⟩ := and2 h
      obtain ⟨h2, h3⟩ := and2 h2
      obtain ⟨h3, _⟩ := and2 h3
      obtain ⟨h3, h4⟩ := and2 h3
      have pe : PE X (.Name y p) (tD (cc X ga Z) H0 S0 (wE G x (.var i))) := PE.imp (pe_var (of_decide_eq_true h1) (g.sck.vis h2) (by simpa using h3) (by simpa using h4)) fun σ H Q q => by
        obtain ⟨σd, S, rs, rp, ex, w⟩ := q
        unfold wE at w
        obtain ⟨d, hd, w⟩ := w
        obtain ⟨v, hv, rv⟩ := rs.2 i d hd
        exact ⟨v, hv, w H v rp (Ext.refl _ _) rv⟩
      exact ⟨pe, pt_of pe rfl⟩
    | _ => cases h
  | .cst d, X, sc, ga, Z, H0, S0, G, x, g, e, h => by
    unfold matchE at h
    cases e with
    | Constant c k pos =>
      have pe := cst_v (X := X) (ga := ga) (Z := Z) (H0 := H0) (S0 := S0) (G := G) (x := x) (k := k) (pos := pos) h
      exact ⟨pe, pt_of pe rfl⟩
    | Name y p =>
      cases d with
      | ty n =>
        obtain ⟨h1, h2⟩ := and2 h
        obtain ⟨h2, h3⟩ := and2 h2
        obtain rfl := of_decide_eq_true h1
        obtain ⟨b1, b2, b3⟩ := tys_boot n h3
        have pe : PE X (.Name (Str.ofString n) p) (tD (cc X ga Z) H0 S0 (wE G x (.cst (.ty n)))) := PE.imp (pe_bltn (v := .ty n) (g.sck.glo h2) (g.tys n h3) b1 rfl b2 b3) fun σ H Q q => by
          obtain ⟨σd, S, rs, rp, ex, w⟩ := q
          unfold wE at w
          exact w H _ rp (Ext.refl _ _) (by unfold RelD; rfl)
        exact ⟨pe, pt_of pe rfl⟩
      | _ => cases h
    | _ => cases h
  | .glo n, X, sc, ga, Z, H0, S0, G, x, g, e, h => by
    unfold matchE at h
    cases e with
    | Name y p =>
      obtain ⟨h1, h2⟩ := and2 h
      obtain ⟨h2, h3⟩ := and2 h2
      obtain ⟨h3, _⟩ := and2 h3
      obtain ⟨h3, h4⟩ := and2 h3
      obtain rfl := of_decide_eq_true h1
      have pe : PE X (.Name y p) (tD (cc X ga Z) H0 S0 (wE G x (.glo y))) := by
        cases hc : G.con y with
        | none =>
          refine ⟨fun pins s σ H Q I q => ?_⟩
          obtain ⟨σd, S, rs, rp, ex, w⟩ := q
          unfold wE at w
          obtain ⟨d, hd, w⟩ := w
          rw [hc] at hd; cases hd
        | some d =>
          obtain ⟨v, u, hm, rv, rd⟩ := g.con y d hc
          refine PE.imp (pe_glob (v := v) (g.sck.glo h2) hm rv (by simpa using h3)) fun σ H Q q => ?_
          obtain ⟨σd, S, rs, rp, ex, w⟩ := q
          unfold wE at w
          obtain ⟨d', hd, w⟩ := w
          rw [hc] at hd; cases hd
          exact w H _ rp (Ext.refl _ _) (rd Z H S)
      exact ⟨pe, pt_of pe rfl⟩
    | _ => cases h
  | .bin o m a b, X, sc, ga, Z, H0, S0, G, x, g, e, h => by
    unfold matchE at h
    cases e with
    | BinOp l o' r pos =>
      obtain ⟨h1, h2⟩ := and2 h
      obtain ⟨h2, h3⟩ := and2 h2
      obtain rfl := of_decide_eq_true h1
      have pe := bin_v (pos := pos) (o := o) (m := m) (soundE a g h2).1 (soundE b g h3).1
      exact ⟨pe, pt_of pe rfl⟩
    | _ => cases h
  | .neg a, X, sc, ga, Z, H0, S0, G, x, g, e, h => by
    unfold matchE at h
    cases e with
    | UnaryOp o l pos =>
      cases o with
      | USub =>
        have pe := neg_v (pos := pos) (soundE a g h).1
        exact ⟨pe, pt_of pe rfl⟩
      | _ => cases h
    | _ => cases h
  | .not a, X, sc, ga, Z, H0, S0, G, x, g, e, h => by
    unfold matchE at h
    cases e with
    | UnaryOp o l pos =>
      cases o with
      | Not => exact ⟨not_v (soundE a g h).1, not_t (soundE a g h).2⟩
      | _ => cases h
    | _ => cases h
  | .cmp o a b, X, sc, ga, Z, H0, S0, G, x, g, e, h => by
    unfold matchE at h
    cases e with
    | Compare l os cs pos =>
      match os, cs, h with
      | [o'], [r], h =>
        obtain ⟨h1, h2⟩ := and2 h
        obtain ⟨h2, h3⟩ := and2 h2
        obtain ⟨h3, h4⟩ := and2 h3
        obtain rfl := of_decide_eq_true h1
        exact ⟨cmp_v g.room h2 (soundE a g h3).1 (soundE b g h4).1, cmp_t g.room h2 (soundE a g h3).1 (soundE b g h4).1⟩
      | [], _, h => cases h
      | _ :: _ :: _, _, h => cases h
      | [_], [], h => cases h
      | [_], _ :: _ :: _, h => cases h
    | _ => cases h
  | .cmp2 o p a b c, X, sc, ga, Z, H0, S0, G, x, g, e, h => by
    unfold matchE at h
    cases e with
    | Compare l os cs pos =>
      match os, cs, h with
      | [o', p'], [r, z], h =>
        obtain ⟨h1, h⟩ := and2 h
        obtain ⟨h2, h⟩ := and2 h
        obtain ⟨h3, h⟩ := and2 h
        obtain ⟨h4, h⟩ := and2 h
        obtain ⟨h5, h6⟩ := and2 h
        obtain rfl := of_decide_eq_true h1
        obtain rfl := of_decide_eq_true h2
        exact ⟨cmp2_v g.room h3 (soundE a g h4).1 (soundE b g h5).1 (soundE c g h6).1, cmp2_t g.room h3 (soundE a g h4).1 (soundE b g h5).1 (soundE c g h6).1⟩
      | [], _, h => cases h
      | [_], _, h => cases h
      | _ :: _ :: _ :: _, _, h => cases h
      | [_, _], [], h => cases h
      | [_, _], [_], h => cases h
      | [_, _], _ :: _ :: _ :: _, h => cases h
    | _ => cases h
  | .and a b, X, sc, ga, Z, H0, S0, G, x, g, e, h => by
    unfold matchE at h
    cases e with
    | BoolOp op vs pos =>
      cases op with
      | And =>
        match vs, h with
        | [l, r], h =>
          obtain ⟨h1, h2⟩ := and2 h
          exact ⟨and_v (soundE a g h1).1 (pe_one (soundE b g h2).1), and_t (soundE a g h1).2 (pw_and1 (soundE b g h2).2).pt⟩
        | l :: r :: z :: q, h =>
          obtain ⟨h1, h2⟩ := and2 h
          exact ⟨and_v (soundE a g h1).1 (soundE b g h2).1, and_t (soundE a g h1).2 (soundE b g h2).2⟩
        | [], h => cases h
        | [_], h => cases h
      | Or => cases h
    | _ => cases h
  | .or a b, X, sc, ga, Z, H0, S0, G, x, g, e, h => by
    unfold matchE at h
    cases e with
    | BoolOp op vs pos =>
      cases op with
      | Or =>
        match vs, h with
        | [l, r], h =>
          obtain ⟨h1, h2⟩ := and2 h
          exact ⟨or_v (soundE a g h1).1 (pe_one (soundE b g h2).1), or_t (soundE a g h1).2 (pw_or1 (soundE b g h2).2).pt⟩
        | l :: r :: z :: q, h =>
          obtain ⟨h1, h2⟩ := and2 h
          exact ⟨or_v (soundE a g h1).1 (soundE b g h2).1, or_t (soundE a g h1).2 (soundE b g h2).2⟩
        | [], h => cases h
        | [_], h => cases h
      | And => cases h
    | _ => cases h
  | .ifx c a b, X, sc, ga, Z, H0, S0, G, x, g, e, h => by
    unfold matchE at h
    cases e with
    | IfExp c' a' b' pos =>
      obtain ⟨h1, h⟩ := and2 h
      obtain ⟨h2, h3⟩ := and2 h
      refine ⟨ifx_v (soundE c g h1).2 (soundE a g h2).1 (soundE b g h3).1, PT.imp (pt_ifx (soundE c g h1).2 (soundE a g h2).2 (soundE b g h3).2) fun σ H Q q => ?_⟩
      obtain ⟨σd, S, rs, rp, ex, w⟩ := q
      unfold wE at w
      refine ⟨σd, S, rs, rp, ex, wE_mono (fun u S1 q => ?_) c σd S w⟩
      obtain ⟨z, h1, h2⟩ := q
      refine ⟨z, h1, fun H1 rp1 e1 => ?_⟩
      have tr : ∀ (m : ME), wE G x m σd S1 (fun d S' => ∃ b, tru S' d = some b ∧ ∀ H', Rp (cc X ga Z) H' S' → Ext H S H' S' → Q b H') → tDT (cc X ga Z) H0 S0 (wE G x m) σ H1 Q := fun m w => by
        refine ⟨σd, S1, rs.ext e1, rp1, ex.trans e1, wE_mono (fun d S' q => ?_) m σd S1 w⟩
        obtain ⟨b, h3, h4⟩ := q
        exact ⟨b, h3, fun H' rp' e' => h4 H' rp' (e1.trans e')⟩
      cases z with
      | true => exact tr a h2
      | false => exact tr b h2
    | _ => cases h
  | .idx a i, X, sc, ga, Z, H0, S0, G, x, g, e, h => by
    unfold matchE at h
    cases e with
    | Subscript l r pos =>
      obtain ⟨h1, h⟩ := and2 h
      obtain ⟨h2, h3⟩ := and2 h
      have pe := idx_v (pos := pos) g.room h1 (soundE a g h2).1 (soundE i g h3).1
      exact ⟨pe, pt_of pe rfl⟩
    | _ => cases h
  | .slL m a lo, X, sc, ga, Z, H0, S0, G, x, g, e, h => by
    unfold matchE at h
    cases e with
    | Subscript l r pos =>
      cases r with
      | Slice l1 l2 l3 p2 =>
        match l1, l2, l3, h with
        | some q1, none, none, h =>
          obtain ⟨h1, h2⟩ := and2 h
          have pe := slL_v (pos := pos) (p2 := p2) (m := m) (soundE a g h1).1 (soundE lo g h2).1
          exact ⟨pe, pt_of pe rfl⟩
        | none, _, _, h => cases h
        | some _, some _, _, h => cases h
        | some _, none, some _, h => cases h
      | _ => cases h
    | _ => cases h
  | .slU m a lo, X, sc, ga, Z, H0, S0, G, x, g, e, h => by
    unfold matchE at h
    cases e with
    | Subscript l r pos =>
      cases r with
      | Slice l1 l2 l3 p2 =>
        match l1, l2, l3, h with
        | none, some q1, none, h =>
          obtain ⟨h1, h2⟩ := and2 h
          have pe := slU_v (pos := pos) (p2 := p2) (m := m) (soundE a g h1).1 (soundE lo g h2).1
          exact ⟨pe, pt_of pe rfl⟩
        | some _, _, _, h => cases h
        | none, none, _, h => cases h
        | none, some _, some _, h => cases h
      | _ => cases h
    | _ => cases h
  | .slLU m a lo hi, X, sc, ga, Z, H0, S0, G, x, g, e, h => by
    unfold matchE at h
    cases e with
    | Subscript l r pos =>
      cases r with
      | Slice l1 l2 l3 p2 =>
        match l1, l2, l3, h with
        | some q1, some q2, none, h =>
          obtain ⟨h1, h⟩ := and2 h
          obtain ⟨h2, h3⟩ := and2 h
          have pe := slLU_v (pos := pos) (p2 := p2) (m := m) (soundE a g h1).1 (soundE lo g h2).1 (soundE hi g h3).1
          exact ⟨pe, pt_of pe rfl⟩
        | none, _, _, h => cases h
        | some _, none, _, h => cases h
        | some _, some _, some _, h => cases h
      | _ => cases h
    | _ => cases h
  | .tup es, X, sc, ga, Z, H0, S0, G, x, g, e, h => by
    unfold matchE at h
    cases e with
    | Tuple es' k pos =>
      have pe := tup_v (k := k) (pos := pos) (soundEs es g h)
      exact ⟨pe, pt_of pe rfl⟩
    | _ => cases h
  | .lst m es, X, sc, ga, Z, H0, S0, G, x, g, e, h => by
    unfold matchE at h
    cases e with
    | List es' pos =>
      have pe := lst_v (pos := pos) (m := m) (soundEs es g h)
      exact ⟨pe, pt_of pe rfl⟩
    | _ => cases h
  | .blt f m es, X, sc, ga, Z, H0, S0, G, x, g, e, h => by
    unfold matchE at h
    cases e with
    | Call fn as ks pos =>
      cases fn with
      | Name y p =>
        cases ks with
        | nil =>
          obtain ⟨h1, h⟩ := and2 h
          obtain ⟨h2, h⟩ := and2 h
          obtain ⟨h3, h4⟩ := and2 h
          obtain rfl := of_decide_eq_true h1
          obtain ⟨a, r, rfl⟩ := isEmpty_cons h3
          have pe := blt_v (p := p) (pos := pos) (m := m) g h2 h4 (soundEs es g h4)
          exact ⟨pe, pt_of pe rfl⟩
        | cons k ks => cases h
      | _ => cases h
    | _ => cases h
  | .bm f m o es, X, sc, ga, Z, H0, S0, G, x, g, e, h => by
    unfold matchE at h
    cases e with
    | Call fn as ks pos =>
      cases fn with
      | Attribute o' y ap =>
        cases ks with
        | nil =>
          obtain ⟨h1, h⟩ := and2 h
          obtain ⟨h2, h⟩ := and2 h
          obtain ⟨h3, h⟩ := and2 h
          obtain ⟨h4, h⟩ := and2 h
          obtain ⟨h5, h⟩ := and2 h
          obtain ⟨h6, h7⟩ := and2 h
          obtain rfl := of_decide_eq_true h1
          obtain ⟨a, r, rfl⟩ := isEmpty_cons h5
          have h4 := of_decide_eq_true h4
          have pe := bm_v (f := f) (m := m) (ap := ap) (pos := pos) g.room h2 h3 (by rw [List.length_cons] at h4; omega) h7 (soundE o g h6).1 (soundEs es g h7)
          exact ⟨pe, pt_of pe rfl⟩
        | cons k ks => cases h
      | _ => cases h
    | _ => cases h
  | .call f es, X, sc, ga, Z, H0, S0, G, x, g, e, h => by
    unfold matchE at h
    cases e with
    | Call fn as ks pos =>
      cases fn with
      | Name y p =>
        cases ks with
        | nil =>
          obtain ⟨h1, h⟩ := and2 h
          obtain ⟨h2, h⟩ := and2 h
          obtain ⟨h3, h⟩ := and2 h
          obtain ⟨h4, h5⟩ := and2 h
          obtain rfl := of_decide_eq_true h1
          obtain ⟨a, r, rfl⟩ := isEmpty_cons h4
          have pe := call_v (p := p) (pos := pos) g h2 h3 h5 (soundEs es g h5)
          exact ⟨pe, pt_of pe rfl⟩
        | cons k ks => cases h
      | _ => cases h
    | _ => cases h
  | .lc i m t as c el, X, sc, ga, Z, H0, S0, G, x, g, e, h => by
    unfold matchE at h
    cases e with
    | ListComp elt gens scope pos =>
      match gens, h with
      | [⟨tg, iter, ifs, ay⟩], h =>
        obtain ⟨h1, hh⟩ := and2 h
        clear h
        obtain ⟨h2, h⟩ := and2 hh
        obtain ⟨h3, h⟩ := and2 h
        obtain ⟨h4, h⟩ := and2 h
        obtain ⟨h5, h⟩ := and2 h
        obtain ⟨h6, h⟩ := and2 h
        obtain ⟨h7, h8⟩ := and2 h
        obtain rfl := of_decide_eq_true h1
        have ok := blk_to g.sck (blkOk_by h2)
        have hi : PI X tg iter (wiD (cc X ga Z) H0 S0 G x i as) := by
          match i, h8 with
          | 0, h8 =>
            have hl : as.length = 1 := matchEs_len h8
            obtain ⟨a, ha⟩ := List.length_eq_one_iff.mp hl
            have pe := (soundQs as g h8 0 a iter (by rw [ha]; rfl) rfl).1
            rw [ha]
            exact pi_val pe
          | 1, h8 =>
            cases iter with
            | Call fn as' ks p2 =>
              cases fn with
              | Name y p =>
                cases ks with
                | nil =>
                  obtain ⟨q1, q⟩ := and2 h8
                  obtain ⟨q2, q⟩ := and2 q
                  obtain ⟨q3, q4⟩ := and2 q
                  obtain rfl := of_decide_eq_true q1
                  exact pi_rng g q2 (of_decide_eq_true q3) q4 (soundEs as g q4)
                | cons k ks => cases h8
              | _ => cases h8
            | _ => cases h8
          | 2, h8 =>
            cases iter with
            | Call fn as' ks p2 =>
              cases fn with
              | Name y p =>
                cases ks with
                | nil =>
                  obtain ⟨q1, q⟩ := and2 h8
                  obtain ⟨q2, q⟩ := and2 q
                  obtain ⟨q3, q⟩ := and2 q
                  obtain ⟨q4, q5⟩ := and2 q
                  obtain rfl := of_decide_eq_true q1
                  cases tg with
                  | Tuple elts kk tp => exact pi_enm g q2 (of_decide_eq_true q3) q5 (soundEs as g q5)
                  | _ => cases q4
                | cons k ks => cases h8
              | _ => cases h8
            | _ => cases h8
          | 3, h8 =>
            cases iter with
            | Call fn as' ks p2 =>
              cases fn with
              | Name y p =>
                cases ks with
                | nil =>
                  obtain ⟨q1, q⟩ := and2 h8
                  obtain ⟨q2, q⟩ := and2 q
                  obtain ⟨q3, q⟩ := and2 q
                  obtain ⟨q4, q5⟩ := and2 q
                  obtain rfl := of_decide_eq_true q1
                  cases tg with
                  | Tuple elts kk tp => exact pi_zp g q2 (of_decide_eq_true q3) q5 (soundEs as g q5)
                  | _ => cases q4
                | cons k ks => cases h8
              | _ => cases h8
            | _ => cases h8
          | n + 4, h8 => cases h8
        have pe : PE X (.ListComp elt [⟨tg, iter, ifs, 0⟩] scope pos) (tD (cc X ga Z) H0 S0 (wE G x (.lc i m t as c el))) := by
          refine PE.imp (pe_lc (te := tDx X ga (wE G noX el)) (tt := tCx X ga G c) (g := gDx X ga t) g.calm g.nd hi ok (fun s H Ca cl fp => ?_) (fun s H Ca cl fp => ?_) (fun s H Ca cl fp => ?_) (notSet_fold h7)) fun σ H Q q => ?_
          · exact PG.ex fun Z' => soundG (g.blk ok.kind s H Ca cl fp Z' H0 S0) t h3
          · refine pts_of (X := X.blk s H scope (compEnvC scope cl Ca X.env) fp) (sc := scope) (of_decide_eq_true h6) h4 fun m' hc e' he Z' H0' S0' => ?_
            exact (soundQs c (g.blk ok.kind s H Ca cl fp Z' H0' S0') h4 0 m' e' (by rw [hc]; rfl) (by rw [he]; rfl)).2
          · exact PE.ex fun Z' => PE.ex fun H0' => PE.ex fun S0' => (soundE el (g.blk ok.kind s H Ca cl fp Z' H0' S0') h5).1
          · have eo : (((slots t).map fun i => (X.N.getD i "", i)).map (·.2)) = slots t := by
              rw [List.map_map]; exact List.map_id _
            rw [eo]
            exact lc_imp q
        exact ⟨pe, pt_of pe rfl⟩
      | [], h => cases h
      | ⟨_, _, _, _⟩ :: _ :: _, h => cases h
    | _ => cases h
  | .frz a, X, sc, ga, Z, H0, S0, G, x, g, e, h => by
    unfold matchE at h
    obtain ⟨p1, p2⟩ := soundE a g h
    refine ⟨PE.imp p1 fun σ H Q q => ?_, PT.imp p2 fun σ H Q q => ?_⟩
    · obtain ⟨σd, S, rs, rp, ex, w⟩ := q
      unfold wE at w
      refine ⟨σd, S, rs, rp, ex, wE_mono (fun u S1 q H1 v rp1 e1 r1 => ?_) a σd S w⟩
      obtain ⟨p, ds, rfl, h1, h2⟩ := q
      unfold RelD at r1
      subst r1
      obtain ⟨o, h3, h4⟩ := rp1.obj p _ h1
      obtain ⟨vs, rfl, r⟩ := h4
      refine h2 H1 _ rp1.rm (e1.trans Ext.rm) ?_
      unfold RelD
      exact ⟨p, vs, rfl, ⟨h3, rm_same, fun z => by rw [(rp1.z p z).2] at h1; cases h1⟩, r.ext Ext.rm⟩
    · obtain ⟨σd, S, rs, rp, ex, w⟩ := q
      unfold wE at w
      refine ⟨σd, S, rs, rp, ex, wE_mono (fun u S1 q => ?_) a σd S w⟩
      obtain ⟨p, ds, rfl, h1, b, h2, h3⟩ := q
      refine ⟨b, ?_, fun H' rp' e' => h3 H' rp'.rm (e'.trans Ext.rm)⟩
      show (lstAt S1 p).map (fun ds => !ds.isEmpty) = some b
      rw [lstAt_of h1]
      exact h2
  | .att o f, X, sc, ga, Z, H0, S0, G, x, g, e, h => by
    unfold matchE at h
    cases e with
    | Attribute o' y p =>
      obtain ⟨h1, h⟩ := and2 h
      obtain ⟨h2, h3⟩ := and2 h
      obtain rfl := of_decide_eq_true h1
      have pe := att_v (pos := p) (f := y) g h2 (soundE o g h3).1
      exact ⟨pe, pt_of pe rfl⟩
    | _ => cases h
  | .mth c o m es, X, sc, ga, Z, H0, S0, G, x, g, e, h => by
    unfold matchE at h
    cases e with
    | Call fn as ks pos =>
      cases fn with
      | Attribute o' y ap =>
        cases ks with
        | nil =>
          obtain ⟨h1, h⟩ := and2 h
          obtain ⟨h2, h⟩ := and2 h
          obtain ⟨h3, h⟩ := and2 h
          obtain ⟨h4, h⟩ := and2 h
          obtain ⟨h5, h6⟩ := and2 h
          obtain rfl := of_decide_eq_true h1
          have pe := mth_v (c := c) (ap := ap) (pos := pos) (m := y) g h2 h3 (of_decide_eq_true h4) h6 (soundE o g h5).1 (soundEs es g h6)
          exact ⟨pe, pt_of pe rfl⟩
        | cons k ks => cases h
      | _ => cases h
    | _ => cases h
  | .mk c es, X, sc, ga, Z, H0, S0, G, x, g, e, h => by
    unfold matchE at h
    cases e with
    | Call fn as ks pos =>
      cases fn with
      | Name y p =>
        cases ks with
        | nil =>
          obtain ⟨h1, h⟩ := and2 h
          obtain ⟨h2, h⟩ := and2 h
          obtain ⟨h3, h4⟩ := and2 h
          obtain rfl := of_decide_eq_true h1
          have pe := mk_v (p := p) (pos := pos) (c := y) g h2 h3 h4 (soundEs es g h4)
          exact ⟨pe, pt_of pe rfl⟩
        | cons k ks => cases h
      | _ => cases h
    | _ => cases h
  | .dct kvs, X, sc, ga, Z, H0, S0, G, x, g, e, h => by
    unfold matchE at h
    cases e with
    | Dict ks vs pos =>
      obtain ⟨h1, h2⟩ := and2 h
      have pe := dct_v (X := X) (ga := ga) (Z := Z) (H0 := H0) (S0 := S0) (G := G) (x := x) (pos := pos) h1 (of_decide_eq_true h2)
      exact ⟨pe, pt_of pe rfl⟩
    | _ => cases h
  | .bad, X, sc, ga, Z, H0, S0, G, x, g, e, h => by
    refine ⟨⟨fun pins s σ H Q I q => ?_⟩, ⟨fun pins s σ H Q I q => ?_⟩⟩
    · obtain ⟨σd, S, rs, rp, ex, w⟩ := q
      unfold wE at w
      exact w.elim
    · obtain ⟨σd, S, rs, rp, ex, w⟩ := q
      unfold wE at w
      exact w.elim
theorem soundEs : ∀ (ms : List ME) {X : Cx} {sc : Scope} {ga : Str → Addr} {Z : Addr → Prop} {H0 : Hp} {S0 : Sto} {G : Gc} {x : XW}, Gd X sc ga Z H0 S0 G x → ∀ {es : List Expr}, matchEs X.N sc ms es = true → PA X es (tDA (cc X ga Z) H0 S0 (wEs G x ms))
  | [], X, sc, ga, Z, H0, S0, G, x, g, [], h => by
    refine PA.imp pa_nil fun σ H Q q => ?_
    obtain ⟨σd, S, rs, rp, ex, w⟩ := q
    unfold wEs at w
    exact w H [] rp (Ext.refl _ _) RelDs.nil
  | [], X, sc, ga, Z, H0, S0, G, x, g, _ :: _, h => by unfold matchEs at h; cases h
  | _ :: _, X, sc, ga, Z, H0, S0, G, x, g, [], h => by unfold matchEs at h; cases h
  | m :: ms, X, sc, ga, Z, H0, S0, G, x, g, e :: es, h => by
    unfold matchEs at h
    obtain ⟨h1, h⟩ := and2 h
    obtain ⟨h2, h3⟩ := and2 h
    refine PA.imp (pa_cons (soundE m g h2).1 (soundEs ms g h3) (starEach_cons h1)) fun σ H Q q => ?_
    obtain ⟨σd, S, rs, rp, ex, w⟩ := q
    unfold wEs at w
    refine ⟨σd, S, rs, rp, ex, wE_mono (fun d S1 q H1 v rp1 e1 r1 => ⟨σd, S1, rs.ext e1, rp1, ex.trans e1, wEs_mono (fun ds S2 q H2 vs rp2 e2 r2 => ?_) ms σd S1 q⟩) m σd S w⟩
    exact q H2 (v :: vs) rp2 (e1.trans e2) (RelDs.cons (r1.ext e2) r2)
theorem soundQs : ∀ (ms : List ME) {X : Cx} {sc : Scope} {ga : Str → Addr} {Z : Addr → Prop} {H0 : Hp} {S0 : Sto} {G : Gc} {x : XW}, Gd X sc ga Z H0 S0 G x → ∀ {es : List Expr}, matchEs X.N sc ms es = true → ∀ (k : Nat) (m : ME) (e : Expr), ms[k]? = some m → es[k]? = some e →
    PE X e (tD (cc X ga Z) H0 S0 (wE G x m)) ∧ PT X e (tDT (cc X ga Z) H0 S0 (wE G x m))
  | [], X, sc, ga, Z, H0, S0, G, x, g, _, h, k, m, e, hm, _ => by simp at hm
  | _ :: _, X, sc, ga, Z, H0, S0, G, x, g, [], h, k, m, e, _, he => by simp at he
  | m0 :: ms, X, sc, ga, Z, H0, S0, G, x, g, e0 :: es, h, 0, m, e, hm, he => by
    unfold matchEs at h
    have r := soundE m0 g (and2 (and2 h).2).1
    have e1 : m0 = m := by simpa using hm
    have e2 : e0 = e := by simpa using he
    rw [← e1, ← e2]
    exact r
  | m0 :: ms, X, sc, ga, Z, H0, S0, G, x, g, e0 :: es, h, k + 1, m, e, hm, he => by
    unfold matchEs at h
    exact soundQs ms g (and2 (and2 h).2).2 k m e (by simpa using hm) (by simpa using he)
end
end Mn

namespace Mn
open PySem L2
/-! ### except suites: the text -/
def isArg (N : List Str) (sc : Scope) (sl : Option Nat) (c : Str) : List Expr → Bool
  | [.Name n _, .Name x _] => decide (x = c) && (gloB sc x && (dbgB x && (visB sc n && (dbgB n && (match sl with
    | some i => decide (N[i]? = some n)
    | none => false)))))
  | _ => false
theorem isArg_inv {N : List Str} {sc : Scope} {sl : Option Nat} {c : Str} {as : List Expr} (h : isArg N sc sl c as = true) : ∃ n p1 p2 i, as = [.Name n p1, .Name c p2] ∧ gloB sc c = true ∧ dbgB c = true ∧ visB sc n = true ∧ dbgB n = true ∧ sl = some i ∧ N[i]? = some n := by
  unfold isArg at h
  split at h
  · rename_i n p1 x p2
    obtain ⟨h3, h⟩ := and2 h
    obtain ⟨h4, h⟩ := and2 h
    obtain ⟨h5, h⟩ := and2 h
    obtain ⟨h6, h⟩ := and2 h
    obtain ⟨h7, h8⟩ := and2 h
    have e := of_decide_eq_true h3
    subst e
    cases sl with
    | none => cases h8
    | some i => exact ⟨n, p1, p2, i, rfl, h4, h5, h6, h7, rfl, of_decide_eq_true h8⟩
  · cases h
mutual
def matchQ (N : List Str) (sc : Scope) (sl : Option Nat) : QE → Expr → Bool
  | .var i, e => match e with
    | .Name x _ => decide (N[i]? = some x) && (visB sc x && dbgB x)
    | _ => false
  | .cst d, e => match e with
    | .Constant c _ _ => cstB d c
    | _ => false
  | .isE c, e => match e with
    | .Call (.Name y _) as [] _ => decide (y = "isinstance") && (gloB sc y && isArg N sc sl c as)
    | _ => false
  | .fld f, e => match e with
    | .Attribute (.Name n _) x _ => decide (x = f) && (visB sc n && (dbgB n && (match sl with
      | some i => decide (N[i]? = some n)
      | none => false)))
    | _ => false
  | .tup es, e => match e with
    | .Tuple es' _ _ => matchQs N sc sl es es'
    | _ => false
  | .lst es, e => match e with
    | .List es' _ => matchQs N sc sl es es'
    | _ => false
  | .add a b, e => match e with
    | .BinOp l .Add r _ => matchQ N sc sl a l && matchQ N sc sl b r
    | _ => false
  | .idx a i, e => match e with
    | .Subscript l r _ => notSl r && (matchQ N sc sl a l && matchQ N sc sl i r)
    | _ => false
  | .int a, e => match e with
    | .Call (.Name y _) [r] [] _ => decide (y = "int") && (gloB sc y && (notStar r && matchQ N sc sl a r))
    | _ => false
def matchQs (N : List Str) (sc : Scope) (sl : Option Nat) : List QE → List Expr → Bool
  | [], es => es.isEmpty
  | m :: ms, es => match es with
    | e :: es => notStar e && (matchQ N sc sl m e && matchQs N sc sl ms es)
    | [] => false
end
mutual
def matchZ (N : List Str) (sc : Scope) (sl : Option Nat) : QS → Stmt → Bool
  | .asg i e, st => match st with
    | .Assign [.Name y _] v _ => decide (N[i]? = some y) && (locB sc y && (notLc v && (decide (sl ≠ some i) && matchQ N sc sl e v)))
    | _ => false
  | .ret e, st => match st with
    | .Return (some v) _ => matchQ N sc sl e v
    | _ => false
  | .ite c a, st => match st with
    | .If c' a' [] _ => notTest c' && (matchQ N sc sl c c' && matchZs N sc sl a a')
    | _ => false
def matchZs (N : List Str) (sc : Scope) (sl : Option Nat) : List QS → List Stmt → Bool
  | [], sts => sts.isEmpty
  | s :: r, sts => match sts with
    | st :: sts => matchZ N sc sl s st && matchZs N sc sl r sts
    | [] => false
end
/-! ### .. and its reading -/
def rIs2 (K : PySem.W.Frag) (D a dd : Addr) : List V → Hp → VK → Prop := fun xs H Q => ∃ (c : Addr) (b : Bool), xs = [.ref a, .ref c] ∧ PySem.W.kitOne K (.ref D) (.ref c) = some b ∧ (∃ fs, H dd = some (.xd fs)) ∧ Q (.bl b) H
theorem call_is2 {X : Cx} {a D dd : Addr} {oe : Obj} {pn : List (Addr × Obj)} (C : ExcC X.K D) (hz : Zc (.ref D) (some dd) oe) (hf : ∃ vs, oe.data = .fields vs) : CallR (X.suite a ((a, oe) :: pn)) (.builtin "isinstance") (rIs2 X.K D a dd) := by
  intro pins s σ H xs us Q I r h
  obtain ⟨c, b, rfl, e, ⟨fs, hd⟩, q⟩ := h
  obtain ⟨u1, u2, rfl, r1, r2⟩ := vals2 r
  cases r1; cases r2
  have hget := (I.pin (a, oe) (List.mem_append.mpr (.inl List.mem_cons_self))).1
  obtain ⟨vs, hv⟩ := hf
  obtain ⟨od, ho⟩ : ∃ od, s.heap.get? dd = some od := by
    obtain ⟨mA, hns, _⟩ := (show ObjOk X.prog X.w H s.heap dd (.xd fs) from I.hok dd _ hd)
    obtain ⟨o, _, _, h1, _⟩ := hns
    exact ⟨o, h1⟩
  have J : PySem.W.InstAt s.heap a oe D (some od) := ⟨hget, hz.1, by unfold PySem.W.notCls; rw [hv] <;> rfl, by rw [hz.2]; exact ho⟩
  have hcl : (PySem.W.clsIn X.K D).isSome = true := by
    have h1 := C.hd
    unfold PySem.W.hasDictIn at h1
    cases q : PySem.W.clsIn X.K D with
    | none => rw [q] at h1; cases h1
    | some cd => rfl
  exact PySem.W.kia_one (PySem.W.kitx_exc hcl C.hg C.hk C.hs C.ha C.hn C.ht C.hm) I.kIn J e (fun z => nomatch z) fun tk => ⟨.bl b, H, I.kept (t' := tk) fun _ _ z => z, rfl, q⟩
def slA (sl : Option Nat) (a : Addr) (σ : St) : Prop := ∀ i, sl = some i → σ[i]? = some (some (.ref a))
def wQ (G : Gc) (ex : Exc) (e : QE) : W1 := fun σ S k => ∃ d, evQ G ex e σ = some d ∧ k d S
def wQs (G : Gc) (ex : Exc) (es : List QE) : Env → Sto → (List D → Sto → Prop) → Prop := fun σ S k => ∃ ds, evQs G ex es σ = some ds ∧ k ds S
def tQ (C : Cc) (H0 : Hp) (S0 : Sto) (G : Gc) (ex : Exc) (sl : Option Nat) (a : Addr) (e : QE) : TE := fun σ H Q => slA sl a σ ∧ tD C H0 S0 (wQ G ex e) σ H Q
def tQA (C : Cc) (H0 : Hp) (S0 : Sto) (G : Gc) (ex : Exc) (sl : Option Nat) (a : Addr) (es : List QE) : TA := fun σ H Q => slA sl a σ ∧ tDA C H0 S0 (wQs G ex es) σ H Q
/-- where a suite stands -/
structure Gz (X : Cx) (sc : Scope) (ga : Str → Addr) (Z : Addr → Prop) (H0 : Hp) (S0 : Sto) (G : Gc) (ex : Exc) (dd : Addr) (oe : Obj) : Prop where
  nd : X.N.Nodup
  room : X.A.units + 64 < cLine
  sck : Sck X sc
  isi : X.mg "isinstance" = none
  int : X.mg "int" = none
  subs : ∀ c c' b, G.sub c c' = some b → SubAt X ga c c' b
  xfls : ∀ c f, G.xfl c f = true → XfC X.K (ga c) ∧ PySem.W.findIn X.K (.ref (ga c)) f = some none
  fnl : ∀ x, locB sc x = true → X.fn x = true ∨ X.env.scope.names.lookup x = some .local
  rx : RelX (cc X ga Z) H0 S0 ex (.ref (ga ex.cls)) (some dd)
  hz : Zc (.ref (ga ex.cls)) (some dd) oe
  hf : ∃ vs, oe.data = .fields vs
section
variable {X : Cx} {sc : Scope} {ga : Str → Addr} {Z : Addr → Prop} {H0 : Hp} {S0 : Sto} {G : Gc} {ex : Exc} {dd a : Addr} {oe : Obj} {pn : List (Addr × Obj)} {sl : Option Nat}
theorem rx_at (g : Gz X sc ga Z H0 S0 G ex dd oe) {H : Hp} {S : Sto} (e : Ext H0 S0 H S) : ∃ fs, H dd = some (.xd fs) ∧ S dd = none ∧ ∀ f x, ex.fs.lookup f = some x → ∃ v, fs.lookup f = some v ∧ RelD (cc X ga Z) H S x v := by
  obtain ⟨_, d', fs, h1, h2, h3, h4⟩ := g.rx
  cases h1
  obtain ⟨h5, h6⟩ := e _ _ h2 h3
  refine ⟨fs, h5, h6, fun f x hx => ?_⟩
  obtain ⟨v, h7, h8⟩ := h4 f x hx
  exact ⟨v, h7, h8.ext e⟩
/-- two parts -/
theorem tQ_two {f : F2} {ma mb : QE} {σ : St} {H : Hp} {Q : VK} (hs : slA sl a σ) {σd : Env} {S : Sto} (rs : RelS (cc X ga Z) H S σd σ) (rp : Rp (cc X ga Z) H S) (ex0 : Ext H0 S0 H S) {u v : D} (hu : evQ G ex ma σd = some u) (hv : evQ G ex mb σd = some v)
    (hf : ∀ H' , Rp (cc X ga Z) H' S → Ext H S H' S → f u v S (kD (cc X ga Z) H' S Q)) : tOp (rD2 (cc X ga Z) f) (tQ (cc X ga Z) H0 S0 G ex sl a ma) (tQ (cc X ga Z) H0 S0 G ex sl a mb) σ H Q :=
  ⟨hs, σd, S, rs, rp, ex0, u, hu, fun H1 z rp1 e1 r1 => ⟨hs, σd, S, rs.ext e1, rp1, ex0.trans e1, v, hv, fun H2 z2 rp2 e2 r2 => ⟨u, v, S, rp2, r1.ext e2, r2, hf H2 rp2 (e1.trans e2)⟩⟩⟩
theorem evQs_len {ds : List D} : ∀ {es : List QE} {σ : Env}, evQs G ex es σ = some ds → ds.length ≤ sizeLine := by
  intro es σ h
  cases es with
  | nil => unfold evQs at h; cases h; exact Nat.zero_le _
  | cons e es =>
    unfold evQs at h
    split at h
    · obtain ⟨c, rfl⟩ := g?_some h
      exact c
    · cases h
theorem x_ad1 {S : Sto} {x y : Str} (c : x.length + y.length ≤ sizeLine) : binR .Add (.str x) (.str y) S = some (.val (.str (x ++ y))) := if_pos c
theorem x_ad2 {S : Sto} {ds es : List D} (c : ds.length + es.length ≤ sizeLine) : binR .Add (.lst ds) (.lst es) S = some (.newL (ds ++ es)) := if_pos c
mutual
theorem soundQ (g : Gz X sc ga Z H0 S0 G ex dd oe) : ∀ (m : QE) {e : Expr}, matchQ X.N sc sl m e = true → PE (X.suite a ((a, oe) :: pn)) e (tQ (cc X ga Z) H0 S0 G ex sl a m)
  | .var i, e, h => by
    unfold matchQ at h
    cases e with
    | Name y p =>
      obtain ⟨h1, h2⟩ := and2 h
      obtain ⟨h2, h3⟩ := and2 h2
      obtain ⟨h3, _⟩ := and2 h3
      obtain ⟨h3, h4⟩ := and2 h3
      refine PE.imp (pe_var (X := X.suite a ((a, oe) :: pn)) (of_decide_eq_true h1) (g.sck.vis h2) (by simpa using h3) (by simpa using h4)) fun σ H Q q => ?_
      obtain ⟨_, σd, S, rs, rp, e0, d, hd, k⟩ := q
      unfold evQ at hd
      obtain ⟨o, ho, e1⟩ := Option.bind_eq_some_iff.mp hd
      cases (show o = some d from e1)
      obtain ⟨v, hv, rv⟩ := rs.2 i d ho
      exact ⟨v, hv, k H v rp (Ext.refl _ _) rv⟩
    | _ => cases h
  | .cst d, e, h => by
    unfold matchQ at h
    cases e with
    | Constant c k pos =>
      obtain ⟨v, h1, h2⟩ := cst_pe (X := X.suite a ((a, oe) :: pn)) (k := k) (pos := pos) h
      refine PE.imp h1 fun σ H Q q => ?_
      obtain ⟨_, σd, S, rs, rp, e0, d', hd, k⟩ := q
      unfold evQ at hd
      cases hd
      exact k H v rp (Ext.refl _ _) (h2 _ _ _)
    | _ => cases h
  | .isE c, e, h => by
    unfold matchQ at h
    cases e with
    | Call fn as ks pos =>
      cases fn with
      | Name y p =>
        cases ks with
        | cons k ks => cases h
        | nil =>
          obtain ⟨h1, hr⟩ := and2 h
          obtain ⟨h2, hq⟩ := and2 hr
          clear h hr
          obtain rfl := of_decide_eq_true h1
          obtain ⟨n, p1, p2, i, rfl, h4, h5, h6, h7, hsl, hN⟩ := isArg_inv hq
          obtain ⟨h7, _⟩ := and2 h7
          obtain ⟨h9, h10⟩ := and2 h7
          obtain ⟨h5, _⟩ := and2 h5
          obtain ⟨h11, _⟩ := and2 h5
          by_cases hsub : ∃ b, G.sub ex.cls c = some b
          · obtain ⟨b, hb⟩ := hsub
            have sb := g.subs _ _ _ hb
            have pa : PA (X.suite a ((a, oe) :: pn)) [.Name n p1, .Name c p2] _ := pa_cons (pe_var (i := i) hN (g.sck.vis h6) (by simpa using h9) (by simpa using h10)) (pa_cons (pe_glob (v := .ref (ga c)) (g.sck.glo h4) sb.mg rfl (by simpa using h11)) pa_nil rfl) rfl
            refine PE.imp (pe_callB (call_is2 (a := a) (pn := pn) sb.exc g.hz g.hf) (g.sck.glo h2) g.isi (by decide +kernel) pa (by decide) (by decide) rfl rfl) fun σ H Q q => ?_
            obtain ⟨hs, σd, S, rs, rp, e0, d, hd, k⟩ := q
            unfold evQ at hd
            rw [hb] at hd
            cases hd
            obtain ⟨fs, hx, _⟩ := rx_at g e0
            exact ⟨.ref a, hs i hsl, ga c, b, rfl, sb.kit, ⟨fs, hx⟩, k H _ rp (Ext.refl _ _) mk_bl⟩
          · refine ⟨fun pins s σ H Q I q => ?_⟩
            obtain ⟨hs, σd, S, rs, rp, e0, d, hd, k⟩ := q
            unfold evQ at hd
            obtain ⟨b, hb, _⟩ := Option.map_eq_some_iff.mp hd
            exact absurd ⟨b, hb⟩ hsub
      | _ => cases h
    | _ => cases h
  | .fld f, e, h => by
    unfold matchQ at h
    cases e with
    | Attribute o y p =>
      cases o with
      | Name n p1 =>
        obtain ⟨h1, h⟩ := and2 h
        obtain ⟨h2, h⟩ := and2 h
        obtain ⟨h3, h4⟩ := and2 h
        obtain rfl := of_decide_eq_true h1
        cases hsl : sl with
        | none => rw [hsl] at h4; cases h4
        | some i =>
          rw [hsl] at h4
          have hN := of_decide_eq_true h4
          obtain ⟨h3, _⟩ := and2 h3
          obtain ⟨h5, h6⟩ := and2 h3
          by_cases hx : G.xfl ex.cls y = true
          · obtain ⟨x1, x2⟩ := g.xfls _ _ hx
            refine PE.imp (pe_xf (pn := pn) x1 x2 g.hz g.hf (pe_var (X := X.suite a ((a, oe) :: pn)) (i := i) hN (g.sck.vis h2) (by simpa using h5) (by simpa using h6)) rfl) fun σ H Q q => ?_
            obtain ⟨hs, σd, S, rs, rp, e0, d, hd, k⟩ := q
            unfold evQ at hd
            rw [if_pos hx] at hd
            obtain ⟨fs, h7, _, h8⟩ := rx_at g e0
            obtain ⟨v, h9, h10⟩ := h8 _ _ hd
            exact ⟨.ref a, hs i rfl, rfl, rfl, dd, fs, v, rfl, h7, h9, k H v rp (Ext.refl _ _) h10⟩
          · refine ⟨fun pins s σ H Q I q => ?_⟩
            obtain ⟨hs, σd, S, rs, rp, e0, d, hd, k⟩ := q
            unfold evQ at hd
            rw [if_neg hx] at hd
            cases hd
      | _ => cases h
    | _ => cases h
  | .tup es, e, h => by
    unfold matchQ at h
    cases e with
    | Tuple es' k pos =>
      refine PE.imp (pe_tup (soundQA g es h)) fun σ H Q q => ?_
      obtain ⟨hs, σd, S, rs, rp, e0, d, hd, kk⟩ := q
      unfold evQ at hd
      obtain ⟨ds, hds, rfl⟩ := Option.map_eq_some_iff.mp hd
      refine ⟨hs, σd, S, rs, rp, e0, ds, hds, fun H1 vs rp1 e1 r1 => ⟨?_, kD_tup rp1 (kD_ext e1 kk) r1⟩⟩
      rw [r1.len]
      exact evQs_len hds
    | _ => cases h
  | .lst es, e, h => by
    unfold matchQ at h
    cases e with
    | List es' pos =>
      refine PE.imp (pe_lst (soundQA g es h)) fun σ H Q q => ?_
      obtain ⟨hs, σd, S, rs, rp, e0, d, hd, kk⟩ := q
      unfold evQ at hd
      obtain ⟨ds, hds, rfl⟩ := Option.map_eq_some_iff.mp hd
      refine ⟨hs, σd, S, rs, rp, e0, ds, hds, fun H1 vs rp1 e1 r1 => ⟨?_, fin_new (m := false) rp1 (kD_ext e1 kk) r1⟩⟩
      rw [r1.len]
      exact evQs_len hds
    | _ => cases h
  | .add l r, e, h => by
    unfold matchQ at h
    cases e with
    | BinOp l' o r' pos =>
      cases o with
      | Add =>
        obtain ⟨h1, h2⟩ := and2 h
        refine PE.imp (pe_op (binOk (X := X.suite a ((a, oe) :: pn)) (ga := ga) (Z := Z) .Add false) (soundQ g l h1) (soundQ g r h2)) fun σ H Q q => ?_
        obtain ⟨hs, σd, S, rs, rp, e0, d, hd, kk⟩ := q
        unfold evQ at hd
        split at hd
        · rename_i x y hx hy
          obtain ⟨c, rfl⟩ := g?_some hd
          exact tQ_two hs rs rp e0 hx hy fun H' rp' e' => ⟨_, (x_ad1 c), kD_ext e' kk⟩
        · rename_i ds es hx hy
          obtain ⟨c, rfl⟩ := g?_some hd
          exact tQ_two hs rs rp e0 hx hy fun H' rp' e' => ⟨_, (x_ad2 c), kD_ext e' kk⟩
        · cases hd
      | _ => cases h
    | _ => cases h
  | .idx l r, e, h => by
    unfold matchQ at h
    cases e with
    | Subscript l' r' pos =>
      obtain ⟨h0, h⟩ := and2 h
      obtain ⟨h1, h2⟩ := and2 h
      refine PE.imp (pe_ix (idxOk (X := X.suite a ((a, oe) :: pn)) (ga := ga) (Z := Z) g.room) (soundQ g l h1) (soundQ g r h2) (notSl_plain h0)) fun σ H Q q => ?_
      obtain ⟨hs, σd, S, rs, rp, e0, d, hd, kk⟩ := q
      unfold evQ at hd
      split at hd
      · rename_i ds j hx hy
        exact tQ_two hs rs rp e0 hx hy fun H' rp' e' => ⟨d, hd, kD_ext e' kk⟩
      · cases hd
    | _ => cases h
  | .int l, e, h => by
    unfold matchQ at h
    cases e with
    | Call fn as ks pos =>
      cases fn with
      | Name y p =>
        match as, ks, h with
        | [r], [], h =>
          obtain ⟨h1, h⟩ := and2 h
          obtain ⟨h2, h⟩ := and2 h
          obtain ⟨h3, h4⟩ := and2 h
          obtain rfl := of_decide_eq_true h1
          refine PE.imp (pe_callTy call_int1 (g.sck.glo h2) g.int (by decide +kernel) (pa_cons (soundQ g l h4) pa_nil (starEach_cons h3)) (by decide) (by decide) (starEach_cons h3) rfl) fun σ H Q q => ?_
          obtain ⟨hs, σd, S, rs, rp, e0, d, hd, kk⟩ := q
          unfold evQ at hd
          split at hd
          · rename_i b hb
            cases hd
            refine ⟨hs, σd, S, rs, rp, e0, _, hb, fun H1 z rp1 e1 r1 => ?_⟩
            unfold RelD at r1
            subst r1
            exact .inr ⟨b, rfl, kk H1 _ rp1 e1 mk_int⟩
          · cases hd
        | [], _, h => cases h
        | _ :: _ :: _, _, h => cases h
        | [_], _ :: _, h => cases h
      | _ => cases h
    | _ => cases h
theorem soundQA (g : Gz X sc ga Z H0 S0 G ex dd oe) : ∀ (ms : List QE) {es : List Expr}, matchQs X.N sc sl ms es = true → PA (X.suite a ((a, oe) :: pn)) es (tQA (cc X ga Z) H0 S0 G ex sl a ms)
  | [], [], h => by
    refine PA.imp pa_nil fun σ H Q q => ?_
    obtain ⟨_, σd, S, rs, rp, e0, ds, hd, k⟩ := q
    unfold evQs at hd
    cases hd
    exact k H [] rp (Ext.refl _ _) RelDs.nil
  | [], _ :: _, h => by unfold matchQs at h; cases h
  | _ :: _, [], h => by unfold matchQs at h; cases h
  | m :: ms, e :: es, h => by
    unfold matchQs at h
    obtain ⟨h1, h⟩ := and2 h
    obtain ⟨h2, h3⟩ := and2 h
    refine PA.imp (pa_cons (soundQ g m h2) (soundQA g ms h3) (starEach_cons h1)) fun σ H Q q => ?_
    obtain ⟨hs, σd, S, rs, rp, e0, ds, hd, k⟩ := q
    unfold evQs at hd
    split at hd
    · rename_i u us hu hus
      obtain ⟨c, rfl⟩ := g?_some hd
      exact ⟨hs, σd, S, rs, rp, e0, u, hu, fun H1 v rp1 e1 r1 => ⟨hs, σd, S, rs.ext e1, rp1, e0.trans e1, us, hus, fun H2 vs rp2 e2 r2 => k H2 (v :: vs) rp2 (e1.trans e2) (RelDs.cons (r1.ext e2) r2)⟩⟩
    · cases hd
end
end
end Mn

namespace Mn
open PySem L2
/-! ### statements -/
def kS (C : Cc) (H : Hp) (S : Sto) (D : Ends) : KS where
  nx := fun σ' S' => ∀ σv H', RelS C H' S' σ' σv → Rp C H' S' → Ext H S H' S' → D.nx σv H'
  rt := kD C H S D.rt
  bk := fun σ' S' => ∀ σv H', RelS C H' S' σ' σv → Rp C H' S' → Ext H S H' S' → D.bk σv H'
  ct := fun σ' S' => ∀ σv H', RelS C H' S' σ' σv → Rp C H' S' → Ext H S H' S' → D.ct σv H'
theorem kS_ext {C : Cc} {H H1 : Hp} {S S1 : Sto} {D : Ends} (e : Ext H S H1 S1) : KS.Le (kS C H S D) (kS C H1 S1 D) where
  nx := fun _ _ h σv H' a b c => h σv H' a b (e.trans c)
  rt := fun _ _ h => kD_ext e h
  bk := fun _ _ h σv H' a b c => h σv H' a b (e.trans c)
  ct := fun _ _ h σv H' a b c => h σv H' a b (e.trans c)
def tDS (C : Cc) (H0 : Hp) (S0 : Sto) (f : Env → Sto → KS → Prop) : TS := fun D σ H => ∃ (σd : Env) (S : Sto), RelS C H S σd σ ∧ Rp C H S ∧ Ext H0 S0 H S ∧ f σd S (kS C H S D)
def notTup : Expr → Bool
  | .Tuple _ _ _ => false
  | _ => true
def notLst : Expr → Bool
  | .List _ _ => false
  | _ => true
def lcalB (sc : Scope) (x : Str) : Bool := match sc.names.lookup x with
  | some .local => true
  | _ => false
/-- y = [..] on one line: the model's own statement -/
def swB (sc : Scope) (y : Str) (py : Pos) : Expr → Bool
  | .ListComp _ _ scope pos => lcalB sc y && ((py.line == pos.line) && !(scope.names.any fun (n, k) => n == y && (k == .local || k == .cell)))
  | _ => false
/-- y = [..], y a cell -/
def celB (sc : Scope) (y : Str) : Expr → Bool
  | .ListComp _ _ _ _ => (match sc.names.lookup y with
    | some .cell => true
    | _ => false)
  | _ => false
def isLc : ME → Bool
  | .lc _ _ _ _ _ _ => true
  | _ => false
def nmB (sc : Scope) (e : ME) (v : Expr) : Expr → Bool
  | .Name y py => swB sc y py v && isLc e || celB sc y v
  | _ => false
/-- the clause's name -/
def clB (N : List Str) (sc : Scope) : Option Nat → Option Str → Bool
  | none, none => true
  | some i, some n => decide (N[i]? = some n) && lcalB sc n
  | _, _ => false
mutual
def matchS (N : List Str) (sc : Scope) : MS → Stmt → Bool
  | .asg t e, st => match st with
    | .Assign [tg] v _ => matchT N sc t tg && (matchE N sc e v && (notLc v && (notTup tg || notTup v) || nmB sc e v tg))
    | _ => false
  | .six o i e, st => match st with
    | .Assign [.Subscript o' i' _] v _ => notSl i' && (notLc v && (matchE N sc e v && (matchE N sc o o' && matchE N sc i i')))
    | _ => false
  | .aug i o e, st => match st with
    | .AugAssign (.Name y _) o' v _ => decide (N[i]? = some y) && (locB sc y && (decide (o = o') && matchE N sc e v))
    | _ => false
  | .exp e, st => match st with
    | .Expr v _ => notLc v && matchE N sc e v
    | _ => false
  | .ret e, st => match st with
    | .Return (some v) _ => matchE N sc e v
    | _ => false
  | .ite c a b, st => match st with
    | .If c' a' b' _ => matchE N sc c c' && (matchSs N sc a a' && matchSs N sc b b')
    | _ => false
  | .for_ i t as b, st => match st with
    | .For tg iter b' [] _ => matchT N sc t tg && (matchSs N sc b b' && (notSet iter && (match i with
        | 0 => matchEs N sc as [iter]
        | 1 => (match iter with
          | .Call (.Name x _) as' [] _ => decide (x = "range") && (gloB sc x && (decide (as'.length = 1 ∨ as'.length = 2) && matchEs N sc as as'))
          | _ => false)
        | 2 => (match iter with
          | .Call (.Name x _) as' [] _ => decide (x = "enumerate") && (gloB sc x && (decide (as'.length = 1) && (isTupT tg && matchEs N sc as as')))
          | _ => false)
        | 3 => (match iter with
          | .Call (.Name x _) as' [] _ => decide (x = "zip") && (gloB sc x && (decide (as'.length = 2) && (isTupT tg && matchEs N sc as as')))
          | _ => false)
        | _ => false)))
    | _ => false
  | .whl c b, st => match st with
    | .While c' b' [] _ => matchE N sc c c' && matchSs N sc b b'
    | _ => false
  | .pas, st => match st with
    | .Pass _ => true
    | _ => false
  | .cont, st => match st with
    | .Continue _ => true
    | _ => false
  | .drp _, _ => false
  | .frS _, _ => false
  | .bad, _ => true
  | .sat o f e, st => match st with
    | .Assign [.Attribute o' x _] v _ => decide (x = f) && (notLc v && (matchE N sc e v && matchE N sc o o'))
    | _ => false
  | .aga o f op e, st => match st with
    | .AugAssign (.Attribute o' x _) op' v _ => decide (x = f) && (decide (op = op') && (matchE N sc e v && matchE N sc o o'))
    | _ => false
  | .ags o i op e, st => match st with
    | .AugAssign (.Subscript o' i' _) op' v _ => notSl i' && (decide (op = op') && (matchE N sc e v && (matchE N sc o o' && matchE N sc i i')))
    | _ => false
  | .rai c es, st => match st with
    | .Raise (some (.Call (.Name x _) as [] _)) none _ => decide (x = c) && (gloB sc x && (dbgB x && (!as.isEmpty && (decide (as.length < 20) && matchEs N sc es as))))
    | _ => false
  | .tri b c i q, st => match st with
    | .Try body [.ExceptHandler (some (.Name x _)) n suite _] [] [] _ => decide (x = c) && (gloB sc x && (dbgB x && (clB N sc i n && (!suite.isEmpty && (matchZs N sc i q suite && matchSs N sc b body)))))
    | _ => false
def matchSs (N : List Str) (sc : Scope) : List MS → List Stmt → Bool
  | [], sts => sts.isEmpty
  | .drp i :: r, sts => matchSs N sc r sts
  | .frS i :: r, sts => matchSs N sc r sts
  | s :: r, sts => match sts with
    | st :: sts => matchS N sc s st && matchSs N sc r sts
    | [] => false
end
section
variable {X : Cx} {ga : Str → Addr} {Z : Addr → Prop} {H0 : Hp} {S0 : Sto} {G : Gc} {x : XW}
/-- the source of a loop -/
theorem pi_of {sc : Scope} (g : Gd X sc ga Z H0 S0 G x) {i : Nat} {as : List ME} {tg iter : Expr} (h8 : (match i with
        | 0 => matchEs X.N sc as [iter]
        | 1 => (match iter with
          | .Call (.Name x _) as' [] _ => decide (x = "range") && (gloB sc x && (decide (as'.length = 1 ∨ as'.length = 2) && matchEs X.N sc as as'))
          | _ => false)
        | 2 => (match iter with
          | .Call (.Name x _) as' [] _ => decide (x = "enumerate") && (gloB sc x && (decide (as'.length = 1) && (isTupT tg && matchEs X.N sc as as')))
          | _ => false)
        | 3 => (match iter with
          | .Call (.Name x _) as' [] _ => decide (x = "zip") && (gloB sc x && (decide (as'.length = 2) && (isTupT tg && matchEs X.N sc as as')))
          | _ => false)
        | _ => false) = true) : PI X tg iter (wiD (cc X ga Z) H0 S0 G x i as) := by
  match i, h8 with
  | 0, h8 =>
    have hl : as.length = 1 := matchEs_len h8
    obtain ⟨a, ha⟩ := List.length_eq_one_iff.mp hl
    have pe := (soundQs as g h8 0 a iter (by rw [ha]; rfl) rfl).1
    rw [ha]
    exact pi_val pe
  | 1, h8 =>
    cases iter with
    | Call fn as' ks p2 =>
      cases fn with
      | Name y p =>
        cases ks with
        | nil =>
          obtain ⟨q1, q⟩ := and2 h8
          obtain ⟨q2, q⟩ := and2 q
          obtain ⟨q3, q4⟩ := and2 q
          obtain rfl := of_decide_eq_true q1
          exact pi_rng g q2 (of_decide_eq_true q3) q4 (soundEs as g q4)
        | cons k ks => cases h8
      | _ => cases h8
    | _ => cases h8
  | 2, h8 =>
    cases iter with
    | Call fn as' ks p2 =>
      cases fn with
      | Name y p =>
        cases ks with
        | nil =>
          obtain ⟨q1, q⟩ := and2 h8
          obtain ⟨q2, q⟩ := and2 q
          obtain ⟨q3, q⟩ := and2 q
          obtain ⟨q4, q5⟩ := and2 q
          obtain rfl := of_decide_eq_true q1
          cases tg with
          | Tuple elts kk tp => exact pi_enm g q2 (of_decide_eq_true q3) q5 (soundEs as g q5)
          | _ => cases q4
        | cons k ks => cases h8
      | _ => cases h8
    | _ => cases h8
  | 3, h8 =>
    cases iter with
    | Call fn as' ks p2 =>
      cases fn with
      | Name y p =>
        cases ks with
        | nil =>
          obtain ⟨q1, q⟩ := and2 h8
          obtain ⟨q2, q⟩ := and2 q
          obtain ⟨q3, q⟩ := and2 q
          obtain ⟨q4, q5⟩ := and2 q
          obtain rfl := of_decide_eq_true q1
          cases tg with
          | Tuple elts kk tp => exact pi_zp g q2 (of_decide_eq_true q3) q5 (soundEs as g q5)
          | _ => cases q4
        | cons k ks => cases h8
      | _ => cases h8
    | _ => cases h8
  | n + 4, h8 => cases h8
theorem for_imp {i : Nat} {t : MT} {as : List ME} {b : List MS} {D : Ends} {σ : St} {H : Hp} (h : tDS (cc X ga Z) H0 S0 (wS G x (.for_ i t as b)) D σ H) :
    tFor (wiD (cc X ga Z) H0 S0 G x i as) (gD (cc X ga Z) t) (tDS (cc X ga Z) H0 S0 (wSs G x b)) D σ H := by
  obtain ⟨σd, S, rs, rp, ex, w⟩ := h
  unfold wS at w
  refine ⟨σd, S, rs, rp, ex, wEs_mono (fun ds S1 q => ?_) as σd S w⟩
  obtain ⟨its, hi, hl⟩ := q
  refine ⟨its, hi, fun H1 J rp1 e1 hJ => ?_⟩
  have hJ' : ItOk (cc X ga Z) H1 S1 J its.1 its.2 := hJ Z fun a z => .inl z
  refine ⟨fun j n σv Hh => ∃ σe S2, RelS (cc X ga Z) Hh S2 σe σv ∧ Rp (cc X ga Z) Hh S2 ∧ Ext H1 S1 Hh S2 ∧ j ≤ its.1.length ∧ n = its.1.length - j ∧
    forLoop its.2 (fun d σ2 S2 q => ∃ σ', asgT t d σ2 = some σ' ∧ wSs G x b σ' S2 q) (its.1.drop j) σe S2 (kS (cc X ga Z) H S D),
    ⟨its.1.length, σd, S1, rs.ext e1, rp1, Ext.refl _ _, Nat.zero_le _, rfl, hl⟩, ?_⟩
  rintro j n σv Hh ⟨σe, S2, rs2, rp2, e2, hj, hn, hl⟩
  cases hd : its.1.drop j with
  | nil =>
    rw [hd] at hl
    left
    obtain ⟨hg, hk⟩ := hl
    exact ⟨(hJ' j Hh S2 rp2 e2 hg).2 (List.drop_eq_nil_iff.mp hd), hk σv Hh rs2 rp2 (e1.trans e2)⟩
  | cons d rest =>
    rw [hd] at hl
    right
    obtain ⟨hg, hk⟩ := hl
    have hjd : its.1[j]? = some d := by
      have : (its.1.drop j)[0]? = some d := by rw [hd]; rfl
      rw [List.getElem?_drop] at this
      simpa using this
    have hlt : j < its.1.length := (List.getElem?_eq_some_iff.mp hjd).1
    have hrest : its.1.drop (j + 1) = rest := by
      rw [← List.drop_drop, hd]; rfl
    obtain ⟨hgo, hy⟩ := (hJ' j Hh S2 rp2 e2 hg).1 d hjd
    refine ⟨hgo, _, fun σ' H' q => ⟨its.1.length - (j + 1), by omega, q⟩, fun v H' hyl => ?_⟩
    obtain ⟨rp3, e3, rd⟩ := hy v H' hyl
    obtain ⟨σ', ha, hw⟩ := hk
    have e123 := (e1.trans e2).trans e3
    refine ⟨d, σe, σ', S2, rs2.ext e3, rp3, rd, ha, fun σw rv _ => ⟨σ', S2, rv, rp3, ex.trans e123, wSs_mono ?_ b σ' S2 hw⟩⟩
    refine ⟨fun σ3 S3 q σw H3 r3 p3 x3 => ?_, fun d S3 q => kD_ext e123 q, fun σ3 S3 q σw H3 r3 p3 x3 => q σw H3 r3 p3 (e123.trans x3), fun σ3 S3 q σw H3 r3 p3 x3 => ?_⟩
    · exact ⟨σ3, S3, r3, p3, (e2.trans e3).trans x3, hlt, rfl, by rw [hrest]; exact q⟩
    · exact ⟨σ3, S3, r3, p3, (e2.trans e3).trans x3, hlt, rfl, by rw [hrest]; exact q⟩
theorem whl_imp {c : ME} {b : List MS} {D : Ends} {σ : St} {H : Hp} (h : tDS (cc X ga Z) H0 S0 (wS G x (.whl c b)) D σ H) : tWhile (tDT (cc X ga Z) H0 S0 (wE G x c)) (tDS (cc X ga Z) H0 S0 (wSs G x b)) D σ H := by
  obtain ⟨σd, S, rs, rp, ex, w⟩ := h
  unfold wS at w
  obtain ⟨W, ⟨m, hm⟩, hw⟩ := w
  refine ⟨fun n σv Hh => ∃ σe S2, RelS (cc X ga Z) Hh S2 σe σv ∧ Rp (cc X ga Z) Hh S2 ∧ Ext H S Hh S2 ∧ W n σe S2, ⟨m, σd, S, rs, rp, Ext.refl _ _, hm⟩, ?_⟩
  rintro n σv Hh ⟨σe, S2, rs2, rp2, e2, hn⟩
  refine ⟨σe, S2, rs2, rp2, ex.trans e2, wE_mono (fun u S3 q => ?_) c σe S2 (hw n σe S2 hn)⟩
  obtain ⟨z, h1, h2⟩ := q
  refine ⟨z, h1, fun H3 rp3 e3 => ?_⟩
  have e23 := e2.trans e3
  cases z with
  | false =>
    rw [if_neg Bool.false_ne_true] at h2
    exact iteF (h2 σv H3 (rs2.ext e3) rp3 e23)
  | true =>
    rw [if_pos rfl] at h2
    obtain ⟨Nd, hN, h2⟩ := h2
    refine iteT ⟨fun σ' H' => ∃ σe' S', RelS (cc X ga Z) H' S' σe' σ' ∧ Rp (cc X ga Z) H' S' ∧ Ext H S H' S' ∧ Nd σe' S', fun σ' H' ⟨σe', S', r, p, e, q⟩ => ?_, σe, S3, rs2.ext e3, rp3, ex.trans e23, wSs_mono ?_ b σe S3 h2⟩
    · obtain ⟨m', hlt, hW⟩ := hN σe' S' q
      exact ⟨m', hlt, σe', S', r, p, e, hW⟩
    · exact ⟨fun σ3 S4 q σw H4 r4 p4 x4 => ⟨σ3, S4, r4, p4, e23.trans x4, q⟩, fun d S4 q => kD_ext e23 q, fun σ3 S4 q σw H4 r4 p4 x4 => q σw H4 r4 p4 (e23.trans x4), fun σ3 S4 q σw H4 r4 p4 x4 => ⟨σ3, S4, r4, p4, e23.trans x4, q⟩⟩
theorem ite_imp {c : ME} {a b : List MS} {D : Ends} {σ : St} {H : Hp} (h : tDS (cc X ga Z) H0 S0 (wS G x (.ite c a b)) D σ H) : tIfS (tDT (cc X ga Z) H0 S0 (wE G x c)) (tDS (cc X ga Z) H0 S0 (wSs G x a)) (tDS (cc X ga Z) H0 S0 (wSs G x b)) D σ H := by
  obtain ⟨σd, S, rs, rp, ex, w⟩ := h
  unfold wS at w
  refine ⟨σd, S, rs, rp, ex, wE_mono (fun u S1 q => ?_) c σd S w⟩
  obtain ⟨z, h1, h2⟩ := q
  refine ⟨z, h1, fun H1 rp1 e1 => ?_⟩
  cases z with
  | true => rw [if_pos rfl] at h2; exact iteT ⟨σd, S1, rs.ext e1, rp1, ex.trans e1, wSs_mono (kS_ext e1) a σd S1 h2⟩
  | false => rw [if_neg Bool.false_ne_true] at h2; exact iteF ⟨σd, S1, rs.ext e1, rp1, ex.trans e1, wSs_mono (kS_ext e1) b σd S1 h2⟩
theorem asg_imp {t : MT} {e : ME} {D : Ends} {σ : St} {H : Hp} (h : tDS (cc X ga Z) H0 S0 (wS G x (.asg t e)) D σ H) : tAsg (tD (cc X ga Z) H0 S0 (wE G x e)) (gD (cc X ga Z) t) D σ H := by
  obtain ⟨σd, S, rs, rp, ex, w⟩ := h
  unfold wS at w
  refine ⟨σd, S, rs, rp, ex, wE_mono (fun d S1 q H1 v rp1 e1 r1 => ?_) e σd S w⟩
  obtain ⟨σ', h1, h2⟩ := q
  exact ⟨d, σd, σ', S1, rs.ext e1, rp1, r1, h1, fun σv rv _ => h2 σv H1 rv rp1 e1⟩
theorem swap_sole {tg v : Expr} {l : Nat} {env : PySem.Env} (h : notLc v = true) : swapsWithSole [tg] v l env = pure false := notLc_swap h
theorem swapped_none {tg v : Expr} {env : PySem.Env} (h : (notTup tg || notTup v) = true) (hl : notLst tg = true) : swappedStores [tg] v env = pure none := by
  unfold swappedStores
  cases tg with
  | Tuple a b c =>
    cases v with
    | Tuple a b c => cases h
    | _ => rfl
  | List a b => cases hl
  | _ => rfl
end
end Mn

namespace Mn
open PySem L2
/-! ### the statements of a suite -/
def tZ (C : Cc) (H0 : Hp) (S0 : Sto) (sl : Option Nat) (a : Addr) (f : Env → Option (Env × Option D)) : TS := fun D σ H => slA sl a σ ∧ ∃ σd S, RelS C H S σd σ ∧ Rp C H S ∧ Ext H0 S0 H S ∧ ∃ r, f σd = some r ∧
  (match r.2 with
  | some d => kD C H S D.rt d S
  | none => ∀ σv H', slA sl a σv → RelS C H' S r.1 σv → Rp C H' S → Ext H S H' S → D.nx σv H')
section
variable {X : Cx} {sc : Scope} {ga : Str → Addr} {Z : Addr → Prop} {H0 : Hp} {S0 : Sto} {G : Gc} {ex : Exc} {dd a : Addr} {oe : Obj} {pn : List (Addr × Obj)} {sl : Option Nat}
mutual
theorem soundZ (g : Gz X sc ga Z H0 S0 G ex dd oe) : ∀ (m : QS) {st : Stmt}, matchZ X.N sc sl m st = true → PS (X.suite a ((a, oe) :: pn)) st (tZ (cc X ga Z) H0 S0 sl a (exQ G ex m))
  | .asg i e, st, h => by
    unfold matchZ at h
    cases st with
    | Assign tgs v pos =>
      match tgs, h with
      | [], h => cases h
      | tg :: _ :: _, h => (cases tg <;> cases h)
      | [tg], h =>
        cases tg with
        | Name y p =>
          obtain ⟨h1, h⟩ := and2 h
          obtain ⟨h2, h⟩ := and2 h
          obtain ⟨h3, h⟩ := and2 h
          obtain ⟨h4, h5⟩ := and2 h
          have hne := of_decide_eq_true h4
          refine PS.imp (ps_asg (soundQ g e h5) (pg_name (X := X.suite a ((a, oe) :: pn)) (i := i) g.nd (of_decide_eq_true h1) (g.sck.loc h2) (g.fnl y h2)) (swap_sole h3) (swapped_none rfl rfl) rfl) fun D σ H q => ?_
          obtain ⟨hs, σd, S, rs, rp, e0, r, hr, k⟩ := q
          unfold exQ at hr
          obtain ⟨d, hd, rfl⟩ := Option.map_eq_some_iff.mp hr
          refine ⟨hs, σd, S, rs, rp, e0, d, hd, fun H1 w rp1 e1 r1 => k _ H1 (fun j hj => ?_) ((rs.ext e1).set i r1) rp1 e1⟩
          rw [List.getElem?_set, if_neg (fun z => hne (by rw [hj, z]))]
          exact hs j hj
        | _ => cases h
    | _ => cases h
  | .ret e, st, h => by
    unfold matchZ at h
    cases st with
    | Return v pos =>
      cases v with
      | none => cases h
      | some v =>
        refine PS.imp (ps_ret (soundQ g e h)) fun D σ H q => ?_
        obtain ⟨hs, σd, S, rs, rp, e0, r, hr, k⟩ := q
        unfold exQ at hr
        obtain ⟨d, hd, rfl⟩ := Option.map_eq_some_iff.mp hr
        exact ⟨hs, σd, S, rs, rp, e0, d, hd, k⟩
    | _ => cases h
  | .ite c b, st, h => by
    unfold matchZ at h
    cases st with
    | If c' a' b' pos =>
      cases b' with
      | cons _ _ => cases h
      | nil =>
        obtain ⟨h1, h⟩ := and2 h
        obtain ⟨h2, h3⟩ := and2 h
        have pt : PT (X.suite a ((a, oe) :: pn)) c' _ := pt_truth (soundQ (a := a) (pn := pn) g c h2) (notTest_true h1)
        refine PS.imp (ps_if pt (soundZs g b h3) pss_nil) fun D σ H q => ?_
        obtain ⟨hs, σd, S, rs, rp, e0, r, hr, k⟩ := q
        unfold exQ at hr
        split at hr
        · rename_i hc
          refine ⟨hs, σd, S, rs, rp, e0, _, hc, fun H1 w rp1 e1 r1 => ⟨true, truOk rfl rp1 r1 rfl, iteT ⟨hs, σd, S, rs.ext e1, rp1, e0.trans e1, r, hr, ?_⟩⟩⟩
          obtain ⟨σ', o⟩ := r
          cases o with
          | some d => exact kD_ext e1 k
          | none => exact fun σv H' z1 z2 z3 z4 => k σv H' z1 z2 z3 (e1.trans z4)
        · rename_i hc
          cases hr
          exact ⟨hs, σd, S, rs, rp, e0, _, hc, fun H1 w rp1 e1 r1 => ⟨false, truOk rfl rp1 r1 rfl, iteF (k σ H1 hs (rs.ext e1) rp1 e1)⟩⟩
        · cases hr
    | _ => cases h
theorem soundZs (g : Gz X sc ga Z H0 S0 G ex dd oe) : ∀ (ms : List QS) {sts : List Stmt}, matchZs X.N sc sl ms sts = true → PSs (X.suite a ((a, oe) :: pn)) sts (tZ (cc X ga Z) H0 S0 sl a (exQs G ex ms))
  | [], [], h => by
    refine PSs.imp pss_nil fun D σ H q => ?_
    obtain ⟨hs, σd, S, rs, rp, e0, r, hr, k⟩ := q
    unfold exQs at hr
    cases hr
    exact k σ H hs rs rp (Ext.refl _ _)
  | [], _ :: _, h => by unfold matchZs at h; cases h
  | _ :: _, [], h => by unfold matchZs at h; cases h
  | m :: ms, st :: sts, h => by
    unfold matchZs at h
    obtain ⟨h1, h2⟩ := and2 h
    refine PSs.imp (pss_cons (soundZ g m h1) (soundZs g ms h2)) fun D σ H q => ?_
    obtain ⟨hs, σd, S, rs, rp, e0, r, hr, k⟩ := q
    unfold exQs at hr
    split at hr
    · rename_i σ' hm
      refine ⟨hs, σd, S, rs, rp, e0, _, hm, fun σv H' z1 z2 z3 z4 => ⟨z1, σ', S, z2, z3, e0.trans z4, r, hr, ?_⟩⟩
      obtain ⟨σ2, o⟩ := r
      cases o with
      | some d => exact kD_ext z4 k
      | none => exact fun σw H2 y1 y2 y3 y4 => k σw H2 y1 y2 y3 (z4.trans y4)
    · rename_i o hn
      refine ⟨hs, σd, S, rs, rp, e0, r, hr, ?_⟩
      obtain ⟨σ2, o2⟩ := r
      cases o2 with
      | some d => exact k
      | none => exact absurd hr (hn σ2)
end
end
/-! ### try -/
theorem PSs.ex {X : Cx} {e : List Stmt} {ι : Sort _} {t : ι → TS} (h : ∀ i, PSs X e (t i)) : PSs X e (fun D σ H => ∃ i, t i D σ H) := ⟨fun pins s σ H D I ⟨i, q⟩ => (h i).run pins s σ H D I q⟩
theorem PSs.and {X : Cx} {e : List Stmt} {p : Prop} {t : TS} (h : p → PSs X e t) : PSs X e (fun D σ H => p ∧ t D σ H) := ⟨fun pins s σ H D I ⟨i, q⟩ => (h i).run pins s σ H D I q⟩
def Tp (X : Cx) : Prop := X.stack = X.env :: X.outer ∧ X.env.frame = some X.env.locals
section
variable {X : Cx} {sc : Scope} {ga : Str → Addr} {Z : Addr → Prop} {H0 : Hp} {S0 : Sto} {G : Gc} {x : XW}
/-- the same but for what is raised -/
theorem Gd.tr (g : Gd X sc ga Z H0 S0 G x) {pn : List (Addr × Obj)} {xe : Value → Shared → Prop} {x' : XW} {H1 : Hp} {S1 : Sto} (tk : Takes (X.tr pn xe) (liftX (cc X ga Z) H1 S1 x')) (ow : PassesOwn (model X.prog X.w) X.A X.env xe) : Gd (X.tr pn xe) sc ga Z H1 S1 G x' where
  nd := g.nd
  calm := g.calm
  room := g.room
  sck := ⟨g.sck.kind, g.sck.look⟩
  tk := tk
  own := ow
  fns := fun f n sp h => ⟨(g.fns f n sp h).ex⟩
  con := g.con
  blt := g.blt
  tys := g.tys
  mts := fun c m n sp h => ⟨(g.mts c m n sp h).ex⟩
  mks := fun c n sp h => ⟨(g.mks c n sp h).ex⟩
  flds := g.flds
  excs := fun c n F h => ⟨(g.excs c n F h).ex⟩
  subs := fun c c' b h => ⟨(g.subs c c' b h).mg, (g.subs c c' b h).exm, (g.subs c c' b h).kit, (g.subs c c' b h).exc⟩
  xfls := g.xfls
  zip := g.zip
  rng := g.rng
  enm := g.enm
  fnl := g.fnl
/-- what a suite asks: for each exception -/
def tsQ (X : Cx) (ga : Str → Addr) (Z : Addr → Prop) (G : Gc) (i : Option Nat) (q : List QS) : Addr → Value → Option Addr → TS := fun a cls d D σ H =>
  ∃ (ex : Exc) (dd : Addr) (H0 : Hp) (S0 : Sto), (cls = .ref (ga ex.cls) ∧ d = some dd ∧ RelX (cc X ga Z) H0 S0 ex (.ref (ga ex.cls)) (some dd)) ∧ tZ (cc X ga Z) H0 S0 i a (exQs G ex q) D σ H
theorem suite_ok (g : Gd X sc ga Z H0 S0 G x) {i : Option Nat} {q : List QS} {sts : List Stmt} (h : matchZs X.N sc i q sts = true) (a : Addr) (oe : Obj) (cls : Value) (d : Option Addr) (pn : List (Addr × Obj)) (hz : Zc cls d oe) (hf : ∃ vs, oe.data = .fields vs) :
    PSs (X.suite a ((a, oe) :: pn)) sts (tsQ X ga Z G i q a cls d) := by
  refine PSs.ex fun ex => PSs.ex fun dd => PSs.ex fun H0' => PSs.ex fun S0' => PSs.and fun ⟨hc, hd, rx⟩ => ?_
  subst hc hd
  refine soundZs (dd := dd) (sc := sc) ?_ q h
  exact { nd := g.nd, room := g.room, sck := g.sck, isi := g.blt .isinstance, int := g.blt .int, subs := g.subs, xfls := g.xfls, fnl := g.fnl, rx := rx, hz := hz, hf := hf }
/-- from the handler's wish to what a clause wishes -/
theorem catch_relX {C : Cc} {H : Hp} {S : Sto} {e : Exc} {cls : Value} {d : Option Addr} (r : RelX C H S e cls d) : ∃ dd, cls = .ref (C.ga e.cls) ∧ d = some dd ∧ RelX C H S e (.ref (C.ga e.cls)) (some dd) := by
  obtain ⟨rfl, dd, fs, rfl, h⟩ := r
  exact ⟨dd, rfl, rfl, rfl, dd, fs, rfl, h⟩
theorem lcal_kind (hs : Sck X sc) {n : Str} (h : lcalB sc n = true) : X.env.kindOf n = some .local := by
  unfold lcalB at h
  cases e : sc.names.lookup n with
  | none => rw [e] at h; cases h
  | some k =>
    rw [e] at h
    obtain ⟨k', h1, h2⟩ := hs.look n k e
    cases k with
    | «local» =>
      rcases h2 with rfl | ⟨z, _⟩
      · exact h1
      · cases z
    | _ => cases h
theorem tri_s (g : Gd X sc ga Z H0 S0 G x) (tp : Tp X) {b : List MS} {c : Str} {i : Option Nat} {q : List QS} {body suite : List Stmt} {n : Option Str} {np p1 pos : Pos} (hg : gloB sc c = true) (hd : dbgB c = true) (hc : clB X.N sc i n = true) (hne : (!suite.isEmpty) = true)
    (hz : matchZs X.N sc i q suite = true) (hb : ∀ {pn : List (Addr × Obj)} {xe : Value → Shared → Prop} {x' : XW} {H1 : Hp} {S1 : Sto}, Gd (X.tr pn xe) sc ga Z H1 S1 G x' → PSs (X.tr pn xe) body (tDS (cc X ga Z) H1 S1 (wSs G x' b))) :
    PS X (.Try body [.ExceptHandler (some (.Name c np)) n suite p1] [] [] pos) (tDS (cc X ga Z) H0 S0 (wS G x (.tri b c i q))) := by
  have hdb : (c == ("__debug__" : Str)) = false := by
    have := (and2 (and2 hd).1).1
    simpa using this
  obtain ⟨b0, rest, rfl⟩ := isEmpty_cons hne
  let tb : WX → TS := fun W D σ H => ∃ (H1 : Hp) (S1 : Sto) (x' : XW), (∀ cls d σ H, liftX (cc X ga Z) H1 S1 x' cls d σ H → W cls d σ H) ∧ tDS (cc X ga Z) H1 S1 (wSs G x' b) D σ H
  have hbody : ∀ (W : WX) (pn : List (Addr × Obj)) (xe : Value → Shared → Prop), Takes (X.tr pn xe) W → PassesOwn (model X.prog X.w) X.A X.env xe → PSs (X.tr pn xe) body (tb W) := fun W pn xe tk ow => by
    refine PSs.ex fun H1 => PSs.ex fun S1 => PSs.ex fun x' => PSs.and fun hx => ?_
    exact hb (g.tr (tk.imp hx) ow)
  by_cases hsub : G.sub c c = some true
  · have hnm : Names X c (.ref (ga c)) := ⟨g.sck.glo hg, hdb, .inl (g.subs _ _ _ hsub).mg⟩
    match i, n, hc with
    | none, none, _ =>
      refine PS.imp (ps_try_only (tb := tb) (ts := tsQ X ga Z G none q) tp.1 tp.2 hnm g.tk hbody (fun a oe cls d pn z1 z2 => suite_ok g hz a oe cls d pn z1 z2)) fun D σ H w => ?_
      obtain ⟨σd, S, rs, rp, ex, w⟩ := w
      unfold wS at w
      refine ⟨H, S, _, fun cls d σ' H' hl => ?_, σd, S, rs, rp, Ext.refl _ _, w.2⟩
      obtain ⟨e, σe, S', rs', rp', ex', rx, hok, t, ht, hw⟩ := hl
      obtain ⟨dd, rfl, rfl, rx'⟩ := catch_relX rx
      refine ⟨t, (g.subs _ _ _ ht).exm, fun ht' a ha => ?_, fun ht' => ?_⟩
      · subst ht'
        rw [if_pos rfl] at hw
        obtain ⟨r, hr, hk⟩ := hw
        refine ⟨e, dd, H', S', ⟨rfl, rfl, rx'⟩, ?_⟩
        refine ⟨fun j hj => (nomatch hj), σe, S', rs', rp', Ext.refl _ _, r, hr, ?_⟩
        obtain ⟨σ2, o⟩ := r
        cases o with
        | some v => exact kD_ext ex' hk
        | none => exact fun σv H2 _ z2 z3 z4 => hk σv H2 z2 z3 (ex'.trans z4)
      · subst ht'
        rw [if_neg Bool.false_ne_true] at hw
        exact ⟨e, σe, S', rs', rp', ex.trans ex', rx, hw⟩
    | some i, some n, hc =>
      obtain ⟨hc1, hc2⟩ := and2 hc
      have hNi := of_decide_eq_true hc1
      refine PS.imp (ps_try_as (i := i) (tb := tb) (ts := tsQ X ga Z G (some i) q) tp.1 tp.2 g.nd hNi (lcal_kind g.sck hc2) hnm g.tk hbody (fun a oe cls d pn z1 z2 => suite_ok g hz a oe cls d pn z1 z2)) fun D σ H w => ?_
      obtain ⟨σd, S, rs, rp, ex, w⟩ := w
      unfold wS at w
      refine ⟨H, S, _, fun cls d σ' H' hl => ?_, σd, S, rs, rp, Ext.refl _ _, w.2⟩
      obtain ⟨e, σe, S', rs', rp', ex', rx, hok, t, ht, hw⟩ := hl
      obtain ⟨dd, rfl, rfl, rx'⟩ := catch_relX rx
      refine ⟨t, (g.subs _ _ _ ht).exm, fun ht' a ha => ?_, fun ht' => ?_⟩
      · subst ht'
        rw [if_pos rfl] at hw
        obtain ⟨r, hr, hk⟩ := hw
        have hlen : i < σ'.length := by
          rw [← rs'.1]
          exact hok
        refine ⟨e, dd, H', S', ⟨rfl, rfl, rx'⟩, ?_⟩
        refine ⟨fun j hj => ?_, σe.set i none, S', rs'.del i _, rp', Ext.refl _ _, r, hr, ?_⟩
        · cases hj
          rw [List.getElem?_set, if_pos rfl, if_pos hlen]
        · obtain ⟨σ2, o⟩ := r
          cases o with
          | some v => exact kD_ext ex' hk
          | none => exact fun σv H2 _ z2 z3 z4 => hk _ H2 (z2.del i none) z3 (ex'.trans z4)
      · subst ht'
        rw [if_neg Bool.false_ne_true] at hw
        exact ⟨e, σe, S', rs', rp', ex.trans ex', rx, hw⟩
    | none, some _, hc => cases hc
    | some _, none, hc => cases hc
  · refine ⟨fun pins s σ H D I w => ?_⟩
    obtain ⟨σd, S, rs, rp, ex, w⟩ := w
    unfold wS at w
    exact absurd w.1 hsub
end
end Mn

namespace Mn
open PySem L2
section
variable {X : Cx} {ga : Str → Addr} {Z : Addr → Prop} {H0 : Hp} {S0 : Sto} {G : Gc} {x : XW}
theorem seq_s {st : Stmt} {sts : List Stmt} {m : MS} {ms : List MS} (h1 : PS X st (tDS (cc X ga Z) H0 S0 (wS G x m))) (h2 : PSs X sts (tDS (cc X ga Z) H0 S0 (wSs G x ms))) : PSs X (st :: sts) (tDS (cc X ga Z) H0 S0 (wSs G x (m :: ms))) := by
  refine PSs.imp (pss_cons h1 h2) fun D σ H q => ?_
  obtain ⟨σd, S, rs, rp, ex, w⟩ := q
  unfold wSs at w
  refine ⟨σd, S, rs, rp, ex, wS_mono ?_ m σd S w⟩
  refine ⟨fun σ' S' q σv H' r' p' e' => ?_, fun _ _ q => q, fun _ _ q => q, fun _ _ q => q⟩
  exact ⟨σ', S', r', p', ex.trans e', wSs_mono (kS_ext e') ms σ' S' q⟩
/-- name = [..] on one line -/
theorem lc_s {sc : Scope} (g : Gd X sc ga Z H0 S0 G x) {j : Nat} {y : Str} {py pos spos : Pos} {i : Nat} {m : Bool} {t : MT} {as c : List ME} {el : ME} {elt : Expr} {gens : List Comprehension} {scope : Scope} (hN : X.N[j]? = some y) (hl : X.env.scope.names.lookup y = some .local)
    (hsw : swapsWith (.ListComp elt gens scope pos) (some (.Name y py)) spos.line X.env = pure true) (h : matchE X.N sc (.lc i m t as c el) (.ListComp elt gens scope pos) = true) :
    PS X (.Assign [.Name y py] (.ListComp elt gens scope pos) spos) (tAsg (tD (cc X ga Z) H0 S0 (wE G x (.lc i m t as c el))) (gName j)) := by
  unfold matchE at h
  match gens, h, hsw with
  | [⟨tg, iter, ifs, ay⟩], h, hsw =>
    obtain ⟨h1, hh⟩ := and2 h
    clear h
    obtain ⟨h2, h⟩ := and2 hh
    obtain ⟨h3, h⟩ := and2 h
    obtain ⟨h4, h⟩ := and2 h
    obtain ⟨h5, h⟩ := and2 h
    obtain ⟨h6, h⟩ := and2 h
    obtain ⟨h7, h8⟩ := and2 h
    obtain rfl := of_decide_eq_true h1
    have ok := blk_to g.sck (blkOk_by h2)
    have hi : PI X tg iter (wiD (cc X ga Z) H0 S0 G x i as) := pi_of g h8
    refine PS.imp (ps_setLc (te := tDx X ga (wE G noX el)) (tt := tCx X ga G c) (g := gDx X ga t) g.calm g.nd hN hl hsw hi ok (fun s H Ca cl fp => ?_) (fun s H Ca cl fp => ?_) (fun s H Ca cl fp => ?_) (notSet_fold h7)) fun D σ H q => ?_
    · exact PG.ex fun Z' => soundG (g.blk ok.kind s H Ca cl fp Z' H0 S0) t h3
    · refine pts_of (X := X.blk s H scope (compEnvC scope cl Ca X.env) fp) (sc := scope) (of_decide_eq_true h6) h4 fun m' hc e' he Z' H0' S0' => ?_
      exact (soundQs c (g.blk ok.kind s H Ca cl fp Z' H0' S0') h4 0 m' e' (by rw [hc]; rfl) (by rw [he]; rfl)).2
    · exact PE.ex fun Z' => PE.ex fun H0' => PE.ex fun S0' => (soundE el (g.blk ok.kind s H Ca cl fp Z' H0' S0') h5).1
    · have eo : (((slots t).map fun i => (X.N.getD i "", i)).map (·.2)) = slots t := by
        rw [List.map_map]; exact List.map_id _
      rw [eo]
      exact lc_imp q
  | [], h, _ => cases h
  | ⟨_, _, _, _⟩ :: _ :: _, h, _ => cases h
/-- target = value -/
theorem asg_s {sc : Scope} (g : Gd X sc ga Z H0 S0 G x) {t : MT} {e : ME} {tg v : Expr} {pos : Pos} (h1 : matchT X.N sc t tg = true) (h2 : matchE X.N sc e v = true) (h3 : (notLc v && (notTup tg || notTup v) || nmB sc e v tg) = true) : PS X (.Assign [tg] v pos) (tDS (cc X ga Z) H0 S0 (wS G x (.asg t e))) := by
  rcases Bool.or_eq_true_iff.mp h3 with q | q
  · obtain ⟨q1, q2⟩ := and2 q
    have hl : notLst tg = true ∧ (assignEach [tg] X.env).map (·.2) = [assign tg X.env] := by
      cases tg with
      | List a b => cases t <;> (unfold matchT at h1; cases h1)
      | Starred a b => cases t <;> (unfold matchT at h1; cases h1)
      | _ => exact ⟨rfl, rfl⟩
    exact PS.imp (ps_asg (soundE e g h2).1 (soundG g t h1) (swap_sole q1) (swapped_none q2 hl.1) hl.2) fun D σ H q => asg_imp q
  · clear h3
    cases tg with
    | Name y py =>
      have q : (swB sc y py v && isLc e || celB sc y v) = true := q
      cases t with
      | tp ts => unfold matchT at h1; cases h1
      | nm i =>
        unfold matchT at h1
        obtain ⟨h1, hloc⟩ := and2 h1
        have hN := of_decide_eq_true h1
        have imp : ∀ D σ H, tDS (cc X ga Z) H0 S0 (wS G x (.asg (.nm i) e)) D σ H → tAsg (tD (cc X ga Z) H0 S0 (wE G x e)) (gName i) D σ H := fun D σ H q => by
          obtain ⟨σd, S, rs, rp, ex, w⟩ := q
          unfold wS at w
          refine ⟨σd, S, rs, rp, ex, wE_mono (fun d S1 q H1 v rp1 e1 r1 => ?_) e σd S w⟩
          obtain ⟨σ', h1, h2⟩ := q
          unfold asgT at h1
          cases h1
          exact h2 _ H1 ((rs.ext e1).set i r1) rp1 e1
        rcases Bool.or_eq_true_iff.mp q with q | q
        · obtain ⟨q1, q2⟩ := and2 q
          cases v with
          | ListComp elt gens scope pos' =>
            obtain ⟨q3, q4⟩ := and2 q1
            obtain ⟨q4, q5⟩ := and2 q4
            have hl : X.env.scope.names.lookup y = some .local := by
              unfold lcalB at q3
              cases e1 : sc.names.lookup y with
              | none => rw [e1] at q3; cases q3
              | some k =>
                obtain ⟨k', h3, h4⟩ := g.sck.look y k e1
                rw [e1] at q3
                cases k with
                | «local» =>
                  rcases h4 with rfl | ⟨z, _⟩
                  · exact h3
                  · cases z
                | _ => cases q3
            cases e with
            | lc i' m' t' as' c' el' => exact PS.imp (lc_s g hN hl (sw_true g.sck.kind hl q4 (by simpa using q5)) h2) imp
            | _ => cases q2
          | _ => cases q1
        · cases v with
          | ListComp elt gens scope pos' =>
            have hc : X.env.scope.names.lookup y = some .cell := by
              have q : (match sc.names.lookup y with
                | some .cell => true
                | _ => false) = true := q
              cases e1 : sc.names.lookup y with
              | none => rw [e1] at q; cases q
              | some k =>
                obtain ⟨k', h3, h4⟩ := g.sck.look y k e1
                rw [e1] at q
                cases k with
                | cell =>
                  rcases h4 with rfl | ⟨z, _⟩
                  · exact h3
                  · cases z
                | _ => cases q
            refine PS.imp (ps_set (i := i) g.nd hN (g.sck.loc hloc) (soundE e g h2).1 ?_ (g.fnl y hloc)) imp
            unfold swapsWith
            show (pure (X.env.blockKind == .function && X.env.kindOf y == some .local && py.line == (Expr.ListComp elt gens scope pos').pos.line && !(scope.names.any fun (n, k) => n == y && (k == .local || k == .cell))) : Sem Bool) = pure false
            have : X.env.kindOf y = some .cell := hc
            rw [this, show (some NameKind.cell == some NameKind.local) = false from rfl, Bool.and_false, Bool.false_and, Bool.false_and]
          | _ => cases q
    | _ => cases q
theorem asg_sub {o i : Expr} {pos : Pos} {env : PySem.Env} (h : notSl i = true) : ∀ v, assign (.Subscript o i pos) env v = (do
      let ov ← holding [v] (eval o env)
      let iv ← holding [v, ov] (eval i env)
      standAt pos
      holding [v, ov, iv] (setItem ov iv v)
      release [v, ov, iv] []) := fun v => by
  cases i with
  | Slice a b c d => cases h
  | _ => rfl
/-- a[i] = v by data -/
def rSix (C : Cc) : V → V → V → Hp → (Hp → Prop) → Prop := fun o i v H Q => ∃ u j d S S', Rp C H S ∧ RelD C H S u o ∧ RelD C H S j i ∧ RelD C H S d v ∧ sixR u j d S = some S' ∧ ∀ H', Rp C H' S' → Ext H S H' S' → Q H'
theorem setOk (hu : X.A.units + 64 < cLine) : PSet X (rSix (cc X ga Z)) := by
  intro pins s σ H o i v ov iv u Q I ro ri rv h
  obtain ⟨ud, jd, d, S, S', rp, r1, r2, r3, hs, q⟩ := h
  unfold sixR at hs
  split at hs
  · rename_i a
    unfold RelD at r1
    subst r1
    split at hs
    · rename_i ds hS
      split at hs
      · rename_i k
        split at hs
        · rename_i n hn
          cases hs
          cases rel_int r2
          obtain ⟨ob, h5, h6⟩ := rp.obj a _ hS
          obtain ⟨vs, rfl, r⟩ := h6
          have eS := Ext.set (H := H) (S := S) (p := a) (o := .lst (vs.set n v)) (m := .lst (ds.set n d)) hS
          exact set_list pins s σ H _ _ v ov iv u Q I ro ri rv ⟨a, vs, k, n, rfl, rfl, h5, by rw [r.len]; exact hn, q _ (rp.set hS ⟨_, rfl, (r.set n r3).ext eS⟩) eS⟩
        · cases hs
      · cases hs
    · rename_i kvs hS
      split at hs
      · rename_i k hk
        obtain ⟨c, rfl⟩ := g?_some hs
        obtain ⟨ob, h5, h6⟩ := rp.obj a _ hS
        obtain ⟨l, rfl, r⟩ := h6
        cases keyOf_rel r2 hk
        have eS := Ext.set (H := H) (S := S) (p := a) (o := .dK (putK l k v)) (m := .dct (gp kvs k d)) hS
        cases (show ov = Value.ref a from ro)
        exact d_setItem (by omega) I (DPut.k h5 (by rw [r.len]; exact c)) ri rv fun s' I' => ⟨_, I', q _ (rp.set hS ⟨_, rfl, (r.put k r3).ext eS⟩) eS⟩
      · cases hs
    · cases hs
  · cases hs
theorem six_s {sc : Scope} (g : Gd X sc ga Z H0 S0 G x) {o i e : ME} {o' i' v : Expr} {pos pos' : Pos} (h1 : notSl i' = true) (h2 : notLc v = true) (ho : matchE X.N sc o o' = true) (hi : matchE X.N sc i i' = true) (he : matchE X.N sc e v = true) :
    PS X (.Assign [.Subscript o' i' pos'] v pos) (tDS (cc X ga Z) H0 S0 (wS G x (.six o i e))) := by
  refine PS.imp (ps_asg (soundE e g he).1 (pg_sub (soundE o g ho).1 (soundE i g hi).1 (setOk (ga := ga) (Z := Z) g.room) (asg_sub h1)) (swap_sole h2) rfl rfl) fun D σ H q => ?_
  obtain ⟨σd, S, rs, rp, ex, w⟩ := q
  unfold wS at w
  refine ⟨σd, S, rs, rp, ex, wE_mono (fun d S1 q H1 v rp1 e1 r1 => ⟨σd, S1, rs.ext e1, rp1, ex.trans e1, wE_mono (fun u S2 q H2 w2 rp2 e2 r2 => ⟨σd, S2, rs.ext (e1.trans e2), rp2, ex.trans (e1.trans e2), wE_mono (fun j S3 q H3 w3 rp3 e3 r3 => ?_) i σd S2 q⟩) o σd S1 q⟩) e σd S w⟩
  obtain ⟨S', h3, h4⟩ := q
  have e123 := (e1.trans e2).trans e3
  exact ⟨u, j, d, S3, S', rp3, r2.ext e3, r3, r1.ext (e2.trans e3), h3, fun H' rp' e' => h4 σ H' (rs.ext (e123.trans e')) rp' (e123.trans e')⟩
theorem augOk (op : Operator) : InOp X op fun v y H Q => ∃ i u w d S, v = .int i ∧ u = .int i ∧ Rp (cc X ga Z) H S ∧ RelD (cc X ga Z) H S w y ∧ augR op u w = some d ∧ ∀ z, RelD (cc X ga Z) H S d z → Q z H := by
  intro pins s σ H x y u v Q I rx ry h
  obtain ⟨i, ud, w, d, S, rfl, rfl, rp, rw', ha, k⟩ := h
  unfold augR at ha
  split at ha
  · rename_i i' j e
    cases e; cases ha; cases rel_int rw'
    exact in_add pins s σ H _ _ u v Q I rx ry ⟨i, j, rfl, rfl, k _ mk_int⟩
  · rename_i i' j e
    cases e; cases ha; cases rel_int rw'
    exact in_sub pins s σ H _ _ u v Q I rx ry ⟨i, j, rfl, rfl, k _ mk_int⟩
  · cases ha
theorem sat_s {sc : Scope} (g : Gd X sc ga Z H0 S0 G x) {o e : ME} {f : Str} {o' v : Expr} {pos pos' : Pos} (h2 : notLc v = true) (ho : matchE X.N sc o o' = true) (he : matchE X.N sc e v = true) :
    PS X (.Assign [.Attribute o' f pos'] v pos) (tDS (cc X ga Z) H0 S0 (wS G x (.sat o f e))) := by
  refine PS.imp (ps_fld (soundE o g ho).1 (soundE e g he).1 (notLc_swap h2)) fun D σ H q => ?_
  obtain ⟨σd, S, rs, rp, ex, w⟩ := q
  unfold wS at w
  refine ⟨σd, S, rs, rp, ex, wE_mono (fun d S1 q H1 v rp1 e1 r1 => ⟨σd, S1, rs.ext e1, rp1, ex.trans e1, wE_mono (fun u S2 q H2 w2 rp2 e2 r2 => ?_) o σd S1 q⟩) e σd S w⟩
  obtain ⟨a, c, fs, rfl, hS, hf, hl, hk⟩ := q
  unfold RelD at r2
  subst r2
  obtain ⟨ob, h5, h6⟩ := rp2.obj a _ hS
  obtain ⟨dx, l, rfl, r⟩ := h6
  have eS := Ext.set (H := H2) (S := S2) (p := a) (o := .ins (ga c) dx (putF f v l)) (m := .ins c (pf f d fs)) hS
  have e12 := e1.trans e2
  exact ⟨a, ga c, dx, l, rfl, h5, (g.flds c f hf).1, (g.flds c f hf).2, by rw [r.len]; exact hl, hk σ _ (rs.ext (e12.trans eS)) (rp2.set hS ⟨dx, _, rfl, (RelF.put (r1.ext e2) r).ext eS⟩) (e12.trans eS)⟩
theorem aga_s {sc : Scope} (g : Gd X sc ga Z H0 S0 G x) {o e : ME} {f : Str} {op : Operator} {o' v : Expr} {pos pos' : Pos} (ho : matchE X.N sc o o' = true) (he : matchE X.N sc e v = true) :
    PS X (.AugAssign (.Attribute o' f pos') op v pos) (tDS (cc X ga Z) H0 S0 (wS G x (.aga o f op e))) := by
  refine PS.imp (ps_fldaug (soundE o g ho).1 (soundE e g he).1 (augOk (ga := ga) (Z := Z) op)) fun D σ H q => ?_
  obtain ⟨σd, S, rs, rp, ex, w⟩ := q
  unfold wS at w
  refine ⟨σd, S, rs, rp, ex, wE_mono (fun u S1 q H1 w1 rp1 e1 r1 => ?_) o σd S w⟩
  obtain ⟨a, c, fs, i, rfl, hS, hf, hl, q⟩ := q
  unfold RelD at r1
  subst r1
  obtain ⟨ob, h5, h6⟩ := rp1.obj a _ hS
  obtain ⟨dx, l, rfl, r⟩ := h6
  obtain ⟨vi, h7, h8⟩ := r.some hl
  cases rel_int h8
  refine ⟨a, ga c, dx, l, _, rfl, h5, (g.flds c f hf).1, (g.flds c f hf).2, h7, σd, S1, rs.ext e1, rp1, ex.trans e1, wE_mono (fun y S2 q H2 w2 rp2 e2 r2 => ?_) e σd S1 q⟩
  obtain ⟨d, fs', h9, hS2, hl2, hk⟩ := q
  refine ⟨i, .int i, y, d, S2, rfl, rfl, rp2, r2, h9, fun z rz => ?_⟩
  obtain ⟨ob, h10, h11⟩ := rp2.obj a _ hS2
  obtain ⟨dx', l', rfl, r'⟩ := h11
  have eS := Ext.set (H := H2) (S := S2) (p := a) (o := .ins (ga c) dx' (putF f z l')) (m := .ins c (pf f d fs')) hS2
  have e12 := e1.trans e2
  exact ⟨dx', l', h10, by rw [r'.len]; exact hl2, hk σ _ (rs.ext (e12.trans eS)) (rp2.set hS2 ⟨dx', _, rfl, (RelF.put rz r').ext eS⟩) (e12.trans eS)⟩
theorem aug_sub {i : Expr} (h : notSl i = true) : ∀ ov iv new, augStore i ov iv new = (do holding [new, ov, iv] (setItem ov iv new); release [new, ov, iv] []; pure .next) := fun ov iv new => by
  cases i with
  | Slice a b c d => cases h
  | _ => rfl
theorem ags_s {sc : Scope} (g : Gd X sc ga Z H0 S0 G x) {o i e : ME} {op : Operator} {o' i' v : Expr} {pos pos' : Pos} (h1 : notSl i' = true) (ho : matchE X.N sc o o' = true) (hi : matchE X.N sc i i' = true) (he : matchE X.N sc e v = true) :
    PS X (.AugAssign (.Subscript o' i' pos') op v pos) (tDS (cc X ga Z) H0 S0 (wS G x (.ags o i op e))) := by
  have hu := g.room
  refine PS.imp (ps_daug (by omega) (soundE o g ho).1 (soundE i g hi).1 (soundE e g he).1 (augOk (ga := ga) (Z := Z) op) (aug_sub h1)) fun D σ H q => ?_
  obtain ⟨σd, S, rs, rp, ex, w⟩ := q
  unfold wS at w
  refine ⟨σd, S, rs, rp, ex, wE_mono (fun u S1 q H1 w1 rp1 e1 r1 => ⟨σd, S1, rs.ext e1, rp1, ex.trans e1, wE_mono (fun j S2 q H2 w2 rp2 e2 r2 => ?_) i σd S1 q⟩) o σd S w⟩
  obtain ⟨a, kvs, key, v0, rfl, hS, hk, hv, q⟩ := q
  unfold RelD at r1
  subst r1
  obtain ⟨ob, h5, h6⟩ := rp2.obj a _ hS
  obtain ⟨l, rfl, r⟩ := h6
  obtain ⟨vv, h7, h8⟩ := r.some hv
  cases keyOf_rel r2 hk
  have e12 := e1.trans e2
  refine ⟨a, vv, rfl, by rw [← h7]; exact DGet.k h5, σd, S2, rs.ext e12, rp2, ex.trans e12, wE_mono (fun y S3 q H3 w3 rp3 e3 r3 => ?_) e σd S2 q⟩
  obtain ⟨d, kvs', h9, hS2, hl2, hq⟩ := q
  have hi : ∃ n, v0 = .int n := by
    unfold augR at h9
    split at h9
    · exact ⟨_, rfl⟩
    · exact ⟨_, rfl⟩
    · cases h9
  obtain ⟨n, rfl⟩ := hi
  cases rel_int h8
  refine ⟨n, .int n, y, d, S3, rfl, rfl, rp3, r3, h9, fun z rz => ?_⟩
  obtain ⟨ob, h10, h11⟩ := rp3.obj a _ hS2
  obtain ⟨l', rfl, r'⟩ := h11
  have eS := Ext.set (H := H3) (S := S3) (p := a) (o := .dK (putK l' key z)) (m := .dct (gp kvs' key d)) hS2
  have e123 := e12.trans e3
  exact ⟨_, DPut.k h10 (by rw [r'.len]; exact hl2), hq σ _ (rs.ext (e123.trans eS)) (rp3.set hS2 ⟨_, rfl, (r'.put key rz).ext eS⟩) (e123.trans eS)⟩
/-- raise C(e, ..) -/
theorem rai_s {sc : Scope} (g : Gd X sc ga Z H0 S0 G x) {c : Str} {es : List ME} {e : Expr} {as : List Expr} {p pos pos' : Pos} (hg : gloB sc c = true) (hd : dbgB c = true) (hfew : as.length < 20) (hm : matchEs X.N sc es (e :: as) = true) :
    PS X (.Raise (some (.Call (.Name c p) (e :: as) [] pos)) none pos') (tDS (cc X ga Z) H0 S0 (wS G x (.rai c es))) := by
  have hdb : (c == ("__debug__" : Str)) = false := by
    have := (and2 (and2 hd).1).1
    simpa using this
  have hs : starEach (e :: as) X.env = (false, eval e X.env) :: starEach as X.env ∧ (backTo pos (starEach as X.env)).any (·.1) = false := by
    cases es with
    | nil => unfold matchEs at hm; cases hm
    | cons m ms =>
      unfold matchEs at hm
      obtain ⟨h1, h2⟩ := and2 hm
      exact ⟨starEach_cons h1, (star_all (and2 h2).2).1⟩
  by_cases hx : ∃ F, G.exc c = some (es.length, F)
  · obtain ⟨F, hx⟩ := hx
    obtain ⟨fI, fd, k, ps, F', hmg, T, iC, tI, FI, hr, hb, hF⟩ := (g.excs c _ F hx).ex
    refine PS.imp (ps_raise g.calm g.tk (pmk_oex T iC tI FI hr hb .nil passes_no (g.sck.glo hg) hmg (soundEs es g hm) hdb hs.1 hs.2)) fun D σ H q => ?_
    obtain ⟨σd, S, rs, rp, ex, w⟩ := q
    unfold wS at w
    obtain ⟨F2, h1, w⟩ := w
    rw [hx] at h1
    cases h1
    refine ⟨σd, S, rs, rp, ex, wEs_mono (fun ds S1 q H1 vs rp1 e1 r1 => ?_) es σd S (wEs_len es σd S _ w)⟩
    obtain ⟨hlen, q⟩ := q
    have hvl : vs.length = es.length := by rw [r1.len, hlen]
    refine ⟨?_, fun a ha => ⟨a, vs, by rw [List.append_nil], hvl, upd_same, fun dx hdx hne => ⟨rfl, dx, F' vs, upd_same, by rw [upd_ne hne, upd_same], ?_, ?_⟩⟩⟩
    · have := matchEs_len hm
      rw [List.length_cons] at this
      omega
    · rw [upd_ne hne] at hdx; exact hdx
    · have hdx' : H1 dx = none := by rw [upd_ne hne] at hdx; exact hdx
      have eH : upd (del (upd (upd (upd H1 a (exo a (ga c) none)) dx (exd dx (F' vs))) a (exo a (ga c) (some dx))) a) dx (.xd (F' vs)) = upd H1 dx (.xd (F' vs)) := by
        funext z
        by_cases h1 : z = dx
        · subst h1; rw [upd_same, upd_same]
        · rw [upd_ne h1, upd_ne h1]
          by_cases h2 : z = a
          · subst h2; rw [del_same, ha]
          · rw [del_ne h2, upd_ne h2, upd_ne h1, upd_ne h2]
      rw [eH]
      have eN := Ext.new (S := S1) (o := .xd (F' vs)) hdx'
      refine ⟨⟨c, F ds⟩, σd, S1, (rs.ext e1).ext eN, rp1.new hdx', (ex.trans e1).trans eN, ⟨rfl, dx, F' vs, rfl, upd_same, rp1.free hdx', fun f z hz => ?_⟩, q⟩
      obtain ⟨v, h3, h4⟩ := hF _ _ _ _ _ r1 f z hz
      exact ⟨v, h3, h4.ext eN⟩
  · refine ⟨fun pins s σ H D I w => ?_⟩
    obtain ⟨σd, S, rs, rp, ex, w⟩ := w
    unfold wS at w
    obtain ⟨F, h1, _⟩ := w
    exact absurd ⟨F, h1⟩ hx
theorem aug_s {sc : Scope} (g : Gd X sc ga Z H0 S0 G x) {i : Nat} {o : Operator} {e : ME} {y : Str} {v : Expr} {pos pos' : Pos} (hN : X.N[i]? = some y) (hl : locB sc y = true) (he : matchE X.N sc e v = true) :
    PS X (.AugAssign (.Name y pos') o v pos) (tDS (cc X ga Z) H0 S0 (wS G x (.aug i o e))) := by
  have hp : PIp X o fun a b H Q => ∃ u w d S, Rp (cc X ga Z) H S ∧ RelD (cc X ga Z) H S u a ∧ RelD (cc X ga Z) H S w b ∧ augR o u w = some d ∧ ∀ z, RelD (cc X ga Z) H S d z → Q z H := by
    intro pins s σ H a b va vb Q I ra rb q
    obtain ⟨u, w, d, S, rp, r1, r2, h, k⟩ := q
    unfold augR at h
    split at h
    · cases h; cases rel_int r1; cases rel_int r2
      exact ip_add pins s σ H _ _ va vb Q I ra rb ⟨_, _, rfl, rfl, k _ mk_int⟩
    · cases h; cases rel_int r1; cases rel_int r2
      exact ip_sub pins s σ H _ _ va vb Q I ra rb ⟨_, _, rfl, rfl, k _ mk_int⟩
    · cases h
  refine PS.imp (ps_aug (i := i) g.nd hN (g.sck.loc hl) (soundE e g he).1 hp (g.fnl y hl)) fun D σ H q => ?_
  obtain ⟨σd, S, rs, rp, ex, w⟩ := q
  unfold wS at w
  obtain ⟨u, hu, w⟩ := w
  obtain ⟨a, ha, ra⟩ := rs.2 i u hu
  refine ⟨a, ha, σd, S, rs, rp, ex, wE_mono (fun d S1 q H1 v rp1 e1 r1 => ?_) e σd S w⟩
  obtain ⟨z, h1, h2⟩ := q
  exact ⟨u, d, z, S1, rp1, ra.ext e1, r1, h1, fun zv rz => h2 _ H1 ((rs.ext e1).set i rz) rp1 e1⟩
end
mutual
theorem soundS : ∀ (m : MS) {X : Cx} {sc : Scope} {ga : Str → Addr} {Z : Addr → Prop} {H0 : Hp} {S0 : Sto} {G : Gc} {x : XW}, Gd X sc ga Z H0 S0 G x → Tp X → ∀ {st : Stmt}, matchS X.N sc m st = true → PS X st (tDS (cc X ga Z) H0 S0 (wS G x m))
  | .asg t e, X, sc, ga, Z, H0, S0, G, x, g, tp, st, h => by
    unfold matchS at h
    cases st with
    | Assign tgs v pos =>
      match tgs, h with
      | [tg], h =>
        obtain ⟨h1, h⟩ := and2 h
        obtain ⟨h2, h3⟩ := and2 h
        exact asg_s g h1 h2 h3
      | [], h => cases h
      | _ :: _ :: _, h => cases h
    | _ => cases h
  | .six o i e, X, sc, ga, Z, H0, S0, G, x, g, tp, st, h => by
    unfold matchS at h
    cases st with
    | Assign tgs v pos =>
      match tgs, h with
      | [tg], h =>
        cases tg with
        | Subscript o' i' p =>
          obtain ⟨h1, h⟩ := and2 h
          obtain ⟨h2, h⟩ := and2 h
          obtain ⟨h3, h⟩ := and2 h
          obtain ⟨h4, h5⟩ := and2 h
          exact six_s g h1 h2 h4 h5 h3
        | _ => cases h
      | [], h => cases h
      | .Subscript _ _ _ :: _ :: _, h => cases h
      | a :: b :: c, h => cases a <;> cases h
    | _ => cases h
  | .aug i o e, X, sc, ga, Z, H0, S0, G, x, g, tp, st, h => by
    unfold matchS at h
    cases st with
    | AugAssign tg o' v pos =>
      cases tg with
      | Name y p =>
        obtain ⟨h1, h⟩ := and2 h
        obtain ⟨h2, h⟩ := and2 h
        obtain ⟨h3, h4⟩ := and2 h
        obtain rfl := of_decide_eq_true h3
        exact aug_s g (of_decide_eq_true h1) h2 h4
      | _ => cases h
    | _ => cases h
  | .exp e, X, sc, ga, Z, H0, S0, G, x, g, tp, st, h => by
    unfold matchS at h
    cases st with
    | Expr v pos =>
      obtain ⟨h1, h2⟩ := and2 h
      refine PS.imp (ps_expr (soundE e g h2).1 (notLc_swap h1)) fun D σ H q => ?_
      obtain ⟨σd, S, rs, rp, ex, w⟩ := q
      unfold wS at w
      exact ⟨σd, S, rs, rp, ex, wE_mono (fun d S1 q H1 v rp1 e1 r1 => q σ H1 (rs.ext e1) rp1 e1) e σd S w⟩
    | _ => cases h
  | .ret e, X, sc, ga, Z, H0, S0, G, x, g, tp, st, h => by
    unfold matchS at h
    cases st with
    | Return v pos =>
      cases v with
      | none => cases h
      | some v =>
        refine PS.imp (ps_ret (soundE e g h).1) fun D σ H q => ?_
        obtain ⟨σd, S, rs, rp, ex, w⟩ := q
        unfold wS at w
        exact ⟨σd, S, rs, rp, ex, w⟩
    | _ => cases h
  | .ite c a b, X, sc, ga, Z, H0, S0, G, x, g, tp, st, h => by
    unfold matchS at h
    cases st with
    | If c' a' b' pos =>
      obtain ⟨h1, h⟩ := and2 h
      obtain ⟨h2, h3⟩ := and2 h
      exact PS.imp (ps_if (soundE c g h1).2 (soundSs a g tp h2) (soundSs b g tp h3)) fun D σ H q => ite_imp q
    | _ => cases h
  | .for_ i t as b, X, sc, ga, Z, H0, S0, G, x, g, tp, st, h => by
    unfold matchS at h
    cases st with
    | For tg iter b' els pos =>
      cases els with
      | nil =>
        obtain ⟨h1, h⟩ := and2 h
        obtain ⟨h2, h⟩ := and2 h
        obtain ⟨h3, h4⟩ := and2 h
        exact PS.imp (ps_for g.own g.calm (pi_of g h4) (soundG g t h1) (soundSs b g tp h2) (notSet_fold h3)) fun D σ H q => for_imp q
      | cons e es => cases h
    | _ => cases h
  | .whl c b, X, sc, ga, Z, H0, S0, G, x, g, tp, st, h => by
    unfold matchS at h
    cases st with
    | While c' b' els pos =>
      cases els with
      | nil =>
        obtain ⟨h1, h2⟩ := and2 h
        exact PS.imp (ps_while g.own (soundE c g h1).2 (soundSs b g tp h2)) fun D σ H q => whl_imp q
      | cons e es => cases h
    | _ => cases h
  | .pas, X, sc, ga, Z, H0, S0, G, x, g, tp, st, h => by
    unfold matchS at h
    cases st with
    | Pass pos =>
      refine PS.imp ps_pass fun D σ H q => ?_
      obtain ⟨σd, S, rs, rp, ex, w⟩ := q
      unfold wS at w
      exact w σ H rs rp (Ext.refl _ _)
    | _ => cases h
  | .cont, X, sc, ga, Z, H0, S0, G, x, g, tp, st, h => by
    unfold matchS at h
    cases st with
    | Continue pos =>
      refine PS.imp ps_continue fun D σ H q => ?_
      obtain ⟨σd, S, rs, rp, ex, w⟩ := q
      unfold wS at w
      exact w σ H rs rp (Ext.refl _ _)
    | _ => cases h
  | .bad, X, sc, ga, Z, H0, S0, G, x, g, tp, st, h => by
    refine ⟨fun pins s σ H D I q => ?_⟩
    obtain ⟨σd, S, rs, rp, ex, w⟩ := q
    unfold wS at w
    exact w.elim
  | .sat o f e, X, sc, ga, Z, H0, S0, G, x, g, tp, st, h => by
    unfold matchS at h
    cases st with
    | Assign tgs v pos =>
      match tgs, h with
      | [], h => cases h
      | tg :: _ :: _, h => (cases tg <;> cases h)
      | [tg], h =>
        cases tg with
        | Attribute o' y p =>
          obtain ⟨h1, h⟩ := and2 h
          obtain ⟨h2, h⟩ := and2 h
          obtain ⟨h3, h4⟩ := and2 h
          obtain rfl := of_decide_eq_true h1
          exact sat_s g h2 h4 h3
        | _ => cases h
    | _ => cases h
  | .aga o f op e, X, sc, ga, Z, H0, S0, G, x, g, tp, st, h => by
    unfold matchS at h
    cases st with
    | AugAssign tg o' v pos =>
      cases tg with
      | Attribute o2 y p =>
        obtain ⟨h1, h⟩ := and2 h
        obtain ⟨h2, h⟩ := and2 h
        obtain ⟨h3, h4⟩ := and2 h
        obtain rfl := of_decide_eq_true h1
        obtain rfl := of_decide_eq_true h2
        exact aga_s g h4 h3
      | _ => cases h
    | _ => cases h
  | .ags o i op e, X, sc, ga, Z, H0, S0, G, x, g, tp, st, h => by
    unfold matchS at h
    cases st with
    | AugAssign tg o' v pos =>
      cases tg with
      | Subscript o2 i2 p =>
        obtain ⟨h1, h⟩ := and2 h
        obtain ⟨h2, h⟩ := and2 h
        obtain ⟨h3, h⟩ := and2 h
        obtain ⟨h4, h5⟩ := and2 h
        obtain rfl := of_decide_eq_true h2
        exact ags_s g h1 h4 h5 h3
      | _ => cases h
    | _ => cases h
  | .rai c es, X, sc, ga, Z, H0, S0, G, x, g, tp, st, h => by
    unfold matchS at h
    cases st with
    | Raise e ca pos =>
      cases e with
      | none => cases h
      | some e =>
        cases e with
        | Call fn as ks p2 =>
          cases fn with
          | Name y p =>
            cases ks with
            | nil =>
              cases ca with
              | none =>
                obtain ⟨h1, h⟩ := and2 h
                obtain ⟨h2, h⟩ := and2 h
                obtain ⟨h3, h⟩ := and2 h
                obtain ⟨h4, h⟩ := and2 h
                obtain ⟨h6, h5⟩ := and2 h
                obtain rfl := of_decide_eq_true h1
                obtain ⟨a, r, rfl⟩ := isEmpty_cons h4
                have h6 := of_decide_eq_true h6
                rw [List.length_cons] at h6
                exact rai_s g h2 h3 (by omega) h5
              | some _ => cases h
            | cons k ks => cases h
          | _ => cases h
        | _ => cases h
    | _ => cases h
  | .tri b c i q, X, sc, ga, Z, H0, S0, G, x, g, tp, st, h => by
    unfold matchS at h
    cases st with
    | Try body hs els fin pos =>
      cases hs with
      | nil => cases h
      | cons hd tl =>
        obtain ⟨ty, n, suite, p1⟩ := hd
        cases ty with
        | none => cases h
        | some e =>
          cases e with
          | Name y np =>
            cases tl with
            | cons _ _ => cases h
            | nil =>
              cases els with
              | cons _ _ => cases h
              | nil =>
                cases fin with
                | cons _ _ => cases h
                | nil =>
                  obtain ⟨h1, h⟩ := and2 h
                  obtain ⟨h2, h⟩ := and2 h
                  obtain ⟨h3, h⟩ := and2 h
                  obtain ⟨h4, h⟩ := and2 h
                  obtain ⟨h5, h⟩ := and2 h
                  obtain ⟨h6, h7⟩ := and2 h
                  obtain rfl := of_decide_eq_true h1
                  exact tri_s g tp h2 h3 h4 h5 h6 fun g' => soundSs b g' tp h7
          | _ => cases h
    | _ => cases h
  | .drp _, X, sc, ga, Z, H0, S0, G, x, g, tp, st, h => by unfold matchS at h; cases h
  | .frS _, X, sc, ga, Z, H0, S0, G, x, g, tp, st, h => by unfold matchS at h; cases h
theorem soundSs : ∀ (ms : List MS) {X : Cx} {sc : Scope} {ga : Str → Addr} {Z : Addr → Prop} {H0 : Hp} {S0 : Sto} {G : Gc} {x : XW}, Gd X sc ga Z H0 S0 G x → Tp X → ∀ {sts : List Stmt}, matchSs X.N sc ms sts = true → PSs X sts (tDS (cc X ga Z) H0 S0 (wSs G x ms))
  | [], X, sc, ga, Z, H0, S0, G, x, g, tp, sts, h => by
    unfold matchSs at h
    cases sts with
    | cons a b => cases h
    | nil =>
      refine PSs.imp pss_nil fun D σ H q => ?_
      obtain ⟨σd, S, rs, rp, ex, w⟩ := q
      unfold wSs at w
      exact w σ H rs rp (Ext.refl _ _)
  | .drp i :: r, X, sc, ga, Z, H0, S0, G, x, g, tp, sts, h => by
    unfold matchSs at h
    refine PSs.imp (soundSs r g tp h) fun D σ H q => ?_
    obtain ⟨σd, S, rs, rp, ex, w⟩ := q
    unfold wSs wS at w
    obtain ⟨a, h1, w⟩ := w
    exact ⟨σd, _, rs.ext Ext.rm, rp.rm, ex.trans Ext.rm, wSs_mono (kS_ext Ext.rm) r σd _ w⟩
  | .frS i :: r, X, sc, ga, Z, H0, S0, G, x, g, tp, sts, h => by
    unfold matchSs at h
    refine PSs.imp (soundSs r g tp h) fun D σ H q => ?_
    obtain ⟨σd, S, rs, rp, ex, w⟩ := q
    unfold wSs wS at w
    obtain ⟨a, ds, h1, h2, w⟩ := w
    refine ⟨_, _, ?_, rp.rm, ex.trans Ext.rm, wSs_mono (kS_ext Ext.rm) r _ _ w⟩
    obtain ⟨v, hv, rv⟩ := rs.2 i _ h1
    unfold RelD at rv
    subst rv
    obtain ⟨o, h3, h4⟩ := rp.obj a _ h2
    obtain ⟨vs, rfl, rd⟩ := h4
    have rn : RelD (cc X ga Z) H (rm S a) (.lst ds) (.ref a) := by
      unfold RelD
      exact ⟨a, vs, rfl, ⟨h3, rm_same, fun z => by rw [(rp.z a z).2] at h2; cases h2⟩, rd.ext Ext.rm⟩
    have hs := (rs.ext (Ext.rm (H := H) (p := a))).set i rn
    have e : σ.set i (some (.ref a)) = σ := by
      refine List.ext_getElem? fun j => ?_
      rw [List.getElem?_set]
      split
      · rename_i q; subst q
        split
        · exact hv.symm
        · rename_i q; rw [List.getElem?_eq_none_iff.mpr (by omega)]
      · rfl
    rw [e] at hs
    exact hs
  | .asg t e :: r, X, sc, ga, Z, H0, S0, G, x, g, tp, sts, h => by
    unfold matchSs at h
    cases sts with
    | nil => cases h
    | cons st sts => exact seq_s (soundS (.asg t e) g tp (and2 h).1) (soundSs r g tp (and2 h).2)
  | .six o i e :: r, X, sc, ga, Z, H0, S0, G, x, g, tp, sts, h => by
    unfold matchSs at h
    cases sts with
    | nil => cases h
    | cons st sts => exact seq_s (soundS (.six o i e) g tp (and2 h).1) (soundSs r g tp (and2 h).2)
  | .aug i o e :: r, X, sc, ga, Z, H0, S0, G, x, g, tp, sts, h => by
    unfold matchSs at h
    cases sts with
    | nil => cases h
    | cons st sts => exact seq_s (soundS (.aug i o e) g tp (and2 h).1) (soundSs r g tp (and2 h).2)
  | .exp e :: r, X, sc, ga, Z, H0, S0, G, x, g, tp, sts, h => by
    unfold matchSs at h
    cases sts with
    | nil => cases h
    | cons st sts => exact seq_s (soundS (.exp e) g tp (and2 h).1) (soundSs r g tp (and2 h).2)
  | .ret e :: r, X, sc, ga, Z, H0, S0, G, x, g, tp, sts, h => by
    unfold matchSs at h
    cases sts with
    | nil => cases h
    | cons st sts => exact seq_s (soundS (.ret e) g tp (and2 h).1) (soundSs r g tp (and2 h).2)
  | .ite c a b :: r, X, sc, ga, Z, H0, S0, G, x, g, tp, sts, h => by
    unfold matchSs at h
    cases sts with
    | nil => cases h
    | cons st sts => exact seq_s (soundS (.ite c a b) g tp (and2 h).1) (soundSs r g tp (and2 h).2)
  | .for_ i t as b :: r, X, sc, ga, Z, H0, S0, G, x, g, tp, sts, h => by
    unfold matchSs at h
    cases sts with
    | nil => cases h
    | cons st sts => exact seq_s (soundS (.for_ i t as b) g tp (and2 h).1) (soundSs r g tp (and2 h).2)
  | .whl c b :: r, X, sc, ga, Z, H0, S0, G, x, g, tp, sts, h => by
    unfold matchSs at h
    cases sts with
    | nil => cases h
    | cons st sts => exact seq_s (soundS (.whl c b) g tp (and2 h).1) (soundSs r g tp (and2 h).2)
  | .pas :: r, X, sc, ga, Z, H0, S0, G, x, g, tp, sts, h => by
    unfold matchSs at h
    cases sts with
    | nil => cases h
    | cons st sts => exact seq_s (soundS .pas g tp (and2 h).1) (soundSs r g tp (and2 h).2)
  | .cont :: r, X, sc, ga, Z, H0, S0, G, x, g, tp, sts, h => by
    unfold matchSs at h
    cases sts with
    | nil => cases h
    | cons st sts => exact seq_s (soundS .cont g tp (and2 h).1) (soundSs r g tp (and2 h).2)
  | .sat o f e :: r, X, sc, ga, Z, H0, S0, G, x, g, tp, sts, h => by
    unfold matchSs at h
    cases sts with
    | nil => cases h
    | cons st sts => exact seq_s (soundS (.sat o f e) g tp (and2 h).1) (soundSs r g tp (and2 h).2)
  | .aga o f op e :: r, X, sc, ga, Z, H0, S0, G, x, g, tp, sts, h => by
    unfold matchSs at h
    cases sts with
    | nil => cases h
    | cons st sts => exact seq_s (soundS (.aga o f op e) g tp (and2 h).1) (soundSs r g tp (and2 h).2)
  | .ags o i op e :: r, X, sc, ga, Z, H0, S0, G, x, g, tp, sts, h => by
    unfold matchSs at h
    cases sts with
    | nil => cases h
    | cons st sts => exact seq_s (soundS (.ags o i op e) g tp (and2 h).1) (soundSs r g tp (and2 h).2)
  | .rai c es :: r, X, sc, ga, Z, H0, S0, G, x, g, tp, sts, h => by
    unfold matchSs at h
    cases sts with
    | nil => cases h
    | cons st sts => exact seq_s (soundS (.rai c es) g tp (and2 h).1) (soundSs r g tp (and2 h).2)
  | .tri b c i q :: r, X, sc, ga, Z, H0, S0, G, x, g, tp, sts, h => by
    unfold matchSs at h
    cases sts with
    | nil => cases h
    | cons st sts => exact seq_s (soundS (.tri b c i q) g tp (and2 h).1) (soundSs r g tp (and2 h).2)
  | .bad :: r, X, sc, ga, Z, H0, S0, G, x, g, tp, sts, h => by
    unfold matchSs at h
    cases sts with
    | nil => cases h
    | cons st sts => exact seq_s (soundS (.bad) g tp (and2 h).1) (soundSs r g tp (and2 h).2)
end
end Mn

namespace Mn
open PySem L2
/-! ### a def keeps its word -/
def startD (N : List Str) (ds : List D) : Env := ds.map some ++ List.replicate (N.length - ds.length) none
theorem start_rel {C : Cc} {H : Hp} {S : Sto} {N : List Str} {ds : List D} {vs : List V} (r : RelDs C H S ds vs) : RelS C H S (startD N ds) (L2.start N vs) := by
  unfold startD L2.start
  rw [r.len]
  refine ⟨by simp [r.len], fun i d h => ?_⟩
  rcases Nat.lt_or_ge i ds.length with q | q
  · rw [List.getElem?_append_left (by simpa using q), List.getElem?_map] at h
    obtain ⟨d', h1, h2⟩ := Option.map_eq_some_iff.mp h
    cases h2
    obtain ⟨v, h3, h4⟩ := r.get h1
    exact ⟨v, by rw [List.getElem?_append_left (by simpa [r.len] using q), List.getElem?_map, h3]; rfl, h4⟩
  · rw [List.getElem?_append_right (by simpa using q)] at h
    rw [List.getElem?_replicate] at h
    split at h <;> cases h
/-- what the module's names stand for -/
structure Md (P : Program) (w : World) (K : PySem.W.Frag) (mg : Str → Option Value) (base : Heap) (ga : Str → Addr) (G : Gc) (k : Nat) : Prop where
  fns : ∀ f n sp, G.fn f = some (n, sp) → ∃ (fa : Addr) (fd : FuncData) (j : Nat) (ps : List Str), ps.length = n ∧ mg f = some (.ref fa) ∧ FnOk P w K mg base (L2.CX P w) j fa fd ps (lift K ga n sp) ∧ j ≤ k ∧ PySem.W.keepIn K (.ref fa) = true ∧ Binds K fd ps []
  con : ∀ n d, G.con n = some d → ∃ v u, mg n = some u ∧ RelV v u ∧ ∀ Z H S, RelD ⟨K, ga, Z⟩ H S d v
  mts : ∀ c m n sp, G.mt c m = some (n, sp) → ∃ (fa : Addr) (fd : FuncData) (j : Nat) (ps : List Str), ps.length = n ∧ L2.Cls K (ga c) ∧ L2.Meth K (ga c) m fa ∧ FnOk P w K mg base (L2.CX P w) j fa fd ps (lift K ga n sp) ∧ j ≤ k ∧ Binds K fd ps []
  mks : ∀ c n sp, G.mkr c = some (n, sp) → ∃ (fa : Addr) (fd : FuncData) (j : Nat) (ps : List Str), ps.length = n ∧ mg c = some (.ref (ga c)) ∧ L2.Mk K (ga c) fa ∧ FnOk P w K mg base (L2.CX P w) j fa fd ps (lift K ga n sp) ∧ j + 1 ≤ k ∧ Binds K fd ps []
  flds : ∀ c f, G.fld c f = true → L2.Cls K (ga c) ∧ L2.NoAttr K (ga c) f
  excs : ∀ c n F, G.exc c = some (n, F) → ∃ (fI : Addr) (fd : FuncData) (j : Nat) (ps : List Str) (F' : List V → List (Str × V)), mg c = some (.ref (ga c)) ∧ OexC K (ga c) ∧ PySem.W.findIn K (.ref (ga c)) "__init__" = some (some (.ref fI)) ∧ PySem.W.typeIn K (.ref fI) = some (.type "function") ∧
    FnOk P w K mg base (L2.CX P w) j fI fd ps (spEx (ga c) n F') ∧ j + 1 ≤ k ∧ Binds K fd ps [] ∧ RelFn F F'
  subs : ∀ c c' b, G.sub c c' = some b → mg c' = some (.ref (ga c')) ∧ PySem.W.exmOne K (.ref (ga c)) (.ref (ga c')) = some b ∧ PySem.W.kitOne K (.ref (ga c)) (.ref (ga c')) = some b ∧ ExcC K (ga c)
  xfls : ∀ c f, G.xfl c f = true → XfC K (ga c) ∧ PySem.W.findIn K (.ref (ga c)) f = some none
  zip : mg "zip" = none
  blt : ∀ f : Bf, mg f.nm = none
  tys : ∀ n, tyB n = true → mg (Str.ofString n) = none
  rng : mg "range" = none
  enm : mg "enumerate" = none
/-- the body's word: from the promise to its reading -/
def BodyOk (G : Gc) (N : List Str) (n : Nat) (ms : List MS) (sp : DSp) : Prop := ∀ (ds : List D) (S : Sto) (Q : D → Sto → Prop) (X : Exc → Sto → Prop), ds.length = n → sp ds S Q X → wSs G (fun e _ S' => X e S') ms (startD N ds) S { nx := fun _ S' => Q .non S', rt := Q }
theorem fn_ok {P : Program} {w : World} {K : PySem.W.Frag} {mg : Str → Option Value} {base : Heap} {ga : Str → Addr} {G : Gc} {k : Nat} {nm qual : Str} {params : Arguments} {body : List Stmt} {scope : Scope} {f : Addr} {fd : FuncData} {N ps : List Str} {ms : List MS} {sp : DSp}
    (F : FunD K nm qual params body scope [] [] f fd) (Sc : FnScope N ps scope) (M : Md P w K mg base ga G k) (hm : matchSs N scope ms body = true) (hb : BodyOk G N ps.length ms sp) : FnOk P w K mg base (L2.CX P w) (k + 1) f fd ps (lift K ga ps.length sp) := by
  refine F.ok Sc (fun vs H Q E h => h.1) fun cdv A outer s H vs Q E hr h => ?_
  obtain ⟨hl, ds, S, Z, r, rp, Q', X', hQ, hX, hsp⟩ := h
  refine ⟨tDS ⟨K, ga, Z⟩ H S (wSs G (fun e _ S' => X' e S') ms), ?_, startD N ds, S, start_rel r, rp, Ext.refl _ _, wSs_mono ?_ ms _ S (hb ds S Q' X' (by rw [← r.len]; exact hl) hsp)⟩
  · refine soundSs ms (X := cxOf (L2.CX P w) P w K mg base N qual scope f cdv A outer s H E) (sc := scope) (ga := ga) (Z := Z) ?_ ⟨rfl, rfl⟩ hm
    exact {
      nd := Sc.nd
      calm := rfl
      room := hr.units
      sck := ⟨Sc.kind, fun x k h => ⟨k, h, .inl rfl⟩⟩
      tk := Takes.imp (takes_of rfl rfl rfl rfl) fun cls d σ H' q => by
        obtain ⟨e, σd, S', _, rp', ex', rx, hx⟩ := q
        exact hX e S' hx H' cls d rp' ex' rx
      own := passes_of rfl
      fns := fun g n sp h => by
        obtain ⟨fa, fd, j, ps, h1, h2, h3, h4, h5, h6⟩ := M.fns g n sp h
        exact ⟨fa, fd, j, ps, h1, h2, h3, hr.mono h4, h5, h6⟩
      con := fun n d h => M.con n d h
      blt := M.blt
      tys := M.tys
      mts := fun c m n sp h => by
        obtain ⟨fa, fd, j, ps, h1, h2, h3, h4, h5, h6⟩ := M.mts c m n sp h
        exact ⟨fa, fd, j, ps, h1, h2, h3, h4, hr.mono h5, h6⟩
      mks := fun c n sp h => by
        obtain ⟨fa, fd, j, ps, h1, h2, h3, h4, h5, h6⟩ := M.mks c n sp h
        exact ⟨fa, fd, j, ps, h1, h2, h3, h4, hr.mono h5, h6⟩
      flds := M.flds
      excs := fun c n F h => by
        obtain ⟨fI, fd, j, ps, F', h1, h2, h3, h4, h5, h6, h7, h8⟩ := M.excs c n F h
        exact ⟨fI, fd, j, ps, F', h1, h2, h3, h4, h5, hr.mono h6, h7, h8⟩
      subs := fun c c' b h => by
        obtain ⟨h1, h2, h3, h4⟩ := M.subs c c' b h
        exact ⟨h1, h2, h3, h4⟩
      xfls := M.xfls
      zip := M.zip
      rng := M.rng
      enm := M.enm
      fnl := fun _ _ => .inl rfl }
  · refine ⟨fun σ' S' q σv H' _ rp' e' => hQ _ _ q H' .non rp' e' mk_non, fun d S' q => hQ _ _ q, fun _ _ q => q.elim, fun _ _ q => q.elim⟩
end Mn

namespace Mn
open PySem L2
/-! ### the classes of exceptions: their __init__, walked once -/
/-- self.f = e -/
def xSet (f : Str) : Stmt → Option Expr
  | .Assign [.Attribute (.Name x _) g _] v _ => if x = "self" ∧ g = f then some v else none
  | _ => none
/-- B.__init__(self, e) -/
def xUp (b : Str) : Stmt → Option Expr
  | .Expr (.Call (.Attribute (.Name x _) g ap) [.Name s _, v] [] cp) _ => if x = b ∧ g = "__init__" ∧ s = "self" ∧ (ap.endLine == cp.line) = true then some v else none
  | _ => none
def xNm (n : Str) : Option Expr → Bool
  | some (.Name x _) => decide (x = n)
  | _ => false
def xTx (w : Str) : Option Expr → Bool
  | some (.Constant (.str x) _ _) => decide (x = w)
  | _ => false
/-- the base's text; a further class's; a class's with a field of its own -/
def b0B : List Stmt → Bool
  | [s1, s2] => xNm "why" (xSet "why" s1) && xTx "" (xSet "word" s2)
  | _ => false
def b1B (b w : Str) : List Stmt → Bool
  | [s1, s2] => xNm "why" (xUp b s1) && xTx w (xSet "word" s2)
  | _ => false
def b2B (b w y f : Str) : List Stmt → Bool
  | [s1, s2, s3] => xTx y (xUp b s1) && (xTx w (xSet "word" s2) && xNm f (xSet f s3))
  | _ => false
theorem xSet_inv {f : Str} {s : Stmt} {v : Expr} (h : xSet f s = some v) : ∃ p1 p2 p3, s = .Assign [.Attribute (.Name "self" p1) f p2] v p3 := by
  unfold xSet at h
  split at h
  · split at h
    · rename_i x p1 g p2 v' p3 q
      cases h
      obtain ⟨rfl, rfl⟩ := q
      exact ⟨p1, p2, p3, rfl⟩
    · cases h
  · cases h
theorem xUp_inv {b : Str} {s : Stmt} {v : Expr} (h : xUp b s = some v) : ∃ p1 p2 p3 p4 p5, s = .Expr (.Call (.Attribute (.Name b p1) "__init__" p2) [.Name "self" p3, v] [] p4) p5 ∧ (p2.endLine == p4.line) = true := by
  unfold xUp at h
  split at h
  · split at h
    · rename_i x p1 g p2 s' p3 v' p4 p5 q
      cases h
      obtain ⟨rfl, rfl, rfl, q⟩ := q
      exact ⟨p1, p2, p3, p4, p5, rfl, q⟩
    · cases h
  · cases h
theorem xNm_inv {n : Str} {o : Option Expr} (h : xNm n o = true) : ∃ p, o = some (.Name n p) := by
  unfold xNm at h
  split at h
  · obtain rfl := of_decide_eq_true h
    exact ⟨_, rfl⟩
  · cases h
theorem xTx_inv {n : Str} {o : Option Expr} (h : xTx n o = true) : ∃ k p, o = some (.Constant (.str n) k p) := by
  unfold xTx at h
  split at h
  · obtain rfl := of_decide_eq_true h
    exact ⟨_, _, rfl⟩
  · cases h
/-- C.m(e, ..), m a def of the class C -/
theorem pe_base {X : Cx} {CX : CXT} {k : Nat} {f C : Addr} {fd : FuncData} {ps : List Str} {sp : Sp} {E : XK} {mc : Value} {b m : Str} {p1 p2 pos : Pos} {e : Expr} {es : List Expr} {t : TA} (r : ClX.CRead X.K C mc) (c : PySem.W.findCls X.K (.ref C) mc m = some (.val (.ref f))) (F : FnOk X.prog X.w X.K X.mg X.base CX k f fd ps sp) (hr : Room k X.A)
    (hk : PySem.W.keepIn X.K (.ref f) = true) (hb : Binds X.K fd ps []) (hx : Passes CX X E) (hg : Gl X b) (hm : X.mg b = some (.ref C)) (hdb : (b == ("__debug__" : Str)) = false) (ha : PA X (e :: es) t) (hl : (p2.endLine == pos.line) = true)
    (hf : methodCallForm ((e :: es).length + ([] : List Keyword).length) (backTo pos (starEach (e :: es) X.env)) (backToKw pos (keywordEach [] X.env)) = true)
    (hs : starEach (e :: es) X.env = (false, eval e X.env) :: starEach es X.env) (hpl : (backTo pos (starEach es X.env)).any (·.1) = false) : PE X (.Call (.Attribute (.Name b p1) m p2) (e :: es) [] pos) (fun σ H Q => t σ H fun vs H1 => sp (vs ++ []) H1 Q E) := by
  refine ⟨fun pins s σ H Q I h => ?_⟩
  refine PySem.W.methodCall_KW (ld_glob I hg hm ?_ hdb) (meth_eval rfl hf hl)
  refine PySem.W.method_cls I.kIn r.ga (ClX.getcval_ok (v := .ref f) I r ⟨c, rfl⟩ fun s' I' => ?_)
  exact PySem.W.callWith_K (first := []) (h₀ := X.base) I.ok.mod.kin hk (thn (ha.run pos pins s' σ H _ I' h) fun us s1 ⟨vs, H1, I1, rv, q⟩ => ⟨I1.kIn, run_fn (dvs := []) (ds := []) F hr hb .nil hx I1 rv q⟩) hs hpl
section
variable {P : Program} {w : World} {K : PySem.W.Frag} {mg : Str → Option Value} {base : Heap}
def noF (K : PySem.W.Frag) (C : Addr) (f : Str) : Prop := PySem.W.findIn K (.ref C) f = some none
/-- the base's word: any class over it -/
def spB0 (K : PySem.W.Frag) : Sp := fun vs H Q _ => ∃ a C y, vs = [.ref a, y] ∧ OexC K C ∧ noF K C "why" ∧ noF K C "word" ∧ H a = some (exo a C none) ∧ ∀ dx, H dx = none → dx ≠ a → Q .non (upd (upd H dx (exd dx [("word", .str ""), ("why", y)])) a (exo a C (some dx)))
theorem upd_upd {H : Hp} {a : Addr} {o u : HO} : upd (upd H a o) a u = upd H a u := by
  funext b
  by_cases h : b = a
  · subst h; rw [upd_same, upd_same]
  · rw [upd_ne h, upd_ne h, upd_ne h]
theorem upd_swap {H : Hp} {a b : Addr} {o u : HO} (n : a ≠ b) : upd (upd H a o) b u = upd (upd H b u) a o := by
  funext c
  by_cases h : c = a
  · subst h; rw [upd_ne n, upd_same, upd_same]
  · by_cases h2 : c = b
    · subst h2; rw [upd_same, upd_ne h, upd_same]
    · rw [upd_ne h2, upd_ne h, upd_ne h, upd_ne h2]
theorem b0_ok {nm qual : Str} {params : Arguments} {body : List Stmt} {scope : Scope} {f : Addr} {fd : FuncData} (F : FunD K nm qual params body scope [] [] f fd) (Sc : FnScope ["self", "why"] ["self", "why"] scope) (hb : b0B body = true) :
    FnOk P w K mg base (L2.CX P w) 1 f fd ["self", "why"] (spB0 K) := by
  refine F.ok (k := 0) Sc (fun vs H Q E h => by obtain ⟨a, C, y, rfl, _⟩ := h; rfl) fun cdv A outer s H vs Q E hr h => ?_
  unfold b0B at hb
  split at hb
  · rename_i s1 s2
    obtain ⟨h1, h2⟩ := and2 hb
    obtain ⟨p, e1⟩ := xNm_inv h1
    obtain ⟨kk, p', e2⟩ := xTx_inv h2
    obtain ⟨q1, q2, q3, rfl⟩ := xSet_inv e1
    obtain ⟨q4, q5, q6, rfl⟩ := xSet_inv e2
    have v0 : Vis scope "self" := (Sc.par "self" (by simp)).imp id fun z => .inl z
    have v1 : Vis scope "why" := (Sc.par "why" (by simp)).imp id fun z => .inl z
    refine ⟨_, pss_cons (ps_ost (pe_var (i := 0) rfl v0 (by decide) (by decide)) (pe_var (i := 1) rfl v1 (by decide) (by decide)) rfl) (pss_one (ps_ost (pe_var (i := 0) rfl v0 (by decide) (by decide)) pe_str rfl)), ?_⟩
    obtain ⟨a, C, y, rfl, T, n1, n2, ha, k⟩ := h
    refine ⟨y, rfl, .ref a, rfl, a, C, rfl, T, n1, .inl ⟨ha, fun dx hd hne => ?_⟩⟩
    refine ⟨.ref a, rfl, a, C, rfl, T, n2, .inr ⟨dx, [("why", y)], upd_same, by rw [upd_ne hne, upd_same], by simp, ?_⟩⟩
    have e : upd (upd (upd H dx (exd dx [("why", y)])) a (exo a C (some dx))) dx (exd dx [("word", .str ""), ("why", y)]) = upd (upd H dx (exd dx [("word", .str ""), ("why", y)])) a (exo a C (some dx)) := by
      rw [← upd_swap hne, upd_upd]
    show Q .non _
    rw [e]
    exact k dx hd hne
  · cases hb
/-- the base, as its classes need it -/
structure Bs (P : Program) (w : World) (K : PySem.W.Frag) (mg : Str → Option Value) (base : Heap) (b : Str) (Cb f0 : Addr) (fd0 : FuncData) : Prop where
  rd : ClX.CRead K Cb (.type "type")
  fc : PySem.W.findCls K (.ref Cb) (.type "type") "__init__" = some (.val (.ref f0))
  ok : FnOk P w K mg base (L2.CX P w) 1 f0 fd0 ["self", "why"] (spB0 K)
  kp : PySem.W.keepIn K (.ref f0) = true
  bi : Binds K fd0 ["self", "why"] []
  mg : mg b = some (.ref Cb)
  db : (b == ("__debug__" : Str)) = false
def F1 (α : Type) (s : Str → α) (n : α) (w : Str) : List α → List (Str × α) := fun ws => [("word", s w), ("word", s ""), ("why", ws.headD n)]
def F2' (α : Type) (s : Str → α) (n : α) (w y f : Str) : List α → List (Str × α) := fun ws => [(f, ws.headD n), ("word", s w), ("word", s ""), ("why", s y)]
theorem b1_ok {b : Str} {Cb f0 : Addr} {fd0 : FuncData} (B : Bs P w K mg base b Cb f0 fd0) {nm qual wd : Str} {params : Arguments} {body : List Stmt} {scope : Scope} {f C : Addr} {fd : FuncData} (F : FunD K nm qual params body scope [] [] f fd) (Sc : FnScope ["self", "why"] ["self", "why"] scope) (hg : gloB scope b = true) (hb : b1B b wd body = true)
    (T : OexC K C) (n1 : noF K C "why") (n2 : noF K C "word") : FnOk P w K mg base (L2.CX P w) 2 f fd ["self", "why"] (spEx C 1 (F1 V V.str .non wd)) := by
  refine F.ok (k := 1) Sc (fun vs H Q E h => by obtain ⟨a, ws, rfl, hw, _⟩ := h; rw [List.length_cons, hw]; rfl) fun cdv A outer s H vs Q E hr h => ?_
  unfold b1B at hb
  split at hb
  · rename_i s1 s2
    obtain ⟨h1, h2⟩ := and2 hb
    obtain ⟨p, e1⟩ := xNm_inv h1
    obtain ⟨kk, p', e2⟩ := xTx_inv h2
    obtain ⟨q1, q2, q3, q4, q5, rfl, hl⟩ := xUp_inv e1
    obtain ⟨q6, q7, q8, rfl⟩ := xSet_inv e2
    have v0 : Vis scope "self" := (Sc.par "self" (by simp)).imp id fun z => .inl z
    have v1 : Vis scope "why" := (Sc.par "why" (by simp)).imp id fun z => .inl z
    have sk : Sck (cxOf (L2.CX P w) P w K mg base ["self", "why"] qual scope f cdv A outer s H E) scope := ⟨Sc.kind, fun x k h => ⟨k, h, .inl rfl⟩⟩
    have up := pe_base (X := cxOf (L2.CX P w) P w K mg base ["self", "why"] qual scope f cdv A outer s H E) (p1 := q1) (e := .Name "self" q3) (es := [.Name "why" p]) B.rd B.fc B.ok hr B.kp B.bi passes_no (sk.glo hg) B.mg B.db
      (pa_cons (pe_var (i := 0) rfl v0 (by decide) (by decide)) (pa_cons (pe_var (i := 1) rfl v1 (by decide) (by decide)) pa_nil rfl) rfl) hl rfl rfl rfl
    refine ⟨_, pss_cons (ps_expr up rfl) (pss_one (ps_ost (pe_var (i := 0) rfl v0 (by decide) (by decide)) pe_str rfl)), ?_⟩
    obtain ⟨a, ws, rfl, hw, ha, k⟩ := h
    obtain ⟨y, rfl⟩ := List.length_eq_one_iff.mp hw
    refine ⟨.ref a, rfl, y, rfl, a, C, y, rfl, T, n1, n2, ha, fun dx hd hne => ?_⟩
    refine ⟨.ref a, rfl, a, C, rfl, T, n2, .inr ⟨dx, [("word", .str ""), ("why", y)], upd_same, by rw [upd_ne hne, upd_same], by simp, ?_⟩⟩
    have e : upd (upd (upd H dx (exd dx [("word", .str ""), ("why", y)])) a (exo a C (some dx))) dx (exd dx (F1 V V.str .non wd [y])) = upd (upd H dx (exd dx (F1 V V.str .non wd [y]))) a (exo a C (some dx)) := by
      rw [← upd_swap hne, upd_upd]
    show Q .non _
    exact e ▸ k dx hd hne
  · cases hb
theorem b2_ok {b : Str} {Cb f0 : Addr} {fd0 : FuncData} (B : Bs P w K mg base b Cb f0 fd0) {nm qual wd yt g : Str} {params : Arguments} {body : List Stmt} {scope : Scope} {f C : Addr} {fd : FuncData} (F : FunD K nm qual params body scope [] [] f fd) (Sc : FnScope ["self", g] ["self", g] scope) (hg : gloB scope b = true) (hb : b2B b wd yt g body = true) (hd1 : (g == ("__debug__" : Str)) = false) (hd2 : (g == ("__classdict__" : Str)) = false)
    (T : OexC K C) (n1 : noF K C "why") (n2 : noF K C "word") (n3 : noF K C g) : FnOk P w K mg base (L2.CX P w) 2 f fd ["self", g] (spEx C 1 (F2' V V.str .non wd yt g)) := by
  refine F.ok (k := 1) Sc (fun vs H Q E h => by obtain ⟨a, ws, rfl, hw, _⟩ := h; rw [List.length_cons, hw]; rfl) fun cdv A outer s H vs Q E hr h => ?_
  unfold b2B at hb
  split at hb
  · rename_i s1 s2 s3
    obtain ⟨h1, h2⟩ := and2 hb
    obtain ⟨h2, h3⟩ := and2 h2
    obtain ⟨kk, p, e1⟩ := xTx_inv h1
    obtain ⟨kk', p', e2⟩ := xTx_inv h2
    obtain ⟨p'', e3⟩ := xNm_inv h3
    obtain ⟨q1, q2, q3, q4, q5, rfl, hl⟩ := xUp_inv e1
    obtain ⟨q6, q7, q8, rfl⟩ := xSet_inv e2
    obtain ⟨q9, q10, q11, rfl⟩ := xSet_inv e3
    have v0 : Vis scope "self" := (Sc.par "self" (by simp)).imp id fun z => .inl z
    have v1 : Vis scope g := (Sc.par g (by simp)).imp id fun z => .inl z
    have sk : Sck (cxOf (L2.CX P w) P w K mg base ["self", g] qual scope f cdv A outer s H E) scope := ⟨Sc.kind, fun x k h => ⟨k, h, .inl rfl⟩⟩
    have up := pe_base (X := cxOf (L2.CX P w) P w K mg base ["self", g] qual scope f cdv A outer s H E) (p1 := q1) (e := .Name "self" q3) (es := [.Constant (.str yt) kk p]) B.rd B.fc B.ok hr B.kp B.bi passes_no (sk.glo hg) B.mg B.db
      (pa_cons (pe_var (i := 0) rfl v0 (by decide) (by decide)) (pa_cons pe_str pa_nil rfl) rfl) hl rfl rfl rfl
    refine ⟨_, pss_cons (ps_expr up rfl) (pss_cons (ps_ost (pe_var (i := 0) rfl v0 (by decide) (by decide)) pe_str rfl) (pss_one (ps_ost (pe_var (i := 0) rfl v0 (by decide) (by decide)) (pe_var (i := 1) rfl v1 hd1 hd2) rfl))), ?_⟩
    obtain ⟨a, ws, rfl, hw, ha, k⟩ := h
    obtain ⟨y, rfl⟩ := List.length_eq_one_iff.mp hw
    refine ⟨.ref a, rfl, a, C, .str yt, rfl, T, n1, n2, ha, fun dx hd hne => ?_⟩
    refine ⟨.ref a, rfl, a, C, rfl, T, n2, .inr ⟨dx, [("word", .str ""), ("why", .str yt)], upd_same, by rw [upd_ne hne, upd_same], by simp, ?_⟩⟩
    refine ⟨y, rfl, .ref a, rfl, a, C, rfl, T, n3, .inr ⟨dx, [("word", .str wd), ("word", .str ""), ("why", .str yt)], by rw [upd_ne (Ne.symm hne), upd_same], upd_same, by simp, ?_⟩⟩
    have e : upd (upd (upd (upd H dx (exd dx [("word", .str ""), ("why", .str yt)])) a (exo a C (some dx))) dx (exd dx [("word", .str wd), ("word", .str ""), ("why", .str yt)])) dx (exd dx (F2' V V.str .non wd yt g [y])) = upd (upd H dx (exd dx (F2' V V.str .non wd yt g [y]))) a (exo a C (some dx)) := by
      rw [upd_upd, ← upd_swap hne, upd_upd]
    show Q .non _
    exact e ▸ k dx hd hne
  · cases hb
theorem F1_rel {wd : Str} (h : PySem.PyData.strOk wd = true) : RelFn (F1 D D.str .non wd) (F1 V V.str .non wd) := by
  intro C H S ds vs r f x hx
  have h0 : RelD C H S (ds.headD .non) (vs.headD .non) := by
    cases ds with
    | nil => unfold RelDs at r; subst r; exact mk_non
    | cons d ds => unfold RelDs at r; obtain ⟨v, l, rfl, r1, _⟩ := r; exact r1
  unfold F1 at hx ⊢
  simp only [List.lookup_cons, List.lookup_nil] at hx ⊢
  split at hx
  · cases hx; exact ⟨_, rfl, mk_str h⟩
  · split at hx
    · cases hx; exact ⟨_, rfl, mk_str (by decide +kernel)⟩
    · split at hx
      · cases hx; exact ⟨_, rfl, h0⟩
      · cases hx
theorem F2_rel {wd yt g : Str} (h : PySem.PyData.strOk wd = true) (hy : PySem.PyData.strOk yt = true) : RelFn (F2' D D.str .non wd yt g) (F2' V V.str .non wd yt g) := by
  intro C H S ds vs r f x hx
  have h0 : RelD C H S (ds.headD .non) (vs.headD .non) := by
    cases ds with
    | nil => unfold RelDs at r; subst r; exact mk_non
    | cons d ds => unfold RelDs at r; obtain ⟨v, l, rfl, r1, _⟩ := r; exact r1
  unfold F2' at hx ⊢
  simp only [List.lookup_cons, List.lookup_nil] at hx ⊢
  split at hx
  · cases hx; exact ⟨_, rfl, h0⟩
  · split at hx
    · cases hx; exact ⟨_, rfl, mk_str h⟩
    · split at hx
      · cases hx; exact ⟨_, rfl, mk_str (by decide +kernel)⟩
      · split at hx
        · cases hx; exact ⟨_, rfl, mk_str hy⟩
        · cases hx
end
end Mn

namespace Mn
open PySem L2
theorem oexB_ok {K : PySem.W.Frag} {C : Addr} (h : oexB K C = true) : OexC K C := by
  unfold oexB at h
  obtain ⟨h1, h⟩ := He.ba h
  obtain ⟨h2, h⟩ := He.ba h
  obtain ⟨h3, h⟩ := He.ba h
  obtain ⟨h4, h5⟩ := He.ba h
  refine ⟨?_, He.eqO_ok h2, of_decide_eq_true h3, of_decide_eq_true h4, h5⟩
  split at h1
  · rename_i dd cd sl ho
    split at h1
    · rename_i D bm k0 k1 k2 k3 n k5 hm hs
      obtain ⟨g1, h1⟩ := He.ba h1
      obtain ⟨g2, h1⟩ := He.ba h1
      obtain ⟨g3, h1⟩ := He.ba h1
      obtain ⟨g4, g5⟩ := He.ba h1
      obtain rfl := of_decide_eq_true g1
      obtain rfl := of_decide_eq_true g2
      obtain ⟨nm, bs, mro, ns, qn, hd, sn, sub, ab, col, del⟩ := cd
      dsimp only at hm g3 g4
      subst hm g4
      have g3 : del = false := by simpa using g3
      subst g3
      have e : sl = #[k0, k1, k2, k3, some (.builtin "ValueError.__new__"), k5] := Array.ext' hs
      subst e
      exact ⟨nm, qn, ns, bs, bm, sn, sub, ab, col, dd, k0, k1, k2, k3, k5, ho, g5⟩
    · cases h1
  · cases h1
theorem mro_ok {K : PySem.W.Frag} {c : Str} (h : (Fx.mro c).ok K = true) : (∃ cd, PySem.W.clsIn K (He.ga K c) = some cd ∧ cd.mro = mroL K c) ∧ PySem.W.typeIn K (.ref (He.ga K c)) = some (.type "type") ∧ PySem.W.hasDictIn K (He.ga K c) = true := by
  obtain ⟨h1, h⟩ := He.ba (show (decide ((PySem.W.clsIn K (He.ga K c)).map (·.mro) = some (mroL K c)) && (decide (PySem.W.typeIn K (.ref (He.ga K c)) = some (.type "type")) && PySem.W.hasDictIn K (He.ga K c))) = true from h)
  obtain ⟨h2, h3⟩ := He.ba h
  obtain ⟨cd, h4, h5⟩ := Option.map_eq_some_iff.mp (of_decide_eq_true h1)
  exact ⟨⟨cd, h4, h5⟩, of_decide_eq_true h2, h3⟩
theorem mro_sub {K : PySem.W.Frag} {c : Str} (h : (Fx.mro c).ok K = true) (v : Value) : PySem.W.subIn K (.ref (He.ga K c)) v = some ((mroL K c).contains v) := by
  obtain ⟨⟨cd, h1, h2⟩, _⟩ := mro_ok h
  show PySem.W.mroIn K (He.ga K c) v = _
  unfold PySem.W.mroIn
  rw [h1, Option.bind_some, h2, if_neg]
  unfold mroL
  split <;> simp
def subB (c c' : Str) : Bool := decide (c = c') || decide (c' = exTop)
theorem nodup_inj {α β : Type} {f : α → β} : ∀ {l : List α}, (l.map f).Nodup → ∀ {a b : α}, a ∈ l → b ∈ l → f a = f b → a = b
  | [], _, a, b, ha, _, _ => by cases ha
  | x :: l, h, a, b, ha, hb, e => by
    rw [List.map_cons, List.nodup_cons] at h
    rcases List.mem_cons.mp ha with z | ha2
    · rcases List.mem_cons.mp hb with z' | hb2
      · rw [z, z']
      · exact absurd (List.mem_map.mpr ⟨b, hb2, by rw [← e, z]⟩) h.1
    · rcases List.mem_cons.mp hb with z' | hb2
      · exact absurd (List.mem_map.mpr ⟨a, ha2, by rw [e, z']⟩) h.1
      · exact nodup_inj h.2 ha2 hb2 e
theorem ga_inj {K : PySem.W.Frag} {l : List Str} (h : (Fx.dis l).ok K = true) {c c' : Str} (m : c ∈ l) (m' : c' ∈ l) (e : He.ga K c = He.ga K c') : c = c' := by
  have hn : (l.map (He.ga K)).Nodup := of_decide_eq_true h
  exact nodup_inj hn m m' e
theorem mroL_has {K : PySem.W.Frag} {l : List Str} (h : (Fx.dis l).ok K = true) {c c' : Str} (m : c ∈ l) (m' : c' ∈ l) (mt : exTop ∈ l) : (mroL K c).contains (.ref (He.ga K c')) = subB c c' := by
  have key : ∀ x ∈ l, ((Value.ref (He.ga K c')) == (Value.ref (He.ga K x))) = decide (x = c') := fun x hx => by
    by_cases e : x = c'
    · subst e; simp
    · rw [decide_eq_false e]
      refine beq_eq_false_iff_ne.mpr fun z => e ?_
      exact (ga_inj h m' hx (Value.ref.inj z)).symm
  have kt : ∀ n, ((Value.ref (He.ga K c')) == (Value.type n)) = false := fun n => beq_eq_false_iff_ne.mpr fun z => nomatch z
  unfold mroL subB
  split
  · rename_i e
    subst e
    simp only [List.contains_cons, List.contains_nil, veT, key _ mt, kt, Bool.or_false]
    by_cases q : exTop = c'
    · subst q; simp
    · have q' : ¬ c' = exTop := fun z => q z.symm
      simp [q, q']
  · simp only [List.contains_cons, List.contains_nil, veT, key _ m, key _ mt, kt, Bool.or_false]
    by_cases q : exTop = c'
    · subst q; simp
    · have q' : ¬ c' = exTop := fun z => q z.symm
      simp [q, q']
/-- nothing leaves the law -/
theorem fn_shut {P : Program} {w : World} {K : PySem.W.Frag} {mg : Str → Option Value} {base : Heap} {k : Nat} {f : Addr} {fd : FuncData} {ps : List Str} {sp : Sp} (F : FnOk P w K mg base (L2.CX P w) k f fd ps sp) :
    FnOk P w K mg base CX0 k f fd ps (fun vs H Q _ => sp vs H Q fun _ _ _ => False) where
  len := fun vs H Q E h => F.len _ _ _ _ h
  run := fun A outer s H args us vs Q E hr he hb hv h => codeAny_mono (F.run A outer s H args us vs Q _ hr he hb hv h) fun r s' q => by
    cases r with
    | ok fl => cases fl <;> exact q
    | error e =>
      obtain ⟨_, _, _, _, _, _, _, _, _, _, _, _, z⟩ := q
      exact z.elim
theorem walk_mn {l : PySem.W.OpenLaw} {k : Nat} {q : Program} {loose : List Str} {XP : (Str → Option Value) → Heap → Prop} {d : DefRec} {fa : List He.Fa} {fx : List Fx} {fn : List He.DefD} {x : Str} {sp : DSp} (hn : l.most = some 63) (hdf : d.params.defaults = []) (hr : Room k callerA) (hd : d.name = "law")
    (hsp : ∀ ns : List Int, ns.length ≤ 63 → sp [.scr ns] (fun _ => none) (fun v _ => v = .bl true) fun _ _ => False)
    (F : ∀ (w : World) (mg : Str → Option Value) (f : Addr) (h : Heap) (K : PySem.W.Frag), K.In h → h.Ns mainGlobals mg → mg "law" = some (.ref f) → SaysM fa fx fn K →
      ∃ (fd : FuncData) (ga : Str → Addr), (∀ (s : Shared) (u : Value), BindsTo s fd ⟨[u], []⟩ [(x, u)]) ∧ ∀ base : Heap, K.In base → base.Ns mainGlobals mg → FnOk l.prog w K mg base (L2.CX l.prog w) k f fd [x] (lift K ga 1 sp)) :
    PySem.W.WalkO q loose XP (hookM fa fx fn).says l.row.toRowW d [] (fun f vs => PySem.call f vs) := by
  refine L2.walk_ofE (n := 63) (k := k) (x := x) (CX := L2.CX0) hn (by decide) hdf hr (fun w mg f h Y G hmg => ?_) fun _ _ _ _ z => z
  obtain ⟨K, KX, c⟩ := Y
  rw [hd] at hmg
  obtain ⟨fd, ga, hb, hF⟩ := F w mg f h K KX G hmg c
  refine ⟨K, fd, _, KX, hb, fun H a ns hl hO hS => ?_, fun base h1 h2 => fn_shut (hF base h1 h2)⟩
  refine ⟨rfl, [.scr ns], fun _ => none, fun _ => False, RelDs.cons ?_ RelDs.nil, ⟨fun _ _ h => (nomatch h), fun _ h => h.elim⟩, _, _, fun d S' e H' v rp ex r => ?_, fun _ _ z => z.elim, hsp ns hl⟩
  · unfold RelD
    rcases hS with hS | hS
    · exact ⟨a, rfl, .inl ⟨hS, rfl, fun z => z⟩⟩
    · exact ⟨a, rfl, .inr hS⟩
  · subst e
    unfold RelD at r
    exact r
end Mn

namespace Mn
open PySem L2
/-! ### rules for proofs over the small syntax -/
theorem for_rule {G : Gc} {x : XW} {b : List MS} {t : MT} {gd : Sto → Prop} {its : List D} {σ : Env} {S : Sto} {k : KS} (I : Nat → Env → Sto → Prop) (h0 : I 0 σ S)
    (hs : ∀ i d σ S, its[i]? = some d → I i σ S → gd S ∧ ∃ σ', asgT t d σ = some σ' ∧ wSs G x b σ' S { nx := I (i + 1), ct := I (i + 1), rt := k.rt, bk := k.nx })
    (hd : ∀ σ S, I its.length σ S → gd S ∧ k.nx σ S) : forLoop gd (fun d σ2 S2 q => ∃ σ', asgT t d σ2 = some σ' ∧ wSs G x b σ' S2 q) its σ S k := by
  have gen : ∀ (l : List D) (j : Nat) (σ : Env) (S : Sto), its.drop j = l → j ≤ its.length → I j σ S → forLoop gd (fun d σ2 S2 q => ∃ σ', asgT t d σ2 = some σ' ∧ wSs G x b σ' S2 q) l σ S k := by
    intro l
    induction l with
    | nil =>
      intro j σ S hj hl hI
      have e : j = its.length := Nat.le_antisymm hl (List.drop_eq_nil_iff.mp hj)
      rw [e] at hI
      exact hd σ S hI
    | cons d l ih =>
      intro j σ S hj hl hI
      have hjd : its[j]? = some d := by
        have : (its.drop j)[0]? = some d := by rw [hj]; rfl
        rw [List.getElem?_drop] at this
        simpa using this
      have hlt : j < its.length := (List.getElem?_eq_some_iff.mp hjd).1
      have hr : its.drop (j + 1) = l := by rw [← List.drop_drop, hj]; rfl
      obtain ⟨h1, σ', h2, h3⟩ := hs j d σ S hjd hI
      refine ⟨h1, σ', h2, wSs_mono ?_ b σ' S h3⟩
      exact ⟨fun σ2 S2 q => ih (j + 1) σ2 S2 hr hlt q, fun _ _ q => q, fun _ _ q => q, fun σ2 S2 q => ih (j + 1) σ2 S2 hr hlt q⟩
  exact gen its 0 σ S rfl (Nat.zero_le _) h0
/-- the same where the target is one name -/
theorem for_ruleN {G : Gc} {x : XW} {b : List MS} {n : Nat} {gd : Sto → Prop} {its : List D} {σ : Env} {S : Sto} {k : KS} (I : Nat → Env → Sto → Prop) (h0 : I 0 σ S)
    (hs : ∀ i d σ S, its[i]? = some d → I i σ S → gd S ∧ wSs G x b (σ.set n (some d)) S { nx := I (i + 1), ct := I (i + 1), rt := k.rt, bk := k.nx })
    (hd : ∀ σ S, I its.length σ S → gd S ∧ k.nx σ S) : forLoop gd (fun d σ2 S2 q => wSs G x b (σ2.set n (some d)) S2 q) its σ S k := by
  have e : (fun (d : D) (σ2 : Env) (S2 : Sto) (q : KS) => wSs G x b (σ2.set n (some d)) S2 q) = fun d σ2 S2 q => ∃ σ', asgT (.nm n) d σ2 = some σ' ∧ wSs G x b σ' S2 q := by
    funext d σ2 S2 q
    refine propext ⟨fun h => ⟨_, by unfold asgT; rfl, h⟩, ?_⟩
    rintro ⟨σ', h1, h2⟩
    unfold asgT at h1
    cases h1
    exact h2
  rw [e]
  exact for_rule I h0 (fun i d σ S h1 h2 => ⟨(hs i d σ S h1 h2).1, _, by unfold asgT; rfl, (hs i d σ S h1 h2).2⟩) hd
/-- a comprehension whose elements are values of a function, the store as it was -/
theorem lc_rule {G : Gc} {t : MT} {c : List ME} {e : ME} {gd : Sto → Prop} {its : List D} {σ : Env} {S : Sto} {k : List D → Sto → Prop} (F : D → Option D) (hlen : its.length ≤ sizeLine) (hg : gd S)
    (hs : ∀ d ∈ its, ∀ q : Option D → Sto → Prop, q (F d) S → ∃ σ', asgT t d σ = some σ' ∧ wC G c σ' S fun b S3 => if b = true then wE G (fun _ _ _ => False) e σ' S3 fun y S4 => q (some y) S4 else q none S3)
    (hk : k (its.filterMap F) S) : lcLoop gd (fun d S2 q => ∃ σ', asgT t d σ = some σ' ∧ wC G c σ' S2 fun b S3 => if b = true then wE G (fun _ _ _ => False) e σ' S3 fun y S4 => q (some y) S4 else q none S3) its [] S k := by
  have gen : ∀ (l acc : List D), (∀ d ∈ l, d ∈ its) → acc.length + l.length ≤ sizeLine → (acc ++ l.filterMap F = its.filterMap F) →
      lcLoop gd (fun d S2 q => ∃ σ', asgT t d σ = some σ' ∧ wC G c σ' S2 fun b S3 => if b = true then wE G (fun _ _ _ => False) e σ' S3 fun y S4 => q (some y) S4 else q none S3) l acc S k := by
    intro l
    induction l with
    | nil =>
      intro acc _ _ he
      rw [List.filterMap_nil, List.append_nil] at he
      exact ⟨hg, by rw [he]; exact hk⟩
    | cons d l ih =>
      intro acc hm hl he
      rw [List.length_cons] at hl
      refine ⟨hg, hs d (hm d List.mem_cons_self) (fun r S' => match r with
        | some y => acc.length < sizeLine ∧ lcLoop gd (fun d S2 q => ∃ σ', asgT t d σ = some σ' ∧ wC G c σ' S2 fun b S3 => if b = true then wE G (fun _ _ _ => False) e σ' S3 fun y S4 => q (some y) S4 else q none S3) l (acc ++ [y]) S' k
        | none => lcLoop gd (fun d S2 q => ∃ σ', asgT t d σ = some σ' ∧ wC G c σ' S2 fun b S3 => if b = true then wE G (fun _ _ _ => False) e σ' S3 fun y S4 => q (some y) S4 else q none S3) l acc S' k) ?_⟩
      cases hF : F d with
      | none =>
        rw [List.filterMap_cons, hF] at he
        exact ih acc (fun z hz => hm z (List.mem_cons_of_mem _ hz)) (by omega) he
      | some y =>
        rw [List.filterMap_cons, hF] at he
        refine ⟨by omega, ih (acc ++ [y]) (fun z hz => hm z (List.mem_cons_of_mem _ hz)) (by rw [List.length_append]; simp; omega) ?_⟩
        rw [List.append_assoc]
        exact he
  exact gen its [] (fun d h => h) (by simpa using hlen) (by simp)
/-- the same where the target is one name -/
theorem lc_ruleN {G : Gc} {n : Nat} {c : List ME} {e : ME} {gd : Sto → Prop} {its : List D} {σ : Env} {S : Sto} {k : List D → Sto → Prop} (F : D → Option D) (hlen : its.length ≤ sizeLine) (hg : gd S)
    (hs : ∀ d ∈ its, ∀ q : Option D → Sto → Prop, q (F d) S → wC G c (σ.set n (some d)) S fun b S3 => if b = true then wE G (fun _ _ _ => False) e (σ.set n (some d)) S3 fun y S4 => q (some y) S4 else q none S3)
    (hk : k (its.filterMap F) S) : lcLoop gd (fun d S2 q => wC G c (σ.set n (some d)) S2 fun b S3 => if b = true then wE G (fun _ _ _ => False) e (σ.set n (some d)) S3 fun y S4 => q (some y) S4 else q none S3) its [] S k := by
  have h := lc_rule (G := G) (t := .nm n) (c := c) (e := e) (gd := gd) (σ := σ) (k := k) F hlen hg (fun d hd q hq => ⟨_, by unfold asgT; rfl, hs d hd q hq⟩) hk
  refine lcLoop_mono (fun d S q q' hq z => ?_) (fun _ _ z => z) _ _ _ h
  obtain ⟨σ', h1, z⟩ := z
  unfold asgT at h1
  cases h1
  refine wC_mono (fun b S3 z => ?_) c _ S z
  cases b with
  | true => exact wE_mono (fun y S4 z => hq _ _ z) e _ S3 z
  | false => exact hq _ _ z
/-- any comprehension whose elements are values of a function, the store as it was -/
theorem lc_any {gd : Sto → Prop} {f : D → Sto → (Option D → Sto → Prop) → Prop} {its : List D} {S : Sto} {k : List D → Sto → Prop} (F : D → Option D) (hlen : its.length ≤ sizeLine) (hg : gd S) (hs : ∀ d ∈ its, ∀ q : Option D → Sto → Prop, q (F d) S → f d S q)
    (hk : k (its.filterMap F) S) : lcLoop gd f its [] S k := by
  have gen : ∀ (l acc : List D), (∀ d ∈ l, d ∈ its) → acc.length + l.length ≤ sizeLine → (acc ++ l.filterMap F = its.filterMap F) → lcLoop gd f l acc S k := by
    intro l
    induction l with
    | nil =>
      intro acc _ _ he
      rw [List.filterMap_nil, List.append_nil] at he
      exact ⟨hg, by rw [he]; exact hk⟩
    | cons d l ih =>
      intro acc hm hl he
      rw [List.length_cons] at hl
      refine ⟨hg, hs d (hm d List.mem_cons_self) _ ?_⟩
      cases hF : F d with
      | none =>
        rw [List.filterMap_cons, hF] at he
        exact ih acc (fun z hz => hm z (List.mem_cons_of_mem _ hz)) (by omega) he
      | some y =>
        rw [List.filterMap_cons, hF] at he
        refine ⟨by omega, ih (acc ++ [y]) (fun z hz => hm z (List.mem_cons_of_mem _ hz)) (by rw [List.length_append]; simp; omega) ?_⟩
        rw [List.append_assoc]
        exact he
  exact gen its [] (fun d h => h) (by simpa using hlen) (by simp)
theorem callW_of {sp : DSp} {ds : List D} {S : Sto} {k : D → Sto → Prop} {x : Exc → Sto → Prop} (h : sp ds S k x) : callW sp ds S k x := ⟨k, x, fun _ _ q => q, fun _ _ q => q, h⟩
end Mn
namespace Mn
open PySem L2
/-! ### operations at known data -/
section
variable {S : Sto} {i j : Int} {x y : Str} {b c : Bool} {ds es : List D} {d e : D} {a : Addr} {m : Bool} {k : D → Sto → Prop} {G : Gc} {w : XW} {σ : Env}
theorem x_add : binR .Add (.int i) (.int j) S = some (.val (.int (i + j))) := rfl
theorem x_sub : binR .Sub (.int i) (.int j) S = some (.val (.int (i - j))) := rfl
theorem x_addS : binR .Add (.str x) (.str y) S = if x.length + y.length ≤ sizeLine then some (.val (.str (x ++ y))) else none := rfl
theorem x_addT : binR .Add (.tup ds) (.tup es) S = if ds.length + es.length ≤ sizeLine then some (.val (.tup (ds ++ es))) else none := rfl
theorem x_addL : binR .Add (.lst ds) (.lst es) S = if ds.length + es.length ≤ sizeLine then some (.newL (ds ++ es)) else none := rfl
theorem x_mul : binR .Mult (.int i) (.int j) S = if ((-(2 ^ 64) < i ∧ i < 2 ^ 64) ∨ (-(2 ^ 64) < j ∧ j < 2 ^ 64)) then some (.val (.int (i * j))) else none := rfl
theorem x_mulS : binR .Mult (.str x) (.int i) S = if (1 ≤ i ∧ i ≤ 1000 ∧ x.length ≤ 1000) then some (.val (.str (repS x i.toNat))) else none := rfl
theorem x_mulL : binR .Mult (.lst ds) (.int i) S = if (0 ≤ i ∧ i ≤ 1000 ∧ ds.length ≤ 1000) then some (.newL (List.replicate i.toNat ds).flatten) else none := rfl
theorem x_div : binR .FloorDiv (.int i) (.int j) S = if (0 < j ∧ j < 1073741824) then some (.val (.int (i / j))) else none := rfl
theorem x_mod : binR .Mod (.int i) (.int j) S = if 0 < j then some (.val (.int (i % j))) else none := rfl
theorem x_pow : binR .Pow (.int i) (.int j) S = if (0 ≤ j ∧ j ≤ 1000000 ∧ i.natAbs < 2 ^ 64) then some (.val (.int (i ^ j.toNat))) else none := rfl
theorem x_lt : cmpR .Lt (.int i) (.int j) S = some (decide (i < j)) := rfl
theorem x_le : cmpR .LtE (.int i) (.int j) S = some (decide (i ≤ j)) := rfl
theorem x_gt : cmpR .Gt (.int i) (.int j) S = some (decide (j < i)) := rfl
theorem x_ge : cmpR .GtE (.int i) (.int j) S = some (decide (j ≤ i)) := rfl
theorem x_eqD : cmpR .Eq d e S = eqR d e S := by cases d <;> cases e <;> rfl
theorem x_neD : cmpR .NotEq d e S = (eqR d e S).map (!·) := by cases d <;> cases e <;> rfl
theorem x_in : cmpR .In d e S = inR d e S := by cases d <;> cases e <;> rfl
theorem x_notIn : cmpR .NotIn d e S = (inR d e S).map (!·) := by cases d <;> cases e <;> rfl
theorem x_is : cmpR .Is d e S = isR d e := by cases d <;> cases e <;> rfl
theorem x_isNot : cmpR .IsNot d e S = (isR d e).map (!·) := by cases d <;> cases e <;> rfl
theorem g?_pos {α : Type} {c : Prop} [Decidable c] {r : α} (h : c) : g? c r = some r := by unfold g?; rw [if_pos h]
theorem x_eqI : eqR (.int i) (.int j) S = some (decide (i = j)) := by
  unfold eqR
  rw [g?_pos ⟨rfl, rfl, Nat.zero_le _⟩]
  rfl
theorem x_eqS : eqR (.str x) (.str y) S = some (decide (x = y)) := by
  unfold eqR
  rw [g?_pos ⟨rfl, rfl, Nat.zero_le _⟩]
  rfl
theorem x_eqB : eqR (.bl b) (.bl c) S = some (b == c) := by
  unfold eqR
  rw [g?_pos ⟨rfl, rfl, Nat.zero_le _⟩]
  rfl
theorem x_isN : isR d .non = some (match d with | .non => true | _ => false) ∨ isR d .non = none := by cases d <;> first | exact .inl rfl | exact .inr rfl
theorem x_isNN : isR .non .non = some true := rfl
theorem x_isBN : isR (.bl b) .non = some false := rfl
theorem x_isIN : isR (.int i) .non = some false := rfl
theorem x_isSN : isR (.str x) .non = some false := rfl
theorem x_isTN : isR (.tup ds) .non = some false := rfl
theorem x_isLN : isR (.lst ds) .non = some false := rfl
theorem x_isRN : isR (.ref a) .non = some false := rfl
theorem x_isBB : isR (.bl b) (.bl c) = some (decide (b = c)) := rfl
theorem x_lenS : bltR .len [.str x] S = if x.length ≤ sizeLine then some (.val (.int x.length)) else none := rfl
theorem x_lenT : bltR .len [.tup ds] S = some (.val (.int ds.length)) := rfl
theorem x_lenL : bltR .len [.lst ds] S = some (.val (.int ds.length)) := rfl
theorem x_lenR (h : S a = some (.lst ds)) : bltR .len [.ref a] S = some (.val (.int ds.length)) := by
  show (match lstAt S a with | some ds => _ | none => _) = _
  rw [lstAt_of h]
theorem x_abs : bltR .abs [.int i] S = some (.val (.int (if i < 0 then -i else i))) := rfl
theorem x_intI : bltR .int [.int i] S = some (.val (.int i)) := rfl
theorem x_intB : bltR .int [.bl b] S = some (.val (.int (if b = true then 1 else 0))) := rfl
theorem x_max : bltR .max [.int i, .int j] S = some (.val (.int (if j > i then j else i))) := rfl
theorem x_allL : bltR .all [.lst ds] S = (allB S ds).map fun b => .val (.bl b) := rfl
theorem x_sumR (h : S a = some (.lst ds)) : bltR .sum [.ref a] S = (sumI ds).map fun i => .val (.int i) := by
  show (match lstAt S a with | some ds => _ | none => none) = _
  rw [lstAt_of h]
theorem x_sumL : bltR .sum [.lst ds] S = (sumI ds).map fun i => .val (.int i) := rfl
theorem x_listL : bltR .list [.lst ds] S = some (.newL ds) := rfl
theorem x_listT : bltR .list [.tup ds] S = some (.newL ds) := rfl
theorem x_isi : bltR .isinstance [d, e] S = (isiR S d e).map fun b => .val (.bl b) := rfl
theorem x_app (h : S a = some (.lst ds)) : bmR .append (.ref a) [d] S = if ds.length < sizeLine then some (.upd .non (put S a (.lst (ds ++ [d])))) else none := by
  show (match lstAt S a with | some ds => _ | none => none) = _
  rw [lstAt_of h]; rfl
theorem x_appT (h : S a = some (.lst ds)) : bmT .append (.ref a) S = true := by
  show (lstAt S a).isSome = true
  rw [lstAt_of h]; rfl
theorem x_truB : tru S (.bl b) = some b := rfl
theorem x_truI : tru S (.int i) = some (i != 0) := rfl
theorem x_truL : tru S (.lst ds) = some (!ds.isEmpty) := rfl
theorem x_truT : tru S (.tup ds) = some (!ds.isEmpty) := rfl
theorem x_truN : tru S .non = some false := rfl
theorem x_idxS : idxR (.str x) (.int i) S = if x.length ≤ sizeLine then (atI x.cps.toList i).map (fun c => .str ⟨#[c]⟩) else none := rfl
theorem x_idxL : idxR (.lst ds) (.int i) S = atI ds i := rfl
theorem x_idxT : idxR (.tup ds) (.int i) S = atI ds i := rfl
theorem x_idxR (h : S a = some (.lst ds)) : idxR (.ref a) (.int i) S = atI ds i := by
  show (match lstAt S a with | some ds => atI ds i | none => _) = _
  rw [lstAt_of h]
theorem x_slS (lo hi : Option Int) : slcR (.str x) lo hi S = if x.length ≤ sizeLine then some (.val (.str (cutS x lo hi))) else none := rfl
theorem x_slT (lo hi : Option Int) : slcR (.tup ds) lo hi S = some (.val (.tup (cutD ds lo hi))) := rfl
theorem x_slL (lo hi : Option Int) : slcR (.lst ds) lo hi S = some (.newL (cutD ds lo hi)) := rfl
theorem x_it0L : itS 0 [.lst ds] S = some (ds, fun _ => True) := rfl
theorem x_it0T : itS 0 [.tup ds] S = some (ds, fun _ => True) := rfl
theorem x_it0S : itS 0 [.str x] S = some (x.cps.toList.map fun c => .str ⟨#[c]⟩, fun _ => True) := rfl
theorem x_it0C {ns : List Int} : itS 0 [.scr ns] S = some (ns.map .int, fun _ => True) := rfl
theorem x_it1 : itS 1 [.int j] S = if (-(2 ^ 62) ≤ j ∧ j < 2 ^ 62) then some ((List.range j.toNat).map fun (k : Nat) => .int (k : Int), fun _ => True) else none := by
  show (if _ then _ else none : Option _).map _ = _
  split <;> rfl
theorem x_it2L : itS 2 [.lst ds] S = some (enmL 0 ds, fun _ => True) := rfl
theorem x_val : fin m (.val d) S k = k d S := rfl
theorem x_upd {S' : Sto} : fin m (.upd d S') S k = k d S' := rfl
theorem x_newF : fin false (.newL ds) S k = k (.lst ds) S := rfl
theorem x_newT : fin true (.newL ds) S k = ∀ p, S p = none → k (.ref p) (put S p (.lst ds)) := by
  unfold fin
  exact if_pos rfl
theorem x_nm {n : Nat} : asgT (.nm n) d σ = some (σ.set n (some d)) := by unfold asgT; rfl
theorem x_tp {ts : List MT} : asgT (.tp ts) (.tup ds) σ = asgTs ts ds σ := by rw [asgT]
theorem x_tps {t : MT} {ts : List MT} : asgTs (t :: ts) (d :: ds) σ = (asgT t d σ).bind fun σ' => asgTs ts ds σ' := by
  rw [asgTs]
  cases asgT t d σ <;> rfl
theorem x_tp0 : asgTs [] [] σ = some σ := by rw [asgTs]
theorem x_ite {c : Prop} [Decidable c] {r : R} {P : R → Prop} : (∃ r', (if c then some r else none) = some r' ∧ P r') ↔ (c ∧ P r) := by
  constructor
  · rintro ⟨r', h, p⟩
    split at h
    · cases h; exact ⟨‹_›, p⟩
    · cases h
  · rintro ⟨h, p⟩
    exact ⟨r, by rw [if_pos h], p⟩
theorem x_iteD {c : Prop} [Decidable c] {α : Type} {r : Option α} {P : α → Prop} : (∃ r', (if c then r else none) = some r' ∧ P r') ↔ (c ∧ ∃ r', r = some r' ∧ P r') := by
  constructor
  · rintro ⟨r', h, p⟩
    split at h
    · exact ⟨‹_›, r', h, p⟩
    · cases h
  · rintro ⟨h, r', e, p⟩
    exact ⟨r', by rw [if_pos h]; exact e, p⟩
theorem x_some {α : Type} {r : α} {P : α → Prop} : (∃ r', some r = some r' ∧ P r') ↔ P r := ⟨fun ⟨_, h, p⟩ => by cases h; exact p, fun p => ⟨r, rfl, p⟩⟩
theorem x_some2 {α : Type} {r : α} {P : α → Prop} : (∃ r', some (some r) = some (some r') ∧ P r') ↔ P r := ⟨fun ⟨_, h, p⟩ => by cases h; exact p, fun p => ⟨r, rfl, p⟩⟩
theorem x_map {α β : Type} {f : α → β} {o : Option α} {P : β → Prop} : (∃ r', o.map f = some r' ∧ P r') ↔ (∃ a, o = some a ∧ P (f a)) := by
  constructor
  · rintro ⟨r', h, p⟩
    obtain ⟨a, h1, rfl⟩ := Option.map_eq_some_iff.mp h
    exact ⟨a, h1, p⟩
  · rintro ⟨a, h, p⟩
    exact ⟨f a, by rw [h]; rfl, p⟩
theorem x_call {f : Str} {as : List ME} {n : Nat} {sp : DSp} (h : G.fn f = some (n, sp)) (hn : as.length = n) (q : wEs G w as σ S fun ds S1 => sp ds S1 k fun e S2 => w e σ S2) : wE G w (.call f as) σ S k := by
  unfold wE
  exact ⟨sp, by rw [h, hn], wEs_mono (fun ds S1 q => callW_of q) as σ S q⟩
theorem x_nil {K : KS} : wSs G w [] σ S K = K.nx σ S := by rw [wSs]
theorem x_cons {s : MS} {r : List MS} {K : KS} : wSs G w (s :: r) σ S K = wS G w s σ S { nx := fun σ' S' => wSs G w r σ' S' K, rt := K.rt, bk := K.bk, ct := K.ct } := by rw [wSs]
theorem x_asg {t : MT} {e : ME} {K : KS} : wS G w (.asg t e) σ S K = wE G w e σ S fun d S1 => ∃ σ', asgT t d σ = some σ' ∧ K.nx σ' S1 := by rw [wS]
theorem x_exp {e : ME} {K : KS} : wS G w (.exp e) σ S K = wE G w e σ S fun _ S1 => K.nx σ S1 := by rw [wS]
theorem x_ret {e : ME} {K : KS} : wS G w (.ret e) σ S K = wE G w e σ S K.rt := by rw [wS]
theorem x_eqInt {P : Int → Prop} : (∃ r, D.int i = D.int r ∧ P r) ↔ P i := ⟨fun ⟨_, h, p⟩ => by cases h; exact p, fun p => ⟨i, rfl, p⟩⟩
end
end Mn
namespace Mn
open PySem L2
/-! ### defs that change nothing -/
def spPure (f : List D → Option D) : DSp := fun ds S Q _ => ∃ d, f ds = some d ∧ Q d S
theorem x_pure {f : List D → Option D} {ds : List D} {S : Sto} {k : D → Sto → Prop} {x : Exc → Sto → Prop} : callW (spPure f) ds S k x ↔ ∃ d, f ds = some d ∧ k d S := by
  constructor
  · rintro ⟨Q, X, h1, h2, d, h3, h4⟩
    exact ⟨d, h3, h1 _ _ h4⟩
  · rintro ⟨d, h3, h4⟩
    exact ⟨k, x, fun _ _ q => q, fun _ _ q => q, d, h3, h4⟩
/-- a new list comes back, to be changed -/
def spNew (f : List D → Option (List D)) : DSp := fun ds S Q _ => ∃ l, f ds = some l ∧ ∀ p, S p = none → Q (.ref p) (put S p (.lst l))
theorem x_new {f : List D → Option (List D)} {ds : List D} {S : Sto} {k : D → Sto → Prop} {x : Exc → Sto → Prop} : callW (spNew f) ds S k x ↔ ∃ l, f ds = some l ∧ ∀ p, S p = none → k (.ref p) (put S p (.lst l)) := by
  constructor
  · rintro ⟨Q, X, h1, h2, d, h3, h4⟩
    exact ⟨d, h3, fun p hp => h1 _ _ (h4 p hp)⟩
  · rintro ⟨d, h3, h4⟩
    exact ⟨k, x, fun _ _ q => q, fun _ _ q => q, d, h3, h4⟩
theorem x_fn {n m : Nat} {sp0 : DSp} {P : DSp → Prop} : (∃ sp, some (n, sp0) = some (m, sp) ∧ P sp) ↔ (n = m ∧ P sp0) := by
  constructor
  · rintro ⟨sp, h, p⟩; cases h; exact ⟨rfl, p⟩
  · rintro ⟨rfl, p⟩; exact ⟨sp0, rfl, p⟩
theorem x_ifD {c : Prop} [Decidable c] {P : D → Prop} {d : D} : (∃ r', (if c then some d else none) = some r' ∧ P r') ↔ (c ∧ P d) := by
  constructor
  · rintro ⟨r', h, p⟩
    split at h
    · cases h; exact ⟨‹_›, p⟩
    · cases h
  · rintro ⟨h, p⟩
    exact ⟨d, by rw [if_pos h], p⟩
/-- the feed of a law: at least 270 numbers below 55440 -/
structure Feed (fs : List Int) : Prop where
  lo : 270 ≤ fs.length
  hi : fs.length ≤ 400
  nn : ∀ v ∈ fs, 0 ≤ v ∧ v < 55440
def fdD (fs : List Int) : D := .lst (fs.map .int)
def spFeed : DSp := fun ds S Q _ => ∃ ns, ds = [.scr ns] ∧ ∀ fs, Feed fs → Q (fdD fs) S
end Mn
namespace Mn
open PySem L2
section
variable {S : Sto} {i : Int} {ds es : List D} {d e : D} {a : Addr} {o : MO}
theorem x_lenP : bltR .len [.ref a] (put S a (.lst ds)) = some (.val (.int ds.length)) := x_lenR put_same
theorem x_sumP : bltR .sum [.ref a] (put S a (.lst ds)) = (sumI ds).map fun i => .val (.int i) := x_sumR put_same
theorem x_appP : bmR .append (.ref a) [d] (put S a (.lst ds)) = if ds.length < sizeLine then some (.upd .non (put S a (.lst (ds ++ [d])))) else none := by
  rw [x_app put_same, put_put]
theorem x_appTP : bmT .append (.ref a) (put S a (.lst ds)) = true := x_appT put_same
theorem x_idxP : idxR (.ref a) (.int i) (put S a (.lst ds)) = atI ds i := x_idxR put_same
theorem x_frzP {P : Addr → List D → Prop} : (∃ p l, D.ref a = .ref p ∧ put S a (.lst ds) p = some (.lst l) ∧ P p l) ↔ P a ds := by
  constructor
  · rintro ⟨p, l, h1, h2, h3⟩
    cases h1
    rw [put_same] at h2
    cases h2
    exact h3
  · intro h
    exact ⟨a, ds, rfl, put_same, h⟩
end
/-! ### sums, items of lists of ints -/
theorem sumI_map : ∀ fs : List Int, sumI (fs.map .int) = some fs.sum
  | [] => rfl
  | f :: fs => by
    show (sumI (fs.map .int)).map (f + ·) = _
    rw [sumI_map fs, List.sum_cons]
    rfl
theorem atI_map {α β : Type} {f : α → β} {l : List α} {i : Int} : atI (l.map f) i = (atI l i).map f := by
  unfold atI
  rw [List.length_map]
  cases ixN l.length i with
  | none => rfl
  | some j => simp
theorem atI_nn {α : Type} {l : List α} {i : Int} (h0 : 0 ≤ i) (h1 : i < l.length) : atI l i = l[i.toNat]? := by
  unfold atI ixN
  rw [if_pos h0, if_pos h1]
  rfl
end Mn
namespace Mn
open PySem L2
/-! ### isinstance at known data -/
section
variable {S : Sto} {i : Int} {x : Str} {b : Bool} {ds : List D}
theorem i_N_tuple : isiR S .non (.ty "tuple") = some false := by simp [isiR, tyN, g?, isT]
theorem i_N_list : isiR S .non (.ty "list") = some false := by simp [isiR, tyN, g?, isT]
theorem i_N_bool : isiR S .non (.ty "bool") = some false := by simp [isiR, tyN, g?, isT]
theorem i_N_int : isiR S .non (.ty "int") = some false := by simp [isiR, tyN, g?, isT]
theorem i_N_str : isiR S .non (.ty "str") = some false := by simp [isiR, tyN, g?, isT]
theorem i_N_tl : isiR S .non (.tup [.ty "tuple", .ty "list"]) = some false := by simp [isiR, tyN, g?, isT]
theorem i_B_tuple : isiR S (.bl b) (.ty "tuple") = some false := by simp [isiR, tyN, g?, isT]
theorem i_B_list : isiR S (.bl b) (.ty "list") = some false := by simp [isiR, tyN, g?, isT]
theorem i_B_bool : isiR S (.bl b) (.ty "bool") = some true := by simp [isiR, tyN, g?, isT]
theorem i_B_int : isiR S (.bl b) (.ty "int") = some true := by simp [isiR, tyN, g?, isT]
theorem i_B_str : isiR S (.bl b) (.ty "str") = some false := by simp [isiR, tyN, g?, isT]
theorem i_B_tl : isiR S (.bl b) (.tup [.ty "tuple", .ty "list"]) = some false := by simp [isiR, tyN, g?, isT]
theorem i_I_tuple : isiR S (.int i) (.ty "tuple") = some false := by simp [isiR, tyN, g?, isT]
theorem i_I_list : isiR S (.int i) (.ty "list") = some false := by simp [isiR, tyN, g?, isT]
theorem i_I_bool : isiR S (.int i) (.ty "bool") = some false := by simp [isiR, tyN, g?, isT]
theorem i_I_int : isiR S (.int i) (.ty "int") = some true := by simp [isiR, tyN, g?, isT]
theorem i_I_str : isiR S (.int i) (.ty "str") = some false := by simp [isiR, tyN, g?, isT]
theorem i_I_tl : isiR S (.int i) (.tup [.ty "tuple", .ty "list"]) = some false := by simp [isiR, tyN, g?, isT]
theorem i_S_tuple : isiR S (.str x) (.ty "tuple") = some false := by simp [isiR, tyN, g?, isT]
theorem i_S_list : isiR S (.str x) (.ty "list") = some false := by simp [isiR, tyN, g?, isT]
theorem i_S_bool : isiR S (.str x) (.ty "bool") = some false := by simp [isiR, tyN, g?, isT]
theorem i_S_int : isiR S (.str x) (.ty "int") = some false := by simp [isiR, tyN, g?, isT]
theorem i_S_str : isiR S (.str x) (.ty "str") = some true := by simp [isiR, tyN, g?, isT]
theorem i_S_tl : isiR S (.str x) (.tup [.ty "tuple", .ty "list"]) = some false := by simp [isiR, tyN, g?, isT]
theorem i_T_tuple : isiR S (.tup ds) (.ty "tuple") = some true := by simp [isiR, tyN, g?, isT]
theorem i_T_list : isiR S (.tup ds) (.ty "list") = some false := by simp [isiR, tyN, g?, isT]
theorem i_T_bool : isiR S (.tup ds) (.ty "bool") = some false := by simp [isiR, tyN, g?, isT]
theorem i_T_int : isiR S (.tup ds) (.ty "int") = some false := by simp [isiR, tyN, g?, isT]
theorem i_T_str : isiR S (.tup ds) (.ty "str") = some false := by simp [isiR, tyN, g?, isT]
theorem i_T_tl : isiR S (.tup ds) (.tup [.ty "tuple", .ty "list"]) = some true := by simp [isiR, tyN, g?, isT]
theorem i_L_tuple : isiR S (.lst ds) (.ty "tuple") = some false := by simp [isiR, tyN, g?, isT]
theorem i_L_list : isiR S (.lst ds) (.ty "list") = some true := by simp [isiR, tyN, g?, isT]
theorem i_L_bool : isiR S (.lst ds) (.ty "bool") = some false := by simp [isiR, tyN, g?, isT]
theorem i_L_int : isiR S (.lst ds) (.ty "int") = some false := by simp [isiR, tyN, g?, isT]
theorem i_L_str : isiR S (.lst ds) (.ty "str") = some false := by simp [isiR, tyN, g?, isT]
theorem i_L_tl : isiR S (.lst ds) (.tup [.ty "tuple", .ty "list"]) = some true := by simp [isiR, tyN, g?, isT]
end
end Mn
namespace Mn
open PySem L2
/-! ### operations at references: by what stands there -/
section
variable {S : Sto} {i : Int} {ds es : List D} {d e j v : D} {a : Addr} {o : MO} {k : D → Sto → Prop}
theorem r_len : bltR .len [.ref a] S = match S a with
    | some (.lst ds) => some (.val (.int ds.length))
    | some (.dct kvs) => some (.val (.int kvs.length))
    | _ => none := by
  show (match lstAt S a with | some ds => _ | none => _) = _
  unfold lstAt dctAt
  cases hS : S a with
  | none => simp [hS]
  | some m => cases m <;> simp [hS, g?]
theorem r_idx : idxR (.ref a) j S = match S a with
    | some (.lst ds) => (match j with
      | .int i => atI ds i
      | _ => none)
    | some (.dct kvs) => (keyOf j).bind (gv kvs)
    | _ => none := by
  have e : idxR (.ref a) j S = (match seqOf S (.ref a) with
    | some ds => (match j with
      | .int i => atI ds i
      | _ => none)
    | none => (dGet S (.ref a) j).bind id) := by cases j <;> rfl
  rw [e]
  show (match lstAt S a with | some ds => _ | none => _) = _
  unfold lstAt dGet
  cases hS : S a with
  | none => simp [hS]
  | some m =>
    cases m with
    | dct kvs =>
      simp only [hS]
      cases keyOf j <;> rfl
    | _ => simp [hS]
theorem r_in : inR d (.ref a) S = match S a with
    | some (.lst ds) => g? (flat d = true ∧ ds.all flat = true) (ds.any fun z => deq z d)
    | some (.dct kvs) => (keyOf d).map fun k => (gv kvs k).isSome
    | _ => none := by
  have e : inR d (.ref a) S = (match seqOf S (.ref a) with
    | some ds => g? (flat d = true ∧ ds.all flat = true) (ds.any fun z => deq z d)
    | none => (dGet S (.ref a) d).map Option.isSome) := by cases d <;> rfl
  rw [e]
  show (match lstAt S a with | some ds => _ | none => _) = _
  unfold lstAt dGet
  cases hS : S a with
  | none => simp [hS]
  | some m =>
    cases m with
    | dct kvs =>
      simp only [hS]
      cases keyOf d <;> rfl
    | _ => simp [hS]
theorem r_get : bmR .get (.ref a) [j, d] S = match S a with
    | some (.dct kvs) => (keyOf j).map fun k => .val ((gv kvs k).getD d)
    | _ => none := by
  show (dGet S (.ref a) j).map _ = _
  unfold dGet
  cases hS : S a with
  | none => simp [hS]
  | some m =>
    cases m with
    | dct kvs =>
      simp only [hS]
      cases keyOf j <;> rfl
    | _ => simp [hS]
theorem r_getT : bmT .get (.ref a) S = match S a with
    | some (.dct _) => true
    | _ => false := rfl
theorem r_setd : bmR .setdefault (.ref a) [j, d] S = match S a with
    | some (.dct kvs) => (match keyOf j with
      | some k => if kvs.length < sizeLine then some (match gv kvs k with
        | some v => .val v
        | none => .upd d (put S a (.dct (gp kvs k d)))) else none
      | none => none)
    | _ => none := by
  show (match dctAt S a, keyOf j with
    | some kvs, some k => _
    | _, _ => none) = _
  unfold dctAt
  cases hS : S a with
  | none => simp
  | some m =>
    cases m with
    | dct kvs =>
      dsimp only
      cases keyOf j <;> rfl
    | _ => simp
theorem r_setdT : bmT .setdefault (.ref a) S = match S a with
    | some (.dct _) => true
    | _ => false := by
  show (dctAt S a).isSome = _
  unfold dctAt
  cases S a with
  | none => rfl
  | some m => cases m <;> rfl
theorem r_app : bmR .append (.ref a) [d] S = match S a with
    | some (.lst ds) => if ds.length < sizeLine then some (.upd .non (put S a (.lst (ds ++ [d])))) else none
    | _ => none := by
  show (match lstAt S a with | some ds => _ | none => none) = _
  unfold lstAt
  cases S a with
  | none => rfl
  | some m => cases m <;> rfl
theorem r_appT : bmT .append (.ref a) S = match S a with
    | some (.lst _) => true
    | _ => false := by
  show (lstAt S a).isSome = _
  unfold lstAt
  cases S a with
  | none => rfl
  | some m => cases m <;> rfl
theorem r_six : sixR (.ref a) j v S = match S a with
    | some (.lst ds) => (match j with
      | .int i => (match ixN ds.length i with
        | some j => some (put S a (.lst (ds.set j v)))
        | none => none)
      | _ => none)
    | some (.dct kvs) => (match keyOf j with
      | some k => if kvs.length < sizeLine then some (put S a (.dct (gp kvs k v))) else none
      | none => none)
    | _ => none := rfl
theorem r_it : itS 0 [.ref a] S = match S a with
    | some (.lst ds) => some (ds, fun S' => S' a = some (.lst ds))
    | _ => none := by
  show (lstAt S a).map _ = _
  unfold lstAt
  cases S a with
  | none => rfl
  | some m => cases m <;> rfl
theorem r_it2 : itS 2 [.ref a] S = match S a with
    | some (.lst ds) => some (enmL 0 ds, fun S' => S' a = some (.lst ds))
    | _ => none := by
  have e : itS 2 [.ref a] S = (match lstAt S a, (lstAt S a).map (fun ds => ((ds, fun S' => S' a = some (.lst ds)) : List D × (Sto → Prop))) with
    | some _, some its => some (enmL 0 its.1, its.2)
    | _, _ => none) := rfl
  rw [e]
  unfold lstAt
  cases S a with
  | none => rfl
  | some m => cases m <;> rfl
theorem r_sorted : bltR .sorted [.ref a] S = match S a with
    | some (.lst ds) => (match strsOf ds with
      | some l => if l.length < 64 then some (.newL ((srtS l).map .str)) else none
      | none => none)
    | some (.dct kvs) => (match ksOf kvs with
      | some l => if l.length < 64 ∧ l.all PySem.PyData.strOk = true then some (.newL ((srtS l).map .str)) else none
      | none => none)
    | _ => none := by
  show (match lstAt S a with | some ds => _ | none => _) = _
  unfold lstAt dctAt
  cases hS : S a with
  | none => simp [hS]
  | some m => cases m <;> first | (simp only [hS]; done) | (simp only [hS]; rfl) | (simp only [hS]; split <;> simp_all [g?])
theorem r_list : bltR .list [.ref a] S = match S a with
    | some (.lst ds) => some (.newL ds)
    | _ => none := by
  show (lstAt S a).map _ = _
  unfold lstAt
  cases S a with
  | none => rfl
  | some m => cases m <;> rfl
theorem r_dict : bltR .dict [.ref a] S = match S a with
    | some (.dct kvs) => some (.newD kvs)
    | _ => none := by
  show (dctAt S a).map _ = _
  unfold dctAt
  cases S a with
  | none => rfl
  | some m => cases m <;> rfl
theorem r_sl (lo hi : Option Int) : slcR (.ref a) lo hi S = match S a with
    | some (.lst ds) => some (.newL (cutD ds lo hi))
    | _ => none := by
  show (match lstAt S a with | some ds => _ | none => none) = _
  unfold lstAt
  cases S a with
  | none => rfl
  | some m => cases m <;> rfl
theorem r_top : top S (.ref a) = match S a with
    | some (.lst ds) => .lst ds
    | _ => .ref a := by
  show (match lstAt S a with | some ds => _ | none => _) = _
  unfold lstAt
  cases S a with
  | none => rfl
  | some m => cases m <;> rfl
theorem r_tru : tru S (.ref a) = match S a with
    | some (.lst ds) => some (!ds.isEmpty)
    | _ => none := by
  show (lstAt S a).map _ = _
  unfold lstAt
  cases S a with
  | none => rfl
  | some m => cases m <;> rfl
theorem r_newD {m : Bool} {kvs : List (Key × D)} : fin m (.newD kvs) S k = ∀ p, S p = none → k (.ref p) (put S p (.dct kvs)) := rfl
theorem r_att {fl : Str → Str → Bool} {f : Str} {P : D → Prop} : (∃ b c fs d, D.ref a = .ref b ∧ S b = some (.ins c fs) ∧ fl c f = true ∧ fs.lookup f = some d ∧ P d) ↔ (match S a with
    | some (.ins c fs) => fl c f = true ∧ ∃ d, fs.lookup f = some d ∧ P d
    | _ => False) := by
  constructor
  · rintro ⟨b, c, fs, d, e, h1, h2, h3, h4⟩
    cases e
    rw [h1]
    exact ⟨h2, d, h3, h4⟩
  · intro h
    split at h
    · rename_i c fs e
      obtain ⟨h1, d, h2, h3⟩ := h
      exact ⟨a, c, fs, d, rfl, e, h1, h2, h3⟩
    · exact h.elim
theorem r_self {P : Addr → List (Str × D) → Prop} {c : Str} : (∃ b fs, D.ref a = .ref b ∧ S b = some (.ins c fs) ∧ P b fs) ↔ (∃ fs, S a = some (.ins c fs) ∧ P a fs) := by
  constructor
  · rintro ⟨b, fs, e, h⟩
    cases e
    exact ⟨fs, h⟩
  · rintro ⟨fs, h⟩
    exact ⟨a, fs, rfl, h⟩
theorem r_sat {fl : Str → Str → Bool} {f : Str} {P : Str → List (Str × D) → Addr → Prop} : (∃ b c fs, D.ref a = .ref b ∧ S b = some (.ins c fs) ∧ fl c f = true ∧ fs.length < 1000 ∧ P c fs b) ↔ (∃ c fs, S a = some (.ins c fs) ∧ fl c f = true ∧ fs.length < 1000 ∧ P c fs a) := by
  constructor
  · rintro ⟨b, c, fs, e, h⟩
    cases e
    exact ⟨c, fs, h⟩
  · rintro ⟨c, fs, h⟩
    exact ⟨a, c, fs, rfl, h⟩
theorem r_ins {c : Str} {fs : List (Str × D)} {P : List (Str × D) → Prop} : (∃ l, some (MO.ins c fs) = some (.ins c l) ∧ P l) ↔ P fs := by
  constructor
  · rintro ⟨l, e, h⟩; cases e; exact h
  · intro h; exact ⟨fs, rfl, h⟩
theorem r_ins2 {c : Str} {fs : List (Str × D)} {P : Str → List (Str × D) → Prop} : (∃ c' l, some (MO.ins c fs) = some (.ins c' l) ∧ P c' l) ↔ P c fs := by
  constructor
  · rintro ⟨c', l, e, h⟩; cases e; exact h
  · intro h; exact ⟨c, fs, rfl, h⟩
theorem r_some2 {α : Type} {n m : Nat} {F0 : α} {P : α → Prop} : (∃ F, some (n, F0) = some (m, F) ∧ P F) ↔ (n = m ∧ P F0) := by
  constructor
  · rintro ⟨F, e, h⟩; cases e; exact ⟨rfl, h⟩
  · rintro ⟨rfl, h⟩; exact ⟨F0, rfl, h⟩
theorem r_aga {fl : Str → Str → Bool} {f : Str} {P : Str → Int → Addr → Prop} : (∃ b c fs i, D.ref a = .ref b ∧ S b = some (.ins c fs) ∧ fl c f = true ∧ fs.lookup f = some (.int i) ∧ P c i b) ↔ (∃ c fs, S a = some (.ins c fs) ∧ fl c f = true ∧ ∃ i, fs.lookup f = some (.int i) ∧ P c i a) := by
  constructor
  · rintro ⟨b, c, fs, i, e, h1, h2, h3, h4⟩; cases e; exact ⟨c, fs, h1, h2, i, h3, h4⟩
  · rintro ⟨c, fs, h1, h2, i, h3, h4⟩; exact ⟨a, c, fs, i, rfl, h1, h2, h3, h4⟩
theorem r_int {P : Int → Prop} : (∃ j, some (D.int i) = some (.int j) ∧ P j) ↔ P i := by
  constructor
  · rintro ⟨j, e, h⟩; cases e; exact h
  · intro h; exact ⟨i, rfl, h⟩
theorem r_ags {P : Addr → List (Key × D) → Key → D → Prop} : (∃ b kvs key v, D.ref a = .ref b ∧ S b = some (.dct kvs) ∧ keyOf j = some key ∧ gv kvs key = some v ∧ P b kvs key v) ↔ (∃ kvs, S a = some (.dct kvs) ∧ ∃ key, keyOf j = some key ∧ ∃ v, gv kvs key = some v ∧ P a kvs key v) := by
  constructor
  · rintro ⟨b, kvs, key, v, e, h1, h2, h3, h4⟩; cases e; exact ⟨kvs, h1, key, h2, v, h3, h4⟩
  · rintro ⟨kvs, h1, key, h2, v, h3, h4⟩; exact ⟨a, kvs, key, v, rfl, h1, h2, h3, h4⟩
theorem r_dct {kvs : List (Key × D)} {P : List (Key × D) → Prop} : (∃ l, some (MO.dct kvs) = some (.dct l) ∧ P l) ↔ P kvs := by
  constructor
  · rintro ⟨l, e, h⟩; cases e; exact h
  · intro h; exact ⟨kvs, rfl, h⟩
theorem r_new {S : Sto} {p b : Addr} {o : MO} (h : S p = none) (q : S b = some o) : b ≠ p := fun e => by rw [e, h] at q; cases q
end
end Mn

namespace Mn
open PySem L2
local macro_rules | `(tactic| walk_at "x") => `(tactic| try simp only [wSs, wS, wE, wEs, wC, x_add, x_sub, x_addS, x_addT, x_addL, x_mul, x_mulS, x_mulL, x_div, x_mod, x_pow, x_lt, x_le, x_gt, x_ge, x_eqD, x_neD, x_in, x_notIn, x_is, x_isNot, x_eqI, x_eqS, x_eqB, x_isNN, x_isBN, x_isIN, x_isSN, x_isTN, x_isLN, x_isRN, x_isBB, x_lenS, x_lenT, x_lenL, x_lenP, x_sumP, x_appP, x_appTP, x_idxP, x_frzP, x_abs, x_intI, x_intB, x_max, x_allL, x_sumL, x_listL, x_listT, x_isi, x_truB, x_truI, x_truL, x_truT, x_truN, x_idxS, x_idxL, x_idxT, x_slS, x_slT, x_slL, x_it0L, x_it0T, x_it0S, x_it0C, x_it1, x_it2L, x_val, x_upd, x_newF, x_newT, x_nm, x_tp, x_tps, x_tp0, x_ite, x_iteD, x_ifD, x_some, x_some2, x_map, x_eqInt, x_pure, x_new, x_fn, List.getElem?_cons_zero, List.getElem?_cons_succ, List.set_cons_zero, List.set_cons_succ, Option.bind_some, List.length_cons, List.length_nil, Nat.reduceAdd, true_and, and_true, decide_eq_true_eq, Bool.not_eq_true', decide_eq_false_iff_not, Bool.not_false, Bool.not_true, Bool.false_eq_true, Bool.true_eq_false, if_true, if_false, ite_true, ite_false])
def n__law_feed : List Str := ["_law_script", "_law_feed_here", "_law_cell", "_law_left", "_law_turn", "_law_seed"]
def b__law_feed_1 : List MS := [(.ite (.cmp .Gt (.var 3) (.cst (.int 0))) [(.exp (.bm .append false (.var 1) [(.bin .Mod false (.var 3) (.cst (.int 55440)))])), (.asg (.nm 3) (.bin .FloorDiv false (.var 3) (.cst (.int 55440))))] [])]
def b__law_feed_2 : List MS := [(.asg (.nm 5) (.bin .Mod false (.bin .Add false (.bin .Mult false (.var 5) (.cst (.int 48271))) (.cst (.int 7919))) (.cst (.int 2147483647)))), (.exp (.bm .append false (.var 1) [(.bin .Mod false (.bin .FloorDiv false (.var 5) (.cst (.int 13))) (.cst (.int 55440)))]))]
def b__law_feed_3 : List MS := [(.ite (.cmp .Lt (.blt .len false [(.var 1)]) (.cst (.int 270))) [(.asg (.nm 3) (.blt .abs false [(.var 2)])), (.ite (.cmp .GtE (.var 3) (.bin .Pow false (.cst (.int 10)) (.cst (.int 18)))) [(.for_ 1 (.nm 4) [(.cst (.int 60))] b__law_feed_1)] [(.asg (.nm 5) (.bin .Mod false (.bin .Add false (.bin .Mult false (.bin .Add false (.bin .Mult false (.cst (.int 2)) (.var 3)) (.blt .int false [(.cmp .Lt (.var 2) (.cst (.int 0)))])) (.cst (.int 69621))) (.cst (.int 11))) (.cst (.int 2147483629)))), (.for_ 1 (.nm 4) [(.cst (.int 6))] b__law_feed_2)])] [])]
def b__law_feed_4 : List MS := [(.ite (.cmp .Lt (.blt .len false [(.var 1)]) (.cst (.int 270))) [(.asg (.nm 5) (.bin .Mod false (.bin .Add false (.bin .Mult false (.var 5) (.cst (.int 48271))) (.cst (.int 12345))) (.cst (.int 2147483629)))), (.exp (.bm .append false (.var 1) [(.bin .Mod false (.bin .FloorDiv false (.var 5) (.cst (.int 13))) (.cst (.int 55440)))]))] [])]
def m__law_feed : List MS := [(.asg (.nm 1) (.lst true [])), (.for_ 0 (.nm 2) [(.var 0)] b__law_feed_3), (.asg (.nm 5) (.bin .Add false (.bin .Add false (.cst (.int 271)) (.blt .len false [(.var 1)])) (.blt .sum false [(.var 1)]))), (.for_ 1 (.nm 4) [(.cst (.int 270))] b__law_feed_4), (.ret (.frz (.var 1)))]
def n_is_name : List Str := ["word", "sign"]
def b_is_name_1 : List MS := [(.ite (.cmp .NotIn (.var 1) (.glo "LETTERS")) [(.ret (.cst (.bl false)))] [])]
def m_is_name : List MS := [(.ite (.not (.cmp2 .LtE .LtE (.cst (.int 1)) (.blt .len false [(.var 0)]) (.cst (.int 8)))) [(.ret (.cst (.bl false)))] []), (.for_ 0 (.nm 1) [(.var 0)] b_is_name_1), (.ret (.cst (.bl true)))]
def lettersS : Str := "abcdefghijklmnopqrstuvwxyz"
def isNm (x : Str) : Bool := decide (1 ≤ x.length) && (decide (x.length ≤ 8) && x.cps.toList.all fun c => decide (c ∈ lettersS.cps.toList))
def fIsName : List D → Option D
  | [.str x] => if x.length ≤ sizeLine then some (.bl (isNm x)) else none
  | _ => none
theorem inR_sign {c : Nat} {y : Str} {S : Sto} : inR (.str ⟨#[c]⟩) (.str y) S = some (decide (c ∈ y.cps.toList)) := rfl
theorem ok_is_name {G : Gc} (hL : G.con "LETTERS" = some (.str lettersS)) : BodyOk G n_is_name 1 m_is_name (spPure fIsName) := by
  rintro ds S Q X - ⟨d, hf, q⟩
  unfold fIsName at hf
  split at hf
  · rename_i x
    split at hf
    · rename_i hx
      cases hf
      show wSs G _ m_is_name [some (.str x), none] S _
      unfold m_is_name
      walk_at "x"
      refine ⟨hx, ?_⟩
      by_cases h1 : 1 ≤ x.length
      · by_cases h2 : x.length ≤ 8
        · rw [if_pos (by omega), if_neg (by omega)]
          refine for_ruleN (fun i σ S' => S' = S ∧ (∃ o, σ = [some (.str x), o]) ∧ ∀ j, j < i → ∀ c, x.cps.toList[j]? = some c → c ∈ lettersS.cps.toList) ⟨rfl, ⟨_, rfl⟩, fun j hj => absurd hj (Nat.not_lt_zero _)⟩ ?_ ?_
          · rintro i d σ S' hd ⟨rfl, ⟨o, rfl⟩, hall⟩
            rw [List.getElem?_map] at hd
            obtain ⟨c, hc, rfl⟩ := Option.map_eq_some_iff.mp hd
            refine ⟨trivial, ?_⟩
            unfold b_is_name_1
            walk_at "x"
            simp only [hL, x_some, inR_sign, x_map, Bool.not_eq_true', decide_eq_false_iff_not]
            split
            · rename_i hn
              have e : isNm x = false := by
                unfold isNm
                have : x.cps.toList.all (fun c => decide (c ∈ lettersS.cps.toList)) = false := by
                  rw [List.all_eq_false]
                  exact ⟨c, List.mem_of_getElem? hc, by rw [decide_eq_false hn]; exact Bool.false_ne_true⟩
                rw [this]; simp
              rw [e] at q
              exact q
            · rename_i hn
              refine ⟨⟨_, rfl⟩, fun j hj c' hc' => ?_⟩
              rcases Nat.lt_succ_iff_lt_or_eq.mp hj with h | rfl
              · exact hall j h c' hc'
              · rw [hc] at hc'; cases hc'; exact Decidable.of_not_not hn
          · rintro σ S' ⟨rfl, ⟨o, rfl⟩, hall⟩
            have e : isNm x = true := by
              unfold isNm
              rw [decide_eq_true h1, decide_eq_true h2]
              simp only [Bool.true_and, List.all_eq_true]
              intro c hc
              obtain ⟨j, hj⟩ := List.mem_iff_getElem?.mp hc
              have hl : j < x.cps.toList.length := (List.getElem?_eq_some_iff.mp hj).1
              exact decide_eq_true (hall j (by simpa using hl) c hj)
            rw [e] at q
            exact ⟨trivial, q⟩
        · have e : isNm x = false := by unfold isNm; rw [decide_eq_false h2]; simp
          rw [e] at q
          rw [if_pos (by omega), if_pos (by omega)]
          exact q
      · have e : isNm x = false := by unfold isNm; rw [decide_eq_false h1]; simp
        rw [e] at q
        rw [if_neg (by omega)]
        exact q
    · cases hf
  · cases hf
/-- what the feed is between two turns -/
structure FdI (fs : List Int) (n : Nat) : Prop where
  hi : fs.length ≤ n
  nn : ∀ v ∈ fs, 0 ≤ v ∧ v < 55440
theorem FdI.app {fs : List Int} {n : Nat} (h : FdI fs n) {v : Int} (h1 : 0 ≤ v) (h2 : v < 55440) : FdI (fs ++ [v]) (n + 1) := ⟨by rw [List.length_append]; exact Nat.add_le_add_right h.hi 1, fun w hw => by
  rcases List.mem_append.mp hw with q | q
  · exact h.nn w q
  · obtain rfl := List.mem_singleton.mp q; exact ⟨h1, h2⟩⟩
theorem FdI.mono {fs : List Int} {n m : Nat} (h : FdI fs n) (hm : n ≤ m) : FdI fs m := ⟨Nat.le_trans h.hi hm, h.nn⟩
theorem ok_feed {G : Gc} : BodyOk G n__law_feed 1 m__law_feed spFeed := by
  rintro ds S Q X - ⟨ns, rfl, q⟩
  show wSs G _ m__law_feed [some (.scr ns), none, none, none, none, none] S _
  unfold m__law_feed
  walk_at "x"
  refine ⟨Nat.zero_le _, fun p hp => ?_⟩
  refine for_ruleN (fun i σ S' => ∃ fs a b c d, S' = put S p (.lst (fs.map .int)) ∧ σ = [some (.scr ns), some (.ref p), a, b, c, d] ∧ FdI fs 330) ⟨[], _, _, _, _, rfl, rfl, Nat.zero_le _, fun v h => by simp at h⟩ ?_ ?_
  · rintro i d0 σ S' hd ⟨fs, a, b, c, d, rfl, rfl, hfs⟩
    refine ⟨trivial, ?_⟩
    rw [List.getElem?_map] at hd
    obtain ⟨z, -, rfl⟩ := Option.map_eq_some_iff.mp hd
    unfold b__law_feed_3
    walk_at "x"
    rw [List.length_map]
    split
    · rename_i hlt
      have hlt : fs.length < 270 := by omega
      obtain ⟨l0, hl0⟩ : ∃ l0 : Int, (if z < 0 then -z else z) = l0 := ⟨_, rfl⟩
      rw [hl0]
      obtain ⟨sg, hsg⟩ : ∃ sg : Int, (if z < 0 then (1 : Int) else 0) = sg := ⟨_, rfl⟩
      rw [hsg]
      refine ⟨by decide, ?_⟩
      split
      · refine ⟨by decide, ?_⟩
        refine for_ruleN (fun j σ S' => ∃ fs l t d, S' = put S p (.lst (fs.map .int)) ∧ σ = [some (.scr ns), some (.ref p), some (.int z), some (.int l), t, d] ∧ FdI fs (270 + j)) ⟨fs, _, _, _, rfl, rfl, by omega, hfs.nn⟩ ?_ ?_
        · rintro j d1 σ S' hd ⟨fs, l, t, d, rfl, rfl, hfs⟩
          have hj : j < 60 := by simpa using (List.getElem?_eq_some_iff.mp hd).1
          refine ⟨trivial, ?_⟩
          unfold b__law_feed_1
          walk_at "x"
          split
          · refine ⟨by decide, ?_, by decide, ?_⟩
            · have := hfs.hi; have : sizeLine = 16777216 := rfl; rw [List.length_map]; omega
            · exact ⟨fs ++ [l % 55440], _, _, _, by rw [List.map_append]; rfl, rfl, hfs.app (Int.emod_nonneg _ (by decide)) (Int.emod_lt_of_pos _ (by decide))⟩
          · exact ⟨fs, _, _, _, rfl, rfl, hfs.mono (by omega)⟩
        · rintro σ S' ⟨fs, l, t, d, rfl, rfl, hfs⟩
          refine ⟨trivial, fs, _, _, _, _, rfl, rfl, hfs.mono (by simp)⟩
      · refine ⟨.inl (by decide), .inr (by decide), by decide, by decide, ?_⟩
        refine for_ruleN (fun j σ S' => ∃ fs l t d, S' = put S p (.lst (fs.map .int)) ∧ σ = [some (.scr ns), some (.ref p), some (.int z), some (.int l), t, some (.int d)] ∧ FdI fs (270 + j)) ⟨fs, _, _, _, rfl, rfl, by omega, hfs.nn⟩ ?_ ?_
        · rintro j d1 σ S' hd ⟨fs, l, t, d, rfl, rfl, hfs⟩
          have hj : j < 6 := by simpa using (List.getElem?_eq_some_iff.mp hd).1
          refine ⟨trivial, ?_⟩
          unfold b__law_feed_2
          walk_at "x"
          refine ⟨.inr (by decide), by decide, by decide, by decide, ?_, ?_⟩
          · have := hfs.hi; have : sizeLine = 16777216 := rfl; rw [List.length_map]; omega
          · exact ⟨fs ++ [_], _, _, _, by rw [List.map_append]; rfl, rfl, hfs.app (Int.emod_nonneg _ (by decide)) (Int.emod_lt_of_pos _ (by decide))⟩
        · rintro σ S' ⟨fs, l, t, d, rfl, rfl, hfs⟩
          refine ⟨trivial, fs, _, _, _, _, rfl, rfl, hfs.mono (by simp)⟩
    · exact ⟨fs, _, _, _, _, rfl, rfl, hfs⟩
  · rintro σ S' ⟨fs, a, b, c, d, rfl, rfl, hfs⟩
    refine ⟨trivial, ?_⟩
    walk_at "x"
    simp only [sumI_map, x_some]
    refine ⟨by decide, ?_⟩
    refine for_ruleN (fun j σ S' => ∃ fs a b c d, S' = put S p (.lst (fs.map .int)) ∧ σ = [some (.scr ns), some (.ref p), a, b, c, some (.int d)] ∧ FdI fs 330 ∧ (j ≤ fs.length ∨ 270 ≤ fs.length)) ⟨fs, _, _, _, _, rfl, rfl, hfs, .inl (Nat.zero_le _)⟩ ?_ ?_
    · rintro j d1 σ S' hd ⟨fs, a, b, c, d, rfl, rfl, hfs, hj⟩
      refine ⟨trivial, ?_⟩
      unfold b__law_feed_4
      walk_at "x"
      rw [List.length_map]
      split
      · rename_i hlt
        refine ⟨.inr (by decide), by decide, by decide, by decide, ?_, ?_⟩
        · have := hfs.hi; have : sizeLine = 16777216 := rfl; omega
        · refine ⟨fs ++ [_], _, _, _, _, by rw [List.map_append]; rfl, rfl, ⟨?_, (hfs.app (Int.emod_nonneg _ (by decide)) (Int.emod_lt_of_pos _ (by decide))).nn⟩, .inl ?_⟩
          · rw [List.length_append]; simp; omega
          · rw [List.length_append]; simp; omega
      · rename_i hlt
        exact ⟨fs, _, _, _, _, rfl, rfl, hfs, .inr (by omega)⟩
    · rintro σ S' ⟨fs, a, b, c, d, rfl, rfl, hfs, hj⟩
      refine ⟨trivial, ?_⟩
      walk_at "x"
      rw [rm_put hp]
      refine q fs ⟨?_, by have := hfs.hi; omega, hfs.nn⟩
      have e : ((List.range (Int.toNat 270)).map fun (k : Nat) => D.int (k : Int)).length = 270 := by simp
      omega
end Mn

namespace Mn
open PySem L2
local macro_rules | `(tactic| walk_at "x") => `(tactic| try simp only [wSs, wS, wE, wEs, wC, x_add, x_sub, x_addS, x_addT, x_addL, x_mul, x_mulS, x_mulL, x_div, x_mod, x_pow, x_lt, x_le, x_gt, x_ge, x_eqD, x_neD, x_in, x_notIn, x_is, x_isNot, x_eqI, x_eqS, x_eqB, x_isNN, x_isBN, x_isIN, x_isSN, x_isTN, x_isLN, x_isRN, x_isBB, x_lenS, x_lenT, x_lenL, x_lenP, x_sumP, x_appP, x_appTP, x_idxP, x_frzP, x_abs, x_intI, x_intB, x_max, x_allL, x_sumL, x_listL, x_listT, x_isi, x_truB, x_truI, x_truL, x_truT, x_truN, x_idxS, x_idxL, x_idxT, x_slS, x_slT, x_slL, x_it0L, x_it0T, x_it0S, x_it0C, x_it1, x_it2L, x_val, x_upd, x_newF, x_newT, x_nm, x_tp, x_tps, x_tp0, x_ite, x_iteD, x_ifD, x_some, x_some2, x_map, x_eqInt, i_N_tuple, i_N_list, i_N_bool, i_N_int, i_N_str, i_N_tl, i_B_tuple, i_B_list, i_B_bool, i_B_int, i_B_str, i_B_tl, i_I_tuple, i_I_list, i_I_bool, i_I_int, i_I_str, i_I_tl, i_S_tuple, i_S_list, i_S_bool, i_S_int, i_S_str, i_S_tl, i_T_tuple, i_T_list, i_T_bool, i_T_int, i_T_str, i_T_tl, i_L_tuple, i_L_list, i_L_bool, i_L_int, i_L_str, i_L_tl, x_pure, x_new, x_fn, List.getElem?_cons_zero, List.getElem?_cons_succ, List.set_cons_zero, List.set_cons_succ, Option.bind_some, List.length_cons, List.length_nil, Nat.reduceAdd, true_and, and_true, decide_eq_true_eq, Bool.not_eq_true', decide_eq_false_iff_not, Bool.not_false, Bool.not_true, Bool.false_eq_true, Bool.true_eq_false, if_true, if_false, ite_true, ite_false])
def n__law_same : List Str := ["_law_found", "_law_due", "_law_k"]
def e__law_same_1 : ME := (.call "_law_same" [(.idx (.var 0) (.var 2)), (.idx (.var 1) (.var 2))])
def m__law_same : List MS := [(.ite (.blt .isinstance false [(.var 1), (.tup [(.cst (.ty "tuple")), (.cst (.ty "list"))])]) [(.ite (.or (.cmp .NotEq (.blt .isinstance false [(.var 1), (.cst (.ty "tuple"))]) (.blt .isinstance false [(.var 0), (.cst (.ty "tuple"))])) (.cmp .NotEq (.blt .isinstance false [(.var 1), (.cst (.ty "list"))]) (.blt .isinstance false [(.var 0), (.cst (.ty "list"))]))) [(.ret (.cst (.bl false)))] []), (.ret (.and (.cmp .Eq (.blt .len false [(.var 0)]) (.blt .len false [(.var 1)])) (.blt .all false [(.lc 1 false (.nm 2) [(.blt .len false [(.var 1)])] [] e__law_same_1)])))] []), (.ite (.cmp .Is (.var 1) (.cst .non)) [(.ret (.cmp .Is (.var 0) (.cst .non)))] []), (.ite (.or (.blt .isinstance false [(.var 1), (.cst (.ty "bool"))]) (.blt .isinstance false [(.var 0), (.cst (.ty "bool"))])) [(.ret (.and (.blt .isinstance false [(.var 1), (.cst (.ty "bool"))]) (.and (.blt .isinstance false [(.var 0), (.cst (.ty "bool"))]) (.cmp .Eq (.var 0) (.var 1)))))] []), (.ret (.and (.cmp .Eq (.blt .isinstance false [(.var 0), (.cst (.ty "int"))]) (.blt .isinstance false [(.var 1), (.cst (.ty "int"))])) (.cmp .Eq (.var 0) (.var 1))))]
mutual
def sameD : D → D → Bool
  | f, .tup ds => (match f with
    | .tup fs => sameDs fs ds
    | _ => false)
  | f, .lst ds => (match f with
    | .lst fs => sameDs fs ds
    | _ => false)
  | f, .non => (match f with
    | .non => true
    | _ => false)
  | f, .bl b => (match f with
    | .bl c => c == b
    | _ => false)
  | f, .int j => (match f with
    | .int i => decide (i = j)
    | _ => false)
  | f, .str y => (match f with
    | .str x => decide (x = y)
    | _ => false)
  | _, _ => false
def sameDs : List D → List D → Bool
  | [], [] => true
  | f :: fs, d :: ds => sameD f d && sameDs fs ds
  | _, _ => false
end
theorem sameDs_len : ∀ {fs ds : List D}, ¬ fs.length = ds.length → sameDs fs ds = false
  | [], [], h => absurd rfl h
  | [], _ :: _, _ => by unfold sameDs; rfl
  | _ :: _, [], _ => by unfold sameDs; rfl
  | f :: fs, d :: ds, h => by
    unfold sameDs
    rw [sameDs_len (fs := fs) (ds := ds) (fun e => h (by rw [List.length_cons, List.length_cons, e])), Bool.and_false]
mutual
/-- no list or tuple of it is too long -/
def dsize : D → Prop
  | .tup ds => ds.length ≤ 1000 ∧ dsizes ds
  | .lst ds => ds.length ≤ 1000 ∧ dsizes ds
  | _ => True
def dsizes : List D → Prop
  | [] => True
  | d :: ds => dsize d ∧ dsizes ds
end
theorem dsizes_get : ∀ {ds : List D} {i : Nat} {d : D}, dsizes ds → ds[i]? = some d → dsize d
  | [], i, d, _, e => by simp at e
  | d' :: ds, 0, d, h, e => by unfold dsizes at h; simp at e; subst e; exact h.1
  | d' :: ds, i + 1, d, h, e => by unfold dsizes at h; exact dsizes_get h.2 (by simpa using e)
theorem pureDs_get : ∀ {ds : List D} {i : Nat} {d : D}, pureDs ds = true → ds[i]? = some d → pureD d = true
  | [], i, d, _, e => by simp at e
  | d' :: ds, 0, d, h, e => by unfold pureDs at h; simp at e; subst e; exact (and2 h).1
  | d' :: ds, i + 1, d, h, e => by unfold pureDs at h; exact pureDs_get (and2 h).2 (by simpa using e)
theorem deps_get : ∀ {ds : List D} {i : Nat} {d : D}, ds[i]? = some d → dep d ≤ deps ds
  | [], i, d, e => by simp at e
  | d' :: ds, 0, d, e => by unfold deps; simp at e; subst e; exact Nat.le_max_left _ _
  | d' :: ds, i + 1, d, e => by unfold deps; exact Nat.le_trans (deps_get (ds := ds) (by simpa using e)) (Nat.le_max_right _ _)
theorem top_pure {S : Sto} {d : D} (h : pureD d = true) : top S d = d := by
  cases d with
  | ref a => unfold pureD at h; cases h
  | _ => rfl
/-- the truths of a comparison item by item -/
def sameL (fs ds : List D) : List Bool := (List.range ds.length).map fun k => match fs[k]?, ds[k]? with
  | some f, some d => sameD f d
  | _, _ => false
theorem sameL_all : ∀ {fs ds : List D}, fs.length = ds.length → (sameL fs ds).all id = sameDs fs ds
  | [], [], _ => by unfold sameDs sameL; rfl
  | [], _ :: _, h => by simp at h
  | _ :: _, [], h => by simp at h
  | f :: fs, d :: ds, h => by
    have ih := sameL_all (fs := fs) (ds := ds) (by simpa using h)
    unfold sameDs
    rw [← ih]
    unfold sameL
    rw [List.length_cons, List.range_succ_eq_map, List.map_cons, List.all_cons, List.map_map]
    rfl
/-- found is data, or a list of the store with data -/
def spSame (n : Nat) : DSp := fun ds S Q _ => ∃ f d, ds = [f, d] ∧ pureD (top S f) = true ∧ pureD d = true ∧ dep d ≤ n ∧ dsize (top S f) ∧ dsize d ∧ Q (.bl (sameD (top S f) d)) S
theorem allB_some {S : Sto} : ∀ bs : List Bool, allB S (bs.map .bl) = some (bs.all id)
  | [] => rfl
  | b :: bs => by
    show (match allB S (bs.map .bl) with
      | some c => some (b && c)
      | none => none) = _
    rw [allB_some bs]
    rfl
/-- the types of data -/
theorem tyN_top {S : Sto} {f : D} (h : pureD (top S f) = true) : ∃ t, tyN S f = some t ∧ tyN S (top S f) = some t := by
  cases f with
  | ref a =>
    cases e : lstAt S a with
    | none =>
      have q : top S (.ref a) = .ref a := by simp only [top, e]
      rw [q] at h; unfold pureD at h; cases h
    | some ds =>
      have q : top S (.ref a) = .lst ds := by simp only [top, e]
      refine ⟨"list", ?_, by rw [q]; rfl⟩
      show (lstAt S a).map (fun _ => "list") = _
      rw [e]; rfl
  | non => exact ⟨_, rfl, rfl⟩
  | bl b => exact ⟨_, rfl, rfl⟩
  | int b => exact ⟨_, rfl, rfl⟩
  | str b => exact ⟨_, rfl, rfl⟩
  | tup b => exact ⟨_, rfl, rfl⟩
  | lst b => exact ⟨_, rfl, rfl⟩
  | ty b => unfold top pureD at h; cases h
  | scr b => unfold top pureD at h; cases h
theorem isi_top {S : Sto} {f c : D} (h : pureD (top S f) = true) : isiR S f c = isiR S (top S f) c := by
  obtain ⟨t, h1, h2⟩ := tyN_top h
  unfold isiR
  rw [h1, h2]
theorem len_top {S : Sto} {f : D} : seqOf S f = seqOf S (top S f) := by
  cases f with
  | ref a =>
    cases e : lstAt S a with
    | none => simp only [top, e]
    | some ds => simp only [top, e, seqOf]
  | _ => rfl
theorem lenB_top {S : Sto} {f : D} : bltR .len [f] S = bltR .len [top S f] S := by
  cases f with
  | ref a =>
    cases e : lstAt S a with
    | none => simp only [top, e]
    | some ds =>
      simp only [top, e]
      rw [x_lenR (lstAt_some e)]; rfl
  | _ => rfl
theorem idx_top {S : Sto} {f : D} {i : D} : idxR f i S = idxR (top S f) i S := by
  cases f with
  | ref a =>
    cases e : lstAt S a with
    | none => simp only [top, e]
    | some ds =>
      simp only [top, e]
      rw [r_idx, lstAt_some e]
      cases i <;> rfl
  | _ => rfl
theorem eq_top {S : Sto} {f d : D} : eqR f d S = eqR (top S f) d S := by
  have e : top S (top S f) = top S f := by
    cases f with
    | ref a =>
      cases e : lstAt S a with
      | none => simp only [top, e]
      | some ds => simp only [top, e]
    | _ => rfl
  unfold eqR
  rw [e]
theorem is_top {S : Sto} {f : D} : isR f .non = isR (top S f) .non := by
  cases f with
  | ref a =>
    cases e : lstAt S a with
    | none => simp only [top, e]
    | some ds => simp only [top, e]; rfl
  | _ => rfl
theorem eq_pure {S : Sto} {f d : D} (h1 : pureD f = true) (h2 : pureD d = true) (h : dep f ≤ 60 ∨ dep d ≤ 60) : eqR f d S = some (deq f d) := by
  unfold eqR
  rw [top_pure h1, top_pure h2, g?_pos ⟨h1, h2, by omega⟩]
/-- the comparison of two sequences -/
theorem same_seq {G : Gc} {n : Nat} {f d : D} {fs ds : List D} {S : Sto} {k : D → Sto → Prop} (hG : G.fn "_law_same" = some (2, spSame n)) (hf : seqOf S f = some fs) (hd : seqOf S d = some ds) (hl : fs.length = ds.length) (hz : ds.length ≤ 1000)
    (pf : pureDs fs = true) (pd : pureDs ds = true) (zf : dsizes fs) (zd : dsizes ds) (hn : deps ds ≤ n) (ntf : ∀ z, f ≠ .str z) (ntd : ∀ z, d ≠ .str z) (q : k (.bl (sameDs fs ds)) S) :
    lcLoop (fun _ => True) (fun d_2 S2 q => wE G (fun _ _ _ => False) e__law_same_1 [some f, some d, some d_2] S2 fun y S4 => q (some y) S4) ((List.range ds.length).map fun (k : Nat) => .int (k : Int)) [] S fun acc S2 => ∃ a, allB S2 acc = some a ∧ k (.bl a) S2 := by
  have idx : ∀ (g : D) (gs : List D) (j : Nat) (z : D), (∀ z, g ≠ .str z) → seqOf S g = some gs → gs[j]? = some z → idxR g (.int (j : Int)) S = some z := by
    intro g gs j z hg h1 h2
    have hj : j < gs.length := (List.getElem?_eq_some_iff.mp h2).1
    have e : idxR g (.int (j : Int)) S = (match seqOf S g with
      | some ds => atI ds (j : Int)
      | none => (dGet S g (.int (j : Int))).bind id) := by
      cases g with
      | str z => exact absurd rfl (hg z)
      | _ => rfl
    rw [e, h1]
    show atI gs (j : Int) = _
    rw [atI_nn (Int.natCast_nonneg j) (by omega)]
    simpa using h2
  have hS : ∀ j : Nat, j < ds.length → ∃ u v, fs[j]? = some u ∧ ds[j]? = some v := fun j hj => ⟨_, _, List.getElem?_eq_getElem (by omega), List.getElem?_eq_getElem hj⟩
  refine lc_any (fun z => match z with
      | .int j => some (.bl (match fs[j.toNat]?, ds[j.toNat]? with
        | some u, some v => sameD u v
        | _, _ => false))
      | _ => none) (by rw [List.length_map, List.length_range]; exact Nat.le_trans hz (by decide)) trivial ?_ ?_
  · intro z hz q' hq
    obtain ⟨j, hj, rfl⟩ := List.mem_map.mp hz
    have hj : j < ds.length := List.mem_range.mp hj
    obtain ⟨u, v, hu, hv⟩ := hS j hj
    unfold e__law_same_1
    walk_at "x"
    rw [hG]
    walk_at "x"
    rw [idx f fs j u ntf hf hu, idx d ds j v ntd hd hv]
    walk_at "x"
    refine callW_of ⟨u, v, rfl, ?_, pureDs_get pd hv, Nat.le_trans (deps_get hv) hn, ?_, dsizes_get zd hv, ?_⟩
    · rw [top_pure (pureDs_get pf hu)]; exact pureDs_get pf hu
    · rw [top_pure (pureDs_get pf hu)]; exact dsizes_get zf hu
    · rw [top_pure (pureDs_get pf hu)]
      simp only [Int.toNat_natCast, hu, hv] at hq
      exact hq
  · refine ⟨sameDs fs ds, ?_, q⟩
    rw [← sameL_all hl, ← allB_some (S := S)]
    congr 1
    unfold sameL
    rw [List.filterMap_map, List.map_map]
    rw [← List.filterMap_eq_map]
    congr 1
theorem ok_same {G : Gc} (n : Nat) (hG : ∀ k, n = k + 1 → G.fn "_law_same" = some (2, spSame k)) : BodyOk G n__law_same 2 m__law_same (spSame n) := by
  rintro ds S Q X - ⟨f, d, rfl, hf, hd, hn, zf, zd, q⟩
  show wSs G _ m__law_same [some f, some d, none] S _
  unfold m__law_same
  walk_at "x"
  simp only [isi_top hf, lenB_top (f := f), eq_top (f := f), is_top (S := S) (f := f)]
  refine ⟨by decide, ?_⟩
  have ft : seqOf S f = seqOf S (top S f) := len_top
  generalize top S f = g at *
  cases d with
  | ty _ => unfold pureD at hd; cases hd
  | ref _ => unfold pureD at hd; cases hd
  | scr _ => unfold pureD at hd; cases hd
  | non =>
    cases g with
    | ty _ => unfold pureD at hf; cases hf
    | ref _ => unfold pureD at hf; cases hf
    | scr _ => unfold pureD at hf; cases hf
    | _ =>
      unfold sameD at q
      walk_at "x"
      exact q
  | bl b =>
    cases g with
    | ty _ => unfold pureD at hf; cases hf
    | ref _ => unfold pureD at hf; cases hf
    | scr _ => unfold pureD at hf; cases hf
    | _ =>
      unfold sameD at q
      walk_at "x"
      exact q
  | int b =>
    rw [eq_pure hf hd (.inr (Nat.zero_le _))]
    cases g with
    | ty _ => unfold pureD at hf; cases hf
    | ref _ => unfold pureD at hf; cases hf
    | scr _ => unfold pureD at hf; cases hf
    | _ =>
      unfold sameD at q
      walk_at "x"
      exact q
  | str b =>
    rw [eq_pure hf hd (.inr (Nat.zero_le _))]
    cases g with
    | ty _ => unfold pureD at hf; cases hf
    | ref _ => unfold pureD at hf; cases hf
    | scr _ => unfold pureD at hf; cases hf
    | _ =>
      unfold sameD at q
      walk_at "x"
      exact q
  | tup ds =>
    cases g with
    | ty _ => unfold pureD at hf; cases hf
    | ref _ => unfold pureD at hf; cases hf
    | scr _ => unfold pureD at hf; cases hf
    | tup fs =>
      walk_at "x"
      rw [if_neg (by decide), if_neg (by decide)]
      unfold sameD at q
      simp only at q
      unfold pureD at hf hd
      unfold dsize at zf zd
      unfold dep at hn
      have hG := hG (n - 1) (by omega)
      by_cases hl : fs.length = ds.length
      · rw [if_pos (by rw [hl])]
        refine ⟨⟨by omega, by omega⟩, ?_⟩
        rw [Int.toNat_natCast]
        exact same_seq hG ft rfl hl zd.1 hf hd zf.2 zd.2 (by omega) (fun z e => by subst e; cases ft) (fun z e => by cases e) q
      · rw [if_neg (by omega)]
        rw [sameDs_len hl] at q
        rw [decide_eq_false (by omega)]
        exact q
    | _ =>
      unfold sameD at q
      walk_at "x"
      exact q
  | lst ds =>
    cases g with
    | ty _ => unfold pureD at hf; cases hf
    | ref _ => unfold pureD at hf; cases hf
    | scr _ => unfold pureD at hf; cases hf
    | lst fs =>
      walk_at "x"
      rw [if_neg (by decide), if_neg (by decide)]
      unfold sameD at q
      simp only at q
      unfold pureD at hf hd
      unfold dsize at zf zd
      unfold dep at hn
      have hG := hG (n - 1) (by omega)
      by_cases hl : fs.length = ds.length
      · rw [if_pos (by rw [hl])]
        refine ⟨⟨by omega, by omega⟩, ?_⟩
        rw [Int.toNat_natCast]
        exact same_seq hG ft rfl hl zd.1 hf hd zf.2 zd.2 (by omega) (fun z e => by subst e; cases ft) (fun z e => by cases e) q
      · rw [if_neg (by omega)]
        rw [sameDs_len hl] at q
        rw [decide_eq_false (by omega)]
        exact q
    | _ =>
      unfold sameD at q
      walk_at "x"
      exact q
end Mn

namespace Mn
open PySem L2
/-! ### a module: its defs, one behind another -/
structure Ent where
  d : He.DefD
  ps : List Str
  N : List Str
  ms : List MS
  sp : DSp
def fnB (N ps : List Str) (sc : Scope) : Bool := decide (sc.kind = .function) && (decide (sc.isCoroutine = false) && (decide (sc.isGenerator = false) && (decide N.Nodup && (decide (N.take ps.length = ps) && (ps.all (fun x => decide (sc.names.lookup x = some .local ∨ sc.names.lookup x = some .cell)) && sc.names.all fun y => decide (y.2 ≠ .free))))))
theorem fnB_ok {N ps : List Str} {sc : Scope} (h : fnB N ps sc = true) : FnScope N ps sc := by
  unfold fnB at h
  obtain ⟨h1, h⟩ := He.ba h
  obtain ⟨h2, h⟩ := He.ba h
  obtain ⟨h3, h⟩ := He.ba h
  obtain ⟨h4, h⟩ := He.ba h
  obtain ⟨h5, h⟩ := He.ba h
  obtain ⟨h6, h7⟩ := He.ba h
  exact ⟨of_decide_eq_true h1, of_decide_eq_true h2, of_decide_eq_true h3, of_decide_eq_true h4, of_decide_eq_true h5, fun x hx => of_decide_eq_true (List.all_eq_true.mp h6 x hx), fun x hx => of_decide_eq_true (List.all_eq_true.mp h7 x hx)⟩
/-- the def's text is the reading's -/
def Ent.chk (e : Ent) : Bool := fnB e.N e.ps e.d.scope && (matchSs e.N e.d.scope e.ms e.d.body && ((e.d.dfl.isEmpty && e.d.kwd.isEmpty)))
def Ent.binds (e : Ent) : Prop := ∀ (kV doc pm : Value) (an : Option Addr) (cdv ct : Value) (us : List Value), us.length = e.ps.length → bindArgs (PySem.W.fnOf e.d.name e.d.qual e.d.params e.d.body e.d.scope .none kV doc pm an cdv ct) ⟨us, []⟩ = pure (e.ps.zip us)
/-- the module's constants, fields, exceptions -/
structure Cfg where
  con : Str → Option D
  fld : Str → Str → Bool := fun _ _ => false
  exc : Str → Option (Nat × (List D → List (Str × D))) := fun _ => none
  sub : Str → Str → Option Bool := fun _ _ => none
  xfl : Str → Str → Bool := fun _ _ => false
def gFn : List Ent → Str → Option (Nat × DSp)
  | [], _ => none
  | e :: r, f => if e.d.at_ = (f, none) then some (e.ps.length, e.sp) else gFn r f
def gMt : List Ent → Str → Str → Option (Nat × DSp)
  | [], _, _ => none
  | e :: r, c, m => if e.d.at_ = (c, some m) then some (e.ps.length, e.sp) else gMt r c m
def gOf (cf : Cfg) (es : List Ent) : Gc := { fn := gFn es, con := cf.con, mt := fun c m => if m = "__init__" then none else gMt es c m, mkr := fun c => gMt es c "__init__", fld := cf.fld, exc := cf.exc, sub := cf.sub, xfl := cf.xfl }
/-- each def's body keeps its word over those behind it -/
def atFa : Str × Option Str → List He.Fa
  | (f, none) => [.glo f]
  | (c, some m) => if m = "__init__" then [.glo c, .cls c, .mkr c] else [.cls c, .meth c m]
inductive Mods (cf : Cfg) (fa : List He.Fa) (fn : List He.DefD) : List Ent → Prop
  | nil : Mods cf fa fn []
  | cons {e : Ent} {r : List Ent} (h : Mods cf fa fn r) (i : Nat) (hd : fn[i]? = some e.d) (hg : ∀ f ∈ atFa e.d.at_, f ∈ fa) (hc : e.chk = true) (hb : e.binds) (ho : BodyOk (gOf cf r) e.N e.ps.length e.ms e.sp) : Mods cf fa fn (e :: r)
theorem says_mem {fa : List He.Fa} {fn : List He.DefD} {K : PySem.W.Frag} (c : He.SaysD fa fn K) {f : He.Fa} (h : f ∈ fa) : f.ok K = true := by
  obtain ⟨i, hi⟩ := List.mem_iff_getElem?.mp h
  exact c.fact i hi
/-- the constants of the module -/
def conOk (K : PySem.W.Frag) (mg : Str → Option Value) (con : Str → Option D) : Prop := ∀ n d, con n = some d → ∃ v u, mg n = some u ∧ RelV v u ∧ ∀ Z H S, RelD ⟨K, He.ga K, Z⟩ H S d v
/-- constants that are ints and texts -/
def conL (l : List (Str × D)) (n : Str) : Option D := l.lookup n
def conB (fa : List He.Fa) : Str × D → Prop
  | (x, .int i) => He.Fa.int x i ∈ fa
  | (x, .str z) => He.Fa.str x z ∈ fa ∧ PySem.PyData.strOk z = true
  | _ => False
theorem conL_ok {K : PySem.W.Frag} {h : Heap} {mg : Str → Option Value} {fa : List He.Fa} {fn : List He.DefD} {l : List (Str × D)} (hl : ∀ q ∈ l, conB fa q) (X : K.In h) (Gm : h.Ns mainGlobals mg) (c : He.SaysD fa fn K) : conOk K mg (conL l) := by
  intro n d e
  have hm : (n, d) ∈ l := by
    unfold conL at e
    induction l with
    | nil => cases e
    | cons q r ih =>
      obtain ⟨x, z⟩ := q
      rw [List.lookup_cons] at e
      cases q : (n == x) with
      | true =>
        rw [q] at e
        cases e
        rw [beq_iff_eq.mp q]
        exact List.mem_cons_self
      | false =>
        rw [q] at e
        exact List.mem_cons_of_mem _ (ih (fun q hq => hl q (List.mem_cons_of_mem _ hq)) e)
  have hb := hl _ hm
  cases d with
  | int i =>
    obtain ⟨t, ht⟩ := He.int_ok X Gm (says_mem c (show He.Fa.int n i ∈ fa from hb))
    exact ⟨.int i, _, ht, ⟨t, rfl⟩, fun _ _ _ => by unfold RelD; rfl⟩
  | str z =>
    obtain ⟨t, ht⟩ := He.str_ok X Gm (says_mem c (show He.Fa.str n z ∈ fa from hb.1))
    exact ⟨.str z, _, ht, ⟨t, rfl⟩, fun _ _ _ => by unfold RelD; exact ⟨rfl, hb.2⟩⟩
  | _ => exact hb.elim
/-- what the configuration must have -/
structure CfgOk (P : Program) (w : World) (K : PySem.W.Frag) (mg : Str → Option Value) (base : Heap) (cf : Cfg) : Prop where
  con : conOk K mg cf.con
  fld : ∀ c f, cf.fld c f = true → L2.Cls K (He.ga K c) ∧ L2.NoAttr K (He.ga K c) f
  exc : ∀ c n F, cf.exc c = some (n, F) → ∃ (fI : Addr) (fd : FuncData) (ps : List Str) (F' : List V → List (Str × V)), mg c = some (.ref (He.ga K c)) ∧ OexC K (He.ga K c) ∧ PySem.W.findIn K (.ref (He.ga K c)) "__init__" = some (some (.ref fI)) ∧ PySem.W.typeIn K (.ref fI) = some (.type "function") ∧
    FnOk P w K mg base (L2.CX P w) 2 fI fd ps (spEx (He.ga K c) n F') ∧ Binds K fd ps [] ∧ RelFn F F'
  sub : ∀ c c' b, cf.sub c c' = some b → mg c' = some (.ref (He.ga K c')) ∧ PySem.W.exmOne K (.ref (He.ga K c)) (.ref (He.ga K c')) = some b ∧ PySem.W.kitOne K (.ref (He.ga K c)) (.ref (He.ga K c')) = some b ∧ ExcC K (He.ga K c)
  xfl : ∀ c f, cf.xfl c f = true → XfC K (He.ga K c) ∧ PySem.W.findIn K (.ref (He.ga K c)) f = some none
/-- one entry keeps its word -/
theorem ent_ok {P : Program} {w : World} {K : PySem.W.Frag} {mg : Str → Option Value} {base : Heap} {fa : List He.Fa} {fn : List He.DefD} {cf : Cfg} {e : Ent} {r : List Ent} {k : Nat} (c : He.SaysD fa fn K) (M : Md P w K mg base (He.ga K) (gOf cf r) k) {i : Nat} (hd : fn[i]? = some e.d) (hc : e.chk = true) (hb : e.binds) (ho : BodyOk (gOf cf r) e.N e.ps.length e.ms e.sp) :
    ∃ fd, FunD K e.d.name e.d.qual e.d.params e.d.body e.d.scope [] [] (He.fAd K e.d.at_) fd ∧ FnOk P w K mg base (L2.CX P w) (k + 1) (He.fAd K e.d.at_) fd e.ps (lift K (He.ga K) e.ps.length e.sp) ∧ Binds K fd e.ps [] := by
  obtain ⟨fd, F⟩ := c.def_ i hd
  unfold Ent.chk at hc
  obtain ⟨h1, hc⟩ := He.ba hc
  obtain ⟨h2, hc⟩ := He.ba hc
  obtain ⟨h4, h5⟩ := He.ba hc
  have h4 := List.isEmpty_iff.mp h4
  have h5 := List.isEmpty_iff.mp h5
  have F : FunD K e.d.name e.d.qual e.d.params e.d.body e.d.scope [] [] (He.fAd K e.d.at_) fd := by
    have := F
    unfold He.DefD.dvs He.DefD.kws at this
    rw [h4, h5] at this
    exact this
  exact ⟨fd, F, fn_ok F (fnB_ok h1) M h2 ho, F.bindsN hb⟩
/-- how deep calls may go -/
def lv : List Ent → Nat
  | [] => 3
  | e :: r => lv r + (if e.d.at_.2 = some "__init__" then 2 else 1)
theorem lv_ge : ∀ es, 3 ≤ lv es
  | [] => Nat.le_refl _
  | e :: r => Nat.le_trans (lv_ge r) (Nat.le_add_right _ _)
theorem md_of {P : Program} {w : World} {K : PySem.W.Frag} {mg : Str → Option Value} {base h : Heap} {fa : List He.Fa} {fn : List He.DefD} {cf : Cfg} (X : K.In h) (Gm : h.Ns mainGlobals mg) (c : He.SaysD fa fn K) (hfr : ∃ r, fa = frees.map He.Fa.free ++ r) (hcf : CfgOk P w K mg base cf) :
    ∀ es : List Ent, Mods cf fa fn es → Md P w K mg base (He.ga K) (gOf cf es) (lv es) := by
  have hfr : ∀ x ∈ frees, He.Fa.free x ∈ fa := fun x hx => by
    obtain ⟨r, rfl⟩ := hfr
    exact List.mem_append_left _ (List.mem_map.mpr ⟨x, hx, rfl⟩)
  have fr : ∀ x ∈ frees, mg x = none := fun x hx => He.free_ok X Gm (says_mem c (hfr x hx))
  have base0 : ∀ (es : List Ent) (k : Nat), 3 ≤ k → (∀ f n sp, gFn es f = some (n, sp) → ∃ (fa : Addr) (fd : FuncData) (j : Nat) (ps : List Str), ps.length = n ∧ mg f = some (.ref fa) ∧ FnOk P w K mg base (L2.CX P w) j fa fd ps (lift K (He.ga K) n sp) ∧ j ≤ k ∧ PySem.W.keepIn K (.ref fa) = true ∧ Binds K fd ps []) →
      (∀ c m n sp, gMt es c m = some (n, sp) → ∃ (fa : Addr) (fd : FuncData) (j : Nat) (ps : List Str), ps.length = n ∧ (m ≠ "__init__" → L2.Cls K (He.ga K c) ∧ L2.Meth K (He.ga K c) m fa) ∧ (m = "__init__" → mg c = some (.ref (He.ga K c)) ∧ L2.Mk K (He.ga K c) fa) ∧ FnOk P w K mg base (L2.CX P w) j fa fd ps (lift K (He.ga K) n sp) ∧ j ≤ k ∧ (m = "__init__" → j + 1 ≤ k) ∧ Binds K fd ps []) →
      Md P w K mg base (He.ga K) (gOf cf es) k := fun es k hk hf hm => {
    fns := hf
    con := hcf.con
    mts := fun c m n sp q => by
      have q : (if m = "__init__" then none else gMt es c m) = some (n, sp) := q
      split at q
      · cases q
      · rename_i e
        obtain ⟨a, fd, j, ps, h1, h2, h3, h4, h5, _, h6⟩ := hm c m n sp q
        exact ⟨a, fd, j, ps, h1, (h2 e).1, (h2 e).2, h4, h5, h6⟩
    mks := fun c n sp q => by
      obtain ⟨a, fd, j, ps, h1, h2, h3, h4, _, h5, h6⟩ := hm c "__init__" n sp q
      exact ⟨a, fd, j, ps, h1, (h3 rfl).1, (h3 rfl).2, h4, h5 rfl, h6⟩
    flds := hcf.fld
    excs := fun c n F q => by
      obtain ⟨fI, fd, ps, F', h1, h2, h3, h4, h5, h6, h7⟩ := hcf.exc c n F q
      exact ⟨fI, fd, 2, ps, F', h1, h2, h3, h4, h5, by omega, h6, h7⟩
    subs := hcf.sub
    xfls := hcf.xfl
    zip := fr _ (by decide +kernel)
    blt := fun f => fr _ (by cases f <;> decide +kernel)
    tys := fun n hn => by
      unfold tyB at hn
      simp only [Bool.or_eq_true, beq_iff_eq] at hn
      rcases hn with (((rfl | rfl) | rfl) | rfl) | rfl <;> exact fr _ (by decide +kernel)
    rng := fr _ (by decide +kernel)
    enm := fr _ (by decide +kernel) }
  have key : ∀ es : List Ent, Mods cf fa fn es → (∀ f n sp, gFn es f = some (n, sp) → ∃ (fa : Addr) (fd : FuncData) (j : Nat) (ps : List Str), ps.length = n ∧ mg f = some (.ref fa) ∧ FnOk P w K mg base (L2.CX P w) j fa fd ps (lift K (He.ga K) n sp) ∧ j ≤ lv es ∧ PySem.W.keepIn K (.ref fa) = true ∧ Binds K fd ps []) ∧
      (∀ c m n sp, gMt es c m = some (n, sp) → ∃ (fa : Addr) (fd : FuncData) (j : Nat) (ps : List Str), ps.length = n ∧ (m ≠ "__init__" → L2.Cls K (He.ga K c) ∧ L2.Meth K (He.ga K c) m fa) ∧ (m = "__init__" → mg c = some (.ref (He.ga K c)) ∧ L2.Mk K (He.ga K c) fa) ∧ FnOk P w K mg base (L2.CX P w) j fa fd ps (lift K (He.ga K) n sp) ∧ j ≤ lv es ∧ (m = "__init__" → j + 1 ≤ lv es) ∧ Binds K fd ps []) := by
    intro es
    induction es with
    | nil => exact fun _ => ⟨fun f n sp q => (by cases q), fun c m n sp q => (by cases q)⟩
    | cons e r ih =>
      intro hm
      cases hm with
      | cons hr i hd hg hc hb ho =>
        obtain ⟨ihf, ihm⟩ := ih hr
        have M : Md P w K mg base (He.ga K) (gOf cf r) (lv r) := base0 r (lv r) (lv_ge r) ihf ihm
        obtain ⟨fd, F, ok, bi⟩ := ent_ok c M hd hc hb ho
        have l1 : lv r + 1 ≤ lv (e :: r) := by
          show lv r + 1 ≤ lv r + (if e.d.at_.2 = some "__init__" then 2 else 1)
          split <;> omega
        refine ⟨fun f n sp q => ?_, fun cc m n sp q => ?_⟩
        · have q : (if e.d.at_ = (f, none) then some (e.ps.length, e.sp) else gFn r f) = some (n, sp) := q
          split at q
          · rename_i ea
            cases q
            rw [ea] at ok F hg
            exact ⟨_, fd, _, e.ps, rfl, He.glo_ok X Gm (says_mem c (hg _ (by unfold atFa; exact List.mem_singleton.mpr rfl))), ok, l1, F.kp, bi⟩
          · obtain ⟨a, fd, j, ps, k1, k2, k3, k4, k5⟩ := ihf f n sp q
            exact ⟨a, fd, j, ps, k1, k2, k3, by omega, k5⟩
        · have q : (if e.d.at_ = (cc, some m) then some (e.ps.length, e.sp) else gMt r cc m) = some (n, sp) := q
          split at q
          · rename_i ea
            cases q
            rw [ea] at ok F hg
            refine ⟨_, fd, _, e.ps, rfl, fun hm => ?_, fun hm => ?_, ok, l1, fun hm => ?_, bi⟩
            · have hf : atFa (cc, some m) = [.cls cc, .meth cc m] := by unfold atFa; exact if_neg hm
              rw [hf] at hg
              exact ⟨He.cls_ok (says_mem c (hg _ (by simp))), He.meth_ok (says_mem c (hg _ (by simp)))⟩
            · have hf : atFa (cc, some m) = [.glo cc, .cls cc, .mkr cc] := by unfold atFa; exact if_pos hm
              rw [hf] at hg
              subst hm
              exact ⟨He.glo_ok X Gm (says_mem c (hg _ (by simp))), He.mkr_ok (says_mem c (hg _ (by simp)))⟩
            · show lv r + 1 + 1 ≤ lv r + (if e.d.at_.2 = some "__init__" then 2 else 1)
              have e2 : e.d.at_.2 = some "__init__" := by rw [ea]; exact congrArg some hm
              rw [if_pos e2]
              exact Nat.le_refl _
          · obtain ⟨a, fd, j, ps, k1, k2, k3, k4, k5, k6, k7⟩ := ihm cc m n sp q
            exact ⟨a, fd, j, ps, k1, k2, k3, k4, by omega, fun z => by have := k6 z; omega, k7⟩
  intro es hm
  obtain ⟨kf, km⟩ := key es hm
  exact base0 es _ (lv_ge es) kf km
/-- the law's def stands first -/
theorem law_of {P : Program} {fa : List He.Fa} {fx : List Fx} {fn : List He.DefD} {cf : Cfg} {e : Ent} {r : List Ent} {x : Str} {k : Nat} (hk : lv r + 1 = k) (hfr : ∃ r, fa = frees.map He.Fa.free ++ r) (hcf : ∀ (w : World) (K : PySem.W.Frag) (h : Heap) (mg : Str → Option Value) (base : Heap), K.In h → h.Ns mainGlobals mg → SaysM fa fx fn K → CfgOk P w K mg base cf) (hm : Mods cf fa fn (e :: r)) (hn : e.d.at_ = (("law" : Str), none)) (hp : e.ps = [x])
    (w : World) (mg : Str → Option Value) (f : Addr) (h : Heap) (K : PySem.W.Frag) (X : K.In h) (Gm : h.Ns mainGlobals mg) (hmg : mg "law" = some (.ref f)) (c : SaysM fa fx fn K) :
    ∃ (fd : FuncData) (ga : Str → Addr), (∀ (s : Shared) (u : Value), BindsTo s fd ⟨[u], []⟩ [(x, u)]) ∧ ∀ base : Heap, K.In base → base.Ns mainGlobals mg → FnOk P w K mg base (L2.CX P w) k f fd [x] (lift K ga 1 e.sp) := by
  cases hm with
  | cons hr i hd hg hc hb ho =>
    have hf : atFa e.d.at_ = [.glo "law"] := by rw [hn]; rfl
    rw [hf] at hg
    have eg := He.glo_ok X Gm (says_mem c.d (hg _ List.mem_cons_self))
    have ef : f = He.ga K "law" := by
      have z := hmg.symm.trans eg
      cases z
      rfl
    obtain ⟨fd, F⟩ := c.d.def_ i hd
    unfold Ent.chk at hc
    obtain ⟨h1, hc⟩ := He.ba hc
    obtain ⟨h2, hc⟩ := He.ba hc
    obtain ⟨h4, h5⟩ := He.ba hc
    have h4 := List.isEmpty_iff.mp h4
    have h5 := List.isEmpty_iff.mp h5
    have F : FunD K e.d.name e.d.qual e.d.params e.d.body e.d.scope [] [] (He.fAd K e.d.at_) fd := by
      have := F
      unfold He.DefD.dvs He.DefD.kws at this
      rw [h4, h5] at this
      exact this
    refine ⟨fd, He.ga K, fun s u => ?_, fun base hK hN => ?_⟩
    · have b := F.bindsA hb s [u] (by rw [hp]; rfl)
      rw [hp] at b
      exact b
    · have M : Md P w K mg base (He.ga K) (gOf cf r) (lv r) := md_of X Gm c.d hfr (hcf w K h mg base X Gm c) r hr
      have ok := fn_ok F (fnB_ok h1) M h2 ho
      rw [hp, hn, hk] at ok
      rw [ef]
      exact ok
end Mn

namespace Mn
open PySem L2
local macro_rules | `(tactic| walk_at "x") => `(tactic| try simp only [wSs, wS, wE, wEs, wC, x_add, x_sub, x_addS, x_addT, x_addL, x_mul, x_mulS, x_mulL, x_div, x_mod, x_pow, x_lt, x_le, x_gt, x_ge, x_eqD, x_neD, x_in, x_notIn, x_is, x_isNot, x_eqI, x_eqS, x_eqB, x_isNN, x_isBN, x_isIN, x_isSN, x_isTN, x_isLN, x_isRN, x_isBB, x_lenS, x_lenT, x_lenL, x_lenP, x_sumP, x_appP, x_appTP, x_idxP, x_frzP, x_abs, x_intI, x_intB, x_max, x_allL, x_sumL, x_listL, x_listT, x_isi, x_truB, x_truI, x_truL, x_truT, x_truN, x_idxS, x_idxL, x_idxT, x_slS, x_slT, x_slL, x_it0L, x_it0T, x_it0S, x_it0C, x_it1, x_it2L, x_val, x_upd, x_newF, x_newT, x_nm, x_tp, x_tps, x_tp0, x_ite, x_iteD, x_ifD, x_some, x_some2, x_map, x_eqInt, i_N_tuple, i_N_list, i_N_bool, i_N_int, i_N_str, i_N_tl, i_B_tuple, i_B_list, i_B_bool, i_B_int, i_B_str, i_B_tl, i_I_tuple, i_I_list, i_I_bool, i_I_int, i_I_str, i_I_tl, i_S_tuple, i_S_list, i_S_bool, i_S_int, i_S_str, i_S_tl, i_T_tuple, i_T_list, i_T_bool, i_T_int, i_T_str, i_T_tl, i_L_tuple, i_L_list, i_L_bool, i_L_int, i_L_str, i_L_tl, x_pure, x_new, x_fn, List.getElem?_cons_zero, List.getElem?_cons_succ, List.set_cons_zero, List.set_cons_succ, Option.bind_some, List.length_cons, List.length_nil, Nat.reduceAdd, true_and, and_true, decide_eq_true_eq, Bool.not_eq_true', decide_eq_false_iff_not, Bool.not_false, Bool.not_true, Bool.false_eq_true, Bool.true_eq_false, if_true, if_false, ite_true, ite_false])
def n__law_is_name : List Str := ["_law_word", "_law_sign_here"]
def e__law_is_name_1 : ME := (.cmp .In (.var 1) (.cst (.str "abcdefghijklmnopqrstuvwxyz")))
def m__law_is_name : List MS := [(.ret (.and (.cmp2 .LtE .LtE (.cst (.int 1)) (.blt .len false [(.var 0)]) (.cst (.int 8))) (.blt .all false [(.lc 0 false (.nm 1) [(.var 0)] [] e__law_is_name_1)])))]
def n__law_sign : List Str := ["_law_number", "_law_other"]
def m__law_sign : List MS := [(.asg (.nm 1) (.cst (.str " !\"#$&'()*+,-./0123456789:;<=>?@ABCDEFGHIJKLMNOPQRSTUVWXYZ[\\]^_`{|}~\n"))), (.ite (.cmp .Eq (.bin .Mod false (.var 0) (.cst (.int 5))) (.cst (.int 0))) [(.ret (.idx (.var 1) (.bin .Mod false (.bin .FloorDiv false (.var 0) (.cst (.int 5))) (.blt .len false [(.var 1)]))))] []), (.ret (.idx (.cst (.str "abcdefghijklmnopqrstuvwxyz")) (.bin .Mod false (.bin .FloorDiv false (.var 0) (.cst (.int 5))) (.cst (.int 26)))))]
def n_law : List Str := ["_law_script", "_law_feed_here", "_law_word", "_law_k", "_law_sign_here"]
def b_law_1 : List MS := [(.asg (.nm 4) (.call "_law_sign" [(.idx (.var 1) (.bin .Add false (.cst (.int 1)) (.var 3)))])), (.ite (.and (.cmp .Eq (.bin .Mod false (.idx (.var 1) (.cst (.int 20))) (.cst (.int 2))) (.cst (.int 0))) (.cmp .NotEq (.var 3) (.bin .Mod false (.idx (.var 1) (.cst (.int 21))) (.cst (.int 10))))) [(.asg (.nm 4) (.call "_law_sign" [(.bin .Add false (.cst (.int 1)) (.bin .Mult false (.cst (.int 5)) (.idx (.var 1) (.bin .Add false (.cst (.int 1)) (.var 3)))))]))] []), (.asg (.nm 2) (.bin .Add false (.var 2) (.var 4)))]
def m_law : List MS := [(.asg (.nm 1) (.call "_law_feed" [(.var 0)])), (.asg (.nm 2) (.cst (.str ""))), (.for_ 1 (.nm 3) [(.bin .Mod false (.idx (.var 1) (.cst (.int 0))) (.cst (.int 11)))] b_law_1), (.ret (.call "_law_same" [(.call "is_name" [(.var 2)]), (.call "_law_is_name" [(.var 2)])]))]
def spLaw : DSp := fun ds S Q _ => ∃ ns : List Int, ds = [.scr ns] ∧ ns.length ≤ 63 ∧ S = (fun _ => none) ∧ ∀ S', Q (.bl true) S'
/-- an item of the feed -/
theorem fd_at {fs : List Int} (h : Feed fs) {i : Int} (h0 : 0 ≤ i) (h1 : i < 270) {P : D → Prop} (hp : ∀ v : Int, 0 ≤ v → v < 55440 → P (.int v)) : ∃ d, atI (fs.map .int) i = some d ∧ P d := by
  have hl := h.lo
  rw [atI_map, atI_nn h0 (by omega), List.getElem?_eq_getElem (by omega)]
  exact ⟨_, rfl, hp _ (h.nn _ (List.getElem_mem _)).1 (h.nn _ (List.getElem_mem _)).2⟩
theorem ok_law_is_name {G : Gc} : BodyOk G n__law_is_name 1 m__law_is_name (spPure fIsName) := by
  rintro ds S Q X - ⟨d, hf, q⟩
  unfold fIsName at hf
  split at hf
  · rename_i x
    split at hf
    · rename_i hx
      cases hf
      show wSs G _ m__law_is_name [some (.str x), none] S _
      unfold m__law_is_name
      walk_at "x"
      refine ⟨hx, ?_⟩
      unfold isNm at q
      by_cases h1 : 1 ≤ x.length
      · by_cases h2 : x.length ≤ 8
        · rw [decide_eq_true h1, decide_eq_true h2, Bool.true_and, Bool.true_and] at q
          rw [if_pos (by omega), if_pos (by omega)]
          refine lc_any (fun z => match z with
            | .str y => some (.bl (y.cps.toList.all fun c => decide (c ∈ lettersS.cps.toList)))
            | _ => none) ?_ trivial ?_ ?_
          · rw [List.length_map]; exact Nat.le_trans (m := 8) (by simpa [Str.length] using h2) (by decide)
          · intro z hz q' hq
            obtain ⟨c, hc, rfl⟩ := List.mem_map.mp hz
            unfold e__law_is_name_1
            walk_at "x"
            simp only [inR_sign, x_some]
            simpa [lettersS] using hq
          · refine ⟨_, ?_, q⟩
            rw [List.filterMap_map]
            rw [show (x.cps.toList.filterMap ((fun z => match z with
              | D.str y => some (D.bl (y.cps.toList.all fun c => decide (c ∈ lettersS.cps.toList)))
              | _ => none) ∘ fun c => D.str ⟨#[c]⟩)) = (x.cps.toList.map fun c => decide (c ∈ lettersS.cps.toList)).map .bl from ?_]
            · rw [allB_some, List.all_map]; rfl
            · rw [List.map_map, ← List.filterMap_eq_map]
              congr 1
              funext c
              simp
        · rw [decide_eq_false h2, Bool.false_and, Bool.and_false] at q
          rw [if_pos (by omega), if_neg (by omega)]
          rw [decide_eq_false (by omega)]
          exact q
      · rw [decide_eq_false h1, Bool.false_and] at q
        rw [if_neg (by omega)]
        exact q
    · cases hf
  · cases hf
/-- one sign, whichever -/
def spSign : DSp := fun ds S Q _ => ∃ n : Int, ds = [.int n] ∧ ∀ c, Q (.str ⟨#[c]⟩) S
theorem sign_at {x : Str} {n : Int} (h0 : 0 ≤ n) (h1 : n < x.length) {P : Nat → Prop} (h : ∀ c, P c) : ∃ a, atI x.cps.toList n = some a ∧ P a := by
  have e : x.cps.toList.length = x.length := by simp [Str.length]
  rw [atI_nn h0 (by omega), List.getElem?_eq_getElem (by omega)]
  exact ⟨_, rfl, h _⟩
theorem ok_sign {G : Gc} : BodyOk G n__law_sign 1 m__law_sign spSign := by
  rintro ds S Q X - ⟨n, rfl, q⟩
  show wSs G _ m__law_sign [some (.int n), none] S _
  unfold m__law_sign
  walk_at "x"
  refine ⟨by decide, ?_⟩
  split
  · have hz : 0 < (("" ++ " !\"#$&'()*+,-./0123456789:;<=>?@ABCDEFGHIJKLMNOPQRSTUVWXYZ[\\]^_`{|}~\n" : String) |> Str.ofString).length := by decide +kernel
    refine ⟨by decide, by decide +kernel, by decide +kernel, by decide +kernel, sign_at (Int.emod_nonneg _ ?_) (Int.emod_lt_of_pos _ ?_) q⟩
    · decide +kernel
    · decide +kernel
  · refine ⟨by decide, by decide, by decide +kernel, sign_at (Int.emod_nonneg _ (by decide)) ?_ q⟩
    have e : (Str.ofString "abcdefghijklmnopqrstuvwxyz").length = 26 := by decide +kernel
    rw [e]
    exact Int.emod_lt_of_pos _ (by decide)
theorem range_at {n i : Nat} {d : D} (h : ((List.range n).map fun (k : Nat) => D.int (k : Int))[i]? = some d) : d = .int i ∧ i < n := by
  rw [List.getElem?_map] at h
  obtain ⟨j, h1, h2⟩ := Option.map_eq_some_iff.mp h
  have hl : i < (List.range n).length := (List.getElem?_eq_some_iff.mp h1).1
  rw [List.getElem?_range (by simpa using hl)] at h1
  cases h1
  exact ⟨h2.symm, by simpa using hl⟩
theorem ok_k01 {G : Gc} (h1 : G.fn "_law_feed" = some (1, spFeed)) (h2 : G.fn "_law_sign" = some (1, spSign)) (h3 : G.fn "is_name" = some (1, spPure fIsName)) (h4 : G.fn "_law_is_name" = some (1, spPure fIsName)) (h5 : G.fn "_law_same" = some (2, spSame 0)) : BodyOk G n_law 1 m_law spLaw := by
  rintro ds S Q X - ⟨ns, rfl, hl, -, q⟩
  show wSs G _ m_law [some (.scr ns), none, none, none, none] S _
  unfold m_law
  walk_at "x"
  simp only [h1, x_fn, true_and]
  refine callW_of ⟨ns, rfl, fun fs F => ?_⟩
  unfold fdD
  walk_at "x"
  refine fd_at F (by decide) (by decide) fun v v0 v1 => ?_
  walk_at "x"
  refine ⟨by decide, ⟨by omega, by omega⟩, ?_⟩
  refine for_ruleN (fun i σ S' => ∃ x a b, x.length ≤ i ∧ σ = [some (.scr ns), some (.lst (fs.map .int)), some (.str x), a, b]) ⟨_, _, _, by decide +kernel, rfl⟩ ?_ ?_
  · rintro i d σ S' hd ⟨x, a, b, hx, rfl⟩
    refine ⟨trivial, ?_⟩
    obtain ⟨rfl, hi⟩ := range_at hd
    have hi : i < 11 := by omega
    unfold b_law_1
    walk_at "x"
    simp only [h2, x_fn, true_and]
    refine fd_at F (by omega) (by omega) fun u u0 u1 => ?_
    refine callW_of ⟨_, rfl, fun c => ?_⟩
    walk_at "x"
    refine fd_at F (by decide) (by decide) fun u' u0' u1' => ?_
    walk_at "x"
    refine ⟨by decide, ?_⟩
    have fin : ∀ y : Str, y.length = 1 → (x.length + y.length ≤ sizeLine ∧ ∃ x_1 a b, x_1.length ≤ i + 1 ∧ ([some (.scr ns), some (.lst (fs.map .int)), some (.str (x ++ y)), some (.int i), some (.str y)] : Env) = [some (.scr ns), some (.lst (fs.map .int)), some (.str x_1), a, b]) := by
      intro y hy
      refine ⟨by rw [hy]; exact Nat.le_trans (m := 12) (by omega) (by decide), x ++ y, _, _, ?_, rfl⟩
      have e : (x ++ y).length = x.length + y.length := by
        show (x.cps ++ y.cps).size = _
        rw [Array.size_append]; rfl
      rw [e, hy]; omega
    split
    · refine fd_at F (by decide) (by decide) fun u2 _ _ => ?_
      walk_at "x"
      refine ⟨by decide, ?_⟩
      split
      · refine fd_at F (by omega) (by omega) fun u3 _ _ => ?_
        walk_at "x"
        refine ⟨.inl (by decide), callW_of ⟨_, rfl, fun c => ?_⟩⟩
        walk_at "x"
        exact fin _ rfl
      · exact fin _ rfl
    · exact fin _ rfl
  · rintro σ S' ⟨x, a, b, hx, rfl⟩
    refine ⟨trivial, ?_⟩
    have hx : x.length ≤ sizeLine := by
      rw [List.length_map, List.length_range] at hx
      exact Nat.le_trans (m := 11) (by omega) (by decide)
    walk_at "x"
    simp only [h5, h3, h4, x_fn, true_and]
    walk_at "x"
    simp only [fIsName, if_pos hx]
    walk_at "x"
    refine callW_of ⟨_, _, rfl, rfl, rfl, Nat.le_refl _, ?_, ?_, ?_⟩
    · unfold top dsize; trivial
    · unfold dsize; trivial
    · have e : sameD (top S' (.bl (isNm x))) (.bl (isNm x)) = true := by unfold top sameD; simp
      rw [e]
      exact q _
end Mn

namespace Mn
open PySem L2
local macro_rules | `(tactic| walk_at "x") => `(tactic| try simp only [wSs, wS, wE, wEs, wC, x_add, x_sub, x_addS, x_addT, x_addL, x_mul, x_mulS, x_mulL, x_div, x_mod, x_pow, x_lt, x_le, x_gt, x_ge, x_eqD, x_neD, x_in, x_notIn, x_is, x_isNot, x_eqI, x_eqS, x_eqB, x_isNN, x_isBN, x_isIN, x_isSN, x_isTN, x_isLN, x_isRN, x_isBB, x_lenS, x_lenT, x_lenL, x_lenP, x_sumP, x_appP, x_appTP, x_idxP, x_frzP, x_abs, x_intI, x_intB, x_max, x_allL, x_sumL, x_listL, x_listT, x_isi, x_truB, x_truI, x_truL, x_truT, x_truN, x_idxS, x_idxL, x_idxT, x_slS, x_slT, x_slL, x_it0L, x_it0T, x_it0S, x_it0C, x_it1, x_it2L, x_val, x_upd, x_newF, x_newT, x_nm, x_tp, x_tps, x_tp0, x_ite, x_iteD, x_ifD, x_some, x_some2, x_map, x_eqInt, i_N_tuple, i_N_list, i_N_bool, i_N_int, i_N_str, i_N_tl, i_B_tuple, i_B_list, i_B_bool, i_B_int, i_B_str, i_B_tl, i_I_tuple, i_I_list, i_I_bool, i_I_int, i_I_str, i_I_tl, i_S_tuple, i_S_list, i_S_bool, i_S_int, i_S_str, i_S_tl, i_T_tuple, i_T_list, i_T_bool, i_T_int, i_T_str, i_T_tl, i_L_tuple, i_L_list, i_L_bool, i_L_int, i_L_str, i_L_tl, x_pure, x_new, x_fn, List.getElem?_cons_zero, List.getElem?_cons_succ, List.set_cons_zero, List.set_cons_succ, Option.bind_some, List.length_cons, List.length_nil, Nat.reduceAdd, true_and, and_true, decide_eq_true_eq, Bool.not_eq_true', decide_eq_false_iff_not, Bool.not_false, Bool.not_true, Bool.false_eq_true, Bool.true_eq_false, if_true, if_false, ite_true, ite_false])
def n__law_name : List Str := ["_law_pick", "_law_k", "_law_sign", "_law_at", "_law_words", "_law_some"]
def m__law_name : List MS := [(.asg (.nm 2) (.idx (.cst (.str "abcdefghijklmnopqrstuvwxyz")) (.bin .Mod false (.bin .Add false (.bin .FloorDiv false (.var 0) (.cst (.int 32))) (.bin .Mult false (.cst (.int 11)) (.var 1))) (.cst (.int 26))))), (.asg (.nm 3) (.bin .Mod false (.bin .FloorDiv false (.var 0) (.cst (.int 4))) (.cst (.int 8)))), (.asg (.nm 4) (.lst false [(.cst (.str "ask")), (.cst (.str "bound")), (.cst (.str "in")), (.cst (.str "fair")), (.cst (.str "free")), (.cst (.str "none")), (.cst (.str "house")), (.cst (.str "a")), (.cst (.str "paid"))])), (.asg (.nm 5) (.lst false [(.var 2), (.bin .Add false (.bin .Add false (.slU false (.cst (.str "mistral")) (.var 3)) (.var 2)) (.slL false (.cst (.str "mistral")) (.var 3))), (.bin .Mult false (.var 2) (.bin .Add false (.cst (.int 1)) (.bin .Mod false (.bin .Add false (.var 3) (.bin .Mult false (.cst (.int 3)) (.var 1))) (.cst (.int 8)))))])), (.ret (.idx (.bin .Add false (.var 5) (.lst false [(.idx (.var 4) (.bin .Mod false (.bin .Add false (.var 3) (.var 1)) (.cst (.int 9))))])) (.bin .Mod false (.var 0) (.cst (.int 4)))))]
/-! ### a list, frozen or in the store -/
section
variable {S : Sto} {o : D} {ds : List D} {i : Int}
theorem x_lenO (h : listOf S o = some ds) : bltR .len [o] S = some (.val (.int ds.length)) := by
  cases o with
  | lst es => cases h; rfl
  | ref a => exact x_lenR (lstAt_some h)
  | _ => cases h
theorem x_idxO (h : listOf S o = some ds) : idxR o (.int i) S = atI ds i := by
  cases o with
  | lst es => cases h; rfl
  | ref a => exact x_idxR (lstAt_some h)
  | _ => cases h
theorem x_slO (h : listOf S o = some ds) (lo hi : Option Int) : slcR o lo hi S = some (.newL (cutD ds lo hi)) := by
  cases o with
  | lst es => cases h; rfl
  | ref a =>
    show (match listOf S (.ref a) with | some ds => some (R.newL (cutD ds lo hi)) | none => none) = _
    rw [h]
  | _ => cases h
theorem x_itO (h : listOf S o = some ds) : ∃ g : Sto → Prop, itR o S = some (ds, g) ∧ g S := by
  cases o with
  | lst es => cases h; exact ⟨_, rfl, trivial⟩
  | ref a =>
    refine ⟨fun S' => S' a = some (.lst ds), ?_, lstAt_some h⟩
    show (lstAt S a).map _ = _
    rw [show lstAt S a = some ds from h]; rfl
  | _ => cases h
theorem x_it2O (h : listOf S o = some ds) : ∃ g : Sto → Prop, itS 2 [o] S = some (enmL 0 ds, g) ∧ g S := by
  obtain ⟨g, h1, h2⟩ := x_itO h
  refine ⟨g, ?_, h2⟩
  show (match listOf S o, itR o S with | some _, some its => some (enmL 0 its.1, its.2) | _, _ => none) = _
  rw [h, h1]
theorem enm_at : ∀ {ds : List D} {n i : Nat} {d : D}, (enmL n ds)[i]? = some d → ∃ e, ds[i]? = some e ∧ d = .tup [.int ((n + i : Nat) : Int), e]
  | [], n, i, d, h => by simp [enmL] at h
  | e :: ds, n, 0, d, h => by simp [enmL] at h; exact ⟨e, rfl, by rw [← h]; rfl⟩
  | e :: ds, n, i + 1, d, h => by
    simp only [enmL, List.getElem?_cons_succ] at h
    obtain ⟨e', h1, h2⟩ := enm_at h
    exact ⟨e', by simpa using h1, by rw [h2]; congr 4; omega⟩
theorem enm_len : ∀ {ds : List D} {n : Nat}, (enmL n ds).length = ds.length
  | [], _ => rfl
  | _ :: ds, n => by simp only [enmL, List.length_cons, enm_len]
end
/-! ### names -/
def letC (i : Int) : Nat := 97 + i.toNat
theorem let_at {i : Int} (h0 : 0 ≤ i) (h1 : i < 26) : atI (Str.ofString "abcdefghijklmnopqrstuvwxyz").cps.toList i = some (letC i) := by
  obtain ⟨n, rfl⟩ : ∃ n : Nat, i = n := ⟨i.toNat, by omega⟩
  have hn : n < 26 := by omega
  have all : ∀ n : Fin 26, atI (Str.ofString "abcdefghijklmnopqrstuvwxyz").cps.toList (n.val : Int) = some (letC (n.val : Int)) := by decide +kernel
  exact all ⟨n, hn⟩
def wordsA : List Str := ["ask", "bound", "in", "fair", "free", "none", "house", "a", "paid"]
/-- the k-th name of a pick -/
def nameOf (p k : Int) : Str :=
  let c : Str := ⟨#[letC ((p / 32 + 11 * k) % 26)]⟩
  let t : Int := p / 4 % 8
  if p % 4 = 0 then c else if p % 4 = 1 then cutS "mistral" none (some t) ++ c ++ cutS "mistral" (some t) none else if p % 4 = 2 then repS c (1 + (t + 3 * k) % 8).toNat else wordsA.getD ((t + k) % 9).toNat ""
def spName : DSp := fun ds S Q _ => ∃ p k : Int, ds = [.int p, .int k] ∧ Q (.str (nameOf p k)) S
theorem len_app (x y : Str) : (x ++ y).length = x.length + y.length := by
  show (x.cps ++ y.cps).size = _
  rw [Array.size_append]; rfl
theorem cut_len {t : Int} (h0 : 0 ≤ t) (h1 : t < 8) : (cutS "mistral" none (some t)).length ≤ 7 ∧ (cutS "mistral" (some t) none).length ≤ 7 := by
  obtain ⟨n, rfl⟩ : ∃ n : Nat, t = n := ⟨t.toNat, by omega⟩
  have all : ∀ n : Fin 8, (cutS "mistral" none (some (n.val : Int))).length ≤ 7 ∧ (cutS "mistral" (some (n.val : Int)) none).length ≤ 7 := by decide +kernel
  exact all ⟨n, by omega⟩
theorem name_ne (p k : Int) : nameOf p k ≠ "nobody" := by
  have t0 : 0 ≤ p / 4 % 8 := Int.emod_nonneg _ (by decide)
  have t1 : p / 4 % 8 < 8 := Int.emod_lt_of_pos _ (by decide)
  have w0 : 0 ≤ (p / 4 % 8 + k) % 9 := Int.emod_nonneg _ (by decide)
  have w1 : (p / 4 % 8 + k) % 9 < 9 := Int.emod_lt_of_pos _ (by decide)
  have nl : (Str.ofString "nobody").length = 6 := by decide +kernel
  intro e
  have el := congrArg Str.length e
  rw [nl] at el
  unfold nameOf at e el
  simp only at e el
  split at el
  · cases el
  · rename_i c0
    rw [if_neg c0] at e
    split at el
    · rw [len_app, len_app] at el
      obtain ⟨n, hn⟩ : ∃ n : Nat, p / 4 % 8 = n := ⟨(p / 4 % 8).toNat, by omega⟩
      have all : ∀ n : Fin 8, (cutS "mistral" none (some (n.val : Int))).length + (cutS "mistral" (some (n.val : Int)) none).length = 7 := by decide +kernel
      have a := all ⟨n, by omega⟩
      simp only at a
      rw [hn] at el
      have one : ∀ c : Nat, (⟨#[c]⟩ : Str).length = 1 := fun _ => rfl
      rw [one] at el
      omega
    · rename_i c1
      rw [if_neg c1] at e
      split at el
      · rename_i c2
        rw [if_pos c2] at e
        have h := congrArg (fun z : Str => z.cps.toList) e
        rw [repS_list] at h
        have hm : ∀ c ∈ (Str.ofString "nobody").cps.toList, c = letC ((p / 32 + 11 * k) % 26) := by
          intro c hc
          rw [← h] at hc
          obtain ⟨l, h1, h2⟩ := List.mem_flatten.mp hc
          rw [(List.mem_replicate.mp h1).2] at h2
          simpa using h2
        have e1 := hm 110 (by decide +kernel)
        have e2 := hm 111 (by decide +kernel)
        rw [← e1] at e2
        exact absurd e2 (by decide)
      · rename_i c2
        rw [if_neg c2] at e
        have all : ∀ n : Fin 9, wordsA.getD n.val "" ≠ "nobody" := by decide +kernel
        exact all ⟨((p / 4 % 8 + k) % 9).toNat, by omega⟩ e
theorem ok_name {G : Gc} : BodyOk G n__law_name 2 m__law_name spName := by
  rintro ds S Q X - ⟨p, k, rfl, q⟩
  show wSs G _ m__law_name [some (.int p), some (.int k), none, none, none, none] S _
  unfold m__law_name
  walk_at "x"
  refine ⟨by decide, .inl (by decide), by decide, by decide +kernel, ?_⟩
  rw [let_at (Int.emod_nonneg _ (by decide)) (Int.emod_lt_of_pos _ (by decide))]
  refine ⟨_, rfl, ?_⟩
  have hS : sizeLine = 16777216 := rfl
  have t0 : 0 ≤ p / 4 % 8 := Int.emod_nonneg _ (by decide)
  have t1 : p / 4 % 8 < 8 := Int.emod_lt_of_pos _ (by decide)
  have u0 : 0 ≤ (p / 4 % 8 + 3 * k) % 8 := Int.emod_nonneg _ (by decide)
  have u1 : (p / 4 % 8 + 3 * k) % 8 < 8 := Int.emod_lt_of_pos _ (by decide)
  have w0 : 0 ≤ (p / 4 % 8 + k) % 9 := Int.emod_nonneg _ (by decide)
  have w1 : (p / 4 % 8 + k) % 9 < 9 := Int.emod_lt_of_pos _ (by decide)
  have z0 : 0 ≤ p % 4 := Int.emod_nonneg _ (by decide)
  have z1 : p % 4 < 4 := Int.emod_lt_of_pos _ (by decide)
  obtain ⟨c1, c2⟩ := cut_len t0 t1
  have one : ∀ c : Nat, (⟨#[c]⟩ : Str).length = 1 := fun _ => rfl
  refine ⟨by decide, by decide, by decide, by decide +kernel, by rw [one]; omega, by decide +kernel, by rw [len_app, one]; omega, .inl (by decide), by decide, ⟨by omega, by omega, by rw [one]; decide⟩, by decide, by decide, ?_⟩
  have hw : ∀ n : Fin 9, atI [D.str (Str.ofString "ask"), D.str (Str.ofString "bound"), D.str (Str.ofString "in"), D.str (Str.ofString "fair"), D.str (Str.ofString "free"), D.str (Str.ofString "none"), D.str (Str.ofString "house"), D.str (Str.ofString "a"), D.str (Str.ofString "paid")] (n.val : Int) = some (.str (wordsA.getD n.val "")) := by
    intro n
    obtain ⟨n, hn⟩ := n
    rcases n with _ | _ | _ | _ | _ | _ | _ | _ | _ | n
    all_goals first | rfl | (exfalso; omega)
  have hw := hw ⟨((p / 4 % 8 + k) % 9).toNat, by omega⟩
  simp only [Int.toNat_of_nonneg w0] at hw
  rw [hw]
  refine ⟨_, rfl, by decide, by decide, by decide, ?_⟩
  unfold nameOf at q
  have hz : p % 4 = 0 ∨ p % 4 = 1 ∨ p % 4 = 2 ∨ p % 4 = 3 := by omega
  rcases hz with e | e | e | e
  · rw [e] at q ⊢
    exact ⟨_, rfl, q⟩
  · rw [e] at q ⊢
    exact ⟨_, rfl, q⟩
  · rw [e] at q ⊢
    exact ⟨_, rfl, q⟩
  · rw [e] at q ⊢
    exact ⟨_, rfl, q⟩
end Mn

namespace Mn
open PySem L2
local macro_rules | `(tactic| walk_at "x") => `(tactic| try simp only [wSs, wS, wE, wEs, wC, x_add, x_sub, x_addS, x_addT, x_addL, x_mul, x_mulS, x_mulL, x_div, x_mod, x_pow, x_lt, x_le, x_gt, x_ge, x_eqD, x_neD, x_in, x_notIn, x_is, x_isNot, x_eqI, x_eqS, x_eqB, x_isNN, x_isBN, x_isIN, x_isSN, x_isTN, x_isLN, x_isRN, x_isBB, x_lenS, x_lenT, x_lenL, x_lenP, x_sumP, x_appP, x_appTP, x_idxP, x_frzP, x_abs, x_intI, x_intB, x_max, x_allL, x_sumL, x_listL, x_listT, x_isi, x_truB, x_truI, x_truL, x_truT, x_truN, x_idxS, x_idxL, x_idxT, x_slS, x_slT, x_slL, x_it0L, x_it0T, x_it0S, x_it0C, x_it1, x_it2L, x_val, x_upd, x_newF, x_newT, x_nm, x_tp, x_tps, x_tp0, x_ite, x_iteD, x_ifD, x_some, x_some2, x_map, x_eqInt, i_N_tuple, i_N_list, i_N_bool, i_N_int, i_N_str, i_N_tl, i_B_tuple, i_B_list, i_B_bool, i_B_int, i_B_str, i_B_tl, i_I_tuple, i_I_list, i_I_bool, i_I_int, i_I_str, i_I_tl, i_S_tuple, i_S_list, i_S_bool, i_S_int, i_S_str, i_S_tl, i_T_tuple, i_T_list, i_T_bool, i_T_int, i_T_str, i_T_tl, i_L_tuple, i_L_list, i_L_bool, i_L_int, i_L_str, i_L_tl, x_pure, x_new, x_fn, List.getElem?_cons_zero, List.getElem?_cons_succ, List.set_cons_zero, List.set_cons_succ, Option.bind_some, List.length_cons, List.length_nil, Nat.reduceAdd, true_and, and_true, decide_eq_true_eq, Bool.not_eq_true', decide_eq_false_iff_not, Bool.not_false, Bool.not_true, Bool.false_eq_true, Bool.true_eq_false, if_true, if_false, ite_true, ite_false])
/-! ### rows -/
abbrev Row := List (Str × Bool)
def plD (q : Str × Bool) : D := .tup [.str q.1, .bl q.2]
def rowD (r : Row) : List D := r.map plD
/-- the first place where the house is bound; the row's length, if none -/
def rch : Row → Str → Nat
  | [], _ => 0
  | (n, b) :: r, h => if b = true ∧ n = h then 0 else rch r h + 1
theorem rch_le : ∀ (r : Row) (h : Str), rch r h ≤ r.length
  | [], _ => Nat.le_refl _
  | (n, b) :: r, h => by
    unfold rch
    split
    · exact Nat.zero_le _
    · exact Nat.succ_le_succ (rch_le r h)
theorem rch_at : ∀ {r : Row} {h : Str} {i : Nat}, (∀ j, j < i → ∀ q, r[j]? = some q → ¬ (q.2 = true ∧ q.1 = h)) → (r[i]? = some (h, true)) → rch r h = i
  | [], h, i, _, e => by simp at e
  | (n, b) :: r, h, 0, _, e => by
    simp at e
    unfold rch
    rw [if_pos ⟨e.2, e.1⟩]
  | (n, b) :: r, h, i + 1, a, e => by
    have n0 := a 0 (Nat.succ_pos _) (n, b) rfl
    unfold rch
    rw [if_neg n0, rch_at (r := r) (h := h) (i := i) (fun j hj q hq => a (j + 1) (Nat.succ_lt_succ hj) q (by simpa using hq)) (by simpa using e)]
theorem rch_end : ∀ {r : Row} {h : Str}, (∀ j, j < r.length → ∀ q, r[j]? = some q → ¬ (q.2 = true ∧ q.1 = h)) → rch r h = r.length
  | [], h, _ => rfl
  | (n, b) :: r, h, a => by
    have n0 := a 0 (Nat.succ_pos _) (n, b) rfl
    unfold rch
    rw [if_neg n0, rch_end (r := r) (h := h) (fun j hj q hq => a (j + 1) (Nat.succ_lt_succ hj) q (by simpa using hq))]
    rfl
theorem rowD_at {r : Row} {i : Nat} {d : D} (h : (rowD r)[i]? = some d) : ∃ n b, r[i]? = some (n, b) ∧ d = .tup [.str n, .bl b] := by
  unfold rowD at h
  rw [List.getElem?_map] at h
  obtain ⟨⟨n, b⟩, h1, h2⟩ := Option.map_eq_some_iff.mp h
  exact ⟨n, b, h1, h2.symm⟩
theorem rowD_len {r : Row} : (rowD r).length = r.length := by unfold rowD; rw [List.length_map]
/-! ### equality of data -/
mutual
theorem deq_refl : ∀ d : D, PyData.eqv (toPy d) (toPy d) = true
  | .non => rfl
  | .bl b => by unfold toPy PyData.eqv; simp
  | .int b => by unfold toPy PyData.eqv; simp
  | .str b => by unfold toPy PyData.eqv; simp
  | .ty _ => rfl
  | .ref _ => rfl
  | .scr _ => rfl
  | .tup ds => by unfold toPy PyData.eqv; exact deqs_refl ds
  | .lst ds => by unfold toPy PyData.eqv; exact deqs_refl ds
theorem deqs_refl : ∀ ds : List D, PyData.eqvAll (toPys ds) (toPys ds) = true
  | [] => rfl
  | d :: ds => by unfold toPys PyData.eqvAll; rw [deq_refl d, deqs_refl ds]; rfl
end
theorem x_eqSelf {S : Sto} {d : D} (h : pureD d = true) (hd : dep d ≤ 60) : eqR d d S = some true := by
  unfold eqR
  rw [top_pure h, g?_pos ⟨h, h, by omega⟩]
  exact congrArg some (deq_refl d)
theorem x_eqPl {S : Sto} {n h : Str} {b c : Bool} : eqR (.tup [.str n, .bl b]) (.tup [.str h, .bl c]) S = some (decide (n = h) && (b == c)) := by
  unfold eqR
  rw [g?_pos ⟨rfl, rfl, show min 1 1 ≤ 60 by decide⟩]
  congr 1
  show PyData.eqv (.tuple [.str n, .bool b]) (.tuple [.str h, .bool c]) = _
  simp [PyData.eqv, PyData.eqvAll]
  rfl
theorem row_pure : ∀ r : Row, pureDs (rowD r) = true ∧ deps (rowD r) ≤ 1 ∧ dsizes (rowD r)
  | [] => ⟨rfl, Nat.zero_le _, by unfold rowD dsizes; exact trivial⟩
  | (n, b) :: r => by
    obtain ⟨h1, h2, h3⟩ := row_pure r
    have e : rowD ((n, b) :: r) = .tup [.str n, .bl b] :: rowD r := rfl
    rw [e]
    refine ⟨by unfold pureDs; rw [h1]; rfl, ?_, ?_⟩
    · unfold deps
      have : dep (.tup [.str n, .bl b]) = 1 := rfl
      omega
    · unfold dsizes
      refine ⟨?_, h3⟩
      unfold dsize
      refine ⟨show 2 ≤ 1000 by decide, ?_⟩
      unfold dsizes dsizes dsizes dsize
      exact ⟨trivial, trivial, trivial⟩
def spReach : DSp := fun ds S Q _ => ∃ o r h, ds = [o, .str h] ∧ listOf S o = some (rowD r) ∧ (r.length : Int) < 2 ^ 62 ∧ Q (.int (rch r h)) S
def n_reach : List Str := ["row", "house", "place", "name", "bound"]
def b_reach_1 : List MS := [(.ite (.and (.var 4) (.cmp .Eq (.var 3) (.var 1))) [(.ret (.var 2))] [])]
def m_reach : List MS := [(.for_ 2 (.tp [(.nm 2), (.tp [(.nm 3), (.nm 4)])]) [(.var 0)] b_reach_1), (.ret (.blt .len false [(.var 0)]))]
def n__law_reach : List Str := ["_law_row_here", "_law_house", "_law_place"]
def b__law_reach_1 : List MS := [(.ite (.cmp .Eq (.idx (.var 0) (.var 2)) (.tup [(.var 1), (.cst (.bl true))])) [(.ret (.var 2))] [])]
def m__law_reach : List MS := [(.for_ 1 (.nm 2) [(.blt .len false [(.var 0)])] b__law_reach_1), (.ret (.blt .len false [(.var 0)]))]
def n__law_row : List Str := ["_law_feed_here", "_law_many", "_law_row_here", "_law_k"]
def b__law_row_1 : List MS := [(.exp (.bm .append false (.var 2) [(.tup [(.call "_law_name" [(.idx (.var 0) (.cst (.int 2))), (.bin .Mod false (.idx (.var 0) (.bin .Add false (.cst (.int 4)) (.var 3))) (.var 1))]), (.cmp .Gt (.bin .Mod false (.idx (.var 0) (.bin .Add false (.cst (.int 13)) (.var 3))) (.cst (.int 4))) (.cst (.int 0)))])]))]
def m__law_row : List MS := [(.asg (.nm 1) (.bin .Add false (.cst (.int 1)) (.bin .Mod false (.idx (.var 0) (.cst (.int 0))) (.cst (.int 9))))), (.asg (.nm 2) (.lst true [])), (.for_ 1 (.nm 3) [(.bin .Add false (.cst (.int 2)) (.bin .Mod false (.idx (.var 0) (.cst (.int 3))) (.cst (.int 7))))] b__law_row_1), (.ret (.frz (.var 2)))]
theorem ok_reach {G : Gc} : BodyOk G n_reach 2 m_reach spReach := by
  rintro ds S Q X - ⟨o, r, h, rfl, hl, hz, q⟩
  show wSs G _ m_reach [some o, some (.str h), none, none, none] S _
  unfold m_reach
  obtain ⟨g, h1, h2⟩ := x_it2O hl
  walk_at "x"
  simp only [h1, x_some]
  refine for_rule (fun i σ S' => S' = S ∧ (∃ a b c, σ = [some o, some (.str h), a, b, c]) ∧ ∀ j, j < i → ∀ q, r[j]? = some q → ¬ (q.2 = true ∧ q.1 = h)) ⟨rfl, ⟨_, _, _, rfl⟩, fun j hj => absurd hj (Nat.not_lt_zero _)⟩ ?_ ?_
  · rintro i d σ S' hd ⟨rfl, ⟨a, b, c, rfl⟩, hall⟩
    refine ⟨h2, ?_⟩
    obtain ⟨e, he, rfl⟩ := enm_at hd
    obtain ⟨n, b, hr, rfl⟩ := rowD_at he
    unfold b_reach_1
    walk_at "x"
    rw [Nat.zero_add]
    have step : ¬ (b = true ∧ n = h) → ∀ j, j < i + 1 → ∀ q, r[j]? = some q → ¬ (q.2 = true ∧ q.1 = h) := by
      intro hn j hj q hq
      rcases Nat.lt_succ_iff_lt_or_eq.mp hj with z | rfl
      · exact hall j z q hq
      · rw [hr] at hq; cases hq; exact hn
    by_cases hb : b = true
    · by_cases hq : n = h
      · subst hb hq
        rw [rch_at hall hr] at q
        rw [if_pos rfl, if_pos rfl]
        exact q
      · rw [if_pos hb, if_neg hq]
        exact ⟨⟨_, _, _, rfl⟩, step fun z => hq z.2⟩
    · rw [if_neg hb, if_neg hb]
      exact ⟨⟨_, _, _, rfl⟩, step fun z => hb z.1⟩
  · rintro σ S' ⟨rfl, ⟨a, b, c, rfl⟩, hall⟩
    refine ⟨h2, ?_⟩
    rw [enm_len, rowD_len] at hall
    walk_at "x"
    simp only [x_lenO hl, x_some, x_val, rowD_len]
    rw [rch_end hall] at q
    exact q
theorem ok_law_reach {G : Gc} : BodyOk G n__law_reach 2 m__law_reach spReach := by
  rintro ds S Q X - ⟨o, r, h, rfl, hl, hz, q⟩
  show wSs G _ m__law_reach [some o, some (.str h), none] S _
  unfold m__law_reach
  walk_at "x"
  simp only [x_lenO hl, x_some, x_val, rowD_len]
  walk_at "x"
  have hr8 : (r.length : Int) < 2 ^ 62 := hz
  refine ⟨⟨by omega, hr8⟩, ?_⟩
  refine for_ruleN (fun i σ S' => S' = S ∧ (∃ a, σ = [some o, some (.str h), a]) ∧ ∀ j, j < i → ∀ q, r[j]? = some q → ¬ (q.2 = true ∧ q.1 = h)) ⟨rfl, ⟨_, rfl⟩, fun j hj => absurd hj (Nat.not_lt_zero _)⟩ ?_ ?_
  · rintro i d σ S' hd ⟨rfl, ⟨a, rfl⟩, hall⟩
    obtain ⟨rfl, hi⟩ := range_at hd
    rw [Int.toNat_natCast] at hi
    refine ⟨trivial, ?_⟩
    obtain ⟨⟨n, b⟩, hr⟩ : ∃ q, r[i]? = some q := ⟨_, List.getElem?_eq_getElem hi⟩
    have hat : atI (rowD r) (i : Int) = some (.tup [.str n, .bl b]) := by
      rw [atI_nn (by omega) (by rw [rowD_len]; omega), Int.toNat_natCast]
      unfold rowD
      rw [List.getElem?_map, hr]
      rfl
    unfold b__law_reach_1
    walk_at "x"
    simp only [x_idxO hl, hat, x_some, x_eqPl, beq_true]
    refine ⟨by decide, ?_⟩
    have step : ¬ (b = true ∧ n = h) → ∀ j, j < i + 1 → ∀ q, r[j]? = some q → ¬ (q.2 = true ∧ q.1 = h) := by
      intro hn j hj q hq
      rcases Nat.lt_succ_iff_lt_or_eq.mp hj with z | rfl
      · exact hall j z q hq
      · rw [hr] at hq; cases hq; exact hn
    by_cases hc : b = true ∧ n = h
    · obtain ⟨rfl, rfl⟩ := hc
      rw [rch_at hall hr] at q
      rw [if_pos (by simp)]
      exact q
    · rw [if_neg (by simpa [and_comm] using hc)]
      exact ⟨⟨_, rfl⟩, step hc⟩
  · rintro σ S' ⟨rfl, ⟨a, rfl⟩, hall⟩
    refine ⟨trivial, ?_⟩
    rw [List.length_map, List.length_range, Int.toNat_natCast] at hall
    walk_at "x"
    simp only [x_lenO hl, x_some, x_val, rowD_len]
    rw [rch_end hall] at q
    exact q
def RowOk (r : Row) : Prop := 2 ≤ r.length ∧ r.length ≤ 8 ∧ ∀ q ∈ r, ∃ p k : Int, q.1 = nameOf p k
/-- the row drawn of a feed -/
def spRow : DSp := fun ds S Q _ => ∃ fs, ds = [fdD fs] ∧ Feed fs ∧ ∀ r, RowOk r → Q (.lst (rowD r)) S
theorem ok_row {G : Gc} (h1 : G.fn "_law_name" = some (2, spName)) : BodyOk G n__law_row 1 m__law_row spRow := by
  rintro ds S Q X - ⟨fs, rfl, F, q⟩
  show wSs G _ m__law_row [some (fdD fs), none, none, none] S _
  unfold m__law_row fdD
  walk_at "x"
  refine fd_at F (by decide) (by decide) fun v v0 v1 => ?_
  walk_at "x"
  refine ⟨by decide, Nat.zero_le _, fun p hp => ?_⟩
  refine fd_at F (by decide) (by decide) fun v3 _ _ => ?_
  walk_at "x"
  refine ⟨by decide, ⟨by omega, by omega⟩, ?_⟩
  refine for_ruleN (fun i σ S' => ∃ r c, (r.length = i ∧ ∀ q ∈ r, ∃ p k : Int, q.1 = nameOf p k) ∧ S' = put S p (.lst (rowD r)) ∧ σ = [some (.lst (fs.map .int)), some (.int (1 + v % 9)), some (.ref p), c]) ⟨[], _, ⟨rfl, fun _ h => nomatch h⟩, rfl, rfl⟩ ?_ ?_
  · rintro i d σ S' hd ⟨r, c, ⟨hr, hn⟩, rfl, rfl⟩
    obtain ⟨rfl, hi⟩ := range_at hd
    have hi : i < 9 := by omega
    refine ⟨trivial, ?_⟩
    unfold b__law_row_1
    walk_at "x"
    simp only [h1, x_fn, true_and]
    refine fd_at F (by decide) (by decide) fun v2 _ _ => fd_at F (by omega) (by omega) fun v4 _ _ => ?_
    walk_at "x"
    refine ⟨by omega, callW_of ⟨_, _, rfl, fd_at F (by omega) (by omega) fun v13 _ _ => ?_⟩⟩
    walk_at "x"
    refine ⟨by decide, by decide, by rw [rowD_len]; exact Nat.lt_of_lt_of_le (m := 10) (by omega) (by decide), r ++ [(nameOf v2 (v4 % (1 + v % 9)), decide (0 < v13 % 4))], _, ⟨by rw [List.length_append]; simp; omega, fun q hq => ?_⟩, ?_, rfl⟩
    · rcases List.mem_append.mp hq with z | z
      · exact hn q z
      · obtain rfl := List.mem_singleton.mp z; exact ⟨_, _, rfl⟩
    unfold rowD plD
    rw [List.map_append]
    rfl
  · rintro σ S' ⟨r, c, ⟨hr, hn⟩, rfl, rfl⟩
    refine ⟨trivial, ?_⟩
    walk_at "x"
    rw [rm_put hp]
    rw [List.length_map, List.length_range] at hr
    exact q r ⟨by omega, by omega, hn⟩
end Mn

namespace Mn
open PySem L2
local macro_rules | `(tactic| walk_at "x") => `(tactic| try simp only [wSs, wS, wE, wEs, wC, x_add, x_sub, x_addS, x_addT, x_addL, x_mul, x_mulS, x_mulL, x_div, x_mod, x_pow, x_lt, x_le, x_gt, x_ge, x_eqD, x_neD, x_in, x_notIn, x_is, x_isNot, x_eqI, x_eqS, x_eqB, x_isNN, x_isBN, x_isIN, x_isSN, x_isTN, x_isLN, x_isRN, x_isBB, x_lenS, x_lenT, x_lenL, x_lenP, x_sumP, x_appP, x_appTP, x_idxP, x_frzP, x_abs, x_intI, x_intB, x_max, x_allL, x_sumL, x_listL, x_listT, x_isi, x_truB, x_truI, x_truL, x_truT, x_truN, x_idxS, x_idxL, x_idxT, x_slS, x_slT, x_slL, x_it0L, x_it0T, x_it0S, x_it0C, x_it1, x_it2L, x_val, x_upd, x_newF, x_newT, x_nm, x_tp, x_tps, x_tp0, x_ite, x_iteD, x_ifD, x_some, x_some2, x_map, x_eqInt, i_N_tuple, i_N_list, i_N_bool, i_N_int, i_N_str, i_N_tl, i_B_tuple, i_B_list, i_B_bool, i_B_int, i_B_str, i_B_tl, i_I_tuple, i_I_list, i_I_bool, i_I_int, i_I_str, i_I_tl, i_S_tuple, i_S_list, i_S_bool, i_S_int, i_S_str, i_S_tl, i_T_tuple, i_T_list, i_T_bool, i_T_int, i_T_str, i_T_tl, i_L_tuple, i_L_list, i_L_bool, i_L_int, i_L_str, i_L_tl, x_pure, x_new, x_fn, List.getElem?_cons_zero, List.getElem?_cons_succ, List.set_cons_zero, List.set_cons_succ, Option.bind_some, List.length_cons, List.length_nil, Nat.reduceAdd, true_and, and_true, decide_eq_true_eq, Bool.not_eq_true', decide_eq_false_iff_not, Bool.not_false, Bool.not_true, Bool.false_eq_true, Bool.true_eq_false, if_true, if_false, ite_true, ite_false])
def n_askable : List Str := ["row", "holder", "protested", "found", "place", "name", "bound"]
def b_askable_1 : List MS := [(.ite (.and (.var 6) (.or (.var 2) (.cmp .Eq (.var 4) (.cst (.int 0))))) [(.exp (.bm .append false (.var 3) [(.var 4)]))] [])]
def m_askable : List MS := [(.asg (.nm 3) (.lst true [])), (.for_ 2 (.tp [(.nm 4), (.tp [(.nm 5), (.nm 6)])]) [(.slU false (.var 0) (.call "reach" [(.var 0), (.var 1)]))] b_askable_1), (.ret (.var 3))]
def n__law_askable : List Str := ["_law_row_here", "_law_holder", "_law_protested", "_law_before", "_law_place"]
def c__law_askable_1 : List ME := [(.and (.idx (.idx (.var 3) (.var 4)) (.cst (.int 1))) (.or (.var 2) (.cmp .Eq (.var 4) (.cst (.int 0)))))]
def e__law_askable_2 : ME := (.var 4)
def m__law_askable : List MS := [(.asg (.nm 3) (.slU false (.var 0) (.call "_law_reach" [(.var 0), (.var 1)]))), (.ret (.lc 1 false (.nm 4) [(.blt .len false [(.var 3)])] c__law_askable_1 e__law_askable_2))]
/-! ### the places that may be asked -/
def mayAsk (r : Row) (p : Bool) (j : Nat) : Bool := match r[j]? with
  | some (_, b) => b && (p || decide (j = 0))
  | none => false
def asksTo (r : Row) (p : Bool) (n : Nat) : List Nat := (List.range n).filter (mayAsk r p)
def asks (r : Row) (h : Str) (p : Bool) : List Nat := asksTo r p (rch r h)
def natsD (l : List Nat) : List D := l.map fun (j : Nat) => .int (j : Int)
theorem asksTo_succ (r : Row) (p : Bool) (n : Nat) : asksTo r p (n + 1) = asksTo r p n ++ (if mayAsk r p n = true then [n] else []) := by
  unfold asksTo
  rw [List.range_succ, List.filter_append]
  congr 1
  simp only [List.filter_cons, List.filter_nil]
theorem asksTo_len (r : Row) (p : Bool) (n : Nat) : (asksTo r p n).length ≤ n := by
  have := List.length_filter_le (mayAsk r p) (List.range n)
  rw [List.length_range] at this
  exact this
theorem cut_to {ds : List D} {n : Nat} (h : n ≤ ds.length) : cutD ds none (some (n : Int)) = ds.take n := by
  unfold cutD
  have e0 : HT.sIx ds.length 0 none = 0 := rfl
  have e1 : HT.sIx ds.length ds.length (some (n : Int)) = n := by
    rw [HT.sIx_nat]
    omega
  rw [e0, e1]
  simp
def spAsk : DSp := fun ds S Q _ => ∃ o r h p, ds = [o, .str h, .bl p] ∧ listOf S o = some (rowD r) ∧ r.length ≤ 1000 ∧ ∀ q, S q = none → Q (.ref q) (put S q (.lst (natsD (asks r h p))))
def spLawAsk : DSp := fun ds S Q _ => ∃ o r h p, ds = [o, .str h, .bl p] ∧ listOf S o = some (rowD r) ∧ r.length ≤ 1000 ∧ Q (.lst (natsD (asks r h p))) S
theorem ok_askable {G : Gc} (h1 : G.fn "reach" = some (2, spReach)) : BodyOk G n_askable 3 m_askable spAsk := by
  rintro ds S Q X - ⟨o, r, h, p, rfl, hl, hz, q⟩
  show wSs G _ m_askable [some o, some (.str h), some (.bl p), none, none, none, none] S _
  unfold m_askable
  walk_at "x"
  refine ⟨Nat.zero_le _, fun l hp => ?_⟩
  simp only [h1, x_fn, true_and]
  have hl' : listOf (put S l (.lst [])) o = some (rowD r) := by
    cases o with
    | lst es => exact hl
    | ref a =>
      have ha := lstAt_some (show lstAt S a = some (rowD r) from hl)
      have n : a ≠ l := fun e => by subst e; rw [hp] at ha; cases ha
      exact lstAt_of (by rw [put_ne n]; exact ha)
    | _ => cases hl
  refine callW_of ⟨o, r, h, rfl, hl', by omega, ?_⟩
  walk_at "x"
  simp only [x_slO hl', x_some, x_newF, cut_to (ds := rowD r) (n := rch r h) (by rw [rowD_len]; exact rch_le r h), x_it2L]
  refine for_rule (fun i σ S' => S' = put S l (.lst (natsD (asksTo r p i))) ∧ ∃ a b c, σ = [some o, some (.str h), some (.bl p), some (.ref l), a, b, c]) ⟨rfl, _, _, _, rfl⟩ ?_ ?_
  · rintro i d σ S' hd ⟨rfl, a, b, c, rfl⟩
    refine ⟨trivial, ?_⟩
    have hi : i < ((rowD r).take (rch r h)).length := by
      have := (List.getElem?_eq_some_iff.mp hd).1
      rwa [enm_len] at this
    obtain ⟨e, he, rfl⟩ := enm_at hd
    have he : (rowD r)[i]? = some e := by
      rw [List.getElem?_take] at he
      split at he
      · exact he
      · cases he
    obtain ⟨n, b, hr, rfl⟩ := rowD_at he
    have hl : i < r.length := (List.getElem?_eq_some_iff.mp hr).1
    have hm : mayAsk r p i = (b && (p || decide (i = 0))) := by unfold mayAsk; rw [hr]
    unfold b_askable_1
    walk_at "x"
    rw [Nat.zero_add]
    rw [asksTo_succ, hm]
    have hlen : (natsD (asksTo r p i)).length < sizeLine := by
      unfold natsD
      rw [List.length_map]
      exact Nat.lt_of_le_of_lt (asksTo_len r p i) (Nat.lt_of_lt_of_le (m := 1000) (by omega) (by decide))
    have happ : natsD (asksTo r p i ++ [i]) = natsD (asksTo r p i) ++ [.int i] := by unfold natsD; rw [List.map_append]; rfl
    cases b with
    | false => simp
    | true =>
      cases p with
      | true => simp [hlen, happ]
      | false =>
        by_cases h0 : i = 0
        · subst h0
          simp [hlen, happ] at *
        · simp [h0, show ¬ (i : Int) = 0 by omega]
  · rintro σ S' ⟨rfl, a, b, c, rfl⟩
    refine ⟨trivial, ?_⟩
    rw [enm_len, List.length_take, rowD_len, Nat.min_eq_left (rch_le r h)]
    walk_at "x"
    exact q l hp
theorem fm_filter {α : Type} {F : D → Option D} {g h : α → D} {c : α → Bool} : ∀ (l : List α), (∀ x, F (g x) = if c x = true then some (h x) else none) → (l.map g).filterMap F = (l.filter c).map h
  | [], _ => rfl
  | x :: l, H => by
    rw [List.map_cons, List.filterMap_cons, H x, List.filter_cons]
    cases c x with
    | true => simp only [if_true, List.map_cons, fm_filter l H]
    | false => simp only [Bool.false_eq_true, if_false, fm_filter l H]
theorem asks_le (r : Row) (h : Str) (p : Bool) : (asks r h p).length ≤ r.length := Nat.le_trans (asksTo_len r p _) (rch_le r h)
theorem nats_pure : ∀ l : List Nat, pureDs (natsD l) = true ∧ deps (natsD l) = 0 ∧ dsizes (natsD l)
  | [] => ⟨rfl, rfl, by unfold natsD dsizes; exact trivial⟩
  | j :: l => by
    obtain ⟨h1, h2, h3⟩ := nats_pure l
    have e : natsD (j :: l) = .int (j : Int) :: natsD l := rfl
    rw [e]
    refine ⟨by unfold pureDs; rw [h1]; rfl, by unfold deps; rw [h2]; rfl, ?_⟩
    unfold dsizes dsize
    exact ⟨trivial, h3⟩
theorem top_put {S : Sto} {a : Addr} {ds : List D} : top (put S a (.lst ds)) (.ref a) = .lst ds := by
  show (match lstAt (put S a (.lst ds)) a with | some ds => D.lst ds | none => .ref a) = _
  rw [lstAt_of put_same]
mutual
theorem same_refl : ∀ d : D, pureD d = true → sameD d d = true
  | .non, _ => by unfold sameD; rfl
  | .bl b, _ => by unfold sameD; simp
  | .int b, _ => by unfold sameD; simp
  | .str b, _ => by unfold sameD; simp
  | .ty _, h => by unfold pureD at h; cases h
  | .ref _, h => by unfold pureD at h; cases h
  | .scr _, h => by unfold pureD at h; cases h
  | .tup ds, h => by unfold pureD at h; unfold sameD; exact sames_refl ds h
  | .lst ds, h => by unfold pureD at h; unfold sameD; exact sames_refl ds h
theorem sames_refl : ∀ ds : List D, pureDs ds = true → sameDs ds ds = true
  | [], _ => by unfold sameDs; rfl
  | d :: ds, h => by unfold pureDs at h; unfold sameDs; rw [same_refl d (and2 h).1, sames_refl ds (and2 h).2]; rfl
end
theorem ok_law_askable {G : Gc} (h1 : G.fn "_law_reach" = some (2, spReach)) : BodyOk G n__law_askable 3 m__law_askable spLawAsk := by
  rintro ds S Q X - ⟨o, r, h, p, rfl, hl, hz, q⟩
  show wSs G _ m__law_askable [some o, some (.str h), some (.bl p), none, none] S _
  unfold m__law_askable
  walk_at "x"
  simp only [h1, x_fn, true_and]
  refine callW_of ⟨o, r, h, rfl, hl, by omega, ?_⟩
  have hc := rch_le r h
  have hlt : ((rowD r).take (rch r h)).length = rch r h := by rw [List.length_take, rowD_len]; omega
  walk_at "x"
  simp only [x_slO hl, x_some, x_newF, cut_to (ds := rowD r) (n := rch r h) (by rw [rowD_len]; exact hc), x_lenL, x_val, hlt]
  walk_at "x"
  refine ⟨⟨by omega, by omega⟩, ?_⟩
  rw [Int.toNat_natCast]
  refine lc_any (fun z => match z with
    | .int j => if mayAsk r p j.toNat = true then some (.int j) else none
    | _ => none) ?_ trivial ?_ ?_
  · rw [List.length_map, List.length_range]
    exact Nat.le_trans (m := 1000) (by omega) (by decide)
  · intro z hz' q' hq
    obtain ⟨j, hj, rfl⟩ := List.mem_map.mp hz'
    have hj : j < rch r h := List.mem_range.mp hj
    obtain ⟨⟨n, b⟩, hr⟩ : ∃ q, r[j]? = some q := ⟨_, List.getElem?_eq_getElem (by omega)⟩
    have hm : mayAsk r p j = (b && (p || decide (j = 0))) := by unfold mayAsk; rw [hr]
    have hat : atI ((rowD r).take (rch r h)) (j : Int) = some (.tup [.str n, .bl b]) := by
      rw [atI_nn (by omega) (by rw [hlt]; omega), Int.toNat_natCast, List.getElem?_take, if_pos hj]
      unfold rowD
      rw [List.getElem?_map, hr]
      rfl
    have hat1 : atI [D.str n, D.bl b] 1 = some (.bl b) := rfl
    simp only [Int.toNat_natCast, hm] at hq
    unfold c__law_askable_1 e__law_askable_2
    walk_at "x"
    simp only [hat, x_some, x_idxT, hat1, x_truB]
    cases b with
    | false => simpa using hq
    | true =>
      cases p with
      | true => simpa [x_truB, x_some] using hq
      | false =>
        by_cases h0 : j = 0
        · subst h0
          simpa [x_truB, x_some] using hq
        · simpa [x_truB, x_some, h0, show ¬ (j : Int) = 0 by omega] using hq
  · rw [fm_filter (List.range (rch r h)) (c := mayAsk r p) (h := fun (j : Nat) => .int (j : Int)) (fun j => by simp)]
    exact q
end Mn

namespace Mn
open PySem L2
local macro_rules | `(tactic| walk_at "x") => `(tactic| try simp only [wSs, wS, wE, wEs, wC, x_add, x_sub, x_addS, x_addT, x_addL, x_mul, x_mulS, x_mulL, x_div, x_mod, x_pow, x_lt, x_le, x_gt, x_ge, x_eqD, x_neD, x_in, x_notIn, x_is, x_isNot, x_eqI, x_eqS, x_eqB, x_isNN, x_isBN, x_isIN, x_isSN, x_isTN, x_isLN, x_isRN, x_isBB, x_lenS, x_lenT, x_lenL, x_lenP, x_sumP, x_appP, x_appTP, x_idxP, x_frzP, x_abs, x_intI, x_intB, x_max, x_allL, x_sumL, x_listL, x_listT, x_isi, x_truB, x_truI, x_truL, x_truT, x_truN, x_idxS, x_idxL, x_idxT, x_slS, x_slT, x_slL, x_it0L, x_it0T, x_it0S, x_it0C, x_it1, x_it2L, x_val, x_upd, x_newF, x_newT, x_nm, x_tp, x_tps, x_tp0, x_ite, x_iteD, x_ifD, x_some, x_some2, x_map, x_eqInt, i_N_tuple, i_N_list, i_N_bool, i_N_int, i_N_str, i_N_tl, i_B_tuple, i_B_list, i_B_bool, i_B_int, i_B_str, i_B_tl, i_I_tuple, i_I_list, i_I_bool, i_I_int, i_I_str, i_I_tl, i_S_tuple, i_S_list, i_S_bool, i_S_int, i_S_str, i_S_tl, i_T_tuple, i_T_list, i_T_bool, i_T_int, i_T_str, i_T_tl, i_L_tuple, i_L_list, i_L_bool, i_L_int, i_L_str, i_L_tl, x_pure, x_new, x_fn, List.getElem?_cons_zero, List.getElem?_cons_succ, List.set_cons_zero, List.set_cons_succ, Option.bind_some, List.length_cons, List.length_nil, Nat.reduceAdd, true_and, and_true, decide_eq_true_eq, Bool.not_eq_true', decide_eq_false_iff_not, Bool.not_false, Bool.not_true, Bool.false_eq_true, Bool.true_eq_false, if_true, if_false, ite_true, ite_false])
def n_returned : List Str := ["row", "place"]
def m_returned : List MS := [(.ret (.blt .list true [(.slU false (.var 0) (.blt .max false [(.cst (.int 2)), (.var 1)]))]))]
def n_honoured : List Str := ["row", "place"]
def m_honoured : List MS := [(.ite (.cmp .Eq (.var 1) (.cst (.int 0))) [(.ret (.lst true [(.idx (.var 0) (.cst (.int 0))), (.tup [(.idx (.idx (.var 0) (.cst (.int 1))) (.cst (.int 0))), (.cst (.bl false))])]))] []), (.ret (.blt .list true [(.slU false (.var 0) (.blt .max false [(.cst (.int 2)), (.bin .Add false (.var 1) (.cst (.int 1)))]))]))]
def n__law_kept : List Str := ["_law_row_here", "_law_place", "_law_k"]
def c__law_kept_1 : List ME := [(.or (.cmp .Lt (.var 2) (.cst (.int 2))) (.cmp .LtE (.var 2) (.var 1)))]
def e__law_kept_2 : ME := (.idx (.var 0) (.var 2))
def m__law_kept : List MS := [(.ite (.cmp .Eq (.var 1) (.cst (.int 0))) [(.ret (.lst false [(.idx (.var 0) (.cst (.int 0))), (.tup [(.idx (.idx (.var 0) (.cst (.int 1))) (.cst (.int 0))), (.cst (.bl false))])]))] []), (.ret (.lc 1 false (.nm 2) [(.blt .len false [(.var 0)])] c__law_kept_1 e__law_kept_2))]
/-! ### rows struck -/
theorem cut_take {ds : List D} {n : Nat} : cutD ds none (some (n : Int)) = ds.take n := by
  unfold cutD
  rw [HT.sIx_nat, HT.sIx_none]
  simp
theorem rowD_take {r : Row} {n : Nat} : (rowD r).take n = rowD (r.take n) := by unfold rowD; rw [List.map_take]
theorem take_fm : ∀ (ds : List D) (m : Nat), (List.range ds.length).filterMap (fun k => if k < m then ds[k]? else none) = ds.take m
  | [], m => by simp
  | d :: ds, 0 => by
    simp
  | d :: ds, m + 1 => by
    rw [List.length_cons, List.range_succ_eq_map, List.filterMap_cons]
    simp only [Nat.zero_lt_succ, if_true, List.getElem?_cons_zero, List.take_succ_cons]
    congr 1
    rw [List.filterMap_map, ← take_fm ds m]
    congr 1
    funext k
    simp [Function.comp]
/-- what is left behind an asking, an honouring -/
def retR (r : Row) (j : Nat) : Row := r.take (max 2 j)
def honR (r : Row) (j : Nat) : Row := if j = 0 then [r.getD 0 default, ((r.getD 1 default).1, false)] else r.take (max 2 (j + 1))
def spRet : DSp := fun ds S Q _ => ∃ o r j, ds = [o, .int (j : Nat)] ∧ listOf S o = some (rowD r) ∧ ∀ q, S q = none → Q (.ref q) (put S q (.lst (rowD (retR r j))))
def spHon : DSp := fun ds S Q _ => ∃ o r j, ds = [o, .int (j : Nat)] ∧ listOf S o = some (rowD r) ∧ 2 ≤ r.length ∧ ∀ q, S q = none → Q (.ref q) (put S q (.lst (rowD (honR r j))))
def spKept : DSp := fun ds S Q _ => ∃ o r j, ds = [o, .int (j : Nat)] ∧ listOf S o = some (rowD r) ∧ 2 ≤ r.length ∧ r.length ≤ 1000 ∧ Q (.lst (rowD (honR r j))) S
theorem max_nat (j : Nat) : (if (j : Int) > 2 then (j : Int) else 2) = ((max 2 j : Nat) : Int) := by
  split <;> omega
theorem ok_returned {G : Gc} : BodyOk G n_returned 2 m_returned spRet := by
  rintro ds S Q X - ⟨o, r, j, rfl, hl, q⟩
  show wSs G _ m_returned [some o, some (.int j)] S _
  unfold m_returned
  walk_at "x"
  rw [max_nat]
  simp only [x_slO hl, x_some, x_newF, cut_take, x_listL, x_newT, rowD_take]
  exact q
theorem row_at {r : Row} {j : Nat} (h : j < r.length) : atI (rowD r) (j : Int) = some (plD (r.getD j default)) := by
  rw [atI_nn (by omega) (by rw [rowD_len]; omega), Int.toNat_natCast]
  unfold rowD
  rw [List.getElem?_map, List.getElem?_eq_getElem h, List.getD_eq_getElem?_getD, List.getElem?_eq_getElem h]
  rfl
theorem ok_honoured {G : Gc} : BodyOk G n_honoured 2 m_honoured spHon := by
  rintro ds S Q X - ⟨o, r, j, rfl, hl, h2, q⟩
  show wSs G _ m_honoured [some o, some (.int j)] S _
  unfold m_honoured
  have a0 := row_at (r := r) (j := 0) (by omega)
  have a1 := row_at (r := r) (j := 1) (by omega)
  have a0 : atI (rowD r) 0 = some (plD (r.getD 0 default)) := a0
  have a1 : atI (rowD r) 1 = some (plD (r.getD 1 default)) := a1
  walk_at "x"
  simp only [x_idxO hl, a0, a1, x_some]
  split
  · rename_i h0
    have h0 : j = 0 := by omega
    subst h0
    refine ⟨_, rfl, by decide, by decide, fun p hp => ?_⟩
    exact q p hp
  · rename_i h0
    have h0 : j ≠ 0 := by omega
    have e := max_nat (j + 1)
    rw [Int.natCast_add] at e
    have e : (if (j : Int) + 1 > 2 then (j : Int) + 1 else 2) = ((max 2 (j + 1) : Nat) : Int) := e
    rw [e]
    simp only [x_slO hl, x_some, x_newF, cut_take, x_listL, x_newT, rowD_take]
    have eh : honR r j = r.take (max 2 (j + 1)) := by unfold honR; rw [if_neg h0]
    rw [eh] at q
    exact q
/-- the items of a row below a place -/
theorem kept_lc {S : Sto} {o : D} {r : Row} {m : Nat} {f : D → Sto → (Option D → Sto → Prop) → Prop} {K : List D → Sto → Prop} (hl : listOf S o = some (rowD r)) (hz : r.length ≤ 1000)
    (hs : ∀ k, k < r.length → ∀ q : Option D → Sto → Prop, q (if k < m then some (plD (r.getD k default)) else none) S → f (.int (k : Int)) S q) (q : K (rowD (r.take m)) S) :
    lcLoop (fun _ => True) f ((List.range r.length).map fun (k : Nat) => .int (k : Int)) [] S K := by
  refine lc_any (fun z => match z with
    | .int k => if k.toNat < m then (rowD r)[k.toNat]? else none
    | _ => none) ?_ trivial ?_ ?_
  · rw [List.length_map, List.length_range]
    exact Nat.le_trans hz (by decide)
  · intro z hz' q' hq
    obtain ⟨k, hk, rfl⟩ := List.mem_map.mp hz'
    have hk := List.mem_range.mp hk
    refine hs k hk q' ?_
    have e : (rowD r)[k]? = some (plD (r.getD k default)) := by
      unfold rowD
      rw [List.getElem?_map, List.getElem?_eq_getElem hk, List.getD_eq_getElem?_getD, List.getElem?_eq_getElem hk]
      rfl
    simp only [Int.toNat_natCast, e] at hq
    exact hq
  · rw [List.filterMap_map]
    have e := take_fm (rowD r) m
    rw [rowD_take, rowD_len] at e
    rw [← e] at q
    exact q
theorem ok_kept {G : Gc} : BodyOk G n__law_kept 2 m__law_kept spKept := by
  rintro ds S Q X - ⟨o, r, j, rfl, hl, h2, hz, q⟩
  show wSs G _ m__law_kept [some o, some (.int j), none] S _
  unfold m__law_kept
  have a0 := row_at (r := r) (j := 0) (by omega)
  have a1 := row_at (r := r) (j := 1) (by omega)
  have a0 : atI (rowD r) 0 = some (plD (r.getD 0 default)) := a0
  have a1 : atI (rowD r) 1 = some (plD (r.getD 1 default)) := a1
  walk_at "x"
  simp only [x_idxO hl, a0, a1, x_some, x_lenO hl, x_val, rowD_len]
  walk_at "x"
  split
  · rename_i h0
    have h0 : j = 0 := by omega
    subst h0
    exact ⟨_, rfl, by decide, by decide, q⟩
  · rename_i h0
    have h0 : j ≠ 0 := by omega
    have eh : honR r j = r.take (max 2 (j + 1)) := by unfold honR; rw [if_neg h0]
    rw [eh] at q
    refine ⟨⟨by omega, by omega⟩, ?_⟩
    rw [Int.toNat_natCast]
    exact kept_lc (m := max 2 (j + 1)) hl hz (fun k hk => by
      unfold c__law_kept_1 e__law_kept_2
      walk_at "x"
      intro q' hq
      simp only [x_idxO hl, row_at hk, x_some]
      by_cases c2 : (k : Int) < 2
      · rw [if_pos c2, if_pos c2]
        rw [if_pos (by omega)] at hq
        exact hq
      · rw [if_neg c2]
        by_cases cj : (k : Int) ≤ j
        · rw [if_pos cj]
          rw [if_pos (by omega)] at hq
          exact hq
        · rw [if_neg cj]
          rw [if_neg (by omega)] at hq
          exact hq) q
theorem same_row {n : Nat} {S : Sto} {f : D} {r : Row} (hn : 2 ≤ n) (hl : r.length ≤ 1000) (hf : top S f = .lst (rowD r)) {k : D → Sto → Prop} {x : Exc → Sto → Prop} (h : k (.bl true) S) : callW (spSame n) [f, .lst (rowD r)] S k x := by
  obtain ⟨p1, p2, p3⟩ := row_pure r
  have hd : dsize (.lst (rowD r)) := by unfold dsize; exact ⟨by rw [rowD_len]; exact hl, p3⟩
  refine callW_of ⟨_, _, rfl, by rw [hf]; unfold pureD; exact p1, by unfold pureD; exact p1, by unfold dep; omega, by rw [hf]; exact hd, hd, ?_⟩
  rw [hf, same_refl _ (by unfold pureD; exact p1)]
  exact h
theorem ret_len (r : Row) (j : Nat) : (retR r j).length ≤ r.length := by unfold retR; rw [List.length_take]; omega
theorem hon_len (r : Row) (j : Nat) (h : 2 ≤ r.length) : (honR r j).length ≤ r.length := by
  unfold honR
  split
  · exact h
  · rw [List.length_take]; omega
end Mn

namespace Mn
open PySem L2
local macro_rules | `(tactic| walk_at "x") => `(tactic| try simp only [wSs, wS, wE, wEs, wC, x_add, x_sub, x_addS, x_addT, x_addL, x_mul, x_mulS, x_mulL, x_div, x_mod, x_pow, x_lt, x_le, x_gt, x_ge, x_eqD, x_neD, x_in, x_notIn, x_is, x_isNot, x_eqI, x_eqS, x_eqB, x_isNN, x_isBN, x_isIN, x_isSN, x_isTN, x_isLN, x_isRN, x_isBB, x_lenS, x_lenT, x_lenL, x_lenP, x_sumP, x_appP, x_appTP, x_idxP, x_frzP, x_abs, x_intI, x_intB, x_max, x_allL, x_sumL, x_listL, x_listT, x_isi, x_truB, x_truI, x_truL, x_truT, x_truN, x_idxS, x_idxL, x_idxT, x_slS, x_slT, x_slL, x_it0L, x_it0T, x_it0S, x_it0C, x_it1, x_it2L, x_val, x_upd, x_newF, x_newT, x_nm, x_tp, x_tps, x_tp0, x_ite, x_iteD, x_ifD, x_some, x_some2, x_map, x_eqInt, i_N_tuple, i_N_list, i_N_bool, i_N_int, i_N_str, i_N_tl, i_B_tuple, i_B_list, i_B_bool, i_B_int, i_B_str, i_B_tl, i_I_tuple, i_I_list, i_I_bool, i_I_int, i_I_str, i_I_tl, i_S_tuple, i_S_list, i_S_bool, i_S_int, i_S_str, i_S_tl, i_T_tuple, i_T_list, i_T_bool, i_T_int, i_T_str, i_T_tl, i_L_tuple, i_L_list, i_L_bool, i_L_int, i_L_str, i_L_tl, x_pure, x_new, x_fn, List.getElem?_cons_zero, List.getElem?_cons_succ, List.set_cons_zero, List.set_cons_succ, Option.bind_some, List.length_cons, List.length_nil, Nat.reduceAdd, true_and, and_true, decide_eq_true_eq, Bool.not_eq_true', decide_eq_false_iff_not, Bool.not_false, Bool.not_true, Bool.false_eq_true, Bool.true_eq_false, if_true, if_false, ite_true, ite_false])
/-! ### found reads as due, lists of the store too -/
mutual
def Vw (S : Sto) : D → D → Prop
  | f, .lst gs => ∃ fs, (f = .lst fs ∨ ∃ a, f = .ref a ∧ S a = some (.lst fs)) ∧ Vws S fs gs
  | f, .tup gs => ∃ fs, f = .tup fs ∧ Vws S fs gs
  | f, .non => f = .non
  | f, .bl b => f = .bl b
  | f, .int b => f = .int b
  | f, .str b => f = .str b
  | _, .ty _ => False
  | _, .ref _ => False
  | _, .scr _ => False
def Vws (S : Sto) : List D → List D → Prop
  | fs, [] => fs = []
  | fs, g :: gs => ∃ f r, fs = f :: r ∧ Vw S f g ∧ Vws S r gs
end
theorem Vws.len {S : Sto} : ∀ {fs gs : List D}, Vws S fs gs → fs.length = gs.length
  | fs, [], h => by unfold Vws at h; rw [h]
  | fs, g :: gs, h => by
    unfold Vws at h
    obtain ⟨f, r, rfl, _, h2⟩ := h
    rw [List.length_cons, List.length_cons, h2.len]
theorem Vws.get {S : Sto} : ∀ {fs gs : List D} {i : Nat} {g : D}, Vws S fs gs → gs[i]? = some g → ∃ f, fs[i]? = some f ∧ Vw S f g
  | fs, [], i, g, h, e => by simp at e
  | fs, g' :: gs, 0, g, h, e => by
    unfold Vws at h
    obtain ⟨f, r, rfl, h1, h2⟩ := h
    simp at e; subst e
    exact ⟨f, rfl, h1⟩
  | fs, g' :: gs, i + 1, g, h, e => by
    unfold Vws at h
    obtain ⟨f, r, rfl, h1, h2⟩ := h
    obtain ⟨f', h3, h4⟩ := Vws.get (i := i) (g := g) h2 (by simpa using e)
    exact ⟨f', by simpa using h3, h4⟩
mutual
theorem Vw.refl {S : Sto} : ∀ d : D, pureD d = true → Vw S d d
  | .non, _ => by unfold Vw; rfl
  | .bl b, _ => by unfold Vw; rfl
  | .int b, _ => by unfold Vw; rfl
  | .str b, _ => by unfold Vw; rfl
  | .ty _, h => by unfold pureD at h; cases h
  | .ref _, h => by unfold pureD at h; cases h
  | .scr _, h => by unfold pureD at h; cases h
  | .tup ds, h => by unfold pureD at h; unfold Vw; exact ⟨ds, rfl, Vws.refl ds h⟩
  | .lst ds, h => by unfold pureD at h; unfold Vw; exact ⟨ds, .inl rfl, Vws.refl ds h⟩
theorem Vws.refl {S : Sto} : ∀ ds : List D, pureDs ds = true → Vws S ds ds
  | [], _ => by unfold Vws; rfl
  | d :: ds, h => by unfold pureDs at h; unfold Vws; exact ⟨d, ds, rfl, Vw.refl d (and2 h).1, Vws.refl ds (and2 h).2⟩
end
mutual
/-- no list or tuple of it is too long, nor too deep -/
def dSmall : Nat → D → Prop
  | 0, .tup _ => False
  | 0, .lst _ => False
  | n + 1, .tup ds => ds.length ≤ 100000 ∧ dSmalls n ds
  | n + 1, .lst ds => ds.length ≤ 100000 ∧ dSmalls n ds
  | _, _ => True
def dSmalls : Nat → List D → Prop
  | _, [] => True
  | n, d :: ds => dSmall n d ∧ dSmalls n ds
end
theorem dSmalls_get {n : Nat} : ∀ {ds : List D} {i : Nat} {d : D}, dSmalls n ds → ds[i]? = some d → dSmall n d
  | [], i, d, _, e => by simp at e
  | d' :: ds, 0, d, h, e => by unfold dSmalls at h; simp at e; subst e; exact h.1
  | d' :: ds, i + 1, d, h, e => by unfold dSmalls at h; exact dSmalls_get h.2 (by simpa using e)
def spSameT (n : Nat) : DSp := fun ds S Q _ => ∃ f d, ds = [f, d] ∧ Vw S f d ∧ dSmall n d ∧ Q (.bl true) S
/-- two sequences that read alike -/
theorem sameT_seq {G : Gc} {n : Nat} {f d : D} {fs ds : List D} {S : Sto} {k : D → Sto → Prop} (hG : G.fn "_law_same" = some (2, spSameT n)) (hf : ∀ j : Int, idxR f (.int j) S = atI fs j) (hd : ∀ j : Int, idxR d (.int j) S = atI ds j) (hv : Vws S fs ds) (hz : ds.length ≤ 100000) (zd : dSmalls n ds) (q : k (.bl true) S) :
    lcLoop (fun _ => True) (fun d_2 S2 q => wE G (fun _ _ _ => False) e__law_same_1 [some f, some d, some d_2] S2 fun y S4 => q (some y) S4) ((List.range ds.length).map fun (k : Nat) => .int (k : Int)) [] S fun acc S2 => ∃ a, allB S2 acc = some a ∧ k (.bl a) S2 := by
  refine lc_any (fun z => some (.bl true)) (by rw [List.length_map, List.length_range]; exact Nat.le_trans hz (by decide)) trivial ?_ ?_
  · intro z hz q' hq
    obtain ⟨j, hj, rfl⟩ := List.mem_map.mp hz
    have hj : j < ds.length := List.mem_range.mp hj
    have hv' : ds[j]? = some ds[j] := List.getElem?_eq_getElem hj
    obtain ⟨u, hu, vw⟩ := hv.get hv'
    unfold e__law_same_1
    walk_at "x"
    rw [hG]
    walk_at "x"
    rw [hf, hd, atI_nn (by omega) (by rw [hv.len]; omega), atI_nn (by omega) (by omega), Int.toNat_natCast, hu, hv']
    walk_at "x"
    exact callW_of ⟨_, _, rfl, vw, dSmalls_get zd hv', hq⟩
  · refine ⟨true, ?_, q⟩
    have e : ((List.range ds.length).map fun (k : Nat) => D.int (k : Int)).filterMap (fun _ => some (D.bl true)) = (List.replicate ds.length true).map .bl := by
      rw [List.filterMap_map, List.map_replicate]
      generalize ds.length = m
      induction m with
      | zero => rfl
      | succ m ih => rw [List.range_succ, List.filterMap_append, ih, List.replicate_succ']; rfl
    rw [e, allB_some]
    simp
theorem ok_sameT {G : Gc} (n : Nat) (hG : ∀ k, n = k + 1 → G.fn "_law_same" = some (2, spSameT k)) : BodyOk G n__law_same 2 m__law_same (spSameT n) := by
  rintro ds S Q X - ⟨f, d, rfl, vw, sm, q⟩
  show wSs G _ m__law_same [some f, some d, none] S _
  unfold m__law_same
  walk_at "x"
  cases d with
  | ty _ => unfold Vw at vw; exact vw.elim
  | ref _ => unfold Vw at vw; exact vw.elim
  | scr _ => unfold Vw at vw; exact vw.elim
  | non => unfold Vw at vw; subst vw; walk_at "x"; exact ⟨by decide, q⟩
  | bl b => unfold Vw at vw; subst vw; walk_at "x"; exact ⟨by decide, by simpa using q⟩
  | int b => unfold Vw at vw; subst vw; walk_at "x"; exact ⟨by decide, by simpa using q⟩
  | str b => unfold Vw at vw; subst vw; walk_at "x"; exact ⟨by decide, by simpa using q⟩
  | tup ds =>
    unfold Vw at vw
    obtain ⟨fs, rfl, hv⟩ := vw
    obtain ⟨k, rfl⟩ : ∃ k, n = k + 1 := by
      cases n with
      | zero => unfold dSmall at sm; exact sm.elim
      | succ k => exact ⟨k, rfl⟩
    unfold dSmall at sm
    walk_at "x"
    refine ⟨by decide, ?_⟩
    rw [if_neg (by decide), if_neg (by decide), if_pos (by rw [hv.len])]
    refine ⟨⟨by omega, by have := sm.1; omega⟩, ?_⟩
    rw [Int.toNat_natCast]
    exact sameT_seq (hG k rfl) (fun _ => rfl) (fun _ => rfl) hv sm.1 sm.2 q
  | lst ds =>
    unfold Vw at vw
    obtain ⟨fs, ho, hv⟩ := vw
    obtain ⟨k, rfl⟩ : ∃ k, n = k + 1 := by
      cases n with
      | zero => unfold dSmall at sm; exact sm.elim
      | succ k => exact ⟨k, rfl⟩
    unfold dSmall at sm
    have hl : listOf S f = some fs := by
      rcases ho with rfl | ⟨a, rfl, h⟩
      · rfl
      · exact lstAt_of h
    have hi : ∀ c, isiR S f c = isiR S (.lst fs) c := by
      rcases ho with rfl | ⟨a, rfl, h⟩
      · exact fun _ => rfl
      · intro c
        unfold isiR
        have e : tyN S (.ref a) = some "list" := by
          show (lstAt S a).map _ = _
          rw [lstAt_of h]; rfl
        rw [e]; rfl
    simp only [hi, x_lenO hl, x_some]
    walk_at "x"
    refine ⟨by decide, ?_⟩
    rw [if_neg (by decide), if_neg (by decide), if_pos (by rw [hv.len])]
    refine ⟨⟨by omega, by have := sm.1; omega⟩, ?_⟩
    rw [Int.toNat_natCast]
    exact sameT_seq (hG k rfl) (fun _ => x_idxO hl) (fun _ => rfl) hv sm.1 sm.2 q
end Mn

namespace Mn
open PySem L2
local macro_rules | `(tactic| walk_at "x") => `(tactic| try simp only [wSs, wS, wE, wEs, wC, x_add, x_sub, x_addS, x_addT, x_addL, x_mul, x_mulS, x_mulL, x_div, x_mod, x_pow, x_lt, x_le, x_gt, x_ge, x_eqD, x_neD, x_in, x_notIn, x_is, x_isNot, x_eqI, x_eqS, x_eqB, x_isNN, x_isBN, x_isIN, x_isSN, x_isTN, x_isLN, x_isRN, x_isBB, x_lenS, x_lenT, x_lenL, x_lenP, x_sumP, x_appP, x_appTP, x_idxP, x_frzP, x_abs, x_intI, x_intB, x_max, x_allL, x_sumL, x_listL, x_listT, x_isi, x_truB, x_truI, x_truL, x_truT, x_truN, x_idxS, x_idxL, x_idxT, x_slS, x_slT, x_slL, x_it0L, x_it0T, x_it0S, x_it0C, x_it1, x_it2L, x_val, x_upd, x_newF, x_newT, x_nm, x_tp, x_tps, x_tp0, x_ite, x_iteD, x_ifD, x_some, x_some2, x_map, x_eqInt, i_N_tuple, i_N_list, i_N_bool, i_N_int, i_N_str, i_N_tl, i_B_tuple, i_B_list, i_B_bool, i_B_int, i_B_str, i_B_tl, i_I_tuple, i_I_list, i_I_bool, i_I_int, i_I_str, i_I_tl, i_S_tuple, i_S_list, i_S_bool, i_S_int, i_S_str, i_S_tl, i_T_tuple, i_T_list, i_T_bool, i_T_int, i_T_str, i_T_tl, i_L_tuple, i_L_list, i_L_bool, i_L_int, i_L_str, i_L_tl, x_pure, x_new, x_fn, List.getElem?_cons_zero, List.getElem?_cons_succ, List.set_cons_zero, List.set_cons_succ, Option.bind_some, List.length_cons, List.length_nil, Nat.reduceAdd, true_and, and_true, decide_eq_true_eq, Bool.not_eq_true', decide_eq_false_iff_not, Bool.not_false, Bool.not_true, Bool.false_eq_true, Bool.true_eq_false, if_true, if_false, ite_true, ite_false])
/-! ### two things that read alike, lists of the store on both sides -/
def spSameV (n : Nat) : DSp := fun ds S Q _ => ∃ f d v, ds = [f, d] ∧ Vw S f v ∧ Vw S d v ∧ dSmall n v ∧ Q (.bl true) S
theorem sameV_seq {G : Gc} {n : Nat} {f d : D} {fs ds vs : List D} {S : Sto} {k : D → Sto → Prop} (hG : G.fn "_law_same" = some (2, spSameV n)) (hf : ∀ j : Int, idxR f (.int j) S = atI fs j) (hd : ∀ j : Int, idxR d (.int j) S = atI ds j) (hv : Vws S fs vs) (hw : Vws S ds vs) (hz : vs.length ≤ 100000) (zd : dSmalls n vs) (q : k (.bl true) S) :
    lcLoop (fun _ => True) (fun d_2 S2 q => wE G (fun _ _ _ => False) e__law_same_1 [some f, some d, some d_2] S2 fun y S4 => q (some y) S4) ((List.range ds.length).map fun (k : Nat) => .int (k : Int)) [] S fun acc S2 => ∃ a, allB S2 acc = some a ∧ k (.bl a) S2 := by
  have hl := hw.len
  refine lc_any (fun z => some (.bl true)) (by rw [List.length_map, List.length_range, hl]; exact Nat.le_trans hz (by decide)) trivial ?_ ?_
  · intro z hz q' hq
    obtain ⟨j, hj, rfl⟩ := List.mem_map.mp hz
    have hj : j < ds.length := List.mem_range.mp hj
    have hjv : j < vs.length := by omega
    have hv' : vs[j]? = some vs[j] := List.getElem?_eq_getElem hjv
    obtain ⟨u, hu, vw⟩ := hv.get hv'
    obtain ⟨u', hu', vw'⟩ := hw.get hv'
    unfold e__law_same_1
    walk_at "x"
    rw [hG]
    walk_at "x"
    rw [hf, hd, atI_nn (by omega) (by rw [hv.len]; omega), atI_nn (by omega) (by omega), Int.toNat_natCast, hu, hu']
    walk_at "x"
    exact callW_of ⟨_, _, _, rfl, vw, vw', dSmalls_get zd hv', hq⟩
  · refine ⟨true, ?_, q⟩
    have e : ((List.range ds.length).map fun (k : Nat) => D.int (k : Int)).filterMap (fun _ => some (D.bl true)) = (List.replicate ds.length true).map .bl := by
      rw [List.filterMap_map, List.map_replicate]
      generalize ds.length = m
      induction m with
      | zero => rfl
      | succ m ih => rw [List.range_succ, List.filterMap_append, ih, List.replicate_succ']; rfl
    rw [e, allB_some]
    simp
theorem Vw_list {S : Sto} {f : D} {fs : List D} (ho : f = .lst fs ∨ ∃ a, f = .ref a ∧ S a = some (.lst fs)) : listOf S f = some fs ∧ ∀ c, isiR S f c = isiR S (.lst fs) c := by
  rcases ho with rfl | ⟨a, rfl, h⟩
  · exact ⟨rfl, fun _ => rfl⟩
  · refine ⟨lstAt_of h, fun c => ?_⟩
    unfold isiR
    have e : tyN S (.ref a) = some "list" := by
      show (lstAt S a).map _ = _
      rw [lstAt_of h]; rfl
    rw [e]; rfl
theorem ok_sameV {G : Gc} (n : Nat) (hG : ∀ k, n = k + 1 → G.fn "_law_same" = some (2, spSameV k)) : BodyOk G n__law_same 2 m__law_same (spSameV n) := by
  rintro ds S Q X - ⟨f, d, v, rfl, vf, vd, sm, q⟩
  show wSs G _ m__law_same [some f, some d, none] S _
  unfold m__law_same
  cases v with
  | ty _ => unfold Vw at vf; exact vf.elim
  | ref _ => unfold Vw at vf; exact vf.elim
  | scr _ => unfold Vw at vf; exact vf.elim
  | non => unfold Vw at vf vd; subst vf vd; walk_at "x"; exact ⟨by decide, q⟩
  | bl b => unfold Vw at vf vd; subst vf vd; walk_at "x"; exact ⟨by decide, by simpa using q⟩
  | int b => unfold Vw at vf vd; subst vf vd; walk_at "x"; exact ⟨by decide, by simpa using q⟩
  | str b => unfold Vw at vf vd; subst vf vd; walk_at "x"; exact ⟨by decide, by simpa using q⟩
  | tup vs =>
    unfold Vw at vf vd
    obtain ⟨fs, rfl, hv⟩ := vf
    obtain ⟨ds, rfl, hw⟩ := vd
    obtain ⟨k, rfl⟩ : ∃ k, n = k + 1 := by
      cases n with
      | zero => unfold dSmall at sm; exact sm.elim
      | succ k => exact ⟨k, rfl⟩
    unfold dSmall at sm
    have l1 := hv.len
    have l2 := hw.len
    walk_at "x"
    refine ⟨by decide, ?_⟩
    rw [if_neg (by decide), if_neg (by decide), if_pos (by rw [l1, l2])]
    refine ⟨⟨by omega, by have := sm.1; omega⟩, ?_⟩
    rw [Int.toNat_natCast]
    exact sameV_seq (hG k rfl) (fun _ => rfl) (fun _ => rfl) hv hw sm.1 sm.2 q
  | lst vs =>
    unfold Vw at vf vd
    obtain ⟨fs, ho, hv⟩ := vf
    obtain ⟨ds, ho', hw⟩ := vd
    obtain ⟨k, rfl⟩ : ∃ k, n = k + 1 := by
      cases n with
      | zero => unfold dSmall at sm; exact sm.elim
      | succ k => exact ⟨k, rfl⟩
    unfold dSmall at sm
    have l1 := hv.len
    have l2 := hw.len
    obtain ⟨hl, hi⟩ := Vw_list ho
    obtain ⟨hl', hi'⟩ := Vw_list ho'
    walk_at "x"
    simp only [hi, hi', x_lenO hl, x_lenO hl', x_some]
    walk_at "x"
    refine ⟨by decide, ?_⟩
    rw [if_neg (by decide), if_neg (by decide)]
    simp only [x_lenO hl', x_some]
    walk_at "x"
    rw [if_pos (by rw [l1, l2])]
    simp only [x_lenO hl', x_some]
    walk_at "x"
    refine ⟨⟨by omega, by have := sm.1; omega⟩, ?_⟩
    rw [Int.toNat_natCast]
    exact sameV_seq (hG k rfl) (fun _ => x_idxO hl) (fun _ => x_idxO hl') hv hw sm.1 sm.2 q
end Mn

namespace Mn
open PySem L2
/-! ### the program's classes: fields, exceptions -/
theorem bl_mem {X : Xc} (h : X.bl = true) : ("BadLine" : Str) ∈ exA X := by unfold exA blL; rw [if_pos h]; exact List.mem_append_left _ List.mem_cons_self
def excP (X : Xc) (c : Str) : Option (Nat × (List D → List (Str × D))) := if c = "BadLine" then (if X.bl = true then some (1, F2' D D.str .non "BadLine" "a bad line" "at") else none) else if c ∈ X.xs then some (1, F1 D D.str .non c) else none
def subP (X : Xc) (c c' : Str) : Option Bool := if c ∈ exU X ∧ c' ∈ exU X then some (subB c c') else none
def xflP (X : Xc) (c f : Str) : Bool := decide (c ∈ exA X) && (decide (f = "word") || (decide (c = "BadLine") && (decide (f = "at") && X.bl)))
def cfgP (X : Xc) (fl : List (Str × Str)) (con : Str → Option D) : Cfg := { con := con, fld := fun c f => decide ((c, f) ∈ fl), exc := excP X, sub := subP X, xfl := xflP X }
def BindsD (d : He.DefD) (ps : List Str) : Prop := ∀ (kV doc pm : Value) (an : Option Addr) (cdv ct : Value) (us : List Value), us.length = ps.length → bindArgs (PySem.W.fnOf d.name d.qual d.params d.body d.scope .none kV doc pm an cdv ct) ⟨us, []⟩ = pure (ps.zip us)
def iniB (d : He.DefD) (c : Str) (ps : List Str) : Bool := decide (d.at_ = (c, some ("__init__" : Str))) && (d.dfl.isEmpty && (d.kwd.isEmpty && fnB ps ps d.scope))
def ini0 (d : He.DefD) : Bool := iniB d exTop ["self", "why"] && b0B d.body
def ini1 (d : He.DefD) (c : Str) : Bool := iniB d c ["self", "why"] && (gloB d.scope exTop && b1B exTop c d.body)
def ini2 (d : He.DefD) : Bool := iniB d "BadLine" ["self", "at"] && (gloB d.scope exTop && b2B exTop "BadLine" "a bad line" "at" d.body)
structure Inis (X : Xc) (fn : List He.DefD) : Prop where
  i0 : ∃ (i : Nat) (d : He.DefD), fn[i]? = some d ∧ ini0 d = true ∧ BindsD d ["self", "why"]
  i1 : ∀ c ∈ X.xs, ∃ (i : Nat) (d : He.DefD), fn[i]? = some d ∧ ini1 d c = true ∧ BindsD d ["self", "why"]
  i2 : X.bl = true → ∃ (i : Nat) (d : He.DefD), fn[i]? = some d ∧ ini2 d = true ∧ BindsD d ["self", "at"]
theorem ini_fun {fa : List He.Fa} {fn : List He.DefD} {K : PySem.W.Frag} (c : He.SaysD fa fn K) {i : Nat} {d : He.DefD} {x : Str} {ps : List Str} (hd : fn[i]? = some d) (h : iniB d x ps = true) (hb : BindsD d ps) :
    ∃ fd, FunD K d.name d.qual d.params d.body d.scope [] [] (He.ma K (He.ga K x) "__init__") fd ∧ FnScope ps ps d.scope ∧ Binds K fd ps [] := by
  obtain ⟨h1, h⟩ := He.ba h
  obtain ⟨h2, h⟩ := He.ba h
  obtain ⟨h3, h4⟩ := He.ba h
  obtain ⟨fd, F⟩ := c.def_ i hd
  have h2 := List.isEmpty_iff.mp h2
  have h3 := List.isEmpty_iff.mp h3
  have F : FunD K d.name d.qual d.params d.body d.scope [] [] (He.ma K (He.ga K x) "__init__") fd := by
    have := F
    unfold He.DefD.dvs He.DefD.kws at this
    rw [h2, h3, of_decide_eq_true h1] at this
    exact this
  exact ⟨fd, F, fnB_ok h4, F.bindsN hb⟩
theorem nofX {K : PySem.W.Frag} {c f : Str} (h : (Fx.nof c f).ok K = true) : noF K (He.ga K c) f := He.eqO_ok h
theorem oexX {K : PySem.W.Frag} {c : Str} (h : (Fx.oex c).ok K = true) : OexC K (He.ga K c) ∧ PySem.W.findIn K (.ref (He.ga K c)) "__init__" = some (some (.ref (He.ma K (He.ga K c) "__init__"))) ∧ PySem.W.typeIn K (.ref (He.ma K (He.ga K c) "__init__")) = some (.type "function") := by
  obtain ⟨h1, h⟩ := He.ba h
  obtain ⟨h2, h3⟩ := He.ba h
  exact ⟨oexB_ok h1, He.eqO_ok h2, of_decide_eq_true h3⟩
theorem excX {K : PySem.W.Frag} {c : Str} (h : (Fx.exc c).ok K = true) (hm : (Fx.mro c).ok K = true) : ExcC K (He.ga K c) := by
  obtain ⟨h1, h⟩ := He.ba h
  obtain ⟨h2, h⟩ := He.ba h
  obtain ⟨h3, h⟩ := He.ba h
  obtain ⟨h4, h⟩ := He.ba h
  obtain ⟨h5, h6⟩ := He.ba h
  have s1 := mro_sub hm (.type "BaseException")
  have s2 := mro_sub hm (.type "object")
  have e1 : (mroL K c).contains (.type "BaseException") = true := by unfold mroL; split <;> simp [veT]
  have e2 : (mroL K c).contains (.type "object") = true := by unfold mroL; split <;> simp [veT]
  rw [e1] at s1
  rw [e2] at s2
  exact ⟨He.eqO_ok h1, He.eqO_ok h2, s1, h3, He.eqO_ok h4, He.eqO_ok h5, of_decide_eq_true h6, s2⟩
theorem cfg_ok {P : Program} {w : World} {K : PySem.W.Frag} {mg : Str → Option Value} {base h : Heap} {fa : List He.Fa} {fx : List Fx} {fn : List He.DefD} {fl : List (Str × Str)} {con : Str → Option D} {X : Xc} (IX : K.In h) (Gm : h.Ns mainGlobals mg) (c : SaysM fa fx fn K) (hok : X.xs.all PySem.PyData.strOk = true) (hfa : ∀ f ∈ faX X fl, f ∈ fa) (hfx : ∀ f ∈ fxX X, f ∈ fx) (hi : Inis X fn) (hcon : conOk K mg con) :
    CfgOk P w K mg base (cfgP X fl con) := by
  have ka : ∀ f ∈ faX X fl, f.ok K = true := fun f m => says_mem c.d (hfa f m)
  have kx : ∀ f ∈ fxX X, f.ok K = true := fun f m => c.x f (hfx f m)
  have glo : ∀ x ∈ exU X, mg x = some (.ref (He.ga K x)) := fun x m => He.glo_ok IX Gm (ka (.glo x) (by unfold faX; simp only [List.mem_append, List.mem_map]; exact .inl (.inl ⟨x, m, rfl⟩)))
  have mem1 : ∀ {f : Fx}, (∃ x ∈ exA X, Fx.oex x = f) → f ∈ fxX X := fun q => by unfold fxX; simp only [List.mem_append, List.mem_map]; exact .inl q
  have mem2 : ∀ {f : Fx}, (∃ x ∈ exA X, Fx.nof x "why" = f) → f ∈ fxX X := fun q => by unfold fxX; simp only [List.mem_append, List.mem_map]; exact .inr (.inl q)
  have mem3 : ∀ {f : Fx}, (∃ x ∈ exA X, Fx.nof x "word" = f) → f ∈ fxX X := fun q => by unfold fxX; simp only [List.mem_append, List.mem_map]; exact .inr (.inr (.inl q))
  have mem4 : ∀ {f : Fx}, (∃ x ∈ exU X, Fx.mro x = f) → f ∈ fxX X := fun q => by unfold fxX; simp only [List.mem_append, List.mem_map]; exact .inr (.inr (.inr (.inl q)))
  have mem5 : ∀ {f : Fx}, (∃ x ∈ exU X, Fx.exc x = f) → f ∈ fxX X := fun q => by unfold fxX; simp only [List.mem_append, List.mem_map]; exact .inr (.inr (.inr (.inr (.inl q))))
  have mem6 : ∀ {f : Fx}, f ∈ [Fx.bas exTop, Fx.dis (exU X)] → f ∈ fxX X := fun q => by unfold fxX; simp only [List.mem_append]; exact .inr (.inr (.inr (.inr (.inr (.inl q)))))
  have mem7 : X.bl = true → Fx.nof "BadLine" "at" ∈ fxX X := fun q => by unfold fxX; simp only [List.mem_append]; refine .inr (.inr (.inr (.inr (.inr (.inr ?_))))); unfold blL; rw [if_pos q]; exact List.mem_cons_self
  have oex : ∀ x ∈ exA X, _ := fun x m => oexX (kx (.oex x) (mem1 ⟨x, m, rfl⟩))
  have why : ∀ x ∈ exA X, _ := fun x m => nofX (kx (.nof x "why") (mem2 ⟨x, m, rfl⟩))
  have word : ∀ x ∈ exA X, _ := fun x m => nofX (kx (.nof x "word") (mem3 ⟨x, m, rfl⟩))
  have mro : ∀ x ∈ exU X, (Fx.mro x).ok K = true := fun x m => kx (.mro x) (mem4 ⟨x, m, rfl⟩)
  have exc : ∀ x ∈ exU X, _ := fun x m => excX (kx (.exc x) (mem5 ⟨x, m, rfl⟩)) (mro x m)
  have bas : (Fx.bas exTop).ok K = true := kx _ (mem6 (by simp))
  have dis : (Fx.dis (exU X)).ok K = true := kx _ (mem6 (by simp))
  have at_ : X.bl = true → noF K (He.ga K "BadLine") "at" := fun q => nofX (kx _ (mem7 q))
  have top : exTop ∈ exU X := List.mem_cons_self
  have sub_of : ∀ {x : Str}, x ∈ exA X → x ∈ exU X := fun m => List.mem_cons_of_mem _ m
  -- the base
  obtain ⟨i0, d0, hd0, h0, hb0⟩ := hi.i0
  obtain ⟨h01, h02⟩ := He.ba h0
  obtain ⟨fd0, F0, S0, B0⟩ := ini_fun c.d hd0 h01 hb0
  have bs : Bs P w K mg base exTop (He.ga K exTop) (He.ma K (He.ga K exTop) "__init__") fd0 := by
    obtain ⟨q1, q⟩ := He.ba bas
    obtain ⟨q2, q3⟩ := He.ba q
    refine ⟨⟨q1, He.eqO_ok q2⟩, ?_, b0_ok F0 S0 h02, F0.kp, B0, glo _ top, by decide +kernel⟩
    have q3 : (match PySem.W.findCls K (.ref (He.ga K exTop)) (.type "type") "__init__" with
      | some (.val (.ref f)) => decide (f = He.ma K (He.ga K exTop) "__init__")
      | _ => false) = true := q3
    split at q3
    · rename_i f e
      rw [e, of_decide_eq_true q3]
    · cases q3
  exact {
    con := hcon
    fld := fun cc f q => by
      have m : (cc, f) ∈ fl := of_decide_eq_true q
      refine ⟨He.cls_ok (ka (.cls cc) ?_), He.noat_ok (ka (.noat cc f) ?_)⟩
      · unfold faX; simp only [List.mem_append, List.mem_map]; exact .inl (.inr ⟨_, m, rfl⟩)
      · unfold faX; simp only [List.mem_append, List.mem_map]; exact .inr ⟨_, m, rfl⟩
    exc := fun cc n F q => by
      replace q : (if cc = "BadLine" then (if X.bl = true then some (1, F2' D D.str .non "BadLine" "a bad line" "at") else none) else if cc ∈ X.xs then some (1, F1 D D.str .non cc) else none) = some (n, F) := q
      split at q
      · rename_i e
        subst e
        by_cases hbl : X.bl = true
        rotate_left
        · rw [if_neg hbl] at q; cases q
        rw [if_pos hbl] at q
        cases q
        have m : ("BadLine" : Str) ∈ exA X := bl_mem hbl
        obtain ⟨i, d, hd, hh, hb⟩ := hi.i2 hbl
        obtain ⟨h1, hh⟩ := He.ba hh
        obtain ⟨h2, h3⟩ := He.ba hh
        obtain ⟨fd, FF, SS, BB⟩ := ini_fun c.d hd h1 hb
        obtain ⟨o1, o2, o3⟩ := oex _ m
        exact ⟨_, fd, _, _, glo _ (sub_of m), o1, o2, o3, b2_ok bs FF SS h2 h3 (by decide +kernel) (by decide +kernel) o1 (why _ m) (word _ m) (at_ hbl), BB, F2_rel (by decide +kernel) (by decide +kernel)⟩
      · split at q
        · rename_i m
          cases q
          have m' : cc ∈ exA X := List.mem_append_right _ m
          obtain ⟨i, d, hd, hh, hb⟩ := hi.i1 cc m
          obtain ⟨h1, hh⟩ := He.ba hh
          obtain ⟨h2, h3⟩ := He.ba hh
          obtain ⟨fd, FF, SS, BB⟩ := ini_fun c.d hd h1 hb
          obtain ⟨o1, o2, o3⟩ := oex _ m'
          refine ⟨_, fd, _, _, glo _ (sub_of m'), o1, o2, o3, b1_ok bs FF SS h2 h3 o1 (why _ m') (word _ m'), BB, F1_rel ?_⟩
          exact List.all_eq_true.mp hok cc m
        · cases q
    sub := fun cc c' b q => by
      have q : (if cc ∈ exU X ∧ c' ∈ exU X then some (subB cc c') else none) = some b := q
      split at q
      · rename_i m
        cases q
        have hs : PySem.W.subIn K (.ref (He.ga K cc)) (.ref (He.ga K c')) = some (subB cc c') := by rw [mro_sub (mro _ m.1), mroL_has dis m.1 m.2 top]
        obtain ⟨⟨cd, hcd, _⟩, ht, hdct⟩ := mro_ok (mro _ m.2)
        have he : PySem.W.exmOne K (.ref (He.ga K cc)) (.ref (He.ga K c')) = some (subB cc c') := PySem.W.exm_ref (exc _ m.2).hs hdct ht hs
        refine ⟨glo _ m.2, he, ?_, exc _ m.1⟩
        by_cases e : cc = c'
        · subst e
          unfold PySem.W.kitOne
          rw [if_pos (beq_self_eq_true _)]
          simp [subB]
        · have hne : ¬ (Value.ref (He.ga K cc) == Value.ref (He.ga K c')) = true := fun z => e (ga_inj dis m.1 m.2 (Value.ref.inj (beq_iff_eq.mp z)))
          unfold PySem.W.kitOne
          rw [if_neg hne]
          unfold PySem.W.exmOne at he
          split at he
          · exact he
          · cases he
      · cases q
    xfl := fun cc f q => by
      obtain ⟨q1, q2⟩ := He.ba (show (decide (cc ∈ exA X) && (decide (f = "word") || (decide (cc = "BadLine") && (decide (f = "at") && X.bl)))) = true from q)
      have m : cc ∈ exA X := of_decide_eq_true q1
      have e := exc _ (sub_of m)
      refine ⟨⟨e.hg, e.hk, e.hs, e.hd⟩, ?_⟩
      rcases Bool.or_eq_true_iff.mp q2 with z | z
      · rw [of_decide_eq_true z]; exact word _ m
      · obtain ⟨z1, z2⟩ := He.ba z
        obtain ⟨z2, z3⟩ := He.ba z2
        rw [of_decide_eq_true z1, of_decide_eq_true z2]
        exact at_ z3 }
end Mn

namespace Mn
open PySem L2
/-! ### a walk that looks at one step at a time -/
/-- what is still to be shown; not looked into by the walk -/
class Kt (α : Type) where
  k : α → Prop
class Pt where
  p : Prop
class Ct where
  k : D → Sto → Prop
  x : Exc → Sto → Prop
class Ft where
  g : Sto → Prop
  f : D → Env → Sto → KS → Prop
  k : KS
class Lt where
  g : Sto → Prop
  f : D → Sto → (Option D → Sto → Prop) → Prop
  k : List D → Sto → Prop
def bOp {α : Type} (o : Option α) [K : Kt α] : Prop := ∃ d, o = some d ∧ K.k d
def bFp {α : Type} (o : Option (Nat × α)) (n : Nat) [K : Kt α] : Prop := ∃ d, o = some (n, d) ∧ K.k d
def brp (b : Bool) [A : Pt] [B : Pt] : Prop := if b = true then A.p else B.p
def nwp (S : Sto) [K : Kt Addr] : Prop := ∀ p, S p = none → K.k p
def cwp (sp : DSp) (ds : List D) (S : Sto) [K : Ct] : Prop := callW sp ds S K.k K.x
def flp (ds : List D) (σ : Env) (S : Sto) [K : Ft] : Prop := forLoop K.g K.f ds σ S K.k
def lcp (ds : List D) (S : Sto) [K : Lt] : Prop := lcLoop K.g K.f ds [] S K.k
section
variable {α : Type} {d : α} {k : α → Prop}
theorem bO_some : @bOp _ (some d) ⟨k⟩ = k d := propext ⟨fun ⟨_, h, p⟩ => by cases h; exact p, fun p => ⟨d, rfl, p⟩⟩
theorem bO_none : @bOp _ none ⟨k⟩ = False := propext ⟨fun ⟨_, h, _⟩ => (by cases h), False.elim⟩
theorem bO_ite {c : Prop} [Decidable c] : @bOp _ (if c then some d else none) ⟨k⟩ = (c ∧ k d) := by
  by_cases h : c
  · rw [if_pos h, bO_some]; exact propext ⟨fun q => ⟨h, q⟩, fun q => q.2⟩
  · rw [if_neg h, bO_none]; exact propext ⟨False.elim, fun q => h q.1⟩
theorem bO_iteO {c : Prop} [Decidable c] {o : Option α} : @bOp _ (if c then o else none) ⟨k⟩ = (c ∧ @bOp _ o ⟨k⟩) := by
  by_cases h : c
  · rw [if_pos h]; exact propext ⟨fun q => ⟨h, q⟩, fun q => q.2⟩
  · rw [if_neg h, bO_none]; exact propext ⟨False.elim, fun q => h q.1⟩
theorem bO_map {β : Type} {f : β → α} {o : Option β} : @bOp _ (o.map f) ⟨k⟩ = @bOp _ o ⟨fun b => k (f b)⟩ := by
  cases o with
  | none => rw [Option.map_none, bO_none, bO_none]
  | some b => rw [Option.map_some, bO_some, bO_some]
theorem bF_some {n : Nat} : @bFp _ (some (n, d)) n ⟨k⟩ = k d := propext ⟨fun ⟨_, h, p⟩ => by cases h; exact p, fun p => ⟨d, rfl, p⟩⟩
theorem brk_t {A B : Prop} : @brp true ⟨A⟩ ⟨B⟩ = A := if_pos rfl
theorem brk_f {A B : Prop} : @brp false ⟨A⟩ ⟨B⟩ = B := if_neg (by decide)
/-- both ways -/
theorem brk_i {b : Bool} {A B : Prop} (h : b = true → A) (h' : b = false → B) : @brp b ⟨A⟩ ⟨B⟩ := by
  cases b with
  | true => exact brk_t ▸ h rfl
  | false => exact brk_f ▸ h' rfl
theorem nw_i {S : Sto} {k : Addr → Prop} (h : ∀ p, S p = none → k p) : @nwp S ⟨k⟩ := h
/-- a call -/
theorem cw_i {sp : DSp} {ds : List D} {S : Sto} {k : D → Sto → Prop} {x : Exc → Sto → Prop} (h : sp ds S k x) : @cwp sp ds S ⟨k, x⟩ := callW_of h
theorem fl_i {ds : List D} {σ : Env} {S : Sto} {g : Sto → Prop} {f : D → Env → Sto → KS → Prop} {k : KS} (h : forLoop g f ds σ S k) : @flp ds σ S ⟨g, f, k⟩ := h
theorem lc_i {ds : List D} {S : Sto} {g : Sto → Prop} {f : D → Sto → (Option D → Sto → Prop) → Prop} {k : List D → Sto → Prop} (h : lcLoop g f ds [] S k) : @lcp ds S ⟨g, f, k⟩ := h
theorem bO_i {o : Option α} {k : α → Prop} (d : α) (h : o = some d) (q : k d) : @bOp _ o ⟨k⟩ := ⟨d, h, q⟩
end
def attR (G : Gc) (u : D) (f : Str) (S : Sto) : Option D := match u with
  | .ref a => (match S a with
    | some (.ins c fs) => if G.fld c f = true then fs.lookup f else none
    | _ => none)
  | _ => none
def selR (c m : Str) (u : D) (S : Sto) : Option Unit := match u with
  | .ref a => (match S a with
    | some (.ins c' fs) => if c' = c then (match fs.lookup m with
      | none => some ()
      | some _ => none) else none
    | _ => none)
  | _ => none
def satR (G : Gc) (u : D) (f : Str) (v : D) (S : Sto) : Option Sto := match u with
  | .ref a => (match S a with
    | some (.ins c fs) => if G.fld c f = true then (if fs.length < 1000 then some (put S a (.ins c (pf f v fs))) else none) else none
    | _ => none)
  | _ => none
def intO : D → Option Int
  | .int i => some i
  | _ => none
theorem intO_int {i : Int} : intO (.int i) = some i := rfl
def agaR (u : D) (f : Str) (op : Operator) (i : Int) (v : D) (S : Sto) : Option Sto := match u with
  | .ref a => (match S a with
    | some (.ins c fs) => (augR op (.int i) v).bind fun d => if fs.length < 1000 then some (put S a (.ins c (pf f d fs))) else none
    | _ => none)
  | _ => none
section
variable {G : Gc} {x : XW} {σ : Env} {S : Sto} {k : D → Sto → Prop} {a b c e : ME} {m : Bool} {o o' : Operator}
theorem p_var {i : Nat} : wE G x (.var i) σ S k = @bOp _ ((σ[i]?).bind id) ⟨fun d => k d S⟩ := by
  rw [wE]
  refine propext ⟨?_, ?_⟩
  · rintro ⟨d, h, q⟩; exact ⟨d, by rw [h]; rfl, q⟩
  · rintro ⟨d, h, q⟩
    cases hh : σ[i]? with
    | none => rw [hh] at h; cases h
    | some z => rw [hh] at h; exact ⟨d, by rw [show z = some d from h], q⟩
theorem p_cst {d : D} : wE G x (.cst d) σ S k = k d S := by rw [wE]
theorem p_glo {n : Str} : wE G x (.glo n) σ S k = @bOp _ (G.con n) ⟨fun d => k d S⟩ := by rw [wE]; rfl
theorem p_bin : wE G x (.bin o m a b) σ S k = wE G x a σ S fun u S1 => wE G x b σ S1 fun v S2 => @bOp _ (binR o u v S2) ⟨fun r => fin m r S2 k⟩ := by rw [wE]; rfl
theorem p_neg : wE G x (.neg a) σ S k = wE G x a σ S fun u S1 => @bOp _ (intO u) ⟨fun i => k (.int (-i)) S1⟩ := by
  rw [wE]
  congr 1
  funext u S1
  refine propext ⟨?_, ?_⟩
  · rintro ⟨i, rfl, q⟩; exact ⟨i, rfl, q⟩
  · rintro ⟨i, h, q⟩
    cases u <;> first | (exact (nomatch (show (none : Option Int) = some i from h))) | (cases h; exact ⟨_, rfl, q⟩)
theorem p_not : wE G x (.not a) σ S k = wE G x a σ S fun u S1 => @bOp _ (tru S1 u) ⟨fun b => k (.bl (!b)) S1⟩ := by rw [wE]; rfl
theorem p_cmp {o : CmpOp} : wE G x (.cmp o a b) σ S k = wE G x a σ S fun u S1 => wE G x b σ S1 fun v S2 => @bOp _ (cmpR o u v S2) ⟨fun r => k (.bl r) S2⟩ := by rw [wE]; rfl
theorem p_cmp2 {o o' : CmpOp} : wE G x (.cmp2 o o' a b c) σ S k = wE G x a σ S fun u S1 => wE G x b σ S1 fun v S2 => @bOp _ (cmpR o u v S2) ⟨fun r => @brp r ⟨(wE G x c σ S2 fun z S3 => @bOp _ (cmpR o' v z S3) ⟨fun r' => k (.bl r') S3⟩)⟩ ⟨(k (.bl false) S2)⟩⟩ := by rw [wE]; rfl
theorem p_and : wE G x (.and a b) σ S k = wE G x a σ S fun u S1 => @bOp _ (tru S1 u) ⟨fun c => @brp c ⟨(wE G x b σ S1 k)⟩ ⟨(k u S1)⟩⟩ := by rw [wE]; rfl
theorem p_or : wE G x (.or a b) σ S k = wE G x a σ S fun u S1 => @bOp _ (tru S1 u) ⟨fun c => @brp c ⟨(k u S1)⟩ ⟨(wE G x b σ S1 k)⟩⟩ := by rw [wE]; rfl
theorem p_ifx : wE G x (.ifx c a b) σ S k = wE G x c σ S fun u S1 => @bOp _ (tru S1 u) ⟨fun z => @brp z ⟨(wE G x a σ S1 k)⟩ ⟨(wE G x b σ S1 k)⟩⟩ := by rw [wE]; rfl
theorem p_idx : wE G x (.idx a b) σ S k = wE G x a σ S fun u S1 => wE G x b σ S1 fun v S2 => @bOp _ (idxR u v S2) ⟨fun d => k d S2⟩ := by rw [wE]; rfl
theorem exInt {v : D} {P : Int → Prop} : (∃ i, v = .int i ∧ P i) = @bOp _ (intO v) ⟨P⟩ := by
  refine propext ⟨?_, ?_⟩
  · rintro ⟨i, rfl, q⟩; exact ⟨i, rfl, q⟩
  · rintro ⟨i, h, q⟩
    cases v <;> first | (exact (nomatch (show (none : Option Int) = some i from h))) | (cases h; exact ⟨_, rfl, q⟩)
theorem p_slL : wE G x (.slL m a b) σ S k = wE G x a σ S fun u S1 => wE G x b σ S1 fun v S2 => @bOp _ (intO v) ⟨fun i => @bOp _ (slcR u (some i) none S2) ⟨fun r => fin m r S2 k⟩⟩ := by
  rw [wE]; congr 1; funext u S1; congr 1; funext v S2; rw [exInt]; rfl
theorem p_slU : wE G x (.slU m a b) σ S k = wE G x a σ S fun u S1 => wE G x b σ S1 fun v S2 => @bOp _ (intO v) ⟨fun i => @bOp _ (slcR u none (some i) S2) ⟨fun r => fin m r S2 k⟩⟩ := by
  rw [wE]; congr 1; funext u S1; congr 1; funext v S2; rw [exInt]; rfl
theorem p_slLU : wE G x (.slLU m a b c) σ S k = wE G x a σ S fun u S1 => wE G x b σ S1 fun v S2 => @bOp _ (intO v) ⟨fun i => wE G x c σ S2 fun z S3 => @bOp _ (intO z) ⟨fun j => @bOp _ (slcR u (some i) (some j) S3) ⟨fun r => fin m r S3 k⟩⟩⟩ := by
  rw [wE]; congr 1; funext u S1; congr 1; funext v S2; rw [exInt]; show (∃ i, _ = some i ∧ _) = (∃ i, _ = some i ∧ _); congr 1; funext i; congr 1; show wE G x c σ S2 _ = wE G x c σ S2 _; congr 1; funext z S3; rw [exInt]; rfl
theorem p_tup {es : List ME} : wE G x (.tup es) σ S k = wEs G x es σ S fun ds S1 => ds.length ≤ sizeLine ∧ k (.tup ds) S1 := by rw [wE]
theorem p_lstF {es : List ME} : wE G x (.lst false es) σ S k = wEs G x es σ S fun ds S1 => ds.length ≤ sizeLine ∧ k (.lst ds) S1 := by rw [wE]; rfl
theorem p_lstT {es : List ME} : wE G x (.lst true es) σ S k = wEs G x es σ S fun ds S1 => ds.length ≤ sizeLine ∧ @nwp S1 ⟨fun p => k (.ref p) (put S1 p (.lst ds))⟩ := by rw [wE]; rfl
theorem p_blt {f : Bf} {es : List ME} : wE G x (.blt f m es) σ S k = wEs G x es σ S fun ds S1 => @bOp _ (bltR f ds S1) ⟨fun r => fin m r S1 k⟩ := by rw [wE]; rfl
def tO (b : Bool) : Option Unit := if b = true then some () else none
theorem tO_t : tO true = some () := rfl
theorem exT {b : Bool} {P : Prop} : (b = true ∧ P) = @bOp _ (tO b) ⟨fun _ => P⟩ := by
  cases b
  · exact propext ⟨fun h => (by cases h.1), fun ⟨_, h, _⟩ => (by cases h)⟩
  · exact propext ⟨fun h => ⟨(), rfl, h.2⟩, fun ⟨_, _, h⟩ => ⟨rfl, h⟩⟩
theorem p_bm {f : Bm} {es : List ME} : wE G x (.bm f m a es) σ S k = wE G x a σ S fun u S1 => @bOp _ (tO (bmT f u S1)) ⟨fun _ => wEs G x es σ S1 fun ds S2 => @bOp _ (bmR f u ds S2) ⟨fun r => fin m r S2 k⟩⟩ := by
  rw [wE]; congr 1; funext u S1; rw [← exT]; rfl
theorem p_call {f : Str} {es : List ME} : wE G x (.call f es) σ S k = @bFp _ (G.fn f) es.length ⟨fun sp => wEs G x es σ S fun ds S1 => @cwp sp ds S1 ⟨k, fun e S2 => x e σ S2⟩⟩ := by rw [wE]; rfl
theorem p_lc {i : Nat} {t : MT} {as c : List ME} : wE G x (.lc i m t as c e) σ S k = wEs G x as σ S fun ds S1 => @bOp _ (itS i ds S1) ⟨fun its => @lcp its.1 S1 ⟨its.2, fun d S2 q => ∃ σ', asgT t d σ = some σ' ∧ wC G c σ' S2 fun b S3 => if b = true then wE G (fun _ _ _ => False) e σ' S3 fun y S4 => q (some y) S4 else q none S3, fun acc S2 => fin m (.newL acc) S2 k⟩⟩ := by rw [wE]; rfl
theorem p_att {f : Str} : wE G x (.att a f) σ S k = wE G x a σ S fun u S1 => @bOp _ (attR G u f S1) ⟨fun d => k d S1⟩ := by
  rw [wE]; congr 1; funext u S1
  refine propext ⟨?_, ?_⟩
  · rintro ⟨a, c, fs, d, rfl, h1, h2, h3, q⟩
    refine ⟨d, ?_, q⟩
    show (match S1 a with | some (.ins c fs) => if G.fld c f = true then fs.lookup f else none | _ => none) = _
    rw [h1]; show (if _ then _ else _) = _; rw [if_pos h2]; exact h3
  · rintro ⟨d, h, q⟩
    unfold attR at h
    split at h
    · rename_i a
      split at h
      · rename_i c fs e
        split at h
        · rename_i z; exact ⟨a, c, fs, d, rfl, e, z, h, q⟩
        · cases h
      · cases h
    · cases h
theorem p_mth {cl f : Str} {es : List ME} : wE G x (.mth cl a f es) σ S k = @bFp _ (G.mt cl f) (es.length + 1) ⟨fun sp => wE G x a σ S fun u S1 => @bOp _ (selR cl f u S1) ⟨fun _ => wEs G x es σ S1 fun ds S2 => @cwp sp (u :: ds) S2 ⟨k, fun e S3 => x e σ S3⟩⟩⟩ := by
  rw [wE]
  show (∃ sp, _ = some (_, sp) ∧ _) = (∃ sp, _ = some (_, sp) ∧ _)
  congr 1; funext sp; congr 1; congr 1; funext u S1
  refine propext ⟨?_, ?_⟩
  · rintro ⟨a, fs, rfl, h1, h2, q⟩
    refine ⟨(), ?_, q⟩
    show (match S1 a with | some (.ins c' fs) => if c' = cl then (match fs.lookup f with | none => some () | some _ => none) else none | _ => none) = _
    rw [h1]; show (if _ then _ else _) = _; rw [if_pos rfl, h2]
  · rintro ⟨_, h, q⟩
    unfold selR at h
    split at h
    · rename_i a
      split at h
      · rename_i c fs e
        split at h
        · rename_i z
          subst z
          split at h
          · rename_i e2; exact ⟨a, fs, rfl, e, e2, q⟩
          · cases h
        · cases h
      · cases h
    · cases h
theorem p_mk {cl : Str} {es : List ME} : wE G x (.mk cl es) σ S k = @bFp _ (G.mkr cl) (es.length + 1) ⟨fun sp => wEs G x es σ S fun ds S1 => @nwp S1 ⟨fun p => @cwp sp (.ref p :: ds) (put S1 p (.ins cl [])) ⟨fun v S2 => v = .non ∧ k (.ref p) S2, fun _ _ => False⟩⟩⟩ := by rw [wE]; rfl
theorem p_dct {kvs : List (Str × D)} : wE G x (.dct kvs) σ S k = @nwp S ⟨fun p => k (.ref p) (put S p (.dct (kvs.foldl (fun acc kv => gp acc (.inr kv.1) kv.2) [])))⟩ := by rw [wE]; rfl
theorem p_nil {k : List D → Sto → Prop} : wEs G x [] σ S k = k [] S := by rw [wEs]
theorem p_cons {es : List ME} {k : List D → Sto → Prop} : wEs G x (e :: es) σ S k = wE G x e σ S fun d S1 => wEs G x es σ S1 fun ds S2 => k (d :: ds) S2 := by rw [wEs]
theorem p_newT {ds : List D} : fin true (.newL ds) S k = @nwp S ⟨fun p => k (.ref p) (put S p (.lst ds))⟩ := rfl
theorem p_newD {kvs : List (Key × D)} : fin m (.newD kvs) S k = @nwp S ⟨fun p => k (.ref p) (put S p (.dct kvs))⟩ := rfl
theorem p_pure {f : List D → Option D} {ds : List D} {x : Exc → Sto → Prop} : @cwp (spPure f) ds S ⟨k, x⟩ = @bOp _ (f ds) ⟨fun d => k d S⟩ := propext x_pure
end
section
variable {G : Gc} {x : XW} {σ : Env} {S : Sto} {k : KS} {c e a : ME} {o : Operator}
theorem q_nil : wSs G x [] σ S k = k.nx σ S := by rw [wSs]
theorem q_cons {s : MS} {r : List MS} : wSs G x (s :: r) σ S k = wS G x s σ S { nx := fun σ' S' => wSs G x r σ' S' k, rt := k.rt, bk := k.bk, ct := k.ct } := by rw [wSs]
theorem q_asg {t : MT} : wS G x (.asg t e) σ S k = wE G x e σ S fun d S1 => @bOp _ (asgT t d σ) ⟨fun σ' => k.nx σ' S1⟩ := by rw [wS]; rfl
theorem q_six : wS G x (.six a c e) σ S k = wE G x e σ S fun v S1 => wE G x a σ S1 fun u S2 => wE G x c σ S2 fun j S3 => @bOp _ (sixR u j v S3) ⟨fun S' => k.nx σ S'⟩ := by rw [wS]; rfl
theorem q_aug {i : Nat} : wS G x (.aug i o e) σ S k = @bOp _ ((σ[i]?).bind id) ⟨fun u => wE G x e σ S fun v S1 => @bOp _ (augR o u v) ⟨fun d => k.nx (σ.set i (some d)) S1⟩⟩ := by
  rw [wS]
  refine propext ⟨?_, ?_⟩
  · rintro ⟨d, h, q⟩; exact ⟨d, by rw [h]; rfl, q⟩
  · rintro ⟨d, h, q⟩
    cases hh : σ[i]? with
    | none => rw [hh] at h; cases h
    | some z => rw [hh] at h; exact ⟨d, by rw [show z = some d from h], q⟩
theorem q_exp : wS G x (.exp e) σ S k = wE G x e σ S fun _ S1 => k.nx σ S1 := by rw [wS]
theorem q_ret : wS G x (.ret e) σ S k = wE G x e σ S k.rt := by rw [wS]
theorem q_ite {a b : List MS} : wS G x (.ite c a b) σ S k = wE G x c σ S fun u S1 => @bOp _ (tru S1 u) ⟨fun z => @brp z ⟨(wSs G x a σ S1 k)⟩ ⟨(wSs G x b σ S1 k)⟩⟩ := by rw [wS]; rfl
theorem q_for {i : Nat} {t : MT} {as : List ME} {b : List MS} : wS G x (.for_ i t as b) σ S k = wEs G x as σ S fun ds S1 => @bOp _ (itS i ds S1) ⟨fun its => @flp its.1 σ S1 ⟨its.2, fun d σ2 S2 q => ∃ σ', asgT t d σ2 = some σ' ∧ wSs G x b σ' S2 q, k⟩⟩ := by rw [wS]; rfl
theorem q_pas : wS G x .pas σ S k = k.nx σ S := by rw [wS]
theorem q_cont : wS G x .cont σ S k = k.ct σ S := by rw [wS]
theorem q_frS {i : Nat} : wS G x (.frS i) σ S k = ∃ a ds, σ[i]? = some (some (.ref a)) ∧ S a = some (.lst ds) ∧ k.nx (σ.set i (some (.lst ds))) (rm S a) := by rw [wS]
theorem q_sat {f : Str} : wS G x (.sat a f e) σ S k = wE G x e σ S fun v S1 => wE G x a σ S1 fun u S2 => @bOp _ (satR G u f v S2) ⟨fun S' => k.nx σ S'⟩ := by
  rw [wS]; congr 1; funext v S1; congr 1; funext u S2
  refine propext ⟨?_, ?_⟩
  · rintro ⟨a, c, fs, rfl, h1, h2, h3, q⟩
    refine ⟨_, ?_, q⟩
    show (match S2 a with | some (.ins c fs) => if G.fld c f = true then (if fs.length < 1000 then some (put S2 a (.ins c (pf f v fs))) else none) else none | _ => none) = _
    rw [h1]; show (if _ then _ else _) = _; rw [if_pos h2, if_pos h3]
  · rintro ⟨S', h, q⟩
    unfold satR at h
    split at h
    · rename_i a
      split at h
      · rename_i c fs e
        split at h
        · rename_i z
          split at h
          · rename_i z2; cases h; exact ⟨a, c, fs, rfl, e, z, z2, q⟩
          · cases h
        · cases h
      · cases h
    · cases h
theorem q_rai {cl : Str} {es : List ME} : wS G x (.rai cl es) σ S k = @bFp _ (G.exc cl) es.length ⟨fun F => wEs G x es σ S fun ds S1 => x ⟨cl, F ds⟩ σ S1⟩ := by rw [wS]; rfl
theorem q_tri {b : List MS} {cl : Str} {i : Option Nat} {q : List QS} : wS G x (.tri b cl i q) σ S k = (G.sub cl cl = some true ∧ wSs G (catch_ G x cl i q k) b σ S k) := by rw [wS]
end
section
variable {G : Gc} {a : Addr} {S : Sto} {f c : Str} {v d : D}
theorem p_attR : attR G (.ref a) f S = match S a with
    | some (.ins c fs) => if G.fld c f = true then fs.lookup f else none
    | _ => none := rfl
theorem p_selR : selR c f (.ref a) S = match S a with
    | some (.ins c' fs) => if c' = c then (match fs.lookup f with
      | none => some ()
      | some _ => none) else none
    | _ => none := rfl
theorem p_satR : satR G (.ref a) f v S = match S a with
    | some (.ins c fs) => if G.fld c f = true then (if fs.length < 1000 then some (put S a (.ins c (pf f v fs))) else none) else none
    | _ => none := rfl
theorem p_bool {b : Bool} : (decide (b = true)) = b := by cases b <;> rfl
end
section
variable {a b : Addr} {S : Sto} {ds es : List D}
theorem r_addRL : binR .Add (.ref a) (.lst es) S = match S a with
    | some (.lst ds) => if ds.length + es.length ≤ sizeLine then some (.newL (ds ++ es)) else none
    | _ => none := by
  show (match lstAt S a, some es with | some ds, some es => _ | _, _ => none) = _
  unfold lstAt
  cases S a with
  | none => rfl
  | some m => cases m <;> rfl
theorem r_addLR : binR .Add (.lst es) (.ref a) S = match S a with
    | some (.lst ds) => if es.length + ds.length ≤ sizeLine then some (.newL (es ++ ds)) else none
    | _ => none := by
  show (match some es, lstAt S a with | some ds, some es => _ | _, _ => none) = _
  unfold lstAt
  cases S a with
  | none => rfl
  | some m => cases m <;> rfl
end
theorem sl0 : (0 ≤ sizeLine) = True := eq_true (by decide)
theorem sm0 : (0 < sizeLine) = True := eq_true (by decide)
theorem sl1 : (1 ≤ sizeLine) = True := eq_true (by decide)
theorem sm1 : (1 < sizeLine) = True := eq_true (by decide)
theorem sl2 : (2 ≤ sizeLine) = True := eq_true (by decide)
theorem sm2 : (2 < sizeLine) = True := eq_true (by decide)
theorem sl3 : (3 ≤ sizeLine) = True := eq_true (by decide)
theorem sm3 : (3 < sizeLine) = True := eq_true (by decide)
theorem sl4 : (4 ≤ sizeLine) = True := eq_true (by decide)
theorem sm4 : (4 < sizeLine) = True := eq_true (by decide)
theorem sl5 : (5 ≤ sizeLine) = True := eq_true (by decide)
theorem sm5 : (5 < sizeLine) = True := eq_true (by decide)
theorem sl6 : (6 ≤ sizeLine) = True := eq_true (by decide)
theorem sm6 : (6 < sizeLine) = True := eq_true (by decide)
theorem sl7 : (7 ≤ sizeLine) = True := eq_true (by decide)
theorem sm7 : (7 < sizeLine) = True := eq_true (by decide)
theorem sl8 : (8 ≤ sizeLine) = True := eq_true (by decide)
theorem sm8 : (8 < sizeLine) = True := eq_true (by decide)
theorem sl9 : (9 ≤ sizeLine) = True := eq_true (by decide)
theorem sm9 : (9 < sizeLine) = True := eq_true (by decide)
theorem sl10 : (10 ≤ sizeLine) = True := eq_true (by decide)
theorem sm10 : (10 < sizeLine) = True := eq_true (by decide)
theorem sl11 : (11 ≤ sizeLine) = True := eq_true (by decide)
theorem sm11 : (11 < sizeLine) = True := eq_true (by decide)
theorem sl12 : (12 ≤ sizeLine) = True := eq_true (by decide)
theorem sm12 : (12 < sizeLine) = True := eq_true (by decide)
end Mn
namespace Mn
open PySem L2
/-! ### where the head's facts stand -/
theorem hgG {fa : List He.Fa} {f : Str} {i : Nat} (h : fa[i]? = some (.glo f)) : ∀ z ∈ atFa (f, none), z ∈ fa := fun z hz => by
  rw [List.mem_singleton.mp (show z ∈ [He.Fa.glo f] from hz)]
  exact List.mem_of_getElem? h
theorem hgM {fa : List He.Fa} {c m : Str} {i j : Nat} (hm : m ≠ "__init__") (h1 : fa[i]? = some (.cls c)) (h2 : fa[j]? = some (.meth c m)) : ∀ z ∈ atFa (c, some m), z ∈ fa := fun z hz => by
  have e : atFa (c, some m) = [.cls c, .meth c m] := if_neg hm
  rw [e] at hz
  rcases List.mem_cons.mp hz with rfl | hz
  · exact List.mem_of_getElem? h1
  · rw [List.mem_singleton.mp hz]; exact List.mem_of_getElem? h2
theorem hgI {fa : List He.Fa} {c : Str} {i j k : Nat} (h1 : fa[i]? = some (.glo c)) (h2 : fa[j]? = some (.cls c)) (h3 : fa[k]? = some (.mkr c)) : ∀ z ∈ atFa (c, some "__init__"), z ∈ fa := fun z hz => by
  have e : atFa (c, some "__init__") = [.glo c, .cls c, .mkr c] := by unfold atFa; exact if_pos rfl
  rw [e] at hz
  rcases List.mem_cons.mp hz with rfl | hz
  · exact List.mem_of_getElem? h1
  rcases List.mem_cons.mp hz with rfl | hz
  · exact List.mem_of_getElem? h2
  · rw [List.mem_singleton.mp hz]; exact List.mem_of_getElem? h3
end Mn

namespace Mn
open PySem L2
/-! ### cells of the store -/
abbrev Cell := Addr × MO
structure Hd (S : Sto) (L : List Cell) : Prop where
  nd : (L.map (·.1)).Nodup
  at_ : ∀ q ∈ L, S q.1 = some q.2
namespace Hd
variable {S : Sto} {L L1 L2 L3 : List Cell} {a p : Addr} {m m' : MO}
theorem get (h : Hd S L) {a : Addr} {m : MO} (q : (a, m) ∈ L) : S a = some m := h.at_ _ q
theorem nil : Hd S [] := ⟨List.nodup_nil, fun _ h => nomatch h⟩
theorem perm (h : Hd S L) (q : L.Perm L1) : Hd S L1 := ⟨(q.map _).nodup_iff.mp h.nd, fun x hx => h.at_ x (q.mem_iff.mpr hx)⟩
theorem ne (h : Hd S (L1 ++ (a, m) :: L2)) : ∀ q ∈ L1 ++ L2, q.1 ≠ a := by
  have hn := h.nd
  rw [List.map_append, List.map_cons, List.nodup_append] at hn
  obtain ⟨h1, h2, h3⟩ := hn
  intro q hq e
  rcases List.mem_append.mp hq with z | z
  · exact h3 _ (List.mem_map.mpr ⟨q, z, rfl⟩) a List.mem_cons_self e
  · exact (List.nodup_cons.mp h2).1 (List.mem_map.mpr ⟨q, z, e⟩)
theorem upd (h : Hd S (L1 ++ (a, m) :: L2)) (m' : MO) : Hd (put S a m') (L1 ++ (a, m') :: L2) := by
  have hne := h.ne
  refine ⟨?_, fun q hq => ?_⟩
  · have := h.nd
    rw [List.map_append, List.map_cons] at this ⊢
    exact this
  · rcases List.mem_append.mp hq with z | z
    · rw [put_ne (hne q (List.mem_append_left _ z))]
      exact h.at_ q (List.mem_append_left _ z)
    · rcases List.mem_cons.mp z with rfl | z
      · exact put_same
      · rw [put_ne (hne q (List.mem_append_right _ z))]
        exact h.at_ q (List.mem_append_right _ (List.mem_cons_of_mem _ z))
theorem new (h : Hd S L) (hp : S p = none) (m : MO) : Hd (put S p m) ((p, m) :: L) := by
  have hne : ∀ q ∈ L, q.1 ≠ p := fun q hq e => by
    have := h.at_ q hq
    rw [e, hp] at this
    cases this
  refine ⟨List.nodup_cons.mpr ⟨fun z => ?_, h.nd⟩, fun q hq => ?_⟩
  · obtain ⟨q, hq, e⟩ := List.mem_map.mp z
    exact hne q hq e
  · rcases List.mem_cons.mp hq with rfl | hq
    · exact put_same
    · rw [put_ne (hne q hq)]
      exact h.at_ q hq
theorem sub (h : Hd S L) (q : L1.Sublist L) : Hd S L1 := ⟨h.nd.sublist (q.map _), fun x hx => h.at_ x (q.subset hx)⟩
theorem swap (h : Hd S (L1 ++ (L2 ++ L3))) : Hd S (L2 ++ (L1 ++ L3)) := h.perm (by
  rw [← List.append_assoc, ← List.append_assoc]
  exact (List.perm_append_comm).append_right _)
theorem right (h : Hd S (L1 ++ L2)) : Hd S L2 := h.sub (List.sublist_append_right _ _)
theorem left (h : Hd S (L1 ++ L2)) : Hd S L1 := h.sub (List.sublist_append_left _ _)
/-- two cells differ -/
theorem ne2 (h : Hd S L) {b : Addr} {m2 : MO} (q1 : (a, m) ∈ L) (q2 : (b, m2) ∈ L) (d : m ≠ m2) : a ≠ b := fun e => by
  subst e
  have h1 := h.get q1
  rw [h.get q2] at h1
  exact d (Option.some.inj h1).symm
end Hd
/-! ### the hall -/
structure Bl where
  drawer : Str
  drawee : Str
  payee : Str
  amount : Int
  due : Int
  slip : Row
  keeper : Str
  stage : Str
  edition : Int
  blank : Bool
abbrev Hs := List (Str × (Int × Bool))
structure Ha where
  hs : Hs
  clock : Int
  bills : List Bl
  done : List D
/-- purses by themselves -/
abbrev Ps := List (Str × Int)
def pkD (p : Ps) : List (Key × D) := p.map fun q => (.inr q.1, .int q.2)
def lp (p : Ps) (n : Str) : Option Int := (p.find? fun q => decide (q.1 = n)).map (·.2)
def setP (p : Ps) (n : Str) (c : Int) : Ps := if (lp p n).isSome = true then p.map (fun q => if q.1 = n then (q.1, c) else q) else p ++ [(n, c)]
theorem lp_cons {q : Str × Int} {p : Ps} {n : Str} : lp (q :: p) n = if q.1 = n then some q.2 else lp p n := by
  unfold lp
  by_cases h : q.1 = n <;> simp [List.find?_cons, h]
theorem gv_pk : ∀ (p : Ps) (n : Str), gv (pkD p) (.inr n) = (lp p n).map .int
  | [], n => rfl
  | q :: p, n => by
    show gv ((Sum.inr q.1, D.int q.2) :: pkD p) (.inr n) = _
    rw [lp_cons]
    by_cases h : q.1 = n
    · rw [gv_pos (by rw [h]), if_pos h]; rfl
    · rw [gv_neg (by simpa using h), if_neg h, gv_pk p n]
theorem any_pk (p : Ps) (n : Str) : ((pkD p).any fun kv => decide (kv.1 = (.inr n : Key))) = (lp p n).isSome := by
  induction p with
  | nil => rfl
  | cons q p ih =>
    show (decide ((Sum.inr q.1 : Key) = .inr n) || (pkD p).any _) = _
    rw [ih, lp_cons]
    by_cases h : q.1 = n
    · simp [h]
    · simp [h]
theorem gp_pk (p : Ps) (n : Str) (c : Int) : gp (pkD p) (.inr n) (.int c) = pkD (setP p n c) := by
  unfold gp setP
  rw [any_pk]
  split
  · unfold pkD
    rw [List.map_map, List.map_map]
    refine List.map_congr_left fun q _ => ?_
    simp only [Function.comp]
    by_cases e : q.1 = n <;> simp [e]
  · simp [pkD]
theorem len_pk (p : Ps) : (pkD p).length = p.length := by unfold pkD; rw [List.length_map]
def coinsOf (hs : Hs) : Ps := hs.map fun q => (q.1, q.2.1)
def heldK (hs : Hs) : List (Key × D) := pkD (coinsOf hs)
def downK (hs : Hs) : List (Key × D) := hs.map fun q => (.inr q.1, .bl q.2.2)
def lk (hs : Hs) (n : Str) : Option (Int × Bool) := (hs.find? fun q => decide (q.1 = n)).map (·.2)
def setC (hs : Hs) (n : Str) (c : Int) : Hs := hs.map fun q => if q.1 = n then (q.1, (c, q.2.2)) else q
def setF (hs : Hs) (n : Str) (b : Bool) : Hs := hs.map fun q => if q.1 = n then (q.1, (q.2.1, b)) else q
theorem lk_nil {n : Str} : lk [] n = none := rfl
theorem lk_cons {q : Str × (Int × Bool)} {hs : Hs} {n : Str} : lk (q :: hs) n = if q.1 = n then some q.2 else lk hs n := by
  unfold lk
  by_cases h : q.1 = n <;> simp [List.find?_cons, h]
theorem lp_coins : ∀ (hs : Hs) (n : Str), lp (coinsOf hs) n = (lk hs n).map (·.1)
  | [], n => rfl
  | q :: hs, n => by
    show lp ((q.1, q.2.1) :: coinsOf hs) n = _
    rw [lp_cons, lk_cons]
    by_cases h : q.1 = n
    · rw [if_pos h, if_pos h]; rfl
    · rw [if_neg h, if_neg h, lp_coins hs n]
theorem gv_held (hs : Hs) (n : Str) : gv (heldK hs) (.inr n) = (lk hs n).map fun q => .int q.1 := by
  unfold heldK
  rw [gv_pk, lp_coins]
  cases lk hs n <;> rfl
theorem gv_down : ∀ (hs : Hs) (n : Str), gv (downK hs) (.inr n) = (lk hs n).map fun q => .bl q.2
  | [], n => rfl
  | q :: hs, n => by
    show gv ((Sum.inr q.1, D.bl q.2.2) :: downK hs) (.inr n) = _
    rw [lk_cons]
    by_cases h : q.1 = n
    · rw [gv_pos (by rw [h]), if_pos h]; rfl
    · rw [gv_neg (by simpa using h), if_neg h, gv_down hs n]
theorem any_down (hs : Hs) (n : Str) : ((downK hs).any fun kv => decide (kv.1 = (.inr n : Key))) = (lk hs n).isSome := by
  induction hs with
  | nil => rfl
  | cons q hs ih =>
    show (decide ((Sum.inr q.1 : Key) = .inr n) || (downK hs).any _) = _
    rw [ih, lk_cons]
    by_cases h : q.1 = n
    · simp [h]
    · simp [h]
theorem setP_coins {hs : Hs} {n : Str} {c : Int} (h : (lk hs n).isSome = true) : setP (coinsOf hs) n c = coinsOf (setC hs n c) := by
  unfold setP
  rw [lp_coins, Option.isSome_map, if_pos h]
  unfold coinsOf setC
  rw [List.map_map, List.map_map]
  refine List.map_congr_left fun q _ => ?_
  simp only [Function.comp]
  by_cases e : q.1 = n <;> simp [e]
theorem gp_held {hs : Hs} {n : Str} {c : Int} (h : (lk hs n).isSome = true) : gp (heldK hs) (.inr n) (.int c) = heldK (setC hs n c) := by
  unfold heldK
  rw [gp_pk, setP_coins h]
theorem gp_down {hs : Hs} {n : Str} {b : Bool} (h : (lk hs n).isSome = true) : gp (downK hs) (.inr n) (.bl b) = downK (setF hs n b) := by
  unfold gp
  rw [any_down, if_pos h]
  unfold downK setF
  rw [List.map_map, List.map_map]
  refine List.map_congr_left fun q _ => ?_
  simp only [Function.comp]
  by_cases e : q.1 = n <;> simp [e]
theorem setP_coinsN {hs : Hs} {n : Str} {c : Int} {b : Bool} (h : lk hs n = none) : setP (coinsOf hs) n c = coinsOf (hs ++ [(n, (c, b))]) := by
  unfold setP
  rw [lp_coins, h, if_neg (by simp)]
  simp [coinsOf]
theorem gp_heldN {hs : Hs} {n : Str} {c : Int} {b : Bool} (h : lk hs n = none) : gp (heldK hs) (.inr n) (.int c) = heldK (hs ++ [(n, (c, b))]) := by
  unfold heldK
  rw [gp_pk, setP_coinsN h]
theorem gp_downN {hs : Hs} {n : Str} {c : Int} {b : Bool} (h : lk hs n = none) : gp (downK hs) (.inr n) (.bl b) = downK (hs ++ [(n, (c, b))]) := by
  unfold gp
  rw [any_down, h, if_neg (by simp)]
  simp [downK]
theorem down_setC (hs : Hs) (n : Str) (c : Int) : downK (setC hs n c) = downK hs := by
  unfold downK setC
  rw [List.map_map]
  refine List.map_congr_left fun q _ => ?_
  simp only [Function.comp]
  by_cases e : q.1 = n <;> simp [e]
theorem held_setF (hs : Hs) (n : Str) (b : Bool) : heldK (setF hs n b) = heldK hs := by
  unfold heldK
  refine congrArg pkD ?_
  unfold coinsOf setF
  rw [List.map_map]
  refine List.map_congr_left fun q _ => ?_
  simp only [Function.comp]
  by_cases e : q.1 = n <;> simp [e]
theorem len_held (hs : Hs) : (heldK hs).length = hs.length := by unfold heldK coinsOf; rw [len_pk, List.length_map]
theorem len_down (hs : Hs) : (downK hs).length = hs.length := by unfold downK; rw [List.length_map]
theorem ks_pk (p : Ps) : ksOf (pkD p) = some (p.map (·.1)) := by
  induction p with
  | nil => rfl
  | cons q p ih =>
    show (match ksOf (pkD p) with | some l => some (q.1 :: l) | none => none) = _
    rw [ih]; rfl
theorem ks_held (hs : Hs) : ksOf (heldK hs) = some (hs.map (·.1)) := by
  unfold heldK coinsOf
  rw [ks_pk, List.map_map]; rfl
theorem ks_down (hs : Hs) : ksOf (downK hs) = some (hs.map (·.1)) := by
  induction hs with
  | nil => rfl
  | cons q hs ih =>
    show (match ksOf (downK hs) with | some l => some (q.1 :: l) | none => none) = _
    rw [ih]; rfl
/-- a bill's fields -/
def billF (b : Bl) (sa : Addr) : List (Str × D) := [("drawer", .str b.drawer), ("drawee", .str b.drawee), ("payee", .str b.payee), ("amount", .int b.amount), ("due", .int b.due), ("slip", .ref sa), ("keeper", .str b.keeper), ("stage", .str b.stage), ("edition", .int b.edition), ("blank", .bl b.blank)]
/-- a bill where it stands: its address, its slip's -/
abbrev Gb := Addr × (Addr × Bl)
def billC (g : Gb) : List Cell := [(g.1, .ins "Bill" (billF g.2.2 g.2.1)), (g.2.1, .lst (rowD g.2.2.slip))]
def billsC (l : List Gb) : List Cell := l.flatMap billC
structure Gh where
  a : Addr
  ca : Addr
  ha : Addr
  da : Addr
  ba : Addr
  na : Addr
  hs : Hs
  clock : Int
  bills : List Gb
  done : List D
def Gh.er (g : Gh) : Ha := ⟨g.hs, g.clock, g.bills.map (·.2.2), g.done⟩
def hallF (g : Gh) : List (Str × D) := [("chest", .ref g.ca), ("down", .ref g.da), ("clock", .int g.clock), ("bills", .ref g.ba), ("done", .ref g.na)]
def pursesF (ha : Addr) : List (Str × D) := [("held", .ref ha)]
def refsB (l : List Gb) : List D := l.map fun g => .ref g.1
def purC (ca ha : Addr) (p : List (Key × D)) : List Cell := [(ca, .ins "Purses" (pursesF ha)), (ha, .dct p)]
def hallC (g : Gh) : List Cell := (g.a, .ins "Hall" (hallF g)) :: (g.ca, .ins "Purses" (pursesF g.ha)) :: (g.ha, .dct (heldK g.hs)) :: (g.da, .dct (downK g.hs)) :: (g.ba, .lst (refsB g.bills)) :: (g.na, .lst g.done) :: billsC g.bills
/-! ### fields -/
def fldA (c f : Str) : Bool := decide ((c, f) ∈ fldL)
section
variable {b : Bl} {sa ha x : Addr} {g : Gh} {s : Str} {i : Int} {t : Bool}
theorem fl_held : fldA "Purses" "held" = true := by decide +kernel
theorem fl_chest : fldA "Hall" "chest" = true := by decide +kernel
theorem fl_down : fldA "Hall" "down" = true := by decide +kernel
theorem fl_clock : fldA "Hall" "clock" = true := by decide +kernel
theorem fl_bills : fldA "Hall" "bills" = true := by decide +kernel
theorem fl_done : fldA "Hall" "done" = true := by decide +kernel
theorem fl_drawer : fldA "Bill" "drawer" = true := by decide +kernel
theorem fl_drawee : fldA "Bill" "drawee" = true := by decide +kernel
theorem fl_payee : fldA "Bill" "payee" = true := by decide +kernel
theorem fl_amount : fldA "Bill" "amount" = true := by decide +kernel
theorem fl_due : fldA "Bill" "due" = true := by decide +kernel
theorem fl_slip : fldA "Bill" "slip" = true := by decide +kernel
theorem fl_keeper : fldA "Bill" "keeper" = true := by decide +kernel
theorem fl_stage : fldA "Bill" "stage" = true := by decide +kernel
theorem fl_edition : fldA "Bill" "edition" = true := by decide +kernel
theorem fl_blank : fldA "Bill" "blank" = true := by decide +kernel
theorem lu_held : (pursesF ha).lookup ("held" : Str) = some (.ref ha) := by kernel_rfl
theorem lu_chest : (hallF g).lookup ("chest" : Str) = some (.ref g.ca) := by kernel_rfl
theorem lu_down : (hallF g).lookup ("down" : Str) = some (.ref g.da) := by kernel_rfl
theorem lu_clock : (hallF g).lookup ("clock" : Str) = some (.int g.clock) := by kernel_rfl
theorem lu_bills : (hallF g).lookup ("bills" : Str) = some (.ref g.ba) := by kernel_rfl
theorem lu_done : (hallF g).lookup ("done" : Str) = some (.ref g.na) := by kernel_rfl
theorem lu_drawer : (billF b sa).lookup ("drawer" : Str) = some (.str b.drawer) := by kernel_rfl
theorem lu_drawee : (billF b sa).lookup ("drawee" : Str) = some (.str b.drawee) := by kernel_rfl
theorem lu_payee : (billF b sa).lookup ("payee" : Str) = some (.str b.payee) := by kernel_rfl
theorem lu_amount : (billF b sa).lookup ("amount" : Str) = some (.int b.amount) := by kernel_rfl
theorem lu_due : (billF b sa).lookup ("due" : Str) = some (.int b.due) := by kernel_rfl
theorem lu_slip : (billF b sa).lookup ("slip" : Str) = some (.ref sa) := by kernel_rfl
theorem lu_keeper : (billF b sa).lookup ("keeper" : Str) = some (.str b.keeper) := by kernel_rfl
theorem lu_stage : (billF b sa).lookup ("stage" : Str) = some (.str b.stage) := by kernel_rfl
theorem lu_edition : (billF b sa).lookup ("edition" : Str) = some (.int b.edition) := by kernel_rfl
theorem lu_blank : (billF b sa).lookup ("blank" : Str) = some (.bl b.blank) := by kernel_rfl
theorem pf_stage : pf ("stage" : Str) (.str s) (billF b sa) = billF { b with stage := s } sa := by kernel_rfl
theorem pf_keeper : pf ("keeper" : Str) (.str s) (billF b sa) = billF { b with keeper := s } sa := by kernel_rfl
theorem pf_edition : pf ("edition" : Str) (.int i) (billF b sa) = billF { b with edition := i } sa := by kernel_rfl
theorem pf_blank : pf ("blank" : Str) (.bl t) (billF b sa) = billF { b with blank := t } sa := by kernel_rfl
theorem pf_slip : pf ("slip" : Str) (.ref x) (billF b sa) = billF b x := by kernel_rfl
theorem pf_clock : pf ("clock" : Str) (.int i) (hallF g) = hallF { g with clock := i } := by kernel_rfl
theorem len_pursesF : (pursesF ha).length = 1 := rfl
theorem len_hallF : (hallF g).length = 5 := rfl
theorem len_billF : (billF b sa).length = 10 := rfl
end
/-! ### exceptions, wrapped hopes -/
def ExOf (c : Str) (e : Exc) : Prop := e.cls = c ∧ e.fs.lookup ("word" : Str) = some (.str c)
def rz (c : Str) (S : Sto) (X : Exc → Sto → Prop) : Prop := ∀ e, ExOf c e → X e S
theorem exOf_F1 {c : Str} {ds : List D} : ExOf c ⟨c, F1 D D.str .non c ds⟩ := ⟨rfl, by simp [F1]⟩
section
variable {ys : List Str} {yb : Bool}
theorem exc_25 {c : Str} (h : c ∈ ex25) : excP (xc ys yb) c = some (1, F1 D D.str .non c) := by
  have hn : c ≠ "BadLine" := fun e => by
    have : ∀ c ∈ ex25, c ≠ "BadLine" := by decide +kernel
    exact this c h e
  exact (if_neg hn).trans (if_pos (List.mem_append_left _ h))
theorem mem_U {c : Str} (h : c ∈ ex25) : c ∈ exU (xc ys yb) := List.mem_cons_of_mem _ (List.mem_append_right _ (List.mem_append_left _ h))
theorem sub_25 {c c' : Str} (h : c ∈ ex25) (h' : c' ∈ ex25) : subP (xc ys yb) c c' = some (subB c c') := by
  unfold subP
  rw [if_pos ⟨mem_U h, mem_U h'⟩]
theorem sub_top {c : Str} (h : c ∈ ex25) : subP (xc ys yb) c exTop = some (subB c exTop) := by
  unfold subP
  rw [if_pos ⟨mem_U h, List.mem_cons_self⟩]
theorem sub_tt : subP (xc ys yb) exTop exTop = some (subB exTop exTop) := by
  unfold subP
  rw [if_pos ⟨List.mem_cons_self, List.mem_cons_self⟩]
theorem ex_BadName : excP (xc ys yb) "BadName" = some (1, F1 D D.str .non "BadName") := exc_25 (by decide +kernel)
theorem ex_Taken : excP (xc ys yb) "Taken" = some (1, F1 D D.str .non "Taken") := exc_25 (by decide +kernel)
theorem ex_BadCoins : excP (xc ys yb) "BadCoins" = some (1, F1 D D.str .non "BadCoins") := exc_25 (by decide +kernel)
theorem ex_Full : excP (xc ys yb) "Full" = some (1, F1 D D.str .non "Full") := exc_25 (by decide +kernel)
theorem ex_NoHouse : excP (xc ys yb) "NoHouse" = some (1, F1 D D.str .non "NoHouse") := exc_25 (by decide +kernel)
theorem ex_NoCoins : excP (xc ys yb) "NoCoins" = some (1, F1 D D.str .non "NoCoins") := exc_25 (by decide +kernel)
theorem ex_Failed : excP (xc ys yb) "Failed" = some (1, F1 D D.str .non "Failed") := exc_25 (by decide +kernel)
theorem ex_Standing : excP (xc ys yb) "Standing" = some (1, F1 D D.str .non "Standing") := exc_25 (by decide +kernel)
theorem ex_BadCount : excP (xc ys yb) "BadCount" = some (1, F1 D D.str .non "BadCount") := exc_25 (by decide +kernel)
theorem ex_BadDay : excP (xc ys yb) "BadDay" = some (1, F1 D D.str .non "BadDay") := exc_25 (by decide +kernel)
theorem ex_NoBill : excP (xc ys yb) "NoBill" = some (1, F1 D D.str .non "NoBill") := exc_25 (by decide +kernel)
theorem ex_Void : excP (xc ys yb) "Void" = some (1, F1 D D.str .non "Void") := exc_25 (by decide +kernel)
theorem ex_Closed : excP (xc ys yb) "Closed" = some (1, F1 D D.str .non "Closed") := exc_25 (by decide +kernel)
theorem ex_Accepted : excP (xc ys yb) "Accepted" = some (1, F1 D D.str .non "Accepted") := exc_25 (by decide +kernel)
theorem ex_Same : excP (xc ys yb) "Same" = some (1, F1 D D.str .non "Same") := exc_25 (by decide +kernel)
theorem ex_NotBlank : excP (xc ys yb) "NotBlank" = some (1, F1 D D.str .non "NotBlank") := exc_25 (by decide +kernel)
theorem ex_NotYet : excP (xc ys yb) "NotYet" = some (1, F1 D D.str .non "NotYet") := exc_25 (by decide +kernel)
theorem ex_NotPresented : excP (xc ys yb) "NotPresented" = some (1, F1 D D.str .non "NotPresented") := exc_25 (by decide +kernel)
theorem ex_Protested : excP (xc ys yb) "Protested" = some (1, F1 D D.str .non "Protested") := exc_25 (by decide +kernel)
theorem ex_TooLate : excP (xc ys yb) "TooLate" = some (1, F1 D D.str .non "TooLate") := exc_25 (by decide +kernel)
theorem ex_NotBound : excP (xc ys yb) "NotBound" = some (1, F1 D D.str .non "NotBound") := exc_25 (by decide +kernel)
theorem ex_CantPay : excP (xc ys yb) "CantPay" = some (1, F1 D D.str .non "CantPay") := exc_25 (by decide +kernel)
theorem ex_NotProtested : excP (xc ys yb) "NotProtested" = some (1, F1 D D.str .non "NotProtested") := exc_25 (by decide +kernel)
theorem ex_IsBound : excP (xc ys yb) "IsBound" = some (1, F1 D D.str .non "IsBound") := exc_25 (by decide +kernel)
theorem ex_Twice : excP (xc ys yb) "Twice" = some (1, F1 D D.str .non "Twice") := exc_25 (by decide +kernel)
end
structure Hold (P : Prop) : Prop where
  h : P
end Mn

namespace Mn
open PySem L2
local macro_rules | `(tactic| walk_at "x") => `(tactic| try simp only [wSs, wS, wE, wEs, wC, x_add, x_sub, x_addS, x_addT, x_addL, x_mul, x_mulS, x_mulL, x_div, x_mod, x_pow, x_lt, x_le, x_gt, x_ge, x_eqD, x_neD, x_in, x_notIn, x_is, x_isNot, x_eqI, x_eqS, x_eqB, x_isNN, x_isBN, x_isIN, x_isSN, x_isTN, x_isLN, x_isRN, x_isBB, x_lenS, x_lenT, x_lenL, x_lenP, x_sumP, x_appP, x_appTP, x_idxP, x_frzP, x_abs, x_intI, x_intB, x_max, x_allL, x_sumL, x_listL, x_listT, x_isi, x_truB, x_truI, x_truL, x_truT, x_truN, x_idxS, x_idxL, x_idxT, x_slS, x_slT, x_slL, x_it0L, x_it0T, x_it0S, x_it0C, x_it1, x_it2L, x_val, x_upd, x_newF, x_newT, x_nm, x_tp, x_tps, x_tp0, x_ite, x_iteD, x_ifD, x_some, x_some2, x_map, x_eqInt, i_N_tuple, i_N_list, i_N_bool, i_N_int, i_N_str, i_N_tl, i_B_tuple, i_B_list, i_B_bool, i_B_int, i_B_str, i_B_tl, i_I_tuple, i_I_list, i_I_bool, i_I_int, i_I_str, i_I_tl, i_S_tuple, i_S_list, i_S_bool, i_S_int, i_S_str, i_S_tl, i_T_tuple, i_T_list, i_T_bool, i_T_int, i_T_str, i_T_tl, i_L_tuple, i_L_list, i_L_bool, i_L_int, i_L_str, i_L_tl, x_pure, x_new, x_fn, List.getElem?_cons_zero, List.getElem?_cons_succ, List.set_cons_zero, List.set_cons_succ, Option.bind_some, List.length_cons, List.length_nil, Nat.reduceAdd, true_and, and_true, decide_eq_true_eq, Bool.not_eq_true', decide_eq_false_iff_not, Bool.not_false, Bool.not_true, Bool.false_eq_true, Bool.true_eq_false, if_true, if_false, ite_true, ite_false])
local macro_rules | `(tactic| walk_at "h") => `(tactic| simp only [wSs, wS, wE, wEs, wC, x_add, x_sub, x_addS, x_addT, x_addL, x_mul, x_mulS, x_mulL, x_div, x_mod, x_pow, x_lt, x_le, x_gt, x_ge, x_eqD, x_neD, x_in, x_notIn, x_is, x_isNot, x_eqI, x_eqS, x_eqB, x_isNN, x_isBN, x_isIN, x_isSN, x_isTN, x_isLN, x_isRN, x_isBB, x_lenS, x_lenT, x_lenL, x_lenP, x_sumP, x_appP, x_appTP, x_idxP, x_frzP, x_abs, x_intI, x_intB, x_max, x_allL, x_sumL, x_listL, x_listT, x_isi, x_truB, x_truI, x_truL, x_truT, x_truN, x_idxS, x_idxL, x_idxT, x_slS, x_slT, x_slL, x_it0L, x_it0T, x_it0S, x_it0C, x_it1, x_it2L, x_val, x_upd, x_newF, x_newT, x_nm, x_tp, x_tps, x_tp0, x_ite, x_iteD, x_ifD, x_some, x_some2, x_map, x_eqInt, i_N_tuple, i_N_list, i_N_bool, i_N_int, i_N_str, i_N_tl, i_B_tuple, i_B_list, i_B_bool, i_B_int, i_B_str, i_B_tl, i_I_tuple, i_I_list, i_I_bool, i_I_int, i_I_str, i_I_tl, i_S_tuple, i_S_list, i_S_bool, i_S_int, i_S_str, i_S_tl, i_T_tuple, i_T_list, i_T_bool, i_T_int, i_T_str, i_T_tl, i_L_tuple, i_L_list, i_L_bool, i_L_int, i_L_str, i_L_tl, x_pure, x_new, x_fn, List.getElem?_cons_zero, List.getElem?_cons_succ, List.set_cons_zero, List.set_cons_succ, Option.bind_some, List.length_cons, List.length_nil, Nat.reduceAdd, true_and, and_true, decide_eq_true_eq, Bool.not_eq_true', decide_eq_false_iff_not, Bool.not_false, Bool.not_true, Bool.false_eq_true, Bool.true_eq_false, if_true, if_false, ite_true, ite_false, r_len, r_idx, r_in, r_get, r_getT, r_setd, r_setdT, r_app, r_appT, r_six, r_it, r_it2, r_sorted, r_list, r_dict, r_sl, r_tru, r_newD, r_att, r_self, r_sat, r_ins, r_ins2, fl_held, fl_chest, fl_down, fl_clock, fl_bills, fl_done, fl_drawer, fl_drawee, fl_payee, fl_amount, fl_due, fl_slip, fl_keeper, fl_stage, fl_edition, fl_blank, lu_held, lu_chest, lu_down, lu_clock, lu_bills, lu_done, lu_drawer, lu_drawee, lu_payee, lu_amount, lu_due, lu_slip, lu_keeper, lu_stage, lu_edition, lu_blank, pf_stage, pf_keeper, pf_edition, pf_blank, pf_slip, pf_clock, len_pursesF, len_hallF, len_billF, keyOf, Option.map_some, Option.map_none, Option.bind_none, Option.getD_some, Option.getD_none, Option.isSome_some, Option.isSome_none, r_some2, r_aga, r_int, r_ags, r_dct, ex_BadName, ex_Taken, ex_BadCoins, ex_Full, ex_NoHouse, ex_NoCoins, ex_Failed, ex_Standing, ex_BadCount, ex_BadDay, ex_NoBill, ex_Void, ex_Closed, ex_Accepted, ex_Same, ex_NotBlank, ex_NotYet, ex_NotPresented, ex_Protested, ex_TooLate, ex_NotBound, ex_CantPay, ex_NotProtested, ex_IsBound, ex_Twice, gv_pk, gp_pk, len_pk, put_same, gv_held, gv_down, len_held, len_down, *])
def n_Purses_need : List Str := ["self", "name"]
def m_Purses_need : List MS := [(.ite (.cmp .NotIn (.var 1) (.att (.var 0) "held")) [(.rai "NoHouse" [(.cst (.str "no such house"))])] [])]
def n_Purses_look_at : List Str := ["self", "coins"]
def m_Purses_look_at : List MS := [(.ite (.cmp .Lt (.var 1) (.cst (.int 0))) [(.rai "BadCoins" [(.cst (.str "coins below nought"))])] [])]
def n_Purses_add_purse : List Str := ["self", "name", "coins"]
def m_Purses_add_purse : List MS := [(.ite (.cmp .In (.var 1) (.att (.var 0) "held")) [(.rai "Taken" [(.cst (.str "a house has this name"))])] []), (.exp (.mth "Purses" (.var 0) "look_at" [(.var 2)])), (.six (.att (.var 0) "held") (.var 1) (.var 2))]
def n_Purses_coins : List Str := ["self", "name"]
def m_Purses_coins : List MS := [(.exp (.mth "Purses" (.var 0) "need" [(.var 1)])), (.ret (.idx (.att (.var 0) "held") (.var 1)))]
def n_Purses_fill : List Str := ["self", "name", "coins"]
def m_Purses_fill : List MS := [(.exp (.mth "Purses" (.var 0) "need" [(.var 1)])), (.exp (.mth "Purses" (.var 0) "look_at" [(.var 2)])), (.ags (.att (.var 0) "held") (.var 1) .Add (.var 2))]
def n_Purses_spend : List Str := ["self", "name", "coins"]
def m_Purses_spend : List MS := [(.exp (.mth "Purses" (.var 0) "need" [(.var 1)])), (.exp (.mth "Purses" (.var 0) "look_at" [(.var 2)])), (.ite (.cmp .Lt (.idx (.att (.var 0) "held") (.var 1)) (.var 2)) [(.rai "NoCoins" [(.cst (.str "not so many coins"))])] []), (.ags (.att (.var 0) "held") (.var 1) .Sub (.var 2))]
def n_Purses_pay : List Str := ["self", "payer", "taker", "coins"]
def m_Purses_pay : List MS := [(.exp (.mth "Purses" (.var 0) "need" [(.var 1)])), (.exp (.mth "Purses" (.var 0) "need" [(.var 2)])), (.exp (.mth "Purses" (.var 0) "spend" [(.var 1), (.var 3)])), (.exp (.mth "Purses" (.var 0) "fill" [(.var 2), (.var 3)]))]
/-! ### purses -/
def purS (ca ha : Addr) (p : Ps) : List Cell := purC ca ha (pkD p)
/-- a method's call -/
theorem cW {sp : DSp} {ds : List D} {S : Sto} {k : D → Sto → Prop} {x : Exc → Sto → Prop} (h : sp ds S k x) : callW sp ds S k x := ⟨k, x, fun _ _ q => q, fun _ _ q => q, h⟩
theorem noMeth {ha : Addr} : (pursesF ha).lookup ("need" : Str) = none ∧ (pursesF ha).lookup ("look_at" : Str) = none ∧ (pursesF ha).lookup ("spend" : Str) = none ∧ (pursesF ha).lookup ("fill" : Str) = none ∧ (pursesF ha).lookup ("coins" : Str) = none := ⟨by kernel_rfl, by kernel_rfl, by kernel_rfl, by kernel_rfl, by kernel_rfl⟩
theorem pur1 {S : Sto} {ca ha : Addr} {p : Ps} {F : List Cell} (h : Hd S (purS ca ha p ++ F)) : S ca = some (.ins "Purses" (pursesF ha)) := h.get (by simp [purS, purC])
theorem pur2 {S : Sto} {ca ha : Addr} {p : Ps} {F : List Cell} (h : Hd S (purS ca ha p ++ F)) : S ha = some (.dct (pkD p)) := h.get (by simp [purS, purC])
theorem purU {S : Sto} {ca ha : Addr} {p p' : Ps} {F : List Cell} (h : Hd S (purS ca ha p ++ F)) : Hd (put S ha (.dct (pkD p'))) (purS ca ha p' ++ F) := Hd.upd (L1 := [_]) h _
def spPNeed : DSp := fun ds S Q X => ∃ ca ha p F n, ds = [.ref ca, .str n] ∧ Hd S (purS ca ha p ++ F) ∧ if (lp p n).isSome = true then Q .non S else rz "NoHouse" S X
theorem ok_PNeed {G : Gc} (hf : G.fld = fldA) {ys : List Str} {yb : Bool} (hx : G.exc = excP (xc ys yb)) : BodyOk G n_Purses_need 2 m_Purses_need spPNeed := by
  rintro ds S Q X - ⟨ca, ha, p, F, n, rfl, hS, q⟩
  have h1 := pur1 hS
  have h2 := pur2 hS
  have q := Hold.mk q
  show wSs G _ m_Purses_need [some (.ref ca), some (.str n)] S _
  unfold m_Purses_need
  walk_at "h"
  obtain ⟨q⟩ := q
  cases hb : lp p n with
  | some v => simpa [hb] using q
  | none =>
    rw [hb] at q
    exact q _ exOf_F1
def spPLook : DSp := fun ds S Q X => ∃ u c, ds = [u, .int c] ∧ if c < 0 then rz "BadCoins" S X else Q .non S
theorem ok_PLook {G : Gc} {ys : List Str} {yb : Bool} (hx : G.exc = excP (xc ys yb)) : BodyOk G n_Purses_look_at 2 m_Purses_look_at spPLook := by
  rintro ds S Q X - ⟨u, c, rfl, q⟩
  have q := Hold.mk q
  show wSs G _ m_Purses_look_at [some u, some (.int c)] S _
  unfold m_Purses_look_at
  walk_at "h"
  obtain ⟨q⟩ := q
  by_cases hb : c < 0
  · rw [if_pos hb] at q ⊢
    exact q _ exOf_F1
  · rw [if_neg hb] at q ⊢
    exact q
def spPAdd : DSp := fun ds S Q X => ∃ ca ha p F n c, ds = [.ref ca, .str n, .int c] ∧ Hd S (purS ca ha p ++ F) ∧ p.length < 1000 ∧ if (lp p n).isSome = true then rz "Taken" S X else if c < 0 then rz "BadCoins" S X else ∀ S', Hd S' (purS ca ha (setP p n c) ++ F) → Q .non S'
theorem ok_PAdd {G : Gc} (hf : G.fld = fldA) {ys : List Str} {yb : Bool} (hx : G.exc = excP (xc ys yb)) (m1 : G.mt "Purses" "look_at" = some (2, spPLook)) : BodyOk G n_Purses_add_purse 3 m_Purses_add_purse spPAdd := by
  rintro ds S Q X - ⟨ca, ha, p, F, n, c, rfl, hS, hl, q⟩
  have h1 := pur1 hS
  have h2 := pur2 hS
  have q := Hold.mk q
  have z1 := (noMeth (ha := ha)).2.1
  show wSs G _ m_Purses_add_purse [some (.ref ca), some (.str n), some (.int c)] S _
  unfold m_Purses_add_purse
  walk_at "h"
  obtain ⟨q⟩ := q
  cases hb : lp p n with
  | some v =>
    rw [hb] at q
    exact q _ exOf_F1
  | none =>
    rw [hb] at q
    rw [if_neg (by simp)] at q
    simp only [Option.map_none, Option.isSome_none, Bool.false_eq_true, if_false]
    refine cW ⟨_, c, rfl, ?_⟩
    by_cases hc : c < 0
    · rw [if_pos hc] at q ⊢
      exact q
    · rw [if_neg hc] at q ⊢
      have q := Hold.mk q
      walk_at "h"
      exact ⟨Nat.lt_trans hl (by decide), q.h _ (purU hS)⟩
def spPCoins : DSp := fun ds S Q X => ∃ ca ha p F n, ds = [.ref ca, .str n] ∧ Hd S (purS ca ha p ++ F) ∧ match lp p n with
  | some v => Q (.int v) S
  | none => rz "NoHouse" S X
theorem ok_PCoins {G : Gc} (hf : G.fld = fldA) (m1 : G.mt "Purses" "need" = some (2, spPNeed)) : BodyOk G n_Purses_coins 2 m_Purses_coins spPCoins := by
  rintro ds S Q X - ⟨ca, ha, p, F, n, rfl, hS, q⟩
  have h1 := pur1 hS
  have h2 := pur2 hS
  have q := Hold.mk q
  have z1 := (noMeth (ha := ha)).1
  show wSs G _ m_Purses_coins [some (.ref ca), some (.str n)] S _
  unfold m_Purses_coins
  walk_at "h"
  obtain ⟨q⟩ := q
  refine cW ⟨ca, ha, p, F, n, rfl, hS, ?_⟩
  cases hb : lp p n with
  | none => rw [hb] at q; exact q
  | some v =>
    rw [hb] at q
    have q := Hold.mk q
    rw [if_pos (by rfl)]
    walk_at "h"
def spPFill : DSp := fun ds S Q X => ∃ ca ha p F n c, ds = [.ref ca, .str n, .int c] ∧ Hd S (purS ca ha p ++ F) ∧ p.length < 1000 ∧ match lp p n with
  | none => rz "NoHouse" S X
  | some v => if c < 0 then rz "BadCoins" S X else ∀ S', Hd S' (purS ca ha (setP p n (v + c)) ++ F) → Q .non S'
theorem ok_PFill {G : Gc} (hf : G.fld = fldA) (m1 : G.mt "Purses" "need" = some (2, spPNeed)) (m2 : G.mt "Purses" "look_at" = some (2, spPLook)) : BodyOk G n_Purses_fill 3 m_Purses_fill spPFill := by
  rintro ds S Q X - ⟨ca, ha, p, F, n, c, rfl, hS, hl, q⟩
  have h1 := pur1 hS
  have h2 := pur2 hS
  have q := Hold.mk q
  have z1 := (noMeth (ha := ha)).1
  have z2 := (noMeth (ha := ha)).2.1
  show wSs G _ m_Purses_fill [some (.ref ca), some (.str n), some (.int c)] S _
  unfold m_Purses_fill
  walk_at "h"
  obtain ⟨q⟩ := q
  refine cW ⟨ca, ha, p, F, n, rfl, hS, ?_⟩
  cases hb : lp p n with
  | none => rw [hb] at q; exact q
  | some v =>
    rw [hb] at q
    have q : if c < 0 then rz "BadCoins" S X else ∀ S', Hd S' (purS ca ha (setP p n (v + c)) ++ F) → Q .non S' := q
    have q := Hold.mk q
    rw [if_pos (by rfl)]
    walk_at "h"
    obtain ⟨q⟩ := q
    refine cW ⟨_, c, rfl, ?_⟩
    by_cases hc : c < 0
    · rw [if_pos hc] at q ⊢
      exact q
    · rw [if_neg hc] at q ⊢
      have q := Hold.mk q
      walk_at "h"
      exact ⟨ha, _, _, _, rfl, h2, rfl, by rw [gv_pk, hb]; rfl, _, _, rfl, h2, by rw [len_pk]; exact Nat.lt_trans hl (by decide), by rw [gp_pk]; exact q.h _ (purU hS)⟩
def spPSpend : DSp := fun ds S Q X => ∃ ca ha p F n c, ds = [.ref ca, .str n, .int c] ∧ Hd S (purS ca ha p ++ F) ∧ p.length < 1000 ∧ match lp p n with
  | none => rz "NoHouse" S X
  | some v => if c < 0 then rz "BadCoins" S X else if v < c then rz "NoCoins" S X else ∀ S', Hd S' (purS ca ha (setP p n (v - c)) ++ F) → Q .non S'
theorem ok_PSpend {G : Gc} (hf : G.fld = fldA) {ys : List Str} {yb : Bool} (hx : G.exc = excP (xc ys yb)) (m1 : G.mt "Purses" "need" = some (2, spPNeed)) (m2 : G.mt "Purses" "look_at" = some (2, spPLook)) : BodyOk G n_Purses_spend 3 m_Purses_spend spPSpend := by
  rintro ds S Q X - ⟨ca, ha, p, F, n, c, rfl, hS, hl, q⟩
  have h1 := pur1 hS
  have h2 := pur2 hS
  have q := Hold.mk q
  have z1 := (noMeth (ha := ha)).1
  have z2 := (noMeth (ha := ha)).2.1
  show wSs G _ m_Purses_spend [some (.ref ca), some (.str n), some (.int c)] S _
  unfold m_Purses_spend
  walk_at "h"
  obtain ⟨q⟩ := q
  refine cW ⟨ca, ha, p, F, n, rfl, hS, ?_⟩
  cases hb : lp p n with
  | none => rw [hb] at q; exact q
  | some v =>
    rw [hb] at q
    have q : if c < 0 then rz "BadCoins" S X else if v < c then rz "NoCoins" S X else ∀ S', Hd S' (purS ca ha (setP p n (v - c)) ++ F) → Q .non S' := q
    have q := Hold.mk q
    rw [if_pos (by rfl)]
    walk_at "h"
    obtain ⟨q⟩ := q
    refine cW ⟨_, c, rfl, ?_⟩
    by_cases hc : c < 0
    · rw [if_pos hc] at q ⊢
      exact q
    · rw [if_neg hc] at q ⊢
      have q := Hold.mk q
      walk_at "h"
      obtain ⟨q⟩ := q
      by_cases hv : v < c
      · rw [if_pos hv] at q ⊢
        exact q _ exOf_F1
      · rw [if_neg hv] at q ⊢
        exact ⟨ha, _, _, _, rfl, h2, rfl, by rw [gv_pk, hb]; rfl, _, _, rfl, h2, by rw [len_pk]; exact Nat.lt_trans hl (by decide), by rw [gp_pk]; exact q _ (purU hS)⟩
/-! a payment -/
def lpD (p : Ps) (n : Str) : Int := (lp p n).getD 0
def payP (p : Ps) (x y : Str) (c : Int) : Ps := setP (setP p x (lpD p x - c)) y (lpD (setP p x (lpD p x - c)) y + c)
theorem lp_app {p : Ps} {n : Str} {c : Int} (m : Str) (h : lp p n = none) : lp (p ++ [(n, c)]) m = if m = n then some c else lp p m := by
  induction p with
  | nil =>
    show lp [(n, c)] m = _
    rw [lp_cons]
    by_cases e : n = m
    · rw [if_pos e, if_pos e.symm]
    · rw [if_neg e, if_neg (fun z => e z.symm)]
  | cons q p ih =>
    rw [lp_cons] at h
    show lp (q :: (p ++ [(n, c)])) m = _
    rw [lp_cons, lp_cons]
    by_cases e : q.1 = m
    · rw [if_pos e, if_pos e]
      rw [if_neg]
      intro z
      rw [z] at e
      rw [if_pos e] at h
      cases h
    · rw [if_neg e, if_neg e]
      refine ih ?_
      split at h
      · cases h
      · exact h
theorem lp_setP (p : Ps) (n m : Str) (c : Int) : lp (setP p n c) m = if m = n then some c else lp p m := by
  unfold setP
  split
  · rename_i h
    have key : ∀ l : Ps, lp (l.map fun q => if q.1 = n then (q.1, c) else q) m = if m = n then (lp l n).map fun _ => c else lp l m := by
      intro l
      induction l with
      | nil => show none = _; split <;> rfl
      | cons q l ih =>
        rw [List.map_cons, lp_cons, ih, lp_cons, lp_cons]
        by_cases e : q.1 = n
        · simp only [e, if_true]
          by_cases e2 : n = m
          · simp [e2]
          · have e3 : ¬ m = n := fun z => e2 z.symm
            simp [e2, e3]
        · simp only [e, if_false]
          by_cases e2 : q.1 = m
          · have e3 : ¬ m = n := fun z => e (by rw [e2, z])
            simp [e2, e3]
          · simp [e2]
    rw [key]
    by_cases e : m = n
    · rw [if_pos e, if_pos e]
      obtain ⟨v, hv⟩ := Option.isSome_iff_exists.mp h
      rw [hv]; rfl
    · rw [if_neg e, if_neg e]
  · rename_i h
    refine lp_app m ?_
    cases q : lp p n with
    | none => rfl
    | some v => rw [q] at h; exact absurd rfl h
theorem len_setP {p : Ps} {n : Str} {c : Int} (h : (lp p n).isSome = true) : (setP p n c).length = p.length := by
  unfold setP
  rw [if_pos h, List.length_map]
def spPPay : DSp := fun ds S Q X => ∃ ca ha p F x y c, ds = [.ref ca, .str x, .str y, .int c] ∧ Hd S (purS ca ha p ++ F) ∧ p.length < 1000 ∧ if (lp p x).isSome = false ∨ (lp p y).isSome = false then rz "NoHouse" S X else if c < 0 then rz "BadCoins" S X else if lpD p x < c then rz "NoCoins" S X else ∀ S', Hd S' (purS ca ha (payP p x y c) ++ F) → Q .non S'
theorem ok_PPay {G : Gc} (hf : G.fld = fldA) (m1 : G.mt "Purses" "need" = some (2, spPNeed)) (m2 : G.mt "Purses" "spend" = some (3, spPSpend)) (m3 : G.mt "Purses" "fill" = some (3, spPFill)) : BodyOk G n_Purses_pay 4 m_Purses_pay spPPay := by
  rintro ds S Q X - ⟨ca, ha, p, F, x, y, c, rfl, hS, hl, q⟩
  have h1 := pur1 hS
  have q := Hold.mk q
  have z1 := (noMeth (ha := ha)).1
  have z2 := (noMeth (ha := ha)).2.2.1
  have z3 := (noMeth (ha := ha)).2.2.2.1
  show wSs G _ m_Purses_pay [some (.ref ca), some (.str x), some (.str y), some (.int c)] S _
  unfold m_Purses_pay
  walk_at "h"
  obtain ⟨q⟩ := q
  refine cW ⟨ca, ha, p, F, x, rfl, hS, ?_⟩
  cases hx : lp p x with
  | none => rw [if_pos (.inl (by rw [hx]; rfl))] at q; exact q
  | some v =>
    rw [if_pos (by rfl)]
    have q := Hold.mk q
    walk_at "h"
    obtain ⟨q⟩ := q
    refine cW ⟨ca, ha, p, F, y, rfl, hS, ?_⟩
    cases hy : lp p y with
    | none => rw [if_pos (.inr (by rw [hy]; rfl))] at q; exact q
    | some w =>
      rw [if_neg (by rw [hx, hy]; simp)] at q
      have ex : lpD p x = v := by unfold lpD; rw [hx]; rfl
      rw [if_pos (by rfl)]
      have q := Hold.mk q
      walk_at "h"
      obtain ⟨q⟩ := q
      refine cW ⟨ca, ha, p, F, x, c, rfl, hS, hl, ?_⟩
      rw [hx]
      show if c < 0 then _ else _
      by_cases hc : c < 0
      · rw [if_pos hc] at q ⊢
        exact q
      · rw [if_neg hc] at q ⊢
        by_cases hv : v < c
        · rw [if_pos (by rw [ex]; exact hv)] at q
          rw [if_pos hv]
          exact q
        · rw [if_neg (by rw [ex]; exact hv)] at q
          rw [if_neg hv]
          intro S' hS'
          have h1 := pur1 hS'
          have q := Hold.mk q
          walk_at "h"
          obtain ⟨q⟩ := q
          have hy' : ∃ u, lp (setP p x (v - c)) y = some u := by
            rw [lp_setP]
            split
            · exact ⟨_, rfl⟩
            · exact ⟨w, hy⟩
          obtain ⟨u, hu⟩ := hy'
          refine cW ⟨ca, ha, setP p x (v - c), F, y, c, rfl, hS', by rw [len_setP (by rw [hx]; rfl)]; exact hl, ?_⟩
          rw [hu]
          show if c < 0 then _ else _
          rw [if_neg hc]
          intro S2 hS2
          have e : payP p x y c = setP (setP p x (v - c)) y (u + c) := by
            unfold payP
            rw [ex]
            have : lpD (setP p x (v - c)) y = u := by unfold lpD; rw [hu]; rfl
            rw [this]
          rw [← e] at hS2
          exact q S2 hS2
end Mn

namespace Mn
open PySem L2
section
variable {b : Bl} {sa ha : Addr} {g : Gh}
theorem nH_need : (hallF g).lookup ("need" : Str) = none := by kernel_rfl
theorem nH_must_stand : (hallF g).lookup ("must_stand" : Str) = none := by kernel_rfl
theorem nH_find : (hallF g).lookup ("find" : Str) = none := by kernel_rfl
theorem nH_find_copy : (hallF g).lookup ("find_copy" : Str) = none := by kernel_rfl
theorem nH_house : (hallF g).lookup ("house" : Str) = none := by kernel_rfl
theorem nH_look_at_coins : (hallF g).lookup ("look_at_coins" : Str) = none := by kernel_rfl
theorem nH_put_in : (hallF g).lookup ("put_in" : Str) = none := by kernel_rfl
theorem nH_take_out : (hallF g).lookup ("take_out" : Str) = none := by kernel_rfl
theorem nH_fail : (hallF g).lookup ("fail" : Str) = none := by kernel_rfl
theorem nH_mend : (hallF g).lookup ("mend" : Str) = none := by kernel_rfl
theorem nH_pass_days : (hallF g).lookup ("pass_days" : Str) = none := by kernel_rfl
theorem nH_draw : (hallF g).lookup ("draw" : Str) = none := by kernel_rfl
theorem nH_accept : (hallF g).lookup ("accept" : Str) = none := by kernel_rfl
theorem nH_signed : (hallF g).lookup ("signed" : Str) = none := by kernel_rfl
theorem nH_sign : (hallF g).lookup ("sign" : Str) = none := by kernel_rfl
theorem nH_sign_blank : (hallF g).lookup ("sign_blank" : Str) = none := by kernel_rfl
theorem nH_hand : (hallF g).lookup ("hand" : Str) = none := by kernel_rfl
theorem nH_lose : (hallF g).lookup ("lose" : Str) = none := by kernel_rfl
theorem nH_can_pay : (hallF g).lookup ("can_pay" : Str) = none := by kernel_rfl
theorem nH_present : (hallF g).lookup ("present" : Str) = none := by kernel_rfl
theorem nH_protest : (hallF g).lookup ("protest" : Str) = none := by kernel_rfl
theorem nH_ask : (hallF g).lookup ("ask" : Str) = none := by kernel_rfl
theorem nH_may_honour : (hallF g).lookup ("may_honour" : Str) = none := by kernel_rfl
theorem nH_honour : (hallF g).lookup ("honour" : Str) = none := by kernel_rfl
theorem nH_fair : (hallF g).lookup ("fair" : Str) = none := by kernel_rfl
theorem nH_names : (hallF g).lookup ("names" : Str) = none := by kernel_rfl
theorem nH_coins : (hallF g).lookup ("coins" : Str) = none := by kernel_rfl
theorem nH_stands : (hallF g).lookup ("stands" : Str) = none := by kernel_rfl
theorem nH_today : (hallF g).lookup ("today" : Str) = none := by kernel_rfl
theorem nH_many_bills : (hallF g).lookup ("many_bills" : Str) = none := by kernel_rfl
theorem nH_paper : (hallF g).lookup ("paper" : Str) = none := by kernel_rfl
theorem nH_state : (hallF g).lookup ("state" : Str) = none := by kernel_rfl
theorem nH_holder : (hallF g).lookup ("holder" : Str) = none := by kernel_rfl
theorem nH_copy_of : (hallF g).lookup ("copy_of" : Str) = none := by kernel_rfl
theorem nH_in_blank : (hallF g).lookup ("in_blank" : Str) = none := by kernel_rfl
theorem nH_row : (hallF g).lookup ("row" : Str) = none := by kernel_rfl
theorem nH_story : (hallF g).lookup ("story" : Str) = none := by kernel_rfl
theorem nH_moment : (hallF g).lookup ("moment" : Str) = none := by kernel_rfl
theorem nH_twin : (hallF g).lookup ("twin" : Str) = none := by kernel_rfl
theorem nB_set_out : (billF b sa).lookup ("set_out" : Str) = none := by kernel_rfl
theorem nB_doubled : (billF b sa).lookup ("doubled" : Str) = none := by kernel_rfl
theorem nB_must_run : (billF b sa).lookup ("must_run" : Str) = none := by kernel_rfl
theorem nB_must_be_back : (billF b sa).lookup ("must_be_back" : Str) = none := by kernel_rfl
theorem nB_taken_on : (billF b sa).lookup ("taken_on" : Str) = none := by kernel_rfl
theorem nB_take_on : (billF b sa).lookup ("take_on" : Str) = none := by kernel_rfl
theorem nB_sign_on : (billF b sa).lookup ("sign_on" : Str) = none := by kernel_rfl
theorem nB_hand_on : (billF b sa).lookup ("hand_on" : Str) = none := by kernel_rfl
theorem nB_next_copy : (billF b sa).lookup ("next_copy" : Str) = none := by kernel_rfl
theorem nB_must_be_due : (billF b sa).lookup ("must_be_due" : Str) = none := by kernel_rfl
theorem nB_protest_on : (billF b sa).lookup ("protest_on" : Str) = none := by kernel_rfl
theorem nB_open_now : (billF b sa).lookup ("open_now" : Str) = none := by kernel_rfl
theorem nB_go_back : (billF b sa).lookup ("go_back" : Str) = none := by kernel_rfl
theorem nB_to_itself : (billF b sa).lookup ("to_itself" : Str) = none := by kernel_rfl
theorem nP_need : (pursesF ha).lookup ("need" : Str) = none := by kernel_rfl
theorem nP_look_at : (pursesF ha).lookup ("look_at" : Str) = none := by kernel_rfl
theorem nP_add_purse : (pursesF ha).lookup ("add_purse" : Str) = none := by kernel_rfl
theorem nP_coins : (pursesF ha).lookup ("coins" : Str) = none := by kernel_rfl
theorem nP_fill : (pursesF ha).lookup ("fill" : Str) = none := by kernel_rfl
theorem nP_spend : (pursesF ha).lookup ("spend" : Str) = none := by kernel_rfl
theorem nP_pay : (pursesF ha).lookup ("pay" : Str) = none := by kernel_rfl
theorem nP_total : (pursesF ha).lookup ("total" : Str) = none := by kernel_rfl
theorem nP_all_names : (pursesF ha).lookup ("all_names" : Str) = none := by kernel_rfl
theorem nP_doubled : (pursesF ha).lookup ("doubled" : Str) = none := by kernel_rfl
end
/-! ### the hall's cells -/
section
variable {S : Sto} {g : Gh} {F : List Cell}
theorem hall1 (h : Hd S (hallC g ++ F)) : S g.a = some (.ins "Hall" (hallF g)) := h.get (by simp [hallC])
theorem hall2 (h : Hd S (hallC g ++ F)) : S g.ca = some (.ins "Purses" (pursesF g.ha)) := h.get (by simp [hallC])
theorem hall3 (h : Hd S (hallC g ++ F)) : S g.ha = some (.dct (heldK g.hs)) := h.get (by simp [hallC])
theorem hall4 (h : Hd S (hallC g ++ F)) : S g.da = some (.dct (downK g.hs)) := h.get (by simp [hallC])
theorem hall5 (h : Hd S (hallC g ++ F)) : S g.ba = some (.lst (refsB g.bills)) := h.get (by simp [hallC])
theorem hall6 (h : Hd S (hallC g ++ F)) : S g.na = some (.lst g.done) := h.get (by simp [hallC])
/-- the purses of a hall, and back -/
def restP (g : Gh) (F : List Cell) : List Cell := (g.a, .ins "Hall" (hallF g)) :: (g.da, .dct (downK g.hs)) :: (g.ba, .lst (refsB g.bills)) :: (g.na, .lst g.done) :: (billsC g.bills ++ F)
theorem toP (h : Hd S (hallC g ++ F)) : Hd S (purS g.ca g.ha (coinsOf g.hs) ++ restP g F) := h.perm (by
  show ((g.a, MO.ins "Hall" (hallF g)) :: (purS g.ca g.ha (coinsOf g.hs) ++ ((g.da, MO.dct (downK g.hs)) :: (g.ba, MO.lst (refsB g.bills)) :: (g.na, MO.lst g.done) :: (billsC g.bills ++ F)))).Perm _
  exact List.perm_middle.symm)
theorem ofP {hs : Hs} (e : downK hs = downK g.hs) (h : Hd S (purS g.ca g.ha (coinsOf hs) ++ restP g F)) : Hd S (hallC { g with hs := hs } ++ F) := h.perm (by
  show (purS g.ca g.ha (coinsOf hs) ++ ((g.a, MO.ins "Hall" (hallF g)) :: (g.da, MO.dct (downK g.hs)) :: (g.ba, MO.lst (refsB g.bills)) :: (g.na, MO.lst g.done) :: (billsC g.bills ++ F))).Perm _
  rw [← e]
  exact List.perm_middle)
theorem hallDone (h : Hd S (hallC g ++ F)) (l : List D) : Hd (put S g.na (.lst l)) (hallC { g with done := l } ++ F) := Hd.upd (L1 := [_, _, _, _, _]) h _
theorem hallDown {hs : Hs} (h : Hd S (hallC g ++ F)) (e : heldK hs = heldK g.hs) : Hd (put S g.da (.dct (downK hs))) (hallC { g with hs := hs } ++ F) := by
  have := Hd.upd (L1 := [_, _, _]) (a := g.da) h (.dct (downK hs))
  unfold hallC
  rw [e]
  exact this
theorem hallClock (h : Hd S (hallC g ++ F)) (i : Int) : Hd (put S g.a (.ins "Hall" (hallF { g with clock := i }))) (hallC { g with clock := i } ++ F) := Hd.upd (L1 := []) h _
end
/-! ### what a hall keeps -/
structure OkB (hs : Hs) (b : Bl) : Prop where
  dr : (lk hs b.drawer).isSome = true
  de : (lk hs b.drawee).isSome = true
  py : (lk hs b.payee).isSome = true
  kp : (lk hs b.keeper).isSome = true
  sl : ∀ q ∈ b.slip, (lk hs q.1).isSome = true
  lo : 2 ≤ b.slip.length
  hi : b.slip.length ≤ 8
  s0 : ∀ q, b.slip[0]? = some q → q.1 = b.drawee
  s1 : ∀ q, b.slip[1]? = some q → q.1 = b.drawer
  am : 1 ≤ b.amount
structure OkH (h : Ha) : Prop where
  nm : ∀ q ∈ h.hs, isNm q.1 = true
  nd : (h.hs.map (·.1)).Nodup
  hn : h.hs.length ≤ 9
  bn : h.bills.length ≤ 40
  bl : ∀ b ∈ h.bills, OkB h.hs b
  dn : h.done.length < 100000
theorem isNm_ok {x : Str} (h : isNm x = true) : PySem.PyData.strOk x = true := by
  unfold isNm at h
  have h3 := (and2 (and2 h).2).2
  rw [strOk_iff]
  intro c hc
  have hm := of_decide_eq_true (List.all_eq_true.mp h3 c hc)
  have all : lettersS.cps.toList.all (fun c => decide (c < 0x110000)) = true := by decide +kernel
  exact of_decide_eq_true (List.all_eq_true.mp all c hm)
theorem isNm_len {x : Str} (h : isNm x = true) : x.length ≤ sizeLine := by
  unfold isNm at h
  have h2 := of_decide_eq_true (and2 (and2 h).2).1
  exact Nat.le_trans h2 (by decide)
end Mn

namespace Mn
open PySem L2
local macro_rules | `(tactic| walk_at "x") => `(tactic| try simp only [wSs, wS, wE, wEs, wC, x_add, x_sub, x_addS, x_addT, x_addL, x_mul, x_mulS, x_mulL, x_div, x_mod, x_pow, x_lt, x_le, x_gt, x_ge, x_eqD, x_neD, x_in, x_notIn, x_is, x_isNot, x_eqI, x_eqS, x_eqB, x_isNN, x_isBN, x_isIN, x_isSN, x_isTN, x_isLN, x_isRN, x_isBB, x_lenS, x_lenT, x_lenL, x_lenP, x_sumP, x_appP, x_appTP, x_idxP, x_frzP, x_abs, x_intI, x_intB, x_max, x_allL, x_sumL, x_listL, x_listT, x_isi, x_truB, x_truI, x_truL, x_truT, x_truN, x_idxS, x_idxL, x_idxT, x_slS, x_slT, x_slL, x_it0L, x_it0T, x_it0S, x_it0C, x_it1, x_it2L, x_val, x_upd, x_newF, x_newT, x_nm, x_tp, x_tps, x_tp0, x_ite, x_iteD, x_ifD, x_some, x_some2, x_map, x_eqInt, i_N_tuple, i_N_list, i_N_bool, i_N_int, i_N_str, i_N_tl, i_B_tuple, i_B_list, i_B_bool, i_B_int, i_B_str, i_B_tl, i_I_tuple, i_I_list, i_I_bool, i_I_int, i_I_str, i_I_tl, i_S_tuple, i_S_list, i_S_bool, i_S_int, i_S_str, i_S_tl, i_T_tuple, i_T_list, i_T_bool, i_T_int, i_T_str, i_T_tl, i_L_tuple, i_L_list, i_L_bool, i_L_int, i_L_str, i_L_tl, x_pure, x_new, x_fn, List.getElem?_cons_zero, List.getElem?_cons_succ, List.set_cons_zero, List.set_cons_succ, Option.bind_some, List.length_cons, List.length_nil, Nat.reduceAdd, true_and, and_true, decide_eq_true_eq, Bool.not_eq_true', decide_eq_false_iff_not, Bool.not_false, Bool.not_true, Bool.false_eq_true, Bool.true_eq_false, if_true, if_false, ite_true, ite_false])
local macro_rules | `(tactic| walk_at "h") => `(tactic| simp only [wSs, wS, wE, wEs, wC, x_add, x_sub, x_addS, x_addT, x_addL, x_mul, x_mulS, x_mulL, x_div, x_mod, x_pow, x_lt, x_le, x_gt, x_ge, x_eqD, x_neD, x_in, x_notIn, x_is, x_isNot, x_eqI, x_eqS, x_eqB, x_isNN, x_isBN, x_isIN, x_isSN, x_isTN, x_isLN, x_isRN, x_isBB, x_lenS, x_lenT, x_lenL, x_lenP, x_sumP, x_appP, x_appTP, x_idxP, x_frzP, x_abs, x_intI, x_intB, x_max, x_allL, x_sumL, x_listL, x_listT, x_isi, x_truB, x_truI, x_truL, x_truT, x_truN, x_idxS, x_idxL, x_idxT, x_slS, x_slT, x_slL, x_it0L, x_it0T, x_it0S, x_it0C, x_it1, x_it2L, x_val, x_upd, x_newF, x_newT, x_nm, x_tp, x_tps, x_tp0, x_ite, x_iteD, x_ifD, x_some, x_some2, x_map, x_eqInt, i_N_tuple, i_N_list, i_N_bool, i_N_int, i_N_str, i_N_tl, i_B_tuple, i_B_list, i_B_bool, i_B_int, i_B_str, i_B_tl, i_I_tuple, i_I_list, i_I_bool, i_I_int, i_I_str, i_I_tl, i_S_tuple, i_S_list, i_S_bool, i_S_int, i_S_str, i_S_tl, i_T_tuple, i_T_list, i_T_bool, i_T_int, i_T_str, i_T_tl, i_L_tuple, i_L_list, i_L_bool, i_L_int, i_L_str, i_L_tl, x_pure, x_new, x_fn, List.getElem?_cons_zero, List.getElem?_cons_succ, List.set_cons_zero, List.set_cons_succ, Option.bind_some, List.length_cons, List.length_nil, Nat.reduceAdd, true_and, and_true, decide_eq_true_eq, Bool.not_eq_true', decide_eq_false_iff_not, Bool.not_false, Bool.not_true, Bool.false_eq_true, Bool.true_eq_false, if_true, if_false, ite_true, ite_false, r_len, r_idx, r_in, r_get, r_getT, r_setd, r_setdT, r_app, r_appT, r_six, r_it, r_it2, r_sorted, r_list, r_dict, r_sl, r_tru, r_newD, r_att, r_self, r_sat, r_ins, r_ins2, fl_held, fl_chest, fl_down, fl_clock, fl_bills, fl_done, fl_drawer, fl_drawee, fl_payee, fl_amount, fl_due, fl_slip, fl_keeper, fl_stage, fl_edition, fl_blank, lu_held, lu_chest, lu_down, lu_clock, lu_bills, lu_done, lu_drawer, lu_drawee, lu_payee, lu_amount, lu_due, lu_slip, lu_keeper, lu_stage, lu_edition, lu_blank, pf_stage, pf_keeper, pf_edition, pf_blank, pf_slip, pf_clock, len_pursesF, len_hallF, len_billF, keyOf, Option.map_some, Option.map_none, Option.bind_none, Option.getD_some, Option.getD_none, Option.isSome_some, Option.isSome_none, r_some2, r_aga, r_int, r_ags, r_dct, ex_BadName, ex_Taken, ex_BadCoins, ex_Full, ex_NoHouse, ex_NoCoins, ex_Failed, ex_Standing, ex_BadCount, ex_BadDay, ex_NoBill, ex_Void, ex_Closed, ex_Accepted, ex_Same, ex_NotBlank, ex_NotYet, ex_NotPresented, ex_Protested, ex_TooLate, ex_NotBound, ex_CantPay, ex_NotProtested, ex_IsBound, ex_Twice, gv_pk, gp_pk, len_pk, nH_need, nH_must_stand, nH_find, nH_find_copy, nH_house, nH_look_at_coins, nH_put_in, nH_take_out, nH_fail, nH_mend, nH_pass_days, nH_draw, nH_accept, nH_signed, nH_sign, nH_sign_blank, nH_hand, nH_lose, nH_can_pay, nH_present, nH_protest, nH_ask, nH_may_honour, nH_honour, nH_fair, nH_names, nH_coins, nH_stands, nH_today, nH_many_bills, nH_paper, nH_state, nH_holder, nH_copy_of, nH_in_blank, nH_row, nH_story, nH_moment, nH_twin, nB_set_out, nB_doubled, nB_must_run, nB_must_be_back, nB_taken_on, nB_take_on, nB_sign_on, nB_hand_on, nB_next_copy, nB_must_be_due, nB_protest_on, nB_open_now, nB_go_back, nB_to_itself, nP_need, nP_look_at, nP_add_purse, nP_coins, nP_fill, nP_spend, nP_pay, nP_total, nP_all_names, nP_doubled, put_same, gv_held, gv_down, len_held, len_down, *])
def n_Hall_need : List Str := ["self", "name"]
def m_Hall_need : List MS := [(.ite (.cmp .NotIn (.var 1) (.att (.var 0) "down")) [(.rai "NoHouse" [(.cst (.str "no such house"))])] [])]
def n_Hall_must_stand : List Str := ["self", "name"]
def m_Hall_must_stand : List MS := [(.ite (.idx (.att (.var 0) "down") (.var 1)) [(.rai "Failed" [(.cst (.str "the house has failed"))])] [])]
def n_Hall_house : List Str := ["self", "name", "coins"]
def m_Hall_house : List MS := [(.ite (.not (.call "is_name" [(.var 1)])) [(.rai "BadName" [(.cst (.str "no name"))])] []), (.ite (.cmp .In (.var 1) (.att (.var 0) "down")) [(.rai "Taken" [(.cst (.str "a house has this name"))])] []), (.ite (.not (.cmp2 .LtE .LtE (.cst (.int 0)) (.var 2) (.glo "COINS_MOST"))) [(.rai "BadCoins" [(.cst (.str "coins out of bounds"))])] []), (.ite (.cmp .GtE (.blt .len false [(.att (.var 0) "down")]) (.glo "HOUSES_MOST")) [(.rai "Full" [(.cst (.str "no house more"))])] []), (.exp (.mth "Purses" (.att (.var 0) "chest") "add_purse" [(.var 1), (.var 2)])), (.six (.att (.var 0) "down") (.var 1) (.cst (.bl false))), (.exp (.bm .append false (.att (.var 0) "done") [(.tup [(.cst (.str "house")), (.var 1), (.var 2)])]))]
def n_Hall_look_at_coins : List Str := ["self", "coins"]
def m_Hall_look_at_coins : List MS := [(.ite (.not (.cmp2 .LtE .LtE (.cst (.int 1)) (.var 1) (.glo "COINS_MOST"))) [(.rai "BadCoins" [(.cst (.str "coins out of bounds"))])] [])]
def n_Hall_put_in : List Str := ["self", "name", "coins"]
def m_Hall_put_in : List MS := [(.exp (.mth "Hall" (.var 0) "need" [(.var 1)])), (.exp (.mth "Hall" (.var 0) "look_at_coins" [(.var 2)])), (.exp (.mth "Purses" (.att (.var 0) "chest") "fill" [(.var 1), (.var 2)])), (.exp (.bm .append false (.att (.var 0) "done") [(.tup [(.cst (.str "in")), (.var 1), (.var 2)])]))]
def n_Hall_take_out : List Str := ["self", "name", "coins"]
def m_Hall_take_out : List MS := [(.exp (.mth "Hall" (.var 0) "need" [(.var 1)])), (.exp (.mth "Hall" (.var 0) "look_at_coins" [(.var 2)])), (.exp (.mth "Purses" (.att (.var 0) "chest") "spend" [(.var 1), (.var 2)])), (.exp (.bm .append false (.att (.var 0) "done") [(.tup [(.cst (.str "out")), (.var 1), (.var 2)])]))]
def n_Hall_fail : List Str := ["self", "name"]
def m_Hall_fail : List MS := [(.exp (.mth "Hall" (.var 0) "need" [(.var 1)])), (.exp (.mth "Hall" (.var 0) "must_stand" [(.var 1)])), (.six (.att (.var 0) "down") (.var 1) (.cst (.bl true))), (.exp (.bm .append false (.att (.var 0) "done") [(.tup [(.cst (.str "fail")), (.var 1)])]))]
def n_Hall_mend : List Str := ["self", "name"]
def m_Hall_mend : List MS := [(.exp (.mth "Hall" (.var 0) "need" [(.var 1)])), (.ite (.not (.idx (.att (.var 0) "down") (.var 1))) [(.rai "Standing" [(.cst (.str "the house stands open"))])] []), (.six (.att (.var 0) "down") (.var 1) (.cst (.bl false))), (.exp (.bm .append false (.att (.var 0) "done") [(.tup [(.cst (.str "mend")), (.var 1)])]))]
def n_Hall_pass_days : List Str := ["self", "many"]
def m_Hall_pass_days : List MS := [(.ite (.not (.cmp2 .LtE .LtE (.cst (.int 1)) (.var 1) (.glo "DAYS_MOST"))) [(.rai "BadCount" [(.cst (.str "a count of days out of bounds"))])] []), (.aga (.var 0) "clock" .Add (.var 1)), (.exp (.bm .append false (.att (.var 0) "done") [(.tup [(.cst (.str "days")), (.var 1)])]))]
/-! ### the hall: houses, coins, days -/
def spHNeed : DSp := fun ds S Q X => ∃ g F n, ds = [.ref g.a, .str n] ∧ Hd S (hallC g ++ F) ∧ if (lk g.hs n).isSome = true then Q .non S else rz "NoHouse" S X
theorem ok_HNeed {G : Gc} (hf : G.fld = fldA) {ys : List Str} {yb : Bool} (hx : G.exc = excP (xc ys yb)) : BodyOk G n_Hall_need 2 m_Hall_need spHNeed := by
  rintro ds S Q X - ⟨g, F, n, rfl, hS, q⟩
  have h1 := hall1 hS
  have h4 := hall4 hS
  have q := Hold.mk q
  show wSs G _ m_Hall_need [some (.ref g.a), some (.str n)] S _
  unfold m_Hall_need
  walk_at "h"
  obtain ⟨q⟩ := q
  cases hb : lk g.hs n with
  | some v => simpa [hb] using q
  | none =>
    rw [hb] at q
    exact q _ exOf_F1
def spHStand : DSp := fun ds S Q X => ∃ g F n v, ds = [.ref g.a, .str n] ∧ Hd S (hallC g ++ F) ∧ lk g.hs n = some v ∧ if v.2 = true then rz "Failed" S X else Q .non S
theorem ok_HStand {G : Gc} (hf : G.fld = fldA) {ys : List Str} {yb : Bool} (hx : G.exc = excP (xc ys yb)) : BodyOk G n_Hall_must_stand 2 m_Hall_must_stand spHStand := by
  rintro ds S Q X - ⟨g, F, n, v, rfl, hS, hv, q⟩
  have h1 := hall1 hS
  have h4 := hall4 hS
  have q := Hold.mk q
  show wSs G _ m_Hall_must_stand [some (.ref g.a), some (.str n)] S _
  unfold m_Hall_must_stand
  walk_at "h"
  obtain ⟨q⟩ := q
  split at q
  · rename_i z; rw [if_pos z]; exact q _ exOf_F1
  · rename_i z; rw [if_neg z]; exact q
def spHCoinsOk : DSp := fun ds S Q X => ∃ u c, ds = [u, .int c] ∧ if 1 ≤ c ∧ c ≤ 1000000000000 then Q .non S else rz "BadCoins" S X
theorem ok_HCoinsOk {G : Gc} {ys : List Str} {yb : Bool} (hx : G.exc = excP (xc ys yb)) (c1 : G.con "COINS_MOST" = some (.int 1000000000000)) : BodyOk G n_Hall_look_at_coins 2 m_Hall_look_at_coins spHCoinsOk := by
  rintro ds S Q X - ⟨u, c, rfl, q⟩
  have q := Hold.mk q
  show wSs G _ m_Hall_look_at_coins [some u, some (.int c)] S _
  unfold m_Hall_look_at_coins
  walk_at "h"
  obtain ⟨q⟩ := q
  by_cases z1 : 1 ≤ c
  · by_cases z2 : c ≤ 1000000000000
    · rw [if_pos ⟨z1, z2⟩] at q
      simpa [z1, z2] using q
    · rw [if_neg (fun z => z2 z.2)] at q
      simpa [z1, z2] using q _ exOf_F1
  · rw [if_neg (fun z => z1 z.1)] at q
    simpa [z1] using q _ exOf_F1
theorem len_coins {hs : Hs} (h : hs.length ≤ 9) : (coinsOf hs).length < 1000 := by unfold coinsOf; rw [List.length_map]; omega
theorem ofP2 {S : Sto} {g : Gh} {F : List Cell} {hs : Hs} (h : Hd S (purS g.ca g.ha (coinsOf hs) ++ restP g F)) : Hd (put S g.da (.dct (downK hs))) (hallC { g with hs := hs } ++ F) := by
  have := Hd.upd (L1 := purS g.ca g.ha (coinsOf hs) ++ [(g.a, MO.ins "Hall" (hallF g))]) (a := g.da) (m := .dct (downK g.hs)) (L2 := (g.ba, .lst (refsB g.bills)) :: (g.na, .lst g.done) :: (billsC g.bills ++ F)) (by simpa [restP] using h) (.dct (downK hs))
  refine this.perm ?_
  rw [List.append_assoc]
  exact List.perm_middle
theorem rp1 {S : Sto} {g : Gh} {F : List Cell} {p : Ps} (h : Hd S (purS g.ca g.ha p ++ restP g F)) : S g.a = some (.ins "Hall" (hallF g)) ∧ S g.da = some (.dct (downK g.hs)) ∧ S g.na = some (.lst g.done) := ⟨h.get (by simp [restP]), h.get (by simp [restP]), h.get (by simp [restP])⟩
def dHouse (n : Str) (c : Int) : D := .tup [.str "house", .str n, .int c]
def spHouse : DSp := fun ds S Q X => ∃ g F n c, ds = [.ref g.a, .str n, .int c] ∧ Hd S (hallC g ++ F) ∧ OkH g.er ∧ n.length ≤ sizeLine ∧
  if isNm n = false then rz "BadName" S X else if (lk g.hs n).isSome = true then rz "Taken" S X else if ¬ (0 ≤ c ∧ c ≤ 1000000000000) then rz "BadCoins" S X else if 9 ≤ g.hs.length then rz "Full" S X else
  ∀ S', Hd S' (hallC { g with hs := g.hs ++ [(n, (c, false))], done := g.done ++ [dHouse n c] } ++ F) → Q .non S'
theorem ok_House {G : Gc} (hf : G.fld = fldA) {ys : List Str} {yb : Bool} (hx : G.exc = excP (xc ys yb)) (c1 : G.con "COINS_MOST" = some (.int 1000000000000)) (c2 : G.con "HOUSES_MOST" = some (.int 9)) (f1 : G.fn "is_name" = some (1, spPure fIsName)) (m1 : G.mt "Purses" "add_purse" = some (3, spPAdd)) : BodyOk G n_Hall_house 3 m_Hall_house spHouse := by
  rintro ds S Q X - ⟨g, F, n, c, rfl, hS, ok, hn, q⟩
  have h1 := hall1 hS
  have h2 := hall2 hS
  have h4 := hall4 hS
  have e1 : fIsName [.str n] = some (.bl (isNm n)) := if_pos hn
  have q := Hold.mk q
  show wSs G _ m_Hall_house [some (.ref g.a), some (.str n), some (.int c)] S _
  unfold m_Hall_house
  walk_at "h"
  obtain ⟨q⟩ := q
  by_cases z1 : isNm n = false
  · rw [if_pos z1] at q ⊢; exact q _ exOf_F1
  rw [if_neg z1] at q ⊢
  cases hb : lk g.hs n with
  | some v => rw [hb] at q; simpa using q _ exOf_F1
  | none =>
    rw [hb] at q
    rw [if_neg (by simp)] at q
    by_cases z2 : 0 ≤ c
    · by_cases z3 : c ≤ 1000000000000
      · rw [if_neg (fun z => z ⟨z2, z3⟩)] at q
        by_cases z4 : 9 ≤ g.hs.length
        · rw [if_pos z4] at q
          have z5 : (9 : Int) ≤ (g.hs.length : Int) := by omega
          simpa [z2, z3, z5] using q _ exOf_F1
        · rw [if_neg z4] at q
          have z5 : ¬ (9 : Int) ≤ (g.hs.length : Int) := by omega
          have q := Hold.mk q
          simp only [z2, z3, z5, Option.map_none, Option.isSome_none, if_true, if_false, Bool.false_eq_true, decide_true, Bool.true_eq_false]
          refine cW ⟨g.ca, g.ha, coinsOf g.hs, restP g F, n, c, rfl, toP hS, len_coins ok.hn, ?_⟩
          rw [lp_coins, hb, if_neg (by simp), if_neg (by omega), setP_coinsN (b := false) hb]
          intro S' hS'
          obtain ⟨h1', h4', h6'⟩ := rp1 hS'
          have e2 : gp (downK g.hs) (.inr n) (.bl false) = downK (g.hs ++ [(n, (c, false))]) := gp_downN hb
          have hS2 := ofP2 hS'
          have h1'' : put S' g.da (.dct (downK (g.hs ++ [(n, (c, false))]))) g.a = some (.ins "Hall" (hallF g)) := (hall1 hS2 :)
          have h6'' : put S' g.da (.dct (downK (g.hs ++ [(n, (c, false))]))) g.na = some (.lst g.done) := (hall6 hS2 :)
          walk_at "h"
          have dn : g.done.length < 100000 := ok.dn
          have hn9 := ok.hn
          refine ⟨by have : g.hs.length ≤ 9 := hn9; exact Nat.lt_of_le_of_lt this (by decide), by decide, Nat.lt_trans dn (by decide), q.h _ (hallDone hS2 _)⟩
      · rw [if_pos (fun z => z3 z.2)] at q
        simpa [z2, z3] using q _ exOf_F1
    · rw [if_pos (fun z => z2 z.1)] at q
      simpa [z2] using q _ exOf_F1
theorem lk_some {hs : Hs} {n : Str} (h : (lk hs n).isSome = true) : ∃ v, lk hs n = some v := Option.isSome_iff_exists.mp h
/-- coins come in -/
def spPutIn : DSp := fun ds S Q X => ∃ g F n c, ds = [.ref g.a, .str n, .int c] ∧ Hd S (hallC g ++ F) ∧ OkH g.er ∧ match lk g.hs n with
  | none => rz "NoHouse" S X
  | some v => if ¬ (1 ≤ c ∧ c ≤ 1000000000000) then rz "BadCoins" S X else ∀ S', Hd S' (hallC { g with hs := setC g.hs n (v.1 + c), done := g.done ++ [.tup [.str "in", .str n, .int c]] } ++ F) → Q .non S'
theorem ok_PutIn {G : Gc} (hf : G.fld = fldA) (m1 : G.mt "Hall" "need" = some (2, spHNeed)) (m2 : G.mt "Hall" "look_at_coins" = some (2, spHCoinsOk)) (m3 : G.mt "Purses" "fill" = some (3, spPFill)) : BodyOk G n_Hall_put_in 3 m_Hall_put_in spPutIn := by
  rintro ds S Q X - ⟨g, F, n, c, rfl, hS, ok, q⟩
  have h1 := hall1 hS
  have h2 := hall2 hS
  have q := Hold.mk q
  show wSs G _ m_Hall_put_in [some (.ref g.a), some (.str n), some (.int c)] S _
  unfold m_Hall_put_in
  walk_at "h"
  refine cW ⟨g, F, n, rfl, hS, ?_⟩
  cases hb : lk g.hs n with
  | none => obtain ⟨q⟩ := q; rw [hb] at q; exact q
  | some v =>
    have q : Hold (if ¬ (1 ≤ c ∧ c ≤ 1000000000000) then rz "BadCoins" S X else ∀ S', Hd S' (hallC { g with hs := setC g.hs n (v.1 + c), done := g.done ++ [.tup [.str "in", .str n, .int c]] } ++ F) → Q .non S') := by
      obtain ⟨q⟩ := q; rw [hb] at q; exact ⟨q⟩
    rw [if_pos (by rfl)]
    walk_at "h"
    refine cW ⟨_, c, rfl, ?_⟩
    obtain ⟨q⟩ := q
    by_cases hc : 1 ≤ c ∧ c ≤ 1000000000000
    · rw [if_pos hc]
      rw [if_neg (fun z => z hc)] at q
      have q := Hold.mk q
      walk_at "h"
      refine cW ⟨g.ca, g.ha, coinsOf g.hs, restP g F, n, c, rfl, toP hS, len_coins ok.hn, ?_⟩
      rw [lp_coins, hb]
      show if c < 0 then _ else _
      rw [if_neg (by omega)]
      intro S' hS'
      rw [setP_coins (by rw [hb]; rfl)] at hS'
      have hS2 := ofP (down_setC g.hs n _) hS'
      have h1' : S' g.a = some (.ins "Hall" (hallF g)) := (hall1 hS2 :)
      have h6' : S' g.na = some (.lst g.done) := (hall6 hS2 :)
      walk_at "h"
      have dn : g.done.length < 100000 := ok.dn
      exact ⟨by decide, Nat.lt_trans dn (by decide), q.h _ (hallDone hS2 _)⟩
    · rw [if_neg hc]
      rw [if_pos hc] at q
      exact q
def spTakeOut : DSp := fun ds S Q X => ∃ g F n c, ds = [.ref g.a, .str n, .int c] ∧ Hd S (hallC g ++ F) ∧ OkH g.er ∧ match lk g.hs n with
  | none => rz "NoHouse" S X
  | some v => if ¬ (1 ≤ c ∧ c ≤ 1000000000000) then rz "BadCoins" S X else if v.1 < c then rz "NoCoins" S X else ∀ S', Hd S' (hallC { g with hs := setC g.hs n (v.1 - c), done := g.done ++ [.tup [.str "out", .str n, .int c]] } ++ F) → Q .non S'
theorem ok_TakeOut {G : Gc} (hf : G.fld = fldA) (m1 : G.mt "Hall" "need" = some (2, spHNeed)) (m2 : G.mt "Hall" "look_at_coins" = some (2, spHCoinsOk)) (m3 : G.mt "Purses" "spend" = some (3, spPSpend)) : BodyOk G n_Hall_take_out 3 m_Hall_take_out spTakeOut := by
  rintro ds S Q X - ⟨g, F, n, c, rfl, hS, ok, q⟩
  have h1 := hall1 hS
  have h2 := hall2 hS
  have q := Hold.mk q
  show wSs G _ m_Hall_take_out [some (.ref g.a), some (.str n), some (.int c)] S _
  unfold m_Hall_take_out
  walk_at "h"
  refine cW ⟨g, F, n, rfl, hS, ?_⟩
  cases hb : lk g.hs n with
  | none => obtain ⟨q⟩ := q; rw [hb] at q; exact q
  | some v =>
    have q : Hold (if ¬ (1 ≤ c ∧ c ≤ 1000000000000) then rz "BadCoins" S X else if v.1 < c then rz "NoCoins" S X else ∀ S', Hd S' (hallC { g with hs := setC g.hs n (v.1 - c), done := g.done ++ [.tup [.str "out", .str n, .int c]] } ++ F) → Q .non S') := by
      obtain ⟨q⟩ := q; rw [hb] at q; exact ⟨q⟩
    rw [if_pos (by rfl)]
    walk_at "h"
    refine cW ⟨_, c, rfl, ?_⟩
    obtain ⟨q⟩ := q
    by_cases hc : 1 ≤ c ∧ c ≤ 1000000000000
    · rw [if_pos hc]
      rw [if_neg (fun z => z hc)] at q
      have q := Hold.mk q
      walk_at "h"
      refine cW ⟨g.ca, g.ha, coinsOf g.hs, restP g F, n, c, rfl, toP hS, len_coins ok.hn, ?_⟩
      rw [lp_coins, hb]
      show if c < 0 then _ else _
      rw [if_neg (by omega)]
      obtain ⟨q⟩ := q
      by_cases hv : v.1 < c
      · rw [if_pos hv] at q ⊢; exact q
      rw [if_neg hv] at q ⊢
      intro S' hS'
      rw [setP_coins (by rw [hb]; rfl)] at hS'
      have hS2 := ofP (down_setC g.hs n _) hS'
      have h1' : S' g.a = some (.ins "Hall" (hallF g)) := (hall1 hS2 :)
      have h6' : S' g.na = some (.lst g.done) := (hall6 hS2 :)
      have q := Hold.mk q
      walk_at "h"
      have dn : g.done.length < 100000 := ok.dn
      exact ⟨by decide, Nat.lt_trans dn (by decide), q.h _ (hallDone hS2 _)⟩
    · rw [if_neg hc]
      rw [if_pos hc] at q
      exact q
def spFail : DSp := fun ds S Q X => ∃ g F n, ds = [.ref g.a, .str n] ∧ Hd S (hallC g ++ F) ∧ OkH g.er ∧ match lk g.hs n with
  | none => rz "NoHouse" S X
  | some v => if v.2 = true then rz "Failed" S X else ∀ S', Hd S' (hallC { g with hs := setF g.hs n true, done := g.done ++ [.tup [.str "fail", .str n]] } ++ F) → Q .non S'
theorem ok_Fail {G : Gc} (hf : G.fld = fldA) (m1 : G.mt "Hall" "need" = some (2, spHNeed)) (m2 : G.mt "Hall" "must_stand" = some (2, spHStand)) : BodyOk G n_Hall_fail 2 m_Hall_fail spFail := by
  rintro ds S Q X - ⟨g, F, n, rfl, hS, ok, q⟩
  have h1 := hall1 hS
  have h4 := hall4 hS
  have q := Hold.mk q
  show wSs G _ m_Hall_fail [some (.ref g.a), some (.str n)] S _
  unfold m_Hall_fail
  walk_at "h"
  refine cW ⟨g, F, n, rfl, hS, ?_⟩
  cases hb : lk g.hs n with
  | none => obtain ⟨q⟩ := q; rw [hb] at q; exact q
  | some v =>
    have q : Hold (if v.2 = true then rz "Failed" S X else ∀ S', Hd S' (hallC { g with hs := setF g.hs n true, done := g.done ++ [.tup [.str "fail", .str n]] } ++ F) → Q .non S') := by
      obtain ⟨q⟩ := q; rw [hb] at q; exact ⟨q⟩
    rw [if_pos (by rfl)]
    walk_at "h"
    refine cW ⟨g, F, n, v, rfl, hS, hb, ?_⟩
    obtain ⟨q⟩ := q
    by_cases hv : v.2 = true
    · rw [if_pos hv] at q ⊢; exact q
    rw [if_neg hv] at q ⊢
    have e2 : gp (downK g.hs) (.inr n) (.bl true) = downK (setF g.hs n true) := gp_down (by rw [hb]; rfl)
    have hS2 := hallDown hS (held_setF g.hs n true)
    have h1' : put S g.da (.dct (downK (setF g.hs n true))) g.a = some (.ins "Hall" (hallF g)) := (hall1 hS2 :)
    have h6' : put S g.da (.dct (downK (setF g.hs n true))) g.na = some (.lst g.done) := (hall6 hS2 :)
    have q := Hold.mk q
    walk_at "h"
    have dn : g.done.length < 100000 := ok.dn
    have hn9 : g.hs.length ≤ 9 := ok.hn
    exact ⟨Nat.lt_of_le_of_lt hn9 (by decide), by decide, Nat.lt_trans dn (by decide), q.h _ (hallDone hS2 _)⟩
def spMend : DSp := fun ds S Q X => ∃ g F n, ds = [.ref g.a, .str n] ∧ Hd S (hallC g ++ F) ∧ OkH g.er ∧ match lk g.hs n with
  | none => rz "NoHouse" S X
  | some v => if v.2 = false then rz "Standing" S X else ∀ S', Hd S' (hallC { g with hs := setF g.hs n false, done := g.done ++ [.tup [.str "mend", .str n]] } ++ F) → Q .non S'
theorem ok_Mend {G : Gc} (hf : G.fld = fldA) {ys : List Str} {yb : Bool} (hx : G.exc = excP (xc ys yb)) (m1 : G.mt "Hall" "need" = some (2, spHNeed)) : BodyOk G n_Hall_mend 2 m_Hall_mend spMend := by
  rintro ds S Q X - ⟨g, F, n, rfl, hS, ok, q⟩
  have h1 := hall1 hS
  have h4 := hall4 hS
  have q := Hold.mk q
  show wSs G _ m_Hall_mend [some (.ref g.a), some (.str n)] S _
  unfold m_Hall_mend
  walk_at "h"
  refine cW ⟨g, F, n, rfl, hS, ?_⟩
  cases hb : lk g.hs n with
  | none => obtain ⟨q⟩ := q; rw [hb] at q; exact q
  | some v =>
    have q : Hold (if v.2 = false then rz "Standing" S X else ∀ S', Hd S' (hallC { g with hs := setF g.hs n false, done := g.done ++ [.tup [.str "mend", .str n]] } ++ F) → Q .non S') := by
      obtain ⟨q⟩ := q; rw [hb] at q; exact ⟨q⟩
    rw [if_pos (by rfl)]
    have e2 : gp (downK g.hs) (.inr n) (.bl false) = downK (setF g.hs n false) := gp_down (by rw [hb]; rfl)
    have hS2 := hallDown hS (held_setF g.hs n false)
    have h1' : put S g.da (.dct (downK (setF g.hs n false))) g.a = some (.ins "Hall" (hallF g)) := (hall1 hS2 :)
    have h6' : put S g.da (.dct (downK (setF g.hs n false))) g.na = some (.lst g.done) := (hall6 hS2 :)
    walk_at "h"
    obtain ⟨q⟩ := q
    by_cases hv : v.2 = false
    · rw [if_pos hv] at q ⊢; exact q _ exOf_F1
    rw [if_neg hv] at q ⊢
    have dn : g.done.length < 100000 := ok.dn
    have hn9 : g.hs.length ≤ 9 := ok.hn
    exact ⟨Nat.lt_of_le_of_lt hn9 (by decide), by decide, Nat.lt_trans dn (by decide), q _ (hallDone hS2 _)⟩
def spDays : DSp := fun ds S Q X => ∃ g F m, ds = [.ref g.a, .int m] ∧ Hd S (hallC g ++ F) ∧ OkH g.er ∧ if ¬ (1 ≤ m ∧ m ≤ 1000) then rz "BadCount" S X else ∀ S', Hd S' (hallC { g with clock := g.clock + m, done := g.done ++ [.tup [.str "days", .int m]] } ++ F) → Q .non S'
theorem ok_Days {G : Gc} (hf : G.fld = fldA) {ys : List Str} {yb : Bool} (hx : G.exc = excP (xc ys yb)) (c1 : G.con "DAYS_MOST" = some (.int 1000)) : BodyOk G n_Hall_pass_days 2 m_Hall_pass_days spDays := by
  rintro ds S Q X - ⟨g, F, m, rfl, hS, ok, q⟩
  have h1 := hall1 hS
  have q := Hold.mk q
  show wSs G _ m_Hall_pass_days [some (.ref g.a), some (.int m)] S _
  unfold m_Hall_pass_days
  walk_at "h"
  obtain ⟨q⟩ := q
  by_cases z1 : 1 ≤ m
  · by_cases z2 : m ≤ 1000
    · rw [if_neg (fun z => z ⟨z1, z2⟩)] at q
      rw [if_pos z1, if_neg (fun z => z z2)]
      have hS2 := hallClock hS (g.clock + m)
      have h1' : put S g.a (.ins "Hall" (hallF { g with clock := g.clock + m })) g.a = some (.ins "Hall" (hallF { g with clock := g.clock + m })) := (hall1 hS2 :)
      have h6' : put S g.a (.ins "Hall" (hallF { g with clock := g.clock + m })) g.na = some (.lst g.done) := (hall6 hS2 :)
      refine ⟨.int (g.clock + m), hallF g, rfl, rfl, by rw [len_hallF]; decide, ?_⟩
      have q := Hold.mk q
      walk_at "h"
      have dn : g.done.length < 100000 := ok.dn
      exact ⟨by decide, Nat.lt_trans dn (by decide), q.h _ (hallDone hS2 _)⟩
    · rw [if_pos (fun z => z2 z.2)] at q
      rw [if_pos z1, if_pos z2]; exact q _ exOf_F1
  · rw [if_pos (fun z => z1 z.1)] at q
    rw [if_neg z1]; exact q _ exOf_F1
end Mn

namespace Mn
open PySem L2
local macro_rules | `(tactic| walk_at "x") => `(tactic| try simp only [wSs, wS, wE, wEs, wC, x_add, x_sub, x_addS, x_addT, x_addL, x_mul, x_mulS, x_mulL, x_div, x_mod, x_pow, x_lt, x_le, x_gt, x_ge, x_eqD, x_neD, x_in, x_notIn, x_is, x_isNot, x_eqI, x_eqS, x_eqB, x_isNN, x_isBN, x_isIN, x_isSN, x_isTN, x_isLN, x_isRN, x_isBB, x_lenS, x_lenT, x_lenL, x_lenP, x_sumP, x_appP, x_appTP, x_idxP, x_frzP, x_abs, x_intI, x_intB, x_max, x_allL, x_sumL, x_listL, x_listT, x_isi, x_truB, x_truI, x_truL, x_truT, x_truN, x_idxS, x_idxL, x_idxT, x_slS, x_slT, x_slL, x_it0L, x_it0T, x_it0S, x_it0C, x_it1, x_it2L, x_val, x_upd, x_newF, x_newT, x_nm, x_tp, x_tps, x_tp0, x_ite, x_iteD, x_ifD, x_some, x_some2, x_map, x_eqInt, i_N_tuple, i_N_list, i_N_bool, i_N_int, i_N_str, i_N_tl, i_B_tuple, i_B_list, i_B_bool, i_B_int, i_B_str, i_B_tl, i_I_tuple, i_I_list, i_I_bool, i_I_int, i_I_str, i_I_tl, i_S_tuple, i_S_list, i_S_bool, i_S_int, i_S_str, i_S_tl, i_T_tuple, i_T_list, i_T_bool, i_T_int, i_T_str, i_T_tl, i_L_tuple, i_L_list, i_L_bool, i_L_int, i_L_str, i_L_tl, x_pure, x_new, x_fn, List.getElem?_cons_zero, List.getElem?_cons_succ, List.set_cons_zero, List.set_cons_succ, Option.bind_some, List.length_cons, List.length_nil, Nat.reduceAdd, true_and, and_true, decide_eq_true_eq, Bool.not_eq_true', decide_eq_false_iff_not, Bool.not_false, Bool.not_true, Bool.false_eq_true, Bool.true_eq_false, if_true, if_false, ite_true, ite_false])
local macro_rules | `(tactic| walk_at "h") => `(tactic| simp only [wSs, wS, wE, wEs, wC, x_add, x_sub, x_addS, x_addT, x_addL, x_mul, x_mulS, x_mulL, x_div, x_mod, x_pow, x_lt, x_le, x_gt, x_ge, x_eqD, x_neD, x_in, x_notIn, x_is, x_isNot, x_eqI, x_eqS, x_eqB, x_isNN, x_isBN, x_isIN, x_isSN, x_isTN, x_isLN, x_isRN, x_isBB, x_lenS, x_lenT, x_lenL, x_lenP, x_sumP, x_appP, x_appTP, x_idxP, x_frzP, x_abs, x_intI, x_intB, x_max, x_allL, x_sumL, x_listL, x_listT, x_isi, x_truB, x_truI, x_truL, x_truT, x_truN, x_idxS, x_idxL, x_idxT, x_slS, x_slT, x_slL, x_it0L, x_it0T, x_it0S, x_it0C, x_it1, x_it2L, x_val, x_upd, x_newF, x_newT, x_nm, x_tp, x_tps, x_tp0, x_ite, x_iteD, x_ifD, x_some, x_some2, x_map, x_eqInt, i_N_tuple, i_N_list, i_N_bool, i_N_int, i_N_str, i_N_tl, i_B_tuple, i_B_list, i_B_bool, i_B_int, i_B_str, i_B_tl, i_I_tuple, i_I_list, i_I_bool, i_I_int, i_I_str, i_I_tl, i_S_tuple, i_S_list, i_S_bool, i_S_int, i_S_str, i_S_tl, i_T_tuple, i_T_list, i_T_bool, i_T_int, i_T_str, i_T_tl, i_L_tuple, i_L_list, i_L_bool, i_L_int, i_L_str, i_L_tl, x_pure, x_new, x_fn, List.getElem?_cons_zero, List.getElem?_cons_succ, List.set_cons_zero, List.set_cons_succ, Option.bind_some, List.length_cons, List.length_nil, Nat.reduceAdd, true_and, and_true, decide_eq_true_eq, Bool.not_eq_true', decide_eq_false_iff_not, Bool.not_false, Bool.not_true, Bool.false_eq_true, Bool.true_eq_false, if_true, if_false, ite_true, ite_false, r_len, r_idx, r_in, r_get, r_getT, r_setd, r_setdT, r_app, r_appT, r_six, r_it, r_it2, r_sorted, r_list, r_dict, r_sl, r_tru, r_newD, r_att, r_self, r_sat, r_ins, r_ins2, fl_held, fl_chest, fl_down, fl_clock, fl_bills, fl_done, fl_drawer, fl_drawee, fl_payee, fl_amount, fl_due, fl_slip, fl_keeper, fl_stage, fl_edition, fl_blank, lu_held, lu_chest, lu_down, lu_clock, lu_bills, lu_done, lu_drawer, lu_drawee, lu_payee, lu_amount, lu_due, lu_slip, lu_keeper, lu_stage, lu_edition, lu_blank, pf_stage, pf_keeper, pf_edition, pf_blank, pf_slip, pf_clock, len_pursesF, len_hallF, len_billF, keyOf, Option.map_some, Option.map_none, Option.bind_none, Option.getD_some, Option.getD_none, Option.isSome_some, Option.isSome_none, r_some2, r_aga, r_int, r_ags, r_dct, ex_BadName, ex_Taken, ex_BadCoins, ex_Full, ex_NoHouse, ex_NoCoins, ex_Failed, ex_Standing, ex_BadCount, ex_BadDay, ex_NoBill, ex_Void, ex_Closed, ex_Accepted, ex_Same, ex_NotBlank, ex_NotYet, ex_NotPresented, ex_Protested, ex_TooLate, ex_NotBound, ex_CantPay, ex_NotProtested, ex_IsBound, ex_Twice, gv_pk, gp_pk, len_pk, nH_need, nH_must_stand, nH_find, nH_find_copy, nH_house, nH_look_at_coins, nH_put_in, nH_take_out, nH_fail, nH_mend, nH_pass_days, nH_draw, nH_accept, nH_signed, nH_sign, nH_sign_blank, nH_hand, nH_lose, nH_can_pay, nH_present, nH_protest, nH_ask, nH_may_honour, nH_honour, nH_fair, nH_names, nH_coins, nH_stands, nH_today, nH_many_bills, nH_paper, nH_state, nH_holder, nH_copy_of, nH_in_blank, nH_row, nH_story, nH_moment, nH_twin, nB_set_out, nB_doubled, nB_must_run, nB_must_be_back, nB_taken_on, nB_take_on, nB_sign_on, nB_hand_on, nB_next_copy, nB_must_be_due, nB_protest_on, nB_open_now, nB_go_back, nB_to_itself, nP_need, nP_look_at, nP_add_purse, nP_coins, nP_fill, nP_spend, nP_pay, nP_total, nP_all_names, nP_doubled, put_same, gv_held, gv_down, len_held, len_down, *])
def n_Purses___init__ : List Str := ["self"]
def m_Purses___init__ : List MS := [(.sat (.var 0) "held" (.dct []))]
def n_Hall___init__ : List Str := ["self"]
def m_Hall___init__ : List MS := [(.sat (.var 0) "chest" (.mk "Purses" [])), (.sat (.var 0) "down" (.dct [])), (.sat (.var 0) "clock" (.cst (.int 0))), (.sat (.var 0) "bills" (.lst true [])), (.sat (.var 0) "done" (.lst true []))]
def n_Hall_can_pay : List Str := ["self", "name", "amount"]
def m_Hall_can_pay : List MS := [(.exp (.mth "Hall" (.var 0) "need" [(.var 1)])), (.ret (.and (.not (.idx (.att (.var 0) "down") (.var 1))) (.cmp .GtE (.mth "Purses" (.att (.var 0) "chest") "coins" [(.var 1)]) (.var 2))))]
def n_Hall_names : List Str := ["self"]
def m_Hall_names : List MS := [(.ret (.blt .sorted false [(.att (.var 0) "down")]))]
def n_Hall_coins : List Str := ["self", "name"]
def m_Hall_coins : List MS := [(.ret (.mth "Purses" (.att (.var 0) "chest") "coins" [(.var 1)]))]
def n_Hall_stands : List Str := ["self", "name"]
def m_Hall_stands : List MS := [(.exp (.mth "Hall" (.var 0) "need" [(.var 1)])), (.ite (.idx (.att (.var 0) "down") (.var 1)) [(.ret (.cst (.str "failed")))] []), (.ret (.cst (.str "open")))]
def n_Hall_today : List Str := ["self"]
def m_Hall_today : List MS := [(.ret (.att (.var 0) "clock"))]
def n_Hall_many_bills : List Str := ["self"]
def m_Hall_many_bills : List MS := [(.ret (.blt .len false [(.att (.var 0) "bills")]))]
def n_Hall_story : List Str := ["self"]
def m_Hall_story : List MS := [(.ret (.blt .list false [(.att (.var 0) "done")]))]
def n_Hall_moment : List Str := ["self"]
def m_Hall_moment : List MS := [(.ret (.blt .len false [(.att (.var 0) "done")]))]
/-! ### what is asked of the hall -/
def namesD (hs : Hs) : List D := (srtS (hs.map (·.1))).map .str
def spNames : DSp := fun ds S Q X => ∃ g F, ds = [.ref g.a] ∧ Hd S (hallC g ++ F) ∧ OkH g.er ∧ Q (.lst (namesD g.hs)) S
theorem ok_Names {G : Gc} (hf : G.fld = fldA) : BodyOk G n_Hall_names 1 m_Hall_names spNames := by
  rintro ds S Q X - ⟨g, F, rfl, hS, ok, q⟩
  have h1 := hall1 hS
  have h4 := hall4 hS
  have e1 := ks_down g.hs
  have q := Hold.mk q
  show wSs G _ m_Hall_names [some (.ref g.a)] S _
  unfold m_Hall_names
  walk_at "h"
  refine ⟨⟨?_, ?_⟩, q.h⟩
  · rw [List.length_map]; exact Nat.lt_of_le_of_lt ok.hn (by decide)
  · rw [List.all_eq_true]
    intro x hx
    obtain ⟨v, hv, rfl⟩ := List.mem_map.mp hx
    exact isNm_ok (ok.nm v hv)
def spHCoins : DSp := fun ds S Q X => ∃ g F n, ds = [.ref g.a, .str n] ∧ Hd S (hallC g ++ F) ∧ match lk g.hs n with
  | some v => Q (.int v.1) S
  | none => rz "NoHouse" S X
theorem ok_HCoins {G : Gc} (hf : G.fld = fldA) (m1 : G.mt "Purses" "coins" = some (2, spPCoins)) : BodyOk G n_Hall_coins 2 m_Hall_coins spHCoins := by
  rintro ds S Q X - ⟨g, F, n, rfl, hS, q⟩
  have h1 := hall1 hS
  have h2 := hall2 hS
  have q := Hold.mk q
  show wSs G _ m_Hall_coins [some (.ref g.a), some (.str n)] S _
  unfold m_Hall_coins
  walk_at "h"
  refine cW ⟨g.ca, g.ha, coinsOf g.hs, restP g F, n, rfl, toP hS, ?_⟩
  obtain ⟨q⟩ := q
  rw [lp_coins]
  cases hb : lk g.hs n with
  | none => rw [hb] at q; exact q
  | some v => rw [hb] at q; exact q
def stW (b : Bool) : Str := if b = true then "failed" else "open"
def spStandsH : DSp := fun ds S Q X => ∃ g F n, ds = [.ref g.a, .str n] ∧ Hd S (hallC g ++ F) ∧ match lk g.hs n with
  | some v => Q (.str (stW v.2)) S
  | none => rz "NoHouse" S X
theorem ok_StandsH {G : Gc} (hf : G.fld = fldA) (m1 : G.mt "Hall" "need" = some (2, spHNeed)) : BodyOk G n_Hall_stands 2 m_Hall_stands spStandsH := by
  rintro ds S Q X - ⟨g, F, n, rfl, hS, q⟩
  have h1 := hall1 hS
  have h4 := hall4 hS
  have q := Hold.mk q
  show wSs G _ m_Hall_stands [some (.ref g.a), some (.str n)] S _
  unfold m_Hall_stands
  walk_at "h"
  refine cW ⟨g, F, n, rfl, hS, ?_⟩
  cases hb : lk g.hs n with
  | none => obtain ⟨q⟩ := q; rw [hb] at q; exact q
  | some v =>
    rw [if_pos (by rfl)]
    have q : Hold (Q (.str (stW v.2)) S) := by obtain ⟨q⟩ := q; rw [hb] at q; exact ⟨q⟩
    walk_at "h"
    obtain ⟨q⟩ := q
    unfold stW at q
    split at q
    · rename_i z; rw [if_pos z]; exact q
    · rename_i z; rw [if_neg z]; exact q
def spToday : DSp := fun ds S Q X => ∃ g F, ds = [.ref g.a] ∧ Hd S (hallC g ++ F) ∧ Q (.int g.clock) S
theorem ok_Today {G : Gc} (hf : G.fld = fldA) : BodyOk G n_Hall_today 1 m_Hall_today spToday := by
  rintro ds S Q X - ⟨g, F, rfl, hS, q⟩
  have h1 := hall1 hS
  have q := Hold.mk q
  show wSs G _ m_Hall_today [some (.ref g.a)] S _
  unfold m_Hall_today
  walk_at "h"
def spMany : DSp := fun ds S Q X => ∃ g F, ds = [.ref g.a] ∧ Hd S (hallC g ++ F) ∧ Q (.int g.bills.length) S
theorem ok_Many {G : Gc} (hf : G.fld = fldA) : BodyOk G n_Hall_many_bills 1 m_Hall_many_bills spMany := by
  rintro ds S Q X - ⟨g, F, rfl, hS, q⟩
  have h1 := hall1 hS
  have h5 := hall5 hS
  have e1 : (refsB g.bills).length = g.bills.length := List.length_map ..
  have q := Hold.mk q
  show wSs G _ m_Hall_many_bills [some (.ref g.a)] S _
  unfold m_Hall_many_bills
  walk_at "h"
def spStory : DSp := fun ds S Q X => ∃ g F, ds = [.ref g.a] ∧ Hd S (hallC g ++ F) ∧ Q (.lst g.done) S
theorem ok_Story {G : Gc} (hf : G.fld = fldA) : BodyOk G n_Hall_story 1 m_Hall_story spStory := by
  rintro ds S Q X - ⟨g, F, rfl, hS, q⟩
  have h1 := hall1 hS
  have h6 := hall6 hS
  have q := Hold.mk q
  show wSs G _ m_Hall_story [some (.ref g.a)] S _
  unfold m_Hall_story
  walk_at "h"
def spMoment : DSp := fun ds S Q X => ∃ g F, ds = [.ref g.a] ∧ Hd S (hallC g ++ F) ∧ Q (.int g.done.length) S
theorem ok_Moment {G : Gc} (hf : G.fld = fldA) : BodyOk G n_Hall_moment 1 m_Hall_moment spMoment := by
  rintro ds S Q X - ⟨g, F, rfl, hS, q⟩
  have h1 := hall1 hS
  have h6 := hall6 hS
  have q := Hold.mk q
  show wSs G _ m_Hall_moment [some (.ref g.a)] S _
  unfold m_Hall_moment
  walk_at "h"
def spCanPay : DSp := fun ds S Q X => ∃ g F n c, ds = [.ref g.a, .str n, .int c] ∧ Hd S (hallC g ++ F) ∧ match lk g.hs n with
  | some v => Q (.bl (!v.2 && decide (c ≤ v.1))) S
  | none => rz "NoHouse" S X
theorem ok_CanPay {G : Gc} (hf : G.fld = fldA) (m1 : G.mt "Hall" "need" = some (2, spHNeed)) (m2 : G.mt "Purses" "coins" = some (2, spPCoins)) : BodyOk G n_Hall_can_pay 3 m_Hall_can_pay spCanPay := by
  rintro ds S Q X - ⟨g, F, n, c, rfl, hS, q⟩
  have h1 := hall1 hS
  have h2 := hall2 hS
  have h4 := hall4 hS
  have q := Hold.mk q
  show wSs G _ m_Hall_can_pay [some (.ref g.a), some (.str n), some (.int c)] S _
  unfold m_Hall_can_pay
  walk_at "h"
  refine cW ⟨g, F, n, rfl, hS, ?_⟩
  cases hb : lk g.hs n with
  | none => obtain ⟨q⟩ := q; rw [hb] at q; exact q
  | some v =>
    rw [if_pos (by rfl)]
    have q : Hold (Q (.bl (!v.2 && decide (c ≤ v.1))) S) := by obtain ⟨q⟩ := q; rw [hb] at q; exact ⟨q⟩
    walk_at "h"
    obtain ⟨q⟩ := q
    split
    · rename_i z
      rw [z] at q
      refine cW ⟨g.ca, g.ha, coinsOf g.hs, restP g F, n, rfl, toP hS, ?_⟩
      rw [lp_coins, hb]
      exact ⟨_, rfl, q⟩
    · rename_i z
      have z' : v.2 = true := by simpa using z
      rw [z'] at q
      simpa [z'] using q
/-! ### new purses, a new hall -/
def spPInit : DSp := fun ds S Q X => ∃ ca L, ds = [.ref ca] ∧ Hd S ((ca, .ins "Purses" []) :: L) ∧ ∀ S' ha, Hd S' (purS ca ha [] ++ L) → Q .non S'
theorem ok_PInit {G : Gc} (hf : G.fld = fldA) : BodyOk G n_Purses___init__ 1 m_Purses___init__ spPInit := by
  rintro ds S Q X - ⟨ca, L, rfl, hS, q⟩
  have h1 : S ca = some (.ins "Purses" []) := hS.get (by simp)
  have q := Hold.mk q
  show wSs G _ m_Purses___init__ [some (.ref ca)] S _
  unfold m_Purses___init__
  simp only [wSs, wS, wE]
  intro p hp
  have ne : ca ≠ p := r_new hp h1
  have h2 := hS.new hp (.dct [])
  have h3 := (Hd.upd (L1 := [_]) h2 (.ins "Purses" (pursesF p)))
  have h1' : put S p (.dct []) ca = some (.ins "Purses" []) := h2.get (by simp)
  refine ⟨_, rfl, ca, _, _, rfl, h1', ?_, by decide, q.h _ p ?_⟩
  · rw [hf]; exact fl_held
  · exact h3.perm (List.Perm.swap ..)
def gNew (a ca ha da ba na : Addr) : Gh := ⟨a, ca, ha, da, ba, na, [], 0, [], []⟩
def spHInit : DSp := fun ds S Q X => ∃ a L, ds = [.ref a] ∧ Hd S ((a, .ins "Hall" []) :: L) ∧ ∀ S' ca ha da ba na, Hd S' (hallC (gNew a ca ha da ba na) ++ L) → Q .non S'
theorem ok_HInit {G : Gc} (hf : G.fld = fldA) (k1 : G.mkr "Purses" = some (1, spPInit)) : BodyOk G n_Hall___init__ 1 m_Hall___init__ spHInit := by
  rintro ds S Q X - ⟨a, L, rfl, hS, q⟩
  have q := Hold.mk q
  show wSs G _ m_Hall___init__ [some (.ref a)] S _
  unfold m_Hall___init__
  simp only [wSs, wS, wE, wEs, k1, List.length_nil, Nat.zero_add, x_fn, true_and]
  intro ca hp
  refine cW ⟨ca, (a, .ins "Hall" []) :: L, rfl, hS.new hp _, fun S1 ha h1 => ⟨rfl, ?_⟩⟩
  have a1 : S1 a = some (.ins "Hall" []) := h1.get (by simp [purS, purC])
  refine ⟨_, rfl, a, "Hall", [], rfl, a1, by rw [hf]; exact fl_chest, by decide, ?_⟩
  have h2 := Hd.upd (L1 := purS ca ha []) h1 (.ins "Hall" [("chest", .ref ca)])
  intro da hp2
  have h3 := h2.new hp2 (.dct [])
  refine ⟨_, rfl, a, "Hall", [("chest", .ref ca)], rfl, h3.get (by simp [purS, purC]), by rw [hf]; exact fl_down, by simp, ?_⟩
  have h4 := Hd.upd (L1 := (da, .dct []) :: purS ca ha []) h3 (.ins "Hall" [("chest", .ref ca), ("down", .ref da)])
  refine ⟨_, rfl, a, "Hall", [("chest", .ref ca), ("down", .ref da)], rfl, h4.get (by simp [purS, purC]), by rw [hf]; exact fl_clock, by simp, ?_⟩
  have h5 := Hd.upd (L1 := (da, .dct []) :: purS ca ha []) h4 (.ins "Hall" [("chest", .ref ca), ("down", .ref da), ("clock", .int 0)])
  refine ⟨by decide, fun ba hp3 => ?_⟩
  have h6 := h5.new hp3 (.lst [])
  refine ⟨_, rfl, a, "Hall", [("chest", .ref ca), ("down", .ref da), ("clock", .int 0)], rfl, h6.get (by simp [purS, purC]), by rw [hf]; exact fl_bills, by simp, ?_⟩
  have h7 := Hd.upd (L1 := (ba, .lst []) :: (da, .dct []) :: purS ca ha []) h6 (.ins "Hall" [("chest", .ref ca), ("down", .ref da), ("clock", .int 0), ("bills", .ref ba)])
  refine ⟨by decide, fun na hp4 => ?_⟩
  have h8 := h7.new hp4 (.lst [])
  refine ⟨_, rfl, a, "Hall", [("chest", .ref ca), ("down", .ref da), ("clock", .int 0), ("bills", .ref ba)], rfl, h8.get (by simp [purS, purC]), by rw [hf]; exact fl_done, by simp, ?_⟩
  have h9 := Hd.upd (L1 := (na, .lst []) :: (ba, .lst []) :: (da, .dct []) :: purS ca ha []) h8 (.ins "Hall" [("chest", .ref ca), ("down", .ref da), ("clock", .int 0), ("bills", .ref ba), ("done", .ref na)])
  refine q.h _ ca ha da ba na (h9.perm ?_)
  show ([(na, MO.lst []), (ba, MO.lst []), (da, MO.dct []), (ca, MO.ins "Purses" (pursesF ha)), (ha, MO.dct [])] ++ (a, MO.ins "Hall" (hallF (gNew a ca ha da ba na))) :: L).Perm ((a, MO.ins "Hall" (hallF (gNew a ca ha da ba na))) :: ([(ca, MO.ins "Purses" (pursesF ha)), (ha, MO.dct []), (da, MO.dct []), (ba, MO.lst []), (na, MO.lst [])] ++ L))
  refine List.perm_middle.trans (List.Perm.cons _ (List.Perm.append_right _ ?_))
  refine (List.reverse_perm [(na, MO.lst []), (ba, MO.lst []), (da, MO.dct []), (ca, MO.ins "Purses" (pursesF ha)), (ha, MO.dct [])]).symm.trans ?_
  exact (List.Perm.swap ..)
end Mn

namespace Mn
open PySem L2
theorem w_house_draw : (("house" : Str) = "draw") = False := eq_false (by decide +kernel)
theorem w_house_in : (("house" : Str) = "in") = False := eq_false (by decide +kernel)
theorem w_house_out : (("house" : Str) = "out") = False := eq_false (by decide +kernel)
theorem w_house_fail : (("house" : Str) = "fail") = False := eq_false (by decide +kernel)
theorem w_house_mend : (("house" : Str) = "mend") = False := eq_false (by decide +kernel)
theorem w_house_days : (("house" : Str) = "days") = False := eq_false (by decide +kernel)
theorem w_house_fair : (("house" : Str) = "fair") = False := eq_false (by decide +kernel)
theorem w_in_draw : (("in" : Str) = "draw") = False := eq_false (by decide +kernel)
theorem w_in_house : (("in" : Str) = "house") = False := eq_false (by decide +kernel)
theorem w_in_out : (("in" : Str) = "out") = False := eq_false (by decide +kernel)
theorem w_in_fail : (("in" : Str) = "fail") = False := eq_false (by decide +kernel)
theorem w_in_mend : (("in" : Str) = "mend") = False := eq_false (by decide +kernel)
theorem w_in_days : (("in" : Str) = "days") = False := eq_false (by decide +kernel)
theorem w_in_fair : (("in" : Str) = "fair") = False := eq_false (by decide +kernel)
theorem w_out_draw : (("out" : Str) = "draw") = False := eq_false (by decide +kernel)
theorem w_out_house : (("out" : Str) = "house") = False := eq_false (by decide +kernel)
theorem w_out_in : (("out" : Str) = "in") = False := eq_false (by decide +kernel)
theorem w_out_fail : (("out" : Str) = "fail") = False := eq_false (by decide +kernel)
theorem w_out_mend : (("out" : Str) = "mend") = False := eq_false (by decide +kernel)
theorem w_out_days : (("out" : Str) = "days") = False := eq_false (by decide +kernel)
theorem w_out_fair : (("out" : Str) = "fair") = False := eq_false (by decide +kernel)
theorem w_fail_draw : (("fail" : Str) = "draw") = False := eq_false (by decide +kernel)
theorem w_fail_house : (("fail" : Str) = "house") = False := eq_false (by decide +kernel)
theorem w_fail_in : (("fail" : Str) = "in") = False := eq_false (by decide +kernel)
theorem w_fail_out : (("fail" : Str) = "out") = False := eq_false (by decide +kernel)
theorem w_fail_mend : (("fail" : Str) = "mend") = False := eq_false (by decide +kernel)
theorem w_fail_days : (("fail" : Str) = "days") = False := eq_false (by decide +kernel)
theorem w_fail_fair : (("fail" : Str) = "fair") = False := eq_false (by decide +kernel)
theorem w_mend_draw : (("mend" : Str) = "draw") = False := eq_false (by decide +kernel)
theorem w_mend_house : (("mend" : Str) = "house") = False := eq_false (by decide +kernel)
theorem w_mend_in : (("mend" : Str) = "in") = False := eq_false (by decide +kernel)
theorem w_mend_out : (("mend" : Str) = "out") = False := eq_false (by decide +kernel)
theorem w_mend_fail : (("mend" : Str) = "fail") = False := eq_false (by decide +kernel)
theorem w_mend_days : (("mend" : Str) = "days") = False := eq_false (by decide +kernel)
theorem w_mend_fair : (("mend" : Str) = "fair") = False := eq_false (by decide +kernel)
theorem w_days_draw : (("days" : Str) = "draw") = False := eq_false (by decide +kernel)
theorem w_days_house : (("days" : Str) = "house") = False := eq_false (by decide +kernel)
theorem w_days_in : (("days" : Str) = "in") = False := eq_false (by decide +kernel)
theorem w_days_out : (("days" : Str) = "out") = False := eq_false (by decide +kernel)
theorem w_days_fail : (("days" : Str) = "fail") = False := eq_false (by decide +kernel)
theorem w_days_mend : (("days" : Str) = "mend") = False := eq_false (by decide +kernel)
theorem w_days_fair : (("days" : Str) = "fair") = False := eq_false (by decide +kernel)
theorem in_house_S7 {S : Sto} : inR (.str "house") (.tup [.str "house", .str "in", .str "out", .str "fail", .str "mend", .str "days", .str "fair"]) S = some true := by kernel_rfl
theorem in_house_S4 {S : Sto} : inR (.str "house") (.tup [.str "in", .str "out", .str "fail", .str "mend"]) S = some false := by kernel_rfl
theorem in_house_S2 {S : Sto} : inR (.str "house") (.tup [.str "fail", .str "mend"]) S = some false := by kernel_rfl
theorem in_house_S3 {S : Sto} : inR (.str "house") (.tup [.str "house", .str "in", .str "out"]) S = some true := by kernel_rfl
theorem in_in_S7 {S : Sto} : inR (.str "in") (.tup [.str "house", .str "in", .str "out", .str "fail", .str "mend", .str "days", .str "fair"]) S = some true := by kernel_rfl
theorem in_in_S4 {S : Sto} : inR (.str "in") (.tup [.str "in", .str "out", .str "fail", .str "mend"]) S = some true := by kernel_rfl
theorem in_in_S2 {S : Sto} : inR (.str "in") (.tup [.str "fail", .str "mend"]) S = some false := by kernel_rfl
theorem in_in_S3 {S : Sto} : inR (.str "in") (.tup [.str "house", .str "in", .str "out"]) S = some true := by kernel_rfl
theorem in_out_S7 {S : Sto} : inR (.str "out") (.tup [.str "house", .str "in", .str "out", .str "fail", .str "mend", .str "days", .str "fair"]) S = some true := by kernel_rfl
theorem in_out_S4 {S : Sto} : inR (.str "out") (.tup [.str "in", .str "out", .str "fail", .str "mend"]) S = some true := by kernel_rfl
theorem in_out_S2 {S : Sto} : inR (.str "out") (.tup [.str "fail", .str "mend"]) S = some false := by kernel_rfl
theorem in_out_S3 {S : Sto} : inR (.str "out") (.tup [.str "house", .str "in", .str "out"]) S = some true := by kernel_rfl
theorem in_fail_S7 {S : Sto} : inR (.str "fail") (.tup [.str "house", .str "in", .str "out", .str "fail", .str "mend", .str "days", .str "fair"]) S = some true := by kernel_rfl
theorem in_fail_S4 {S : Sto} : inR (.str "fail") (.tup [.str "in", .str "out", .str "fail", .str "mend"]) S = some true := by kernel_rfl
theorem in_fail_S2 {S : Sto} : inR (.str "fail") (.tup [.str "fail", .str "mend"]) S = some true := by kernel_rfl
theorem in_fail_S3 {S : Sto} : inR (.str "fail") (.tup [.str "house", .str "in", .str "out"]) S = some false := by kernel_rfl
theorem in_mend_S7 {S : Sto} : inR (.str "mend") (.tup [.str "house", .str "in", .str "out", .str "fail", .str "mend", .str "days", .str "fair"]) S = some true := by kernel_rfl
theorem in_mend_S4 {S : Sto} : inR (.str "mend") (.tup [.str "in", .str "out", .str "fail", .str "mend"]) S = some true := by kernel_rfl
theorem in_mend_S2 {S : Sto} : inR (.str "mend") (.tup [.str "fail", .str "mend"]) S = some true := by kernel_rfl
theorem in_mend_S3 {S : Sto} : inR (.str "mend") (.tup [.str "house", .str "in", .str "out"]) S = some false := by kernel_rfl
theorem in_days_S7 {S : Sto} : inR (.str "days") (.tup [.str "house", .str "in", .str "out", .str "fail", .str "mend", .str "days", .str "fair"]) S = some true := by kernel_rfl
theorem in_days_S4 {S : Sto} : inR (.str "days") (.tup [.str "in", .str "out", .str "fail", .str "mend"]) S = some false := by kernel_rfl
theorem in_days_S2 {S : Sto} : inR (.str "days") (.tup [.str "fail", .str "mend"]) S = some false := by kernel_rfl
theorem in_days_S3 {S : Sto} : inR (.str "days") (.tup [.str "house", .str "in", .str "out"]) S = some false := by kernel_rfl
section
variable {α : Type} {a b c d e f g h i j : α} {l : List α}
theorem at0 : atI (a :: l) 0 = some a := atI_nn (by decide) (by simp only [List.length_cons]; omega)
theorem at1 : atI (a :: b :: l) 1 = some b := atI_nn (by decide) (by simp only [List.length_cons]; omega)
theorem at2 : atI (a :: b :: c :: l) 2 = some c := atI_nn (by decide) (by simp only [List.length_cons]; omega)
theorem at3 : atI (a :: b :: c :: d :: l) 3 = some d := atI_nn (by decide) (by simp only [List.length_cons]; omega)
theorem at4 : atI (a :: b :: c :: d :: e :: l) 4 = some e := atI_nn (by decide) (by simp only [List.length_cons]; omega)
theorem at5 : atI (a :: b :: c :: d :: e :: f :: l) 5 = some f := atI_nn (by decide) (by simp only [List.length_cons]; omega)
theorem at6 : atI (a :: b :: c :: d :: e :: f :: g :: l) 6 = some g := atI_nn (by decide) (by simp only [List.length_cons]; omega)
theorem at7 : atI (a :: b :: c :: d :: e :: f :: g :: h :: l) 7 = some h := atI_nn (by decide) (by simp only [List.length_cons]; omega)
theorem at8 : atI (a :: b :: c :: d :: e :: f :: g :: h :: i :: l) 8 = some i := atI_nn (by decide) (by simp only [List.length_cons]; omega)
theorem at9 : atI (a :: b :: c :: d :: e :: f :: g :: h :: i :: j :: l) 9 = some j := atI_nn (by decide) (by simp only [List.length_cons]; omega)
end
end Mn

namespace Mn
open PySem L2
local macro_rules | `(tactic| walk_at "x") => `(tactic| try simp only [wSs, wS, wE, wEs, wC, x_add, x_sub, x_addS, x_addT, x_addL, x_mul, x_mulS, x_mulL, x_div, x_mod, x_pow, x_lt, x_le, x_gt, x_ge, x_eqD, x_neD, x_in, x_notIn, x_is, x_isNot, x_eqI, x_eqS, x_eqB, x_isNN, x_isBN, x_isIN, x_isSN, x_isTN, x_isLN, x_isRN, x_isBB, x_lenS, x_lenT, x_lenL, x_lenP, x_sumP, x_appP, x_appTP, x_idxP, x_frzP, x_abs, x_intI, x_intB, x_max, x_allL, x_sumL, x_listL, x_listT, x_isi, x_truB, x_truI, x_truL, x_truT, x_truN, x_idxS, x_idxL, x_idxT, x_slS, x_slT, x_slL, x_it0L, x_it0T, x_it0S, x_it0C, x_it1, x_it2L, x_val, x_upd, x_newF, x_newT, x_nm, x_tp, x_tps, x_tp0, x_ite, x_iteD, x_ifD, x_some, x_some2, x_map, x_eqInt, i_N_tuple, i_N_list, i_N_bool, i_N_int, i_N_str, i_N_tl, i_B_tuple, i_B_list, i_B_bool, i_B_int, i_B_str, i_B_tl, i_I_tuple, i_I_list, i_I_bool, i_I_int, i_I_str, i_I_tl, i_S_tuple, i_S_list, i_S_bool, i_S_int, i_S_str, i_S_tl, i_T_tuple, i_T_list, i_T_bool, i_T_int, i_T_str, i_T_tl, i_L_tuple, i_L_list, i_L_bool, i_L_int, i_L_str, i_L_tl, x_pure, x_new, x_fn, List.getElem?_cons_zero, List.getElem?_cons_succ, List.set_cons_zero, List.set_cons_succ, Option.bind_some, List.length_cons, List.length_nil, Nat.reduceAdd, true_and, and_true, decide_eq_true_eq, Bool.not_eq_true', decide_eq_false_iff_not, Bool.not_false, Bool.not_true, Bool.false_eq_true, Bool.true_eq_false, if_true, if_false, ite_true, ite_false])
local macro_rules | `(tactic| walk_at "h") => `(tactic| simp only [wSs, wS, wE, wEs, wC, x_add, x_sub, x_addS, x_addT, x_addL, x_mul, x_mulS, x_mulL, x_div, x_mod, x_pow, x_lt, x_le, x_gt, x_ge, x_eqD, x_neD, x_in, x_notIn, x_is, x_isNot, x_eqI, x_eqS, x_eqB, x_isNN, x_isBN, x_isIN, x_isSN, x_isTN, x_isLN, x_isRN, x_isBB, x_lenS, x_lenT, x_lenL, x_lenP, x_sumP, x_appP, x_appTP, x_idxP, x_frzP, x_abs, x_intI, x_intB, x_max, x_allL, x_sumL, x_listL, x_listT, x_isi, x_truB, x_truI, x_truL, x_truT, x_truN, x_idxS, x_idxL, x_idxT, x_slS, x_slT, x_slL, x_it0L, x_it0T, x_it0S, x_it0C, x_it1, x_it2L, x_val, x_upd, x_newF, x_newT, x_nm, x_tp, x_tps, x_tp0, x_ite, x_iteD, x_ifD, x_some, x_some2, x_map, x_eqInt, i_N_tuple, i_N_list, i_N_bool, i_N_int, i_N_str, i_N_tl, i_B_tuple, i_B_list, i_B_bool, i_B_int, i_B_str, i_B_tl, i_I_tuple, i_I_list, i_I_bool, i_I_int, i_I_str, i_I_tl, i_S_tuple, i_S_list, i_S_bool, i_S_int, i_S_str, i_S_tl, i_T_tuple, i_T_list, i_T_bool, i_T_int, i_T_str, i_T_tl, i_L_tuple, i_L_list, i_L_bool, i_L_int, i_L_str, i_L_tl, x_pure, x_new, x_fn, List.getElem?_cons_zero, List.getElem?_cons_succ, List.set_cons_zero, List.set_cons_succ, Option.bind_some, List.length_cons, List.length_nil, Nat.reduceAdd, true_and, and_true, decide_eq_true_eq, Bool.not_eq_true', decide_eq_false_iff_not, Bool.not_false, Bool.not_true, Bool.false_eq_true, Bool.true_eq_false, if_true, if_false, ite_true, ite_false, r_len, r_idx, r_in, r_get, r_getT, r_setd, r_setdT, r_app, r_appT, r_six, r_it, r_it2, r_sorted, r_list, r_dict, r_sl, r_tru, r_newD, r_att, r_self, r_sat, r_ins, r_ins2, fl_held, fl_chest, fl_down, fl_clock, fl_bills, fl_done, fl_drawer, fl_drawee, fl_payee, fl_amount, fl_due, fl_slip, fl_keeper, fl_stage, fl_edition, fl_blank, lu_held, lu_chest, lu_down, lu_clock, lu_bills, lu_done, lu_drawer, lu_drawee, lu_payee, lu_amount, lu_due, lu_slip, lu_keeper, lu_stage, lu_edition, lu_blank, pf_stage, pf_keeper, pf_edition, pf_blank, pf_slip, pf_clock, len_pursesF, len_hallF, len_billF, keyOf, Option.map_some, Option.map_none, Option.bind_none, Option.getD_some, Option.getD_none, Option.isSome_some, Option.isSome_none, r_some2, r_aga, r_int, r_ags, r_dct, ex_BadName, ex_Taken, ex_BadCoins, ex_Full, ex_NoHouse, ex_NoCoins, ex_Failed, ex_Standing, ex_BadCount, ex_BadDay, ex_NoBill, ex_Void, ex_Closed, ex_Accepted, ex_Same, ex_NotBlank, ex_NotYet, ex_NotPresented, ex_Protested, ex_TooLate, ex_NotBound, ex_CantPay, ex_NotProtested, ex_IsBound, ex_Twice, gv_pk, gp_pk, len_pk, nH_need, nH_must_stand, nH_find, nH_find_copy, nH_house, nH_look_at_coins, nH_put_in, nH_take_out, nH_fail, nH_mend, nH_pass_days, nH_draw, nH_accept, nH_signed, nH_sign, nH_sign_blank, nH_hand, nH_lose, nH_can_pay, nH_present, nH_protest, nH_ask, nH_may_honour, nH_honour, nH_fair, nH_names, nH_coins, nH_stands, nH_today, nH_many_bills, nH_paper, nH_state, nH_holder, nH_copy_of, nH_in_blank, nH_row, nH_story, nH_moment, nH_twin, nB_set_out, nB_doubled, nB_must_run, nB_must_be_back, nB_taken_on, nB_take_on, nB_sign_on, nB_hand_on, nB_next_copy, nB_must_be_due, nB_protest_on, nB_open_now, nB_go_back, nB_to_itself, nP_need, nP_look_at, nP_add_purse, nP_coins, nP_fill, nP_spend, nP_pay, nP_total, nP_all_names, nP_doubled, put_same, gv_held, gv_down, len_held, len_down, w_house_draw, w_house_in, w_house_out, w_house_fail, w_house_mend, w_house_days, w_house_fair, w_in_draw, w_in_house, w_in_out, w_in_fail, w_in_mend, w_in_days, w_in_fair, w_out_draw, w_out_house, w_out_in, w_out_fail, w_out_mend, w_out_days, w_out_fair, w_fail_draw, w_fail_house, w_fail_in, w_fail_out, w_fail_mend, w_fail_days, w_fail_fair, w_mend_draw, w_mend_house, w_mend_in, w_mend_out, w_mend_fail, w_mend_days, w_mend_fair, w_days_draw, w_days_house, w_days_in, w_days_out, w_days_fail, w_days_mend, w_days_fair, in_house_S7, in_house_S4, in_house_S2, in_house_S3, in_in_S7, in_in_S4, in_in_S2, in_in_S3, in_out_S7, in_out_S4, in_out_S2, in_out_S3, in_fail_S7, in_fail_S4, in_fail_S2, in_fail_S3, in_mend_S7, in_mend_S4, in_mend_S2, in_mend_S3, in_days_S7, in_days_S4, in_days_S2, in_days_S3, at0, at1, at2, at3, at4, at5, at6, at7, at8, at9, eq_self, *])
def n_do_simple : List Str := ["hall", "deed", "word"]
def m_do_simple : List MS := [(.asg (.nm 2) (.idx (.var 1) (.cst (.int 0)))), (.ite (.cmp .Eq (.var 2) (.cst (.str "house"))) [(.ret (.mth "Hall" (.var 0) "house" [(.idx (.var 1) (.cst (.int 1))), (.idx (.var 1) (.cst (.int 2)))]))] []), (.ite (.cmp .Eq (.var 2) (.cst (.str "in"))) [(.ret (.mth "Hall" (.var 0) "put_in" [(.idx (.var 1) (.cst (.int 1))), (.idx (.var 1) (.cst (.int 2)))]))] []), (.ite (.cmp .Eq (.var 2) (.cst (.str "out"))) [(.ret (.mth "Hall" (.var 0) "take_out" [(.idx (.var 1) (.cst (.int 1))), (.idx (.var 1) (.cst (.int 2)))]))] []), (.ite (.cmp .Eq (.var 2) (.cst (.str "fail"))) [(.ret (.mth "Hall" (.var 0) "fail" [(.idx (.var 1) (.cst (.int 1)))]))] []), (.ite (.cmp .Eq (.var 2) (.cst (.str "mend"))) [(.ret (.mth "Hall" (.var 0) "mend" [(.idx (.var 1) (.cst (.int 1)))]))] []), (.ite (.cmp .Eq (.var 2) (.cst (.str "days"))) [(.ret (.mth "Hall" (.var 0) "pass_days" [(.idx (.var 1) (.cst (.int 1)))]))] []), (.ret (.mth "Hall" (.var 0) "fair" [(.blt .list false [(.idx (.var 1) (.cst (.int 1)))])]))]
def n_do_deed : List Str := ["hall", "deed"]
def m_do_deed : List MS := [(.ite (.cmp .Eq (.idx (.var 1) (.cst (.int 0))) (.cst (.str "draw"))) [(.ret (.mth "Hall" (.var 0) "draw" [(.idx (.var 1) (.cst (.int 1))), (.idx (.var 1) (.cst (.int 2))), (.idx (.var 1) (.cst (.int 3))), (.idx (.var 1) (.cst (.int 4))), (.idx (.var 1) (.cst (.int 5))), (.idx (.var 1) (.cst (.int 6)))]))] []), (.ite (.cmp .In (.idx (.var 1) (.cst (.int 0))) (.tup [(.cst (.str "house")), (.cst (.str "in")), (.cst (.str "out")), (.cst (.str "fail")), (.cst (.str "mend")), (.cst (.str "days")), (.cst (.str "fair"))])) [(.ret (.call "do_simple" [(.var 0), (.var 1)]))] []), (.ret (.call "do_paper" [(.var 0), (.var 1)]))]
/-! ### deeds -/
inductive Deed where
  | house (n : Str) (c : Int)
  | in_ (n : Str) (c : Int)
  | out (n : Str) (c : Int)
  | fail (n : Str)
  | mend (n : Str)
  | days (m : Int)
def deedD : Deed → D
  | .house n c => .tup [.str "house", .str n, .int c]
  | .in_ n c => .tup [.str "in", .str n, .int c]
  | .out n c => .tup [.str "out", .str n, .int c]
  | .fail n => .tup [.str "fail", .str n]
  | .mend n => .tup [.str "mend", .str n]
  | .days m => .tup [.str "days", .int m]
/-- texts of a deed are short -/
def okDeed : Deed → Prop
  | .house n _ => n.length ≤ sizeLine
  | _ => True
def cf (hs : Hs) (n : Str) : Int × Bool := (lk hs n).getD (0, false)
/-- the checks of a deed, in their order -/
def chk (h : Ha) : Deed → List (Bool × Str)
  | .house n c => [(isNm n, "BadName"), (!(lk h.hs n).isSome, "Taken"), (decide (0 ≤ c ∧ c ≤ 1000000000000), "BadCoins"), (decide (h.hs.length < 9), "Full")]
  | .in_ n c => [((lk h.hs n).isSome, "NoHouse"), (decide (1 ≤ c ∧ c ≤ 1000000000000), "BadCoins"), (true, "NoCoins")]
  | .out n c => [((lk h.hs n).isSome, "NoHouse"), (decide (1 ≤ c ∧ c ≤ 1000000000000), "BadCoins"), (decide (c ≤ (cf h.hs n).1), "NoCoins")]
  | .fail n => [((lk h.hs n).isSome, "NoHouse"), (!(cf h.hs n).2, "Failed")]
  | .mend n => [((lk h.hs n).isSome, "NoHouse"), ((cf h.hs n).2, "Standing")]
  | .days m => [(decide (1 ≤ m ∧ m ≤ 1000), "BadCount")]
def fst1 : List (Bool × Str) → Str
  | [] => ""
  | (b, w) :: r => if b = true then fst1 r else w
def wordH (h : Ha) (d : Deed) : Str := fst1 (chk h d)
/-- what a deed makes of a hall -/
def stepH (h : Ha) : Deed → Ha
  | .house n c => { h with hs := h.hs ++ [(n, (c, false))] }
  | .in_ n c => { h with hs := setC h.hs n ((cf h.hs n).1 + c) }
  | .out n c => { h with hs := setC h.hs n ((cf h.hs n).1 - c) }
  | .fail n => { h with hs := setF h.hs n true }
  | .mend n => { h with hs := setF h.hs n false }
  | .days m => { h with clock := h.clock + m }
def doneH (h : Ha) (d : Deed) : Ha := { stepH h d with done := h.done ++ [deedD d] }
def ansH (h : Ha) (d : Deed) : D := .non
def words25 : List Str := ["Accepted", "BadCoins", "BadCount", "BadDay", "BadName", "CantPay", "Closed", "Failed", "Full", "IsBound", "NoBill", "NoCoins", "NoHouse", "NotBlank", "NotBound", "NotPresented", "NotProtested", "NotYet", "Protested", "Same", "Standing", "Taken", "TooLate", "Twice", "Void"]
/-- a deed done in a hall, or refused -/
def spDeed : DSp := fun ds S Q X => ∃ g F d, ds = [.ref g.a, deedD d] ∧ Hd S (hallC g ++ F) ∧ OkH g.er ∧ okDeed d ∧
  (wordH g.er d = "" → ∀ S' g', g'.a = g.a → g'.er = doneH g.er d → Hd S' (hallC g' ++ F) → Q (ansH g.er d) S') ∧ (wordH g.er d ≠ "" → rz (wordH g.er d) S X)
theorem sne1 : ("BadName" : Str) ≠ "" := by decide +kernel
theorem sne2 : ("Taken" : Str) ≠ "" := by decide +kernel
theorem sne3 : ("BadCoins" : Str) ≠ "" := by decide +kernel
theorem sne4 : ("Full" : Str) ≠ "" := by decide +kernel
theorem sne5 : ("NoHouse" : Str) ≠ "" := by decide +kernel
theorem sne6 : ("NoCoins" : Str) ≠ "" := by decide +kernel
theorem sne7 : ("Failed" : Str) ≠ "" := by decide +kernel
theorem sne8 : ("Standing" : Str) ≠ "" := by decide +kernel
theorem sne9 : ("BadCount" : Str) ≠ "" := by decide +kernel
theorem ok_Simple {G : Gc} (m1 : G.mt "Hall" "house" = some (3, spHouse)) (m2 : G.mt "Hall" "put_in" = some (3, spPutIn)) (m3 : G.mt "Hall" "take_out" = some (3, spTakeOut)) (m4 : G.mt "Hall" "fail" = some (2, spFail)) (m5 : G.mt "Hall" "mend" = some (2, spMend)) (m6 : G.mt "Hall" "pass_days" = some (2, spDays)) : BodyOk G n_do_simple 2 m_do_simple spDeed := by
  rintro ds S Q X - ⟨g, F, d, rfl, hS, ok, od, q1, q2⟩
  have h1 := hall1 hS
  have q1 := Hold.mk q1
  have q2 := Hold.mk q2
  show wSs G _ m_do_simple [some (.ref g.a), some (deedD d), none] S _
  unfold m_do_simple
  have eh : g.er.hs = g.hs := rfl
  cases d with
  | house n c =>
    unfold deedD
    walk_at "h"
    obtain ⟨q1⟩ := q1
    obtain ⟨q2⟩ := q2
    refine cW ⟨g, F, n, c, rfl, hS, ok, od, ?_⟩
    unfold wordH chk at q1 q2
    simp only [fst1, eh, decide_eq_true_eq, Bool.not_eq_true'] at q1 q2
    by_cases z1 : isNm n = false
    · rw [if_pos z1]; rw [z1] at q2; exact q2 sne1
    rw [if_neg z1]
    rw [if_pos (by simpa using z1)] at q1 q2
    by_cases z2 : (lk g.hs n).isSome = true
    · rw [if_pos z2]; rw [z2] at q2; exact q2 sne2
    rw [if_neg z2]
    rw [if_pos (by simpa using z2)] at q1 q2
    by_cases z3 : 0 ≤ c ∧ c ≤ 1000000000000
    · rw [if_neg (fun z => z z3)]
      rw [if_pos z3] at q1 q2
      by_cases z4 : 9 ≤ g.hs.length
      · rw [if_pos z4]; rw [if_neg (by omega)] at q2; exact q2 sne4
      · rw [if_neg z4]
        rw [if_pos (by omega)] at q1
        exact fun S' h' => by refine q1 rfl S' _ ?_ ?_ h' <;> rfl
    · rw [if_pos z3]; rw [if_neg z3] at q2; exact q2 sne3
  | in_ n c =>
    unfold deedD
    walk_at "h"
    obtain ⟨q1⟩ := q1
    obtain ⟨q2⟩ := q2
    refine cW ⟨g, F, n, c, rfl, hS, ok, ?_⟩
    unfold wordH chk at q1 q2
    simp only [fst1, eh, decide_eq_true_eq, if_true] at q1 q2
    cases hb : lk g.hs n with
    | none => rw [hb] at q2; exact q2 sne5
    | some v =>
      rw [hb, if_pos (by rfl)] at q1 q2
      have e1 : (cf g.hs n) = v := by unfold cf; rw [hb]; rfl
      by_cases z3 : 1 ≤ c ∧ c ≤ 1000000000000
      · show if _ then _ else _
        rw [if_neg (fun z => z z3)]
        rw [if_pos z3] at q1
        refine fun S' h' => by
          refine q1 rfl S' _ ?_ ?_ h'
          · rfl
          · show Ha.mk _ _ _ _ = Ha.mk (setC g.hs n ((cf g.hs n).1 + c)) _ _ _
            rw [e1]; rfl
      · show if _ then _ else _
        rw [if_pos z3]; rw [if_neg z3] at q2; exact q2 sne3
  | out n c =>
    unfold deedD
    walk_at "h"
    obtain ⟨q1⟩ := q1
    obtain ⟨q2⟩ := q2
    refine cW ⟨g, F, n, c, rfl, hS, ok, ?_⟩
    unfold wordH chk at q1 q2
    simp only [fst1, eh, decide_eq_true_eq, if_true] at q1 q2
    cases hb : lk g.hs n with
    | none => rw [hb] at q2; exact q2 sne5
    | some v =>
      have e1 : (cf g.hs n) = v := by unfold cf; rw [hb]; rfl
      rw [hb, if_pos (by rfl), e1] at q1 q2
      by_cases z3 : 1 ≤ c ∧ c ≤ 1000000000000
      · show if _ then _ else _
        rw [if_neg (fun z => z z3)]
        rw [if_pos z3] at q1 q2
        by_cases z4 : v.1 < c
        · rw [if_pos z4]; rw [if_neg (by omega)] at q2; exact q2 sne6
        rw [if_neg z4]
        rw [if_pos (by omega)] at q1
        refine fun S' h' => by
          refine q1 rfl S' _ ?_ ?_ h'
          · rfl
          · show Ha.mk _ _ _ _ = Ha.mk (setC g.hs n ((cf g.hs n).1 - c)) _ _ _
            rw [e1]; rfl
      · show if _ then _ else _
        rw [if_pos z3]; rw [if_neg z3] at q2; exact q2 sne3
  | fail n =>
    unfold deedD
    walk_at "h"
    obtain ⟨q1⟩ := q1
    obtain ⟨q2⟩ := q2
    refine cW ⟨g, F, n, rfl, hS, ok, ?_⟩
    unfold wordH chk at q1 q2
    simp only [fst1, eh, decide_eq_true_eq, if_true, Bool.not_eq_true'] at q1 q2
    cases hb : lk g.hs n with
    | none => rw [hb] at q2; exact q2 sne5
    | some v =>
      have e1 : (cf g.hs n) = v := by unfold cf; rw [hb]; rfl
      rw [hb, if_pos (by rfl), e1] at q1 q2
      show if _ then _ else _
      by_cases z3 : v.2 = true
      · rw [if_pos z3]; rw [z3] at q2; exact q2 sne7
      · rw [if_neg z3]
        rw [if_pos (by simpa using z3)] at q1
        exact fun S' h' => by refine q1 rfl S' _ ?_ ?_ h' <;> rfl
  | mend n =>
    unfold deedD
    walk_at "h"
    obtain ⟨q1⟩ := q1
    obtain ⟨q2⟩ := q2
    refine cW ⟨g, F, n, rfl, hS, ok, ?_⟩
    unfold wordH chk at q1 q2
    simp only [fst1, eh, decide_eq_true_eq, if_true, Bool.not_eq_true'] at q1 q2
    cases hb : lk g.hs n with
    | none => rw [hb] at q2; exact q2 sne5
    | some v =>
      have e1 : (cf g.hs n) = v := by unfold cf; rw [hb]; rfl
      rw [hb, if_pos (by rfl), e1] at q1 q2
      show if _ then _ else _
      by_cases z3 : v.2 = false
      · rw [if_pos z3]; rw [z3] at q2; exact q2 sne8
      · rw [if_neg z3]
        rw [if_pos (by simpa using z3)] at q1
        exact fun S' h' => by refine q1 rfl S' _ ?_ ?_ h' <;> rfl
  | days m =>
    unfold deedD
    walk_at "h"
    obtain ⟨q1⟩ := q1
    obtain ⟨q2⟩ := q2
    refine cW ⟨g, F, m, rfl, hS, ok, ?_⟩
    unfold wordH chk at q1 q2
    simp only [fst1, eh, decide_eq_true_eq, if_true] at q1 q2
    by_cases z3 : 1 ≤ m ∧ m ≤ 1000
    · rw [if_neg (fun z => z z3)]
      rw [if_pos z3] at q1
      exact fun S' h' => by refine q1 rfl S' _ ?_ ?_ h' <;> rfl
    · rw [if_pos z3]; rw [if_neg z3] at q2; exact q2 sne9
theorem ok_Deed {G : Gc} (f1 : G.fn "do_simple" = some (2, spDeed)) : BodyOk G n_do_deed 2 m_do_deed spDeed := by
  rintro ds S Q X - ⟨g, F, d, rfl, hS, ok, od, q1, q2⟩
  have q := Hold.mk (And.intro q1 q2)
  show wSs G _ m_do_deed [some (.ref g.a), some (deedD d)] S _
  unfold m_do_deed
  cases d <;> (unfold deedD; walk_at "h"; exact ⟨by decide, cW ⟨g, F, _, rfl, hS, ok, od, q.h⟩⟩)
end Mn

namespace Mn
open PySem L2
local macro_rules | `(tactic| walk_at "x") => `(tactic| try simp only [wSs, wS, wE, wEs, wC, x_add, x_sub, x_addS, x_addT, x_addL, x_mul, x_mulS, x_mulL, x_div, x_mod, x_pow, x_lt, x_le, x_gt, x_ge, x_eqD, x_neD, x_in, x_notIn, x_is, x_isNot, x_eqI, x_eqS, x_eqB, x_isNN, x_isBN, x_isIN, x_isSN, x_isTN, x_isLN, x_isRN, x_isBB, x_lenS, x_lenT, x_lenL, x_lenP, x_sumP, x_appP, x_appTP, x_idxP, x_frzP, x_abs, x_intI, x_intB, x_max, x_allL, x_sumL, x_listL, x_listT, x_isi, x_truB, x_truI, x_truL, x_truT, x_truN, x_idxS, x_idxL, x_idxT, x_slS, x_slT, x_slL, x_it0L, x_it0T, x_it0S, x_it0C, x_it1, x_it2L, x_val, x_upd, x_newF, x_newT, x_nm, x_tp, x_tps, x_tp0, x_ite, x_iteD, x_ifD, x_some, x_some2, x_map, x_eqInt, i_N_tuple, i_N_list, i_N_bool, i_N_int, i_N_str, i_N_tl, i_B_tuple, i_B_list, i_B_bool, i_B_int, i_B_str, i_B_tl, i_I_tuple, i_I_list, i_I_bool, i_I_int, i_I_str, i_I_tl, i_S_tuple, i_S_list, i_S_bool, i_S_int, i_S_str, i_S_tl, i_T_tuple, i_T_list, i_T_bool, i_T_int, i_T_str, i_T_tl, i_L_tuple, i_L_list, i_L_bool, i_L_int, i_L_str, i_L_tl, x_pure, x_new, x_fn, List.getElem?_cons_zero, List.getElem?_cons_succ, List.set_cons_zero, List.set_cons_succ, Option.bind_some, List.length_cons, List.length_nil, Nat.reduceAdd, true_and, and_true, decide_eq_true_eq, Bool.not_eq_true', decide_eq_false_iff_not, Bool.not_false, Bool.not_true, Bool.false_eq_true, Bool.true_eq_false, if_true, if_false, ite_true, ite_false])
local macro_rules | `(tactic| walk_at "h") => `(tactic| simp only [wSs, wS, wE, wEs, wC, x_add, x_sub, x_addS, x_addT, x_addL, x_mul, x_mulS, x_mulL, x_div, x_mod, x_pow, x_lt, x_le, x_gt, x_ge, x_eqD, x_neD, x_in, x_notIn, x_is, x_isNot, x_eqI, x_eqS, x_eqB, x_isNN, x_isBN, x_isIN, x_isSN, x_isTN, x_isLN, x_isRN, x_isBB, x_lenS, x_lenT, x_lenL, x_lenP, x_sumP, x_appP, x_appTP, x_idxP, x_frzP, x_abs, x_intI, x_intB, x_max, x_allL, x_sumL, x_listL, x_listT, x_isi, x_truB, x_truI, x_truL, x_truT, x_truN, x_idxS, x_idxL, x_idxT, x_slS, x_slT, x_slL, x_it0L, x_it0T, x_it0S, x_it0C, x_it1, x_it2L, x_val, x_upd, x_newF, x_newT, x_nm, x_tp, x_tps, x_tp0, x_ite, x_iteD, x_ifD, x_some, x_some2, x_map, x_eqInt, i_N_tuple, i_N_list, i_N_bool, i_N_int, i_N_str, i_N_tl, i_B_tuple, i_B_list, i_B_bool, i_B_int, i_B_str, i_B_tl, i_I_tuple, i_I_list, i_I_bool, i_I_int, i_I_str, i_I_tl, i_S_tuple, i_S_list, i_S_bool, i_S_int, i_S_str, i_S_tl, i_T_tuple, i_T_list, i_T_bool, i_T_int, i_T_str, i_T_tl, i_L_tuple, i_L_list, i_L_bool, i_L_int, i_L_str, i_L_tl, x_pure, x_new, x_fn, List.getElem?_cons_zero, List.getElem?_cons_succ, List.set_cons_zero, List.set_cons_succ, Option.bind_some, List.length_cons, List.length_nil, Nat.reduceAdd, true_and, and_true, decide_eq_true_eq, Bool.not_eq_true', decide_eq_false_iff_not, Bool.not_false, Bool.not_true, Bool.false_eq_true, Bool.true_eq_false, if_true, if_false, ite_true, ite_false, r_len, r_idx, r_in, r_get, r_getT, r_setd, r_setdT, r_app, r_appT, r_six, r_it, r_it2, r_sorted, r_list, r_dict, r_sl, r_tru, r_newD, r_att, r_self, r_sat, r_ins, r_ins2, fl_held, fl_chest, fl_down, fl_clock, fl_bills, fl_done, fl_drawer, fl_drawee, fl_payee, fl_amount, fl_due, fl_slip, fl_keeper, fl_stage, fl_edition, fl_blank, lu_held, lu_chest, lu_down, lu_clock, lu_bills, lu_done, lu_drawer, lu_drawee, lu_payee, lu_amount, lu_due, lu_slip, lu_keeper, lu_stage, lu_edition, lu_blank, pf_stage, pf_keeper, pf_edition, pf_blank, pf_slip, pf_clock, len_pursesF, len_hallF, len_billF, keyOf, Option.map_some, Option.map_none, Option.bind_none, Option.getD_some, Option.getD_none, Option.isSome_some, Option.isSome_none, r_some2, r_aga, r_int, r_ags, r_dct, ex_BadName, ex_Taken, ex_BadCoins, ex_Full, ex_NoHouse, ex_NoCoins, ex_Failed, ex_Standing, ex_BadCount, ex_BadDay, ex_NoBill, ex_Void, ex_Closed, ex_Accepted, ex_Same, ex_NotBlank, ex_NotYet, ex_NotPresented, ex_Protested, ex_TooLate, ex_NotBound, ex_CantPay, ex_NotProtested, ex_IsBound, ex_Twice, gv_pk, gp_pk, len_pk, nH_need, nH_must_stand, nH_find, nH_find_copy, nH_house, nH_look_at_coins, nH_put_in, nH_take_out, nH_fail, nH_mend, nH_pass_days, nH_draw, nH_accept, nH_signed, nH_sign, nH_sign_blank, nH_hand, nH_lose, nH_can_pay, nH_present, nH_protest, nH_ask, nH_may_honour, nH_honour, nH_fair, nH_names, nH_coins, nH_stands, nH_today, nH_many_bills, nH_paper, nH_state, nH_holder, nH_copy_of, nH_in_blank, nH_row, nH_story, nH_moment, nH_twin, nB_set_out, nB_doubled, nB_must_run, nB_must_be_back, nB_taken_on, nB_take_on, nB_sign_on, nB_hand_on, nB_next_copy, nB_must_be_due, nB_protest_on, nB_open_now, nB_go_back, nB_to_itself, nP_need, nP_look_at, nP_add_purse, nP_coins, nP_fill, nP_spend, nP_pay, nP_total, nP_all_names, nP_doubled, put_same, gv_held, gv_down, len_held, len_down, w_house_draw, w_house_in, w_house_out, w_house_fail, w_house_mend, w_house_days, w_house_fair, w_in_draw, w_in_house, w_in_out, w_in_fail, w_in_mend, w_in_days, w_in_fair, w_out_draw, w_out_house, w_out_in, w_out_fail, w_out_mend, w_out_days, w_out_fair, w_fail_draw, w_fail_house, w_fail_in, w_fail_out, w_fail_mend, w_fail_days, w_fail_fair, w_mend_draw, w_mend_house, w_mend_in, w_mend_out, w_mend_fail, w_mend_days, w_mend_fair, w_days_draw, w_days_house, w_days_in, w_days_out, w_days_fail, w_days_mend, w_days_fair, in_house_S7, in_house_S4, in_house_S2, in_house_S3, in_in_S7, in_in_S4, in_in_S2, in_in_S3, in_out_S7, in_out_S4, in_out_S2, in_out_S3, in_fail_S7, in_fail_S4, in_fail_S2, in_fail_S3, in_mend_S7, in_mend_S4, in_mend_S2, in_mend_S3, in_days_S7, in_days_S4, in_days_S2, in_days_S3, at0, at1, at2, at3, at4, at5, at6, at7, at8, at9, eq_self, *])
local macro_rules | `(tactic| walk_at "f") => `(tactic| simp only [↓p_var, ↓p_cst, ↓p_glo, ↓p_bin, ↓p_neg, ↓p_not, ↓p_cmp, ↓p_cmp2, ↓p_and, ↓p_or, ↓p_ifx, ↓p_idx, ↓p_slL, ↓p_slU, ↓p_slLU, ↓p_tup, ↓p_lstF, ↓p_lstT, ↓p_blt, ↓p_bm, ↓p_call, ↓p_lc, ↓p_att, ↓p_mth, ↓p_mk, ↓p_dct, ↓p_nil, ↓p_cons, ↓p_newT, ↓p_newD, ↓p_pure, ↓q_nil, ↓q_cons, ↓q_asg, ↓q_six, ↓q_aug, ↓q_exp, ↓q_ret, ↓q_ite, ↓q_for, ↓q_pas, ↓q_cont, ↓q_frS, ↓q_sat, ↓q_rai, ↓q_tri, ↓x_val, ↓x_upd, ↓x_newF, ↓bO_some, ↓brk_t, ↓brk_f, ↓bF_some, bO_some, bO_none, bO_ite, bO_iteO, bO_map, bF_some, brk_t, brk_f, p_attR, p_selR, p_satR, intO_int, tO_t, p_bool, put_put, id, Option.bind_some, ↓reduceIte, r_addRL, r_addLR, List.cons_append, List.nil_append, sl0, sm0, sl1, sm1, sl2, sm2, sl3, sm3, sl4, sm4, sl5, sm5, sl6, sm6, sl7, sm7, sl8, sm8, sl9, sm9, sl10, sm10, sl11, sm11, sl12, sm12, decide_true, decide_false, x_add, x_sub, x_addS, x_addT, x_addL, x_mul, x_mulS, x_mulL, x_div, x_mod, x_pow, x_lt, x_le, x_gt, x_ge, x_eqD, x_neD, x_in, x_notIn, x_is, x_isNot, x_eqI, x_eqS, x_eqB, x_isNN, x_isBN, x_isIN, x_isSN, x_isTN, x_isLN, x_isRN, x_isBB, x_lenS, x_lenT, x_lenL, x_lenP, x_sumP, x_appP, x_appTP, x_idxP, x_frzP, x_abs, x_intI, x_intB, x_max, x_allL, x_sumL, x_listL, x_listT, x_isi, x_truB, x_truI, x_truL, x_truT, x_truN, x_idxS, x_idxL, x_idxT, x_slS, x_slT, x_slL, x_it0L, x_it0T, x_it0S, x_it0C, x_it1, x_it2L, x_nm, x_tp, x_tps, x_tp0, i_N_tuple, i_N_list, i_N_bool, i_N_int, i_N_str, i_N_tl, i_B_tuple, i_B_list, i_B_bool, i_B_int, i_B_str, i_B_tl, i_I_tuple, i_I_list, i_I_bool, i_I_int, i_I_str, i_I_tl, i_S_tuple, i_S_list, i_S_bool, i_S_int, i_S_str, i_S_tl, i_T_tuple, i_T_list, i_T_bool, i_T_int, i_T_str, i_T_tl, i_L_tuple, i_L_list, i_L_bool, i_L_int, i_L_str, i_L_tl, List.getElem?_cons_zero, List.getElem?_cons_succ, List.set_cons_zero, List.set_cons_succ, Option.bind_some, List.length_cons, List.length_nil, Nat.reduceAdd, true_and, and_true, decide_eq_true_eq, Bool.not_eq_true', decide_eq_false_iff_not, Bool.not_false, Bool.not_true, Bool.false_eq_true, Bool.true_eq_false, if_true, if_false, ite_true, ite_false, r_len, r_idx, r_in, r_get, r_getT, r_setd, r_setdT, r_app, r_appT, r_six, r_it, r_it2, r_sorted, r_list, r_dict, r_sl, r_tru, fl_held, fl_chest, fl_down, fl_clock, fl_bills, fl_done, fl_drawer, fl_drawee, fl_payee, fl_amount, fl_due, fl_slip, fl_keeper, fl_stage, fl_edition, fl_blank, lu_held, lu_chest, lu_down, lu_clock, lu_bills, lu_done, lu_drawer, lu_drawee, lu_payee, lu_amount, lu_due, lu_slip, lu_keeper, lu_stage, lu_edition, lu_blank, pf_stage, pf_keeper, pf_edition, pf_blank, pf_slip, pf_clock, len_pursesF, len_hallF, len_billF, keyOf, Option.map_some, Option.map_none, Option.bind_none, Option.getD_some, Option.getD_none, Option.isSome_some, Option.isSome_none, ex_BadName, ex_Taken, ex_BadCoins, ex_Full, ex_NoHouse, ex_NoCoins, ex_Failed, ex_Standing, ex_BadCount, ex_BadDay, ex_NoBill, ex_Void, ex_Closed, ex_Accepted, ex_Same, ex_NotBlank, ex_NotYet, ex_NotPresented, ex_Protested, ex_TooLate, ex_NotBound, ex_CantPay, ex_NotProtested, ex_IsBound, ex_Twice, gv_pk, gp_pk, len_pk, nH_need, nH_must_stand, nH_find, nH_find_copy, nH_house, nH_look_at_coins, nH_put_in, nH_take_out, nH_fail, nH_mend, nH_pass_days, nH_draw, nH_accept, nH_signed, nH_sign, nH_sign_blank, nH_hand, nH_lose, nH_can_pay, nH_present, nH_protest, nH_ask, nH_may_honour, nH_honour, nH_fair, nH_names, nH_coins, nH_stands, nH_today, nH_many_bills, nH_paper, nH_state, nH_holder, nH_copy_of, nH_in_blank, nH_row, nH_story, nH_moment, nH_twin, nB_set_out, nB_doubled, nB_must_run, nB_must_be_back, nB_taken_on, nB_take_on, nB_sign_on, nB_hand_on, nB_next_copy, nB_must_be_due, nB_protest_on, nB_open_now, nB_go_back, nB_to_itself, nP_need, nP_look_at, nP_add_purse, nP_coins, nP_fill, nP_spend, nP_pay, nP_total, nP_all_names, nP_doubled, put_same, gv_held, gv_down, len_held, len_down, w_house_draw, w_house_in, w_house_out, w_house_fail, w_house_mend, w_house_days, w_house_fair, w_in_draw, w_in_house, w_in_out, w_in_fail, w_in_mend, w_in_days, w_in_fair, w_out_draw, w_out_house, w_out_in, w_out_fail, w_out_mend, w_out_days, w_out_fair, w_fail_draw, w_fail_house, w_fail_in, w_fail_out, w_fail_mend, w_fail_days, w_fail_fair, w_mend_draw, w_mend_house, w_mend_in, w_mend_out, w_mend_fail, w_mend_days, w_mend_fair, w_days_draw, w_days_house, w_days_in, w_days_out, w_days_fail, w_days_mend, w_days_fair, in_house_S7, in_house_S4, in_house_S2, in_house_S3, in_in_S7, in_in_S4, in_in_S2, in_in_S3, in_out_S7, in_out_S4, in_out_S2, in_out_S3, in_fail_S7, in_fail_S4, in_fail_S2, in_fail_S3, in_mend_S7, in_mend_S4, in_mend_S2, in_mend_S3, in_days_S7, in_days_S4, in_days_S2, in_days_S3, at0, at1, at2, at3, at4, at5, at6, at7, at8, at9, eq_self, *])
def n__law_checks : List Str := ["_law_state", "_law_deed", "_law_word_here", "_law_one", "_law_checks_here", "_law_name_here", "_law_wrong"]
def e__law_checks_1 : ME := (.cmp .In (.var 5) (.idx (.var 0) (.cst (.int 0))))
def e__law_checks_2 : ME := (.tup [(.cmp .In (.var 5) (.idx (.var 0) (.cst (.int 0)))), (.cst (.str "NoHouse"))])
def m__law_checks : List MS := [(.asg (.nm 2) (.idx (.var 1) (.cst (.int 0)))), (.asg (.nm 3) (.idx (.var 1) (.cst (.int 1)))), (.ite (.cmp .Eq (.var 2) (.cst (.str "days"))) [(.ret (.lst false [(.tup [(.cmp2 .LtE .LtE (.cst (.int 1)) (.var 3) (.cst (.int 1000))), (.cst (.str "BadCount"))])]))] []), (.ite (.cmp .Eq (.var 2) (.cst (.str "house"))) [(.asg (.nm 4) (.lst true [(.tup [(.call "_law_is_name" [(.var 3)]), (.cst (.str "BadName"))]), (.tup [(.cmp .NotIn (.var 3) (.idx (.var 0) (.cst (.int 0)))), (.cst (.str "Taken"))])])), (.ret (.bin .Add false (.var 4) (.lst false [(.tup [(.cmp2 .LtE .LtE (.cst (.int 0)) (.idx (.var 1) (.cst (.int 2))) (.bin .Pow false (.cst (.int 10)) (.cst (.int 12)))), (.cst (.str "BadCoins"))]), (.tup [(.cmp .Lt (.blt .len false [(.idx (.var 0) (.cst (.int 0)))]) (.cst (.int 9))), (.cst (.str "Full"))])])))] []), (.ite (.cmp .Eq (.var 2) (.cst (.str "fair"))) [(.ret (.lst false [(.tup [(.blt .all false [(.lc 0 false (.nm 5) [(.var 3)] [] e__law_checks_1)]), (.cst (.str "NoHouse"))]), (.tup [(.cmp .Eq .bad (.blt .len false [(.var 3)])), (.cst (.str "Twice"))])]))] []), (.ite (.cmp .Eq (.var 2) (.cst (.str "draw"))) [(.asg (.nm 4) (.bin .Add true (.lc 0 false (.nm 5) [(.slLU false (.var 1) (.cst (.int 1)) (.cst (.int 4)))] [] e__law_checks_2) (.lst false [(.tup [(.not (.bm .get false (.idx (.var 0) (.cst (.int 1))) [(.var 3), (.cst (.bl false))])), (.cst (.str "Failed"))])]))), (.asg (.nm 4) (.bin .Add true (.var 4) (.lst false [(.tup [(.cmp2 .LtE .LtE (.cst (.int 1)) (.idx (.var 1) (.cst (.int 4))) (.bin .Pow false (.cst (.int 10)) (.cst (.int 12)))), (.cst (.str "BadCoins"))]), (.tup [(.cmp2 .LtE .LtE (.cst (.int 0)) (.bin .Sub false (.idx (.var 1) (.cst (.int 5))) (.idx (.var 0) (.cst (.int 2)))) (.cst (.int 1000))), (.cst (.str "BadDay"))])]))), (.ret (.bin .Add false (.var 4) (.lst false [(.tup [(.cmp .Lt (.blt .len false [(.idx (.var 0) (.cst (.int 3)))]) (.cst (.int 40))), (.cst (.str "Full"))])])))] []), (.ite (.cmp .In (.var 2) (.tup [(.cst (.str "in")), (.cst (.str "out")), (.cst (.str "fail")), (.cst (.str "mend"))])) [(.asg (.nm 4) (.lst true [(.tup [(.cmp .In (.var 3) (.idx (.var 0) (.cst (.int 0)))), (.cst (.str "NoHouse"))])])), (.ite (.cmp .In (.var 2) (.tup [(.cst (.str "fail")), (.cst (.str "mend"))])) [(.asg (.nm 6) (.idx (.dct [("fail", .str "Failed"), ("mend", .str "Standing")]) (.var 2))), (.ret (.bin .Add false (.var 4) (.lst false [(.tup [(.cmp .Eq (.bm .get false (.idx (.var 0) (.cst (.int 1))) [(.var 3), (.cst (.bl false))]) (.cmp .Eq (.var 2) (.cst (.str "mend")))), (.var 6)])])))] []), (.exp (.bm .append false (.var 4) [(.tup [(.cmp2 .LtE .LtE (.cst (.int 1)) (.idx (.var 1) (.cst (.int 2))) (.bin .Pow false (.cst (.int 10)) (.cst (.int 12)))), (.cst (.str "BadCoins"))])])), (.ret (.bin .Add false (.var 4) (.lst false [(.tup [(.or (.cmp .Eq (.var 2) (.cst (.str "in"))) (.cmp .GtE (.bm .get false (.idx (.var 0) (.cst (.int 0))) [(.var 3), (.cst (.int 0))]) (.idx (.var 1) (.cst (.int 2))))), (.cst (.str "NoCoins"))])])))] []), (.ite (.not (.cmp2 .LtE .LtE (.cst (.int 1)) (.var 3) (.blt .len false [(.idx (.var 0) (.cst (.int 3)))]))) [(.ret (.lst false [(.tup [(.cst (.bl false)), (.cst (.str "NoBill"))])]))] []), (.asg (.nm 4) (.lst true [(.tup [(.or (.cmp .Eq (.var 2) (.cst (.str "lose"))) (.cmp .Eq (.idx (.var 1) (.bin .Sub false (.cst (.int 2)) (.blt .int false [(.cmp .Eq (.var 2) (.cst (.str "lose")))]))) (.idx (.idx (.idx (.var 0) (.cst (.int 3))) (.bin .Sub false (.var 3) (.cst (.int 1)))) (.cst (.int 8))))), (.cst (.str "Void"))])])), (.ite (.cmp .In (.var 2) (.tup [(.cst (.str "sign")), (.cst (.str "blank")), (.cst (.str "hand")), (.cst (.str "honour"))])) [(.exp (.bm .append false (.var 4) [(.tup [(.cmp .In (.idx (.var 1) (.cst (.int 3))) (.idx (.var 0) (.cst (.int 0)))), (.cst (.str "NoHouse"))])]))] []), (.ret (.bin .Add false (.var 4) (.call "_law_bill_checks" [(.var 0), (.var 1)])))]
def n__law_word : List Str := ["_law_state", "_law_deed", "_law_good", "_law_word_here"]
def b__law_word_1 : List MS := [(.ite (.not (.var 2)) [(.ret (.var 3))] [])]
def m__law_word : List MS := [(.for_ 0 (.tp [(.nm 2), (.nm 3)]) [(.call "_law_checks" [(.var 0), (.var 1)])] b__law_word_1), (.ret (.cst (.str "")))]
/-! ### the law's own state -/
structure Gs where
  s : Addr
  h : Addr
  d : Addr
  b : Addr
  hs : Hs
  clock : Int
  bills : List (Addr × Bl)
def sbD (b : Bl) : List D := [.str b.drawer, .str b.drawee, .str b.payee, .int b.amount, .int b.due, .lst (rowD b.slip), .str b.keeper, .str b.stage, .int b.edition, .bl b.blank]
def stL (t : Gs) : List D := [.ref t.h, .ref t.d, .int t.clock, .ref t.b]
def refsS (l : List (Addr × Bl)) : List D := l.map fun q => .ref q.1
def sbC (l : List (Addr × Bl)) : List Cell := l.map fun q => (q.1, .lst (sbD q.2))
def stC (t : Gs) : List Cell := (t.s, .lst (stL t)) :: (t.h, .dct (heldK t.hs)) :: (t.d, .dct (downK t.hs)) :: (t.b, .lst (refsS t.bills)) :: sbC t.bills
structure Gs.like (t : Gs) (h : Ha) : Prop where
  hs : t.hs = h.hs
  clock : t.clock = h.clock
  bills : t.bills.map (·.2) = h.bills
section
variable {S : Sto} {t : Gs} {F : List Cell}
theorem st1 (h : Hd S (stC t ++ F)) : S t.s = some (.lst (stL t)) := h.get (by simp [stC])
theorem st2 (h : Hd S (stC t ++ F)) : S t.h = some (.dct (heldK t.hs)) := h.get (by simp [stC])
theorem st3 (h : Hd S (stC t ++ F)) : S t.d = some (.dct (downK t.hs)) := h.get (by simp [stC])
theorem st4 (h : Hd S (stC t ++ F)) : S t.b = some (.lst (refsS t.bills)) := h.get (by simp [stC])
theorem sa0 : atI (stL t) 0 = some (.ref t.h) := rfl
theorem sa1 : atI (stL t) 1 = some (.ref t.d) := rfl
theorem sa2 : atI (stL t) 2 = some (.int t.clock) := rfl
theorem sa3 : atI (stL t) 3 = some (.ref t.b) := rfl
theorem len_stL : (stL t).length = 4 := rfl
theorem st1n {p : Addr} {m : MO} (h : Hd S ((p, m) :: (stC t ++ F))) : S t.s = some (.lst (stL t)) := h.get (by simp [stC])
theorem st2n {p : Addr} {m : MO} (h : Hd S ((p, m) :: (stC t ++ F))) : S t.h = some (.dct (heldK t.hs)) := h.get (by simp [stC])
theorem st3n {p : Addr} {m : MO} (h : Hd S ((p, m) :: (stC t ++ F))) : S t.d = some (.dct (downK t.hs)) := h.get (by simp [stC])
theorem st4n {p : Addr} {m : MO} (h : Hd S ((p, m) :: (stC t ++ F))) : S t.b = some (.lst (refsS t.bills)) := h.get (by simp [stC])
end
theorem len_refsS {l : List (Addr × Bl)} : (refsS l).length = l.length := List.length_map ..
def chkD (l : List (Bool × Str)) : List D := l.map fun q => .tup [.bl q.1, .str q.2]
def spChecks : DSp := fun ds S Q X => ∃ t F d h, ds = [.ref t.s, deedD d] ∧ Gs.like t h ∧ Hd S (stC t ++ F) ∧ okDeed d ∧ t.hs.length ≤ 9 ∧ ∀ S', Hd S' (stC t ++ F) → Q (.lst (chkD (chk h d))) S'
theorem wrong1 : gv (κ := Key) (List.foldl (fun acc (kv : Str × D) => gp acc (Sum.inr kv.1) kv.2) [] [("fail", .str "Failed"), ("mend", .str "Standing")]) (.inr "fail") = some (.str "Failed") := by kernel_rfl
theorem wrong2 : gv (κ := Key) (List.foldl (fun acc (kv : Str × D) => gp acc (Sum.inr kv.1) kv.2) [] [("fail", .str "Failed"), ("mend", .str "Standing")]) (.inr "mend") = some (.str "Standing") := by kernel_rfl
theorem ok_Checks {G : Gc} (f1 : G.fn "_law_is_name" = some (1, spPure fIsName)) : BodyOk G n__law_checks 2 m__law_checks spChecks := by
  rintro ds S Q X - ⟨t, F, d, h, rfl, lik, hS, od, l9, q⟩
  have q := Hold.mk q
  have h1 := st1 hS
  have h2 := st2 hS
  have h3 := st3 hS
  have a0 := sa0 (t := t)
  have a1 := sa1 (t := t)
  show wSs G _ m__law_checks [some (.ref t.s), some (deedD d), none, none, none, none, none] S _
  unfold m__law_checks
  have hn : ∀ p, S p = none → ∀ m, put S p m t.s = some (.lst (stL t)) ∧ put S p m t.h = some (.dct (heldK t.hs)) ∧ put S p m t.d = some (.dct (downK t.hs)) ∧ Hd (put S p m) (stC t ++ F) := fun p hp m => by
    have z := hS.new hp m
    exact ⟨st1n z, st2n z, st3n z, z.sub (List.sublist_cons_self ..)⟩
  have elk : h.hs = t.hs := lik.hs.symm
  have p12 : (10 : Int) ^ (12 : Int).toNat = 1000000000000 := by decide
  have pok : (0 ≤ (12 : Int) ∧ (12 : Int) ≤ 1000000 ∧ (10 : Int).natAbs < 2 ^ 64) := by decide
  cases d with
  | house n c =>
    have e1 : fIsName [.str n] = some (.bl (isNm n)) := if_pos od
    have e2 : (!(Option.map (fun (q : Int × Bool) => D.int q.1) (lk t.hs n)).isSome) = !(lk t.hs n).isSome := by rw [Option.isSome_map]
    unfold deedD
    walk_at "f"
    refine nw_i fun p hp => ?_
    have n1 := fun m => (hn p hp m).1
    have n2 := fun m => (hn p hp m).2.1
    have n4 := fun m => (hn p hp m).2.2.2
    have e3 : decide ((t.hs.length : Int) < 9) = decide (t.hs.length < 9) := by rw [decide_eq_decide]; omega
    walk_at "f"
    refine brk_i (fun z1 => ?_) (fun z1 => ?_)
    · have z1 : 0 ≤ c := by simpa using z1
      walk_at "f"
      have e : decide (c ≤ 1000000000000) = decide (0 ≤ c ∧ c ≤ 1000000000000) := by rw [decide_eq_decide]; omega
      rw [e]
      have qq := q.h
      unfold chk at qq
      rw [elk] at qq
      exact qq _ (n4 _)
    · have z1 : ¬ 0 ≤ c := by simpa using z1
      walk_at "f"
      have e : false = decide (0 ≤ c ∧ c ≤ 1000000000000) := by rw [eq_comm, decide_eq_false_iff_not]; omega
      rw [e]
      have qq := q.h
      unfold chk at qq
      rw [elk] at qq
      exact qq _ (n4 _)
  | in_ n c =>
    have e2 : (Option.map (fun (q : Int × Bool) => D.int q.1) (lk t.hs n)).isSome = (lk t.hs n).isSome := by rw [Option.isSome_map]
    unfold deedD
    walk_at "f"
    refine nw_i fun p hp => ?_
    have n1 := fun m => (hn p hp m).1
    have n2 := fun m => (hn p hp m).2.1
    have n4 := fun m => (hn p hp m).2.2.2
    walk_at "f"
    refine brk_i (fun z1 => ?_) (fun z1 => ?_)
    · have z1 : 1 ≤ c := by simpa using z1
      walk_at "f"
      have e : decide (c ≤ 1000000000000) = decide (1 ≤ c ∧ c ≤ 1000000000000) := by rw [decide_eq_decide]; omega
      rw [e]
      have qq := q.h
      unfold chk at qq
      rw [elk] at qq
      exact qq _ (n4 _)
    · have z1 : ¬ 1 ≤ c := by simpa using z1
      walk_at "f"
      have e : false = decide (1 ≤ c ∧ c ≤ 1000000000000) := by rw [eq_comm, decide_eq_false_iff_not]; omega
      rw [e]
      have qq := q.h
      unfold chk at qq
      rw [elk] at qq
      exact qq _ (n4 _)
  | out n c =>
    have e2 : (Option.map (fun (q : Int × Bool) => D.int q.1) (lk t.hs n)).isSome = (lk t.hs n).isSome := by rw [Option.isSome_map]
    have e3 : (Option.map (fun (q : Int × Bool) => D.int q.1) (lk t.hs n)).getD (.int 0) = .int (cf t.hs n).1 := by unfold cf; cases lk t.hs n <;> rfl
    unfold deedD
    walk_at "f"
    refine nw_i fun p hp => ?_
    have n1 := fun m => (hn p hp m).1
    have n2 := fun m => (hn p hp m).2.1
    have n4 := fun m => (hn p hp m).2.2.2
    walk_at "f"
    refine brk_i (fun z1 => ?_) (fun z1 => ?_)
    · have z1 : 1 ≤ c := by simpa using z1
      walk_at "f"
      have e : decide (c ≤ 1000000000000) = decide (1 ≤ c ∧ c ≤ 1000000000000) := by rw [decide_eq_decide]; omega
      rw [e]
      have qq := q.h
      unfold chk at qq
      rw [elk] at qq
      exact qq _ (n4 _)
    · have z1 : ¬ 1 ≤ c := by simpa using z1
      walk_at "f"
      have e : false = decide (1 ≤ c ∧ c ≤ 1000000000000) := by rw [eq_comm, decide_eq_false_iff_not]; omega
      rw [e]
      have qq := q.h
      unfold chk at qq
      rw [elk] at qq
      exact qq _ (n4 _)
  | fail n =>
    have e2 : (Option.map (fun (q : Int × Bool) => D.int q.1) (lk t.hs n)).isSome = (lk t.hs n).isSome := by rw [Option.isSome_map]
    have e3 : (Option.map (fun (q : Int × Bool) => D.bl q.2) (lk t.hs n)).getD (.bl false) = .bl (cf t.hs n).2 := by unfold cf; cases lk t.hs n <;> rfl
    have e4 := wrong1
    unfold deedD
    walk_at "f"
    refine nw_i fun p hp => ?_
    walk_at "f"
    refine nw_i fun p2 hp2 => ?_
    have z := fun m2 => (hS.new hp _).new hp2 m2
    have n1 := fun m2 => (z m2).get (a := t.s) (m := .lst (stL t)) (by simp [stC])
    have n3 := fun m2 => (z m2).get (a := t.d) (m := .dct (downK t.hs)) (by simp [stC])
    have n5 := fun m2 => (z m2).get (a := p) (List.mem_cons_of_mem _ List.mem_cons_self)
    have n4 := fun m2 => (z m2).sub (List.Sublist.cons _ (List.sublist_cons_self ..))
    walk_at "f"
    have e : ((cf t.hs n).2 == false) = !(cf t.hs n).2 := by cases (cf t.hs n).2 <;> rfl
    rw [e]
    have qq := q.h
    unfold chk at qq
    rw [elk] at qq
    exact qq _ (n4 _)
  | mend n =>
    have e2 : (Option.map (fun (q : Int × Bool) => D.int q.1) (lk t.hs n)).isSome = (lk t.hs n).isSome := by rw [Option.isSome_map]
    have e3 : (Option.map (fun (q : Int × Bool) => D.bl q.2) (lk t.hs n)).getD (.bl false) = .bl (cf t.hs n).2 := by unfold cf; cases lk t.hs n <;> rfl
    have e4 := wrong2
    unfold deedD
    walk_at "f"
    refine nw_i fun p hp => ?_
    walk_at "f"
    refine nw_i fun p2 hp2 => ?_
    have z := fun m2 => (hS.new hp _).new hp2 m2
    have n1 := fun m2 => (z m2).get (a := t.s) (m := .lst (stL t)) (by simp [stC])
    have n3 := fun m2 => (z m2).get (a := t.d) (m := .dct (downK t.hs)) (by simp [stC])
    have n5 := fun m2 => (z m2).get (a := p) (List.mem_cons_of_mem _ List.mem_cons_self)
    have n4 := fun m2 => (z m2).sub (List.Sublist.cons _ (List.sublist_cons_self ..))
    walk_at "f"
    have e : ((cf t.hs n).2 == true) = (cf t.hs n).2 := by cases (cf t.hs n).2 <;> rfl
    rw [e]
    have qq := q.h
    unfold chk at qq
    rw [elk] at qq
    exact qq _ (n4 _)
  | days m =>
    unfold deedD
    walk_at "f"
    refine brk_i (fun z1 => ?_) (fun z1 => ?_)
    · have z1 : 1 ≤ m := by simpa using z1
      walk_at "f"
      have e : decide (m ≤ 1000) = decide (1 ≤ m ∧ m ≤ 1000) := by rw [decide_eq_decide]; omega
      rw [e]
      exact q.h _ hS
    · have z1 : ¬ 1 ≤ m := by simpa using z1
      walk_at "f"
      have e : false = decide (1 ≤ m ∧ m ≤ 1000) := by rw [eq_comm, decide_eq_false_iff_not]; omega
      rw [e]
      exact q.h _ hS
/-! ### the first refusal -/
def spWord : DSp := fun ds S Q X => ∃ t F d h, ds = [.ref t.s, deedD d] ∧ Gs.like t h ∧ Hd S (stC t ++ F) ∧ okDeed d ∧ t.hs.length ≤ 9 ∧ ∀ S', Hd S' (stC t ++ F) → Q (.str (wordH h d)) S'
theorem word_b {G : Gc} {x : XW} {K : KS} {S : Sto} {u v : D} {b : Bool} {w : Str} (h : if b = true then K.nx [some u, some v, some (.bl b), some (.str w)] S else K.rt (.str w) S) : wSs G x b__law_word_1 [some u, some v, some (.bl b), some (.str w)] S K := by
  unfold b__law_word_1
  cases b with
  | true => walk_at "f"; exact h
  | false => walk_at "f"; exact h
theorem word_loop {G : Gc} {x : XW} {k : KS} {S : Sto} {u v : D} : ∀ (l : List (Bool × Str)) (p r : Option D), (∀ p r, fst1 l = "" → k.nx [some u, some v, p, r] S) → (fst1 l ≠ "" → k.rt (.str (fst1 l)) S) → (∀ q ∈ l, q.2 ≠ "") → forLoop (fun _ => True) (fun d σ2 S2 q => ∃ σ', asgT (.tp [.nm 2, .nm 3]) d σ2 = some σ' ∧ wSs G x b__law_word_1 σ' S2 q) (chkD l) [some u, some v, p, r] S k
  | [], p, r, h1, h2, _ => ⟨trivial, h1 p r rfl⟩
  | (b, w) :: l, p, r, h1, h2, h3 => by
    refine ⟨trivial, [some u, some v, some (.bl b), some (.str w)], rfl, word_b ?_⟩
    cases b with
    | true => exact word_loop l _ _ h1 h2 (fun q hq => h3 q (List.mem_cons_of_mem _ hq))
    | false => exact h2 (h3 (false, w) List.mem_cons_self)
theorem words_ne : ∀ w ∈ words25, w ≠ "" := by decide +kernel
theorem chk_in (h : Ha) (d : Deed) : ∀ q ∈ chk h d, q.2 ∈ words25 := by
  have key : ∀ l : List Str, (∀ w ∈ l, w ∈ words25) → (chk h d).map (·.2) = l → ∀ q ∈ chk h d, q.2 ∈ words25 := fun l h1 h2 q hq => h1 _ (h2 ▸ List.mem_map.mpr ⟨q, hq, rfl⟩)
  cases d
  · exact key ["BadName", "Taken", "BadCoins", "Full"] (by decide +kernel) rfl
  · exact key ["NoHouse", "BadCoins", "NoCoins"] (by decide +kernel) rfl
  · exact key ["NoHouse", "BadCoins", "NoCoins"] (by decide +kernel) rfl
  · exact key ["NoHouse", "Failed"] (by decide +kernel) rfl
  · exact key ["NoHouse", "Standing"] (by decide +kernel) rfl
  · exact key ["BadCount"] (by decide +kernel) rfl
theorem chk_ne (h : Ha) (d : Deed) : ∀ q ∈ chk h d, q.2 ≠ "" := fun q hq => words_ne _ (chk_in h d q hq)
theorem fst1_in : ∀ {l : List (Bool × Str)}, fst1 l ≠ "" → ∃ q ∈ l, fst1 l = q.2
  | [], h => (h rfl).elim
  | (b, w) :: l, h => by
    unfold fst1 at h ⊢
    cases b with
    | true =>
      obtain ⟨q, h1, h2⟩ := fst1_in (l := l) h
      exact ⟨q, List.mem_cons_of_mem _ h1, h2⟩
    | false => exact ⟨(false, w), List.mem_cons_self, rfl⟩
theorem word_in {h : Ha} {d : Deed} (e : wordH h d ≠ "") : wordH h d ∈ words25 := by
  obtain ⟨q, h1, h2⟩ := fst1_in e
  show fst1 _ ∈ _
  rw [h2]
  exact chk_in h d q h1
theorem ok_Word {G : Gc} (f1 : G.fn "_law_checks" = some (2, spChecks)) : BodyOk G n__law_word 2 m__law_word spWord := by
  rintro ds S Q X - ⟨t, F, d, h, rfl, lik, hS, od, l9, q⟩
  have q := Hold.mk q
  show wSs G _ m__law_word [some (.ref t.s), some (deedD d), none, none] S _
  unfold m__law_word
  walk_at "f"
  refine cw_i ⟨t, F, d, h, rfl, lik, hS, od, l9, fun S' hS' => ?_⟩
  walk_at "f"
  refine fl_i (word_loop (chk h d) none none ?_ ?_ (chk_ne h d))
  · intro p r e
    have q := q.h S' hS'
    unfold wordH at q
    rw [e] at q
    walk_at "f"
  · intro _
    exact q.h S' hS'
end Mn

namespace Mn
open PySem L2
local macro_rules | `(tactic| walk_at "x") => `(tactic| try simp only [wSs, wS, wE, wEs, wC, x_add, x_sub, x_addS, x_addT, x_addL, x_mul, x_mulS, x_mulL, x_div, x_mod, x_pow, x_lt, x_le, x_gt, x_ge, x_eqD, x_neD, x_in, x_notIn, x_is, x_isNot, x_eqI, x_eqS, x_eqB, x_isNN, x_isBN, x_isIN, x_isSN, x_isTN, x_isLN, x_isRN, x_isBB, x_lenS, x_lenT, x_lenL, x_lenP, x_sumP, x_appP, x_appTP, x_idxP, x_frzP, x_abs, x_intI, x_intB, x_max, x_allL, x_sumL, x_listL, x_listT, x_isi, x_truB, x_truI, x_truL, x_truT, x_truN, x_idxS, x_idxL, x_idxT, x_slS, x_slT, x_slL, x_it0L, x_it0T, x_it0S, x_it0C, x_it1, x_it2L, x_val, x_upd, x_newF, x_newT, x_nm, x_tp, x_tps, x_tp0, x_ite, x_iteD, x_ifD, x_some, x_some2, x_map, x_eqInt, i_N_tuple, i_N_list, i_N_bool, i_N_int, i_N_str, i_N_tl, i_B_tuple, i_B_list, i_B_bool, i_B_int, i_B_str, i_B_tl, i_I_tuple, i_I_list, i_I_bool, i_I_int, i_I_str, i_I_tl, i_S_tuple, i_S_list, i_S_bool, i_S_int, i_S_str, i_S_tl, i_T_tuple, i_T_list, i_T_bool, i_T_int, i_T_str, i_T_tl, i_L_tuple, i_L_list, i_L_bool, i_L_int, i_L_str, i_L_tl, x_pure, x_new, x_fn, List.getElem?_cons_zero, List.getElem?_cons_succ, List.set_cons_zero, List.set_cons_succ, Option.bind_some, List.length_cons, List.length_nil, Nat.reduceAdd, true_and, and_true, decide_eq_true_eq, Bool.not_eq_true', decide_eq_false_iff_not, Bool.not_false, Bool.not_true, Bool.false_eq_true, Bool.true_eq_false, if_true, if_false, ite_true, ite_false])
local macro_rules | `(tactic| walk_at "h") => `(tactic| simp only [wSs, wS, wE, wEs, wC, x_add, x_sub, x_addS, x_addT, x_addL, x_mul, x_mulS, x_mulL, x_div, x_mod, x_pow, x_lt, x_le, x_gt, x_ge, x_eqD, x_neD, x_in, x_notIn, x_is, x_isNot, x_eqI, x_eqS, x_eqB, x_isNN, x_isBN, x_isIN, x_isSN, x_isTN, x_isLN, x_isRN, x_isBB, x_lenS, x_lenT, x_lenL, x_lenP, x_sumP, x_appP, x_appTP, x_idxP, x_frzP, x_abs, x_intI, x_intB, x_max, x_allL, x_sumL, x_listL, x_listT, x_isi, x_truB, x_truI, x_truL, x_truT, x_truN, x_idxS, x_idxL, x_idxT, x_slS, x_slT, x_slL, x_it0L, x_it0T, x_it0S, x_it0C, x_it1, x_it2L, x_val, x_upd, x_newF, x_newT, x_nm, x_tp, x_tps, x_tp0, x_ite, x_iteD, x_ifD, x_some, x_some2, x_map, x_eqInt, i_N_tuple, i_N_list, i_N_bool, i_N_int, i_N_str, i_N_tl, i_B_tuple, i_B_list, i_B_bool, i_B_int, i_B_str, i_B_tl, i_I_tuple, i_I_list, i_I_bool, i_I_int, i_I_str, i_I_tl, i_S_tuple, i_S_list, i_S_bool, i_S_int, i_S_str, i_S_tl, i_T_tuple, i_T_list, i_T_bool, i_T_int, i_T_str, i_T_tl, i_L_tuple, i_L_list, i_L_bool, i_L_int, i_L_str, i_L_tl, x_pure, x_new, x_fn, List.getElem?_cons_zero, List.getElem?_cons_succ, List.set_cons_zero, List.set_cons_succ, Option.bind_some, List.length_cons, List.length_nil, Nat.reduceAdd, true_and, and_true, decide_eq_true_eq, Bool.not_eq_true', decide_eq_false_iff_not, Bool.not_false, Bool.not_true, Bool.false_eq_true, Bool.true_eq_false, if_true, if_false, ite_true, ite_false, r_len, r_idx, r_in, r_get, r_getT, r_setd, r_setdT, r_app, r_appT, r_six, r_it, r_it2, r_sorted, r_list, r_dict, r_sl, r_tru, r_newD, r_att, r_self, r_sat, r_ins, r_ins2, fl_held, fl_chest, fl_down, fl_clock, fl_bills, fl_done, fl_drawer, fl_drawee, fl_payee, fl_amount, fl_due, fl_slip, fl_keeper, fl_stage, fl_edition, fl_blank, lu_held, lu_chest, lu_down, lu_clock, lu_bills, lu_done, lu_drawer, lu_drawee, lu_payee, lu_amount, lu_due, lu_slip, lu_keeper, lu_stage, lu_edition, lu_blank, pf_stage, pf_keeper, pf_edition, pf_blank, pf_slip, pf_clock, len_pursesF, len_hallF, len_billF, keyOf, Option.map_some, Option.map_none, Option.bind_none, Option.getD_some, Option.getD_none, Option.isSome_some, Option.isSome_none, r_some2, r_aga, r_int, r_ags, r_dct, ex_BadName, ex_Taken, ex_BadCoins, ex_Full, ex_NoHouse, ex_NoCoins, ex_Failed, ex_Standing, ex_BadCount, ex_BadDay, ex_NoBill, ex_Void, ex_Closed, ex_Accepted, ex_Same, ex_NotBlank, ex_NotYet, ex_NotPresented, ex_Protested, ex_TooLate, ex_NotBound, ex_CantPay, ex_NotProtested, ex_IsBound, ex_Twice, gv_pk, gp_pk, len_pk, nH_need, nH_must_stand, nH_find, nH_find_copy, nH_house, nH_look_at_coins, nH_put_in, nH_take_out, nH_fail, nH_mend, nH_pass_days, nH_draw, nH_accept, nH_signed, nH_sign, nH_sign_blank, nH_hand, nH_lose, nH_can_pay, nH_present, nH_protest, nH_ask, nH_may_honour, nH_honour, nH_fair, nH_names, nH_coins, nH_stands, nH_today, nH_many_bills, nH_paper, nH_state, nH_holder, nH_copy_of, nH_in_blank, nH_row, nH_story, nH_moment, nH_twin, nB_set_out, nB_doubled, nB_must_run, nB_must_be_back, nB_taken_on, nB_take_on, nB_sign_on, nB_hand_on, nB_next_copy, nB_must_be_due, nB_protest_on, nB_open_now, nB_go_back, nB_to_itself, nP_need, nP_look_at, nP_add_purse, nP_coins, nP_fill, nP_spend, nP_pay, nP_total, nP_all_names, nP_doubled, put_same, gv_held, gv_down, len_held, len_down, w_house_draw, w_house_in, w_house_out, w_house_fail, w_house_mend, w_house_days, w_house_fair, w_in_draw, w_in_house, w_in_out, w_in_fail, w_in_mend, w_in_days, w_in_fair, w_out_draw, w_out_house, w_out_in, w_out_fail, w_out_mend, w_out_days, w_out_fair, w_fail_draw, w_fail_house, w_fail_in, w_fail_out, w_fail_mend, w_fail_days, w_fail_fair, w_mend_draw, w_mend_house, w_mend_in, w_mend_out, w_mend_fail, w_mend_days, w_mend_fair, w_days_draw, w_days_house, w_days_in, w_days_out, w_days_fail, w_days_mend, w_days_fair, in_house_S7, in_house_S4, in_house_S2, in_house_S3, in_in_S7, in_in_S4, in_in_S2, in_in_S3, in_out_S7, in_out_S4, in_out_S2, in_out_S3, in_fail_S7, in_fail_S4, in_fail_S2, in_fail_S3, in_mend_S7, in_mend_S4, in_mend_S2, in_mend_S3, in_days_S7, in_days_S4, in_days_S2, in_days_S3, at0, at1, at2, at3, at4, at5, at6, at7, at8, at9, eq_self, *])
local macro_rules | `(tactic| walk_at "f") => `(tactic| simp only [↓p_var, ↓p_cst, ↓p_glo, ↓p_bin, ↓p_neg, ↓p_not, ↓p_cmp, ↓p_cmp2, ↓p_and, ↓p_or, ↓p_ifx, ↓p_idx, ↓p_slL, ↓p_slU, ↓p_slLU, ↓p_tup, ↓p_lstF, ↓p_lstT, ↓p_blt, ↓p_bm, ↓p_call, ↓p_lc, ↓p_att, ↓p_mth, ↓p_mk, ↓p_dct, ↓p_nil, ↓p_cons, ↓p_newT, ↓p_newD, ↓p_pure, ↓q_nil, ↓q_cons, ↓q_asg, ↓q_six, ↓q_aug, ↓q_exp, ↓q_ret, ↓q_ite, ↓q_for, ↓q_pas, ↓q_cont, ↓q_frS, ↓q_sat, ↓q_rai, ↓q_tri, ↓x_val, ↓x_upd, ↓x_newF, ↓bO_some, ↓brk_t, ↓brk_f, ↓bF_some, bO_some, bO_none, bO_ite, bO_iteO, bO_map, bF_some, brk_t, brk_f, p_attR, p_selR, p_satR, intO_int, tO_t, p_bool, put_put, id, Option.bind_some, ↓reduceIte, r_addRL, r_addLR, List.cons_append, List.nil_append, sl0, sm0, sl1, sm1, sl2, sm2, sl3, sm3, sl4, sm4, sl5, sm5, sl6, sm6, sl7, sm7, sl8, sm8, sl9, sm9, sl10, sm10, sl11, sm11, sl12, sm12, decide_true, decide_false, x_add, x_sub, x_addS, x_addT, x_addL, x_mul, x_mulS, x_mulL, x_div, x_mod, x_pow, x_lt, x_le, x_gt, x_ge, x_eqD, x_neD, x_in, x_notIn, x_is, x_isNot, x_eqI, x_eqS, x_eqB, x_isNN, x_isBN, x_isIN, x_isSN, x_isTN, x_isLN, x_isRN, x_isBB, x_lenS, x_lenT, x_lenL, x_lenP, x_sumP, x_appP, x_appTP, x_idxP, x_frzP, x_abs, x_intI, x_intB, x_max, x_allL, x_sumL, x_listL, x_listT, x_isi, x_truB, x_truI, x_truL, x_truT, x_truN, x_idxS, x_idxL, x_idxT, x_slS, x_slT, x_slL, x_it0L, x_it0T, x_it0S, x_it0C, x_it1, x_it2L, x_nm, x_tp, x_tps, x_tp0, i_N_tuple, i_N_list, i_N_bool, i_N_int, i_N_str, i_N_tl, i_B_tuple, i_B_list, i_B_bool, i_B_int, i_B_str, i_B_tl, i_I_tuple, i_I_list, i_I_bool, i_I_int, i_I_str, i_I_tl, i_S_tuple, i_S_list, i_S_bool, i_S_int, i_S_str, i_S_tl, i_T_tuple, i_T_list, i_T_bool, i_T_int, i_T_str, i_T_tl, i_L_tuple, i_L_list, i_L_bool, i_L_int, i_L_str, i_L_tl, List.getElem?_cons_zero, List.getElem?_cons_succ, List.set_cons_zero, List.set_cons_succ, Option.bind_some, List.length_cons, List.length_nil, Nat.reduceAdd, true_and, and_true, decide_eq_true_eq, Bool.not_eq_true', decide_eq_false_iff_not, Bool.not_false, Bool.not_true, Bool.false_eq_true, Bool.true_eq_false, if_true, if_false, ite_true, ite_false, r_len, r_idx, r_in, r_get, r_getT, r_setd, r_setdT, r_app, r_appT, r_six, r_it, r_it2, r_sorted, r_list, r_dict, r_sl, r_tru, fl_held, fl_chest, fl_down, fl_clock, fl_bills, fl_done, fl_drawer, fl_drawee, fl_payee, fl_amount, fl_due, fl_slip, fl_keeper, fl_stage, fl_edition, fl_blank, lu_held, lu_chest, lu_down, lu_clock, lu_bills, lu_done, lu_drawer, lu_drawee, lu_payee, lu_amount, lu_due, lu_slip, lu_keeper, lu_stage, lu_edition, lu_blank, pf_stage, pf_keeper, pf_edition, pf_blank, pf_slip, pf_clock, len_pursesF, len_hallF, len_billF, keyOf, Option.map_some, Option.map_none, Option.bind_none, Option.getD_some, Option.getD_none, Option.isSome_some, Option.isSome_none, ex_BadName, ex_Taken, ex_BadCoins, ex_Full, ex_NoHouse, ex_NoCoins, ex_Failed, ex_Standing, ex_BadCount, ex_BadDay, ex_NoBill, ex_Void, ex_Closed, ex_Accepted, ex_Same, ex_NotBlank, ex_NotYet, ex_NotPresented, ex_Protested, ex_TooLate, ex_NotBound, ex_CantPay, ex_NotProtested, ex_IsBound, ex_Twice, gv_pk, gp_pk, len_pk, nH_need, nH_must_stand, nH_find, nH_find_copy, nH_house, nH_look_at_coins, nH_put_in, nH_take_out, nH_fail, nH_mend, nH_pass_days, nH_draw, nH_accept, nH_signed, nH_sign, nH_sign_blank, nH_hand, nH_lose, nH_can_pay, nH_present, nH_protest, nH_ask, nH_may_honour, nH_honour, nH_fair, nH_names, nH_coins, nH_stands, nH_today, nH_many_bills, nH_paper, nH_state, nH_holder, nH_copy_of, nH_in_blank, nH_row, nH_story, nH_moment, nH_twin, nB_set_out, nB_doubled, nB_must_run, nB_must_be_back, nB_taken_on, nB_take_on, nB_sign_on, nB_hand_on, nB_next_copy, nB_must_be_due, nB_protest_on, nB_open_now, nB_go_back, nB_to_itself, nP_need, nP_look_at, nP_add_purse, nP_coins, nP_fill, nP_spend, nP_pay, nP_total, nP_all_names, nP_doubled, put_same, gv_held, gv_down, len_held, len_down, w_house_draw, w_house_in, w_house_out, w_house_fail, w_house_mend, w_house_days, w_house_fair, w_in_draw, w_in_house, w_in_out, w_in_fail, w_in_mend, w_in_days, w_in_fair, w_out_draw, w_out_house, w_out_in, w_out_fail, w_out_mend, w_out_days, w_out_fair, w_fail_draw, w_fail_house, w_fail_in, w_fail_out, w_fail_mend, w_fail_days, w_fail_fair, w_mend_draw, w_mend_house, w_mend_in, w_mend_out, w_mend_fail, w_mend_days, w_mend_fair, w_days_draw, w_days_house, w_days_in, w_days_out, w_days_fail, w_days_mend, w_days_fair, in_house_S7, in_house_S4, in_house_S2, in_house_S3, in_in_S7, in_in_S4, in_in_S2, in_in_S3, in_out_S7, in_out_S4, in_out_S2, in_out_S3, in_fail_S7, in_fail_S4, in_fail_S2, in_fail_S3, in_mend_S7, in_mend_S4, in_mend_S2, in_mend_S3, in_days_S7, in_days_S4, in_days_S2, in_days_S3, at0, at1, at2, at3, at4, at5, at6, at7, at8, at9, eq_self, *])
def n__law_done : List Str := ["_law_state", "_law_deed", "_law_word_here"]
def m__law_done : List MS := [(.asg (.nm 2) (.idx (.var 1) (.cst (.int 0)))), (.ite (.cmp .Eq (.var 2) (.cst (.str "days"))) [(.six (.var 0) (.cst (.int 2)) (.bin .Add false (.idx (.var 0) (.cst (.int 2))) (.idx (.var 1) (.cst (.int 1)))))] [(.ite (.cmp .In (.var 2) (.tup [(.cst (.str "house")), (.cst (.str "in")), (.cst (.str "out"))])) [(.six (.idx (.var 0) (.cst (.int 0))) (.idx (.var 1) (.cst (.int 1))) (.bin .Add false (.bm .get false (.idx (.var 0) (.cst (.int 0))) [(.idx (.var 1) (.cst (.int 1))), (.cst (.int 0))]) (.bin .Mult false (.idx (.var 1) (.cst (.int 2))) (.bin .Sub false (.cst (.int 1)) (.bin .Mult false (.cst (.int 2)) (.blt .int false [(.cmp .Eq (.var 2) (.cst (.str "out")))])))))), (.exp (.bm .setdefault false (.idx (.var 0) (.cst (.int 1))) [(.idx (.var 1) (.cst (.int 1))), (.cst (.bl false))]))] [(.ite (.cmp .In (.var 2) (.tup [(.cst (.str "fail")), (.cst (.str "mend"))])) [(.six (.idx (.var 0) (.cst (.int 1))) (.idx (.var 1) (.cst (.int 1))) (.cmp .Eq (.var 2) (.cst (.str "fail"))))] [(.ite (.cmp .Eq (.var 2) (.cst (.str "draw"))) [(.exp (.bm .append false (.idx (.var 0) (.cst (.int 3))) [(.bin .Add false (.blt .list false [(.slLU false (.var 1) (.cst (.int 1)) (.cst (.int 6)))]) (.lst false [(.lst false [(.tup [(.idx (.var 1) (.cst (.int 2))), (.cst (.bl false))]), (.tup [(.idx (.var 1) (.cst (.int 1))), (.idx (.var 1) (.cst (.int 6)))])]), (.idx (.var 1) (.cst (.int 3))), (.cst (.str "running")), (.cst (.int 1)), (.cst (.bl false))]))])), (.ret (.blt .len false [(.idx (.var 0) (.cst (.int 3)))]))] [(.ret (.call "_law_bill_done" [(.var 0), (.var 1), (.idx (.idx (.var 0) (.cst (.int 3))) (.bin .Sub false (.idx (.var 1) (.cst (.int 1))) (.cst (.int 1))))]))])])])]), (.ret (.cst .non))]
/-! ### a deed done in the law's own state -/
def spDone : DSp := fun ds S Q X => ∃ t F d h, ds = [.ref t.s, deedD d] ∧ Gs.like t h ∧ Hd S (stC t ++ F) ∧ t.hs.length ≤ 9 ∧ wordH h d = "" ∧ ∀ S' t', t'.s = t.s → Gs.like t' (stepH h d) → Hd S' (stC t' ++ F) → Q (ansH h d) S'
theorem fst1_nil : ∀ {l : List (Bool × Str)}, fst1 l = "" → (∀ q ∈ l, q.2 ≠ "") → ∀ q ∈ l, q.1 = true
  | [], _, _, q, hq => nomatch hq
  | (b, w) :: l, h, hn, q, hq => by
    unfold fst1 at h
    cases b with
    | true =>
      rcases List.mem_cons.mp hq with rfl | hq
      · rfl
      · exact fst1_nil (l := l) h (fun q hq => hn q (List.mem_cons_of_mem _ hq)) q hq
    | false => exact (hn (false, w) List.mem_cons_self h).elim
theorem word_ok {h : Ha} {d : Deed} (e : wordH h d = "") : ∀ q ∈ chk h d, q.1 = true := fst1_nil e (chk_ne h d)
section
variable {S : Sto} {t : Gs} {F : List Cell}
theorem stHeld (h : Hd S (stC t ++ F)) {hs : Hs} (e : downK hs = downK t.hs) : Hd (put S t.h (.dct (heldK hs))) (stC { t with hs := hs } ++ F) := by
  have := Hd.upd (L1 := [_]) (a := t.h) h (.dct (heldK hs))
  unfold stC
  rw [e]
  exact this
theorem stDown (h : Hd S (stC t ++ F)) {hs : Hs} (e : heldK hs = heldK t.hs) : Hd (put S t.d (.dct (downK hs))) (stC { t with hs := hs } ++ F) := by
  have := Hd.upd (L1 := [_, _]) (a := t.d) h (.dct (downK hs))
  unfold stC
  rw [e]
  exact this
theorem stBoth (h : Hd S (stC t ++ F)) (hs : Hs) : Hd (put (put S t.h (.dct (heldK hs))) t.d (.dct (downK hs))) (stC { t with hs := hs } ++ F) := by
  have h1 := Hd.upd (L1 := [_]) (a := t.h) h (.dct (heldK hs))
  exact Hd.upd (L1 := [_, _]) (a := t.d) h1 (.dct (downK hs))
theorem stH1 (h : Hd S (stC t ++ F)) (m : MO) : put S t.h m t.s = some (.lst (stL t)) ∧ put S t.h m t.d = some (.dct (downK t.hs)) := by
  have h1 := Hd.upd (L1 := [_]) (a := t.h) h m
  exact ⟨h1.get (by simp), h1.get (by simp)⟩
theorem stClock (h : Hd S (stC t ++ F)) (i : Int) : Hd (put S t.s (.lst (stL { t with clock := i }))) (stC { t with clock := i } ++ F) := Hd.upd (L1 := []) h _
end
theorem ok_Done {G : Gc} : BodyOk G n__law_done 2 m__law_done spDone := by
  rintro ds S Q X - ⟨t, F, d, h, rfl, lik, hS, l9, w0, q⟩
  have q := Hold.mk q
  have h1 := st1 hS
  have h2 := st2 hS
  have h3 := st3 hS
  have a0 := sa0 (t := t)
  have a1 := sa1 (t := t)
  have a2 := sa2 (t := t)
  have wk := word_ok w0
  have elk : h.hs = t.hs := lik.hs.symm
  have n1 := fun m => (stH1 hS m).1
  have n3 := fun m => (stH1 hS m).2
  have s9 : t.hs.length < sizeLine := Nat.lt_of_le_of_lt l9 (by decide)
  show wSs G _ m__law_done [some (.ref t.s), some (deedD d), none] S _
  unfold m__law_done
  cases d with
  | house n c =>
    have hb : lk t.hs n = none := by
      have := wk (!(lk h.hs n).isSome, "Taken") (by simp [chk])
      rw [elk] at this
      simpa using this
    have e2 : gp (heldK t.hs) (.inr n) (.int (0 + c * (1 - 2 * 0))) = heldK (t.hs ++ [(n, (c, false))]) := by rw [show (0 + c * (1 - 2 * 0) : Int) = c by omega]; exact gp_heldN hb
    have e3 : gp (downK t.hs) (.inr n) (.bl false) = downK (t.hs ++ [(n, (c, false))]) := gp_downN hb
    unfold deedD
    walk_at "f"
    refine ⟨.inl (by decide), .inr (by decide), ?_⟩
    refine q.h _ { t with hs := t.hs ++ [(n, (c, false))] } rfl ⟨?_, lik.clock, lik.bills⟩ (stBoth hS _)
    show _ = h.hs ++ _
    rw [elk]
  | in_ n c =>
    obtain ⟨v, hb⟩ : ∃ v, lk t.hs n = some v := by
      have := wk ((lk h.hs n).isSome, "NoHouse") (by simp [chk])
      rw [elk] at this
      exact lk_some this
    have ec : cf h.hs n = v := by unfold cf; rw [elk, hb]; rfl
    have e2 : gp (heldK t.hs) (.inr n) (.int (v.1 + c * (1 - 2 * 0))) = heldK (setC t.hs n (v.1 + c)) := by rw [show (v.1 + c * (1 - 2 * 0) : Int) = v.1 + c by omega]; exact gp_held (by rw [hb]; rfl)
    unfold deedD
    walk_at "f"
    refine ⟨.inl (by decide), .inr (by decide), ?_⟩
    refine q.h _ { t with hs := setC t.hs n (v.1 + c) } rfl ⟨?_, lik.clock, lik.bills⟩ (stHeld hS (down_setC ..))
    show _ = setC h.hs n ((cf h.hs n).1 + c)
    rw [ec, elk]
  | out n c =>
    obtain ⟨v, hb⟩ : ∃ v, lk t.hs n = some v := by
      have := wk ((lk h.hs n).isSome, "NoHouse") (by simp [chk])
      rw [elk] at this
      exact lk_some this
    have ec : cf h.hs n = v := by unfold cf; rw [elk, hb]; rfl
    have e2 : gp (heldK t.hs) (.inr n) (.int (v.1 + c * (1 - 2 * 1))) = heldK (setC t.hs n (v.1 - c)) := by rw [show (v.1 + c * (1 - 2 * 1) : Int) = v.1 - c by omega]; exact gp_held (by rw [hb]; rfl)
    unfold deedD
    walk_at "f"
    refine ⟨.inl (by decide), .inr (by decide), ?_⟩
    refine q.h _ { t with hs := setC t.hs n (v.1 - c) } rfl ⟨?_, lik.clock, lik.bills⟩ (stHeld hS (down_setC ..))
    show _ = setC h.hs n ((cf h.hs n).1 - c)
    rw [ec, elk]
  | fail n =>
    have hb : (lk t.hs n).isSome = true := by
      have := wk ((lk h.hs n).isSome, "NoHouse") (by simp [chk])
      rw [elk] at this
      exact this
    have e2 : gp (downK t.hs) (.inr n) (.bl true) = downK (setF t.hs n true) := gp_down hb
    unfold deedD
    walk_at "f"
    refine q.h _ { t with hs := setF t.hs n true } rfl ⟨?_, lik.clock, lik.bills⟩ (stDown hS (held_setF ..))
    show _ = setF h.hs n true
    rw [elk]
  | mend n =>
    have hb : (lk t.hs n).isSome = true := by
      have := wk ((lk h.hs n).isSome, "NoHouse") (by simp [chk])
      rw [elk] at this
      exact this
    have e2 : gp (downK t.hs) (.inr n) (.bl false) = downK (setF t.hs n false) := gp_down hb
    unfold deedD
    walk_at "f"
    refine q.h _ { t with hs := setF t.hs n false } rfl ⟨?_, lik.clock, lik.bills⟩ (stDown hS (held_setF ..))
    show _ = setF h.hs n false
    rw [elk]
  | days m =>
    have e2 : ixN (stL t).length 2 = some 2 := rfl
    have e3 : (stL t).set 2 (D.int (t.clock + m)) = stL { t with clock := t.clock + m } := rfl
    unfold deedD
    walk_at "f"
    refine q.h _ { t with clock := t.clock + m } rfl ⟨lik.hs, ?_, lik.bills⟩ (stClock hS _)
    show _ = h.clock + m
    rw [← lik.clock]
end Mn

namespace Mn
open PySem L2
local macro_rules | `(tactic| walk_at "x") => `(tactic| try simp only [wSs, wS, wE, wEs, wC, x_add, x_sub, x_addS, x_addT, x_addL, x_mul, x_mulS, x_mulL, x_div, x_mod, x_pow, x_lt, x_le, x_gt, x_ge, x_eqD, x_neD, x_in, x_notIn, x_is, x_isNot, x_eqI, x_eqS, x_eqB, x_isNN, x_isBN, x_isIN, x_isSN, x_isTN, x_isLN, x_isRN, x_isBB, x_lenS, x_lenT, x_lenL, x_lenP, x_sumP, x_appP, x_appTP, x_idxP, x_frzP, x_abs, x_intI, x_intB, x_max, x_allL, x_sumL, x_listL, x_listT, x_isi, x_truB, x_truI, x_truL, x_truT, x_truN, x_idxS, x_idxL, x_idxT, x_slS, x_slT, x_slL, x_it0L, x_it0T, x_it0S, x_it0C, x_it1, x_it2L, x_val, x_upd, x_newF, x_newT, x_nm, x_tp, x_tps, x_tp0, x_ite, x_iteD, x_ifD, x_some, x_some2, x_map, x_eqInt, i_N_tuple, i_N_list, i_N_bool, i_N_int, i_N_str, i_N_tl, i_B_tuple, i_B_list, i_B_bool, i_B_int, i_B_str, i_B_tl, i_I_tuple, i_I_list, i_I_bool, i_I_int, i_I_str, i_I_tl, i_S_tuple, i_S_list, i_S_bool, i_S_int, i_S_str, i_S_tl, i_T_tuple, i_T_list, i_T_bool, i_T_int, i_T_str, i_T_tl, i_L_tuple, i_L_list, i_L_bool, i_L_int, i_L_str, i_L_tl, x_pure, x_new, x_fn, List.getElem?_cons_zero, List.getElem?_cons_succ, List.set_cons_zero, List.set_cons_succ, Option.bind_some, List.length_cons, List.length_nil, Nat.reduceAdd, true_and, and_true, decide_eq_true_eq, Bool.not_eq_true', decide_eq_false_iff_not, Bool.not_false, Bool.not_true, Bool.false_eq_true, Bool.true_eq_false, if_true, if_false, ite_true, ite_false])
local macro_rules | `(tactic| walk_at "h") => `(tactic| simp only [wSs, wS, wE, wEs, wC, x_add, x_sub, x_addS, x_addT, x_addL, x_mul, x_mulS, x_mulL, x_div, x_mod, x_pow, x_lt, x_le, x_gt, x_ge, x_eqD, x_neD, x_in, x_notIn, x_is, x_isNot, x_eqI, x_eqS, x_eqB, x_isNN, x_isBN, x_isIN, x_isSN, x_isTN, x_isLN, x_isRN, x_isBB, x_lenS, x_lenT, x_lenL, x_lenP, x_sumP, x_appP, x_appTP, x_idxP, x_frzP, x_abs, x_intI, x_intB, x_max, x_allL, x_sumL, x_listL, x_listT, x_isi, x_truB, x_truI, x_truL, x_truT, x_truN, x_idxS, x_idxL, x_idxT, x_slS, x_slT, x_slL, x_it0L, x_it0T, x_it0S, x_it0C, x_it1, x_it2L, x_val, x_upd, x_newF, x_newT, x_nm, x_tp, x_tps, x_tp0, x_ite, x_iteD, x_ifD, x_some, x_some2, x_map, x_eqInt, i_N_tuple, i_N_list, i_N_bool, i_N_int, i_N_str, i_N_tl, i_B_tuple, i_B_list, i_B_bool, i_B_int, i_B_str, i_B_tl, i_I_tuple, i_I_list, i_I_bool, i_I_int, i_I_str, i_I_tl, i_S_tuple, i_S_list, i_S_bool, i_S_int, i_S_str, i_S_tl, i_T_tuple, i_T_list, i_T_bool, i_T_int, i_T_str, i_T_tl, i_L_tuple, i_L_list, i_L_bool, i_L_int, i_L_str, i_L_tl, x_pure, x_new, x_fn, List.getElem?_cons_zero, List.getElem?_cons_succ, List.set_cons_zero, List.set_cons_succ, Option.bind_some, List.length_cons, List.length_nil, Nat.reduceAdd, true_and, and_true, decide_eq_true_eq, Bool.not_eq_true', decide_eq_false_iff_not, Bool.not_false, Bool.not_true, Bool.false_eq_true, Bool.true_eq_false, if_true, if_false, ite_true, ite_false, r_len, r_idx, r_in, r_get, r_getT, r_setd, r_setdT, r_app, r_appT, r_six, r_it, r_it2, r_sorted, r_list, r_dict, r_sl, r_tru, r_newD, r_att, r_self, r_sat, r_ins, r_ins2, fl_held, fl_chest, fl_down, fl_clock, fl_bills, fl_done, fl_drawer, fl_drawee, fl_payee, fl_amount, fl_due, fl_slip, fl_keeper, fl_stage, fl_edition, fl_blank, lu_held, lu_chest, lu_down, lu_clock, lu_bills, lu_done, lu_drawer, lu_drawee, lu_payee, lu_amount, lu_due, lu_slip, lu_keeper, lu_stage, lu_edition, lu_blank, pf_stage, pf_keeper, pf_edition, pf_blank, pf_slip, pf_clock, len_pursesF, len_hallF, len_billF, keyOf, Option.map_some, Option.map_none, Option.bind_none, Option.getD_some, Option.getD_none, Option.isSome_some, Option.isSome_none, r_some2, r_aga, r_int, r_ags, r_dct, ex_BadName, ex_Taken, ex_BadCoins, ex_Full, ex_NoHouse, ex_NoCoins, ex_Failed, ex_Standing, ex_BadCount, ex_BadDay, ex_NoBill, ex_Void, ex_Closed, ex_Accepted, ex_Same, ex_NotBlank, ex_NotYet, ex_NotPresented, ex_Protested, ex_TooLate, ex_NotBound, ex_CantPay, ex_NotProtested, ex_IsBound, ex_Twice, gv_pk, gp_pk, len_pk, nH_need, nH_must_stand, nH_find, nH_find_copy, nH_house, nH_look_at_coins, nH_put_in, nH_take_out, nH_fail, nH_mend, nH_pass_days, nH_draw, nH_accept, nH_signed, nH_sign, nH_sign_blank, nH_hand, nH_lose, nH_can_pay, nH_present, nH_protest, nH_ask, nH_may_honour, nH_honour, nH_fair, nH_names, nH_coins, nH_stands, nH_today, nH_many_bills, nH_paper, nH_state, nH_holder, nH_copy_of, nH_in_blank, nH_row, nH_story, nH_moment, nH_twin, nB_set_out, nB_doubled, nB_must_run, nB_must_be_back, nB_taken_on, nB_take_on, nB_sign_on, nB_hand_on, nB_next_copy, nB_must_be_due, nB_protest_on, nB_open_now, nB_go_back, nB_to_itself, nP_need, nP_look_at, nP_add_purse, nP_coins, nP_fill, nP_spend, nP_pay, nP_total, nP_all_names, nP_doubled, put_same, gv_held, gv_down, len_held, len_down, w_house_draw, w_house_in, w_house_out, w_house_fail, w_house_mend, w_house_days, w_house_fair, w_in_draw, w_in_house, w_in_out, w_in_fail, w_in_mend, w_in_days, w_in_fair, w_out_draw, w_out_house, w_out_in, w_out_fail, w_out_mend, w_out_days, w_out_fair, w_fail_draw, w_fail_house, w_fail_in, w_fail_out, w_fail_mend, w_fail_days, w_fail_fair, w_mend_draw, w_mend_house, w_mend_in, w_mend_out, w_mend_fail, w_mend_days, w_mend_fair, w_days_draw, w_days_house, w_days_in, w_days_out, w_days_fail, w_days_mend, w_days_fair, in_house_S7, in_house_S4, in_house_S2, in_house_S3, in_in_S7, in_in_S4, in_in_S2, in_in_S3, in_out_S7, in_out_S4, in_out_S2, in_out_S3, in_fail_S7, in_fail_S4, in_fail_S2, in_fail_S3, in_mend_S7, in_mend_S4, in_mend_S2, in_mend_S3, in_days_S7, in_days_S4, in_days_S2, in_days_S3, at0, at1, at2, at3, at4, at5, at6, at7, at8, at9, eq_self, *])
local macro_rules | `(tactic| walk_at "f") => `(tactic| simp only [↓p_var, ↓p_cst, ↓p_glo, ↓p_bin, ↓p_neg, ↓p_not, ↓p_cmp, ↓p_cmp2, ↓p_and, ↓p_or, ↓p_ifx, ↓p_idx, ↓p_slL, ↓p_slU, ↓p_slLU, ↓p_tup, ↓p_lstF, ↓p_lstT, ↓p_blt, ↓p_bm, ↓p_call, ↓p_lc, ↓p_att, ↓p_mth, ↓p_mk, ↓p_dct, ↓p_nil, ↓p_cons, ↓p_newT, ↓p_newD, ↓p_pure, ↓q_nil, ↓q_cons, ↓q_asg, ↓q_six, ↓q_aug, ↓q_exp, ↓q_ret, ↓q_ite, ↓q_for, ↓q_pas, ↓q_cont, ↓q_frS, ↓q_sat, ↓q_rai, ↓q_tri, ↓x_val, ↓x_upd, ↓x_newF, ↓bO_some, ↓brk_t, ↓brk_f, ↓bF_some, bO_some, bO_none, bO_ite, bO_iteO, bO_map, bF_some, brk_t, brk_f, p_attR, p_selR, p_satR, intO_int, tO_t, p_bool, put_put, id, Option.bind_some, ↓reduceIte, r_addRL, r_addLR, List.cons_append, List.nil_append, sl0, sm0, sl1, sm1, sl2, sm2, sl3, sm3, sl4, sm4, sl5, sm5, sl6, sm6, sl7, sm7, sl8, sm8, sl9, sm9, sl10, sm10, sl11, sm11, sl12, sm12, decide_true, decide_false, x_add, x_sub, x_addS, x_addT, x_addL, x_mul, x_mulS, x_mulL, x_div, x_mod, x_pow, x_lt, x_le, x_gt, x_ge, x_eqD, x_neD, x_in, x_notIn, x_is, x_isNot, x_eqI, x_eqS, x_eqB, x_isNN, x_isBN, x_isIN, x_isSN, x_isTN, x_isLN, x_isRN, x_isBB, x_lenS, x_lenT, x_lenL, x_lenP, x_sumP, x_appP, x_appTP, x_idxP, x_frzP, x_abs, x_intI, x_intB, x_max, x_allL, x_sumL, x_listL, x_listT, x_isi, x_truB, x_truI, x_truL, x_truT, x_truN, x_idxS, x_idxL, x_idxT, x_slS, x_slT, x_slL, x_it0L, x_it0T, x_it0S, x_it0C, x_it1, x_it2L, x_nm, x_tp, x_tps, x_tp0, i_N_tuple, i_N_list, i_N_bool, i_N_int, i_N_str, i_N_tl, i_B_tuple, i_B_list, i_B_bool, i_B_int, i_B_str, i_B_tl, i_I_tuple, i_I_list, i_I_bool, i_I_int, i_I_str, i_I_tl, i_S_tuple, i_S_list, i_S_bool, i_S_int, i_S_str, i_S_tl, i_T_tuple, i_T_list, i_T_bool, i_T_int, i_T_str, i_T_tl, i_L_tuple, i_L_list, i_L_bool, i_L_int, i_L_str, i_L_tl, List.getElem?_cons_zero, List.getElem?_cons_succ, List.set_cons_zero, List.set_cons_succ, Option.bind_some, List.length_cons, List.length_nil, Nat.reduceAdd, true_and, and_true, decide_eq_true_eq, Bool.not_eq_true', decide_eq_false_iff_not, Bool.not_false, Bool.not_true, Bool.false_eq_true, Bool.true_eq_false, if_true, if_false, ite_true, ite_false, r_len, r_idx, r_in, r_get, r_getT, r_setd, r_setdT, r_app, r_appT, r_six, r_it, r_it2, r_sorted, r_list, r_dict, r_sl, r_tru, fl_held, fl_chest, fl_down, fl_clock, fl_bills, fl_done, fl_drawer, fl_drawee, fl_payee, fl_amount, fl_due, fl_slip, fl_keeper, fl_stage, fl_edition, fl_blank, lu_held, lu_chest, lu_down, lu_clock, lu_bills, lu_done, lu_drawer, lu_drawee, lu_payee, lu_amount, lu_due, lu_slip, lu_keeper, lu_stage, lu_edition, lu_blank, pf_stage, pf_keeper, pf_edition, pf_blank, pf_slip, pf_clock, len_pursesF, len_hallF, len_billF, keyOf, Option.map_some, Option.map_none, Option.bind_none, Option.getD_some, Option.getD_none, Option.isSome_some, Option.isSome_none, ex_BadName, ex_Taken, ex_BadCoins, ex_Full, ex_NoHouse, ex_NoCoins, ex_Failed, ex_Standing, ex_BadCount, ex_BadDay, ex_NoBill, ex_Void, ex_Closed, ex_Accepted, ex_Same, ex_NotBlank, ex_NotYet, ex_NotPresented, ex_Protested, ex_TooLate, ex_NotBound, ex_CantPay, ex_NotProtested, ex_IsBound, ex_Twice, gv_pk, gp_pk, len_pk, nH_need, nH_must_stand, nH_find, nH_find_copy, nH_house, nH_look_at_coins, nH_put_in, nH_take_out, nH_fail, nH_mend, nH_pass_days, nH_draw, nH_accept, nH_signed, nH_sign, nH_sign_blank, nH_hand, nH_lose, nH_can_pay, nH_present, nH_protest, nH_ask, nH_may_honour, nH_honour, nH_fair, nH_names, nH_coins, nH_stands, nH_today, nH_many_bills, nH_paper, nH_state, nH_holder, nH_copy_of, nH_in_blank, nH_row, nH_story, nH_moment, nH_twin, nB_set_out, nB_doubled, nB_must_run, nB_must_be_back, nB_taken_on, nB_take_on, nB_sign_on, nB_hand_on, nB_next_copy, nB_must_be_due, nB_protest_on, nB_open_now, nB_go_back, nB_to_itself, nP_need, nP_look_at, nP_add_purse, nP_coins, nP_fill, nP_spend, nP_pay, nP_total, nP_all_names, nP_doubled, put_same, gv_held, gv_down, len_held, len_down, w_house_draw, w_house_in, w_house_out, w_house_fail, w_house_mend, w_house_days, w_house_fair, w_in_draw, w_in_house, w_in_out, w_in_fail, w_in_mend, w_in_days, w_in_fair, w_out_draw, w_out_house, w_out_in, w_out_fail, w_out_mend, w_out_days, w_out_fair, w_fail_draw, w_fail_house, w_fail_in, w_fail_out, w_fail_mend, w_fail_days, w_fail_fair, w_mend_draw, w_mend_house, w_mend_in, w_mend_out, w_mend_fail, w_mend_days, w_mend_fair, w_days_draw, w_days_house, w_days_in, w_days_out, w_days_fail, w_days_mend, w_days_fair, in_house_S7, in_house_S4, in_house_S2, in_house_S3, in_in_S7, in_in_S4, in_in_S2, in_in_S3, in_out_S7, in_out_S4, in_out_S2, in_out_S3, in_fail_S7, in_fail_S4, in_fail_S2, in_fail_S3, in_mend_S7, in_mend_S4, in_mend_S2, in_mend_S3, in_days_S7, in_days_S4, in_days_S2, in_days_S3, at0, at1, at2, at3, at4, at5, at6, at7, at8, at9, eq_self, *])
def n__law_tried : List Str := ["_law_hall", "_law_deed", "_law_kinds", "_law_answer", "e", "_law_words", "_law_found", "_law_word_here", "_law_good"]
def b__law_tried_1 : List MS := [(.asg (.nm 3) (.call "do_deed" [(.var 0), (.var 1)]))]
def c__law_tried_2 : List ME := [(.var 8)]
def e__law_tried_3 : ME := (.var 7)
def m__law_tried : List MS := [(.asg (.nm 2) (.lst false [])), (.asg (.nm 3) (.cst .non)), (.tri b__law_tried_1 "HallError" (some 4) [(.asg 2 (.lst [(.isE "Accepted"), (.isE "BadCoins"), (.isE "BadCount"), (.isE "BadDay")])), (.asg 2 (.add (.var 2) (.lst [(.isE "BadName"), (.isE "CantPay"), (.isE "Closed"), (.isE "Failed")]))), (.asg 2 (.add (.var 2) (.lst [(.isE "Full"), (.isE "IsBound"), (.isE "NoBill"), (.isE "NoCoins")]))), (.asg 2 (.add (.var 2) (.lst [(.isE "NoHouse"), (.isE "NotBlank"), (.isE "NotBound")]))), (.asg 2 (.add (.var 2) (.lst [(.isE "NotPresented"), (.isE "NotProtested"), (.isE "NotYet")]))), (.asg 2 (.add (.var 2) (.lst [(.isE "Protested")]))), (.asg 2 (.add (.var 2) (.lst [(.isE "Same"), (.isE "Standing"), (.isE "Taken"), (.isE "TooLate")]))), (.asg 2 (.add (.var 2) (.lst [(.isE "Twice"), (.isE "Void")])))]), (.asg (.nm 5) (.cst (.str "Accepted BadCoins BadCount BadDay BadName CantPay Closed Failed Full IsBound NoBill NoCoins NoHouse "))), (.asg (.nm 5) (.bin .Add false (.var 5) (.cst (.str "NotBlank NotBound NotPresented NotProtested NotYet Protested ")))), (.asg (.nm 5) (.bin .Add false (.var 5) (.cst (.str "Same Standing Taken TooLate Twice Void")))), (.asg (.nm 6) (.lc 3 false (.tp [(.nm 7), (.nm 8)]) [(.bm .split false (.var 5) [(.cst (.str " "))]), (.bin .Add false (.var 2) (.bin .Mult false (.lst false [(.cst (.bl false))]) (.cst (.int 25))))] c__law_tried_2 e__law_tried_3)), (.ite (.and (.cmp .NotEq (.var 2) (.lst false [])) (.cmp .NotEq (.blt .len false [(.var 6)]) (.cst (.int 1)))) [(.ret (.tup [(.cst (.str "several")), (.cst .non)]))] []), (.ret (.tup [(.bm .join false (.cst (.str " ")) [(.var 6)]), (.var 3)]))]
/-! ### a deed tried -/
def spTried : DSp := fun ds S Q X => ∃ g F d, ds = [.ref g.a, deedD d] ∧ Hd S (hallC g ++ F) ∧ OkH g.er ∧ okDeed d ∧
  (wordH g.er d = "" → ∀ S' g', g'.a = g.a → g'.er = doneH g.er d → Hd S' (hallC g' ++ F) → Q (.tup [.str "", ansH g.er d]) S') ∧ (wordH g.er d ≠ "" → Q (.tup [.str (wordH g.er d), .non]) S)
theorem sl13 : (13 ≤ sizeLine) = True := eq_true (by decide)
theorem sl14 : (14 ≤ sizeLine) = True := eq_true (by decide)
theorem sl15 : (15 ≤ sizeLine) = True := eq_true (by decide)
theorem sl16 : (16 ≤ sizeLine) = True := eq_true (by decide)
theorem sl17 : (17 ≤ sizeLine) = True := eq_true (by decide)
theorem sl18 : (18 ≤ sizeLine) = True := eq_true (by decide)
theorem sl19 : (19 ≤ sizeLine) = True := eq_true (by decide)
theorem sl20 : (20 ≤ sizeLine) = True := eq_true (by decide)
theorem sl21 : (21 ≤ sizeLine) = True := eq_true (by decide)
theorem sl22 : (22 ≤ sizeLine) = True := eq_true (by decide)
theorem sl23 : (23 ≤ sizeLine) = True := eq_true (by decide)
theorem sl24 : (24 ≤ sizeLine) = True := eq_true (by decide)
theorem sl25 : (25 ≤ sizeLine) = True := eq_true (by decide)
theorem sl26 : (26 ≤ sizeLine) = True := eq_true (by decide)
theorem sl27 : (27 ≤ sizeLine) = True := eq_true (by decide)
theorem sl28 : (28 ≤ sizeLine) = True := eq_true (by decide)
theorem sl29 : (29 ≤ sizeLine) = True := eq_true (by decide)
theorem sl30 : (30 ≤ sizeLine) = True := eq_true (by decide)
theorem sl31 : (31 ≤ sizeLine) = True := eq_true (by decide)
theorem sl32 : (32 ≤ sizeLine) = True := eq_true (by decide)
theorem sl33 : (33 ≤ sizeLine) = True := eq_true (by decide)
theorem sl34 : (34 ≤ sizeLine) = True := eq_true (by decide)
theorem sl35 : (35 ≤ sizeLine) = True := eq_true (by decide)
theorem sl36 : (36 ≤ sizeLine) = True := eq_true (by decide)
theorem sl37 : (37 ≤ sizeLine) = True := eq_true (by decide)
theorem sl38 : (38 ≤ sizeLine) = True := eq_true (by decide)
theorem sl39 : (39 ≤ sizeLine) = True := eq_true (by decide)
theorem sl40 : (40 ≤ sizeLine) = True := eq_true (by decide)
theorem sl41 : (41 ≤ sizeLine) = True := eq_true (by decide)
theorem sl42 : (42 ≤ sizeLine) = True := eq_true (by decide)
theorem sl43 : (43 ≤ sizeLine) = True := eq_true (by decide)
theorem sl44 : (44 ≤ sizeLine) = True := eq_true (by decide)
theorem sl45 : (45 ≤ sizeLine) = True := eq_true (by decide)
theorem sl46 : (46 ≤ sizeLine) = True := eq_true (by decide)
theorem sl47 : (47 ≤ sizeLine) = True := eq_true (by decide)
theorem sl48 : (48 ≤ sizeLine) = True := eq_true (by decide)
theorem sl49 : (49 ≤ sizeLine) = True := eq_true (by decide)
theorem sl50 : (50 ≤ sizeLine) = True := eq_true (by decide)
theorem sl51 : (51 ≤ sizeLine) = True := eq_true (by decide)
theorem sl52 : (52 ≤ sizeLine) = True := eq_true (by decide)
theorem sl53 : (53 ≤ sizeLine) = True := eq_true (by decide)
theorem sl54 : (54 ≤ sizeLine) = True := eq_true (by decide)
theorem sl55 : (55 ≤ sizeLine) = True := eq_true (by decide)
theorem sl56 : (56 ≤ sizeLine) = True := eq_true (by decide)
theorem sl57 : (57 ≤ sizeLine) = True := eq_true (by decide)
theorem sl58 : (58 ≤ sizeLine) = True := eq_true (by decide)
theorem sl59 : (59 ≤ sizeLine) = True := eq_true (by decide)

def w1S : Str := "Accepted BadCoins BadCount BadDay BadName CantPay Closed Failed Full IsBound NoBill NoCoins NoHouse NotBlank NotBound NotPresented NotProtested NotYet Protested "
def wordsS : Str := "Accepted BadCoins BadCount BadDay BadName CantPay Closed Failed Full IsBound NoBill NoCoins NoHouse NotBlank NotBound NotPresented NotProtested NotYet Protested Same Standing Taken TooLate Twice Void"
theorem splitW : (Txt.split wordsS " ") = words25 := by decide +kernel
theorem w25_ex : ∀ w ∈ words25, w ∈ ex25 := by decide +kernel
theorem sub_hall {ys : List Str} {yb : Bool} (w : Str) (h : w ∈ words25) : subP (xc ys yb) w "HallError" = some true := by
  have z : ∀ w ∈ words25, subB w exTop = true := by decide +kernel
  exact (sub_top (w25_ex w h)).trans (congrArg some (z w h))
theorem sub_each {ys : List Str} {yb : Bool} (w : Str) (h : w ∈ words25) (c : Str) (h' : c ∈ words25) : subP (xc ys yb) w c = some (decide (w = c)) := by
  have z : ∀ w ∈ words25, ∀ c ∈ words25, subB w c = decide (w = c) := by decide +kernel
  exact (sub_25 (w25_ex w h) (w25_ex c h')).trans (congrArg some (z w h c h'))
def kindsB (w : Str) : List Bool := words25.map fun c => decide (w = c)
def kindsD (w : Str) : List D := [.bl (decide (w = "Accepted")), .bl (decide (w = "BadCoins")), .bl (decide (w = "BadCount")), .bl (decide (w = "BadDay")), .bl (decide (w = "BadName")), .bl (decide (w = "CantPay")), .bl (decide (w = "Closed")), .bl (decide (w = "Failed")), .bl (decide (w = "Full")), .bl (decide (w = "IsBound")), .bl (decide (w = "NoBill")), .bl (decide (w = "NoCoins")), .bl (decide (w = "NoHouse")), .bl (decide (w = "NotBlank")), .bl (decide (w = "NotBound")), .bl (decide (w = "NotPresented")), .bl (decide (w = "NotProtested")), .bl (decide (w = "NotYet")), .bl (decide (w = "Protested")), .bl (decide (w = "Same")), .bl (decide (w = "Standing")), .bl (decide (w = "Taken")), .bl (decide (w = "TooLate")), .bl (decide (w = "Twice")), .bl (decide (w = "Void"))]
theorem kinds_eq (w : Str) : kindsD w = (kindsB w).map .bl := rfl
def pickS : List Str → List Bool → List Str
  | w :: ws, b :: bs => if b = true then w :: pickS ws bs else pickS ws bs
  | _, _ => []
def pickF : D → Option D
  | .tup [.str w, .bl true] => some (.str w)
  | _ => none
theorem pick_eq : ∀ (ws : List Str) (bs : List Bool), (zipL (ws.map .str) (bs.map .bl)).filterMap pickF = (pickS ws bs).map .str
  | [], bs => by cases bs <;> rfl
  | w :: ws, [] => rfl
  | w :: ws, b :: bs => by
    show (D.tup [.str w, .bl b] :: zipL (ws.map .str) (bs.map .bl)).filterMap pickF = _
    rw [List.filterMap_cons]
    have ih := pick_eq ws bs
    cases b with
    | true => show D.str w :: _ = _; rw [ih]; rfl
    | false => show (zipL (ws.map .str) (bs.map .bl)).filterMap pickF = _; rw [ih]; rfl
theorem zip_mem : ∀ {ws : List Str} {bs : List Bool} {z : D}, z ∈ zipL (ws.map .str) (bs.map .bl) → ∃ w b, z = .tup [.str w, .bl b]
  | [], bs, z, h => by cases bs <;> exact nomatch h
  | w :: ws, [], z, h => nomatch h
  | w :: ws, b :: bs, z, h => by
    rcases List.mem_cons.mp (show z ∈ D.tup [.str w, .bl b] :: zipL (ws.map .str) (bs.map .bl) from h) with rfl | h
    · exact ⟨w, b, rfl⟩
    · exact zip_mem h
theorem zip_len : ∀ (a b : List D), (zipL a b).length ≤ a.length
  | [], b => by cases b <;> exact Nat.le_refl _
  | x :: a, [] => Nat.zero_le _
  | x :: a, y :: b => Nat.succ_le_succ (zip_len a b)
theorem pick_w : ∀ w ∈ words25, pickS words25 (kindsB w ++ List.replicate 25 false) = [w] := by decide +kernel
theorem pick_0 : pickS words25 (List.replicate 25 false) = [] := by decide +kernel
section
variable {S : Sto}
theorem ta1 : binR .Add (.str "Accepted BadCoins BadCount BadDay BadName CantPay Closed Failed Full IsBound NoBill NoCoins NoHouse ") (.str "NotBlank NotBound NotPresented NotProtested NotYet Protested ") S = some (.val (.str w1S)) := by kernel_rfl
theorem ta2 : binR .Add (.str w1S) (.str "Same Standing Taken TooLate Twice Void") S = some (.val (.str wordsS)) := by kernel_rfl
theorem ta3 : bmT .split (.str wordsS) S = true := rfl
theorem ta4 : bmR .split (.str wordsS) [.str " "] S = some (.newL (words25.map .str)) := by
  show g? (((Str.ofString " ").length == 0) = false ∧ wordsS.length + 2 ≤ sizeLine ∧ (Txt.split wordsS " ").all PySem.PyData.strOk = true) (R.newL ((Txt.split wordsS " ").map .str)) = _
  rw [splitW, g?_pos (by decide +kernel)]
theorem ta5 : binR .Mult (.lst [.bl false]) (.int 25) S = some (.newL ((List.replicate 25 false).map .bl)) := by kernel_rfl
theorem ta6 {ds es : List D} : itS 3 [.lst ds, .lst es] S = some (zipL ds es, fun _ => True ∧ True) := rfl
theorem ta7 : eqR (.lst []) (.lst []) S = some true := by kernel_rfl
theorem ta8 {w : Str} (h : w ∈ words25) : eqR (.lst (kindsD w)) (.lst []) S = some false := by
  have : ∀ w ∈ words25, g? (pureD (.lst (kindsD w)) = true ∧ pureD (.lst []) = true ∧ min (dep (.lst (kindsD w))) (dep (.lst [])) ≤ 60) (deq (.lst (kindsD w)) (.lst [])) = some false := by decide +kernel
  exact this w h
theorem ta9 : bmT .join (.str " ") S = true := rfl
theorem ta10 {w : Str} (h : w ∈ words25) : bmR .join (.str " ") [.lst [.str w]] S = some (.val (.str w)) := by
  have h1 : ∀ w ∈ words25, Txt.join " " [w] = w ∧ (([w].map (·.length)).sum + [w].length * (Str.ofString " ").length ≤ 16777216 ∧ PySem.PyData.strOk (Txt.join " " [w]) = true) := by decide +kernel
  show g? (([w].map (·.length)).sum + [w].length * (Str.ofString " ").length ≤ 16777216 ∧ PySem.PyData.strOk (Txt.join " " [w]) = true) (R.val (.str (Txt.join " " [w]))) = _
  rw [g?_pos (h1 w h).2, (h1 w h).1]
theorem ta11 : bmR .join (.str " ") [.lst []] S = some (.val (.str "")) := by kernel_rfl
end
def suiteT : List QS := [(.asg 2 (.lst [(.isE "Accepted"), (.isE "BadCoins"), (.isE "BadCount"), (.isE "BadDay")])), (.asg 2 (.add (.var 2) (.lst [(.isE "BadName"), (.isE "CantPay"), (.isE "Closed"), (.isE "Failed")]))), (.asg 2 (.add (.var 2) (.lst [(.isE "Full"), (.isE "IsBound"), (.isE "NoBill"), (.isE "NoCoins")]))), (.asg 2 (.add (.var 2) (.lst [(.isE "NoHouse"), (.isE "NotBlank"), (.isE "NotBound")]))), (.asg 2 (.add (.var 2) (.lst [(.isE "NotPresented"), (.isE "NotProtested"), (.isE "NotYet")]))), (.asg 2 (.add (.var 2) (.lst [(.isE "Protested")]))), (.asg 2 (.add (.var 2) (.lst [(.isE "Same"), (.isE "Standing"), (.isE "Taken"), (.isE "TooLate")]))), (.asg 2 (.add (.var 2) (.lst [(.isE "Twice"), (.isE "Void")])))]
def tailT : List MS := m__law_tried.drop 3
theorem suite_ev {G : Gc} {e : Exc} {w : Str} {u v a b : Option D} {ys : List Str} {yb : Bool} (hs : G.sub = subP (xc ys yb)) (hw : w ∈ words25) (he : e.cls = w) : exQs G e suiteT [u, v, a, b, none, none, none, none, none] = some ([u, v, some (.lst (kindsD w)), b, none, none, none, none, none], none) := by
  have s0 := sub_each (ys := ys) (yb := yb) w hw "Accepted" (by decide +kernel)
  have s1 := sub_each (ys := ys) (yb := yb) w hw "BadCoins" (by decide +kernel)
  have s2 := sub_each (ys := ys) (yb := yb) w hw "BadCount" (by decide +kernel)
  have s3 := sub_each (ys := ys) (yb := yb) w hw "BadDay" (by decide +kernel)
  have s4 := sub_each (ys := ys) (yb := yb) w hw "BadName" (by decide +kernel)
  have s5 := sub_each (ys := ys) (yb := yb) w hw "CantPay" (by decide +kernel)
  have s6 := sub_each (ys := ys) (yb := yb) w hw "Closed" (by decide +kernel)
  have s7 := sub_each (ys := ys) (yb := yb) w hw "Failed" (by decide +kernel)
  have s8 := sub_each (ys := ys) (yb := yb) w hw "Full" (by decide +kernel)
  have s9 := sub_each (ys := ys) (yb := yb) w hw "IsBound" (by decide +kernel)
  have s10 := sub_each (ys := ys) (yb := yb) w hw "NoBill" (by decide +kernel)
  have s11 := sub_each (ys := ys) (yb := yb) w hw "NoCoins" (by decide +kernel)
  have s12 := sub_each (ys := ys) (yb := yb) w hw "NoHouse" (by decide +kernel)
  have s13 := sub_each (ys := ys) (yb := yb) w hw "NotBlank" (by decide +kernel)
  have s14 := sub_each (ys := ys) (yb := yb) w hw "NotBound" (by decide +kernel)
  have s15 := sub_each (ys := ys) (yb := yb) w hw "NotPresented" (by decide +kernel)
  have s16 := sub_each (ys := ys) (yb := yb) w hw "NotProtested" (by decide +kernel)
  have s17 := sub_each (ys := ys) (yb := yb) w hw "NotYet" (by decide +kernel)
  have s18 := sub_each (ys := ys) (yb := yb) w hw "Protested" (by decide +kernel)
  have s19 := sub_each (ys := ys) (yb := yb) w hw "Same" (by decide +kernel)
  have s20 := sub_each (ys := ys) (yb := yb) w hw "Standing" (by decide +kernel)
  have s21 := sub_each (ys := ys) (yb := yb) w hw "Taken" (by decide +kernel)
  have s22 := sub_each (ys := ys) (yb := yb) w hw "TooLate" (by decide +kernel)
  have s23 := sub_each (ys := ys) (yb := yb) w hw "Twice" (by decide +kernel)
  have s24 := sub_each (ys := ys) (yb := yb) w hw "Void" (by decide +kernel)
  show exQs G e [(.asg 2 (.lst [(.isE "Accepted"), (.isE "BadCoins"), (.isE "BadCount"), (.isE "BadDay")])), (.asg 2 (.add (.var 2) (.lst [(.isE "BadName"), (.isE "CantPay"), (.isE "Closed"), (.isE "Failed")]))), (.asg 2 (.add (.var 2) (.lst [(.isE "Full"), (.isE "IsBound"), (.isE "NoBill"), (.isE "NoCoins")]))), (.asg 2 (.add (.var 2) (.lst [(.isE "NoHouse"), (.isE "NotBlank"), (.isE "NotBound")]))), (.asg 2 (.add (.var 2) (.lst [(.isE "NotPresented"), (.isE "NotProtested"), (.isE "NotYet")]))), (.asg 2 (.add (.var 2) (.lst [(.isE "Protested")]))), (.asg 2 (.add (.var 2) (.lst [(.isE "Same"), (.isE "Standing"), (.isE "Taken"), (.isE "TooLate")]))), (.asg 2 (.add (.var 2) (.lst [(.isE "Twice"), (.isE "Void")])))] _ = _
  simp only [exQs, exQ, evQ, evQs, hs, he, s0, s1, s2, s3, s4, s5, s6, s7, s8, s9, s10, s11, s12, s13, s14, s15, s16, s17, s18, s19, s20, s21, s22, s23, s24, Option.map_some, g?, List.length_cons, List.length_nil, Nat.reduceAdd, sl0, sl1, sl2, sl3, sl4, sl5, sl6, sl7, sl8, sl9, sl10, sl11, sl12, sl13, sl14, sl15, sl16, sl17, sl18, sl19, sl20, sl21, sl22, sl23, sl24, sl25, sl26, sl27, sl28, sl29, sl30, sl31, sl32, sl33, sl34, sl35, sl36, sl37, sl38, sl39, sl40, sl41, sl42, sl43, sl44, sl45, sl46, sl47, sl48, sl49, sl50, sl51, sl52, sl53, sl54, sl55, sl56, sl57, sl58, sl59, if_true, List.set_cons_zero, List.set_cons_succ, List.getElem?_cons_zero, List.getElem?_cons_succ, Option.bind_some, id, List.cons_append, List.nil_append]
  rfl
theorem q_wC {G : Gc} {c : ME} {σ : Env} {S : Sto} {k : Bool → Sto → Prop} : wC G [c] σ S k = wE G (fun _ _ _ => False) c σ S fun u S1 => @bOp _ (tru S1 u) ⟨fun b => k b S1⟩ := by rw [wC]; rfl
theorem tail_ev {G : Gc} {x : XW} {u v : Option D} {an : D} {S : Sto} {k : KS} {bs : List Bool} {r : List Str} {w : Str} (hl : bs.length ≤ 25) (hp : pickS words25 (bs ++ List.replicate 25 false) = r) (hj : ∀ S, bmR .join (.str " ") [.lst (r.map .str)] S = some (.val (.str w))) (he : ∀ S, eqR (.lst (bs.map .bl)) (.lst []) S = some bs.isEmpty) (hr : bs ≠ [] → r.length = 1) (q : k.rt (.tup [.str w, an]) S) : wSs G x tailT [u, v, some (.lst (bs.map .bl)), some an, none, none, none, none, none] S k := by
  have q := Hold.mk q
  have t1 := @ta1
  have t2 := @ta2
  have t3 := @ta3
  have t4 := @ta4
  have t5 := @ta5
  have t6 := @ta6
  have t9 := @ta9
  have hl2 : bs.length + 25 ≤ sizeLine := Nat.le_trans (Nat.add_le_add_right hl 25) (by decide)
  show wSs G x [(.asg (.nm 5) (.cst (.str "Accepted BadCoins BadCount BadDay BadName CantPay Closed Failed Full IsBound NoBill NoCoins NoHouse "))), (.asg (.nm 5) (.bin .Add false (.var 5) (.cst (.str "NotBlank NotBound NotPresented NotProtested NotYet Protested ")))), (.asg (.nm 5) (.bin .Add false (.var 5) (.cst (.str "Same Standing Taken TooLate Twice Void")))), (.asg (.nm 6) (.lc 3 false (.tp [(.nm 7), (.nm 8)]) [(.bm .split false (.var 5) [(.cst (.str " "))]), (.bin .Add false (.var 2) (.bin .Mult false (.lst false [(.cst (.bl false))]) (.cst (.int 25))))] c__law_tried_2 e__law_tried_3)), (.ite (.and (.cmp .NotEq (.var 2) (.lst false [])) (.cmp .NotEq (.blt .len false [(.var 6)]) (.cst (.int 1)))) [(.ret (.tup [(.cst (.str "several")), (.cst .non)]))] []), (.ret (.tup [(.bm .join false (.cst (.str " ")) [(.var 6)]), (.var 3)]))] _ S k
  walk_at "f"
  refine ⟨by rw [List.length_map, List.length_map, List.length_replicate]; exact hl2, lc_i ?_⟩
  rw [← List.map_append]
  refine lc_any pickF (Nat.le_trans (zip_len _ _) (by rw [List.length_map]; decide)) trivial ?_ ?_
  · intro z hz q' hq
    obtain ⟨w', b', rfl⟩ := zip_mem hz
    refine ⟨[u, v, some (.lst (bs.map .bl)), some an, none, some (.str wordsS), none, some (.str w'), some (.bl b')], rfl, ?_⟩
    unfold c__law_tried_2 e__law_tried_3
    rw [q_wC]
    cases b' with
    | true => walk_at "f"; exact hq
    | false => walk_at "f"; exact hq
  · rw [pick_eq, hp]
    walk_at "f"
    refine brk_i (fun z => ?_) (fun z => ?_)
    · have z : r.length = 1 := hr (fun e => by rw [e] at z; cases z)
      have z2 : (D.lst (r.map .str)) = D.lst (r.map .str) := rfl
      have z3 : ((r.map D.str).length : Int) = 1 := by rw [List.length_map, z]; rfl
      walk_at "f"
    · walk_at "f"
theorem ok_Tried {G : Gc} {ys : List Str} {yb : Bool} (hs : G.sub = subP (xc ys yb)) (f1 : G.fn "do_deed" = some (2, spDeed)) : BodyOk G n__law_tried 2 m__law_tried spTried := by
  rintro ds S Q X - ⟨g, F, d, rfl, hS, ok, od, q1, q2⟩
  have q1 := Hold.mk q1
  have q2 := Hold.mk q2
  show wSs G _ (.asg (.nm 2) (.lst false []) :: .asg (.nm 3) (.cst .non) :: .tri b__law_tried_1 "HallError" (some 4) suiteT :: tailT) [some (.ref g.a), some (deedD d), none, none, none, none, none, none, none] S _
  walk_at "f"
  refine ⟨sub_tt.trans (congrArg some (by decide +kernel)), ?_⟩
  unfold b__law_tried_1
  walk_at "f"
  refine cw_i ⟨g, F, d, rfl, hS, ok, od, fun w0 S' g' e1 e2 hS' => ?_, fun w1 e ⟨ec, _⟩ => ?_⟩
  · walk_at "f"
    exact tail_ev (bs := []) (r := []) (w := "") (by decide) pick_0 (fun _ => ta11) (fun _ => ta7) (fun z => (z rfl).elim) (q1.h w0 S' g' e1 e2 hS')
  · have hw := word_in w1
    refine ⟨(by decide : 4 < 9), true, ?_, ?_⟩
    · rw [hs, ec]; exact sub_hall _ hw
    · rw [if_pos rfl]
      refine ⟨_, suite_ev hs hw ec, ?_⟩
      exact tail_ev (bs := kindsB (wordH g.er d)) (r := [wordH g.er d]) (w := wordH g.er d) (by unfold kindsB; rw [List.length_map]; decide) (pick_w _ hw) (fun _ => ta10 hw) (fun _ => ta8 hw) (fun _ => rfl) (q2.h w1)
end Mn

namespace Mn
open PySem L2
local macro_rules | `(tactic| walk_at "x") => `(tactic| try simp only [wSs, wS, wE, wEs, wC, x_add, x_sub, x_addS, x_addT, x_addL, x_mul, x_mulS, x_mulL, x_div, x_mod, x_pow, x_lt, x_le, x_gt, x_ge, x_eqD, x_neD, x_in, x_notIn, x_is, x_isNot, x_eqI, x_eqS, x_eqB, x_isNN, x_isBN, x_isIN, x_isSN, x_isTN, x_isLN, x_isRN, x_isBB, x_lenS, x_lenT, x_lenL, x_lenP, x_sumP, x_appP, x_appTP, x_idxP, x_frzP, x_abs, x_intI, x_intB, x_max, x_allL, x_sumL, x_listL, x_listT, x_isi, x_truB, x_truI, x_truL, x_truT, x_truN, x_idxS, x_idxL, x_idxT, x_slS, x_slT, x_slL, x_it0L, x_it0T, x_it0S, x_it0C, x_it1, x_it2L, x_val, x_upd, x_newF, x_newT, x_nm, x_tp, x_tps, x_tp0, x_ite, x_iteD, x_ifD, x_some, x_some2, x_map, x_eqInt, i_N_tuple, i_N_list, i_N_bool, i_N_int, i_N_str, i_N_tl, i_B_tuple, i_B_list, i_B_bool, i_B_int, i_B_str, i_B_tl, i_I_tuple, i_I_list, i_I_bool, i_I_int, i_I_str, i_I_tl, i_S_tuple, i_S_list, i_S_bool, i_S_int, i_S_str, i_S_tl, i_T_tuple, i_T_list, i_T_bool, i_T_int, i_T_str, i_T_tl, i_L_tuple, i_L_list, i_L_bool, i_L_int, i_L_str, i_L_tl, x_pure, x_new, x_fn, List.getElem?_cons_zero, List.getElem?_cons_succ, List.set_cons_zero, List.set_cons_succ, Option.bind_some, List.length_cons, List.length_nil, Nat.reduceAdd, true_and, and_true, decide_eq_true_eq, Bool.not_eq_true', decide_eq_false_iff_not, Bool.not_false, Bool.not_true, Bool.false_eq_true, Bool.true_eq_false, if_true, if_false, ite_true, ite_false])
local macro_rules | `(tactic| walk_at "h") => `(tactic| simp only [wSs, wS, wE, wEs, wC, x_add, x_sub, x_addS, x_addT, x_addL, x_mul, x_mulS, x_mulL, x_div, x_mod, x_pow, x_lt, x_le, x_gt, x_ge, x_eqD, x_neD, x_in, x_notIn, x_is, x_isNot, x_eqI, x_eqS, x_eqB, x_isNN, x_isBN, x_isIN, x_isSN, x_isTN, x_isLN, x_isRN, x_isBB, x_lenS, x_lenT, x_lenL, x_lenP, x_sumP, x_appP, x_appTP, x_idxP, x_frzP, x_abs, x_intI, x_intB, x_max, x_allL, x_sumL, x_listL, x_listT, x_isi, x_truB, x_truI, x_truL, x_truT, x_truN, x_idxS, x_idxL, x_idxT, x_slS, x_slT, x_slL, x_it0L, x_it0T, x_it0S, x_it0C, x_it1, x_it2L, x_val, x_upd, x_newF, x_newT, x_nm, x_tp, x_tps, x_tp0, x_ite, x_iteD, x_ifD, x_some, x_some2, x_map, x_eqInt, i_N_tuple, i_N_list, i_N_bool, i_N_int, i_N_str, i_N_tl, i_B_tuple, i_B_list, i_B_bool, i_B_int, i_B_str, i_B_tl, i_I_tuple, i_I_list, i_I_bool, i_I_int, i_I_str, i_I_tl, i_S_tuple, i_S_list, i_S_bool, i_S_int, i_S_str, i_S_tl, i_T_tuple, i_T_list, i_T_bool, i_T_int, i_T_str, i_T_tl, i_L_tuple, i_L_list, i_L_bool, i_L_int, i_L_str, i_L_tl, x_pure, x_new, x_fn, List.getElem?_cons_zero, List.getElem?_cons_succ, List.set_cons_zero, List.set_cons_succ, Option.bind_some, List.length_cons, List.length_nil, Nat.reduceAdd, true_and, and_true, decide_eq_true_eq, Bool.not_eq_true', decide_eq_false_iff_not, Bool.not_false, Bool.not_true, Bool.false_eq_true, Bool.true_eq_false, if_true, if_false, ite_true, ite_false, r_len, r_idx, r_in, r_get, r_getT, r_setd, r_setdT, r_app, r_appT, r_six, r_it, r_it2, r_sorted, r_list, r_dict, r_sl, r_tru, r_newD, r_att, r_self, r_sat, r_ins, r_ins2, fl_held, fl_chest, fl_down, fl_clock, fl_bills, fl_done, fl_drawer, fl_drawee, fl_payee, fl_amount, fl_due, fl_slip, fl_keeper, fl_stage, fl_edition, fl_blank, lu_held, lu_chest, lu_down, lu_clock, lu_bills, lu_done, lu_drawer, lu_drawee, lu_payee, lu_amount, lu_due, lu_slip, lu_keeper, lu_stage, lu_edition, lu_blank, pf_stage, pf_keeper, pf_edition, pf_blank, pf_slip, pf_clock, len_pursesF, len_hallF, len_billF, keyOf, Option.map_some, Option.map_none, Option.bind_none, Option.getD_some, Option.getD_none, Option.isSome_some, Option.isSome_none, r_some2, r_aga, r_int, r_ags, r_dct, ex_BadName, ex_Taken, ex_BadCoins, ex_Full, ex_NoHouse, ex_NoCoins, ex_Failed, ex_Standing, ex_BadCount, ex_BadDay, ex_NoBill, ex_Void, ex_Closed, ex_Accepted, ex_Same, ex_NotBlank, ex_NotYet, ex_NotPresented, ex_Protested, ex_TooLate, ex_NotBound, ex_CantPay, ex_NotProtested, ex_IsBound, ex_Twice, gv_pk, gp_pk, len_pk, nH_need, nH_must_stand, nH_find, nH_find_copy, nH_house, nH_look_at_coins, nH_put_in, nH_take_out, nH_fail, nH_mend, nH_pass_days, nH_draw, nH_accept, nH_signed, nH_sign, nH_sign_blank, nH_hand, nH_lose, nH_can_pay, nH_present, nH_protest, nH_ask, nH_may_honour, nH_honour, nH_fair, nH_names, nH_coins, nH_stands, nH_today, nH_many_bills, nH_paper, nH_state, nH_holder, nH_copy_of, nH_in_blank, nH_row, nH_story, nH_moment, nH_twin, nB_set_out, nB_doubled, nB_must_run, nB_must_be_back, nB_taken_on, nB_take_on, nB_sign_on, nB_hand_on, nB_next_copy, nB_must_be_due, nB_protest_on, nB_open_now, nB_go_back, nB_to_itself, nP_need, nP_look_at, nP_add_purse, nP_coins, nP_fill, nP_spend, nP_pay, nP_total, nP_all_names, nP_doubled, put_same, gv_held, gv_down, len_held, len_down, w_house_draw, w_house_in, w_house_out, w_house_fail, w_house_mend, w_house_days, w_house_fair, w_in_draw, w_in_house, w_in_out, w_in_fail, w_in_mend, w_in_days, w_in_fair, w_out_draw, w_out_house, w_out_in, w_out_fail, w_out_mend, w_out_days, w_out_fair, w_fail_draw, w_fail_house, w_fail_in, w_fail_out, w_fail_mend, w_fail_days, w_fail_fair, w_mend_draw, w_mend_house, w_mend_in, w_mend_out, w_mend_fail, w_mend_days, w_mend_fair, w_days_draw, w_days_house, w_days_in, w_days_out, w_days_fail, w_days_mend, w_days_fair, in_house_S7, in_house_S4, in_house_S2, in_house_S3, in_in_S7, in_in_S4, in_in_S2, in_in_S3, in_out_S7, in_out_S4, in_out_S2, in_out_S3, in_fail_S7, in_fail_S4, in_fail_S2, in_fail_S3, in_mend_S7, in_mend_S4, in_mend_S2, in_mend_S3, in_days_S7, in_days_S4, in_days_S2, in_days_S3, at0, at1, at2, at3, at4, at5, at6, at7, at8, at9, eq_self, *])
local macro_rules | `(tactic| walk_at "f") => `(tactic| simp only [↓p_var, ↓p_cst, ↓p_glo, ↓p_bin, ↓p_neg, ↓p_not, ↓p_cmp, ↓p_cmp2, ↓p_and, ↓p_or, ↓p_ifx, ↓p_idx, ↓p_slL, ↓p_slU, ↓p_slLU, ↓p_tup, ↓p_lstF, ↓p_lstT, ↓p_blt, ↓p_bm, ↓p_call, ↓p_lc, ↓p_att, ↓p_mth, ↓p_mk, ↓p_dct, ↓p_nil, ↓p_cons, ↓p_newT, ↓p_newD, ↓p_pure, ↓q_nil, ↓q_cons, ↓q_asg, ↓q_six, ↓q_aug, ↓q_exp, ↓q_ret, ↓q_ite, ↓q_for, ↓q_pas, ↓q_cont, ↓q_frS, ↓q_sat, ↓q_rai, ↓q_tri, ↓x_val, ↓x_upd, ↓x_newF, ↓bO_some, ↓brk_t, ↓brk_f, ↓bF_some, bO_some, bO_none, bO_ite, bO_iteO, bO_map, bF_some, brk_t, brk_f, p_attR, p_selR, p_satR, intO_int, tO_t, p_bool, put_put, id, Option.bind_some, ↓reduceIte, r_addRL, r_addLR, List.cons_append, List.nil_append, sl0, sm0, sl1, sm1, sl2, sm2, sl3, sm3, sl4, sm4, sl5, sm5, sl6, sm6, sl7, sm7, sl8, sm8, sl9, sm9, sl10, sm10, sl11, sm11, sl12, sm12, decide_true, decide_false, x_add, x_sub, x_addS, x_addT, x_addL, x_mul, x_mulS, x_mulL, x_div, x_mod, x_pow, x_lt, x_le, x_gt, x_ge, x_eqD, x_neD, x_in, x_notIn, x_is, x_isNot, x_eqI, x_eqS, x_eqB, x_isNN, x_isBN, x_isIN, x_isSN, x_isTN, x_isLN, x_isRN, x_isBB, x_lenS, x_lenT, x_lenL, x_lenP, x_sumP, x_appP, x_appTP, x_idxP, x_frzP, x_abs, x_intI, x_intB, x_max, x_allL, x_sumL, x_listL, x_listT, x_isi, x_truB, x_truI, x_truL, x_truT, x_truN, x_idxS, x_idxL, x_idxT, x_slS, x_slT, x_slL, x_it0L, x_it0T, x_it0S, x_it0C, x_it1, x_it2L, x_nm, x_tp, x_tps, x_tp0, i_N_tuple, i_N_list, i_N_bool, i_N_int, i_N_str, i_N_tl, i_B_tuple, i_B_list, i_B_bool, i_B_int, i_B_str, i_B_tl, i_I_tuple, i_I_list, i_I_bool, i_I_int, i_I_str, i_I_tl, i_S_tuple, i_S_list, i_S_bool, i_S_int, i_S_str, i_S_tl, i_T_tuple, i_T_list, i_T_bool, i_T_int, i_T_str, i_T_tl, i_L_tuple, i_L_list, i_L_bool, i_L_int, i_L_str, i_L_tl, List.getElem?_cons_zero, List.getElem?_cons_succ, List.set_cons_zero, List.set_cons_succ, Option.bind_some, List.length_cons, List.length_nil, Nat.reduceAdd, true_and, and_true, decide_eq_true_eq, Bool.not_eq_true', decide_eq_false_iff_not, Bool.not_false, Bool.not_true, Bool.false_eq_true, Bool.true_eq_false, if_true, if_false, ite_true, ite_false, r_len, r_idx, r_in, r_get, r_getT, r_setd, r_setdT, r_app, r_appT, r_six, r_it, r_it2, r_sorted, r_list, r_dict, r_sl, r_tru, fl_held, fl_chest, fl_down, fl_clock, fl_bills, fl_done, fl_drawer, fl_drawee, fl_payee, fl_amount, fl_due, fl_slip, fl_keeper, fl_stage, fl_edition, fl_blank, lu_held, lu_chest, lu_down, lu_clock, lu_bills, lu_done, lu_drawer, lu_drawee, lu_payee, lu_amount, lu_due, lu_slip, lu_keeper, lu_stage, lu_edition, lu_blank, pf_stage, pf_keeper, pf_edition, pf_blank, pf_slip, pf_clock, len_pursesF, len_hallF, len_billF, keyOf, Option.map_some, Option.map_none, Option.bind_none, Option.getD_some, Option.getD_none, Option.isSome_some, Option.isSome_none, ex_BadName, ex_Taken, ex_BadCoins, ex_Full, ex_NoHouse, ex_NoCoins, ex_Failed, ex_Standing, ex_BadCount, ex_BadDay, ex_NoBill, ex_Void, ex_Closed, ex_Accepted, ex_Same, ex_NotBlank, ex_NotYet, ex_NotPresented, ex_Protested, ex_TooLate, ex_NotBound, ex_CantPay, ex_NotProtested, ex_IsBound, ex_Twice, gv_pk, gp_pk, len_pk, nH_need, nH_must_stand, nH_find, nH_find_copy, nH_house, nH_look_at_coins, nH_put_in, nH_take_out, nH_fail, nH_mend, nH_pass_days, nH_draw, nH_accept, nH_signed, nH_sign, nH_sign_blank, nH_hand, nH_lose, nH_can_pay, nH_present, nH_protest, nH_ask, nH_may_honour, nH_honour, nH_fair, nH_names, nH_coins, nH_stands, nH_today, nH_many_bills, nH_paper, nH_state, nH_holder, nH_copy_of, nH_in_blank, nH_row, nH_story, nH_moment, nH_twin, nB_set_out, nB_doubled, nB_must_run, nB_must_be_back, nB_taken_on, nB_take_on, nB_sign_on, nB_hand_on, nB_next_copy, nB_must_be_due, nB_protest_on, nB_open_now, nB_go_back, nB_to_itself, nP_need, nP_look_at, nP_add_purse, nP_coins, nP_fill, nP_spend, nP_pay, nP_total, nP_all_names, nP_doubled, put_same, gv_held, gv_down, len_held, len_down, w_house_draw, w_house_in, w_house_out, w_house_fail, w_house_mend, w_house_days, w_house_fair, w_in_draw, w_in_house, w_in_out, w_in_fail, w_in_mend, w_in_days, w_in_fair, w_out_draw, w_out_house, w_out_in, w_out_fail, w_out_mend, w_out_days, w_out_fair, w_fail_draw, w_fail_house, w_fail_in, w_fail_out, w_fail_mend, w_fail_days, w_fail_fair, w_mend_draw, w_mend_house, w_mend_in, w_mend_out, w_mend_fail, w_mend_days, w_mend_fair, w_days_draw, w_days_house, w_days_in, w_days_out, w_days_fail, w_days_mend, w_days_fair, in_house_S7, in_house_S4, in_house_S2, in_house_S3, in_in_S7, in_in_S4, in_in_S2, in_in_S3, in_out_S7, in_out_S4, in_out_S2, in_out_S3, in_fail_S7, in_fail_S4, in_fail_S2, in_fail_S3, in_mend_S7, in_mend_S4, in_mend_S2, in_mend_S3, in_days_S7, in_days_S4, in_days_S2, in_days_S3, at0, at1, at2, at3, at4, at5, at6, at7, at8, at9, eq_self, *])
def n__law_stands : List Str := ["_law_hall", "_law_state", "_law_story", "_law_names", "_law_due", "_law_name_here", "_law_word_here", "_law_k", "_law_bill", "_law_found"]
def b__law_stands_1 : List MS := [(.asg (.nm 6) (.idx (.lst false [(.cst (.str "open")), (.cst (.str "failed"))]) (.blt .int false [(.idx (.idx (.var 1) (.cst (.int 1))) (.var 5))]))), (.ite (.not (.call "_law_same" [(.lst false [(.mth "Hall" (.var 0) "coins" [(.var 5)]), (.mth "Hall" (.var 0) "stands" [(.var 5)])]), (.lst false [(.idx (.idx (.var 1) (.cst (.int 0))) (.var 5)), (.var 6)])])) [(.ret (.cst (.bl false)))] [])]
def b__law_stands_2 : List MS := [(.asg (.nm 9) (.bin .Add false (.blt .list false [(.mth "Hall" (.var 0) "paper" [(.bin .Add false (.var 7) (.cst (.int 1)))])]) (.lst false [(.mth "Hall" (.var 0) "row" [(.bin .Add false (.var 7) (.cst (.int 1)))]), (.mth "Hall" (.var 0) "holder" [(.bin .Add false (.var 7) (.cst (.int 1)))]), (.mth "Hall" (.var 0) "state" [(.bin .Add false (.var 7) (.cst (.int 1)))])]))), (.ite (.not (.call "_law_same" [(.bin .Add false (.var 9) (.lst false [(.mth "Hall" (.var 0) "copy_of" [(.bin .Add false (.var 7) (.cst (.int 1)))]), (.mth "Hall" (.var 0) "in_blank" [(.bin .Add false (.var 7) (.cst (.int 1)))])])), (.var 8)])) [(.ret (.cst (.bl false)))] [])]
def m__law_stands : List MS := [(.asg (.nm 3) (.blt .sorted false [(.idx (.var 1) (.cst (.int 0)))])), (.asg (.nm 4) (.lst false [(.var 3), (.idx (.var 1) (.cst (.int 2))), (.blt .len false [(.idx (.var 1) (.cst (.int 3)))]), (.var 2), (.blt .len false [(.var 2)])])), (.ite (.not (.call "_law_same" [(.lst false [(.mth "Hall" (.var 0) "names" []), (.mth "Hall" (.var 0) "today" []), (.mth "Hall" (.var 0) "many_bills" []), (.mth "Hall" (.var 0) "story" []), (.mth "Hall" (.var 0) "moment" [])]), (.var 4)])) [(.ret (.cst (.bl false)))] []), (.for_ 0 (.nm 5) [(.var 3)] b__law_stands_1), (.for_ 2 (.tp [(.nm 7), (.nm 8)]) [(.idx (.var 1) (.cst (.int 3)))] b__law_stands_2), (.ret (.cst (.bl true)))]
def n__law_step : List Str := ["_law_hall", "_law_state", "_law_story", "_law_deed", "_law_word_here", "_law_found"]
def m__law_step : List MS := [(.asg (.nm 4) (.call "_law_word" [(.var 1), (.var 3)])), (.asg (.nm 5) (.call "_law_tried" [(.var 0), (.var 3)])), (.ite (.cmp .NotEq (.var 4) (.cst (.str ""))) [(.ret (.cmp .Eq (.var 5) (.tup [(.var 4), (.cst .non)])))] []), (.exp (.bm .append false (.var 2) [(.var 3)])), (.ret (.call "_law_same" [(.var 5), (.tup [(.cst (.str "")), (.call "_law_done" [(.var 1), (.var 3)])])]))]
/-! ### all that is asked of the hall -/
theorem deedD_pure (d : Deed) : pureD (deedD d) = true := by cases d <;> rfl
theorem deedD_small (d : Deed) : dSmall 1 (deedD d) := by
  cases d <;> (show _ ≤ 100000 ∧ _) <;> exact ⟨by simp, by simp [dSmalls, dSmall]⟩
def OkD (l : List D) : Prop := ∀ x ∈ l, ∃ d, x = deedD d
theorem OkD.pure : ∀ {l : List D}, OkD l → pureDs l = true
  | [], _ => rfl
  | x :: l, h => by
    obtain ⟨d, rfl⟩ := h x List.mem_cons_self
    show (pureD (deedD d) && pureDs l) = true
    rw [deedD_pure, OkD.pure (l := l) (fun y hy => h y (List.mem_cons_of_mem _ hy))]; rfl
theorem OkD.small : ∀ {l : List D}, OkD l → dSmalls 1 l
  | [], _ => by unfold dSmalls; trivial
  | x :: l, h => by
    obtain ⟨d, rfl⟩ := h x List.mem_cons_self
    unfold dSmalls
    exact ⟨deedD_small d, OkD.small (l := l) (fun y hy => h y (List.mem_cons_of_mem _ hy))⟩
theorem strs_pure : ∀ l : List Str, pureDs (l.map .str) = true
  | [] => rfl
  | x :: l => by show (true && pureDs (l.map .str)) = true; rw [strs_pure l]; rfl
theorem strs_small (n : Nat) : ∀ l : List Str, dSmalls n (l.map .str)
  | [] => by unfold dSmalls; trivial
  | x :: l => by
    show dSmalls n (.str x :: l.map .str)
    unfold dSmalls
    exact ⟨by cases n <;> (unfold dSmall; trivial), strs_small n l⟩
/-- the hall, the law's state and story beside each other -/
def allC (g : Gh) (t : Gs) (st : Addr) (F : List Cell) : List Cell := hallC g ++ (stC t ++ ((st, .lst g.done) :: F))
def spStands : DSp := fun ds S Q X => ∃ g t st F, ds = [.ref g.a, .ref t.s, .ref st] ∧ Hd S (allC g t st F) ∧ OkH g.er ∧ OkD g.done ∧ Gs.like t g.er ∧ g.bills = [] ∧ Q (.bl true) S
theorem vInt {S : Sto} {i : Int} : Vw S (.int i) (.int i) := by unfold Vw; rfl
theorem vStr {S : Sto} {i : Str} : Vw S (.str i) (.str i) := by unfold Vw; rfl
theorem vCons {S : Sto} {f g : D} {r s : List D} (h : Vw S f g) (q : Vws S r s) : Vws S (f :: r) (g :: s) := by unfold Vws; exact ⟨f, r, rfl, h, q⟩
theorem vNil {S : Sto} : Vws S [] [] := by unfold Vws; rfl
theorem vLst {S : Sto} {fs gs : List D} (h : Vws S fs gs) : Vw S (.lst fs) (.lst gs) := by unfold Vw; exact ⟨fs, .inl rfl, h⟩
theorem vTup {S : Sto} {fs gs : List D} (h : Vws S fs gs) : Vw S (.tup fs) (.tup gs) := by unfold Vw; exact ⟨fs, rfl, h⟩
theorem vRef {S : Sto} {a : Addr} {fs gs : List D} (e : S a = some (.lst fs)) (h : Vws S fs gs) : Vw S (.ref a) (.lst gs) := by unfold Vw; exact ⟨fs, .inr ⟨a, rfl, e⟩, h⟩
theorem lk_mem {hs : Hs} {n : Str} (h : n ∈ hs.map (·.1)) : ∃ v, lk hs n = some v := by
  obtain ⟨q, hq, rfl⟩ := List.mem_map.mp h
  have : (hs.find? fun z => decide (z.1 = q.1)).isSome = true := by
    rw [List.find?_isSome]
    exact ⟨q, hq, by simp⟩
  obtain ⟨z, hz⟩ := Option.isSome_iff_exists.mp this
  exact ⟨z.2, by unfold lk; rw [hz]; rfl⟩
theorem stands_b {G : Gc} {x : XW} {K : KS} {S : Sto} {g : Gh} {t : Gs} {st : Addr} {F : List Cell} {n : Str} {v : Int × Bool} {a b d e f w : Option D} (c1 : G.mt "Hall" "coins" = some (2, spHCoins)) (c2 : G.mt "Hall" "stands" = some (2, spStandsH)) (c3 : G.fn "_law_same" = some (2, spSameV 3)) (hS : Hd S (allC g t st F)) (et : t.hs = g.hs) (hb : lk g.hs n = some v)
    (q : ∀ w, K.nx [some (.ref g.a), some (.ref t.s), some (.ref st), a, b, some (.str n), w, d, e, f] S) : wSs G x b__law_stands_1 [some (.ref g.a), some (.ref t.s), some (.ref st), a, b, some (.str n), w, d, e, f] S K := by
  have q := Hold.mk q
  have hT := Hd.swap hS
  have h1 := hall1 hS
  have s1 := st1 hT
  have s2 := st2 hT
  have s3 := st3 hT
  have a0 := sa0 (t := t)
  have a1 := sa1 (t := t)
  have e1 : atI [D.str "open", D.str "failed"] (if v.2 = true then 1 else 0) = some (.str (stW v.2)) := by cases v.2 <;> rfl
  have hb' : lk t.hs n = some v := by rw [et]; exact hb
  unfold b__law_stands_1
  walk_at "f"
  refine cw_i ⟨g, _, n, rfl, hS, ?_⟩
  rw [hb]
  walk_at "f"
  refine cw_i ⟨g, _, n, rfl, hS, ?_⟩
  rw [hb]
  walk_at "f"
  refine cw_i ⟨_, _, .lst [.int v.1, .str (stW v.2)], rfl, vLst (vCons vInt (vCons vStr vNil)), vLst (vCons vInt (vCons vStr vNil)), ?_, ?_⟩
  · exact ⟨by simp, by simp [dSmalls, dSmall]⟩
  · walk_at "f"
theorem ok_Stands_ {G : Gc} (n1 : G.mt "Hall" "names" = some (1, spNames)) (n2 : G.mt "Hall" "today" = some (1, spToday)) (n3 : G.mt "Hall" "many_bills" = some (1, spMany)) (n4 : G.mt "Hall" "story" = some (1, spStory)) (n5 : G.mt "Hall" "moment" = some (1, spMoment)) (c1 : G.mt "Hall" "coins" = some (2, spHCoins)) (c2 : G.mt "Hall" "stands" = some (2, spStandsH)) (c3 : G.fn "_law_same" = some (2, spSameV 3)) : BodyOk G n__law_stands 3 m__law_stands spStands := by
  rintro ds S Q X - ⟨g, t, st, F, rfl, hS, ok, od, lik, b0, q⟩
  have q := Hold.mk q
  have hT := Hd.swap hS
  have h1 := hall1 hS
  have s1 := st1 hT
  have s2 := st2 hT
  have s3 := st3 hT
  have s4 := st4 hT
  have s5 : S st = some (.lst g.done) := hS.get (by simp [allC])
  have a0 := sa0 (t := t)
  have a1 := sa1 (t := t)
  have a2 := sa2 (t := t)
  have a3 := sa3 (t := t)
  have ks := ks_held g.hs
  have et : t.hs = g.hs := lik.hs
  have ec : t.clock = g.clock := lik.clock
  have tb : t.bills = [] := by
    have z := lik.bills
    have z2 : g.er.bills = [] := by show g.bills.map _ = []; rw [b0]; rfl
    rw [z2] at z
    exact List.map_eq_nil_iff.mp z
  have cond : (g.hs.map (·.1)).length < 64 ∧ (g.hs.map (·.1)).all PySem.PyData.strOk = true := by
    refine ⟨by rw [List.length_map]; exact Nat.lt_of_le_of_lt ok.hn (by decide), ?_⟩
    rw [List.all_eq_true]
    intro x hx
    obtain ⟨v, hv, rfl⟩ := List.mem_map.mp hx
    exact isNm_ok (ok.nm v hv)
  show wSs G _ m__law_stands [some (.ref g.a), some (.ref t.s), some (.ref st), none, none, none, none, none, none, none] S _
  unfold m__law_stands
  walk_at "f"
  refine cw_i ⟨g, _, rfl, hS, ok, ?_⟩
  walk_at "f"
  refine cw_i ⟨g, _, rfl, hS, ?_⟩
  walk_at "f"
  refine cw_i ⟨g, _, rfl, hS, ?_⟩
  walk_at "f"
  refine cw_i ⟨g, _, rfl, hS, ?_⟩
  walk_at "f"
  refine cw_i ⟨g, _, rfl, hS, ?_⟩
  walk_at "f"
  have vd : Vws S (namesD g.hs) (namesD g.hs) := Vws.refl _ (strs_pure _)
  have vs : Vws S g.done g.done := Vws.refl _ od.pure
  refine cw_i ⟨_, _, .lst [.lst (namesD g.hs), .int g.clock, .int ((0 : Nat) : Int), .lst g.done, .int g.done.length], rfl, vLst (vCons (vLst vd) (vCons vInt (vCons vInt (vCons (vLst vs) (vCons vInt vNil))))), vLst (vCons (vLst vd) (vCons vInt (vCons vInt (vCons (vRef s5 vs) (vCons vInt vNil))))), ?_, ?_⟩
  · refine ⟨by simp, ?_⟩
    have l1 : (namesD g.hs).length ≤ 100000 := by
      unfold namesD
      rw [List.length_map, srtS_len, List.length_map]
      exact Nat.le_trans ok.hn (by decide)
    have l2 : g.done.length ≤ 100000 := Nat.le_of_lt ok.dn
    simp only [dSmalls, dSmall, and_true, true_and]
    exact ⟨⟨l1, strs_small _ _⟩, l2, od.small⟩
  walk_at "f"
  refine fl_i (for_rule (fun _ σ' S' => S' = S ∧ ∃ a b, σ' = [some (.ref g.a), some (.ref t.s), some (.ref st), some (.lst (namesD g.hs)), _, a, b, none, none, none]) ⟨rfl, none, none, rfl⟩ ?_ ?_)
  · rintro i d σ' S' hd ⟨rfl, a, b, rfl⟩
    obtain ⟨n, hn, rfl⟩ := List.mem_map.mp (List.mem_of_getElem? hd)
    obtain ⟨v, hb⟩ := lk_mem ((srtS_perm _).mem_iff.mp hn)
    exact ⟨trivial, _, rfl, stands_b c1 c2 c3 hS et hb (fun w => ⟨rfl, _, _, rfl⟩)⟩
  · rintro σ' S' ⟨rfl, a, b, rfl⟩
    refine ⟨trivial, ?_⟩
    walk_at "f"
    refine fl_i ?_
    have s4' := s4
    rw [tb] at s4'
    refine ⟨s4', ?_⟩
    walk_at "f"
/-! ### one deed, in the hall and in the law's books -/
theorem okH_done {h : Ha} {d : Deed} (ok : OkH h) (b0 : h.bills = []) (w0 : wordH h d = "") (hl : h.done.length < 99999) : OkH (doneH h d) := by
  have wk := word_ok w0
  have bl : ∀ hs, ∀ b ∈ h.bills, OkB hs b := fun hs b hb => by rw [b0] at hb; cases hb
  have dn : (h.done ++ [deedD d]).length < 100000 := by rw [List.length_append]; show h.done.length + 1 < 100000; omega
  have mapC : ∀ hs n c, (setC hs n c).map (·.1) = hs.map (·.1) := fun hs n c => by
    unfold setC
    rw [List.map_map]
    refine List.map_congr_left fun q _ => ?_
    simp only [Function.comp]
    split <;> rfl
  have mapF : ∀ hs n c, (setF hs n c).map (·.1) = hs.map (·.1) := fun hs n c => by
    unfold setF
    rw [List.map_map]
    refine List.map_congr_left fun q _ => ?_
    simp only [Function.comp]
    split <;> rfl
  have keep : ∀ hs : Hs, hs.map (·.1) = h.hs.map (·.1) → OkH ⟨hs, h.clock, h.bills, h.done ++ [deedD d]⟩ := fun hs e => by
    refine ⟨fun q hq => ?_, by rw [e]; exact ok.nd, ?_, ok.bn, bl hs, dn⟩
    · have : q.1 ∈ h.hs.map (·.1) := by rw [← e]; exact List.mem_map.mpr ⟨q, hq, rfl⟩
      obtain ⟨z, hz, ez⟩ := List.mem_map.mp this
      rw [← ez]; exact ok.nm z hz
    · have : hs.length = h.hs.length := by rw [← List.length_map (f := (·.1)), e, List.length_map]
      show hs.length ≤ 9
      rw [this]; exact ok.hn
  cases d with
  | house n c =>
    have z1 : isNm n = true := wk (isNm n, "BadName") (by simp [chk])
    have z2 : lk h.hs n = none := by simpa using wk (!(lk h.hs n).isSome, "Taken") (by simp [chk])
    have z3 : h.hs.length < 9 := by simpa using wk (decide (h.hs.length < 9), "Full") (by simp [chk])
    refine ⟨fun q hq => ?_, ?_, ?_, ok.bn, bl _, dn⟩
    · rcases List.mem_append.mp (show q ∈ h.hs ++ [(n, (c, false))] from hq) with z | z
      · exact ok.nm q z
      · rw [List.mem_singleton.mp z]; exact z1
    · show ((h.hs ++ [(n, (c, false))]).map (·.1)).Nodup
      rw [List.map_append, List.nodup_append]
      refine ⟨ok.nd, by simp, fun a ha b hb e => ?_⟩
      have : b = n := by simpa using hb
      subst this
      subst e
      obtain ⟨v, hv⟩ := lk_mem ha
      rw [z2] at hv; cases hv
    · show (h.hs ++ [(n, (c, false))]).length ≤ 9
      rw [List.length_append]; show h.hs.length + 1 ≤ 9; omega
  | in_ n c => exact keep _ (mapC ..)
  | out n c => exact keep _ (mapC ..)
  | fail n => exact keep _ (mapF ..)
  | mend n => exact keep _ (mapF ..)
  | days m => exact { nm := ok.nm, nd := ok.nd, hn := ok.hn, bn := ok.bn, bl := bl _, dn := dn }
theorem done_bills {h : Ha} {d : Deed} : (doneH h d).bills = h.bills := by cases d <;> rfl
def spStep : DSp := fun ds S Q X => ∃ g t st F d, ds = [.ref g.a, .ref t.s, .ref st, deedD d] ∧ Hd S (allC g t st F) ∧ OkH g.er ∧ Gs.like t g.er ∧ okDeed d ∧ g.done.length < 99999 ∧
  ∀ S' g' t', g'.a = g.a → t'.s = t.s → Gs.like t' g'.er → (g'.er = g.er ∨ (wordH g.er d = "" ∧ g'.er = doneH g.er d)) → Hd S' (allC g' t' st F) → Q (.bl true) S'
theorem eq_tn {S : Sto} {w : Str} : eqR (.tup [.str w, .non]) (.tup [.str w, .non]) S = some true := by
  unfold eqR
  rw [g?_pos ⟨rfl, rfl, (by decide : 1 ≤ 60)⟩]
  show some (PyData.eqv (.tuple [.str w, .none]) (.tuple [.str w, .none])) = _
  simp [PyData.eqv, PyData.eqvAll]
theorem ok_Step {G : Gc} (f1 : G.fn "_law_word" = some (2, spWord)) (f2 : G.fn "_law_tried" = some (2, spTried)) (f3 : G.fn "_law_same" = some (2, spSameV 3)) (f4 : G.fn "_law_done" = some (2, spDone)) : BodyOk G n__law_step 4 m__law_step spStep := by
  rintro ds S Q X - ⟨g, t, st, F, d, rfl, hS, ok, lik, od, hl, q⟩
  have q := Hold.mk q
  show wSs G _ m__law_step [some (.ref g.a), some (.ref t.s), some (.ref st), some (deedD d), none, none] S _
  unfold m__law_step
  have et : t.hs = g.hs := lik.hs
  have l9 : t.hs.length ≤ 9 := by rw [et]; exact ok.hn
  walk_at "f"
  refine cw_i ⟨t, _, d, g.er, rfl, lik, Hd.swap hS, od, l9, fun S1 hS1 => ?_⟩
  walk_at "f"
  have hS1 := Hd.swap hS1
  refine cw_i ⟨g, _, d, rfl, hS1, ok, od, fun w0 S2 g2 e1 e2 hS2 => ?_, fun w1 => ?_⟩
  · have ew : (!decide (wordH g.er d = ("" : Str))) = false := by rw [decide_eq_true w0]; rfl
    have h5 : S2 st = some (.lst g.done) := hS2.get (by simp)
    have ed : g2.done = g.done ++ [deedD d] := congrArg Ha.done e2
    have dl : g.done.length < sizeLine := Nat.lt_trans hl (by decide)
    walk_at "f"
    have hS3 : Hd (put S2 st (.lst g2.done)) (allC g2 t st F) := by
      have z := Hd.upd (L1 := hallC g2 ++ stC t) (a := st) (m := .lst g.done) (L2 := F) (by rw [List.append_assoc]; exact hS2) (.lst g2.done)
      rw [List.append_assoc] at z
      exact z
    rw [ed] at hS3
    refine cw_i ⟨t, _, d, g.er, rfl, lik, Hd.swap hS3, l9, w0, fun S4 t' et' lik' hS4 => ?_⟩
    have hS4 := Hd.swap hS4
    walk_at "f"
    refine cw_i ⟨_, _, .tup [.str "", .non], rfl, vTup (vCons vStr (vCons (by unfold Vw; rfl) vNil)), vTup (vCons vStr (vCons (by unfold Vw; rfl) vNil)), ⟨by decide, by simp [dSmalls, dSmall]⟩, ?_⟩
    refine q.h _ g2 t' e1 et' ⟨?_, ?_, ?_⟩ (.inr ⟨w0, e2⟩) ?_
    · rw [e2]; exact lik'.hs
    · rw [e2]; exact lik'.clock
    · rw [e2]; exact lik'.bills
    · exact hS4
  · have ew : (!decide (wordH g.er d = ("" : Str))) = true := by rw [decide_eq_false w1]; rfl
    have e3 := fun S => eq_tn (S := S) (w := wordH g.er d)
    walk_at "f"
    exact q.h _ g t rfl rfl lik (.inl rfl) hS1
end Mn

namespace Mn
open PySem L2
local macro_rules | `(tactic| walk_at "x") => `(tactic| try simp only [wSs, wS, wE, wEs, wC, x_add, x_sub, x_addS, x_addT, x_addL, x_mul, x_mulS, x_mulL, x_div, x_mod, x_pow, x_lt, x_le, x_gt, x_ge, x_eqD, x_neD, x_in, x_notIn, x_is, x_isNot, x_eqI, x_eqS, x_eqB, x_isNN, x_isBN, x_isIN, x_isSN, x_isTN, x_isLN, x_isRN, x_isBB, x_lenS, x_lenT, x_lenL, x_lenP, x_sumP, x_appP, x_appTP, x_idxP, x_frzP, x_abs, x_intI, x_intB, x_max, x_allL, x_sumL, x_listL, x_listT, x_isi, x_truB, x_truI, x_truL, x_truT, x_truN, x_idxS, x_idxL, x_idxT, x_slS, x_slT, x_slL, x_it0L, x_it0T, x_it0S, x_it0C, x_it1, x_it2L, x_val, x_upd, x_newF, x_newT, x_nm, x_tp, x_tps, x_tp0, x_ite, x_iteD, x_ifD, x_some, x_some2, x_map, x_eqInt, i_N_tuple, i_N_list, i_N_bool, i_N_int, i_N_str, i_N_tl, i_B_tuple, i_B_list, i_B_bool, i_B_int, i_B_str, i_B_tl, i_I_tuple, i_I_list, i_I_bool, i_I_int, i_I_str, i_I_tl, i_S_tuple, i_S_list, i_S_bool, i_S_int, i_S_str, i_S_tl, i_T_tuple, i_T_list, i_T_bool, i_T_int, i_T_str, i_T_tl, i_L_tuple, i_L_list, i_L_bool, i_L_int, i_L_str, i_L_tl, x_pure, x_new, x_fn, List.getElem?_cons_zero, List.getElem?_cons_succ, List.set_cons_zero, List.set_cons_succ, Option.bind_some, List.length_cons, List.length_nil, Nat.reduceAdd, true_and, and_true, decide_eq_true_eq, Bool.not_eq_true', decide_eq_false_iff_not, Bool.not_false, Bool.not_true, Bool.false_eq_true, Bool.true_eq_false, if_true, if_false, ite_true, ite_false])
local macro_rules | `(tactic| walk_at "h") => `(tactic| simp only [wSs, wS, wE, wEs, wC, x_add, x_sub, x_addS, x_addT, x_addL, x_mul, x_mulS, x_mulL, x_div, x_mod, x_pow, x_lt, x_le, x_gt, x_ge, x_eqD, x_neD, x_in, x_notIn, x_is, x_isNot, x_eqI, x_eqS, x_eqB, x_isNN, x_isBN, x_isIN, x_isSN, x_isTN, x_isLN, x_isRN, x_isBB, x_lenS, x_lenT, x_lenL, x_lenP, x_sumP, x_appP, x_appTP, x_idxP, x_frzP, x_abs, x_intI, x_intB, x_max, x_allL, x_sumL, x_listL, x_listT, x_isi, x_truB, x_truI, x_truL, x_truT, x_truN, x_idxS, x_idxL, x_idxT, x_slS, x_slT, x_slL, x_it0L, x_it0T, x_it0S, x_it0C, x_it1, x_it2L, x_val, x_upd, x_newF, x_newT, x_nm, x_tp, x_tps, x_tp0, x_ite, x_iteD, x_ifD, x_some, x_some2, x_map, x_eqInt, i_N_tuple, i_N_list, i_N_bool, i_N_int, i_N_str, i_N_tl, i_B_tuple, i_B_list, i_B_bool, i_B_int, i_B_str, i_B_tl, i_I_tuple, i_I_list, i_I_bool, i_I_int, i_I_str, i_I_tl, i_S_tuple, i_S_list, i_S_bool, i_S_int, i_S_str, i_S_tl, i_T_tuple, i_T_list, i_T_bool, i_T_int, i_T_str, i_T_tl, i_L_tuple, i_L_list, i_L_bool, i_L_int, i_L_str, i_L_tl, x_pure, x_new, x_fn, List.getElem?_cons_zero, List.getElem?_cons_succ, List.set_cons_zero, List.set_cons_succ, Option.bind_some, List.length_cons, List.length_nil, Nat.reduceAdd, true_and, and_true, decide_eq_true_eq, Bool.not_eq_true', decide_eq_false_iff_not, Bool.not_false, Bool.not_true, Bool.false_eq_true, Bool.true_eq_false, if_true, if_false, ite_true, ite_false, r_len, r_idx, r_in, r_get, r_getT, r_setd, r_setdT, r_app, r_appT, r_six, r_it, r_it2, r_sorted, r_list, r_dict, r_sl, r_tru, r_newD, r_att, r_self, r_sat, r_ins, r_ins2, fl_held, fl_chest, fl_down, fl_clock, fl_bills, fl_done, fl_drawer, fl_drawee, fl_payee, fl_amount, fl_due, fl_slip, fl_keeper, fl_stage, fl_edition, fl_blank, lu_held, lu_chest, lu_down, lu_clock, lu_bills, lu_done, lu_drawer, lu_drawee, lu_payee, lu_amount, lu_due, lu_slip, lu_keeper, lu_stage, lu_edition, lu_blank, pf_stage, pf_keeper, pf_edition, pf_blank, pf_slip, pf_clock, len_pursesF, len_hallF, len_billF, keyOf, Option.map_some, Option.map_none, Option.bind_none, Option.getD_some, Option.getD_none, Option.isSome_some, Option.isSome_none, r_some2, r_aga, r_int, r_ags, r_dct, ex_BadName, ex_Taken, ex_BadCoins, ex_Full, ex_NoHouse, ex_NoCoins, ex_Failed, ex_Standing, ex_BadCount, ex_BadDay, ex_NoBill, ex_Void, ex_Closed, ex_Accepted, ex_Same, ex_NotBlank, ex_NotYet, ex_NotPresented, ex_Protested, ex_TooLate, ex_NotBound, ex_CantPay, ex_NotProtested, ex_IsBound, ex_Twice, gv_pk, gp_pk, len_pk, nH_need, nH_must_stand, nH_find, nH_find_copy, nH_house, nH_look_at_coins, nH_put_in, nH_take_out, nH_fail, nH_mend, nH_pass_days, nH_draw, nH_accept, nH_signed, nH_sign, nH_sign_blank, nH_hand, nH_lose, nH_can_pay, nH_present, nH_protest, nH_ask, nH_may_honour, nH_honour, nH_fair, nH_names, nH_coins, nH_stands, nH_today, nH_many_bills, nH_paper, nH_state, nH_holder, nH_copy_of, nH_in_blank, nH_row, nH_story, nH_moment, nH_twin, nB_set_out, nB_doubled, nB_must_run, nB_must_be_back, nB_taken_on, nB_take_on, nB_sign_on, nB_hand_on, nB_next_copy, nB_must_be_due, nB_protest_on, nB_open_now, nB_go_back, nB_to_itself, nP_need, nP_look_at, nP_add_purse, nP_coins, nP_fill, nP_spend, nP_pay, nP_total, nP_all_names, nP_doubled, put_same, gv_held, gv_down, len_held, len_down, w_house_draw, w_house_in, w_house_out, w_house_fail, w_house_mend, w_house_days, w_house_fair, w_in_draw, w_in_house, w_in_out, w_in_fail, w_in_mend, w_in_days, w_in_fair, w_out_draw, w_out_house, w_out_in, w_out_fail, w_out_mend, w_out_days, w_out_fair, w_fail_draw, w_fail_house, w_fail_in, w_fail_out, w_fail_mend, w_fail_days, w_fail_fair, w_mend_draw, w_mend_house, w_mend_in, w_mend_out, w_mend_fail, w_mend_days, w_mend_fair, w_days_draw, w_days_house, w_days_in, w_days_out, w_days_fail, w_days_mend, w_days_fair, in_house_S7, in_house_S4, in_house_S2, in_house_S3, in_in_S7, in_in_S4, in_in_S2, in_in_S3, in_out_S7, in_out_S4, in_out_S2, in_out_S3, in_fail_S7, in_fail_S4, in_fail_S2, in_fail_S3, in_mend_S7, in_mend_S4, in_mend_S2, in_mend_S3, in_days_S7, in_days_S4, in_days_S2, in_days_S3, at0, at1, at2, at3, at4, at5, at6, at7, at8, at9, eq_self, *])
local macro_rules | `(tactic| walk_at "f") => `(tactic| simp only [↓p_var, ↓p_cst, ↓p_glo, ↓p_bin, ↓p_neg, ↓p_not, ↓p_cmp, ↓p_cmp2, ↓p_and, ↓p_or, ↓p_ifx, ↓p_idx, ↓p_slL, ↓p_slU, ↓p_slLU, ↓p_tup, ↓p_lstF, ↓p_lstT, ↓p_blt, ↓p_bm, ↓p_call, ↓p_lc, ↓p_att, ↓p_mth, ↓p_mk, ↓p_dct, ↓p_nil, ↓p_cons, ↓p_newT, ↓p_newD, ↓p_pure, ↓q_nil, ↓q_cons, ↓q_asg, ↓q_six, ↓q_aug, ↓q_exp, ↓q_ret, ↓q_ite, ↓q_for, ↓q_pas, ↓q_cont, ↓q_frS, ↓q_sat, ↓q_rai, ↓q_tri, ↓x_val, ↓x_upd, ↓x_newF, ↓bO_some, ↓brk_t, ↓brk_f, ↓bF_some, bO_some, bO_none, bO_ite, bO_iteO, bO_map, bF_some, brk_t, brk_f, p_attR, p_selR, p_satR, intO_int, tO_t, p_bool, put_put, id, Option.bind_some, ↓reduceIte, r_addRL, r_addLR, List.cons_append, List.nil_append, sl0, sm0, sl1, sm1, sl2, sm2, sl3, sm3, sl4, sm4, sl5, sm5, sl6, sm6, sl7, sm7, sl8, sm8, sl9, sm9, sl10, sm10, sl11, sm11, sl12, sm12, decide_true, decide_false, x_add, x_sub, x_addS, x_addT, x_addL, x_mul, x_mulS, x_mulL, x_div, x_mod, x_pow, x_lt, x_le, x_gt, x_ge, x_eqD, x_neD, x_in, x_notIn, x_is, x_isNot, x_eqI, x_eqS, x_eqB, x_isNN, x_isBN, x_isIN, x_isSN, x_isTN, x_isLN, x_isRN, x_isBB, x_lenS, x_lenT, x_lenL, x_lenP, x_sumP, x_appP, x_appTP, x_idxP, x_frzP, x_abs, x_intI, x_intB, x_max, x_allL, x_sumL, x_listL, x_listT, x_isi, x_truB, x_truI, x_truL, x_truT, x_truN, x_idxS, x_idxL, x_idxT, x_slS, x_slT, x_slL, x_it0L, x_it0T, x_it0S, x_it0C, x_it1, x_it2L, x_nm, x_tp, x_tps, x_tp0, i_N_tuple, i_N_list, i_N_bool, i_N_int, i_N_str, i_N_tl, i_B_tuple, i_B_list, i_B_bool, i_B_int, i_B_str, i_B_tl, i_I_tuple, i_I_list, i_I_bool, i_I_int, i_I_str, i_I_tl, i_S_tuple, i_S_list, i_S_bool, i_S_int, i_S_str, i_S_tl, i_T_tuple, i_T_list, i_T_bool, i_T_int, i_T_str, i_T_tl, i_L_tuple, i_L_list, i_L_bool, i_L_int, i_L_str, i_L_tl, List.getElem?_cons_zero, List.getElem?_cons_succ, List.set_cons_zero, List.set_cons_succ, Option.bind_some, List.length_cons, List.length_nil, Nat.reduceAdd, true_and, and_true, decide_eq_true_eq, Bool.not_eq_true', decide_eq_false_iff_not, Bool.not_false, Bool.not_true, Bool.false_eq_true, Bool.true_eq_false, if_true, if_false, ite_true, ite_false, r_len, r_idx, r_in, r_get, r_getT, r_setd, r_setdT, r_app, r_appT, r_six, r_it, r_it2, r_sorted, r_list, r_dict, r_sl, r_tru, fl_held, fl_chest, fl_down, fl_clock, fl_bills, fl_done, fl_drawer, fl_drawee, fl_payee, fl_amount, fl_due, fl_slip, fl_keeper, fl_stage, fl_edition, fl_blank, lu_held, lu_chest, lu_down, lu_clock, lu_bills, lu_done, lu_drawer, lu_drawee, lu_payee, lu_amount, lu_due, lu_slip, lu_keeper, lu_stage, lu_edition, lu_blank, pf_stage, pf_keeper, pf_edition, pf_blank, pf_slip, pf_clock, len_pursesF, len_hallF, len_billF, keyOf, Option.map_some, Option.map_none, Option.bind_none, Option.getD_some, Option.getD_none, Option.isSome_some, Option.isSome_none, ex_BadName, ex_Taken, ex_BadCoins, ex_Full, ex_NoHouse, ex_NoCoins, ex_Failed, ex_Standing, ex_BadCount, ex_BadDay, ex_NoBill, ex_Void, ex_Closed, ex_Accepted, ex_Same, ex_NotBlank, ex_NotYet, ex_NotPresented, ex_Protested, ex_TooLate, ex_NotBound, ex_CantPay, ex_NotProtested, ex_IsBound, ex_Twice, gv_pk, gp_pk, len_pk, nH_need, nH_must_stand, nH_find, nH_find_copy, nH_house, nH_look_at_coins, nH_put_in, nH_take_out, nH_fail, nH_mend, nH_pass_days, nH_draw, nH_accept, nH_signed, nH_sign, nH_sign_blank, nH_hand, nH_lose, nH_can_pay, nH_present, nH_protest, nH_ask, nH_may_honour, nH_honour, nH_fair, nH_names, nH_coins, nH_stands, nH_today, nH_many_bills, nH_paper, nH_state, nH_holder, nH_copy_of, nH_in_blank, nH_row, nH_story, nH_moment, nH_twin, nB_set_out, nB_doubled, nB_must_run, nB_must_be_back, nB_taken_on, nB_take_on, nB_sign_on, nB_hand_on, nB_next_copy, nB_must_be_due, nB_protest_on, nB_open_now, nB_go_back, nB_to_itself, nP_need, nP_look_at, nP_add_purse, nP_coins, nP_fill, nP_spend, nP_pay, nP_total, nP_all_names, nP_doubled, put_same, gv_held, gv_down, len_held, len_down, w_house_draw, w_house_in, w_house_out, w_house_fail, w_house_mend, w_house_days, w_house_fair, w_in_draw, w_in_house, w_in_out, w_in_fail, w_in_mend, w_in_days, w_in_fair, w_out_draw, w_out_house, w_out_in, w_out_fail, w_out_mend, w_out_days, w_out_fair, w_fail_draw, w_fail_house, w_fail_in, w_fail_out, w_fail_mend, w_fail_days, w_fail_fair, w_mend_draw, w_mend_house, w_mend_in, w_mend_out, w_mend_fail, w_mend_days, w_mend_fair, w_days_draw, w_days_house, w_days_in, w_days_out, w_days_fail, w_days_mend, w_days_fair, in_house_S7, in_house_S4, in_house_S2, in_house_S3, in_in_S7, in_in_S4, in_in_S2, in_in_S3, in_out_S7, in_out_S4, in_out_S2, in_out_S3, in_fail_S7, in_fail_S4, in_fail_S2, in_fail_S3, in_mend_S7, in_mend_S4, in_mend_S2, in_mend_S3, in_days_S7, in_days_S4, in_days_S2, in_days_S3, at0, at1, at2, at3, at4, at5, at6, at7, at8, at9, eq_self, *])
def n__law_small : List Str := ["_law_feed_here", "_law_at", "_law_state", "_law_word_here", "_law_name_here", "_law_coins"]
def m__law_small : List MS := [(.asg (.nm 3) (.idx (.lst false [(.cst (.str "house")), (.cst (.str "in")), (.cst (.str "out")), (.cst (.str "house")), (.cst (.str "fail")), (.cst (.str "mend")), (.cst (.str "house")), (.cst (.str "days"))]) (.bin .Mod false (.idx (.var 0) (.var 1)) (.cst (.int 8))))), (.asg (.nm 4) (.call "_law_name" [(.idx (.var 0) (.cst (.int 2))), (.bin .Mod false (.idx (.var 0) (.bin .Add false (.var 1) (.cst (.int 1)))) (.cst (.int 9)))])), (.asg (.nm 4) (.idx (.lst false [(.var 4), (.var 4), (.var 4), (.var 4), (.cst (.str "nobody")), (.cst (.str "Bad")), (.cst (.str "")), (.cst (.str "ninesigns"))]) (.bin .Mod false (.idx (.var 0) (.bin .Add false (.var 1) (.cst (.int 2)))) (.cst (.int 8))))), (.asg (.nm 5) (.idx (.lst false [(.bin .Mod false (.idx (.var 0) (.bin .Add false (.var 1) (.cst (.int 3)))) (.cst (.int 60))), (.bin .Pow false (.cst (.int 10)) (.cst (.int 12))), (.bin .Add false (.bin .Pow false (.cst (.int 10)) (.cst (.int 12))) (.cst (.int 1))), (.neg (.cst (.int 1))), (.cst (.int 0))]) (.idx (.lst false [(.cst (.int 0)), (.cst (.int 0)), (.cst (.int 0)), (.cst (.int 0)), (.cst (.int 0)), (.cst (.int 1)), (.cst (.int 2)), (.cst (.int 3)), (.cst (.int 4))]) (.bin .Mod false (.idx (.var 0) (.bin .Add false (.var 1) (.cst (.int 4)))) (.cst (.int 9)))))), (.ite (.cmp .Eq (.var 3) (.cst (.str "days"))) [(.ret (.tup [(.cst (.str "days")), (.idx (.lst false [(.cst (.int 1)), (.cst (.int 3)), (.cst (.int 1000)), (.cst (.int 1001)), (.cst (.int 0)), (.neg (.cst (.int 1)))]) (.bin .Mod false (.idx (.var 0) (.bin .Add false (.var 1) (.cst (.int 3)))) (.cst (.int 6))))]))] []), (.ite (.cmp .In (.var 3) (.tup [(.cst (.str "fail")), (.cst (.str "mend"))])) [(.ret (.tup [(.var 3), (.var 4)]))] []), (.ret (.tup [(.var 3), (.var 4), (.var 5)]))]
def K08n_law : List Str := ["_law_script", "_law_feed_here", "_law_hall", "_law_state", "_law_story", "_law_k", "_law_deed"]
def K08b_law_1 : List MS := [(.asg (.nm 6) (.call "_law_small" [(.var 1), (.bin .Add false (.cst (.int 30)) (.bin .Mult false (.cst (.int 8)) (.var 5))), (.var 3)])), (.ite (.or (.not (.call "_law_step" [(.var 2), (.var 3), (.var 4), (.var 6)])) (.not (.call "_law_stands" [(.var 2), (.var 3), (.var 4)]))) [(.ret (.cst (.bl false)))] [])]
def K08m_law : List MS := [(.asg (.nm 1) (.call "_law_feed" [(.var 0)])), (.asg (.nm 2) (.mk "Hall" [])), (.asg (.nm 3) (.lst true [(.dct []), (.dct []), (.cst (.int 0)), (.lst true [])])), (.asg (.nm 4) (.lst true [])), (.for_ 1 (.nm 5) [(.bin .Mod false (.idx (.var 1) (.cst (.int 0))) (.cst (.int 21)))] K08b_law_1), (.ret (.call "_law_stands" [(.var 2), (.var 3), (.var 4)]))]
/-! ### law k08 -/
theorem rep_len (x : Str) (n : Nat) : (repS x n).length = n * x.length := by
  unfold repS
  have : ∀ (l : List (Array Nat)) (acc : Array Nat), (l.foldl (· ++ ·) acc).size = acc.size + (l.map Array.size).sum := by
    intro l
    induction l with
    | nil => intro acc; simp
    | cons a l ih => intro acc; rw [List.foldl_cons, ih, Array.size_append, List.map_cons, List.sum_cons]; omega
  show (List.foldl (· ++ ·) #[] (List.replicate n x.cps)).size = _
  rw [this, List.map_replicate, List.sum_replicate_nat]
  show 0 + n * x.length = _
  omega
theorem name_len (p k : Int) : (nameOf p k).length ≤ 1000 := by
  unfold nameOf
  split
  · exact (by decide : 1 ≤ 1000)
  · split
    · rw [len_app, len_app]
      have z := cut_len (t := p / 4 % 8) (by omega) (by omega)
      have : (⟨#[letC ((p / 32 + 11 * k) % 26)]⟩ : Str).length = 1 := rfl
      omega
    · split
      · rw [rep_len]
        have : (⟨#[letC ((p / 32 + 11 * k) % 26)]⟩ : Str).length = 1 := rfl
        rw [this]
        omega
      · have all : ∀ w ∈ wordsA, w.length ≤ 1000 := by decide +kernel
        rw [List.getD_eq_getElem?_getD]
        cases hw : wordsA[((p / 4 % 8 + k) % 9).toNat]? with
        | none => exact (by decide : 0 ≤ 1000)
        | some w => exact all w (List.mem_of_getElem? hw)
theorem mod_at {α : Type} {l : List α} {i : Int} (h0 : 0 ≤ i) (h1 : i < l.length) : ∃ x ∈ l, atI l i = some x := by
  rw [atI_nn h0 h1]
  have : i.toNat < l.length := by omega
  exact ⟨l[i.toNat], List.getElem_mem _, List.getElem?_eq_getElem this⟩
def spSmall : DSp := fun ds S Q X => ∃ fs i u, ds = [.lst (fs.map .int), .int i, u] ∧ Feed fs ∧ 0 ≤ i ∧ i ≤ 260 ∧ ∀ d, okDeed d → Q (deedD d) S
theorem ok_Small {G : Gc} (f1 : G.fn "_law_name" = some (2, spName)) : BodyOk G n__law_small 3 m__law_small spSmall := by
  rintro ds S Q X - ⟨fs, i, u, rfl, hf, i0, i1, q⟩
  have q := Hold.mk q
  show wSs G _ m__law_small [some (.lst (fs.map .int)), some (.int i), some u, none, none, none] S _
  unfold m__law_small
  have fd : ∀ j : Int, 0 ≤ j → j < 270 → ∃ v : Int, atI (fs.map D.int) j = some (.int v) := fun j h0 h1 => by
    have hl := hf.lo
    rw [atI_map, atI_nn h0 (by omega), List.getElem?_eq_getElem (by omega)]
    exact ⟨_, rfl⟩
  obtain ⟨v0, e0⟩ := fd i i0 (by omega)
  obtain ⟨v1, e1⟩ := fd (i + 1) (by omega) (by omega)
  obtain ⟨v2, e2⟩ := fd (i + 2) (by omega) (by omega)
  obtain ⟨v3, e3⟩ := fd (i + 3) (by omega) (by omega)
  obtain ⟨v4, e4⟩ := fd (i + 4) (by omega) (by omega)
  obtain ⟨v5, e5⟩ := fd 2 (by decide) (by decide)
  have z8 : (0 : Int) < 8 := by decide
  have z9 : (0 : Int) < 9 := by decide
  have z60 : (0 : Int) < 60 := by decide
  have z6 : (0 : Int) < 6 := by decide
  have p12 : (10 : Int) ^ (12 : Int).toNat = 1000000000000 := by decide
  have pok : (0 ≤ (12 : Int) ∧ (12 : Int) ≤ 1000000 ∧ (10 : Int).natAbs < 2 ^ 64) := by decide
  obtain ⟨w, hw, ew⟩ := mod_at (l := [D.str "house", .str "in", .str "out", .str "house", .str "fail", .str "mend", .str "house", .str "days"]) (i := v0 % 8) (by omega) (by simp; omega)
  have hn := name_len v5 (v1 % 9)
  generalize hnn : nameOf v5 (v1 % 9) = n at hn
  obtain ⟨x, hx, ex⟩ := mod_at (l := [D.str n, .str n, .str n, .str n, .str "nobody", .str "Bad", .str "", .str "ninesigns"]) (i := v2 % 8) (by omega) (by simp; omega)
  obtain ⟨y, rfl, hy⟩ : ∃ y, x = .str y ∧ y.length ≤ 1000 := by
    simp only [List.mem_cons, List.not_mem_nil, or_false] at hx
    rcases hx with rfl | rfl | rfl | rfl | rfl | rfl | rfl | rfl
    · exact ⟨_, rfl, hn⟩
    · exact ⟨_, rfl, hn⟩
    · exact ⟨_, rfl, hn⟩
    · exact ⟨_, rfl, hn⟩
    · exact ⟨_, rfl, by decide +kernel⟩
    · exact ⟨_, rfl, by decide +kernel⟩
    · exact ⟨_, rfl, by decide +kernel⟩
    · exact ⟨_, rfl, by decide +kernel⟩
  obtain ⟨k, hk, ek⟩ := mod_at (l := [D.int 0, .int 0, .int 0, .int 0, .int 0, .int 1, .int 2, .int 3, .int 4]) (i := v4 % 9) (by omega) (by simp; omega)
  obtain ⟨j, rfl, hj0, hj1⟩ : ∃ j : Int, k = .int j ∧ 0 ≤ j ∧ j < 5 := by
    simp only [List.mem_cons, List.not_mem_nil, or_false] at hk
    rcases hk with rfl | rfl | rfl | rfl | rfl | rfl | rfl | rfl | rfl <;> exact ⟨_, rfl, by decide, by decide⟩
  obtain ⟨c, hc, ec⟩ := mod_at (l := [D.int (v3 % 60), .int 1000000000000, .int (1000000000000 + 1), .int (-1), .int 0]) (i := j) hj0 (by simp; omega)
  obtain ⟨c, rfl⟩ : ∃ i : Int, c = .int i := by
    simp only [List.mem_cons, List.not_mem_nil, or_false] at hc
    rcases hc with rfl | rfl | rfl | rfl | rfl <;> exact ⟨_, rfl⟩
  obtain ⟨m, hm, em⟩ := mod_at (l := [D.int 1, .int 3, .int 1000, .int 1001, .int 0, .int (-1)]) (i := v3 % 6) (by omega) (by simp; omega)
  obtain ⟨m, rfl⟩ : ∃ i : Int, m = .int i := by
    simp only [List.mem_cons, List.not_mem_nil, or_false] at hm
    rcases hm with rfl | rfl | rfl | rfl | rfl | rfl <;> exact ⟨_, rfl⟩
  clear hx hk hc hm
  have hy' : y.length ≤ sizeLine := Nat.le_trans hy (by decide)
  simp only [List.mem_cons, List.not_mem_nil, or_false] at hw
  walk_at "f"
  refine cw_i ⟨v5, v1 % 9, rfl, ?_⟩
  rw [hnn]
  rcases hw with rfl | rfl | rfl | rfl | rfl | rfl | rfl | rfl <;> walk_at "f"
  · exact q.h (.house y c) hy'
  · exact q.h (.in_ y c) trivial
  · exact q.h (.out y c) trivial
  · exact q.h (.house y c) hy'
  · exact q.h (.fail y) trivial
  · exact q.h (.mend y) trivial
  · exact q.h (.house y c) hy'
  · exact q.h (.days m) trivial
/-! ### the law -/
def gsNew (s h d b : Addr) : Gs := ⟨s, h, d, b, [], 0, []⟩
/-- what stands behind each deed -/
structure Inv (a s st : Addr) (k : Nat) (S : Sto) (g : Gh) (t : Gs) : Prop where
  ea : g.a = a
  es : t.s = s
  hd : Hd S (allC g t st [])
  ok : OkH g.er
  od : OkD g.done
  lik : Gs.like t g.er
  b0 : g.bills = []
  dl : g.done.length ≤ k
theorem k08_b {G : Gc} {x : XW} {K : KS} {S : Sto} {a s st : Addr} {g : Gh} {t : Gs} {fs : List Int} {u y : Option D} {k : Nat} (f3 : G.fn "_law_small" = some (3, spSmall)) (f4 : G.fn "_law_step" = some (4, spStep)) (f5 : G.fn "_law_stands" = some (3, spStands)) (hf : Feed fs) (hk : k < 21) (I : Inv a s st k S g t)
    (q : ∀ S' g' t' y', Inv a s st (k + 1) S' g' t' → K.nx [u, some (.lst (fs.map .int)), some (.ref a), some (.ref s), some (.ref st), some (.int (k : Int)), y'] S') : wSs G x K08b_law_1 [u, some (.lst (fs.map .int)), some (.ref a), some (.ref s), some (.ref st), some (.int (k : Int)), y] S K := by
  have q := Hold.mk q
  unfold K08b_law_1
  walk_at "f"
  refine ⟨.inl (by decide), cw_i ⟨fs, _, _, rfl, hf, by omega, by omega, fun d od => ?_⟩⟩
  walk_at "f"
  refine cw_i ⟨g, t, st, [], d, by rw [I.ea, I.es], I.hd, I.ok, I.lik, od, by have := I.dl; omega, fun S' g' t' e1 e2 lik' alt hS' => ?_⟩
  have I' : Inv a s st (k + 1) S' g' t' := by
    have hb : g.er.bills = [] := by show g.bills.map _ = []; rw [I.b0]; rfl
    have dl := I.dl
    refine ⟨e1.trans I.ea, e2.trans I.es, hS', ?_, ?_, lik', ?_, ?_⟩
    · rcases alt with e | ⟨w0, e⟩
      · rw [e]; exact I.ok
      · rw [e]; exact okH_done I.ok hb w0 (by show g.done.length < 99999; omega)
    · have e : g'.done = g.done ∨ g'.done = g.done ++ [deedD d] := alt.imp (fun e => congrArg Ha.done e) (fun e => congrArg Ha.done e.2)
      rcases e with e | e
      · rw [e]; exact I.od
      · rw [e]
        intro z hz
        rcases List.mem_append.mp hz with hz | hz
        · exact I.od z hz
        · exact ⟨d, List.mem_singleton.mp hz⟩
    · have e : g'.er.bills = g.er.bills := by
        rcases alt with e | ⟨_, e⟩
        · rw [e]
        · rw [e, done_bills]
      rw [hb] at e
      exact List.map_eq_nil_iff.mp e
    · have e : g'.done = g.done ∨ g'.done = g.done ++ [deedD d] := alt.imp (fun e => congrArg Ha.done e) (fun e => congrArg Ha.done e.2)
      rcases e with e | e
      · rw [e]; omega
      · rw [e, List.length_append]; show g.done.length + 1 ≤ k + 1; omega
  walk_at "f"
  refine cw_i ⟨g', t', st, [], by rw [I'.ea, I'.es], I'.hd, I'.ok, I'.od, I'.lik, I'.b0, ?_⟩
  walk_at "f"
  exact q.h _ _ _ _ I'
theorem ok_k08 {G : Gc} (f1 : G.fn "_law_feed" = some (1, spFeed)) (f2 : G.mkr "Hall" = some (1, spHInit)) (f3 : G.fn "_law_small" = some (3, spSmall)) (f4 : G.fn "_law_step" = some (4, spStep)) (f5 : G.fn "_law_stands" = some (3, spStands)) : BodyOk G K08n_law 1 K08m_law spLaw := by
  rintro ds S Q X - ⟨ns, rfl, hl, rfl, q⟩
  have q := Hold.mk q
  show wSs G _ K08m_law [some (.scr ns), none, none, none, none, none, none] (fun _ => none) _
  unfold K08m_law
  walk_at "f"
  refine cw_i ⟨ns, rfl, fun fs hf => ?_⟩
  unfold fdD
  walk_at "f"
  refine nw_i fun a ha => ?_
  refine cw_i ⟨a, [], rfl, Hd.nil.new ha _, fun S1 ca hh da ba na hS1 => ⟨rfl, ?_⟩⟩
  rw [List.append_nil] at hS1
  walk_at "f"
  refine nw_i fun p1 hp1 => ?_
  walk_at "f"
  refine nw_i fun p2 hp2 => ?_
  walk_at "f"
  refine nw_i fun p3 hp3 => ?_
  walk_at "f"
  refine nw_i fun p4 hp4 => ?_
  walk_at "f"
  refine nw_i fun p5 hp5 => ?_
  have h1 := (((((hS1.new hp1 (.dct [])).new hp2 (.dct [])).new hp3 (.lst [])).new hp4 (.lst [.ref p1, .ref p2, .int 0, .ref p3])).new hp5 (.lst []))
  have hl0 := hf.lo
  have e0 : atI (fs.map D.int) 0 = some (.int fs[0]) := by rw [atI_map, atI_nn (by decide) (by omega), List.getElem?_eq_getElem (by show 0 < fs.length; omega)]; rfl
  have I0 : Inv a p4 p5 0 (put (put (put (put (put S1 p1 (.dct [])) p2 (.dct [])) p3 (.lst [])) p4 (.lst [.ref p1, .ref p2, .int 0, .ref p3])) p5 (.lst [])) (gNew a ca hh da ba na) (gsNew p4 p1 p2 p3) := by
    refine ⟨rfl, rfl, ?_, ⟨fun q h => (nomatch h), List.nodup_nil, Nat.zero_le _, Nat.zero_le _, fun b h => (nomatch h), (by decide : 0 < 100000)⟩, fun x h => (nomatch h), ⟨rfl, rfl, rfl⟩, rfl, Nat.le_refl _⟩
    refine h1.perm ?_
    show ([(p5, MO.lst []), (p4, MO.lst [.ref p1, .ref p2, .int 0, .ref p3]), (p3, MO.lst []), (p2, MO.dct []), (p1, MO.dct [])] ++ hallC (gNew a ca hh da ba na)).Perm (hallC (gNew a ca hh da ba na) ++ [(p4, MO.lst [.ref p1, .ref p2, .int 0, .ref p3]), (p1, MO.dct []), (p2, MO.dct []), (p3, MO.lst []), (p5, MO.lst [])])
    refine List.perm_append_comm.trans (List.Perm.append_left _ ?_)
    refine (List.perm_middle (l₁ := [(p5, MO.lst [])]) (l₂ := [(p3, MO.lst []), (p2, MO.dct []), (p1, MO.dct [])])).trans (List.Perm.cons _ ?_)
    exact (List.reverse_perm [(p5, MO.lst []), (p3, MO.lst []), (p2, MO.dct []), (p1, MO.dct [])]).symm
  have z21 : (0 : Int) < 21 := by decide
  walk_at "f"
  have b1 : 0 ≤ fs[0] % 21 := Int.emod_nonneg _ (by decide)
  have b2 : fs[0] % 21 < 21 := Int.emod_lt_of_pos _ (by decide)
  refine ⟨⟨by omega, by omega⟩, fl_i (for_rule (fun k σ' S' => ∃ g t x y, σ' = [some (.scr ns), some (.lst (fs.map .int)), some (.ref a), some (.ref p4), some (.ref p5), x, y] ∧ Inv a p4 p5 k S' g t) ⟨_, _, none, none, rfl, I0⟩ ?_ ?_)⟩
  · rintro i d σ' S' hd ⟨g, t, x, y, rfl, I⟩
    obtain ⟨rfl, hi⟩ := range_at hd
    exact ⟨trivial, _, rfl, k08_b f3 f4 f5 hf (by omega) I (fun S2 g2 t2 y2 I2 => ⟨g2, t2, _, _, rfl, I2⟩)⟩
  · rintro σ' S' ⟨g, t, x, y, rfl, I⟩
    refine ⟨trivial, ?_⟩
    walk_at "f"
    exact cw_i ⟨g, t, p5, [], by rw [I.ea, I.es], I.hd, I.ok, I.od, I.lik, I.b0, q.h _⟩
end Mn

namespace Mn
open PySem L2
def conA : List (Str × D) := [("LETTERS", .str "abcdefghijklmnopqrstuvwxyz"), ("HOUSES_MOST", .int 9), ("COINS_MOST", .int 1000000000000), ("DAYS_MOST", .int 1000)]
def cfA : Cfg := cfgP XA fldL (conL conA)
def en0 : Ent := ⟨d_is_name, ["word"], n_is_name, m_is_name, spPure fIsName⟩
def es0 : List Ent := [en0]
def en1 : Ent := ⟨d_Purses___init__, ["self"], n_Purses___init__, m_Purses___init__, spPInit⟩
def es1 : List Ent := en1 :: es0
def en2 : Ent := ⟨d_Purses_need, ["self", "name"], n_Purses_need, m_Purses_need, spPNeed⟩
def es2 : List Ent := en2 :: es1
def en3 : Ent := ⟨d_Purses_look_at, ["self", "coins"], n_Purses_look_at, m_Purses_look_at, spPLook⟩
def es3 : List Ent := en3 :: es2
def en4 : Ent := ⟨d_Purses_add_purse, ["self", "name", "coins"], n_Purses_add_purse, m_Purses_add_purse, spPAdd⟩
def es4 : List Ent := en4 :: es3
def en5 : Ent := ⟨d_Purses_coins, ["self", "name"], n_Purses_coins, m_Purses_coins, spPCoins⟩
def es5 : List Ent := en5 :: es4
def en6 : Ent := ⟨d_Purses_fill, ["self", "name", "coins"], n_Purses_fill, m_Purses_fill, spPFill⟩
def es6 : List Ent := en6 :: es5
def en7 : Ent := ⟨d_Purses_spend, ["self", "name", "coins"], n_Purses_spend, m_Purses_spend, spPSpend⟩
def es7 : List Ent := en7 :: es6
def en8 : Ent := ⟨d_Hall___init__, ["self"], n_Hall___init__, m_Hall___init__, spHInit⟩
def es8 : List Ent := en8 :: es7
def en9 : Ent := ⟨d_Hall_need, ["self", "name"], n_Hall_need, m_Hall_need, spHNeed⟩
def es9 : List Ent := en9 :: es8
def en10 : Ent := ⟨d_Hall_must_stand, ["self", "name"], n_Hall_must_stand, m_Hall_must_stand, spHStand⟩
def es10 : List Ent := en10 :: es9
def en11 : Ent := ⟨d_Hall_house, ["self", "name", "coins"], n_Hall_house, m_Hall_house, spHouse⟩
def es11 : List Ent := en11 :: es10
def en12 : Ent := ⟨d_Hall_look_at_coins, ["self", "coins"], n_Hall_look_at_coins, m_Hall_look_at_coins, spHCoinsOk⟩
def es12 : List Ent := en12 :: es11
def en13 : Ent := ⟨d_Hall_put_in, ["self", "name", "coins"], n_Hall_put_in, m_Hall_put_in, spPutIn⟩
def es13 : List Ent := en13 :: es12
def en14 : Ent := ⟨d_Hall_take_out, ["self", "name", "coins"], n_Hall_take_out, m_Hall_take_out, spTakeOut⟩
def es14 : List Ent := en14 :: es13
def en15 : Ent := ⟨d_Hall_fail, ["self", "name"], n_Hall_fail, m_Hall_fail, spFail⟩
def es15 : List Ent := en15 :: es14
def en16 : Ent := ⟨d_Hall_mend, ["self", "name"], n_Hall_mend, m_Hall_mend, spMend⟩
def es16 : List Ent := en16 :: es15
def en17 : Ent := ⟨d_Hall_pass_days, ["self", "many"], n_Hall_pass_days, m_Hall_pass_days, spDays⟩
def es17 : List Ent := en17 :: es16
def en18 : Ent := ⟨d_Hall_names, ["self"], n_Hall_names, m_Hall_names, spNames⟩
def es18 : List Ent := en18 :: es17
def en19 : Ent := ⟨d_Hall_coins, ["self", "name"], n_Hall_coins, m_Hall_coins, spHCoins⟩
def es19 : List Ent := en19 :: es18
def en20 : Ent := ⟨d_Hall_stands, ["self", "name"], n_Hall_stands, m_Hall_stands, spStandsH⟩
def es20 : List Ent := en20 :: es19
def en21 : Ent := ⟨d_Hall_today, ["self"], n_Hall_today, m_Hall_today, spToday⟩
def es21 : List Ent := en21 :: es20
def en22 : Ent := ⟨d_Hall_many_bills, ["self"], n_Hall_many_bills, m_Hall_many_bills, spMany⟩
def es22 : List Ent := en22 :: es21
def en23 : Ent := ⟨d_Hall_story, ["self"], n_Hall_story, m_Hall_story, spStory⟩
def es23 : List Ent := en23 :: es22
def en24 : Ent := ⟨d_Hall_moment, ["self"], n_Hall_moment, m_Hall_moment, spMoment⟩
def es24 : List Ent := en24 :: es23
def en25 : Ent := ⟨d_do_simple, ["hall", "deed"], n_do_simple, m_do_simple, spDeed⟩
def es25 : List Ent := en25 :: es24
def en26 : Ent := ⟨d_do_deed, ["hall", "deed"], n_do_deed, m_do_deed, spDeed⟩
def es26 : List Ent := en26 :: es25
def en27 : Ent := ⟨d__law_feed, ["_law_script"], n__law_feed, m__law_feed, spFeed⟩
def es27 : List Ent := en27 :: es26
def en28 : Ent := ⟨d__law_name, ["_law_pick", "_law_k"], n__law_name, m__law_name, spName⟩
def es28 : List Ent := en28 :: es27
def en29 : Ent := ⟨d__law_same, ["_law_found", "_law_due"], n__law_same, m__law_same, spSameV 0⟩
def es29 : List Ent := en29 :: es28
def en30 : Ent := ⟨d__law_same, ["_law_found", "_law_due"], n__law_same, m__law_same, spSameV 1⟩
def es30 : List Ent := en30 :: es29
def en31 : Ent := ⟨d__law_same, ["_law_found", "_law_due"], n__law_same, m__law_same, spSameV 2⟩
def es31 : List Ent := en31 :: es30
def en32 : Ent := ⟨d__law_same, ["_law_found", "_law_due"], n__law_same, m__law_same, spSameV 3⟩
def es32 : List Ent := en32 :: es31
def en33 : Ent := ⟨d__law_is_name, ["_law_word_here"], ["_law_word_here", "_law_sign"], m__law_is_name, spPure fIsName⟩
def es33 : List Ent := en33 :: es32
def en34 : Ent := ⟨d__law_checks, ["_law_state", "_law_deed"], n__law_checks, m__law_checks, spChecks⟩
def es34 : List Ent := en34 :: es33
def en35 : Ent := ⟨d__law_word, ["_law_state", "_law_deed"], n__law_word, m__law_word, spWord⟩
def es35 : List Ent := en35 :: es34
def en36 : Ent := ⟨d__law_done, ["_law_state", "_law_deed"], n__law_done, m__law_done, spDone⟩
def es36 : List Ent := en36 :: es35
def en37 : Ent := ⟨d__law_tried, ["_law_hall", "_law_deed"], n__law_tried, m__law_tried, spTried⟩
def es37 : List Ent := en37 :: es36
def en38 : Ent := ⟨d__law_stands, ["_law_hall", "_law_state", "_law_story"], n__law_stands, m__law_stands, spStands⟩
def es38 : List Ent := en38 :: es37
def en39 : Ent := ⟨d__law_step, ["_law_hall", "_law_state", "_law_story", "_law_deed"], n__law_step, m__law_step, spStep⟩
def es39 : List Ent := en39 :: es38
def en40 : Ent := ⟨d__law_small, ["_law_feed_here", "_law_at", "_law_state"], n__law_small, m__law_small, spSmall⟩
def es40 : List Ent := en40 :: es39
def en41 : Ent := ⟨d_law, ["_law_script"], K08n_law, K08m_law, spLaw⟩
def es41 : List Ent := en41 :: es40
theorem ck0 : en0.chk = true := by kernel_rfl
theorem bi0 : en0.binds := fun _ _ _ _ _ _ us hl => match us, hl with | [_], _ => rfl
theorem md0 : Mods cfA faA fnA es0 := .cons .nil 0 (by rfl) (hgG (by kernel_rfl : faA[18]? = _)) ck0 bi0 (ok_is_name (by kernel_rfl))
theorem ck1 : en1.chk = true := by kernel_rfl
theorem bi1 : en1.binds := fun _ _ _ _ _ _ us hl => match us, hl with | [_], _ => rfl
theorem md1 : Mods cfA faA fnA es1 := .cons md0 1 (by rfl) (hgI (by kernel_rfl : faA[19]? = _) (by kernel_rfl : faA[20]? = _) (by kernel_rfl : faA[21]? = _)) ck1 bi1 (ok_PInit rfl)
theorem ck2 : en2.chk = true := by kernel_rfl
theorem bi2 : en2.binds := fun _ _ _ _ _ _ us hl => match us, hl with | [_, _], _ => rfl
theorem md2 : Mods cfA faA fnA es2 := .cons md1 2 (by rfl) (hgM (by decide +kernel) (by kernel_rfl : faA[20]? = _) (by kernel_rfl : faA[22]? = _)) ck2 bi2 (ok_PNeed rfl (ys := []) (yb := false) rfl)
theorem ck3 : en3.chk = true := by kernel_rfl
theorem bi3 : en3.binds := fun _ _ _ _ _ _ us hl => match us, hl with | [_, _], _ => rfl
theorem md3 : Mods cfA faA fnA es3 := .cons md2 3 (by rfl) (hgM (by decide +kernel) (by kernel_rfl : faA[20]? = _) (by kernel_rfl : faA[23]? = _)) ck3 bi3 (ok_PLook (ys := []) (yb := false) rfl)
theorem ck4 : en4.chk = true := by kernel_rfl
theorem bi4 : en4.binds := fun _ _ _ _ _ _ us hl => match us, hl with | [_, _, _], _ => rfl
theorem md4 : Mods cfA faA fnA es4 := .cons md3 4 (by rfl) (hgM (by decide +kernel) (by kernel_rfl : faA[20]? = _) (by kernel_rfl : faA[24]? = _)) ck4 bi4 (ok_PAdd rfl (ys := []) (yb := false) rfl (by kernel_rfl))
theorem ck5 : en5.chk = true := by kernel_rfl
theorem bi5 : en5.binds := fun _ _ _ _ _ _ us hl => match us, hl with | [_, _], _ => rfl
theorem md5 : Mods cfA faA fnA es5 := .cons md4 5 (by rfl) (hgM (by decide +kernel) (by kernel_rfl : faA[20]? = _) (by kernel_rfl : faA[25]? = _)) ck5 bi5 (ok_PCoins rfl (by kernel_rfl))
theorem ck6 : en6.chk = true := by kernel_rfl
theorem bi6 : en6.binds := fun _ _ _ _ _ _ us hl => match us, hl with | [_, _, _], _ => rfl
theorem md6 : Mods cfA faA fnA es6 := .cons md5 6 (by rfl) (hgM (by decide +kernel) (by kernel_rfl : faA[20]? = _) (by kernel_rfl : faA[26]? = _)) ck6 bi6 (ok_PFill rfl (by kernel_rfl) (by kernel_rfl))
theorem ck7 : en7.chk = true := by kernel_rfl
theorem bi7 : en7.binds := fun _ _ _ _ _ _ us hl => match us, hl with | [_, _, _], _ => rfl
theorem md7 : Mods cfA faA fnA es7 := .cons md6 7 (by rfl) (hgM (by decide +kernel) (by kernel_rfl : faA[20]? = _) (by kernel_rfl : faA[27]? = _)) ck7 bi7 (ok_PSpend rfl (ys := []) (yb := false) rfl (by kernel_rfl) (by kernel_rfl))
theorem ck8 : en8.chk = true := by kernel_rfl
theorem bi8 : en8.binds := fun _ _ _ _ _ _ us hl => match us, hl with | [_], _ => rfl
theorem md8 : Mods cfA faA fnA es8 := .cons md7 8 (by rfl) (hgI (by kernel_rfl : faA[28]? = _) (by kernel_rfl : faA[29]? = _) (by kernel_rfl : faA[30]? = _)) ck8 bi8 (ok_HInit rfl (by kernel_rfl))
theorem ck9 : en9.chk = true := by kernel_rfl
theorem bi9 : en9.binds := fun _ _ _ _ _ _ us hl => match us, hl with | [_, _], _ => rfl
theorem md9 : Mods cfA faA fnA es9 := .cons md8 9 (by rfl) (hgM (by decide +kernel) (by kernel_rfl : faA[29]? = _) (by kernel_rfl : faA[31]? = _)) ck9 bi9 (ok_HNeed rfl (ys := []) (yb := false) rfl)
theorem ck10 : en10.chk = true := by kernel_rfl
theorem bi10 : en10.binds := fun _ _ _ _ _ _ us hl => match us, hl with | [_, _], _ => rfl
theorem md10 : Mods cfA faA fnA es10 := .cons md9 10 (by rfl) (hgM (by decide +kernel) (by kernel_rfl : faA[29]? = _) (by kernel_rfl : faA[32]? = _)) ck10 bi10 (ok_HStand rfl (ys := []) (yb := false) rfl)
theorem ck11 : en11.chk = true := by kernel_rfl
theorem bi11 : en11.binds := fun _ _ _ _ _ _ us hl => match us, hl with | [_, _, _], _ => rfl
theorem md11 : Mods cfA faA fnA es11 := .cons md10 11 (by rfl) (hgM (by decide +kernel) (by kernel_rfl : faA[29]? = _) (by kernel_rfl : faA[33]? = _)) ck11 bi11 (ok_House rfl (ys := []) (yb := false) rfl (by kernel_rfl) (by kernel_rfl) (by kernel_rfl) (by kernel_rfl))
theorem ck12 : en12.chk = true := by kernel_rfl
theorem bi12 : en12.binds := fun _ _ _ _ _ _ us hl => match us, hl with | [_, _], _ => rfl
theorem md12 : Mods cfA faA fnA es12 := .cons md11 12 (by rfl) (hgM (by decide +kernel) (by kernel_rfl : faA[29]? = _) (by kernel_rfl : faA[34]? = _)) ck12 bi12 (ok_HCoinsOk (ys := []) (yb := false) rfl (by kernel_rfl))
theorem ck13 : en13.chk = true := by kernel_rfl
theorem bi13 : en13.binds := fun _ _ _ _ _ _ us hl => match us, hl with | [_, _, _], _ => rfl
theorem md13 : Mods cfA faA fnA es13 := .cons md12 13 (by rfl) (hgM (by decide +kernel) (by kernel_rfl : faA[29]? = _) (by kernel_rfl : faA[35]? = _)) ck13 bi13 (ok_PutIn rfl (by kernel_rfl) (by kernel_rfl) (by kernel_rfl))
theorem ck14 : en14.chk = true := by kernel_rfl
theorem bi14 : en14.binds := fun _ _ _ _ _ _ us hl => match us, hl with | [_, _, _], _ => rfl
theorem md14 : Mods cfA faA fnA es14 := .cons md13 14 (by rfl) (hgM (by decide +kernel) (by kernel_rfl : faA[29]? = _) (by kernel_rfl : faA[36]? = _)) ck14 bi14 (ok_TakeOut rfl (by kernel_rfl) (by kernel_rfl) (by kernel_rfl))
theorem ck15 : en15.chk = true := by kernel_rfl
theorem bi15 : en15.binds := fun _ _ _ _ _ _ us hl => match us, hl with | [_, _], _ => rfl
theorem md15 : Mods cfA faA fnA es15 := .cons md14 15 (by rfl) (hgM (by decide +kernel) (by kernel_rfl : faA[29]? = _) (by kernel_rfl : faA[37]? = _)) ck15 bi15 (ok_Fail rfl (by kernel_rfl) (by kernel_rfl))
theorem ck16 : en16.chk = true := by kernel_rfl
theorem bi16 : en16.binds := fun _ _ _ _ _ _ us hl => match us, hl with | [_, _], _ => rfl
theorem md16 : Mods cfA faA fnA es16 := .cons md15 16 (by rfl) (hgM (by decide +kernel) (by kernel_rfl : faA[29]? = _) (by kernel_rfl : faA[38]? = _)) ck16 bi16 (ok_Mend rfl (ys := []) (yb := false) rfl (by kernel_rfl))
theorem ck17 : en17.chk = true := by kernel_rfl
theorem bi17 : en17.binds := fun _ _ _ _ _ _ us hl => match us, hl with | [_, _], _ => rfl
theorem md17 : Mods cfA faA fnA es17 := .cons md16 17 (by rfl) (hgM (by decide +kernel) (by kernel_rfl : faA[29]? = _) (by kernel_rfl : faA[39]? = _)) ck17 bi17 (ok_Days rfl (ys := []) (yb := false) rfl (by kernel_rfl))
theorem ck18 : en18.chk = true := by kernel_rfl
theorem bi18 : en18.binds := fun _ _ _ _ _ _ us hl => match us, hl with | [_], _ => rfl
theorem md18 : Mods cfA faA fnA es18 := .cons md17 18 (by rfl) (hgM (by decide +kernel) (by kernel_rfl : faA[29]? = _) (by kernel_rfl : faA[40]? = _)) ck18 bi18 (ok_Names rfl)
theorem ck19 : en19.chk = true := by kernel_rfl
theorem bi19 : en19.binds := fun _ _ _ _ _ _ us hl => match us, hl with | [_, _], _ => rfl
theorem md19 : Mods cfA faA fnA es19 := .cons md18 19 (by rfl) (hgM (by decide +kernel) (by kernel_rfl : faA[29]? = _) (by kernel_rfl : faA[41]? = _)) ck19 bi19 (ok_HCoins rfl (by kernel_rfl))
theorem ck20 : en20.chk = true := by kernel_rfl
theorem bi20 : en20.binds := fun _ _ _ _ _ _ us hl => match us, hl with | [_, _], _ => rfl
theorem md20 : Mods cfA faA fnA es20 := .cons md19 20 (by rfl) (hgM (by decide +kernel) (by kernel_rfl : faA[29]? = _) (by kernel_rfl : faA[42]? = _)) ck20 bi20 (ok_StandsH rfl (by kernel_rfl))
theorem ck21 : en21.chk = true := by kernel_rfl
theorem bi21 : en21.binds := fun _ _ _ _ _ _ us hl => match us, hl with | [_], _ => rfl
theorem md21 : Mods cfA faA fnA es21 := .cons md20 21 (by rfl) (hgM (by decide +kernel) (by kernel_rfl : faA[29]? = _) (by kernel_rfl : faA[43]? = _)) ck21 bi21 (ok_Today rfl)
theorem ck22 : en22.chk = true := by kernel_rfl
theorem bi22 : en22.binds := fun _ _ _ _ _ _ us hl => match us, hl with | [_], _ => rfl
theorem md22 : Mods cfA faA fnA es22 := .cons md21 22 (by rfl) (hgM (by decide +kernel) (by kernel_rfl : faA[29]? = _) (by kernel_rfl : faA[44]? = _)) ck22 bi22 (ok_Many rfl)
theorem ck23 : en23.chk = true := by kernel_rfl
theorem bi23 : en23.binds := fun _ _ _ _ _ _ us hl => match us, hl with | [_], _ => rfl
theorem md23 : Mods cfA faA fnA es23 := .cons md22 23 (by rfl) (hgM (by decide +kernel) (by kernel_rfl : faA[29]? = _) (by kernel_rfl : faA[45]? = _)) ck23 bi23 (ok_Story rfl)
theorem ck24 : en24.chk = true := by kernel_rfl
theorem bi24 : en24.binds := fun _ _ _ _ _ _ us hl => match us, hl with | [_], _ => rfl
theorem md24 : Mods cfA faA fnA es24 := .cons md23 24 (by rfl) (hgM (by decide +kernel) (by kernel_rfl : faA[29]? = _) (by kernel_rfl : faA[46]? = _)) ck24 bi24 (ok_Moment rfl)
theorem ck25 : en25.chk = true := by kernel_rfl
theorem bi25 : en25.binds := fun _ _ _ _ _ _ us hl => match us, hl with | [_, _], _ => rfl
theorem md25 : Mods cfA faA fnA es25 := .cons md24 25 (by rfl) (hgG (by kernel_rfl : faA[47]? = _)) ck25 bi25 (ok_Simple (by kernel_rfl) (by kernel_rfl) (by kernel_rfl) (by kernel_rfl) (by kernel_rfl) (by kernel_rfl))
theorem ck26 : en26.chk = true := by kernel_rfl
theorem bi26 : en26.binds := fun _ _ _ _ _ _ us hl => match us, hl with | [_, _], _ => rfl
theorem md26 : Mods cfA faA fnA es26 := .cons md25 26 (by rfl) (hgG (by kernel_rfl : faA[48]? = _)) ck26 bi26 (ok_Deed (by kernel_rfl))
theorem ck27 : en27.chk = true := by kernel_rfl
theorem bi27 : en27.binds := fun _ _ _ _ _ _ us hl => match us, hl with | [_], _ => rfl
theorem md27 : Mods cfA faA fnA es27 := .cons md26 27 (by rfl) (hgG (by kernel_rfl : faA[49]? = _)) ck27 bi27 (ok_feed)
theorem ck28 : en28.chk = true := by kernel_rfl
theorem bi28 : en28.binds := fun _ _ _ _ _ _ us hl => match us, hl with | [_, _], _ => rfl
theorem md28 : Mods cfA faA fnA es28 := .cons md27 28 (by rfl) (hgG (by kernel_rfl : faA[50]? = _)) ck28 bi28 (ok_name)
theorem ck29 : en29.chk = true := by kernel_rfl
theorem bi29 : en29.binds := fun _ _ _ _ _ _ us hl => match us, hl with | [_, _], _ => rfl
theorem md29 : Mods cfA faA fnA es29 := .cons md28 29 (by rfl) (hgG (by kernel_rfl : faA[51]? = _)) ck29 bi29 (ok_sameV 0 (fun _ h => nomatch h))
theorem ck30 : en30.chk = true := ck29
theorem bi30 : en30.binds := bi29
theorem md30 : Mods cfA faA fnA es30 := .cons md29 29 (by rfl) (hgG (by kernel_rfl : faA[51]? = _)) ck30 bi30 (ok_sameV 1 (fun _ h => by cases h; kernel_rfl))
theorem ck31 : en31.chk = true := ck29
theorem bi31 : en31.binds := bi29
theorem md31 : Mods cfA faA fnA es31 := .cons md30 29 (by rfl) (hgG (by kernel_rfl : faA[51]? = _)) ck31 bi31 (ok_sameV 2 (fun _ h => by cases h; kernel_rfl))
theorem ck32 : en32.chk = true := ck29
theorem bi32 : en32.binds := bi29
theorem md32 : Mods cfA faA fnA es32 := .cons md31 29 (by rfl) (hgG (by kernel_rfl : faA[51]? = _)) ck32 bi32 (ok_sameV 3 (fun _ h => by cases h; kernel_rfl))
theorem ck33 : en33.chk = true := by kernel_rfl
theorem bi33 : en33.binds := fun _ _ _ _ _ _ us hl => match us, hl with | [_], _ => rfl
theorem md33 : Mods cfA faA fnA es33 := .cons md32 30 (by rfl) (hgG (by kernel_rfl : faA[52]? = _)) ck33 bi33 (ok_law_is_name)
theorem ck34 : en34.chk = true := by kernel_rfl
theorem bi34 : en34.binds := fun _ _ _ _ _ _ us hl => match us, hl with | [_, _], _ => rfl
theorem md34 : Mods cfA faA fnA es34 := .cons md33 31 (by rfl) (hgG (by kernel_rfl : faA[53]? = _)) ck34 bi34 (ok_Checks (by kernel_rfl))
theorem ck35 : en35.chk = true := by kernel_rfl
theorem bi35 : en35.binds := fun _ _ _ _ _ _ us hl => match us, hl with | [_, _], _ => rfl
theorem md35 : Mods cfA faA fnA es35 := .cons md34 32 (by rfl) (hgG (by kernel_rfl : faA[54]? = _)) ck35 bi35 (ok_Word (by kernel_rfl))
theorem ck36 : en36.chk = true := by kernel_rfl
theorem bi36 : en36.binds := fun _ _ _ _ _ _ us hl => match us, hl with | [_, _], _ => rfl
theorem md36 : Mods cfA faA fnA es36 := .cons md35 33 (by rfl) (hgG (by kernel_rfl : faA[55]? = _)) ck36 bi36 (ok_Done)
theorem ck37 : en37.chk = true := by kernel_rfl
theorem bi37 : en37.binds := fun _ _ _ _ _ _ us hl => match us, hl with | [_, _], _ => rfl
theorem md37 : Mods cfA faA fnA es37 := .cons md36 34 (by rfl) (hgG (by kernel_rfl : faA[56]? = _)) ck37 bi37 (ok_Tried (ys := []) (yb := false) rfl (by kernel_rfl))
theorem ck38 : en38.chk = true := by kernel_rfl
theorem bi38 : en38.binds := fun _ _ _ _ _ _ us hl => match us, hl with | [_, _, _], _ => rfl
theorem md38 : Mods cfA faA fnA es38 := .cons md37 35 (by rfl) (hgG (by kernel_rfl : faA[57]? = _)) ck38 bi38 (ok_Stands_ (by kernel_rfl) (by kernel_rfl) (by kernel_rfl) (by kernel_rfl) (by kernel_rfl) (by kernel_rfl) (by kernel_rfl) (by kernel_rfl))
theorem ck39 : en39.chk = true := by kernel_rfl
theorem bi39 : en39.binds := fun _ _ _ _ _ _ us hl => match us, hl with | [_, _, _, _], _ => rfl
theorem md39 : Mods cfA faA fnA es39 := .cons md38 36 (by rfl) (hgG (by kernel_rfl : faA[58]? = _)) ck39 bi39 (ok_Step (by kernel_rfl) (by kernel_rfl) (by kernel_rfl) (by kernel_rfl))
theorem ck40 : en40.chk = true := by kernel_rfl
theorem bi40 : en40.binds := fun _ _ _ _ _ _ us hl => match us, hl with | [_, _, _], _ => rfl
theorem md40 : Mods cfA faA fnA es40 := .cons md39 37 (by rfl) (hgG (by kernel_rfl : faA[59]? = _)) ck40 bi40 (ok_Small (by kernel_rfl))
theorem ck41 : en41.chk = true := by kernel_rfl
theorem bi41 : en41.binds := fun _ _ _ _ _ _ us hl => match us, hl with | [_], _ => rfl
theorem md41 : Mods cfA faA fnA es41 := .cons md40 38 (by rfl) (hgG (by kernel_rfl : faA[60]? = _)) ck41 bi41 (ok_k08 (by kernel_rfl) (by kernel_rfl) (by kernel_rfl) (by kernel_rfl) (by kernel_rfl))
theorem ib_HallError : BindsD x_HallError ["self", "why"] := fun _ _ _ _ _ _ us hl => match us, hl with | [_, _], _ => rfl
theorem ib_BadName : BindsD x_BadName ["self", "why"] := fun _ _ _ _ _ _ us hl => match us, hl with | [_, _], _ => rfl
theorem ib_Taken : BindsD x_Taken ["self", "why"] := fun _ _ _ _ _ _ us hl => match us, hl with | [_, _], _ => rfl
theorem ib_BadCoins : BindsD x_BadCoins ["self", "why"] := fun _ _ _ _ _ _ us hl => match us, hl with | [_, _], _ => rfl
theorem ib_Full : BindsD x_Full ["self", "why"] := fun _ _ _ _ _ _ us hl => match us, hl with | [_, _], _ => rfl
theorem ib_NoHouse : BindsD x_NoHouse ["self", "why"] := fun _ _ _ _ _ _ us hl => match us, hl with | [_, _], _ => rfl
theorem ib_NoCoins : BindsD x_NoCoins ["self", "why"] := fun _ _ _ _ _ _ us hl => match us, hl with | [_, _], _ => rfl
theorem ib_Failed : BindsD x_Failed ["self", "why"] := fun _ _ _ _ _ _ us hl => match us, hl with | [_, _], _ => rfl
theorem ib_Standing : BindsD x_Standing ["self", "why"] := fun _ _ _ _ _ _ us hl => match us, hl with | [_, _], _ => rfl
theorem ib_BadCount : BindsD x_BadCount ["self", "why"] := fun _ _ _ _ _ _ us hl => match us, hl with | [_, _], _ => rfl
theorem ib_BadDay : BindsD x_BadDay ["self", "why"] := fun _ _ _ _ _ _ us hl => match us, hl with | [_, _], _ => rfl
theorem ib_NoBill : BindsD x_NoBill ["self", "why"] := fun _ _ _ _ _ _ us hl => match us, hl with | [_, _], _ => rfl
theorem ib_Void : BindsD x_Void ["self", "why"] := fun _ _ _ _ _ _ us hl => match us, hl with | [_, _], _ => rfl
theorem ib_Closed : BindsD x_Closed ["self", "why"] := fun _ _ _ _ _ _ us hl => match us, hl with | [_, _], _ => rfl
theorem ib_Accepted : BindsD x_Accepted ["self", "why"] := fun _ _ _ _ _ _ us hl => match us, hl with | [_, _], _ => rfl
theorem ib_Same : BindsD x_Same ["self", "why"] := fun _ _ _ _ _ _ us hl => match us, hl with | [_, _], _ => rfl
theorem ib_NotBlank : BindsD x_NotBlank ["self", "why"] := fun _ _ _ _ _ _ us hl => match us, hl with | [_, _], _ => rfl
theorem ib_NotYet : BindsD x_NotYet ["self", "why"] := fun _ _ _ _ _ _ us hl => match us, hl with | [_, _], _ => rfl
theorem ib_NotPresented : BindsD x_NotPresented ["self", "why"] := fun _ _ _ _ _ _ us hl => match us, hl with | [_, _], _ => rfl
theorem ib_Protested : BindsD x_Protested ["self", "why"] := fun _ _ _ _ _ _ us hl => match us, hl with | [_, _], _ => rfl
theorem ib_TooLate : BindsD x_TooLate ["self", "why"] := fun _ _ _ _ _ _ us hl => match us, hl with | [_, _], _ => rfl
theorem ib_NotBound : BindsD x_NotBound ["self", "why"] := fun _ _ _ _ _ _ us hl => match us, hl with | [_, _], _ => rfl
theorem ib_CantPay : BindsD x_CantPay ["self", "why"] := fun _ _ _ _ _ _ us hl => match us, hl with | [_, _], _ => rfl
theorem ib_NotProtested : BindsD x_NotProtested ["self", "why"] := fun _ _ _ _ _ _ us hl => match us, hl with | [_, _], _ => rfl
theorem ib_IsBound : BindsD x_IsBound ["self", "why"] := fun _ _ _ _ _ _ us hl => match us, hl with | [_, _], _ => rfl
theorem ib_Twice : BindsD x_Twice ["self", "why"] := fun _ _ _ _ _ _ us hl => match us, hl with | [_, _], _ => rfl
theorem ic_BadName : ∃ (i : Nat) (d : He.DefD), fnA[i]? = some d ∧ ini1 d "BadName" = true ∧ BindsD d ["self", "why"] := ⟨40, x_BadName, by rfl, by kernel_rfl, ib_BadName⟩
theorem ic_Taken : ∃ (i : Nat) (d : He.DefD), fnA[i]? = some d ∧ ini1 d "Taken" = true ∧ BindsD d ["self", "why"] := ⟨41, x_Taken, by rfl, by kernel_rfl, ib_Taken⟩
theorem ic_BadCoins : ∃ (i : Nat) (d : He.DefD), fnA[i]? = some d ∧ ini1 d "BadCoins" = true ∧ BindsD d ["self", "why"] := ⟨42, x_BadCoins, by rfl, by kernel_rfl, ib_BadCoins⟩
theorem ic_Full : ∃ (i : Nat) (d : He.DefD), fnA[i]? = some d ∧ ini1 d "Full" = true ∧ BindsD d ["self", "why"] := ⟨43, x_Full, by rfl, by kernel_rfl, ib_Full⟩
theorem ic_NoHouse : ∃ (i : Nat) (d : He.DefD), fnA[i]? = some d ∧ ini1 d "NoHouse" = true ∧ BindsD d ["self", "why"] := ⟨44, x_NoHouse, by rfl, by kernel_rfl, ib_NoHouse⟩
theorem ic_NoCoins : ∃ (i : Nat) (d : He.DefD), fnA[i]? = some d ∧ ini1 d "NoCoins" = true ∧ BindsD d ["self", "why"] := ⟨45, x_NoCoins, by rfl, by kernel_rfl, ib_NoCoins⟩
theorem ic_Failed : ∃ (i : Nat) (d : He.DefD), fnA[i]? = some d ∧ ini1 d "Failed" = true ∧ BindsD d ["self", "why"] := ⟨46, x_Failed, by rfl, by kernel_rfl, ib_Failed⟩
theorem ic_Standing : ∃ (i : Nat) (d : He.DefD), fnA[i]? = some d ∧ ini1 d "Standing" = true ∧ BindsD d ["self", "why"] := ⟨47, x_Standing, by rfl, by kernel_rfl, ib_Standing⟩
theorem ic_BadCount : ∃ (i : Nat) (d : He.DefD), fnA[i]? = some d ∧ ini1 d "BadCount" = true ∧ BindsD d ["self", "why"] := ⟨48, x_BadCount, by rfl, by kernel_rfl, ib_BadCount⟩
theorem ic_BadDay : ∃ (i : Nat) (d : He.DefD), fnA[i]? = some d ∧ ini1 d "BadDay" = true ∧ BindsD d ["self", "why"] := ⟨49, x_BadDay, by rfl, by kernel_rfl, ib_BadDay⟩
theorem ic_NoBill : ∃ (i : Nat) (d : He.DefD), fnA[i]? = some d ∧ ini1 d "NoBill" = true ∧ BindsD d ["self", "why"] := ⟨50, x_NoBill, by rfl, by kernel_rfl, ib_NoBill⟩
theorem ic_Void : ∃ (i : Nat) (d : He.DefD), fnA[i]? = some d ∧ ini1 d "Void" = true ∧ BindsD d ["self", "why"] := ⟨51, x_Void, by rfl, by kernel_rfl, ib_Void⟩
theorem ic_Closed : ∃ (i : Nat) (d : He.DefD), fnA[i]? = some d ∧ ini1 d "Closed" = true ∧ BindsD d ["self", "why"] := ⟨52, x_Closed, by rfl, by kernel_rfl, ib_Closed⟩
theorem ic_Accepted : ∃ (i : Nat) (d : He.DefD), fnA[i]? = some d ∧ ini1 d "Accepted" = true ∧ BindsD d ["self", "why"] := ⟨53, x_Accepted, by rfl, by kernel_rfl, ib_Accepted⟩
theorem ic_Same : ∃ (i : Nat) (d : He.DefD), fnA[i]? = some d ∧ ini1 d "Same" = true ∧ BindsD d ["self", "why"] := ⟨54, x_Same, by rfl, by kernel_rfl, ib_Same⟩
theorem ic_NotBlank : ∃ (i : Nat) (d : He.DefD), fnA[i]? = some d ∧ ini1 d "NotBlank" = true ∧ BindsD d ["self", "why"] := ⟨55, x_NotBlank, by rfl, by kernel_rfl, ib_NotBlank⟩
theorem ic_NotYet : ∃ (i : Nat) (d : He.DefD), fnA[i]? = some d ∧ ini1 d "NotYet" = true ∧ BindsD d ["self", "why"] := ⟨56, x_NotYet, by rfl, by kernel_rfl, ib_NotYet⟩
theorem ic_NotPresented : ∃ (i : Nat) (d : He.DefD), fnA[i]? = some d ∧ ini1 d "NotPresented" = true ∧ BindsD d ["self", "why"] := ⟨57, x_NotPresented, by rfl, by kernel_rfl, ib_NotPresented⟩
theorem ic_Protested : ∃ (i : Nat) (d : He.DefD), fnA[i]? = some d ∧ ini1 d "Protested" = true ∧ BindsD d ["self", "why"] := ⟨58, x_Protested, by rfl, by kernel_rfl, ib_Protested⟩
theorem ic_TooLate : ∃ (i : Nat) (d : He.DefD), fnA[i]? = some d ∧ ini1 d "TooLate" = true ∧ BindsD d ["self", "why"] := ⟨59, x_TooLate, by rfl, by kernel_rfl, ib_TooLate⟩
theorem ic_NotBound : ∃ (i : Nat) (d : He.DefD), fnA[i]? = some d ∧ ini1 d "NotBound" = true ∧ BindsD d ["self", "why"] := ⟨60, x_NotBound, by rfl, by kernel_rfl, ib_NotBound⟩
theorem ic_CantPay : ∃ (i : Nat) (d : He.DefD), fnA[i]? = some d ∧ ini1 d "CantPay" = true ∧ BindsD d ["self", "why"] := ⟨61, x_CantPay, by rfl, by kernel_rfl, ib_CantPay⟩
theorem ic_NotProtested : ∃ (i : Nat) (d : He.DefD), fnA[i]? = some d ∧ ini1 d "NotProtested" = true ∧ BindsD d ["self", "why"] := ⟨62, x_NotProtested, by rfl, by kernel_rfl, ib_NotProtested⟩
theorem ic_IsBound : ∃ (i : Nat) (d : He.DefD), fnA[i]? = some d ∧ ini1 d "IsBound" = true ∧ BindsD d ["self", "why"] := ⟨63, x_IsBound, by rfl, by kernel_rfl, ib_IsBound⟩
theorem ic_Twice : ∃ (i : Nat) (d : He.DefD), fnA[i]? = some d ∧ ini1 d "Twice" = true ∧ BindsD d ["self", "why"] := ⟨64, x_Twice, by rfl, by kernel_rfl, ib_Twice⟩
theorem iniA : Inis XA fnA := ⟨⟨39, x_HallError, by rfl, by kernel_rfl, ib_HallError⟩, List.forall_mem_cons.mpr ⟨ic_BadName, List.forall_mem_cons.mpr ⟨ic_Taken, List.forall_mem_cons.mpr ⟨ic_BadCoins, List.forall_mem_cons.mpr ⟨ic_Full, List.forall_mem_cons.mpr ⟨ic_NoHouse, List.forall_mem_cons.mpr ⟨ic_NoCoins, List.forall_mem_cons.mpr ⟨ic_Failed, List.forall_mem_cons.mpr ⟨ic_Standing, List.forall_mem_cons.mpr ⟨ic_BadCount, List.forall_mem_cons.mpr ⟨ic_BadDay, List.forall_mem_cons.mpr ⟨ic_NoBill, List.forall_mem_cons.mpr ⟨ic_Void, List.forall_mem_cons.mpr ⟨ic_Closed, List.forall_mem_cons.mpr ⟨ic_Accepted, List.forall_mem_cons.mpr ⟨ic_Same, List.forall_mem_cons.mpr ⟨ic_NotBlank, List.forall_mem_cons.mpr ⟨ic_NotYet, List.forall_mem_cons.mpr ⟨ic_NotPresented, List.forall_mem_cons.mpr ⟨ic_Protested, List.forall_mem_cons.mpr ⟨ic_TooLate, List.forall_mem_cons.mpr ⟨ic_NotBound, List.forall_mem_cons.mpr ⟨ic_CantPay, List.forall_mem_cons.mpr ⟨ic_NotProtested, List.forall_mem_cons.mpr ⟨ic_IsBound, List.forall_mem_cons.mpr ⟨ic_Twice, fun _ h => nomatch h⟩⟩⟩⟩⟩⟩⟩⟩⟩⟩⟩⟩⟩⟩⟩⟩⟩⟩⟩⟩⟩⟩⟩⟩⟩, fun h => by cases h⟩
theorem conB_A : ∀ q ∈ conA, conB faA q := List.forall_mem_cons.mpr ⟨⟨List.mem_of_getElem? (i := 61) (by kernel_rfl), by decide +kernel⟩, List.forall_mem_cons.mpr ⟨(List.mem_of_getElem? (i := 62) (by kernel_rfl)), List.forall_mem_cons.mpr ⟨(List.mem_of_getElem? (i := 63) (by kernel_rfl)), List.forall_mem_cons.mpr ⟨(List.mem_of_getElem? (i := 64) (by kernel_rfl)), fun _ h => nomatch h⟩⟩⟩⟩
end Mn
open PySem PySem.W PySem.Calls PyProof.Rows
theorem PySem.Challenge.cw_allonge_k08_houses_and_coins_holds : PySem.Challenge.rw_allonge_k08_houses_and_coins.Holds := by
  w_on; o_law
  refine HandSHeadRun.head_any (r := Mn.R0) (q := view Mn.R0.prog [81]) (H := Mn.hkA) (ob := Mn.obA) (M := 100000) (loose := Mn.nmA) (d := HandSHeadRun.topDef Mn.R0.prog 81) (kwd := []) Mn.obA_eq
    (by kernel_rfl) (fun s => by kernel_rfl) Mn.runA (by kernel_rfl) (by kernel_rfl) (by kernel_rfl) (by rfl) (by first | assumption | decide +kernel) (by decide +kernel) ⟨rfl, rfl, rfl, rfl, rfl, by decide +kernel⟩ ?hw ?hc
  case hw => w_witness2
  case hc =>
    refine Mn.walk_mn (l := PySem.Challenge.rw_allonge_k08_houses_and_coins) (k := 47) (x := "_law_script") (sp := Mn.spLaw) rfl (by kernel_rfl) ⟨rfl, by decide, by decide⟩ (by kernel_rfl) (fun ns hl => ⟨ns, rfl, hl, rfl, fun _ => rfl⟩) ?F
    exact Mn.law_of (e := Mn.en41) (r := Mn.es40) (cf := Mn.cfA) (by kernel_rfl) ⟨_, rfl⟩ (fun w K h mg base X G c => Mn.cfg_ok X G c (by decide +kernel) (fun f hf => List.mem_append_right _ (List.mem_append_right _ hf)) (fun f hf => hf) Mn.iniA (Mn.conL_ok Mn.conB_A X G c.d)) Mn.md41 rfl rfl

