import PyProof.Rows.All
import Wide.All
import OpenK.AllK
import Wide.FinOn
import HandS.ForMost
import HandS.ForExc
import HandS.CallSlots
import HandS.Nested
import KE.KeyNested
import HandS.ExcInit
import HandS.TupAny
import HandS.TupMul
import HandS.Deep
import HandS.More
import HandS.Conv
import HandS.IsInst
import PyProof.ReprRoads
import HandS.Iter
import HandS.Zip
import KE.GoesEnum
import HandS.Wide
import HandS.SetKeys
import HandS.SetFor
import HandS.Set
import HandS.Strs
import HandS.Property
import HandS.MakeKwOnly
import KE.KStateDown
import HandS.Ends
import HandS.Head0
import HandS.Head1
import HandS.Head2
import HandS.HeadHook1
import HandS.HeadHook2
import HandS.HeadNt
import HandS.WordsExc
import HandS.EndTab
import HandS.Style
import HandS.HeadHook4
import KE.KDictZip
import HandS.HotCalls
import HandS.ExcInitHot
import KE.KExcIs
import HandS.ExcField
import HandS.Lambda
import KE.KExcInit
import HandS.TupLe
import KE.DataMinMax
import HandS.Star
import HandS.NoneIn
import HandS.ExcOwn
import HandS.ExcValue
import KE.SortData
import KE.DataFind
import PyProof.Rows.StrMeet
import KE.KDictSum
import HandS.FStr
import HandS.RaiseMore
import KE.KCallOwn
import HandS.OwnEq
import PyProof.InstEq
import KE.KFmtOwn
import HandS.DictSub
import KE.KDictOf
import PyProof.StrLawsRepr
import PySem.Challenge.RW_tidyframes_k01_limits_and_errors
set_option Elab.async false
set_option linter.all false
set_option maxRecDepth 100000
set_option  maxHeartbeats   16000000
namespace DV
open PySem PySem.Spec PyProof.Rows L2 He
inductive D where
  | non | bl (b : Bool) | int (i : Int) | str (x : Str) | tup (xs : List D) | ref (n : Nat) | rol (xs : List D) | cst (v : V)
mutual
def datB (K : PySem.W.Frag) : D → Value → Bool
  | .non,u => (match u with
    | .none => true
    | _ => false)
  | .bl b,u => (match u with
    | .bool c => b == c
    | _ => false)
  | .int i,u => (match u with
    | .int j _ => decide (i = j)
    | _ => false)
  | .str x,u => (match u with
    | .str y _ => decide (x = y)
    | _ => false)
  | .tup ds,u => (match u with
    | .ref a => (match K.lookup a with
      | some ⟨.type c,_,.seq its _,_⟩ => decide (c = "tuple") && (decide (its.size ≤ sizeLine) && datsB K ds its.toList)
      | _ => false)
    | _ => false)
  | _,_ => false
def datsB (K : PySem.W.Frag) : List D → List Value → Bool
  | [],us => (match us with
    | [] => true
    | _ => false)
  | d :: ds,us => (match us with
    | u :: us => datB K d u && datsB K ds us
    | [] => false)
end
inductive Fx where
  | glo (x : Str)
  | free (x : Str)
  | dat (x : Str) (d : D)
  | cls (x : Str)
  | noat (x f : Str)
  | prop (x f : Str)
  | mkr (x : Str)
  | isi (x : Str) (bs : List String)
  | meth (x m : Str)
  | bm (x m : Str) (id : String)
  | any (f : PySem.W.Frag → Bool)
def pgA (K : PySem.W.Frag) (C f : Str) : Addr:=match PySem.W.recIn K (ma K (ga K C) f) "property" with
  | some (.ref g :: _) => g
  | _ => 0
def eqB (a b : Option Bool) : Bool:=decide (a = b)
def Fx.ok (K : PySem.W.Frag) : Fx → Bool
  | .glo x => eqO (PySem.W.nsIn K mainGlobals x) (some (some (.ref (ga K x)))) && PySem.W.keepIn K (.ref (ga K x))
  | .free x => eqO (PySem.W.nsIn K mainGlobals x) (some none)
  | .dat x d => (match PySem.W.nsIn K mainGlobals x with
    | some (some u) => datB K d u
    | _ => false)
  | .cls x => (Fa.cls x).ok K && (eqO (PySem.W.findIn K (.ref (ga K x)) "__class__") (some (some (.builtin "object.__class__"))) && (eqO (PySem.W.specialIn K (.builtin "object.__class__") "__get__") (some (some (.builtin "getset_descriptor.__get__"))) &&
    (eqB (PySem.W.takesIn K (.builtin "object.__class__")) (some true) && eqB (PySem.W.mroIn K (ga K x) (.type "object")) (some true))))
  | .noat x f => eqO (PySem.W.findIn K (.ref (ga K x)) f) (some none)
  | .prop x f => eqO (PySem.W.findIn K (.ref (ga K x)) f) (some (some (.ref (ma K (ga K x) f)))) && (eqO (PySem.W.specialIn K (.ref (ma K (ga K x) f)) "__get__") (some (some (.builtin "property.__get__"))) && (eqB (PySem.W.takesIn K (.ref (ma K (ga K x) f))) (some true) &&
    (match PySem.W.recIn K (ma K (ga K x) f) "property" with
      | some (.ref g :: _) => true
      | _ => false)))
  | .mkr x => (Fa.mkr x).ok K
  | .meth x m => (Fa.meth x m).ok K
  | .bm x m id => eqO (PySem.W.findIn K (.ref (ga K x)) m) (some (some (.builtin id)))
  | .any f => f K
  | .isi x bs => eqB (PySem.W.kitOne K (.ref (ga K x)) (.ref (ga K x))) (some true) && bs.all fun b => eqB (PySem.W.kitOne K (.type b) (.ref (ga K x))) (some false)
abbrev DefA:=He5.DefA
def obsV (fx : List Fx) (fn : List DefA) (K : PySem.W.Frag) : He.AlD:=((fx.all fun f => f.ok K) && fn.all fun d => d.ok K,fn.map fun d => He5.fnA K (d.at_ K))
def valFn (fn : List DefA) : He.AlD:=(true,fn.map He5.DefA.val)
def SaysV (fx : List Fx) (fn : List DefA) (K : PySem.W.Frag) : Prop:=obsV fx fn K = valFn fn
def asW (n : Nat) : List Addr:=3 :: 2 :: List.range' 4 n
def obsVT (n : Nat) (fx : List Fx) (fn : List DefA) (tf : List Defn) (g : Addr → Option Obj) : He.AlD × Bool:=(obsV fx fn (frT g (asW n)),tabsB g tf (frT g (asW n)))
structure SaysVT (fx : List Fx) (fn : List DefA) (tf : List Defn) (h : Heap) (K : PySem.W.Frag) : Prop where
  t : SaysV fx fn K
  hd : ∀ p ∈ tf,PySem.W.codeHdIn K (cT K p).1 (cT K p).2 = true
  out : ∀ p ∈ tf,K.lookup (cT K p).2 = none
  empty : ∀ p ∈ tf,h.get? (cT K p).2 = some { cls:=.none,data:=.fields #[] }
theorem saysVT_of {n : Nat} {fx : List Fx} {fn : List DefA} {tf : List Defn} {h : Heap} (e : obsVT n fx fn tf h.get? = (valFn fn,true)) : SaysVT fx fn tf h (frT h.get? (asW n)):=by
  have e1 : obsV fx fn (frT h.get? (asW n)) = valFn fn:=congrArg (fun z : He.AlD × Bool => z.1) e
  have h2 : tabsB h.get? tf (frT h.get? (asW n)) = true:=congrArg (fun z : He.AlD × Bool => z.2) e
  have key : ∀ p ∈ tf,PySem.W.codeHdIn (frT h.get? (asW n)) (cT (frT h.get? (asW n)) p).1 (cT (frT h.get? (asW n)) p).2 = true ∧ ∃ o,h.get? (cT (frT h.get? (asW n)) p).2 = some o ∧ emptyTab o = true:=fun p hp => by
    obtain ⟨h3,h4⟩:=ba (List.all_eq_true.mp h2 p hp)
    refine ⟨h3,?_⟩
    cases q : h.get? (cT (frT h.get? (asW n)) p).2 with
    | none =>
      rw [q] at h4
      cases h4
    | some o =>
      rw [q] at h4
      exact ⟨o,rfl,h4⟩
  exact ⟨e1,fun p hp => (key p hp).1,fun p hp => by
    obtain ⟨_,o,q,z⟩:=key p hp
    exact frT_none q z,fun p hp => by
    obtain ⟨_,o,q,z⟩:=key p hp
    rw [q,emptyTab_eq z]⟩
def hookVT (n : Nat) (fx : List Fx) (fn : List DefA) (tf : List Defn) : PySem.W.Hook where
  α:=He.AlD × Bool
  obs:=fun s => obsVT n fx fn tf s.heap.get?
  val:=fun _ => (valFn fn,true)
  says:=fun _ h => ∃ K : PySem.W.Frag,K.In h ∧ SaysVT fx fn tf h K
  of:=fun _ _ e => ⟨_,frT_in,saysVT_of e⟩
  keeps:=fun _ _ _ ⟨K,hK,c⟩ k => ⟨K,PySem.W.Frag.In.keeps hK k,⟨c.t,c.hd,c.out,fun p hp => k _ _ (c.empty p hp)⟩⟩
theorem obsVT_eq {n : Nat} {fx : List Fx} {fn : List DefA} {tf : List Defn} {g : Addr → Option Obj} {s : Shared} (h : ∀ a,g a = s.heap.get? a) : obsVT n fx fn tf g = (hookVT n fx fn tf).obs s:=by
  obtain rfl : g = s.heap.get?:=funext h
  rfl
end DV
namespace DV
open PySem PySem.Spec PyProof.Rows L2 He
end DV
namespace DV
open PySem PySem.Spec PyProof.Rows L2 He
def refsT (tl : List Value) : List Value → Bool
  | .ref c :: r => decide (Value.ref c :: r = tl) || refsT tl r
  | l => decide (l = tl)
abbrev tlV : List Value:=[.type "ValueError",.type "Exception",.type "BaseException",.type "object"]
abbrev tlL : List Value:=[.type "LookupError",.type "Exception",.type "BaseException",.type "object"]
abbrev tlA : List Value:=[.type "ArithmeticError",.type "Exception",.type "BaseException",.type "object"]
def excB (K : PySem.W.Frag) (C : Addr) : Bool:=match K.lookup C with
  | some ⟨.type "type",_,.cls cd,sl⟩ => (match cd.mro,sl.toList with
    | .ref C' :: bm,[_,_,_,_,some (.builtin n),_] => C' == C && (!cd.hasDel && (cd.hasDict && ((decide (n = "ValueError.__new__") && refsT tlV bm) || (decide (n = "LookupError.__new__") && refsT tlL bm) || (decide (n = "ArithmeticError.__new__") && refsT tlA bm))))
    | _,_ => false)
  | _ => false
def xcB (x : Str) (K : PySem.W.Frag) : Bool:=excB K (ga K x) && (eqO (PySem.W.findIn K (.ref (ga K x)) "__setattr__") (some (some (.builtin "object.__setattr__"))) && (decide (PySem.W.subIn K (.ref (ga K x)) (.type "BaseException") = some true) && (decide (PySem.W.typeIn K (.ref (ga K x)) = some (.type "type")) &&
  (eqO (PySem.W.findIn K (.ref (ga K x)) "__getattribute__") (some (some (.builtin "BaseException.__getattribute__"))) && (eqO (PySem.W.findIn K (.ref (ga K x)) "__getattr__") (some none) && (PySem.W.hasDictIn K (ga K x) && (eqO (PySem.W.findIn K (.ref (ga K x)) "__class__") (some (some (.builtin "object.__class__"))) &&
  (eqO (PySem.W.specialIn K (.builtin "object.__class__") "__get__") (some (some (.builtin "getset_descriptor.__get__"))) && (eqB (PySem.W.takesIn K (.builtin "object.__class__")) (some true) && (eqB (PySem.W.mroIn K (ga K x) (.type "object")) (some true) && PySem.W.keepIn K (.ref (ga K x))))))))))))
def xiB (x f : Str) (K : PySem.W.Frag) : Bool:=eqO (PySem.W.findIn K (.ref (ga K x)) "__init__") (some (some (.ref (ma K (ga K x) "__init__")))) && (decide (PySem.W.typeIn K (.ref (ma K (ga K x) "__init__")) = some (.type "function")) && eqO (PySem.W.findIn K (.ref (ga K x)) f) (some none))
def xaB (x : Str) (K : PySem.W.Frag) : Bool:=eqO (PySem.W.findIn K (.ref (ga K x)) "index") (some none) && (eqO (PySem.W.findIn K (.ref (ga K x)) "given") (some none) && eqO (PySem.W.findIn K (.ref (ga K x)) "limit") (some none))
end DV
namespace L01
open DV PySem PySem.Spec PyProof.Rows L2 He
def XN : List (Str × Nat):=[("InvalidPlayer",7),("InvalidStart",8),("InvalidSize",9),("InvalidPart",10),("InvalidFate",11),("InvalidBeat",12),("InvalidSpot",13),("InvalidIndex",14),("InvalidTurn",15),("InvalidAnew",16),("InvalidText",17),("InvalidName",18),("InvalidHope",19),("NotAFilm",20),("NotAWish",21),("InvalidFrames",22),("InvalidSolid",23),("InvalidSheets",24),("InvalidPlan",25),("WrongRow",26),("UnknownName",27),("InUse",28),("DoNotFit",29),("NothingToUndo",30),("NothingPainted",31),("Broken",32),("TooMany",33),("WrongValue",34),("WrongName",35),("NoAnswer",36)]
def XC : List Nat:=[7,8,9,10,11,12,13,14,15,16,17,18,19,20,21,22,23,24,25,26,27,28,29,30,31,32,33,34,35,36]
def xvC (K : PySem.W.Frag) : Bool:=XN.all fun x => xcB x.1 K
def xvA (K : PySem.W.Frag) : Bool:=XN.all fun x => xaB x.1 K
def xvS (y : Str) (S : List Nat) (K : PySem.W.Frag) : Bool:=XN.all fun x => eqB (PySem.W.kitOne K (.ref (ga K x.1)) (.ref (ga K y))) (some (decide (x.2 ∈ S)))
def xvT (y : String) (S : List Nat) (K : PySem.W.Frag) : Bool:=XN.all fun x => eqB (PySem.W.kitOne K (.ref (ga K x.1)) (.type y)) (some (decide (x.2 ∈ S)))
def xpV (x : Str) (K : PySem.W.Frag) : Bool:=PySem.W.excIn K (ga K x) tlV "ValueError.__new__"
def xpL (x : Str) (K : PySem.W.Frag) : Bool:=PySem.W.excIn K (ga K x) tlL "LookupError.__new__"
def xpA (x : Str) (K : PySem.W.Frag) : Bool:=PySem.W.excIn K (ga K x) tlA "ArithmeticError.__new__"
end L01
namespace L01
open DV PySem PySem.Spec PyProof.Rows L2 He
def top (i : Nat) : Stmt:=PySem.Challenge.pw_tidyframes_k01_limits_and_errors.main.body.getD i (.Pass ⟨0,0,0,0⟩)
abbrev s_law_bases : Stmt:=top 46
abbrev s_law_jar : Stmt:=top 39
abbrev s_law_dip : Stmt:=top 40
abbrev s_law_pick : Stmt:=top 41
abbrev s_law_sorts : Stmt:=top 42
abbrev s_law_kept : Stmt:=top 45
abbrev s_law_right : Stmt:=top 47
abbrev s_InvalidSize_init : Stmt:=inClass (top 2) 0
abbrev s_InvalidPart_init : Stmt:=inClass (top 3) 0
abbrev s_InvalidFate_init : Stmt:=inClass (top 4) 0
abbrev s_InvalidBeat_init : Stmt:=inClass (top 5) 0
abbrev s_InvalidSpot_init : Stmt:=inClass (top 6) 0
abbrev s_InvalidIndex_init : Stmt:=inClass (top 7) 0
abbrev s_InvalidPlayer_init : Stmt:=inClass (top 8) 0
abbrev s_InvalidTurn_init : Stmt:=inClass (top 9) 0
abbrev s_InvalidAnew_init : Stmt:=inClass (top 10) 0
abbrev s_InvalidStart_init : Stmt:=inClass (top 11) 0
abbrev s_InvalidText_init : Stmt:=inClass (top 12) 0
abbrev s_InvalidName_init : Stmt:=inClass (top 13) 0
abbrev s_InvalidHope_init : Stmt:=inClass (top 14) 0
abbrev s_NotAFilm_init : Stmt:=inClass (top 15) 0
abbrev s_NotAWish_init : Stmt:=inClass (top 16) 0
abbrev s_InvalidFrames_init : Stmt:=inClass (top 17) 0
abbrev s_InvalidSolid_init : Stmt:=inClass (top 18) 0
abbrev s_InvalidSheets_init : Stmt:=inClass (top 19) 0
abbrev s_InvalidPlan_init : Stmt:=inClass (top 20) 0
abbrev s_WrongRow_init : Stmt:=inClass (top 21) 0
abbrev s_UnknownName_init : Stmt:=inClass (top 23) 0
abbrev s_InUse_init : Stmt:=inClass (top 24) 0
abbrev s_Broken_init : Stmt:=inClass (top 29) 0
abbrev s_TooMany_init : Stmt:=inClass (top 30) 0
abbrev s_law_all : Stmt:=top 43
abbrev s_law_named : Stmt:=top 44
abbrev s_law : Stmt:=top 48
def fx : List Fx:=[
  .dat "MOST_FRAMES" (.int 8),
  .dat "MOST_SOLID" (.int 8),
  .dat "MOST_SIZE" (.int 1000000000000),
  .dat "MOST_BEATS" (.int 4),
  .dat "MOST_LAYINGS" (.int 4),
  .dat "MOST_BORDERS" (.int 5),
  .dat "MOST_TURNS" (.int 6),
  .free "repr",
  .any xvC,
  .any (xvS "WrongValue" [16,12,11,22,19,14,18,10,25,7,24,9,23,13,8,17,15,20,21,26,34]),
  .glo "WrongValue",
  .free "isinstance",
  .any (xvS "WrongName" [28,27,35]),
  .glo "WrongName",
  .any (xvS "NoAnswer" [32,29,36,31,30,33]),
  .glo "NoAnswer",
  .any (xvT "ValueError" [16,12,11,22,19,14,18,10,25,7,24,9,23,13,8,17,15,20,21,26,34]),
  .free "ValueError",
  .any (xvT "LookupError" [28,27,35]),
  .free "LookupError",
  .any (xvT "ArithmeticError" [32,29,36,31,30,33]),
  .free "ArithmeticError",
  .any (xcB "WrongValue"),
  .any (xpV "WrongValue"),
  .glo "_law_bases",
  .any (xcB "WrongName"),
  .any (xpL "WrongName"),
  .any (xcB "NoAnswer"),
  .any (xpA "NoAnswer"),
  .free "len",
  .free "min",
  .free "max",
  .free "range",
  .free "int",
  .free "abs",
  .glo "_law_jar",
  .glo "_law_dip",
  .glo "_law_pick",
  .any (xvS "InvalidSize" [9]),
  .glo "InvalidSize",
  .any (xvS "InvalidPart" [10]),
  .glo "InvalidPart",
  .any (xvS "InvalidFate" [11]),
  .glo "InvalidFate",
  .any (xvS "InvalidBeat" [12]),
  .glo "InvalidBeat",
  .any (xvS "InvalidSpot" [13]),
  .glo "InvalidSpot",
  .any (xvS "InvalidIndex" [14]),
  .glo "InvalidIndex",
  .any (xvS "InvalidPlayer" [7]),
  .glo "InvalidPlayer",
  .any (xvS "InvalidTurn" [15]),
  .glo "InvalidTurn",
  .any (xvS "InvalidAnew" [16]),
  .glo "InvalidAnew",
  .any (xvS "InvalidStart" [8]),
  .glo "InvalidStart",
  .any (xvS "InvalidText" [17]),
  .glo "InvalidText",
  .any (xvS "InvalidName" [18]),
  .glo "InvalidName",
  .any (xvS "InvalidHope" [19]),
  .glo "InvalidHope",
  .any (xvS "NotAFilm" [20]),
  .glo "NotAFilm",
  .any (xvS "NotAWish" [21]),
  .glo "NotAWish",
  .any (xvS "InvalidFrames" [22]),
  .glo "InvalidFrames",
  .any (xvS "InvalidSolid" [23]),
  .glo "InvalidSolid",
  .any (xvS "InvalidSheets" [24]),
  .glo "InvalidSheets",
  .any (xvS "InvalidPlan" [25]),
  .glo "InvalidPlan",
  .any (xvS "WrongRow" [26]),
  .glo "WrongRow",
  .any (xvS "UnknownName" [27]),
  .glo "UnknownName",
  .any (xvS "InUse" [28]),
  .glo "InUse",
  .any (xvS "Broken" [32]),
  .glo "Broken",
  .any (xvS "TooMany" [33]),
  .glo "TooMany",
  .any (xvS "DoNotFit" [29]),
  .glo "DoNotFit",
  .any (xvS "NothingToUndo" [30]),
  .glo "NothingToUndo",
  .any (xvS "NothingPainted" [31]),
  .glo "NothingPainted",
  .glo "_law_sorts",
  .any xvA,
  .glo "_law_kept",
  .any (xcB "InvalidSize"),
  .any (xiB "InvalidSize" "given"),
  .any (xcB "InvalidPart"),
  .any (xiB "InvalidPart" "given"),
  .any (xcB "InvalidFate"),
  .any (xiB "InvalidFate" "given"),
  .any (xcB "InvalidBeat"),
  .any (xiB "InvalidBeat" "given"),
  .any (xcB "InvalidSpot"),
  .any (xiB "InvalidSpot" "given"),
  .any (xcB "InvalidIndex"),
  .any (xiB "InvalidIndex" "given"),
  .any (xcB "InvalidPlayer"),
  .any (xiB "InvalidPlayer" "given"),
  .any (xcB "InvalidTurn"),
  .any (xiB "InvalidTurn" "given"),
  .any (xcB "InvalidAnew"),
  .any (xiB "InvalidAnew" "given"),
  .any (xcB "InvalidStart"),
  .any (xiB "InvalidStart" "given"),
  .any (xcB "InvalidText"),
  .any (xiB "InvalidText" "given"),
  .any (xcB "InvalidName"),
  .any (xiB "InvalidName" "given"),
  .any (xcB "InvalidHope"),
  .any (xiB "InvalidHope" "given"),
  .any (xcB "NotAFilm"),
  .any (xiB "NotAFilm" "given"),
  .any (xcB "NotAWish"),
  .any (xiB "NotAWish" "given"),
  .any (xcB "InvalidFrames"),
  .any (xiB "InvalidFrames" "index"),
  .any (xcB "InvalidSolid"),
  .any (xiB "InvalidSolid" "index"),
  .any (xcB "InvalidSheets"),
  .any (xiB "InvalidSheets" "index"),
  .any (xcB "InvalidPlan"),
  .any (xiB "InvalidPlan" "index"),
  .any (xcB "WrongRow"),
  .any (xiB "WrongRow" "index"),
  .any (xcB "UnknownName"),
  .any (xiB "UnknownName" "given"),
  .any (xcB "InUse"),
  .any (xiB "InUse" "index"),
  .any (xcB "Broken"),
  .any (xiB "Broken" "index"),
  .any (xcB "TooMany"),
  .any (xiB "TooMany" "limit"),
  .any (xcB "DoNotFit"),
  .any (xpA "DoNotFit"),
  .any (xcB "NothingToUndo"),
  .any (xpA "NothingToUndo"),
  .any (xcB "NothingPainted"),
  .any (xpA "NothingPainted"),
  .glo "_law_all",
  .glo "_law_right",
  .glo "_law_named",
  .glo "law"]
def d_law_bases : DV.DefA:=⟨fun K => (ga K "_law_bases"),"_law_bases","_law_bases",defArgs s_law_bases,defBody s_law_bases,defScope s_law_bases,[],[]⟩
def d_law_jar : DV.DefA:=⟨fun K => (ga K "_law_jar"),"_law_jar","_law_jar",defArgs s_law_jar,defBody s_law_jar,defScope s_law_jar,[],[]⟩
def d_law_dip : DV.DefA:=⟨fun K => (ga K "_law_dip"),"_law_dip","_law_dip",defArgs s_law_dip,defBody s_law_dip,defScope s_law_dip,[],[]⟩
def d_law_pick : DV.DefA:=⟨fun K => (ga K "_law_pick"),"_law_pick","_law_pick",defArgs s_law_pick,defBody s_law_pick,defScope s_law_pick,[],[]⟩
def d_law_sorts : DV.DefA:=⟨fun K => (ga K "_law_sorts"),"_law_sorts","_law_sorts",defArgs s_law_sorts,defBody s_law_sorts,defScope s_law_sorts,[],[]⟩
def d_law_kept : DV.DefA:=⟨fun K => (ga K "_law_kept"),"_law_kept","_law_kept",defArgs s_law_kept,defBody s_law_kept,defScope s_law_kept,[],[]⟩
def d_law_right : DV.DefA:=⟨fun K => (ga K "_law_right"),"_law_right","_law_right",defArgs s_law_right,defBody s_law_right,defScope s_law_right,[],[]⟩
def d_InvalidSize_init : DV.DefA:=⟨fun K => (ma K (ga K "InvalidSize") "__init__"),"__init__","InvalidSize.__init__",defArgs s_InvalidSize_init,defBody s_InvalidSize_init,defScope s_InvalidSize_init,[],[]⟩
def d_InvalidPart_init : DV.DefA:=⟨fun K => (ma K (ga K "InvalidPart") "__init__"),"__init__","InvalidPart.__init__",defArgs s_InvalidPart_init,defBody s_InvalidPart_init,defScope s_InvalidPart_init,[],[]⟩
def d_InvalidFate_init : DV.DefA:=⟨fun K => (ma K (ga K "InvalidFate") "__init__"),"__init__","InvalidFate.__init__",defArgs s_InvalidFate_init,defBody s_InvalidFate_init,defScope s_InvalidFate_init,[],[]⟩
def d_InvalidBeat_init : DV.DefA:=⟨fun K => (ma K (ga K "InvalidBeat") "__init__"),"__init__","InvalidBeat.__init__",defArgs s_InvalidBeat_init,defBody s_InvalidBeat_init,defScope s_InvalidBeat_init,[],[]⟩
def d_InvalidSpot_init : DV.DefA:=⟨fun K => (ma K (ga K "InvalidSpot") "__init__"),"__init__","InvalidSpot.__init__",defArgs s_InvalidSpot_init,defBody s_InvalidSpot_init,defScope s_InvalidSpot_init,[],[]⟩
def d_InvalidIndex_init : DV.DefA:=⟨fun K => (ma K (ga K "InvalidIndex") "__init__"),"__init__","InvalidIndex.__init__",defArgs s_InvalidIndex_init,defBody s_InvalidIndex_init,defScope s_InvalidIndex_init,[],[]⟩
def d_InvalidPlayer_init : DV.DefA:=⟨fun K => (ma K (ga K "InvalidPlayer") "__init__"),"__init__","InvalidPlayer.__init__",defArgs s_InvalidPlayer_init,defBody s_InvalidPlayer_init,defScope s_InvalidPlayer_init,[],[]⟩
def d_InvalidTurn_init : DV.DefA:=⟨fun K => (ma K (ga K "InvalidTurn") "__init__"),"__init__","InvalidTurn.__init__",defArgs s_InvalidTurn_init,defBody s_InvalidTurn_init,defScope s_InvalidTurn_init,[],[]⟩
def d_InvalidAnew_init : DV.DefA:=⟨fun K => (ma K (ga K "InvalidAnew") "__init__"),"__init__","InvalidAnew.__init__",defArgs s_InvalidAnew_init,defBody s_InvalidAnew_init,defScope s_InvalidAnew_init,[],[]⟩
def d_InvalidStart_init : DV.DefA:=⟨fun K => (ma K (ga K "InvalidStart") "__init__"),"__init__","InvalidStart.__init__",defArgs s_InvalidStart_init,defBody s_InvalidStart_init,defScope s_InvalidStart_init,[],[]⟩
def d_InvalidText_init : DV.DefA:=⟨fun K => (ma K (ga K "InvalidText") "__init__"),"__init__","InvalidText.__init__",defArgs s_InvalidText_init,defBody s_InvalidText_init,defScope s_InvalidText_init,[],[]⟩
def d_InvalidName_init : DV.DefA:=⟨fun K => (ma K (ga K "InvalidName") "__init__"),"__init__","InvalidName.__init__",defArgs s_InvalidName_init,defBody s_InvalidName_init,defScope s_InvalidName_init,[],[]⟩
def d_InvalidHope_init : DV.DefA:=⟨fun K => (ma K (ga K "InvalidHope") "__init__"),"__init__","InvalidHope.__init__",defArgs s_InvalidHope_init,defBody s_InvalidHope_init,defScope s_InvalidHope_init,[],[]⟩
def d_NotAFilm_init : DV.DefA:=⟨fun K => (ma K (ga K "NotAFilm") "__init__"),"__init__","NotAFilm.__init__",defArgs s_NotAFilm_init,defBody s_NotAFilm_init,defScope s_NotAFilm_init,[],[]⟩
def d_NotAWish_init : DV.DefA:=⟨fun K => (ma K (ga K "NotAWish") "__init__"),"__init__","NotAWish.__init__",defArgs s_NotAWish_init,defBody s_NotAWish_init,defScope s_NotAWish_init,[],[]⟩
def d_InvalidFrames_init : DV.DefA:=⟨fun K => (ma K (ga K "InvalidFrames") "__init__"),"__init__","InvalidFrames.__init__",defArgs s_InvalidFrames_init,defBody s_InvalidFrames_init,defScope s_InvalidFrames_init,[],[]⟩
def d_InvalidSolid_init : DV.DefA:=⟨fun K => (ma K (ga K "InvalidSolid") "__init__"),"__init__","InvalidSolid.__init__",defArgs s_InvalidSolid_init,defBody s_InvalidSolid_init,defScope s_InvalidSolid_init,[],[]⟩
def d_InvalidSheets_init : DV.DefA:=⟨fun K => (ma K (ga K "InvalidSheets") "__init__"),"__init__","InvalidSheets.__init__",defArgs s_InvalidSheets_init,defBody s_InvalidSheets_init,defScope s_InvalidSheets_init,[],[]⟩
def d_InvalidPlan_init : DV.DefA:=⟨fun K => (ma K (ga K "InvalidPlan") "__init__"),"__init__","InvalidPlan.__init__",defArgs s_InvalidPlan_init,defBody s_InvalidPlan_init,defScope s_InvalidPlan_init,[],[]⟩
def d_WrongRow_init : DV.DefA:=⟨fun K => (ma K (ga K "WrongRow") "__init__"),"__init__","WrongRow.__init__",defArgs s_WrongRow_init,defBody s_WrongRow_init,defScope s_WrongRow_init,[],[]⟩
def d_UnknownName_init : DV.DefA:=⟨fun K => (ma K (ga K "UnknownName") "__init__"),"__init__","UnknownName.__init__",defArgs s_UnknownName_init,defBody s_UnknownName_init,defScope s_UnknownName_init,[],[]⟩
def d_InUse_init : DV.DefA:=⟨fun K => (ma K (ga K "InUse") "__init__"),"__init__","InUse.__init__",defArgs s_InUse_init,defBody s_InUse_init,defScope s_InUse_init,[],[]⟩
def d_Broken_init : DV.DefA:=⟨fun K => (ma K (ga K "Broken") "__init__"),"__init__","Broken.__init__",defArgs s_Broken_init,defBody s_Broken_init,defScope s_Broken_init,[],[]⟩
def d_TooMany_init : DV.DefA:=⟨fun K => (ma K (ga K "TooMany") "__init__"),"__init__","TooMany.__init__",defArgs s_TooMany_init,defBody s_TooMany_init,defScope s_TooMany_init,[],[]⟩
def d_law_all : DV.DefA:=⟨fun K => (ga K "_law_all"),"_law_all","_law_all",defArgs s_law_all,defBody s_law_all,defScope s_law_all,[],[]⟩
def d_law_named : DV.DefA:=⟨fun K => (ga K "_law_named"),"_law_named","_law_named",defArgs s_law_named,defBody s_law_named,defScope s_law_named,[],[]⟩
def d_law : DV.DefA:=⟨fun K => (ga K "law"),"law","law",defArgs s_law,defBody s_law,defScope s_law,[],[]⟩
def fn : List DV.DefA:=[d_law_bases,d_law_jar,d_law_dip,d_law_pick,d_law_sorts,d_law_kept,d_law_right,d_InvalidSize_init,d_InvalidPart_init,d_InvalidFate_init,d_InvalidBeat_init,d_InvalidSpot_init,d_InvalidIndex_init,d_InvalidPlayer_init,d_InvalidTurn_init,d_InvalidAnew_init,d_InvalidStart_init,d_InvalidText_init,d_InvalidName_init,d_InvalidHope_init,d_NotAFilm_init,d_NotAWish_init,d_InvalidFrames_init,d_InvalidSolid_init,d_InvalidSheets_init,d_InvalidPlan_init,d_WrongRow_init,d_UnknownName_init,d_InUse_init,d_Broken_init,d_TooMany_init,d_law_all,d_law_named,d_law]
def tf : List (Str × Option Str):=[]
def loose0 : List Str:=["WrongValue","InvalidSize","InvalidPart","InvalidFate","InvalidBeat","InvalidSpot","InvalidIndex","InvalidPlayer","InvalidTurn","InvalidAnew","InvalidStart","InvalidText","InvalidName","InvalidHope","NotAFilm","NotAWish","InvalidFrames","InvalidSolid","InvalidSheets","InvalidPlan","WrongRow","WrongName","UnknownName","InUse","NoAnswer","DoNotFit","NothingToUndo","NothingPainted","Broken","TooMany"]
def loose1 : List Str:=["MOST_FRAMES","MOST_SOLID","MOST_SIZE","MOST_BEATS","MOST_LAYINGS","MOST_BORDERS","MOST_TURNS","_law_jar","_law_dip","_law_pick","_law_sorts","_law_all","_law_named","_law_kept","_law_bases","_law_right"]
def looseAll : List Str:=loose0 ++ loose1
abbrev RR : PySem.W.OpenRow:=PySem.W.OpenLaw.row PySem.Challenge.rw_tidyframes_k01_limits_and_errors
abbrev hk : PySem.W.Hook:=hookVT 1200 fx fn tf
def ob (s : PySem.W.SharedT) : He.AlD × Bool:=obsVT 1200 fx fn tf (HandSHeadRun.getT s)
theorem ob_eq (s : PySem.W.SharedT) : ob s = hk.obs s.abs:=obsVT_eq (HandSHeadRun.getT_eq s)
def Told {A : Type} (w : World) (f : PySem.W.SharedT → A) (v : A) : Prop:=∀ os : OsState,(HandSHeadRun.endF (HandSHeadRun.stepQ (HandSHeadRun.denQ HandSHeadRun.tabQ) RR.prog w) 20000 RR.prog w os).map f = some v
theorem Told.two {A B : Type} {w : World} {f : PySem.W.SharedT → A} {g : PySem.W.SharedT → B} {v : A} {u : B} (h1 : Told w f v) (h2 : Told w g u) : Told w (fun s => (f s,g s)) (v,u):=fun os => by
  have z1:=h1 os
  have z2:=h2 os
  generalize HandSHeadRun.endF (HandSHeadRun.stepQ (HandSHeadRun.denQ HandSHeadRun.tabQ) RR.prog w) 20000 RR.prog w os = x at z1 z2 ⊢
  cases x with
  | none => cases z1
  | some s => rw [← Option.some.inj z1,← Option.some.inj z2]; rfl
theorem Told.as {A B : Type} {w : World} {f : PySem.W.SharedT → A} {g : PySem.W.SharedT → B} {v : A} {u : B} (h : Told w f v) (e : ∀ s,f s = v → g s = u) : Told w g u:=fun os => by
  have z:=h os
  generalize HandSHeadRun.endF (HandSHeadRun.stepQ (HandSHeadRun.denQ HandSHeadRun.tabQ) RR.prog w) 20000 RR.prog w os = x at z ⊢
  cases x with
  | none => cases z
  | some s => exact congrArg some (e s (Option.some.inj z))
def hk0 : PySem.W.Hook where
  α:=Unit
  obs:=fun _ => ()
  val:=fun _ => ()
  says:=fun _ _ => True
  of:=fun _ _ _ => trivial
  keeps:=fun _ _ _ _ _ => trivial
theorem run0 (w : World) : HandSHeadRun.RunEq RR (PySem.W.view RR.prog [48]) hk0 (fun _ => ()) 20000 looseAll w:=by
  intro os
  kernel_rfl
def fx1 : List Fx:=fx.take 60
def fx2 : List Fx:=fx.drop 60
def frK (s : PySem.W.SharedT) : PySem.W.Frag:=frT (HandSHeadRun.getT s) (asW 1200)
theorem run1 (w : World) : Told w (fun s => fx1.all fun f => f.ok (frK s)) true:=by
  intro os
  kernel_rfl
theorem run2 (w : World) : Told w (fun s => fx2.all fun f => f.ok (frK s)) true:=by
  intro os
  kernel_rfl
theorem run3 (w : World) : Told w (fun s => fn.all fun d => d.ok (frK s)) true:=by
  intro os
  kernel_rfl
theorem run4 (w : World) : Told w (fun s => (fn.map fun d => He5.fnA (frK s) (d.at_ (frK s)),tabsB (HandSHeadRun.getT s) tf (frK s))) (fn.map He5.DefA.val,true):=by
  intro os
  kernel_rfl
theorem runO (w : World) : Told w ob (hk.val w):=by
  refine Told.as (((run1 w).two (run2 w)).two ((run3 w).two (run4 w))) fun s h => ?_
  have h1 : (fx1.all fun f => f.ok (frK s)) = true:=congrArg (fun z : ((Bool × Bool) × (Bool × _)) => z.1.1) h
  have h2 : (fx2.all fun f => f.ok (frK s)) = true:=congrArg (fun z : ((Bool × Bool) × (Bool × _)) => z.1.2) h
  have h3 : (fn.all fun d => d.ok (frK s)) = true:=congrArg (fun z : ((Bool × Bool) × (Bool × _)) => z.2.1) h
  have h4 : (fn.map (fun d => He5.fnA (frK s) (d.at_ (frK s))),tabsB (HandSHeadRun.getT s) tf (frK s)) = (fn.map He5.DefA.val,true):=congrArg (fun z => z.2.2) h
  have h5:=congrArg Prod.fst h4
  have h6:=congrArg Prod.snd h4
  simp only at h5 h6
  have h12 : (fx.all fun f => f.ok (frK s)) = true:=by
    have e : fx = fx1 ++ fx2:=(List.take_append_drop 60 fx).symm
    rw [e,List.all_append,h1,h2]
    rfl
  show ((((fx.all fun f => f.ok (frK s)) && fn.all fun d => d.ok (frK s)),fn.map fun d => He5.fnA (frK s) (d.at_ (frK s))),tabsB (HandSHeadRun.getT s) tf (frK s)) = ((true,fn.map He5.DefA.val),true)
  rw [h12,h3,h5,h6]
  rfl
theorem run (w : World) : HandSHeadRun.RunEq RR (PySem.W.view RR.prog [48]) hk ob 20000 looseAll w:=fun os => by
  have z1:=run0 w os
  have z2:=runO w os
  generalize HandSHeadRun.endF (HandSHeadRun.stepQ (HandSHeadRun.denQ HandSHeadRun.tabQ) RR.prog w) 20000 RR.prog w os = x at z1 z2 ⊢
  cases x with
  | none => cases z1
  | some s =>
    have y1:=Option.some.inj z1
    have y2:=Option.some.inj z2
    refine congrArg some ?_
    have a1:=congrArg (fun z => z.1) y1
    have a2:=congrArg (fun z => z.2.1) y1
    exact Prod.ext a1 (Prod.ext a2 y2)
end L01
namespace DV
open PySem L2
inductive Cell where
  | lst (xs : List D)
  | dic (kvs : List (Key × D))
  | ins (c : Nat) (fs : List (Str × D))
  | fdc (kvs : List (Key × D))
  | dn (fz : Bool) (kvs : List (D × D))
  | exn (c : Nat) (fs : List (Str × D))
structure Store where
  nxt : Nat
  at_ : Nat → Option Cell
def Store.new (st : Store) (c : Cell) : Store:=⟨st.nxt + 1,fun n => if n = st.nxt then some c else st.at_ n⟩
def Store.put (st : Store) (n : Nat) (c : Cell) : Store:=⟨st.nxt,fun m => if m = n then some c else st.at_ m⟩
inductive Res (α : Type) where
  | ok (a : α) (st : Store)
  | exc (c : Nat) (fs : List (Str × D)) (st : Store)
  | bad
def Res.bind {α β : Type} (r : Res α) (k : α → Store → Res β) : Res β:=
  match r with
  | .ok a st => k a st
  | .exc c fs st => .exc c fs st
  | .bad => .bad
abbrev Loc:=List (Option D)
def RoL (K : PySem.W.Frag) (H : Hp) (a : Addr) (vs : List V) : Prop:=
  (∃ o,H a = some (.frz o (.lst vs))) ∨
    ∃ (o : Obj) (its : Array Value) (n : Nat),K.lookup a = some o ∧ o.cls = .type "list" ∧ o.dict = none ∧ o.data = .seq its n ∧ its.size ≤ sizeLine ∧ Vals vs its.toList
theorem RoL.sq {K : PySem.W.Frag} {H : Hp} {a : Addr} {vs : List V} (h : RoL K H a vs) : SqL K H a vs:=by
  rcases h with ⟨o,h⟩ | h
  · exact .inl (.inr ⟨o,h⟩)
  · exact .inr h
mutual
def VR (K : PySem.W.Frag) (μ : Nat → Addr) (N : Nat) (H : Hp) : D → V → Prop
  | .non,v => v = .non
  | .bl b,v => v = .bl b
  | .int i,v => v = .int i
  | .str x,v => v = .str x
  | .ref n,v => n < N ∧ v = .ref (μ n)
  | .cst w,v => v = w
  | .tup ds,v => ∃ p vs,v = .ref p ∧ SqT K H p vs ∧ VRs K μ N H ds vs
  | .rol ds,v => ∃ p vs,v = .ref p ∧ RoL K H p vs ∧ VRs K μ N H ds vs
def VRs (K : PySem.W.Frag) (μ : Nat → Addr) (N : Nat) (H : Hp) : List D → List V → Prop
  | [],vs => vs = []
  | d :: ds,vs => ∃ v r,vs = v :: r ∧ VR K μ N H d v ∧ VRs K μ N H ds r
end
mutual
def keyN : D → Option NestedKey
  | .non => some .none
  | .bl b => some (.num (if b then 1 else 0))
  | .int i => some (.num i)
  | .tup ds => (match keyNs ds with
    | some ks => some (.tup ks)
    | none => none)
  | .str _ => none
  | .ref _ => none
  | .rol _ => none
  | .cst _ => none
def keyNs : List D → Option (List NestedKey)
  | [] => some []
  | d :: ds => (match keyN d,keyNs ds with
    | some k,some ks => some (k :: ks)
    | _,_ => none)
end
mutual
def nkHash : NestedKey → Int
  | .none => reduceHash 0xFCA86420
  | .num i => hashInt i
  | .text _ => 0
  | .tup ks => reduceHash (Builtin.Tuple.tupleHashOf (nkHashes ks))
def nkHashes : List NestedKey → List Int
  | [] => []
  | k :: ks => nkHash k :: nkHashes ks
end
def ndEnt (x : NestedKey × Addr × Value) : DictEntry:=⟨nkHash x.1,.ref x.2.1,x.2.2⟩
def NdF (a : Addr) (xs : List (NestedKey × Addr × Value)) : Heap → Prop:=fun h => ∃ o es ep,h.get? a = some o ∧ o.ExactDict ∧ o.data = .dict es ep ∧ es.toList = xs.map ndEnt
def NdO (a : Addr) (xs : List (NestedKey × Addr × Value)) : HO:=.ext (NdF a xs)
def NotD (φ : Heap → Prop) : Prop:=∀ h,φ h → ∃ b o,h.get? b = some o ∧ ∀ es ep,o.data ≠ .dict es ep
theorem heap_of (d : Obj) (hd : d.isFreed = false) : ∀ n : Nat,∃ h : Heap,h.objs.size = n ∧ (∀ b o,h.get? b = some o → o = d) ∧ ∀ b,b < n → h.get? b = some d
  | 0 => ⟨⟨#[],{}⟩,rfl,fun b o e => by simp [Heap.get?] at e,fun b h => absurd h (Nat.not_lt_zero _)⟩
  | n + 1 => by
    obtain ⟨h,h1,h2,h3⟩:=heap_of d hd n
    refine ⟨h.push d,by rw [Heap.size_push,h1],fun b o e => ?_,fun b hb => ?_⟩
    · rcases Heap.get?_push_cases e with ⟨_,e2⟩ | e2
      · exact e2
      · exact h2 b o e2
    · by_cases c : b = n
      · subst c
        rw [← h1]
        exact Heap.get?_push_size _ hd
      · exact Heap.get?_push_of_some _ (h3 b (by omega))
theorem nd_not {a : Addr} {xs : List (NestedKey × Addr × Value)} : ¬ NotD (NdF a xs):=fun n => by
  let d : Obj:=⟨.type "dict",none,.dict (xs.map ndEnt).toArray 0,#[]⟩
  obtain ⟨h,h1,h2,h3⟩:=heap_of d rfl (a + 1)
  obtain ⟨b,o,e1,e2⟩:=n h ⟨d,_,_,h3 a (Nat.lt_succ_self _),⟨rfl,rfl,rfl⟩,rfl,by simp⟩
  have z:=h2 b o e1
  subst z
  exact e2 _ _ rfl
theorem code_not {c : Addr} {q : Str} : NotD (fun h => ∃ (oc : Obj) (vs : Array Value) (t : Tok),h.get? c = some oc ∧ oc.data = .fields vs ∧ vs[1]? = some (.str q t)):=fun h ⟨oc,vs,t,e,e2,_⟩ => ⟨c,_,e,fun es ep z => by rw [e2] at z; cases z⟩
structure Ev0 (K : PySem.W.Frag) (μ : Nat → Addr) (N : Nat) (H : Hp) (μ' : Nat → Addr) (N' : Nat) (H' : Hp) : Prop where
  le : N ≤ N'
  mu : ∀ n,n < N → μ' n = μ n
  sq : ∀ p vs,SqT K H p vs → SqT K H' p vs
  rq : ∀ p vs,RoL K H p vs → RoL K H' p vs
  ex : ∀ p φ,H p = some (.ext φ) → NotD φ → H' p = some (.ext φ)
  xd : ∀ p fs,H p = some (.xd fs) → H' p = some (.xd fs)
  fz : ∀ p o u,H p = some (.frz o u) → H' p = some (.frz o u)
structure Ev (K : PySem.W.Frag) (μ : Nat → Addr) (N : Nat) (H : Hp) (μ' : Nat → Addr) (N' : Nat) (H' : Hp) : Prop extends Ev0 K μ N H μ' N' H' where
  kp : ∀ b o,H b = some o → (∀ n,n < N → μ n ≠ b) → (∀ ps,o ≠ .tbl ps) → H' b = some o
  fr : ∀ n,N ≤ n → n < N' → H (μ' n) = none
  tr : ∀ b,H b ≠ none → H' b ≠ none
section
variable {K : PySem.W.Frag} {μ μ1 μ2 : Nat → Addr} {N N1 N2 : Nat} {H H1 H2 : Hp}
theorem Ev.refl : Ev K μ N H μ N H:=⟨⟨Nat.le_refl _,fun _ _ => rfl,fun _ _ h => h,fun _ _ h => h,fun _ _ h _ => h,fun _ _ h => h,fun _ _ _ h => h⟩,fun _ _ h _ _ => h,fun n h1 h2 => absurd h2 (by omega),fun _ h => h⟩
theorem Ev.trans (a : Ev K μ N H μ1 N1 H1) (b : Ev K μ1 N1 H1 μ2 N2 H2) : Ev K μ N H μ2 N2 H2 where
  le:=Nat.le_trans a.le b.le
  mu:=fun n h => (b.mu n (Nat.lt_of_lt_of_le h a.le)).trans (a.mu n h)
  sq:=fun p vs h => b.sq p vs (a.sq p vs h)
  rq:=fun p vs h => b.rq p vs (a.rq p vs h)
  ex:=fun p φ h n => b.ex p φ (a.ex p φ h n) n
  xd:=fun p fs h => b.xd p fs (a.xd p fs h)
  fz:=fun p o u h => b.fz p o u (a.fz p o u h)
  kp:=fun c o h hn ht => b.kp c o (a.kp c o h hn ht) (fun n hn1 => by
    by_cases hlt : n < N
    · rw [a.mu n hlt]; exact hn n hlt
    · intro e
      have:=a.fr n (by omega) hn1
      rw [e,h] at this; cases this) ht
  fr:=fun n h1 h2 => by
    by_cases hlt : n < N1
    · rw [b.mu n hlt]; exact a.fr n h1 hlt
    · have q:=b.fr n (by omega) h2
      cases e : H (μ2 n) with
      | none => rfl
      | some o => exact absurd q (a.tr _ (by rw [e]; simp))
  tr:=fun c h => b.tr c (a.tr c h)
mutual
theorem VR.ev0 (e : Ev0 K μ N H μ1 N1 H1) : ∀ {d : D} {v : V},VR K μ N H d v → VR K μ1 N1 H1 d v
  | .non,_,h => by simpa only [VR] using h
  | .bl _,_,h => by simpa only [VR] using h
  | .int _,_,h => by simpa only [VR] using h
  | .str _,_,h => by simpa only [VR] using h
  | .cst _,_,h => by simpa only [VR] using h
  | .ref n,_,h => by
    simp only [VR] at h ⊢
    exact ⟨Nat.lt_of_lt_of_le h.1 e.le,by rw [e.mu n h.1]; exact h.2⟩
  | .tup ds,_,h => by
    simp only [VR] at h ⊢
    obtain ⟨p,vs,h1,h2,h3⟩:=h
    exact ⟨p,vs,h1,e.sq p vs h2,VRs.ev0 e h3⟩
  | .rol ds,_,h => by
    simp only [VR] at h ⊢
    obtain ⟨p,vs,h1,h2,h3⟩:=h
    exact ⟨p,vs,h1,e.rq p vs h2,VRs.ev0 e h3⟩
theorem VRs.ev0 (e : Ev0 K μ N H μ1 N1 H1) : ∀ {ds : List D} {vs : List V},VRs K μ N H ds vs → VRs K μ1 N1 H1 ds vs
  | [],_,h => by simpa only [VRs] using h
  | d :: ds,_,h => by
    simp only [VRs] at h ⊢
    obtain ⟨v,r,h1,h2,h3⟩:=h
    exact ⟨v,r,h1,VR.ev0 e h2,VRs.ev0 e h3⟩
end
theorem VR.ev (e : Ev K μ N H μ1 N1 H1) {d : D} {v : V} (h : VR K μ N H d v) : VR K μ1 N1 H1 d v:=VR.ev0 e.toEv0 h
theorem VRs.ev (e : Ev K μ N H μ1 N1 H1) {ds : List D} {vs : List V} (h : VRs K μ N H ds vs) : VRs K μ1 N1 H1 ds vs:=VRs.ev0 e.toEv0 h
theorem VRs.length : ∀ {ds : List D} {vs : List V},VRs K μ N H ds vs → ds.length = vs.length
  | [],_,h => by simp only [VRs] at h; rw [h]; rfl
  | d :: ds,_,h => by
    simp only [VRs] at h
    obtain ⟨v,r,rfl,_,h3⟩:=h
    simp [VRs.length h3]
theorem VRs.get : ∀ {ds : List D} {vs : List V} {i : Nat} {d : D},VRs K μ N H ds vs → ds[i]? = some d → ∃ v,vs[i]? = some v ∧ VR K μ N H d v
  | [],_,_,_,_,e => by simp at e
  | x :: ds,_,0,d,h,e => by
    simp only [VRs] at h
    obtain ⟨v,r,rfl,h2,h3⟩:=h
    simp at e; subst e
    exact ⟨v,rfl,h2⟩
  | x :: ds,_,i + 1,d,h,e => by
    simp only [VRs] at h
    obtain ⟨v,r,rfl,h2,h3⟩:=h
    obtain ⟨w,a,b⟩:=VRs.get h3 (i:=i) (by simpa using e)
    exact ⟨w,by simpa using a,b⟩
theorem VRs.append : ∀ {ds es : List D} {vs ws : List V},VRs K μ N H ds vs → VRs K μ N H es ws → VRs K μ N H (ds ++ es) (vs ++ ws)
  | [],_,_,_,h,h' => by simp only [VRs] at h; subst h; exact h'
  | d :: ds,es,_,ws,h,h' => by
    simp only [VRs] at h
    obtain ⟨v,r,rfl,h2,h3⟩:=h
    simp only [List.cons_append,VRs]
    exact ⟨v,r ++ ws,rfl,h2,VRs.append h3 h'⟩
theorem VRs.one {d : D} {v : V} (h : VR K μ N H d v) : VRs K μ N H [d] [v]:=by
  simp only [VRs]; exact ⟨v,[],rfl,h,rfl⟩
theorem VRs.two {d e : D} {v w : V} (h : VR K μ N H d v) (h' : VR K μ N H e w) : VRs K μ N H [d,e] [v,w]:=by
  simp only [VRs]; exact ⟨v,[w],rfl,h,w,[],rfl,h',rfl⟩
theorem VRs.take : ∀ {ds : List D} {vs : List V} (n : Nat),VRs K μ N H ds vs → VRs K μ N H (ds.take n) (vs.take n)
  | [],_,n,h => by simp only [VRs] at h; subst h; simp [VRs]
  | d :: ds,_,0,h => by simp [VRs]
  | d :: ds,_,n + 1,h => by
    simp only [VRs] at h
    obtain ⟨v,r,rfl,h2,h3⟩:=h
    simp only [List.take_succ_cons,VRs]
    exact ⟨v,_,rfl,h2,VRs.take n h3⟩
theorem VRs.drop : ∀ {ds : List D} {vs : List V} (n : Nat),VRs K μ N H ds vs → VRs K μ N H (ds.drop n) (vs.drop n)
  | [],_,n,h => by simp only [VRs] at h; subst h; simp [VRs]
  | d :: ds,_,0,h => by simpa using h
  | d :: ds,_,n + 1,h => by
    simp only [VRs] at h
    obtain ⟨v,r,rfl,h2,h3⟩:=h
    simp only [List.drop_succ_cons]
    exact VRs.drop n h3
theorem VRs.set {d : D} {v : V} (hd : VR K μ N H d v) : ∀ {ds : List D} {vs : List V} (i : Nat),VRs K μ N H ds vs → VRs K μ N H (ds.set i d) (vs.set i v)
  | [],_,i,h => by simp only [VRs] at h; subst h; simp [VRs]
  | x :: ds,_,0,h => by
    simp only [VRs] at h
    obtain ⟨w,r,rfl,h2,h3⟩:=h
    simp only [List.set_cons_zero,VRs]
    exact ⟨v,r,rfl,hd,h3⟩
  | x :: ds,_,i + 1,h => by
    simp only [VRs] at h
    obtain ⟨w,r,rfl,h2,h3⟩:=h
    simp only [List.set_cons_succ,VRs]
    exact ⟨w,_,rfl,h2,VRs.set hd i h3⟩
structure CL where
  at_ : Nat → Addr
  P : PySem.W.Frag → (Nat → Addr) → Nat → Hp → Prop
  up : ∀ {K : PySem.W.Frag} {μ : Nat → Addr} {N : Nat} {H : Hp} {μ' : Nat → Addr} {N' : Nat} {H' : Hp},Ev0 K μ N H μ' N' H' → P K μ N H → P K μ' N' H'
  tabs : List NdefX.NTab
instance : CoeFun CL (fun _ => Nat → Addr):=⟨CL.at_⟩
def NdAt (fz : Bool) (H : Hp) (a : Addr) (xs : List (NestedKey × Addr × Value)) : Prop:=match fz with
  | false => H a = some (NdO a xs)
  | true => ∃ o,H a = some (.frz o (NdO a xs))
theorem NdAt.mv {fz : Bool} {a : Addr} {xs : List (NestedKey × Addr × Value)} (ha : H1 a = H a) (h : NdAt fz H a xs) : NdAt fz H1 a xs:=by
  cases fz with
  | false => exact ha.trans h
  | true => obtain ⟨o,h⟩:=h; exact ⟨o,ha.trans h⟩
def NdRow (K : PySem.W.Frag) (μ : Nat → Addr) (N : Nat) (H : Hp) (p : D × D) (x : NestedKey × Addr × Value) : Prop:=keyN p.1 = some x.1 ∧ x.1.depth ≤ 8 ∧ VR K μ N H p.1 (.ref x.2.1) ∧ ∃ v,VR K μ N H p.2 v ∧ RelV v x.2.2
structure NdOk (K : PySem.W.Frag) (μ : Nat → Addr) (N : Nat) (H : Hp) (a : Addr) (xs : List (NestedKey × Addr × Value)) (kvs : List (D × D)) : Prop where
  sys : (a == sysModules) = false
  len : xs.length ≤ sizeLine
  nd : (xs.map (·.1)).Nodup
  rows : Paired (NdRow K μ N H) kvs xs
theorem NdOk.ev0 {a : Addr} {xs : List (NestedKey × Addr × Value)} {kvs : List (D × D)} (e : Ev0 K μ N H μ1 N1 H1) (h : NdOk K μ N H a xs kvs) : NdOk K μ1 N1 H1 a xs kvs:=
  ⟨h.sys,h.len,h.nd,Paired.mapP h.rows fun _ _ r => ⟨r.1,r.2.1,r.2.2.1.ev0 e,let ⟨v,a,b⟩:=r.2.2.2; ⟨v,a.ev0 e,b⟩⟩⟩
def ExnAt (C : Addr) (H : Hp) (a : Addr) (ps : List (Str × V)) : Prop:=(ps = [] ∧ H a = some (L2.exo a C none)) ∨ ∃ dx,H a = some (L2.exo a C (some dx)) ∧ H dx = some (.xd ps)
def CellOk (K : PySem.W.Frag) (cl : CL) (μ : Nat → Addr) (N : Nat) (H : Hp) (a : Addr) : Cell → Prop
  | .lst xs => ∃ vs,H a = some (.lst vs) ∧ VRs K μ N H xs vs
  | .dic kvs => ∃ ps : List (Key × V),H a = some (.dK ps) ∧ ps.map (·.1) = kvs.map (·.1) ∧ VRs K μ N H (kvs.map (·.2)) (ps.map (·.2))
  | .ins c fs => ∃ dx ps,H a = some (.ins (cl c) dx ps) ∧ ps.map (·.1) = fs.map (·.1) ∧ VRs K μ N H (fs.map (·.2)) (ps.map (·.2))
  | .fdc kvs => ∃ (o : Obj) (ps : List (Key × V)),H a = some (.frz o (.dK ps)) ∧ ps.map (·.1) = kvs.map (·.1) ∧ VRs K μ N H (kvs.map (·.2)) (ps.map (·.2))
  | .dn fz kvs => ∃ xs : List (NestedKey × Addr × Value),NdAt fz H a xs ∧ NdOk K μ N H a xs kvs
  | .exn c fs => ∃ ps : List (Str × V),ExnAt (cl c) H a ps ∧ ps.map (·.1) = fs.map (·.1) ∧ VRs K μ N H (fs.map (·.2)) (ps.map (·.2))
theorem CellOk.ev0 {cl : CL} {a : Addr} {c : Cell} (e : Ev0 K μ N H μ1 N1 H1) (ha : H1 a = H a) (h : CellOk K cl μ N H a c) : CellOk K cl μ1 N1 H1 a c:=by
  cases c with
  | lst xs => obtain ⟨vs,h1,h2⟩:=h; exact ⟨vs,ha.trans h1,h2.ev0 e⟩
  | dic kvs => obtain ⟨ps,h1,h2,h3⟩:=h; exact ⟨ps,ha.trans h1,h2,h3.ev0 e⟩
  | ins c fs => obtain ⟨dx,ps,h1,h2,h3⟩:=h; exact ⟨dx,ps,ha.trans h1,h2,h3.ev0 e⟩
  | fdc kvs => obtain ⟨o,ps,h1,h2,h3⟩:=h; exact ⟨o,ps,ha.trans h1,h2,h3.ev0 e⟩
  | dn fz kvs => obtain ⟨xs,h1,h2⟩:=h; exact ⟨xs,h1.mv ha,h2.ev0 e⟩
  | exn c fs =>
    obtain ⟨ps,h1,h2,h3⟩:=h
    refine ⟨ps,?_,h2,h3.ev0 e⟩
    rcases h1 with ⟨z,h1⟩ | ⟨dx,h1,hd⟩
    · exact .inl ⟨z,ha.trans h1⟩
    · exact .inr ⟨dx,ha.trans h1,e.xd _ _ hd⟩
theorem CellOk.ev {cl : CL} {a : Addr} {c : Cell} (e : Ev K μ N H μ1 N1 H1) (ha : H1 a = H a) (h : CellOk K cl μ N H a c) : CellOk K cl μ1 N1 H1 a c:=h.ev0 e.toEv0 ha
def CellH : HO → Prop
  | .lst _ => True
  | .dK _ => True
  | .ins _ _ _ => True
  | .ext φ => ¬ NotD φ
  | _ => False
theorem CellOk.there0 {cl : CL} {a : Addr} {c : Cell} (h : CellOk K cl μ N H a c) : ∃ o,H a = some o ∧ ∀ ps,o ≠ .tbl ps:=by
  cases c with
  | lst xs => obtain ⟨vs,h1,_⟩:=h; exact ⟨_,h1,fun _ e => by cases e⟩
  | dic kvs => obtain ⟨ps,h1,_⟩:=h; exact ⟨_,h1,fun _ e => by cases e⟩
  | ins c fs => obtain ⟨dx,ps,h1,_⟩:=h; exact ⟨_,h1,fun _ e => by cases e⟩
  | fdc kvs => obtain ⟨o,ps,h1,_⟩:=h; exact ⟨_,h1,fun _ e => by cases e⟩
  | dn fz kvs =>
    obtain ⟨xs,h1,_⟩:=h
    cases fz with
    | false => exact ⟨_,h1,fun _ e => by cases e⟩
    | true => obtain ⟨o,h1⟩:=h1; exact ⟨_,h1,fun _ e => by cases e⟩
  | exn c fs =>
    obtain ⟨ps,h1,_⟩:=h
    rcases h1 with ⟨_,h1⟩ | ⟨dx,h1,_⟩
    · exact ⟨_,h1,fun _ e => by cases e⟩
    · exact ⟨_,h1,fun _ e => by cases e⟩
def Cell.mut : Cell → Prop
  | .fdc _ => False
  | .exn _ _ => False
  | .dn fz _ => fz = false
  | _ => True
theorem CellOk.there {cl : CL} {a : Addr} {c : Cell} (h : CellOk K cl μ N H a c) (hm : c.mut) : ∃ o,H a = some o ∧ CellH o:=by
  cases c with
  | lst xs => obtain ⟨vs,h1,_⟩:=h; exact ⟨_,h1,trivial⟩
  | dic kvs => obtain ⟨ps,h1,_⟩:=h; exact ⟨_,h1,trivial⟩
  | ins c fs => obtain ⟨dx,ps,h1,_⟩:=h; exact ⟨_,h1,trivial⟩
  | fdc kvs => exact hm.elim
  | exn c fs => exact hm.elim
  | dn fz kvs =>
    obtain ⟨xs,h1,_⟩:=h
    have hm : fz = false:=hm
    subst hm
    exact ⟨_,h1,nd_not⟩
structure SR (K : PySem.W.Frag) (cl : CL) (μ : Nat → Addr) (st : Store) (H : Hp) : Prop where
  inj : ∀ m n,m < st.nxt → n < st.nxt → μ m = μ n → m = n
  cell : ∀ n,n < st.nxt → ∃ c,st.at_ n = some c ∧ CellOk K cl μ st.nxt H (μ n) c
  out : ∀ n,st.nxt ≤ n → st.at_ n = none
  pp : cl.P K μ st.nxt H
  tb : NdefX.TabsN cl.tabs H
theorem SR.lt {cl : CL} {st : Store} (S : SR K cl μ st H) {n : Nat} {c : Cell} (e : st.at_ n = some c) : n < st.nxt:=by
  by_cases h : n < st.nxt
  · exact h
  · have:=S.out n (by omega)
    rw [e] at this; cases this
theorem SR.get {cl : CL} {st : Store} (S : SR K cl μ st H) {n : Nat} {c : Cell} (e : st.at_ n = some c) : CellOk K cl μ st.nxt H (μ n) c:=by
  obtain ⟨c',h1,h2⟩:=S.cell n (S.lt e)
  rw [e] at h1; cases h1
  exact h2
theorem SR.there {cl : CL} {st : Store} (S : SR K cl μ st H) {n : Nat} (h : n < st.nxt) : ∃ o,H (μ n) = some o:=by
  obtain ⟨c,_,h2⟩:=S.cell n h
  obtain ⟨o,h3,_⟩:=h2.there0
  exact ⟨o,h3⟩
theorem SR.ne_new {cl : CL} {st : Store} (S : SR K cl μ st H) {p : Addr} (hp : H p = none) : ∀ n,n < st.nxt → μ n ≠ p:=fun n hn e => by
  obtain ⟨o,h⟩:=S.there hn
  rw [e,hp] at h; cases h
theorem SqT.upd_new {p : Addr} {o : HO} (hp : H p = none) {q : Addr} {vs : List V} (h : SqT K H q vs) : SqT K (upd H p o) q vs:=by
  rcases h with (h | ⟨u,h⟩) | h
  · exact .inl (.inl (by rw [upd_ne (ne_of_none h hp)]; exact h))
  · exact .inl (.inr ⟨u,by rw [upd_ne (ne_of_none h hp)]; exact h⟩)
  · exact .inr h
theorem SqT.upd_cell {p : Addr} {o u : HO} (hp : H p = some u) (hu : CellH u) {q : Addr} {vs : List V} (h : SqT K H q vs) : SqT K (upd H p o) q vs:=by
  rcases h with (h | ⟨w,h⟩) | h
  · refine .inl (.inl ?_)
    rw [upd_ne]
    · exact h
    · rintro rfl
      rw [hp] at h; cases h; exact hu
  · refine .inl (.inr ⟨w,?_⟩)
    rw [upd_ne]
    · exact h
    · rintro rfl
      rw [hp] at h; cases h; exact hu
  · exact .inr h
theorem RoL.upd_new {p : Addr} {o : HO} (hp : H p = none) {q : Addr} {vs : List V} (h : RoL K H q vs) : RoL K (upd H p o) q vs:=by
  rcases h with ⟨u,h⟩ | h
  · exact .inl ⟨u,by rw [upd_ne (ne_of_none h hp)]; exact h⟩
  · exact .inr h
theorem RoL.upd_cell {p : Addr} {o u : HO} (hp : H p = some u) (hu : CellH u) {q : Addr} {vs : List V} (h : RoL K H q vs) : RoL K (upd H p o) q vs:=by
  rcases h with ⟨w,h⟩ | h
  · refine .inl ⟨w,?_⟩
    rw [upd_ne]
    · exact h
    · rintro rfl
      rw [hp] at h; cases h; exact hu
  · exact .inr h
theorem ext_ne_cell {p q : Addr} {u : HO} {φ : Heap → Prop} (hp : H p = some u) (hu : CellH u) (h : H q = some (.ext φ)) (n : NotD φ) : q ≠ p:=by
  rintro rfl
  rw [hp] at h
  cases h
  exact hu n
theorem xd_ne_cell {p q : Addr} {u : HO} {fs : List (Str × V)} (hp : H p = some u) (hu : CellH u) (h : H q = some (.xd fs)) : q ≠ p:=by
  rintro rfl
  rw [hp] at h
  cases h
  exact hu
theorem fz_ne_cell {p q : Addr} {u w : HO} {o : Obj} (hp : H p = some u) (hu : CellH u) (h : H q = some (.frz o w)) : q ≠ p:=by
  rintro rfl
  rw [hp] at h
  cases h
  exact hu
theorem tbl_ne_cell {p q : Addr} {u : HO} {ps : Array Value} (hp : H p = some u) (hu : CellH u) (h : H q = some (.tbl ps)) : q ≠ p:=by
  rintro rfl
  rw [hp] at h
  cases h
  exact hu
theorem tabs_up {T : List NdefX.NTab} (e1 : ∀ p ps,H p = some (.tbl ps) → H1 p = some (.tbl ps)) (e2 : ∀ p φ,H p = some (.ext φ) → NotD φ → H1 p = some (.ext φ)) (h : NdefX.TabsN T H) : NdefX.TabsN T H1:=fun t ht => by
  obtain ⟨ps,h1,h2,h3⟩:=h t ht
  refine ⟨ps,e1 _ _ h1,h2,fun pos cv hc => ?_⟩
  obtain ⟨c,q1,q2⟩:=h3 pos cv hc
  exact ⟨c,q1,e2 _ _ q2 code_not⟩
theorem upd_tr {p : Addr} {o : HO} : ∀ b,H b ≠ none → upd H p o b ≠ none:=fun b h => by
  by_cases e : b = p
  · subst e; rw [upd_same]; simp
  · rw [upd_ne e]; exact h
def ext (μ : Nat → Addr) (n : Nat) (p : Addr) : Nat → Addr:=fun m => if m = n then p else μ m
theorem ext_same {n : Nat} {p : Addr} : ext μ n p n = p:=by unfold ext; rw [if_pos rfl]
theorem ext_ne {n m : Nat} {p : Addr} (h : m ≠ n) : ext μ n p m = μ m:=by unfold ext; rw [if_neg h]
theorem Ev.beside {p : Addr} {o : HO} (hp : H p = none) : Ev K μ N H μ N (upd H p o):=
  ⟨⟨Nat.le_refl _,fun _ _ => rfl,fun _ _ h => SqT.upd_new hp h,fun _ _ h => RoL.upd_new hp h,fun _ _ h _ => by rw [upd_ne (ne_of_none h hp)]; exact h,fun _ _ h => by rw [upd_ne (ne_of_none h hp)]; exact h,fun _ _ _ h => by rw [upd_ne (ne_of_none h hp)]; exact h⟩,fun b u h _ _ => by rw [upd_ne (ne_of_none h hp)]; exact h,fun n h1 h2 => absurd h2 (by omega),upd_tr⟩
theorem SR.beside {cl : CL} {st : Store} (S : SR K cl μ st H) {p : Addr} {o : HO} (hp : H p = none) : SR K cl μ st (upd H p o):=
  ⟨S.inj,fun n hn => by
    obtain ⟨c,h1,h2⟩:=S.cell n hn
    exact ⟨c,h1,h2.ev (Ev.beside hp) (upd_ne (S.ne_new hp n hn))⟩,S.out,cl.up (Ev.beside hp).toEv0 S.pp,tabs_up (fun _ _ h => by rw [upd_ne (ne_of_none h hp)]; exact h) (fun _ _ h _ => by rw [upd_ne (ne_of_none h hp)]; exact h) S.tb⟩
theorem Ev.new {p : Addr} {o : HO} (hp : H p = none) : Ev K μ N H (ext μ N p) (N + 1) (upd H p o) where
  le:=Nat.le_succ _
  mu:=fun n h => ext_ne (by omega)
  sq:=fun _ _ h => SqT.upd_new hp h
  rq:=fun _ _ h => RoL.upd_new hp h
  ex:=fun _ _ h _ => by rw [upd_ne (ne_of_none h hp)]; exact h
  xd:=fun _ _ h => by rw [upd_ne (ne_of_none h hp)]; exact h
  fz:=fun _ _ _ h => by rw [upd_ne (ne_of_none h hp)]; exact h
  kp:=fun b u h _ _ => by rw [upd_ne (ne_of_none h hp)]; exact h
  fr:=fun n h1 h2 => by
    have e : n = N:=by omega
    subst e; rw [ext_same]; exact hp
  tr:=upd_tr
theorem SR.mk_new {cl : CL} {st : Store} (S : SR K cl μ st H) {p : Addr} {o : HO} {c : Cell} (hp : H p = none) (hc : CellOk K cl (ext μ st.nxt p) (st.nxt + 1) (upd H p o) p c) : SR K cl (ext μ st.nxt p) (st.new c) (upd H p o) where
  inj:=fun m n hm hn e => by
    have hm' : m < st.nxt + 1:=hm
    have hn' : n < st.nxt + 1:=hn
    by_cases a : m = st.nxt
    · by_cases b : n = st.nxt
      · rw [a,b]
      · rw [a,ext_same,ext_ne b] at e
        exact absurd e.symm (S.ne_new hp n (by omega))
    · by_cases b : n = st.nxt
      · rw [b,ext_same,ext_ne a] at e
        exact absurd e (S.ne_new hp m (by omega))
      · rw [ext_ne a,ext_ne b] at e
        exact S.inj m n (by omega) (by omega) e
  cell:=fun n hn => by
    have hn' : n < st.nxt + 1:=hn
    by_cases b : n = st.nxt
    · subst b
      exact ⟨c,by unfold Store.new; exact if_pos rfl,by rw [ext_same]; exact hc⟩
    · obtain ⟨c',h1,h2⟩:=S.cell n (by omega)
      refine ⟨c',by unfold Store.new; exact (if_neg b).trans h1,?_⟩
      rw [ext_ne b]
      exact h2.ev (Ev.new hp) (upd_ne (S.ne_new hp n (by omega)))
  out:=fun n hn => by
    have hn' : st.nxt + 1 ≤ n:=hn
    unfold Store.new
    exact (if_neg (by omega)).trans (S.out n (by omega))
  pp:=cl.up (Ev.new hp).toEv0 S.pp
  tb:=tabs_up (fun _ _ h => by rw [upd_ne (ne_of_none h hp)]; exact h) (fun _ _ h _ => by rw [upd_ne (ne_of_none h hp)]; exact h) S.tb
theorem SR.new_lst {cl : CL} {st : Store} (S : SR K cl μ st H) {p : Addr} {xs : List D} {vs : List V} (hp : H p = none) (h : VRs K μ st.nxt H xs vs) : SR K cl (ext μ st.nxt p) (st.new (.lst xs)) (upd H p (.lst vs)):=
  S.mk_new hp ⟨vs,upd_same,h.ev (Ev.new hp)⟩
theorem Ev.put {n : Nat} {o u : HO} (hn : n < N) (hu : H (μ n) = some u) (hc : CellH u) : Ev K μ N H μ N (upd H (μ n) o):=
  ⟨⟨Nat.le_refl _,fun _ _ => rfl,fun _ _ h => SqT.upd_cell hu hc h,fun _ _ h => RoL.upd_cell hu hc h,fun _ _ h n => by rw [upd_ne (ext_ne_cell hu hc h n)]; exact h,fun _ _ h => by rw [upd_ne (xd_ne_cell hu hc h)]; exact h,fun _ _ _ h => by rw [upd_ne (fz_ne_cell hu hc h)]; exact h⟩,fun b w h hb _ => by rw [upd_ne (fun e => hb n hn e.symm)]; exact h,fun m h1 h2 => absurd h2 (by omega),upd_tr⟩
theorem SR.put_ {cl : CL} {st : Store} (S : SR K cl μ st H) {n : Nat} {o : HO} {c c0 : Cell} (h0 : st.at_ n = some c0) (hm : c0.mut) (hn : n < st.nxt) (hc : CellOk K cl μ st.nxt (upd H (μ n) o) (μ n) c) : SR K cl μ (st.put n c) (upd H (μ n) o) ∧ Ev K μ st.nxt H μ st.nxt (upd H (μ n) o):=by
  obtain ⟨u,hu,hcu⟩:=(S.get h0).there hm
  have e : Ev K μ st.nxt H μ st.nxt (upd H (μ n) o):=Ev.put hn hu hcu
  refine ⟨⟨S.inj,fun m hm => ?_,fun m hm => ?_,cl.up e.toEv0 S.pp,tabs_up (fun _ _ h => by rw [upd_ne (tbl_ne_cell hu hcu h)]; exact h) e.ex S.tb⟩,e⟩
  · have hm' : m < st.nxt:=hm
    by_cases b : m = n
    · subst b
      exact ⟨c,by unfold Store.put; exact if_pos rfl,hc⟩
    · obtain ⟨c',h1,h2⟩:=S.cell m hm'
      exact ⟨c',by unfold Store.put; exact (if_neg b).trans h1,h2.ev e (upd_ne fun q => b (S.inj m n hm' hn q))⟩
  · have hm' : st.nxt ≤ m:=hm
    unfold Store.put
    exact (if_neg (by omega)).trans (S.out m hm')
end
section
variable (K : PySem.W.Frag) (cl : CL)
def XR (μ : Nat → Addr) (N : Nat) (H : Hp) (c : Nat) (fs : List (Str × D)) (cls : Value) (d : Option Addr) : Prop:=
  cls = .ref (cl c) ∧ ((fs = [] ∧ d = none) ∨ ∃ a ps,d = some a ∧ H a = some (.xd ps) ∧ ps.map (·.1) = fs.map (·.1) ∧ VRs K μ N H (fs.map (·.2)) (ps.map (·.2)))
def Post {α β : Type} (rel : (Nat → Addr) → Nat → Hp → α → β → Prop) (μ : Nat → Addr) (N : Nat) (H : Hp) (Q : β → Hp → Prop) (W : XK) : Res α → Prop
  | .ok a st' => ∀ μ' H' b,SR K cl μ' st' H' → Ev K μ N H μ' st'.nxt H' → rel μ' st'.nxt H' a b → Q b H'
  | .exc c fs st' => ∀ μ' H' cls d,SR K cl μ' st' H' → Ev K μ N H μ' st'.nxt H' → XR K cl μ' st'.nxt H' c fs cls d → W cls d H'
  | .bad => False
def PostO {α β : Type} (rel : (Nat → Addr) → Nat → Hp → α → β → Prop) (μ : Nat → Addr) (N : Nat) (H : Hp) (Q : β → Hp → Prop) : Option (α × Store) → Prop
  | some (a,st') => ∀ μ' H' b,SR K cl μ' st' H' → Ev K μ N H μ' st'.nxt H' → rel μ' st'.nxt H' a b → Q b H'
  | none => False
def Same_ {α : Type} : (Nat → Addr) → Nat → Hp → α → α → Prop:=fun _ _ _ a b => a = b
def LR (μ : Nat → Addr) (N : Nat) (H : Hp) (l : Loc) (σ : St) : Prop:=l.length = σ.length ∧ ∀ (i : Nat) (d : D),l[i]? = some (some d) → ∃ v,σ[i]? = some (some v) ∧ VR K μ N H d v
abbrev ME:=Loc → Store → Res D
abbrev MT:=Loc → Store → Res Bool
abbrev MA:=Loc → Store → Res (List D)
def rdE (W : WX) (m : ME) : TE:=fun σ H Q => ∃ μ st l,SR K cl μ st H ∧ LR K μ st.nxt H l σ ∧ Post K cl (VR K) μ st.nxt H Q (WE W σ) (m l st)
def rdT (W : WX) (m : MT) : TT:=fun σ H Q => ∃ μ st l,SR K cl μ st H ∧ LR K μ st.nxt H l σ ∧ Post K cl Same_ μ st.nxt H Q (WE W σ) (m l st)
def rdA (W : WX) (m : MA) : TA:=fun σ H Q => ∃ μ st l,SR K cl μ st H ∧ LR K μ st.nxt H l σ ∧ Post K cl (VRs K) μ st.nxt H Q (WE W σ) (m l st)
inductive RS where
  | nx (l : Loc) (st : Store)
  | rt (d : D) (st : Store)
  | bk (l : Loc) (st : Store)
  | ct (l : Loc) (st : Store)
  | exc (c : Nat) (fs : List (Str × D)) (l : Loc) (st : Store)
  | bad
abbrev MS:=Loc → Store → RS
def PostL (μ : Nat → Addr) (N : Nat) (H : Hp) (l : Loc) (st' : Store) (Q : St → Hp → Prop) : Prop:=
  ∀ μ' H' σ',SR K cl μ' st' H' → Ev K μ N H μ' st'.nxt H' → LR K μ' st'.nxt H' l σ' → Q σ' H'
def PostS (μ : Nat → Addr) (N : Nat) (H : Hp) (E : Ends) (W : WX) : RS → Prop
  | .nx l st' => PostL K cl μ N H l st' E.nx
  | .rt d st' => ∀ μ' H' v,SR K cl μ' st' H' → Ev K μ N H μ' st'.nxt H' → VR K μ' st'.nxt H' d v → E.rt v H'
  | .bk l st' => PostL K cl μ N H l st' E.bk
  | .ct l st' => PostL K cl μ N H l st' E.ct
  | .exc c fs l st' => ∀ μ' H' σ' cls d,SR K cl μ' st' H' → Ev K μ N H μ' st'.nxt H' → LR K μ' st'.nxt H' l σ' → XR K cl μ' st'.nxt H' c fs cls d → W cls d σ' H'
  | .bad => False
def rdS (W : WX) (m : MS) : TS:=fun E σ H => ∃ μ st l,SR K cl μ st H ∧ LR K μ st.nxt H l σ ∧ PostS K cl μ st.nxt H E W (m l st)
end
section
variable {K : PySem.W.Frag} {cl : CL} {μ μ1 μ2 : Nat → Addr} {N N1 N2 : Nat} {H H1 H2 : Hp}
theorem LR.ev {l : Loc} {σ : St} (h : LR K μ N H l σ) (e : Ev K μ N H μ1 N1 H1) : LR K μ1 N1 H1 l σ:=⟨h.1,fun i d q => let ⟨v,a,b⟩:=h.2 i d q; ⟨v,a,b.ev e⟩⟩
theorem LR.set {l : Loc} {σ : St} {d : D} {v : V} (h : LR K μ N H l σ) (i : Nat) (hd : VR K μ N H d v) : LR K μ N H (l.set i (some d)) (σ.set i (some v)):=by
  refine ⟨by simp [h.1],fun j e q => ?_⟩
  by_cases hj : i = j
  · subst hj
    by_cases hl : i < l.length
    · rw [List.getElem?_set_self hl] at q
      cases q
      exact ⟨v,List.getElem?_set_self (by rw [← h.1]; exact hl),hd⟩
    · rw [List.getElem?_eq_none (by simpa using hl)] at q; cases q
  · rw [List.getElem?_set_ne hj] at q
    rw [List.getElem?_set_ne hj]
    exact h.2 j e q
theorem Post.mono {α β : Type} {rel : (Nat → Addr) → Nat → Hp → α → β → Prop} {Q : β → Hp → Prop} {W : XK} {r : Res α} (e : Ev K μ N H μ1 N1 H1) (h : Post K cl rel μ N H Q W r) : Post K cl rel μ1 N1 H1 Q W r:=by
  cases r with
  | ok a st' => exact fun μ' H' b s e' q => h μ' H' b s (e.trans e') q
  | exc c fs st' => exact fun μ' H' cls d s e' q => h μ' H' cls d s (e.trans e') q
  | bad => exact h
theorem PostO.mono {α β : Type} {rel : (Nat → Addr) → Nat → Hp → α → β → Prop} {Q : β → Hp → Prop} {r : Option (α × Store)} (e : Ev K μ N H μ1 N1 H1) (h : PostO K cl rel μ N H Q r) : PostO K cl rel μ1 N1 H1 Q r:=by
  cases r with
  | some a => exact fun μ' H' b s e' q => h μ' H' b s (e.trans e') q
  | none => exact h
theorem PostS.mono {E : Ends} {W : WX} {r : RS} (e : Ev K μ N H μ1 N1 H1) (h : PostS K cl μ N H E W r) : PostS K cl μ1 N1 H1 E W r:=by
  cases r with
  | nx l st' => exact fun μ' H' σ' s e' q => h μ' H' σ' s (e.trans e') q
  | rt d st' => exact fun μ' H' v s e' q => h μ' H' v s (e.trans e') q
  | bk l st' => exact fun μ' H' σ' s e' q => h μ' H' σ' s (e.trans e') q
  | ct l st' => exact fun μ' H' σ' s e' q => h μ' H' σ' s (e.trans e') q
  | exc c fs l st' => exact fun μ' H' σ' cls d s e' q x => h μ' H' σ' cls d s (e.trans e') q x
  | bad => exact h
theorem Post.bind {α β γ δ : Type} {rel : (Nat → Addr) → Nat → Hp → α → β → Prop} {rel' : (Nat → Addr) → Nat → Hp → γ → δ → Prop} {Q : β → Hp → Prop} {Q' : δ → Hp → Prop} {W : XK} {r : Res γ} {k : γ → Store → Res α}
    (h : Post K cl rel μ N H Q W (r.bind k))
    (hk : ∀ c st1 μ1 H1 v,r = .ok c st1 → SR K cl μ1 st1 H1 → Ev K μ N H μ1 st1.nxt H1 → rel' μ1 st1.nxt H1 c v → Post K cl rel μ1 st1.nxt H1 Q W (k c st1) → Q' v H1) : Post K cl rel' μ N H Q' W r:=by
  cases r with
  | ok c st1 => exact fun μ1 H1 v s e q => hk c st1 μ1 H1 v rfl s e q (Post.mono e h)
  | exc c fs st' => exact h
  | bad => exact h
def Res.ofO {α : Type} : Option (α × Store) → Res α
  | some (a,st) => .ok a st
  | none => .bad
theorem Post.ofO {α β : Type} {rel : (Nat → Addr) → Nat → Hp → α → β → Prop} {Q : β → Hp → Prop} {W : XK} {r : Option (α × Store)} (h : Post K cl rel μ N H Q W (Res.ofO r)) : PostO K cl rel μ N H Q r:=by
  cases r with
  | some a => exact h
  | none => exact h
end
theorem PE.weak {X : Cx} {e : Expr} {t t' : TE} (h : PE X e t) (w : ∀ σ H Q,t' σ H Q → t σ H Q) : PE X e t':=⟨fun pins s σ H Q I q => h.run pins s σ H Q I (w σ H Q q)⟩
theorem PT.weak {X : Cx} {e : Expr} {t t' : TT} (h : PT X e t) (w : ∀ σ H Q,t' σ H Q → t σ H Q) : PT X e t':=⟨fun pins s σ H Q I q => h.run pins s σ H Q I (w σ H Q q)⟩
theorem PW.weak {X : Cx} {e : Expr} {t t' : TT} (h : PW X e t) (w : ∀ σ H Q,t' σ H Q → t σ H Q) : PW X e t':=⟨fun wh pins s σ H Q I q => h.run wh pins s σ H Q I (w σ H Q q)⟩
theorem PA.weak {X : Cx} {e : List Expr} {t t' : TA} (h : PA X e t) (w : ∀ σ H Q,t' σ H Q → t σ H Q) : PA X e t':=⟨fun pos pins s σ H Q I q => h.run pos pins s σ H Q I (w σ H Q q)⟩
theorem PS.weak {X : Cx} {e : Stmt} {t t' : TS} (h : PS X e t) (w : ∀ E σ H,t' E σ H → t E σ H) : PS X e t':=⟨fun pins s σ H E I q => h.run pins s σ H E I (w E σ H q)⟩
theorem PSs.weak {X : Cx} {e : List Stmt} {t t' : TS} (h : PSs X e t) (w : ∀ E σ H,t' E σ H → t E σ H) : PSs X e t':=⟨fun pins s σ H E I q => h.run pins s σ H E I (w E σ H q)⟩
abbrev SE (X : Cx) (cl : CL) (W : WX) (e : Expr) (m : ME) : Prop:=PE X e (rdE X.K cl W m)
abbrev ST (X : Cx) (cl : CL) (W : WX) (e : Expr) (m : MT) : Prop:=PT X e (rdT X.K cl W m)
abbrev SW (X : Cx) (cl : CL) (W : WX) (e : Expr) (m : MT) : Prop:=PW X e (rdT X.K cl W m)
abbrev SA (X : Cx) (cl : CL) (W : WX) (es : List Expr) (m : MA) : Prop:=PA X es (rdA X.K cl W m)
abbrev SS (X : Cx) (cl : CL) (W : WX) (st : Stmt) (m : MS) : Prop:=PS X st (rdS X.K cl W m)
abbrev SSs (X : Cx) (cl : CL) (W : WX) (st : List Stmt) (m : MS) : Prop:=PSs X st (rdS X.K cl W m)
end DV
namespace DV
open PySem L2
abbrev F1:=D → Store → Option (D × Store)
abbrev F2:=D → D → Store → Option (D × Store)
abbrev FL:=List D → Store → Option (D × Store)
def rdO (K : PySem.W.Frag) (cl : CL) (f : F2) : R2:=fun x y H Q => ∃ μ st d1 d2,SR K cl μ st H ∧ VR K μ st.nxt H d1 x ∧ VR K μ st.nxt H d2 y ∧ PostO K cl (VR K) μ st.nxt H Q (f d1 d2 st)
def rdU (K : PySem.W.Frag) (cl : CL) (f : F1) : V → Hp → VK → Prop:=fun x H Q => ∃ μ st d1,SR K cl μ st H ∧ VR K μ st.nxt H d1 x ∧ PostO K cl (VR K) μ st.nxt H Q (f d1 st)
def rdC (K : PySem.W.Frag) (cl : CL) (f : FL) : List V → Hp → VK → Prop:=fun xs H Q => ∃ μ st ds,SR K cl μ st H ∧ VRs K μ st.nxt H ds xs ∧ PostO K cl (VR K) μ st.nxt H Q (f ds st)
abbrev OpS (X : Cx) (cl : CL) (g : Value → Value → Sem Value) (f : F2) : Prop:=OpR X g (rdO X.K cl f)
abbrev CallS (X : Cx) (cl : CL) (v : Value) (f : FL) : Prop:=CallR X v (rdC X.K cl f)
def mVar (i : Nat) : ME:=fun l st => match l[i]? with
  | some (some d) => .ok d st
  | _ => .bad
def mC (d : D) : ME:=fun _ st => .ok d st
def m2 (f : F2) (a b : ME) : ME:=fun l st => (a l st).bind fun x st1 => (b l st1).bind fun y st2 => Res.ofO (f x y st2)
def m1 (f : F1) (a : ME) : ME:=fun l st => (a l st).bind fun x st1 => Res.ofO (f x st1)
def mL (f : FL) (a : MA) : ME:=fun l st => (a l st).bind fun xs st1 => Res.ofO (f xs st1)
def maNil : MA:=fun _ st => .ok [] st
def maCons (a : ME) (b : MA) : MA:=fun l st => (a l st).bind fun x st1 => (b l st1).bind fun xs st2 => .ok (x :: xs) st2
def fTup : FL:=fun xs st => if xs.length ≤ sizeLine then some (.tup xs,st) else none
def fLst : FL:=fun xs st => if xs.length ≤ sizeLine then some (.ref st.nxt,st.new (.lst xs)) else none
def mTup (a : MA) : ME:=mL fTup a
def mLst (a : MA) : ME:=mL fLst a
def toB : D → Store → Res Bool
  | .bl b,st => .ok b st
  | _,_ => .bad
def tB_ (a : ME) : MT:=fun l st => (a l st).bind toB
def tOr_ (a b : MT) : MT:=fun l st => (a l st).bind fun k st1 => if k then .ok true st1 else b l st1
def tNot_ (a : MT) : MT:=fun l st => (a l st).bind fun k st1 => .ok (!k) st1
def mIf (c : MT) (a b : ME) : ME:=fun l st => (c l st).bind fun k st1 => if k then a l st1 else b l st1
section
variable {X : Cx} {cl : CL} {W : WX} {a b c e : Expr} {es rest : List Expr} {ma mb mc m : ME} {mt mu : MT} {xs : MA} {pos : Pos}
theorem s_pe {t : TE} (h : PE X e t) (w : ∀ σ H Q,rdE X.K cl W m σ H Q → t σ H Q) : SE X cl W e m:=PE.weak h w
theorem s_var (i : Nat) {x : Str} (hN : X.N[i]? = some x:=by rfl) (hv : Vis X.env.scope x:=by first | exact Or.inl rfl | exact Or.inr (Or.inl rfl) | exact Or.inr (Or.inr rfl)) (hd : (x == ("__debug__" : Str)) = false:=by decide)
    (hcd : (x == ("__classdict__" : Str)) = false:=by decide) : SE X cl W (.Name x pos) (mVar i):=s_pe (pe_var (i:=i) hN hv hd hcd) fun σ H Q ⟨μ,st,l,S,L,h⟩ => by
  unfold mVar at h
  cases q : l[i]? with
  | none => rw [q] at h; exact h.elim
  | some o =>
    cases o with
    | none => rw [q] at h; exact h.elim
    | some d =>
      rw [q] at h
      obtain ⟨v,h1,h2⟩:=L.2 i d q
      exact ⟨v,h1,h μ H v S Ev.refl h2⟩
theorem s_c {d : D} {v : V} (he : PE X e (tC v)) (hv : ∀ μ N H,VR X.K μ N H d v) : SE X cl W e (mC d):=s_pe he fun σ H Q ⟨μ,st,l,S,L,h⟩ => h μ H v S Ev.refl (hv μ st.nxt H)
theorem s_int {i : Int} {j : Nat} : SE X cl W (.Constant (.int i) j pos) (mC (.int i)):=s_c pe_int fun _ _ _ => by simp only [VR]
theorem s_bl {k : Bool} {j : Nat} : SE X cl W (.Constant (.bool k) j pos) (mC (.bl k)):=s_c pe_bl fun _ _ _ => by simp only [VR]
theorem s_non {j : Nat} : SE X cl W (.Constant .none j pos) (mC .non):=s_c pe_non fun _ _ _ => by simp only [VR]
theorem s_str {x : Str} {j : Nat} : SE X cl W (.Constant (.str x) j pos) (mC (.str x)):=s_c pe_str fun _ _ _ => by simp only [VR]
theorem sa_nil : SA X cl W [] maNil:=PA.weak pa_nil fun σ H Q ⟨μ,st,l,S,L,h⟩ => h μ H [] S Ev.refl (by simp only [VRs])
theorem sa_cons (ha : SE X cl W e ma) (hr : SA X cl W es xs) (hs : starEach (e :: es) X.env = (false,eval e X.env) :: starEach es X.env:=by rfl) : SA X cl W (e :: es) (maCons ma xs):=
  PA.weak (pa_cons ha hr hs) fun σ H Q ⟨μ,st,l,S,L,h⟩ => ⟨μ,st,l,S,L,Post.bind h fun x st1 μ1 H1 v _ S1 e1 r1 h1 =>
    ⟨μ1,st1,l,S1,L.ev e1,Post.bind h1 fun ys st2 μ2 H2 vs _ S2 e2 r2 h2 => h2 μ2 H2 (v :: vs) S2 Ev.refl (by simp only [VRs]; exact ⟨v,vs,rfl,r1.ev e2,r2⟩)⟩⟩
theorem w_op {f : F2} : ∀ σ H Q,rdE X.K cl W (m2 f ma mb) σ H Q → L2.tOp (rdO X.K cl f) (rdE X.K cl W ma) (rdE X.K cl W mb) σ H Q:=fun σ H Q ⟨μ,st,l,S,L,h⟩ =>
  ⟨μ,st,l,S,L,Post.bind h fun x st1 μ1 H1 v _ S1 e1 r1 h1 => ⟨μ1,st1,l,S1,L.ev e1,Post.bind h1 fun y st2 μ2 H2 w _ S2 e2 r2 h2 => ⟨μ2,st2,x,y,S2,r1.ev e2,r2,Post.ofO h2⟩⟩⟩
theorem s_op {op : Operator} {f : F2} (ho : OpS X cl (binaryOp op) f) (ha : SE X cl W a ma) (hb : SE X cl W b mb) : SE X cl W (.BinOp a op b pos) (m2 f ma mb):=s_pe (pe_op ho ha hb) w_op
theorem s_un {op : UnaryOp} {f : F1} (ho : UnR X (unaryOp op) (rdU X.K cl f)) (ha : SE X cl W a ma) : SE X cl W (.UnaryOp op a pos) (m1 f ma):=s_pe (pe_un ho ha) fun σ H Q ⟨μ,st,l,S,L,h⟩ =>
  ⟨μ,st,l,S,L,Post.bind h fun x st1 μ1 H1 v _ S1 e1 r1 h1 => ⟨μ1,st1,x,S1,r1,Post.ofO h1⟩⟩
theorem s_cmp {op : CmpOp} {f : F2} (ho : OpS X cl (compareOp op) f) (ha : SE X cl W a ma) (hb : SE X cl W b mb) (hm : behindInMarks op b = false:=by first | exact nomark _ | rfl) : SE X cl W (.Compare a [op] [b] pos) (m2 f ma mb):=s_pe (pe_cmpR ho ha hb hm) w_op
theorem s_ix {f : F2} (hr : IxR X (rdO X.K cl f)) (ha : SE X cl W a ma) (hb : SE X cl W b mb) (hs : PlainIx b:=by intro _ _; rfl) : SE X cl W (.Subscript a b pos) (m2 f ma mb):=s_pe (pe_ix hr ha hb hs) w_op
theorem w_toB {t : TE} (w : ∀ σ H Q,rdE X.K cl W m σ H Q → t σ H Q) : ∀ σ H Q,rdT X.K cl W (tB_ m) σ H Q → (fun σ H Q => t σ H fun x H' => ∃ k,x = .bl k ∧ Q k H') σ H Q:=fun σ H Q ⟨μ,st,l,S,L,h⟩ =>
  w σ H _ ⟨μ,st,l,S,L,Post.bind h fun d st1 μ1 H1 v _ S1 e1 r1 h1 => by
    cases d with
    | bl k =>
      simp only [VR] at r1
      exact ⟨k,r1,h1 μ1 H1 k S1 Ev.refl rfl⟩
    | _ => exact h1.elim⟩
theorem t_cmp {op : CmpOp} {f : F2} (ho : OpS X cl (compareOp op) f) (ha : SE X cl W a ma) (hb : SE X cl W b mb) (hm : behindInMarks op b = false:=by first | exact nomark _ | rfl) : ST X cl W (.Compare a [op] [b] pos) (tB_ (m2 f ma mb)):=
  PT.weak (pt_cmpR ho ha hb hm) (w_toB w_op)
theorem t_val (h : SE X cl W e m) (he : ∀ whole,isTrue e X.env whole = (do let v ← whole; standAt e.pos; holding [v] (truthy v)):=by intro _; rfl) : ST X cl W e (tB_ m):=PT.weak (pt_val h he) (w_toB fun _ _ _ q => q)
theorem t_or1 (ha : ST X cl W a mt) : SW X cl W (.BoolOp .Or [a] pos) mt:=pw_or1 ha
theorem t_or (ha : ST X cl W a mt) (hb : SW X cl W (.BoolOp .Or (b :: rest) pos) mu) : SW X cl W (.BoolOp .Or (a :: b :: rest) pos) (tOr_ mt mu):=PW.weak (pw_or ha hb) fun σ H Q ⟨μ,st,l,S,L,h⟩ =>
  ⟨μ,st,l,S,L,Post.bind h fun k st1 μ1 H1 k' _ S1 e1 r1 h1 => by
    cases r1
    cases k with
    | false => exact ⟨μ1,st1,l,S1,L.ev e1,h1⟩
    | true => exact h1 μ1 H1 true S1 Ev.refl rfl⟩
theorem t_w (h : SW X cl W e mt) : ST X cl W e mt:=h.pt
theorem t_not (ha : ST X cl W a mt) : ST X cl W (.UnaryOp .Not a pos) (tNot_ mt):=PT.weak (pt_not ha) fun σ H Q ⟨μ,st,l,S,L,h⟩ =>
  ⟨μ,st,l,S,L,Post.bind h fun k st1 μ1 H1 k' _ S1 e1 r1 h1 => by
    cases r1
    exact h1 μ1 H1 (!k) S1 Ev.refl rfl⟩
theorem s_if (hc : ST X cl W c mt) (ha : SE X cl W a ma) (hb : SE X cl W b mb) : SE X cl W (.IfExp c a b pos) (mIf mt ma mb):=s_pe (pe_ifExp hc ha hb) fun σ H Q ⟨μ,st,l,S,L,h⟩ =>
  ⟨μ,st,l,S,L,Post.bind h fun k st1 μ1 H1 k' _ S1 e1 r1 h1 => by
    cases r1
    cases k with
    | true => exact ⟨μ1,st1,l,S1,L.ev e1,h1⟩
    | false => exact ⟨μ1,st1,l,S1,L.ev e1,h1⟩⟩
theorem s_tup {x1} (h : SA X cl W es xs) : SE X cl W (.Tuple es x1 pos) (mTup xs):=s_pe (pe_tup h) fun σ H Q ⟨μ,st,l,S,L,h⟩ =>
  ⟨μ,st,l,S,L,Post.bind h fun ds st1 μ1 H1 vs _ S1 e1 r1 h1 => by
    unfold fTup at h1
    by_cases hz : ds.length ≤ sizeLine
    · rw [if_pos hz] at h1
      refine ⟨by rw [← r1.length]; exact hz,fun p hp => h1 μ1 (upd H1 p (.tup vs)) (.ref p) (S1.beside hp) (Ev.beside hp) ?_⟩
      simp only [VR]
      exact ⟨p,vs,rfl,SqT.of upd_same,r1.ev (Ev.beside hp)⟩
    · rw [if_neg hz] at h1; exact h1.elim⟩
theorem s_lst (h : SA X cl W es xs) : SE X cl W (.List es pos) (mLst xs):=s_pe (pe_lst h) fun σ H Q ⟨μ,st,l,S,L,h⟩ =>
  ⟨μ,st,l,S,L,Post.bind h fun ds st1 μ1 H1 vs _ S1 e1 r1 h1 => by
    unfold fLst at h1
    by_cases hz : ds.length ≤ sizeLine
    · rw [if_pos hz] at h1
      refine ⟨by rw [← r1.length]; exact hz,fun p hp => h1 (ext μ1 st1.nxt p) (upd H1 p (.lst vs)) (.ref p) (S1.new_lst hp r1) (Ev.new hp) ?_⟩
      simp only [VR]
      exact ⟨Nat.lt_succ_self _,by rw [ext_same]⟩
    · rw [if_neg hz] at h1; exact h1.elim⟩
theorem w_cB {f : FL} : ∀ σ H Q,rdE X.K cl W (mL f xs) σ H Q → tCB (rdC X.K cl f) (rdA X.K cl W xs) σ H Q:=fun σ H Q ⟨μ,st,l,S,L,h⟩ =>
  ⟨μ,st,l,S,L,Post.bind h fun ds st1 μ1 H1 vs _ S1 e1 r1 h1 => ⟨μ1,st1,ds,S1,r1,Post.ofO h1⟩⟩
theorem s_callB {f : FL} {id : String} {x : Str} {p : Pos} (hc : CallS X cl (.builtin id) f) (hg : Gl X x) (hm : X.mg x = none) (hv : bootBuiltins x = some (.builtin id)) (ha : SA X cl W (e :: es) xs) (hn : x ≠ "__name__":=by decide) (hdb : (x == ("__debug__" : Str)) = false:=by decide)
    (he : starEach (e :: es) X.env = (false,eval e X.env) :: starEach es X.env:=by rfl) (hpl : (backTo pos (starEach es X.env)).any (·.1) = false:=by rfl) : SE X cl W (.Call (.Name x p) (e :: es) [] pos) (mL f xs):=s_pe (pe_callB hc hg hm hv ha hn hdb he hpl) w_cB
theorem s_callTy {f : FL} {T : String} {x : Str} {p : Pos} (hc : CallS X cl (.type T) f) (hg : Gl X x) (hm : X.mg x = none) (hv : bootBuiltins x = some (.type T)) (ha : SA X cl W (e :: es) xs) (hn : x ≠ "__name__":=by decide) (hdb : (x == ("__debug__" : Str)) = false:=by decide)
    (he : starEach (e :: es) X.env = (false,eval e X.env) :: starEach es X.env:=by rfl) (hpl : (backTo pos (starEach es X.env)).any (·.1) = false:=by rfl) : SE X cl W (.Call (.Name x p) (e :: es) [] pos) (mL f xs):=s_pe (pe_callTy hc hg hm hv ha hn hdb he hpl) w_cB
theorem s_glob {x : Str} {d : D} {v : V} {u : Value} {p : Pos} (hg : Gl X x) (hm : X.mg x = some u) (r : RelV v u) (hv : ∀ μ N H,VR X.K μ N H d v) (hd : (x == ("__debug__" : Str)) = false:=by decide) : SE X cl W (.Name x p) (mC d):=s_c (pe_glob hg hm r hd) hv
end
end DV
namespace DV
open PySem L2
section
variable {K : PySem.W.Frag} {cl : CL} {μ μ1 μ2 : Nat → Addr} {N N1 N2 : Nat} {H H1 H2 : Hp}
def Res.toS {α : Type} (r : Res α) (l : Loc) (k : α → Store → RS) : RS:=
  match r with
  | .ok a st => k a st
  | .exc c fs st => .exc c fs l st
  | .bad => .bad
theorem PostS.bind {γ δ : Type} {rel' : (Nat → Addr) → Nat → Hp → γ → δ → Prop} {E : Ends} {Q' : δ → Hp → Prop} {W : WX} {r : Res γ} {l : Loc} {σ : St} {k : γ → Store → RS}
    (h : PostS K cl μ N H E W (r.toS l k)) (L : LR K μ N H l σ)
    (hk : ∀ c st1 μ1 H1 v,r = .ok c st1 → SR K cl μ1 st1 H1 → Ev K μ N H μ1 st1.nxt H1 → rel' μ1 st1.nxt H1 c v → PostS K cl μ1 st1.nxt H1 E W (k c st1) → Q' v H1) : Post K cl rel' μ N H Q' (WE W σ) r:=by
  cases r with
  | ok c st1 => exact fun μ1 H1 v s e q => hk c st1 μ1 H1 v rfl s e q (PostS.mono e h)
  | exc c fs st' => exact fun μ' H' cls d s e x => h μ' H' σ cls d s e (L.ev e) x
  | bad => exact h
end
abbrev TGT:=D → Loc → Store → Option Loc
def rdG (K : PySem.W.Frag) (cl : CL) (ws : List Nat) (t : TGT) : TG:=fun v σ H Q => ∃ μ st l d l',SR K cl μ st H ∧ LR K μ st.nxt H l σ ∧ VR K μ st.nxt H d v ∧ t d l st = some l' ∧
  ∀ σ',LR K μ st.nxt H l' σ' → σ'.length = σ.length → (∀ j : Nat,j ∉ ws → σ'[j]? = σ[j]?) → Q σ' H
theorem PG.weak {X : Cx} {e : Expr} {t t' : TG} (h : PG X e t) (w : ∀ v σ H Q,t' v σ H Q → t v σ H Q) : PG X e t':=⟨fun pins s σ H v u Q I r q => h.run pins s σ H v u Q I r (w v σ H Q q)⟩
theorem PGs.weak {X : Cx} {e : List Expr} {t t' : TGs} (h : PGs X e t) (w : ∀ v σ H Q,t' v σ H Q → t v σ H Q) : PGs X e t':=⟨fun pins s σ H v u Q I r q => h.run pins s σ H v u Q I r (w v σ H Q q)⟩
abbrev SG (X : Cx) (cl : CL) (e : Expr) (ws : List Nat) (t : TGT) : Prop:=PG X e (rdG X.K cl ws t)
def tgName (i : Nat) : TGT:=fun d l _ => some (l.set i (some d))
section
variable {X : Cx} {cl : CL} {e : Expr} {es : List Expr} {pos : Pos}
theorem g_name (i : Nat) {x : Str} (hN : X.N.Nodup) (hi : X.N[i]? = some x:=by rfl) (hx : L2.Loc X.env.scope x:=by first | exact Or.inl rfl | exact Or.inr rfl) (hf : X.fn x = true ∨ X.env.scope.names.lookup x = some .local:=by first | exact .inl rfl | exact .inr rfl | assumption) : SG X cl (.Name x pos) [i] (tgName i):=
  PG.weak (pg_name (i:=i) hN hi hx hf) fun v σ H Q ⟨μ,st,l,d,l',S,L,r,e,h⟩ => by
    cases e
    exact h _ (L.set i r) (by simp) fun j hj => List.getElem?_set_ne (by simpa [eq_comm] using hj)
end
def msNil : MS:=fun l st => .nx l st
def msSeq (a b : MS) : MS:=fun l st => match a l st with
  | .nx l' st' => b l' st'
  | r => r
def msRet (m : ME) : MS:=fun l st => (m l st).toS l fun d st1 => .rt d st1
def msIf (c : MT) (a b : MS) : MS:=fun l st => (c l st).toS l fun k st1 => if k then a l st1 else b l st1
def msAsg (m : ME) (t : TGT) : MS:=fun l st => (m l st).toS l fun d st1 => match t d l st1 with
  | some l' => .nx l' st1
  | none => .bad
section
variable {X : Cx} {cl : CL} {W : WX} {e c : Expr} {m : ME} {mt : MT} {xs : MA} {st₁ : Stmt} {rest sa sb : List Stmt} {ma mb : MS} {pos : Pos}
theorem ss_nil : SSs X cl W [] msNil:=PSs.weak pss_nil fun E σ H ⟨μ,st,l,S,L,h⟩ => h μ H σ S Ev.refl L
theorem w_seq : ∀ E σ H,rdS X.K cl W (msSeq ma mb) E σ H → tSeq (rdS X.K cl W ma) (rdS X.K cl W mb) E σ H:=fun E σ H ⟨μ,st,l,S,L,h⟩ => by
  refine ⟨μ,st,l,S,L,?_⟩
  unfold msSeq at h
  cases q : ma l st with
  | nx l' st' =>
    rw [q] at h
    exact fun μ' H' σ' s e L' => ⟨μ',st',l',s,L',PostS.mono e h⟩
  | rt d st' => rw [q] at h; exact h
  | bk l' st' => rw [q] at h; exact h
  | ct l' st' => rw [q] at h; exact h
  | exc c fs l' st' => rw [q] at h; exact h
  | bad => rw [q] at h; exact h
theorem ss_cons (h1 : SS X cl W st₁ ma) (h2 : SSs X cl W rest mb) : SSs X cl W (st₁ :: rest) (msSeq ma mb):=PSs.weak (pss_cons h1 h2) w_seq
theorem ss_one (h1 : SS X cl W st₁ ma) : SSs X cl W [st₁] ma:=pss_one h1
theorem ss_ret (he : SE X cl W e m) : SS X cl W (.Return (some e) pos) (msRet m):=PS.weak (ps_ret he) fun E σ H ⟨μ,st,l,S,L,h⟩ =>
  ⟨μ,st,l,S,L,PostS.bind h L fun d st1 μ1 H1 v _ S1 e1 r1 h1 => h1 μ1 H1 v S1 Ev.refl r1⟩
theorem ss_if (hc : ST X cl W c mt) (ha : SSs X cl W sa ma) (hb : SSs X cl W sb mb) : SS X cl W (.If c sa sb pos) (msIf mt ma mb):=PS.weak (ps_if hc ha hb) fun E σ H ⟨μ,st,l,S,L,h⟩ =>
  ⟨μ,st,l,S,L,PostS.bind h L fun k st1 μ1 H1 k' _ S1 e1 r1 h1 => by
    cases r1
    cases k with
    | true => exact ⟨μ1,st1,l,S1,L.ev e1,h1⟩
    | false => exact ⟨μ1,st1,l,S1,L.ev e1,h1⟩⟩
theorem ss_set (i : Nat) {x : Str} {pos' : Pos} (hN : X.N.Nodup) (he : SE X cl W e m) (hi : X.N[i]? = some x:=by rfl) (hx : L2.Loc X.env.scope x:=by first | exact Or.inl rfl | exact Or.inr rfl) (hs : swapsWith e (some (.Name x pos')) pos.line X.env = pure false:=by rfl)
    (hf : X.fn x = true ∨ X.env.scope.names.lookup x = some .local:=by first | exact .inl rfl | exact .inr rfl | assumption) : SS X cl W (.Assign [.Name x pos'] e pos) (msAsg m (tgName i)):=PS.weak (ps_set (i:=i) hN hi hx he hs hf) fun E σ H ⟨μ,st,l,S,L,h⟩ =>
  ⟨μ,st,l,S,L,PostS.bind h L fun d st1 μ1 H1 v _ S1 e1 r1 h1 => h1 μ1 H1 _ S1 Ev.refl ((L.ev e1).set i r1)⟩
end
instance : Coe (List D) Cell:=⟨Cell.lst⟩
structure Iter where
  srcs : List (Nat × Cell)
  items : List D
abbrev MI:=Loc → Store → Res Iter
def SrcOk (srcs : List (Nat × Cell)) (st : Store) : Prop:=∀ p ∈ srcs,st.at_ p.1 = some p.2
def IterR (K : PySem.W.Frag) (cl : CL) (μ₀ : Nat → Addr) (N₀ : Nat) (H₀ : Hp) (it : Iter) (J : It) : Prop:=∀ μ st H,SR K cl μ st H → Ev K μ₀ N₀ H₀ μ st.nxt H → SrcOk it.srcs st →
  (∀ i d,it.items[i]? = some d → J.go i H ∧ ∀ x H',J.yld i H x H' → SR K cl μ st H' ∧ Ev K μ st.nxt H μ st.nxt H' ∧ VR K μ st.nxt H' d x) ∧ J.stop it.items.length H
def rdI (K : PySem.W.Frag) (cl : CL) (W : WX) (m : MI) : TI:=fun σ H R => ∃ μ st l,SR K cl μ st H ∧ LR K μ st.nxt H l σ ∧ Post K cl (IterR K cl) μ st.nxt H R (WE W σ) (m l st)
abbrev SI (X : Cx) (cl : CL) (W : WX) (tg iter : Expr) (m : MI) : Prop:=PI X tg iter (rdI X.K cl W m)
theorem PI.weak {X : Cx} {tg iter : Expr} {t t' : TI} (h : PI X tg iter t) (w : ∀ σ H Q,t' σ H Q → t σ H Q) : PI X tg iter t':=⟨fun pins s σ H R I q => h.run pins s σ H R I (w σ H R q)⟩
open Classical in
noncomputable def loopS (t : TGT) (body : MS) (srcs : List (Nat × Cell)) : List D → Loc → Store → RS
  | [],l,st => if SrcOk srcs st then .nx l st else .bad
  | d :: ds,l,st => if SrcOk srcs st then (match t d l st with
    | none => .bad
    | some l1 => match body l1 st with
      | .nx l2 st2 => loopS t body srcs ds l2 st2
      | .ct l2 st2 => loopS t body srcs ds l2 st2
      | .bk l2 st2 => .nx l2 st2
      | r => r) else .bad
noncomputable def msFor (mi : MI) (t : TGT) (body : MS) : MS:=fun l st => (mi l st).toS l fun it st1 => loopS t body it.srcs it.items l st1
section
variable {X : Cx} {cl : CL} {W : WX}
theorem ss_for {tg iter : Expr} {body : List Stmt} {mi : MI} {t : TGT} {ws : List Nat} {mb : MS} {pos : Pos} (hp : PassesOwn (model X.prog X.w) X.A X.env X.xe) (hc : X.calm = true) (hi : SI X cl W tg iter mi) (hg : SG X cl tg ws t) (hb : SSs X cl W body mb)
    (hs : ∀ x,foldedSetIterable iter X.env x = pure x:=by intro _; rfl) : SS X cl W (.For tg iter body [] pos) (msFor mi t mb):=PS.weak (ps_for hp hc hi hg hb hs) fun E σ H ⟨μ,st,l,S,L,h⟩ => by
  refine ⟨μ,st,l,S,L,PostS.bind h L fun it st0 μ0 H0 J _ S0 e0 RJ h0 => ?_⟩
  refine ⟨fun i m σ H => m = it.items.length - i ∧ i ≤ it.items.length ∧ ∃ μ st l,SR X.K cl μ st H ∧ LR X.K μ st.nxt H l σ ∧ Ev X.K μ0 st0.nxt H0 μ st.nxt H ∧ PostS X.K cl μ st.nxt H E W (loopS t mb it.srcs (it.items.drop i) l st),
    ⟨it.items.length,by simp,Nat.zero_le _,μ0,st0,l,S0,L.ev e0,Ev.refl,by simpa using h0⟩,?_⟩
  rintro i m σ1 H1 ⟨rfl,hi,μ1,st1,l1,S1,L1,e1,h1⟩
  by_cases hlt : i < it.items.length
  · rw [List.drop_eq_getElem_cons hlt] at h1
    unfold loopS at h1
    by_cases so : SrcOk it.srcs st1
    · rw [if_pos so] at h1
      obtain ⟨g1,g2⟩:=(RJ μ1 st1 H1 S1 e1 so).1 i it.items[i] (List.getElem?_eq_getElem hlt)
      refine .inr ⟨g1,fun σ' H' => it.items.length - (i + 1) = it.items.length - (i + 1) ∧ i + 1 ≤ it.items.length ∧ ∃ μ st l,SR X.K cl μ st H' ∧ LR X.K μ st.nxt H' l σ' ∧ Ev X.K μ0 st0.nxt H0 μ st.nxt H' ∧ PostS X.K cl μ st.nxt H' E W (loopS t mb it.srcs (it.items.drop (i + 1)) l st),
        fun σ' H' q => ⟨it.items.length - (i + 1),by omega,q⟩,fun x H' y => ?_⟩
      obtain ⟨S2,e2,r2⟩:=g2 x H' y
      cases q : t it.items[i] l1 st1 with
      | none => rw [q] at h1; exact h1.elim
      | some l2 =>
        rw [q] at h1
        refine ⟨μ1,st1,l1,it.items[i],l2,S2,L1.ev e2,r2,q,fun σ3 L3 _ _ => ⟨μ1,st1,l2,S2,L3,?_⟩⟩
        have h1:=PostS.mono e2 h1
        cases z : mb l2 st1 with
        | nx l4 st4 =>
          simp only [z] at h1
          exact fun μ' H'' σ' s e L' => ⟨rfl,hlt,μ',st4,l4,s,L',e1.trans (e2.trans e),PostS.mono e h1⟩
        | ct l4 st4 =>
          simp only [z] at h1
          exact fun μ' H'' σ' s e L' => ⟨rfl,hlt,μ',st4,l4,s,L',e1.trans (e2.trans e),PostS.mono e h1⟩
        | bk l4 st4 => simp only [z] at h1; exact h1
        | rt d st4 => simp only [z] at h1; exact h1
        | exc c fs l4 st4 => simp only [z] at h1; exact h1
        | bad => simp only [z] at h1; exact h1
    · rw [if_neg so] at h1; exact h1.elim
  · have e : i = it.items.length:=by omega
    subst e
    rw [List.drop_length] at h1
    unfold loopS at h1
    by_cases so : SrcOk it.srcs st1
    · rw [if_pos so] at h1
      exact .inl ⟨(RJ μ1 st1 H1 S1 e1 so).2,h1 μ1 H1 σ1 S1 Ev.refl L1⟩
    · rw [if_neg so] at h1; exact h1.elim
end
def wipeL (l : Loc) : List Nat → Loc
  | [] => l
  | v :: vs => (wipeL l vs).set v none
theorem wipeL_length (l : Loc) : ∀ vs : List Nat,(wipeL l vs).length = l.length
  | [] => rfl
  | v :: vs => by unfold wipeL; rw [List.length_set,wipeL_length l vs]
theorem wipeL_get {l : Loc} {i : Nat} : ∀ {vs : List Nat},(wipeL l vs)[i]? = if i ∈ vs ∧ i < l.length then some none else l[i]?
  | [] => by simp [wipeL]
  | v :: vs => by
    unfold wipeL
    rw [List.getElem?_set,wipeL_length,wipeL_get]
    by_cases hv : v = i
    · subst hv
      by_cases hl : v < l.length <;> simp [hl]
    · have : (i = v) ↔ False:=⟨fun e => hv e.symm,False.elim⟩
      simp [hv,this]
theorem wipe_get {σ : St} {i : Nat} : ∀ {vs : List Nat},(wipe σ vs)[i]? = if i ∈ vs ∧ i < σ.length then some none else σ[i]?
  | [] => by simp [wipe]
  | v :: vs => by
    unfold wipe
    rw [List.getElem?_set,wipe_length,wipe_get]
    by_cases hv : v = i
    · subst hv
      by_cases hl : v < σ.length <;> simp [hl]
    · have : (i = v) ↔ False:=⟨fun e => hv e.symm,False.elim⟩
      simp [hv,this]
theorem LR.wipe {K : PySem.W.Frag} {μ : Nat → Addr} {N : Nat} {H : Hp} {l : Loc} {σ : St} (L : LR K μ N H l σ) (vs : List Nat) : LR K μ N H (wipeL l vs) (wipe σ vs):=by
  refine ⟨by rw [wipeL_length,wipe_length]; exact L.1,fun i d q => ?_⟩
  rw [wipeL_get] at q
  by_cases h : i ∈ vs ∧ i < l.length
  · rw [if_pos h] at q; cases q
  · rw [if_neg h] at q
    rw [wipe_get,← L.1,if_neg h]
    exact L.2 i d q
open Classical in
noncomputable def loopC (t : TGT) (mt : MT) (me : ME) (srcs : List (Nat × Cell)) (l0 : Loc) : List D → Store → Res (List D)
  | [],st => if SrcOk srcs st then .ok [] st else .bad
  | d :: ds,st => if SrcOk srcs st then (match t d l0 st with
    | none => .bad
    | some l1 => match mt l1 st with
      | .ok true st1 => (match me l1 st1 with
        | .ok y st2 => (match loopC t mt me srcs l0 ds st2 with
          | .ok ys st3 => .ok (y :: ys) st3
          | _ => .bad)
        | _ => .bad)
      | .ok false st1 => loopC t mt me srcs l0 ds st1
      | _ => .bad) else .bad
open Classical in
noncomputable def mLc (mi : MI) (t : TGT) (mt : MT) (me : ME) (vs : List Nat) : ME:=fun l st => (mi l st).bind fun it st1 => match loopC t mt me it.srcs (wipeL l vs) it.items st1 with
  | .ok ys st2 => if ys.length ≤ sizeLine then .ok (.ref st2.nxt) (st2.new (.lst ys)) else .bad
  | _ => .bad
section
variable {K : PySem.W.Frag} {cl : CL} {μ μ1 : Nat → Addr} {N N1 : Nat} {H H1 : Hp}
theorem Ev.off {D : Addr} {o u : HO} (e : Ev K μ1 N1 H1 μ N H) (hD : H1 D = none) (hu : H D = some u) (hc : CellH u) : Ev K μ1 N1 H1 μ N (upd H D o) where
  le:=e.le
  mu:=e.mu
  sq:=fun p vs h => SqT.upd_cell hu hc (e.sq p vs h)
  rq:=fun p vs h => RoL.upd_cell hu hc (e.rq p vs h)
  ex:=fun p φ h n => by rw [upd_ne (ne_of_none h hD)]; exact e.ex p φ h n
  xd:=fun p fs h => by rw [upd_ne (ne_of_none h hD)]; exact e.xd p fs h
  fz:=fun p o u h => by rw [upd_ne (ne_of_none h hD)]; exact e.fz p o u h
  kp:=fun b w h hn ht => by rw [upd_ne (ne_of_none h hD)]; exact e.kp b w h hn ht
  fr:=e.fr
  tr:=fun b h => upd_tr b (e.tr b h)
theorem Ev0.off {D : Addr} {o u : HO} (hu : H D = some u) (hc : CellH u) : Ev0 K μ N H μ N (upd H D o):=⟨Nat.le_refl _,fun _ _ => rfl,fun _ _ h => SqT.upd_cell hu hc h,fun _ _ h => RoL.upd_cell hu hc h,fun _ _ h n => by rw [upd_ne (ext_ne_cell hu hc h n)]; exact h,fun _ _ h => by rw [upd_ne (xd_ne_cell hu hc h)]; exact h,fun _ _ _ h => by rw [upd_ne (fz_ne_cell hu hc h)]; exact h⟩
theorem SR.off {st : Store} {D : Addr} {o u : HO} (S : SR K cl μ st H) (hu : H D = some u) (hc : CellH u) (hD : ∀ n,n < st.nxt → μ n ≠ D) : SR K cl μ st (upd H D o):=
  ⟨S.inj,fun n hn => by
    obtain ⟨c,h1,h2⟩:=S.cell n hn
    exact ⟨c,h1,h2.ev0 (Ev0.off hu hc) (upd_ne (hD n hn))⟩,S.out,cl.up (Ev0.off hu hc) S.pp,tabs_up (fun _ _ h => by rw [upd_ne (tbl_ne_cell hu hc h)]; exact h) (Ev0.off (K:=K) (μ:=μ) (N:=st.nxt) hu hc).ex S.tb⟩
theorem Ev.adopt {D : Addr} (e : Ev K μ1 N1 H1 μ N H) (hD : H1 D = none) : Ev K μ1 N1 H1 (ext μ N D) (N + 1) H where
  le:=Nat.le_succ_of_le e.le
  mu:=fun n h => (ext_ne (by have:=e.le; omega)).trans (e.mu n h)
  sq:=e.sq
  rq:=e.rq
  ex:=e.ex
  xd:=e.xd
  fz:=e.fz
  kp:=e.kp
  fr:=fun n h1 h2 => by
    by_cases b : n = N
    · subst b; rw [ext_same]; exact hD
    · rw [ext_ne b]; exact e.fr n h1 (by omega)
  tr:=e.tr
theorem SR.adopt {st : Store} {D : Addr} {c : Cell} (S : SR K cl μ st H) (hD : ∀ n,n < st.nxt → μ n ≠ D) (hc : CellOk K cl μ st.nxt H D c) : SR K cl (ext μ st.nxt D) (st.new c) H:=by
  have e : Ev0 K μ st.nxt H (ext μ st.nxt D) (st.nxt + 1) H:=⟨Nat.le_succ _,fun n h => ext_ne (by omega),fun _ _ h => h,fun _ _ h => h,fun _ _ h _ => h,fun _ _ h => h,fun _ _ _ h => h⟩
  refine ⟨fun m n hm hn q => ?_,fun n hn => ?_,fun n hn => ?_,cl.up e S.pp,S.tb⟩
  · have hm' : m < st.nxt + 1:=hm
    have hn' : n < st.nxt + 1:=hn
    by_cases a : m = st.nxt
    · by_cases b : n = st.nxt
      · rw [a,b]
      · rw [a,ext_same,ext_ne b] at q
        exact absurd q.symm (hD n (by omega))
    · by_cases b : n = st.nxt
      · rw [b,ext_same,ext_ne a] at q
        exact absurd q (hD m (by omega))
      · rw [ext_ne a,ext_ne b] at q
        exact S.inj m n (by omega) (by omega) q
  · have hn' : n < st.nxt + 1:=hn
    by_cases b : n = st.nxt
    · subst b
      exact ⟨c,by unfold Store.new; exact if_pos rfl,by rw [ext_same]; exact hc.ev0 e rfl⟩
    · obtain ⟨c',h1,h2⟩:=S.cell n (by omega)
      refine ⟨c',by unfold Store.new; exact (if_neg b).trans h1,?_⟩
      rw [ext_ne b]
      exact h2.ev0 e rfl
  · have hn' : st.nxt + 1 ≤ n:=hn
    unfold Store.new
    exact (if_neg (by omega)).trans (S.out n (by omega))
theorem Ev.apart {D : Addr} (e : Ev K μ N H μ1 N1 H1) (hD : ∀ n,n < N → μ n ≠ D) (h : H D ≠ none) : ∀ n,n < N1 → μ1 n ≠ D:=fun n hn => by
  by_cases b : n < N
  · rw [e.mu n b]; exact hD n b
  · intro q
    have:=e.fr n (by omega) hn
    rw [q] at this; exact h this
end
end DV
namespace DV
open PySem PySem.Spec PyProof.Rows L2
abbrev W0 : WX:=fun _ _ _ _ => False
def tYes_ : MT:=fun _ st => .ok true st
abbrev STs (X : Cx) (cl : CL) (W : WX) (es : List Expr) (m : MT) : Prop:=PTs X es (rdT X.K cl W m)
theorem PTs.weak {X : Cx} {e : List Expr} {t t' : TT} (h : PTs X e t) (w : ∀ σ H Q,t' σ H Q → t σ H Q) : PTs X e t':=⟨fun pins s σ H Q I q => h.run pins s σ H Q I (w σ H Q q)⟩
section
variable {X : Cx} {cl : CL} {W : WX}
theorem ts_nil : STs X cl W [] tYes_:=PTs.weak pts_nil fun σ H Q ⟨μ,st,l,S,L,h⟩ => h μ H true S Ev.refl rfl
theorem wipe_ws {σ σ' : L2.St} {vs ws : List Nat} (hl : σ'.length = σ.length) (hw : ∀ j : Nat,j ∉ ws → σ'[j]? = σ[j]?) (hs : ∀ j ∈ ws,j ∈ vs) : wipe σ' vs = wipe σ vs:=by
  apply List.ext_getElem?
  intro i
  rw [wipe_get,wipe_get,hl]
  by_cases h : i ∈ vs ∧ i < σ.length
  · rw [if_pos h,if_pos h]
  · rw [if_neg h,if_neg h]
    by_cases hi : i ∈ ws
    · have hv:=hs i hi
      have hz : ¬ i < σ.length:=fun q => h ⟨hv,q⟩
      rw [List.getElem?_eq_none (by omega),List.getElem?_eq_none (by omega)]
    · exact hw i hi
theorem wipe_wipe {σ : L2.St} {vs : List Nat} : wipe (wipe σ vs) vs = wipe σ vs:=by
  apply List.ext_getElem?
  intro i
  rw [wipe_get,wipe_length,wipe_get]
  by_cases h : i ∈ vs ∧ i < σ.length
  · rw [if_pos h,if_pos h]
  · rw [if_neg h]
theorem w_lc {mi : MI} {t : TGT} {ws vs : List Nat} {mt : MT} {me : ME} (hws : ∀ j ∈ ws,j ∈ vs) : ∀ σ H Q,rdE X.K cl W (mLc mi t mt me vs) σ H Q → tLc (rdI X.K cl W mi) (rdG X.K cl ws t) (rdT X.K cl W0 mt) (rdE X.K cl W0 me) vs σ H Q:=fun σ H Q ⟨μ,st,l,S,L,h⟩ => by
  refine ⟨μ,st,l,S,L,Post.bind h fun it st1 μ1 H1 J _ S1 e1 RJ h1 => fun D hD => ?_⟩
  cases q : loopC t mt me it.srcs (wipeL l vs) it.items st1 with
  | exc c fs st2 => rw [q] at h1; exact h1.elim
  | bad => rw [q] at h1; exact h1.elim
  | ok ys st2 =>
    rw [q] at h1
    simp only at h1
    by_cases hz : ys.length ≤ sizeLine
    · rw [if_pos hz] at h1
      have h0 : upd H1 D (.lst []) D = some (.lst []):=upd_same
      refine ⟨fun i m H => m = it.items.length - i ∧ i ≤ it.items.length ∧ ∃ μ st acc accV ys',SR X.K cl μ st H ∧ Ev X.K μ1 st1.nxt H1 μ st.nxt H ∧ H D = some (.lst accV) ∧ VRs X.K μ st.nxt H acc accV ∧ (∀ n,n < st.nxt → μ n ≠ D) ∧
        loopC t mt me it.srcs (wipeL l vs) (it.items.drop i) st = .ok ys' st2 ∧ acc ++ ys' = ys,
        ⟨it.items.length,by simp,Nat.zero_le _,μ1,st1,[],[],ys,S1.beside hD,Ev.beside hD,h0,by simp only [VRs],S1.ne_new hD,by simpa using q,rfl⟩,?_⟩
      rintro i m H3 ⟨rfl,hi,μ3,st3,acc,accV,ys',S3,e3,hD3,racc,ap3,q3,eys⟩
      have L3:=(L.ev (e1.trans e3)).wipe vs
      by_cases hlt : i < it.items.length
      · rw [List.drop_eq_getElem_cons hlt] at q3
        unfold loopC at q3
        by_cases so : SrcOk it.srcs st3
        · rw [if_pos so] at q3
          obtain ⟨g1,g2⟩:=(RJ μ3 st3 H3 S3 e3 so).1 i it.items[i] (List.getElem?_eq_getElem hlt)
          refine .inr ⟨g1,fun H' => it.items.length - (i + 1) = it.items.length - (i + 1) ∧ i + 1 ≤ it.items.length ∧ ∃ μ st acc accV ys',SR X.K cl μ st H' ∧ Ev X.K μ1 st1.nxt H1 μ st.nxt H' ∧ H' D = some (.lst accV) ∧ VRs X.K μ st.nxt H' acc accV ∧ (∀ n,n < st.nxt → μ n ≠ D) ∧
            loopC t mt me it.srcs (wipeL l vs) (it.items.drop (i + 1)) st = .ok ys' st2 ∧ acc ++ ys' = ys,fun H' z => ⟨it.items.length - (i + 1),by omega,z⟩,fun x H' y => ?_⟩
          obtain ⟨S4,e4,r4⟩:=g2 x H' y
          cases q1 : t it.items[i] (wipeL l vs) st3 with
          | none => simp only [q1] at q3; cases q3
          | some l1 =>
            simp only [q1] at q3
            refine ⟨μ3,st3,wipeL l vs,it.items[i],l1,S4,L3.ev e4,r4,q1,fun σ2 L5 z5 k5 => ⟨(wipe_ws z5 k5 hws).trans wipe_wipe,?_⟩⟩
            refine ⟨μ3,st3,l1,S4,L5,?_⟩
            have hD4 : H' D = some (.lst accV):=e4.kp D _ hD3 ap3 (fun _ e => by cases e)
            cases q5 : mt l1 st3 with
            | exc c fs st5 => simp only [q5] at q3; cases q3
            | bad => simp only [q5] at q3; cases q3
            | ok b st5 =>
              rintro μ5 H5 b' S5 e5 rfl
              have hD5 : H5 D = some (.lst accV):=e5.kp D _ hD4 ap3 (fun _ e => by cases e)
              have ap5 : ∀ n,n < st5.nxt → μ5 n ≠ D:=e5.apart ap3 (by rw [hD4]; simp)
              cases b with
              | false =>
                simp only [q5] at q3
                rw [if_neg (by decide)]
                exact ⟨rfl,hlt,μ5,st5,acc,accV,ys',S5,e3.trans (e4.trans e5),hD5,(racc.ev e4).ev e5,ap5,q3,eys⟩
              | true =>
                simp only [q5] at q3
                rw [if_pos rfl]
                refine ⟨μ5,st5,l1,S5,L5.ev e5,?_⟩
                cases q6 : me l1 st5 with
                | exc c fs st6 => simp only [q6] at q3; cases q3
                | bad => simp only [q6] at q3; cases q3
                | ok y6 st6 =>
                  simp only [q6] at q3
                  intro μ6 H6 v6 S6 e6 r6
                  have hD6 : H6 D = some (.lst accV):=e6.kp D _ hD5 ap5 (fun _ e => by cases e)
                  have ap6 : ∀ n,n < st6.nxt → μ6 n ≠ D:=e6.apart ap5 (by rw [hD5]; simp)
                  cases q7 : loopC t mt me it.srcs (wipeL l vs) (it.items.drop (i + 1)) st6 with
                  | exc c fs st7 => simp only [q7] at q3; cases q3
                  | bad => simp only [q7] at q3; cases q3
                  | ok ys7 st7 =>
                    simp only [q7] at q3
                    cases q3
                    have r7 : VRs X.K μ6 st6.nxt H6 acc accV:=((racc.ev e4).ev e5).ev e6
                    have ln:=r7.length
                    refine ⟨accV,hD6,?_,rfl,hlt,μ6,st6,acc ++ [y6],accV ++ [v6],ys7,S6.off hD6 trivial ap6,(e3.trans (e4.trans (e5.trans e6))).off hD hD6 trivial,upd_same,VRs.ev0 (Ev0.off hD6 trivial) (r7.append (VRs.one r6)),ap6,q7,by rw [List.append_assoc]; exact eys⟩
                    have:=congrArg List.length eys
                    simp only [List.length_append,List.length_cons] at this
                    omega
        · rw [if_neg so] at q3; cases q3
      · have e : i = it.items.length:=by omega
        subst e
        rw [List.drop_length] at q3
        unfold loopC at q3
        by_cases so : SrcOk it.srcs st3
        · rw [if_pos so] at q3
          cases q3
          rw [List.append_nil] at eys
          subst eys
          refine .inl ⟨(RJ μ3 _ H3 S3 e3 so).2,h1 (ext μ3 _ D) H3 (.ref D) (S3.adopt (c:=.lst acc) ap3 ⟨accV,hD3,racc⟩) (e3.adopt hD) ?_⟩
          simp only [VR]
          exact ⟨Nat.lt_succ_self _,by rw [ext_same]⟩
        · rw [if_neg so] at q3; cases q3
    · rw [if_neg hz] at h1; exact h1.elim
theorem s_lc (own : List (Str × Nat)) {elt tg iter : Expr} {ifs : List Expr} {scope : Scope} {pos : Pos} {mi : MI} {t : TGT} {ws : List Nat} {mt : MT} {me : ME} (hc : X.calm = true) (hN : X.N.Nodup) (hi : SI X cl W tg iter mi) (ok : BlkOk X.N X.env.scope scope own)
    (hg : ∀ (s : Shared) (H : Hp) (C : Addr) (c : List (Str × Addr)) (fp : List Addr),SG (X.blk s H scope (compEnvC scope c C X.env) fp) cl tg ws t)
    (ht : ∀ (s : Shared) (H : Hp) (C : Addr) (c : List (Str × Addr)) (fp : List Addr),STs (X.blk s H scope (compEnvC scope c C X.env) fp) cl W0 ifs mt)
    (he : ∀ (s : Shared) (H : Hp) (C : Addr) (c : List (Str × Addr)) (fp : List Addr),SE (X.blk s H scope (compEnvC scope c C X.env) fp) cl W0 elt me)
    (hws : ∀ j ∈ ws,j ∈ own.map (·.2):=by decide) (hs : ∀ x,foldedSetIterable iter X.env x = pure x:=by intro _; rfl) : SE X cl W (.ListComp elt [⟨tg,iter,ifs,0⟩] scope pos) (mLc mi t mt me (own.map (·.2))):=
  s_pe (pe_lc hc hN hi ok hg ht he hs) (w_lc hws)
end
abbrev FD:=List D → Store → Res D
def spF (K : PySem.W.Frag) (cl : CL) (F : FD) : Sp:=fun vs H Q E => ∃ μ st ds,SR K cl μ st H ∧ VRs K μ st.nxt H ds vs ∧ Post K cl (VR K) μ st.nxt H Q E (F ds st)
def mDef (n len : Nat) (body : MS) : FD:=fun ds st => if ds.length = n then (match body (ds.map some ++ List.replicate (len - n) none) st with
  | .rt d st' => .ok d st'
  | .nx _ st' => .ok .non st'
  | .exc c fs _ st' => .exc c fs st'
  | _ => .bad) else .bad
structure RoomG (k : Nat) (A : Around) : Prop where
  room : Room k A
  g : A.guards = some []
theorem RoomG.mono {j k : Nat} {A : Around} (r : RoomG k A) (h : j ≤ k) : RoomG j A:=⟨r.room.mono h,r.g⟩
theorem RoomG.hu {k : Nat} {A : Around} (r : RoomG k A) : A.units + 64 < cLine:=r.room.units
structure FnS (P : Program) (w : World) (K : PySem.W.Frag) (mg : Str → Option Value) (base : Heap) (cl : CL) (k : Nat) (f : Addr) (fd : FuncData) (ps : List Str) (F : FD) : Prop where
  len : ∀ ds st,F ds st ≠ .bad → ds.length = ps.length
  run : ∀ (A : Around) (outer : List Env) (s : Shared) (H : Hp) (args : Args) (us : List Value) (vs : List V) (Q : VK) (E : XK),RoomG k A → Env0 P w K mg base A outer s H → BindsTo s fd args (ps.zip us) → Vals vs us → spF K cl F vs H Q E →
    codeAny (model P w) A (.call (.ref f) args) (CR (L2.CX P w) outer P w H s Q E) s
theorem FnS.mono {P : Program} {w : World} {K : PySem.W.Frag} {mg : Str → Option Value} {base : Heap} {cl : CL} {j k : Nat} {f : Addr} {fd : FuncData} {ps : List Str} {F : FD} (G : FnS P w K mg base cl j f fd ps F) (h : j ≤ k) : FnS P w K mg base cl k f fd ps F:=
  ⟨G.len,fun A outer s H args us vs Q E hr => G.run A outer s H args us vs Q E (hr.mono h)⟩
theorem Post.nb {K : PySem.W.Frag} {cl : CL} {μ : Nat → Addr} {N : Nat} {H : Hp} {α β : Type} {rel : (Nat → Addr) → Nat → Hp → α → β → Prop} {Q : β → Hp → Prop} {W : XK} {r : Res α} (h : Post K cl rel μ N H Q W r) : r ≠ .bad:=by
  rintro rfl
  exact h
theorem VRs.start {K : PySem.W.Frag} {μ : Nat → Addr} {N : Nat} {H : Hp} {ds : List D} {vs : List V} {len : Nat} {ns : List Str} (h : VRs K μ N H ds vs) (hl : ns.length = len) : LR K μ N H (ds.map some ++ List.replicate (len - ds.length) none) (L2.start ns vs):=by
  have ln:=h.length
  unfold L2.start
  refine ⟨by simp [ln,hl],fun i d q => ?_⟩
  by_cases hi : i < ds.length
  · rw [List.getElem?_append_left (by simpa using hi),List.getElem?_map] at q
    have q' : ds[i]? = some d:=by
      cases z : ds[i]? with
      | none => rw [z] at q; cases q
      | some e => rw [z] at q; simpa using q
    obtain ⟨v,a,b⟩:=h.get q'
    refine ⟨v,?_,b⟩
    rw [List.getElem?_append_left (by simpa [← ln] using hi),List.getElem?_map,a]
    rfl
  · rw [List.getElem?_append_right (by simpa using hi)] at q
    have:=List.mem_of_getElem? q
    simp at this
section
variable {P : Program} {w : World} {K : PySem.W.Frag} {mg : Str → Option Value} {base : Heap} {cl : CL}
abbrev cxD (P : Program) (w : World) (K : PySem.W.Frag) (mg : Str → Option Value) (base : Heap) (N : List Str) (qual : Str) (st : Stmt) (f : Addr) (cdv : Value) (A : Around) (outer : List Env) (s : Shared) (H : Hp) (E : XK) : Cx:=cxOf (L2.CX P w) P w K mg base N qual (defScope st) f cdv A outer s H E
structure FunA (K : PySem.W.Frag) (x qual : Str) (st : Stmt) (f : Addr) (fd : FuncData) : Prop where
  ex : ∃ (oc : Value) (od : Option Addr) (dV kV doc pm : Value) (an : Option Addr) (cdv ct : Value) (osl : Array (Option Value)),
    fd = PySem.W.fnOf x qual (defArgs st) (defBody st) (defScope st) dV kV doc pm an cdv ct ∧ K.lookup f = some ⟨oc,od,.func fd,osl⟩ ∧ PySem.W.codeIn K cdv qual = true
  kp : PySem.W.keepIn K (.ref f) = true
theorem fn_s {x qual : Str} {st : Stmt} {f : Addr} {fd : FuncData} {N ps : List Str} {k len n : Nat} {mb : MS} (F : FunA K x qual st f fd) (S : FnScope N ps (defScope st)) (hn : ps.length = n) (hl : N.length = len)
    (hbody : ∀ (cdv : Value) (A : Around) (outer : List Env) (s : Shared) (H : Hp) (E : XK),RoomG k (A.deeper (envOfC qual (defScope st) s.heap.objs.size f cdv)) →
      Takes (cxD P w K mg base N qual st f cdv A outer s H E) (fun cls d _ H => E cls d H) →
      SSs (cxD P w K mg base N qual st f cdv A outer s H E) cl (fun cls d _ H => E cls d H) (defBody st) mb) : FnS P w K mg base cl (k + 1) f fd ps (mDef n len mb):=by
  obtain ⟨oc,od,dV,kV,doc,pm,an,cdv,ct,osl,efd,lk,hcd⟩:=F.ex
  have hlen : ∀ ds st,mDef n len mb ds st ≠ .bad → ds.length = ps.length:=fun ds t h => by
    unfold mDef at h
    by_cases z : ds.length = n
    · rw [z,hn]
    · rw [if_neg z] at h; exact absurd rfl h
  refine ⟨hlen,fun A outer s H args us vs Q E hr e0 hb r ⟨μ,t,ds,SS,rv,h⟩ => ?_⟩
  subst efd
  have hvl : vs.length = ps.length:=by rw [← rv.length]; exact hlen ds t h.nb
  have kin0 : K.In s.heap:=e0.mod.kin.keeps fun b o e => (e0.bs b o e).1
  have nolim : s.heap.NoLimit:=
    e0.mod.nolimit.keeps fun b o e => (e0.bs b o e).1
  have binds : ∀ y ∈ ps.zip us,(defScope st).names.lookup y.1 = some .local ∨ ((defScope st).names.lookup y.1 = some .cell ∧ ((cellsFrom (s.heap.objs.size + 1) (defScope st).names []).lookup y.1).isSome = true):=by
    rintro ⟨n,v⟩ hy
    rcases S.par n (List.of_mem_zip hy).1 with c | c
    · exact .inl c
    · exact .inr ⟨c,PySem.W.cellsFrom_some _ _ _ (.inl c)⟩
  have hr1 : RoomG k (A.deeper (envOfC qual (defScope st) s.heap.objs.size f cdv)):=⟨hr.room.deeper _,hr.g⟩
  refine codeAny_call_function hr.room.depth (kin0 _ _ lk) rfl S.co S.gen rfl
    (PySem.W.codeRec_of kin0 hcd) (hb _ _ _ _ ?_)
  refine wpAny_newFunctionEnv_cells S.kind binds fun env1 henv t1 icc => ?_
  subst henv
  refine ⟨nolim.keeps icc.toInCall.keep,codeAny_func ?_⟩
  have body:=hbody cdv A outer s H E hr1 (takes_of rfl rfl rfl rfl)
  have I0 : Inv (cxD P w K mg base N qual st f cdv A outer s H E) [] (L2.start N vs) H t1:=
    inv_start S hr.room.hd e0 hvl r icc
  have want : rdS K cl (fun cls d _ H => E cls d H) mb { nx:=fun _ H' => Q .non H',rt:=Q } (L2.start N vs) H:=by
    refine ⟨μ,t,_,SS,rv.start hl,?_⟩
    unfold mDef at h
    have z : ds.length = n:=by rw [rv.length,hvl,hn]
    rw [if_pos z] at h
    rw [z]
    cases q : mb (ds.map some ++ List.replicate (len - n) none) t with
    | rt d st' => rw [q] at h; exact h
    | nx l st' =>
      rw [q] at h
      exact fun μ' H' σ' s e _ => h μ' H' .non s e (by simp only [VR])
    | exc c fs l st' =>
      rw [q] at h
      exact fun μ' H' σ' cls d s e _ x => h μ' H' cls d s e x
    | bk l st' => rw [q] at h; exact h.elim
    | ct l st' => rw [q] at h; exact h.elim
    | bad => rw [q] at h; exact h.elim
  refine wpAny_mono (body.run [] t1 (L2.start N vs) H _ I0 want) (fun fl t2 hs => ?_) fun _ _ hs => hs
  cases fl with
  | ret u =>
    obtain ⟨v,σ',H',J,rv,q⟩:=hs
    exact ⟨v,H',J.os,J.bare,J.base,J.hok,rv,q⟩
  | next =>
    obtain ⟨σ',H',J,q⟩:=hs
    exact ⟨V.non,H',J.os,J.bare,J.base,J.hok,rfl,q⟩
  | brk => exact hs.elim fun _ h => h.elim fun _ h => h.2.elim
  | cont => exact hs.elim fun _ h => h.elim fun _ h => h.2.elim
end
def mCall (F : FD) (dds : List D) (a : MA) : ME:=fun l st => (a l st).bind fun ds st1 => F (ds ++ dds) st1
def Dfl (K : PySem.W.Frag) (dds : List D) (dvs : List V) : Prop:=∀ μ N H,VRs K μ N H dds dvs
theorem dfl_nil {K : PySem.W.Frag} : Dfl K [] []:=fun _ _ _ => by simp only [VRs]
section
variable {X : Cx} {cl : CL} {W : WX} {e : Expr} {es : List Expr} {xs : MA} {k : Nat} {f : Addr} {fd : FuncData} {ps : List Str} {F : FD} {x : Str} {p pos : Pos} {dds : List D} {dvs : List V} {ds : List Value}
theorem run_g {pins : List (Addr × Obj)} {σ : L2.St} {H : Hp} {s : Shared} {Q : VK} {us : List Value} {vs : List V} {args : Args} (G : FnS X.prog X.w X.K X.mg X.base cl k f fd ps F) (hr : RoomG k X.A) (tk : Takes X W) (I : Inv X pins σ H s)
    (hb : us.length = ps.length → BindsTo s fd args (ps.zip us)) (r : Vals vs us) (h : spF X.K cl F vs H Q (WE W σ)) : codeAny (model X.prog X.w) X.A (.call (.ref f) args) (fun r s' => match r with
      | .ok (.ret u) => EP X pins σ Q u s'
      | .ok _ => False
      | .error e => X.xe e s') s:=by
  have hl : us.length = ps.length:=by
    obtain ⟨μ,st,ds,S,rv,h⟩:=h
    rw [← r.length,← rv.length]
    exact G.len ds st h.nb
  refine codeAny_mono (G.run X.A X.stack s H args us vs Q (WE W σ) hr I.env0 (hb hl) r h) fun r s' hq => ?_
  cases r with
  | error e => exact passAt tk σ pins H s e s' I hq
  | ok fl =>
    cases fl with
    | ret u => exact I.after hq
    | next => exact hq
    | brk => exact hq
    | cont => exact hq
theorem run_call {pins : List (Addr × Obj)} {σ : L2.St} {H : Hp} {s : Shared} {Q : VK} {us : List Value} {vs : List V} (G : FnS X.prog X.w X.K X.mg X.base cl k f fd ps F) (hr : RoomG k X.A) (tk : Takes X W) (hb : Binds X.K fd ps ds) (hd : Vals dvs ds) (I : Inv X pins σ H s)
    (r : Vals vs us) (h : spF X.K cl F (vs ++ dvs) H Q (WE W σ)) : wpAny (model X.prog X.w) X.A (call (.ref f) us) (EP X pins σ Q) X.xe s:=by
  refine wpAny_call (codeAny_mono (run_g (args:=⟨us,[]⟩) G hr tk I (fun hl => hb s us I.kIn hl) (r.append hd) h) fun r s' hq => ?_)
  cases r with
  | error e => exact hq
  | ok fl =>
    cases fl with
    | ret u => exact hq
    | next => exact hq
    | brk => exact hq
    | cont => exact hq
theorem s_call (G : FnS X.prog X.w X.K X.mg X.base cl k f fd ps F) (hr : RoomG k X.A) (tk : Takes X W) (hm : X.mg x = some (.ref f)) (hk : PySem.W.keepIn X.K (.ref f) = true) (hb : Binds X.K fd ps ds) (hd : Vals dvs ds) (hD : Dfl X.K dds dvs) (ha : SA X cl W (e :: es) xs) (hg : Gl X x:=by rfl)
    (hdb : (x == ("__debug__" : Str)) = false:=by decide) (he : starEach (e :: es) X.env = (false,eval e X.env) :: starEach es X.env:=by rfl) (hpl : (backTo pos (starEach es X.env)).any (·.1) = false:=by rfl) :
    SE X cl W (.Call (.Name x p) (e :: es) [] pos) (mCall F dds xs):=by
  refine ⟨fun pins s σ H Q I ⟨μ,st,l,S,L,h⟩ => ?_⟩
  refine wpAny_Call_Name_kw (ld_glob I hg hm ?_ hdb)
  have want : rdA X.K cl W xs σ H fun vs H1 => spF X.K cl F (vs ++ dvs) H1 Q (WE W σ):=
    ⟨μ,st,l,S,L,Post.bind h fun d st1 μ1 H1 vs _ S1 e1 r1 h1 => ⟨μ1,st1,d ++ dds,S1,r1.append (hD _ _ _),h1⟩⟩
  refine PySem.W.callWith_K (h₀:=X.base) I.ok.mod.kin hk (thn (ha.run pos pins s σ H _ I want) fun us s1 hh => ?_) he hpl
  obtain ⟨vs,H1,I1,r,q⟩:=hh
  exact ⟨I1.kIn,run_call G hr tk hb hd I1 r q⟩
end
end DV
namespace DV
open PySem PySem.Spec PyProof.Rows L2
def optL {α β : Type} (f : α → Option β) : List α → Option (List β)
  | [] => some []
  | a :: r => match f a with
    | none => none
    | some b => match optL f r with
      | none => none
      | some bs => some (b :: bs)
def toData (st : Store) : Nat → D → Option PyData
  | 0,_ => none
  | n + 1,d => match d with
    | .non => some .none
    | .bl b => some (.bool b)
    | .int i => some (.int i)
    | .str x => if PyData.strOk x then some (.str x) else none
    | .tup xs => match optL (toData st n) xs with
      | none => none
      | some ds => some (.tuple ds)
    | .rol xs => match optL (toData st n) xs with
      | none => none
      | some ds => some (.list ds)
    | .ref r => match st.at_ r with
      | some (.lst xs) => (match optL (toData st n) xs with
        | none => none
        | some ds => some (.list ds))
      | _ => none
    | .cst _ => none
section
variable {K : PySem.W.Frag} {cl : CL} {μ : Nat → Addr} {N : Nat} {H : Hp} {st : Store}
theorem dp_all {f : D → Option PyData} (hf : ∀ d v x,VR K μ N H d v → f d = some x → Dp K H v x) : ∀ {ds : List D} {vs : List V} {xs : List PyData},VRs K μ N H ds vs → optL f ds = some xs → DpAll K H vs xs
  | [],vs,xs,r,h => by
    simp only [VRs] at r
    subst r
    cases h
    exact .nil
  | d :: ds,vs,xs,r,h => by
    simp only [VRs] at r
    obtain ⟨v,vr,rfl,r1,r2⟩:=r
    unfold optL at h
    cases q : f d with
    | none => rw [q] at h; cases h
    | some b =>
      rw [q] at h
      cases q2 : optL f ds with
      | none => simp only [q2] at h; cases h
      | some bs =>
        simp only [q2] at h
        cases h
        exact .cons (hf d v b r1 q) (dp_all hf r2 q2)
theorem toData_dp (S : SR K cl μ st H) : ∀ (n : Nat) (d : D) (v : V) (x : PyData),VR K μ st.nxt H d v → toData st n d = some x → Dp K H v x
  | 0,d,v,x,r,h => by cases h
  | n + 1,d,v,x,r,h => by
    unfold toData at h
    cases d with
    | non => cases h; simp only [VR] at r; subst r; exact .non
    | bl b => cases h; simp only [VR] at r; subst r; exact .bl b
    | int i => cases h; simp only [VR] at r; subst r; exact .int i
    | str z =>
      simp only at h
      by_cases hz : PyData.strOk z = true
      · rw [if_pos hz] at h
        cases h; simp only [VR] at r; subst r; exact .str z
      · rw [if_neg hz] at h; cases h
    | tup xs =>
      simp only at h
      cases q : optL (toData st n) xs with
      | none => rw [q] at h; cases h
      | some ds =>
        rw [q] at h
        cases h
        simp only [VR] at r
        obtain ⟨p,vs,rfl,r1,r2⟩:=r
        exact .tup r1 (dp_all (fun d v x => toData_dp S n d v x) r2 q)
    | rol xs =>
      simp only at h
      cases q : optL (toData st n) xs with
      | none => rw [q] at h; cases h
      | some ds =>
        rw [q] at h
        cases h
        simp only [VR] at r
        obtain ⟨p,vs,rfl,r1,r2⟩:=r
        exact .lst r1.sq (dp_all (fun d v x => toData_dp S n d v x) r2 q)
    | ref m =>
      simp only at h
      simp only [VR] at r
      obtain ⟨hm,rfl⟩:=r
      cases z : st.at_ m with
      | none => rw [z] at h; cases h
      | some c =>
        rw [z] at h
        cases c with
        | lst xs =>
          simp only at h
          cases q : optL (toData st n) xs with
          | none => rw [q] at h; cases h
          | some ds =>
            rw [q] at h
            cases h
            obtain ⟨vs,h1,h2⟩:=S.get z
            exact .lst (SqL.of h1) (dp_all (fun d v x => toData_dp S n d v x) h2 q)
        | dic kvs => cases h
        | ins c fs => cases h
        | fdc _ => cases h
        | dn _ _ => cases h
        | exn _ _ => cases h
    | cst w => cases h
end
theorem lay_all {f : D → Option PyData} (hf : ∀ d x,f d = some x → x.canLay0 = true) : ∀ {ds : List D} {xs : List PyData},optL f ds = some xs → PyData.canLayAll0 xs = true
  | [],xs,h => by cases h; rfl
  | d :: ds,xs,h => by
    unfold optL at h
    cases q : f d with
    | none => rw [q] at h; cases h
    | some b =>
      rw [q] at h
      cases q2 : optL f ds with
      | none => simp only [q2] at h; cases h
      | some bs =>
        simp only [q2] at h
        cases h
        simp only [PyData.canLayAll0,Bool.and_eq_true]
        exact ⟨hf d b q,lay_all hf q2⟩
theorem depth_all {f : D → Option PyData} {n : Nat} (hf : ∀ d x,f d = some x → x.depth ≤ n) : ∀ {ds : List D} {xs : List PyData},optL f ds = some xs → PyData.depthAll xs ≤ n
  | [],xs,h => by cases h; simp [PyData.depthAll]
  | d :: ds,xs,h => by
    unfold optL at h
    cases q : f d with
    | none => rw [q] at h; cases h
    | some b =>
      rw [q] at h
      cases q2 : optL f ds with
      | none => simp only [q2] at h; cases h
      | some bs =>
        simp only [q2] at h
        cases h
        have h1:=hf d b q
        have h2:=depth_all hf q2
        simp only [PyData.depthAll]
        omega
theorem toData_lay {st : Store} : ∀ (n : Nat) (d : D) (x : PyData),toData st n d = some x → x.canLay0 = true
  | 0,d,x,h => by cases h
  | n + 1,d,x,h => by
    unfold toData at h
    cases d with
    | non => cases h; rfl
    | bl b => cases h; rfl
    | int i => cases h; rfl
    | str z =>
      simp only at h
      by_cases hz : PyData.strOk z = true
      · rw [if_pos hz] at h; cases h; simpa [PyData.canLay0] using hz
      · rw [if_neg hz] at h; cases h
    | tup xs =>
      simp only at h
      cases q : optL (toData st n) xs with
      | none => rw [q] at h; cases h
      | some ds => rw [q] at h; cases h; simpa [PyData.canLay0] using lay_all (toData_lay n) q
    | rol xs =>
      simp only at h
      cases q : optL (toData st n) xs with
      | none => rw [q] at h; cases h
      | some ds => rw [q] at h; cases h; simpa [PyData.canLay0] using lay_all (toData_lay n) q
    | ref m =>
      simp only at h
      cases z : st.at_ m with
      | none => rw [z] at h; cases h
      | some c =>
        rw [z] at h
        cases c with
        | lst xs =>
          simp only at h
          cases q : optL (toData st n) xs with
          | none => rw [q] at h; cases h
          | some ds => rw [q] at h; cases h; simpa [PyData.canLay0] using lay_all (toData_lay n) q
        | dic kvs => cases h
        | ins c fs => cases h
        | fdc _ => cases h
        | dn _ _ => cases h
        | exn _ _ => cases h
    | cst w => cases h
theorem toData_depth {st : Store} : ∀ (n : Nat) (d : D) (x : PyData),toData st n d = some x → x.depth ≤ n
  | 0,d,x,h => by cases h
  | n + 1,d,x,h => by
    unfold toData at h
    cases d with
    | non => cases h; simp [PyData.depth]
    | bl b => cases h; simp [PyData.depth]
    | int i => cases h; simp [PyData.depth]
    | str z =>
      simp only at h
      by_cases hz : PyData.strOk z = true
      · rw [if_pos hz] at h; cases h; simp [PyData.depth]
      · rw [if_neg hz] at h; cases h
    | tup xs =>
      simp only at h
      cases q : optL (toData st n) xs with
      | none => rw [q] at h; cases h
      | some ds =>
        rw [q] at h; cases h
        have:=depth_all (toData_depth n) q
        simp only [PyData.depth]; omega
    | rol xs =>
      simp only at h
      cases q : optL (toData st n) xs with
      | none => rw [q] at h; cases h
      | some ds =>
        rw [q] at h; cases h
        have:=depth_all (toData_depth n) q
        simp only [PyData.depth]; omega
    | ref m =>
      simp only at h
      cases z : st.at_ m with
      | none => rw [z] at h; cases h
      | some c =>
        rw [z] at h
        cases c with
        | lst xs =>
          simp only at h
          cases q : optL (toData st n) xs with
          | none => rw [q] at h; cases h
          | some ds =>
            rw [q] at h; cases h
            have:=depth_all (toData_depth n) q
            simp only [PyData.depth]; omega
        | dic kvs => cases h
        | ins c fs => cases h
        | fdc _ => cases h
        | dn _ _ => cases h
        | exn _ _ => cases h
    | cst w => cases h
theorem toData_shaped {st : Store} {n : Nat} {d : D} {x : PyData} (h : toData st n d = some x) (hn : n ≤ 64) : SeqAt.shaped x = true:=by
  unfold SeqAt.shaped
  rw [Bool.and_eq_true]
  exact ⟨toData_lay n d x h,decide_eq_true (Nat.le_trans (toData_depth n d x h) hn)⟩
def scalEq : D → D → Option Bool
  | .non,.non => some true
  | .non,.int _ => some false | .int _,.non => some false | .non,.bl _ => some false | .bl _,.non => some false | .non,.str _ => some false | .str _,.non => some false
  | .int i,.int j => some (decide (i = j)) | .bl i,.bl j => some (decide (i = j)) | .str i,.str j => some (decide (i = j))
  | .int _,.str _ => some false | .str _,.int _ => some false | .bl _,.str _ => some false | .str _,.bl _ => some false
  | _,_ => none
def dataEq (x y : D) (st : Store) : Option Bool:=match scalEq x y with
  | some b => some b
  | none => match toData st 20 x,toData st 20 y with
    | some a,some b => some (PyData.eqv a b)
    | _,_ => none
def fEq : F2:=fun x y st => (dataEq x y st).map fun b => (.bl b,st)
def fNe : F2:=fun x y st => (dataEq x y st).map fun b => (.bl (!b),st)
theorem scal_of {K : PySem.W.Frag} {μ : Nat → Addr} {N : Nat} {H : Hp} {x y : D} {v w : V} {b : Bool} (h : scalEq x y = some b) (rx : VR K μ N H x v) (ry : VR K μ N H y w) : scal v w = true ∧ decide (v = w) = b:=by
  cases x <;> cases y <;> simp only [scalEq,Option.some.injEq,reduceCtorEq] at h <;> simp only [VR] at rx ry <;> subst rx ry <;> subst h <;> refine ⟨rfl,?_⟩ <;> simp
section
variable {X : Cx} {cl : CL}
theorem o_eq (hu : X.A.units + 64 < cLine) : OpS X cl (compareOp .Eq) fEq:=by
  intro pins s σ H x y v u Q I rx ry ⟨μ,st,d1,d2,S,r1,r2,h⟩
  unfold fEq dataEq at h
  cases q : scalEq d1 d2 with
  | some b =>
    rw [q] at h
    obtain ⟨h1,h2⟩:=scal_of q r1 r2
    exact op_eq pins s σ H x y v u Q I rx ry ⟨h1,h μ H _ S Ev.refl (by simp only [VR]; rw [h2])⟩
  | none =>
    rw [q] at h
    simp only at h
    cases q1 : toData st 20 d1 with
    | none => rw [q1] at h; exact h.elim
    | some a =>
      cases q2 : toData st 20 d2 with
      | none => rw [q1,q2] at h; exact h.elim
      | some b =>
        rw [q1,q2] at h
        exact op_eqD hu pins s σ H x y v u Q I rx ry ⟨a,b,toData_dp S 20 d1 x a r1 q1,toData_dp S 20 d2 y b r2 q2,toData_shaped q1 (by decide),toData_shaped q2 (by decide),h μ H _ S Ev.refl (by simp only [VR])⟩
theorem o_ne (hu : X.A.units + 64 < cLine) : OpS X cl (compareOp .NotEq) fNe:=by
  intro pins s σ H x y v u Q I rx ry ⟨μ,st,d1,d2,S,r1,r2,h⟩
  unfold fNe dataEq at h
  cases q : scalEq d1 d2 with
  | some b =>
    rw [q] at h
    obtain ⟨h1,h2⟩:=scal_of q r1 r2
    exact op_ne pins s σ H x y v u Q I rx ry ⟨h1,h μ H _ S Ev.refl (by simp only [VR]; rw [h2])⟩
  | none =>
    rw [q] at h
    simp only at h
    cases q1 : toData st 20 d1 with
    | none => rw [q1] at h; exact h.elim
    | some a =>
      cases q2 : toData st 20 d2 with
      | none => rw [q1,q2] at h; exact h.elim
      | some b =>
        rw [q1,q2] at h
        exact op_neD hu pins s σ H x y v u Q I rx ry ⟨a,b,toData_dp S 20 d1 x a r1 q1,toData_dp S 20 d2 y b r2 q2,toData_shaped q1 (by decide),toData_shaped q2 (by decide),h μ H _ S Ev.refl (by simp only [VR])⟩
def fI (C : Int → Int → Prop) [∀ i j,Decidable (C i j)] (g : Int → Int → D) : F2:=fun x y st => match x,y with
  | .int i,.int j => if C i j then some (g i j,st) else none
  | _,_ => none
theorem o_I {op : Value → Value → Sem Value} {C : Int → Int → Prop} [∀ i j,Decidable (C i j)] {g : Int → Int → D} {gv : Int → Int → V} (ho : OpR X op (rI C gv)) (hg : ∀ μ N H i j,VR X.K μ N H (g i j) (gv i j)) : OpS X cl op (fI C g):=by
  intro pins s σ H x y v u Q I rx ry ⟨μ,st,d1,d2,S,r1,r2,h⟩
  unfold fI at h
  cases d1 with
  | int i =>
    cases d2 with
    | int j =>
      simp only [VR] at r1 r2
      subst r1 r2
      simp only at h
      by_cases c : C i j
      · rw [if_pos c] at h
        exact ho pins s σ H _ _ v u Q I rx ry ⟨i,j,rfl,rfl,c,h μ H _ S Ev.refl (hg _ _ _ i j)⟩
      · rw [if_neg c] at h; exact h.elim
    | _ => exact h.elim
  | _ => exact h.elim
instance (i j : Int) : Decidable (CMul i j):=by unfold CMul; infer_instance
instance (i j : Int) : Decidable (CDiv i j):=by unfold CDiv; infer_instance
instance (i j : Int) : Decidable (CPow i j):=by unfold CPow; infer_instance
def fMod : F2:=fI (fun _ j => 0 < j) fun i j => .int (i % j)
theorem o_mod : OpS X cl (binaryOp .Mod) fMod:=o_I op_mod fun _ _ _ _ _ => by simp only [VR]
def fPow : F2:=fI CPow fun i j => .int (i ^ j.toNat)
theorem o_pow : OpS X cl (binaryOp .Pow) fPow:=o_I op_pow fun _ _ _ _ _ => by simp only [VR]
def fLt : F2:=fun x y st => match x,y with
  | .int i,.int j => some (.bl (decide (i < j)),st)
  | .str i,.str j => some (.bl (decide (i.cps.toList < j.cps.toList)),st)
  | _,_ => none
def fGt : F2:=fun x y st => match x,y with
  | .int i,.int j => some (.bl (decide (j < i)),st)
  | _,_ => none
def fGe : F2:=fun x y st => match x,y with
  | .int i,.int j => some (.bl (decide (j ≤ i)),st)
  | .str i,.str j => some (.bl (!decide (i.cps.toList < j.cps.toList)),st)
  | _,_ => none
theorem o_lt : OpS X cl (compareOp .Lt) fLt:=by
  intro pins s σ H x y v u Q I rx ry ⟨μ,st,d1,d2,S,r1,r2,h⟩
  unfold fLt at h
  cases d1 with
  | int i =>
    cases d2 with
    | int j =>
      simp only [VR] at r1 r2
      subst r1 r2
      exact op_lt pins s σ H _ _ v u Q I rx ry ⟨i,j,rfl,rfl,h μ H _ S Ev.refl (by simp only [VR])⟩
    | _ => exact h.elim
  | str i =>
    cases d2 with
    | str j =>
      simp only [VR] at r1 r2
      subst r1 r2
      exact op_lt_str pins s σ H _ _ v u Q I rx ry ⟨i,j,rfl,rfl,h μ H _ S Ev.refl (by simp only [VR])⟩
    | _ => exact h.elim
  | _ => exact h.elim
theorem o_gt : OpS X cl (compareOp .Gt) fGt:=by
  intro pins s σ H x y v u Q I rx ry ⟨μ,st,d1,d2,S,r1,r2,h⟩
  unfold fGt at h
  cases d1 with
  | int i =>
    cases d2 with
    | int j =>
      simp only [VR] at r1 r2
      subst r1 r2
      exact op_gt pins s σ H _ _ v u Q I rx ry ⟨i,j,rfl,rfl,h μ H _ S Ev.refl (by simp only [VR])⟩
    | _ => exact h.elim
  | _ => exact h.elim
def fAdd : F2:=fun x y st => match x,y with
  | .int i,.int j => some (.int (i + j),st)
  | .str a,.str b => if a.length + b.length ≤ sizeLine then some (.str (a ++ b),st) else none
  | .tup xs,.tup ys => if xs.length + ys.length ≤ sizeLine then some (.tup (xs ++ ys),st) else none
  | .ref m,.ref n => match st.at_ m,st.at_ n with
    | some (.lst xs),some (.lst ys) => if xs.length + ys.length ≤ sizeLine then some (.ref st.nxt,st.new (.lst (xs ++ ys))) else none
    | _,_ => none
  | _,_ => none
theorem o_add : OpS X cl (binaryOp .Add) fAdd:=by
  intro pins s σ H x y v u Q I rx ry ⟨μ,st,d1,d2,S,r1,r2,h⟩
  unfold fAdd at h
  cases d1 with
  | int i =>
    cases d2 with
    | int j =>
      simp only [VR] at r1 r2
      subst r1 r2
      exact op_add pins s σ H _ _ v u Q I rx ry ⟨i,j,rfl,rfl,h μ H _ S Ev.refl (by simp only [VR])⟩
    | _ => exact h.elim
  | str i =>
    cases d2 with
    | str j =>
      simp only [VR] at r1 r2
      subst r1 r2
      simp only at h
      by_cases c : i.length + j.length ≤ sizeLine
      · rw [if_pos c] at h
        exact op_add_str pins s σ H _ _ v u Q I rx ry ⟨i,j,rfl,rfl,c,h μ H _ S Ev.refl (by simp only [VR])⟩
      · rw [if_neg c] at h; exact h.elim
    | _ => exact h.elim
  | tup xs =>
    cases d2 with
    | tup ys =>
      simp only [VR] at r1 r2
      obtain ⟨p,vs,rfl,s1,t1⟩:=r1
      obtain ⟨q,ws,rfl,s2,t2⟩:=r2
      simp only at h
      have l1:=t1.length
      have l2:=t2.length
      by_cases c : xs.length + ys.length ≤ sizeLine
      · rw [if_pos c] at h
        refine op_catA pins s σ H _ _ v u Q I rx ry ⟨p,q,vs,ws,rfl,rfl,s1,s2,by omega,fun e => ?_,fun _ e => ?_,fun _ _ a ha => ?_⟩
        · subst e
          cases xs with
          | nil => exact h μ H _ S Ev.refl (by simp only [VR]; exact ⟨q,ws,rfl,s2,t2⟩)
          | cons d ds => simp at l1
        · subst e
          cases ys with
          | nil => exact h μ H _ S Ev.refl (by simp only [VR,List.append_nil]; exact ⟨p,vs,rfl,s1,t1⟩)
          | cons d ds => simp at l2
        · exact h μ _ _ (S.beside ha) (Ev.beside ha) (by simp only [VR]; exact ⟨a,vs ++ ws,rfl,SqT.of upd_same,(t1.append t2).ev (Ev.beside ha)⟩)
      · rw [if_neg c] at h; exact h.elim
    | _ => exact h.elim
  | ref m =>
    cases d2 with
    | ref n =>
      simp only [VR] at r1 r2
      obtain ⟨hm,rfl⟩:=r1
      obtain ⟨hn,rfl⟩:=r2
      simp only at h
      cases z1 : st.at_ m with
      | none => rw [z1] at h; exact h.elim
      | some c1 =>
        cases z2 : st.at_ n with
        | none => rw [z1,z2] at h; cases c1 <;> exact h.elim
        | some c2 =>
          rw [z1,z2] at h
          cases c1 with
          | lst xs =>
            cases c2 with
            | lst ys =>
              simp only at h
              obtain ⟨vs,g1,t1⟩:=S.get z1
              obtain ⟨ws,g2,t2⟩:=S.get z2
              have l1:=t1.length
              have l2:=t2.length
              by_cases c : xs.length + ys.length ≤ sizeLine
              · rw [if_pos c] at h
                exact op_cat pins s σ H _ _ v u Q I rx ry ⟨μ m,μ n,vs,ws,rfl,rfl,g1,g2,by omega,fun a ha => h _ _ _ (S.new_lst ha (t1.append t2)) (Ev.new ha) (by simp only [VR]; exact ⟨Nat.lt_succ_self _,by rw [ext_same]⟩)⟩
              · rw [if_neg c] at h; exact h.elim
            | _ => exact h.elim
          | _ => exact h.elim
    | _ => exact h.elim
  | _ => exact h.elim
def repL (n : Nat) (xs : List D) : List D:=(List.replicate n xs).flatten
theorem VRs.rep {K : PySem.W.Frag} {μ : Nat → Addr} {N : Nat} {H : Hp} {xs : List D} {vs : List V} (h : VRs K μ N H xs vs) : ∀ n,VRs K μ N H (repL n xs) (List.replicate n vs).flatten
  | 0 => by simp [repL,VRs]
  | n + 1 => by
    simp only [repL,List.replicate_succ,List.flatten_cons]
    exact h.append (VRs.rep h n)
def fMul : F2:=fun x y st => match x,y with
  | .int i,.int j => if CMul i j then some (.int (i * j),st) else none
  | .ref m,.int k => match st.at_ m with
    | some (.lst xs) => if -(2 ^ 63) ≤ k ∧ k < 2 ^ 63 ∧ xs.length * k.toNat ≤ sizeLine then some (.ref st.nxt,st.new (.lst (repL k.toNat xs))) else none
    | _ => none
  | _,_ => none
theorem o_mul : OpS X cl (binaryOp .Mult) fMul:=by
  intro pins s σ H x y v u Q I rx ry ⟨μ,st,d1,d2,S,r1,r2,h⟩
  unfold fMul at h
  cases d1 with
  | int i =>
    cases d2 with
    | int j =>
      simp only [VR] at r1 r2
      subst r1 r2
      simp only at h
      by_cases c : CMul i j
      · rw [if_pos c] at h
        exact op_mul pins s σ H _ _ v u Q I rx ry ⟨i,j,rfl,rfl,c,h μ H _ S Ev.refl (by simp only [VR])⟩
      · rw [if_neg c] at h; exact h.elim
    | _ => exact h.elim
  | ref m =>
    cases d2 with
    | int k =>
      simp only [VR] at r1 r2
      obtain ⟨hm,rfl⟩:=r1
      subst r2
      simp only at h
      cases z1 : st.at_ m with
      | none => rw [z1] at h; exact h.elim
      | some c1 =>
        rw [z1] at h
        cases c1 with
        | lst xs =>
          simp only at h
          obtain ⟨vs,g1,t1⟩:=S.get z1
          have l1:=t1.length
          by_cases c : -(2 ^ 63) ≤ k ∧ k < 2 ^ 63 ∧ xs.length * k.toNat ≤ sizeLine
          · rw [if_pos c] at h
            exact op_rep pins s σ H _ _ v u Q I rx ry ⟨μ m,k,vs,rfl,rfl,g1,c.1,c.2.1,by rw [← l1]; exact c.2.2,fun a ha => h _ _ _ (S.new_lst ha (t1.rep _)) (Ev.new ha) (by simp only [VR]; exact ⟨Nat.lt_succ_self _,by rw [ext_same]⟩)⟩
          · rw [if_neg c] at h; exact h.elim
        | _ => exact h.elim
    | _ => exact h.elim
  | _ => exact h.elim
def fNeg : F1:=fun x st => match x with
  | .int i => some (.int (-i),st)
  | _ => none
theorem u_neg : UnR X (unaryOp .USub) (rdU X.K cl fNeg):=by
  intro pins s σ H x v Q I rx ⟨μ,st,d1,S,r1,h⟩
  unfold fNeg at h
  cases d1 with
  | int i =>
    simp only [VR] at r1
    subst r1
    exact un_neg pins s σ H _ v Q I rx ⟨i,rfl,h μ H _ S Ev.refl (by simp only [VR])⟩
  | _ => exact h.elim
def inB (x y : D) (st : Store) : Option Bool:=match x,y with
  | .str a,.str b => if a.length = 1 then some (decide (a.cps.getD 0 0 ∈ b.cps.toList)) else none
  | _,.tup ys => (match toData st 20 x,optL (toData st 20) ys with
    | some d,some ds => some (ds.any fun z => PyData.eqv z d)
    | _,_ => none)
  | _,.rol ys => (match toData st 20 x,optL (toData st 20) ys with
    | some d,some ds => some (ds.any fun z => PyData.eqv z d)
    | _,_ => none)
  | _,.ref m => (match st.at_ m with
    | some (.lst ys) => (match toData st 20 x,optL (toData st 20) ys with
      | some d,some ds => some (ds.any fun z => PyData.eqv z d)
      | _,_ => none)
    | some (.dic kvs) => (match x with
      | .str a => some (kvs.any fun p => decide (p.1 = Sum.inr a))
      | .int a => some (kvs.any fun p => decide (p.1 = Sum.inl a))
      | _ => none)
    | _ => none)
  | _,_ => none
def fIn : F2:=fun x y st => (inB x y st).map fun b => (.bl b,st)
end
end DV
namespace DV
open PySem PySem.Spec PyProof.Rows L2
section
variable {X : Cx} {cl : CL}
theorem reads_of {pins : List (Addr × Obj)} {s : Shared} {σ : L2.St} {H : Hp} (I : Inv X pins σ H s) {μ : Nat → Addr} {st : Store} (S : SR X.K cl μ st H) {x : D} {v : V} {u : Value} {d : PyData} (r : VR X.K μ st.nxt H x v) (ru : RelV v u) (h : toData st 20 x = some d) :
    ∃ as,Reads s.heap u d as:=Dp.reads I d v u (toData_dp S 20 x v d r h) ru
theorem depth_in {ds : List PyData} {st : Store} {ys : List D} (h : optL (toData st 20) ys = some ds) : PyData.depthAll ds ≤ 20:=depth_all (toData_depth 20) h
theorem in_seq {pins : List (Addr × Obj)} {s : Shared} {σ : L2.St} {H : Hp} {Q : VK} (hu : X.A.units + 64 < cLine) (I : Inv X pins σ H s) {μ : Nat → Addr} {st : Store} (S : SR X.K cl μ st H) {x : D} {v : V} {u uc : Value} {p : Addr} {ys : List D} {vs : List V} {neg : Bool}
    (rx : VR X.K μ st.nxt H x v) (ru : RelV v u) (rc : uc = .ref p) (hp : SqT X.K H p vs ∨ SqL X.K H p vs) (rs : VRs X.K μ st.nxt H ys vs) {d : PyData} {ds : List PyData} (hd : toData st 20 x = some d) (hds : optL (toData st 20) ys = some ds)
    (h : Q (.bl (xor neg (ds.any fun z => PyData.eqv z d))) H) : wpAny (model X.prog X.w) X.A (compareOp (if neg then .NotIn else .In) u uc) (EP X pins σ Q) X.xe s:=by
  subst rc
  obtain ⟨as,r1⟩:=reads_of I S rx ru hd
  have ha : DpAll X.K H vs ds:=dp_all (fun d v x => toData_dp S 20 d v x) rs hds
  have l1:=lay_all (toData_lay 20) hds
  have l2:=toData_lay 20 x d hd
  have dp:=depth_in hds
  have room : X.A.units + 1 + min (PyData.depthAll ds) d.depth < cLine:=by
    have:=Nat.min_le_left (PyData.depthAll ds) d.depth
    omega
  rcases hp with hp | hp
  · obtain ⟨bs,r2⟩:=Dp.reads I (.tuple ds) (.ref p) (.ref p) (.tup hp ha) rfl
    cases neg with
    | false => exact SeqAt.in_tuple_reads r2 r1 l1 l2 room ⟨.bl _,H,I,rfl,by simpa using h⟩
    | true => exact SeqAt.notIn_tuple_reads r2 r1 l1 l2 room ⟨.bl _,H,I,rfl,by simpa using h⟩
  · obtain ⟨bs,r2⟩:=Dp.reads I (.list ds) (.ref p) (.ref p) (.lst hp ha) rfl
    cases neg with
    | false => exact SeqAt.in_list_reads r2 r1 l1 l2 room ⟨.bl _,H,I,rfl,by simpa using h⟩
    | true => exact SeqAt.notIn_list_reads r2 r1 l1 l2 room ⟨.bl _,H,I,rfl,by simpa using h⟩
theorem str_one {a : Str} (h : a.length = 1) : a = ⟨#[a.cps.getD 0 0]⟩:=by
  obtain ⟨c⟩:=a
  obtain ⟨l⟩:=c
  have h' : l.length = 1:=h
  match l,h' with
  | [x],_ => rfl
def dLook (kvs : List (Key × D)) (k : Key) : Option D:=(kvs.find? fun kv => decide (kv.1 = k)).map (·.2)
def dPut (kvs : List (Key × D)) (k : Key) (v : D) : List (Key × D):=if (kvs.any fun kv => decide (kv.1 = k)) = true then kvs.map (fun kv => if kv.1 = k then (kv.1,v) else kv) else kvs ++ [(k,v)]
theorem look_rel {K : PySem.W.Frag} {μ : Nat → Addr} {N : Nat} {H : Hp} {k : Key} : ∀ {kvs : List (Key × D)} {ps : List (Key × V)},ps.map (·.1) = kvs.map (·.1) → VRs K μ N H (kvs.map (·.2)) (ps.map (·.2)) →
    (dLook kvs k = none ∧ valV ps k = none) ∨ ∃ d v,dLook kvs k = some d ∧ valV ps k = some v ∧ VR K μ N H d v
  | [],[],_,_ => .inl ⟨rfl,rfl⟩
  | [],_ :: _,e,_ => by cases e
  | _ :: _,[],e,_ => by cases e
  | (a,d) :: kvs,(b,v) :: ps,e,r => by
    simp only [List.map_cons,List.cons.injEq] at e
    simp only [List.map_cons,VRs] at r
    obtain ⟨v',r',q,r1,r2⟩:=r
    cases q
    obtain ⟨rfl,e2⟩:=e
    by_cases h : b = k
    · refine .inr ⟨d,v,by simp [dLook,h],by simp [valV,h],r1⟩
    · have h1 : dLook ((b,d) :: kvs) k = dLook kvs k:=by simp [dLook,h]
      have h2 : valV ((b,v) :: ps) k = valV ps k:=by simp [valV,h]
      rw [h1,h2]
      exact look_rel e2 r2
theorem any_rel {k : Key} : ∀ {kvs : List (Key × D)} {ps : List (Key × V)},ps.map (·.1) = kvs.map (·.1) → (kvs.any fun p => decide (p.1 = k)) = (ps.any fun p => decide (p.1 = k))
  | [],[],_ => rfl
  | [],_ :: _,e => by cases e
  | _ :: _,[],e => by cases e
  | (a,d) :: kvs,(b,v) :: ps,e => by
    simp only [List.map_cons,List.cons.injEq] at e
    obtain ⟨rfl,e2⟩:=e
    simp only [List.any_cons]
    rw [any_rel e2]
theorem some_any {k : Key} : ∀ (ps : List (Key × V)),(valV ps k).isSome = (ps.any fun p => decide (p.1 = k))
  | [] => rfl
  | (b,v) :: ps => by
    by_cases h : b = k
    · simp [valV,h]
    · have h2 : valV ((b,v) :: ps) k = valV ps k:=by simp [valV,h]
      rw [h2,some_any ps]
      simp [h]
theorem put_rel {K : PySem.W.Frag} {μ : Nat → Addr} {N : Nat} {H : Hp} {k : Key} {d : D} {v : V} (hd : VR K μ N H d v) {kvs : List (Key × D)} {ps : List (Key × V)} (e : ps.map (·.1) = kvs.map (·.1)) (r : VRs K μ N H (kvs.map (·.2)) (ps.map (·.2))) :
    (putK ps k v).map (·.1) = (dPut kvs k d).map (·.1) ∧ VRs K μ N H ((dPut kvs k d).map (·.2)) ((putK ps k v).map (·.2)):=by
  have go : ∀ {kvs : List (Key × D)} {ps : List (Key × V)},ps.map (·.1) = kvs.map (·.1) → VRs K μ N H (kvs.map (·.2)) (ps.map (·.2)) →
      (ps.map (fun kv => if kv.1 = k then (kv.1,v) else kv)).map (·.1) = (kvs.map (fun kv => if kv.1 = k then (kv.1,d) else kv)).map (·.1) ∧
      VRs K μ N H ((kvs.map (fun kv => if kv.1 = k then (kv.1,d) else kv)).map (·.2)) ((ps.map (fun kv => if kv.1 = k then (kv.1,v) else kv)).map (·.2)):=by
    intro kvs
    induction kvs with
    | nil =>
      intro ps e r
      cases ps with
      | nil => exact ⟨rfl,by simp only [List.map_nil,VRs]⟩
      | cons _ _ => cases e
    | cons a kvs ih =>
      intro ps e r
      cases ps with
      | nil => cases e
      | cons b ps =>
        obtain ⟨a1,a2⟩:=a
        obtain ⟨b1,b2⟩:=b
        simp only [List.map_cons,List.cons.injEq] at e
        simp only [List.map_cons,VRs] at r
        obtain ⟨v',r',q,r1,r2⟩:=r
        cases q
        obtain ⟨rfl,e2⟩:=e
        obtain ⟨h1,h2⟩:=ih e2 r2
        by_cases h : b1 = k
        · simp only [List.map_cons,if_pos h,VRs]
          exact ⟨by rw [h1],v,_,rfl,hd,h2⟩
        · simp only [List.map_cons,if_neg h,VRs]
          exact ⟨by rw [h1],_,_,rfl,r1,h2⟩
  unfold putK dPut
  rw [any_rel e]
  by_cases c : (ps.any fun kv => decide (kv.1 = k)) = true
  · rw [if_pos c,if_pos c]
    exact go e r
  · rw [if_neg c,if_neg c]
    simp only [List.map_append,List.map_cons,List.map_nil]
    exact ⟨by rw [e],r.append (VRs.one hd)⟩
theorem in_gen (hu : X.A.units + 64 < cLine) {pins : List (Addr × Obj)} {s : Shared} {σ : L2.St} {H : Hp} {Q : VK} (I : Inv X pins σ H s) {μ : Nat → Addr} {st : Store} (S : SR X.K cl μ st H) {d1 d2 : D} {x y : V} {v u : Value} {neg : Bool}
    (rx : RelV x v) (ry : RelV y u) (r1 : VR X.K μ st.nxt H d1 x) (r2 : VR X.K μ st.nxt H d2 y) {b : Bool} (e : inB d1 d2 st = some b) (h : Q (.bl (xor neg b)) H) :
    wpAny (model X.prog X.w) X.A (compareOp (if neg then .NotIn else .In) v u) (EP X pins σ Q) X.xe s:=by
  unfold inB at e
  have seq : ∀ {ys : List D} {vs : List V} {p : Addr},u = .ref p → (SqT X.K H p vs ∨ SqL X.K H p vs) → VRs X.K μ st.nxt H ys vs → (match toData st 20 d1,optL (toData st 20) ys with
      | some d,some ds => some (ds.any fun z => PyData.eqv z d)
      | _,_ => none) = some b → wpAny (model X.prog X.w) X.A (compareOp (if neg then .NotIn else .In) v u) (EP X pins σ Q) X.xe s:=by
    intro ys vs p eu hp rs e
    cases q1 : toData st 20 d1 with
    | none => rw [q1] at e; cases e
    | some d =>
      cases q2 : optL (toData st 20) ys with
      | none => rw [q1,q2] at e; cases e
      | some ds =>
        rw [q1,q2] at e
        cases e
        exact in_seq hu I S r1 rx eu hp rs q1 q2 h
  have dic : ∀ {k : Key} {kvs : List (Key × D)} {m : Nat},m < st.nxt → y = .ref (μ m) → st.at_ m = some (.dic kvs) → x = kV k → some (kvs.any fun p => decide (p.1 = k)) = some b → wpAny (model X.prog X.w) X.A (compareOp (if neg then .NotIn else .In) v u) (EP X pins σ Q) X.xe s:=by
    intro k kvs m hm ey z ex e
    subst ey
    cases ry
    obtain ⟨ps,g1,g2,g3⟩:=S.get z
    have g : DGet H (μ m) x (valV ps k):=by rw [ex]; exact DGet.k g1
    rw [any_rel g2,← some_any] at e
    cases e
    cases neg with
    | false => exact d_in (by omega) I g rx fun s3 I3 => ⟨.bl _,H,I3,rfl,by simpa using h⟩
    | true => exact d_notIn (by omega) I g rx fun s3 I3 => ⟨.bl _,H,I3,rfl,by simpa using h⟩
  cases d2 with
  | str z =>
    cases d1 with
    | str a =>
      simp only at e
      by_cases hl : a.length = 1
      · rw [if_pos hl] at e
        cases e
        simp only [VR] at r1 r2
        subst r1 r2
        cases neg with
        | false => exact op_in_sign pins s σ H _ _ v u Q I rx ry ⟨_,z,congrArg V.str (str_one hl),rfl,by simpa using h⟩
        | true => exact op_notIn_sign pins s σ H _ _ v u Q I rx ry ⟨_,z,congrArg V.str (str_one hl),rfl,by simpa using h⟩
      · rw [if_neg hl] at e; cases e
    | _ => cases e
  | tup ys =>
    simp only [VR] at r2
    obtain ⟨p,vs,rfl,s1,t1⟩:=r2
    cases ry
    exact seq rfl (.inl s1) t1 (by cases d1 <;> exact e)
  | rol ys =>
    simp only [VR] at r2
    obtain ⟨p,vs,rfl,s1,t1⟩:=r2
    cases ry
    exact seq rfl (.inr s1.sq) t1 (by cases d1 <;> exact e)
  | ref m =>
    simp only [VR] at r2
    obtain ⟨hm,rfl⟩:=r2
    have e' : (match st.at_ m with
      | some (.lst ys) => (match toData st 20 d1,optL (toData st 20) ys with
        | some d,some ds => some (ds.any fun z => PyData.eqv z d)
        | _,_ => none)
      | some (.dic kvs) => (match d1 with
        | .str a => some (kvs.any fun p => decide (p.1 = Sum.inr a))
        | .int a => some (kvs.any fun p => decide (p.1 = Sum.inl a))
        | _ => none)
      | _ => none) = some b:=by cases d1 <;> exact e
    cases z : st.at_ m with
    | none => rw [z] at e'; cases e'
    | some c =>
      rw [z] at e'
      cases c with
      | lst ys =>
        obtain ⟨vs,g1,g2⟩:=S.get z
        cases ry
        exact seq rfl (.inr (SqL.of g1)) g2 e'
      | dic kvs =>
        cases d1 with
        | str a => simp only [VR] at r1; exact dic (k:=Sum.inr a) hm rfl z r1 e'
        | int a => simp only [VR] at r1; exact dic (k:=Sum.inl a) hm rfl z r1 e'
        | _ => cases e'
      | ins c fs => cases e'
      | fdc _ => cases e'
      | dn _ _ => cases e'
      | exn _ _ => cases e'
  | _ => cases d1 <;> cases e
theorem o_in (hu : X.A.units + 64 < cLine) : OpS X cl (compareOp .In) fIn:=by
  intro pins s σ H x y v u Q I rx ry ⟨μ,st,d1,d2,S,r1,r2,h⟩
  unfold fIn at h
  cases q : inB d1 d2 st with
  | none => rw [q] at h; exact h.elim
  | some b =>
    rw [q] at h
    exact in_gen (neg:=false) hu I S rx ry r1 r2 q (by simpa using h μ H (.bl b) S Ev.refl (by simp only [VR]))
def fIx : F2:=fun x y st => match x,y with
  | .tup xs,.int i => (atI xs i).map fun d => (d,st)
  | .rol xs,.int i => (atI xs i).map fun d => (d,st)
  | .str z,.int i => if z.length ≤ sizeLine then (atI z.cps.toList i).map fun c => (.str ⟨#[c]⟩,st) else none
  | .ref m,k => (match st.at_ m with
    | some (.lst xs) => (match k with
      | .int i => (atI xs i).map fun d => (d,st)
      | _ => none)
    | some (.dic kvs) => (match k with
      | .str a => (dLook kvs (Sum.inr a)).map fun d => (d,st)
      | .int a => (dLook kvs (Sum.inl a)).map fun d => (d,st)
      | _ => none)
    | some (.fdc kvs) => (match k with
      | .str a => (dLook kvs (Sum.inr a)).map fun d => (d,st)
      | .int a => (dLook kvs (Sum.inl a)).map fun d => (d,st)
      | _ => none)
    | _ => none)
  | _,_ => none
theorem VRs.atI {K : PySem.W.Frag} {μ : Nat → Addr} {N : Nat} {H : Hp} {ds : List D} {vs : List V} {i : Int} {d : D} (r : VRs K μ N H ds vs) (h : L2.atI ds i = some d) : ∃ v,L2.atI vs i = some v ∧ VR K μ N H d v:=by
  unfold L2.atI at h ⊢
  rw [← r.length]
  cases q : ixN ds.length i with
  | none => rw [q] at h; cases h
  | some j =>
    rw [q] at h
    exact r.get h
theorem x_ix (hu : X.A.units + 64 < cLine) : IxR X (rdO X.K cl fIx):=by
  intro value slice pins s σ H x y v u Q I rx ry ⟨μ,st,d1,d2,S,r1,r2,h⟩ hs
  unfold fIx at h
  have rdd : ∀ {k : Key} {kvs : List (Key × D)} {ps : List (Key × V)} {m : Nat},x = .ref (μ m) → Rd H (μ m) (.dK ps) → ps.map (·.1) = kvs.map (·.1) → VRs X.K μ st.nxt H (kvs.map (·.2)) (ps.map (·.2)) → y = kV k → PostO X.K cl (VR X.K) μ st.nxt H Q ((dLook kvs k).map fun d => (d,st)) → wpAny (model X.prog X.w) X.A (subscriptTail value slice v u) (EP X pins σ Q) X.xe s:=by
    intro k kvs ps m ex g1 g2 g3 ey h
    subst ex
    cases rx
    rcases look_rel (k:=k) g2 g3 with ⟨e1,e2⟩ | ⟨d,w',e1,e2,r⟩
    · rw [e1] at h; exact h.elim
    · rw [e1] at h
      have g : DGet H (μ m) y (some w'):=by rw [ey,← e2]; exact .inl ⟨ps,k,g1,rfl,rfl⟩
      exact tail_any (dict_typeIs I g) PySem.F.slot_dict_getitem.lookup (d_getItem (by omega) I g ry fun w2 s3 I3 r3 => ⟨w',H,I3,r3,h μ H w' S Ev.refl r⟩) hs
  cases d1 with
  | tup xs =>
    cases d2 with
    | int i =>
      simp only [VR] at r1 r2
      obtain ⟨p,vs,rfl,s1,t1⟩:=r1
      subst r2
      simp only at h
      cases q : L2.atI xs i with
      | none => rw [q] at h; exact h.elim
      | some d =>
        rw [q] at h
        obtain ⟨w',e,r⟩:=t1.atI q
        exact ix_tup value slice pins s σ H _ _ v u Q I rx ry ⟨p,vs,i,w',rfl,rfl,s1,e,h μ H w' S Ev.refl r⟩ hs
    | _ => exact h.elim
  | rol xs =>
    cases d2 with
    | int i =>
      simp only [VR] at r1 r2
      obtain ⟨p,vs,rfl,s1,t1⟩:=r1
      subst r2
      simp only at h
      cases q : L2.atI xs i with
      | none => rw [q] at h; exact h.elim
      | some d =>
        rw [q] at h
        obtain ⟨w',e,r⟩:=t1.atI q
        exact ix_list value slice pins s σ H _ _ v u Q I rx ry ⟨p,vs,i,w',rfl,rfl,s1.sq,e,h μ H w' S Ev.refl r⟩ hs
    | _ => exact h.elim
  | str z =>
    cases d2 with
    | int i =>
      simp only [VR] at r1 r2
      subst r1 r2
      simp only at h
      by_cases hz : z.length ≤ sizeLine
      · rw [if_pos hz] at h
        cases q : L2.atI z.cps.toList i with
        | none => rw [q] at h; exact h.elim
        | some c =>
          rw [q] at h
          exact ix_str value slice pins s σ H _ _ v u Q I rx ry ⟨z,i,c,rfl,rfl,hz,q,h μ H _ S Ev.refl (by simp only [VR])⟩ hs
      · rw [if_neg hz] at h; exact h.elim
    | _ => exact h.elim
  | ref m =>
    simp only [VR] at r1
    obtain ⟨hm,rfl⟩:=r1
    simp only at h
    cases z : st.at_ m with
    | none => rw [z] at h; exact h.elim
    | some c =>
      rw [z] at h
      cases c with
      | lst xs =>
        cases d2 with
        | int i =>
          simp only [VR] at r2
          subst r2
          simp only at h
          cases q : L2.atI xs i with
          | none => rw [q] at h; exact h.elim
          | some d =>
            rw [q] at h
            obtain ⟨vs,g1,g2⟩:=S.get z
            obtain ⟨w',e,r⟩:=g2.atI q
            exact ix_list value slice pins s σ H _ _ v u Q I rx ry ⟨μ m,vs,i,w',rfl,rfl,SqL.of g1,e,h μ H w' S Ev.refl r⟩ hs
        | _ => exact h.elim
      | dic kvs =>
        obtain ⟨ps,g1,g2,g3⟩:=S.get z
        cases d2 with
        | str a => simp only [VR] at r2; exact rdd (k:=Sum.inr a) rfl (.inl g1) g2 g3 r2 h
        | int a => simp only [VR] at r2; exact rdd (k:=Sum.inl a) rfl (.inl g1) g2 g3 r2 h
        | _ => exact h.elim
      | dn _ _ => exact h.elim
      | exn _ _ => exact h.elim
      | fdc kvs =>
        obtain ⟨o,ps,g1,g2,g3⟩:=S.get z
        cases d2 with
        | str a => simp only [VR] at r2; exact rdd (k:=Sum.inr a) rfl (.inr ⟨o,g1⟩) g2 g3 r2 h
        | int a => simp only [VR] at r2; exact rdd (k:=Sum.inl a) rfl (.inr ⟨o,g1⟩) g2 g3 r2 h
        | _ => exact h.elim
      | ins c fs => exact h.elim
  | _ => exact h.elim
abbrev MO:=Loc → Store → Res (Option Int)
def rdP (K : PySem.W.Frag) (cl : CL) (W : WX) (m : MO) : TO:=fun σ H Q => ∃ μ st l,SR K cl μ st H ∧ LR K μ st.nxt H l σ ∧ Post K cl Same_ μ st.nxt H Q (WE W σ) (m l st)
def moNone : MO:=fun _ st => .ok none st
def moSome (m : ME) : MO:=fun l st => (m l st).bind fun d st1 => match d with
  | .int i => .ok (some i) st1
  | _ => .bad
abbrev SO (X : Cx) (cl : CL) (W : WX) (e : Option Expr) (m : MO) : Prop:=PO X e (rdP X.K cl W m)
theorem PO.weak {e : Option Expr} {t t' : TO} (h : PO X e t) (w : ∀ σ H Q,t' σ H Q → t σ H Q) : PO X e t':=⟨fun pins s σ H Q I q => h.run pins s σ H Q I (w σ H Q q)⟩
theorem so_none {W : WX} : SO X cl W none moNone:=PO.weak po_none fun σ H Q ⟨μ,st,l,S,L,h⟩ => h μ H none S Ev.refl rfl
theorem so_some {W : WX} {e : Expr} {m : ME} (he : SE X cl W e m) : SO X cl W (some e) (moSome m):=PO.weak (po_some he) fun σ H Q ⟨μ,st,l,S,L,h⟩ =>
  ⟨μ,st,l,S,L,Post.bind h fun d st1 μ1 H1 v _ S1 e1 r1 h1 => by
    cases d with
    | int i => simp only [VR] at r1; exact ⟨i,r1,h1 μ1 H1 (some i) S1 Ev.refl rfl⟩
    | _ => exact h1.elim⟩
def cutD (xs : List D) (lo hi : Option Int) : List D:=(xs.drop (HT.sIx xs.length 0 lo)).take (HT.sIx xs.length xs.length hi - HT.sIx xs.length 0 lo)
def fSl (x : D) (lo hi : Option Int) (st : Store) : Option (D × Store):=match x with
  | .tup xs => some (.tup (cutD xs lo hi),st)
  | .rol xs => some (.ref st.nxt,st.new (.lst (cutD xs lo hi)))
  | .ref m => (match st.at_ m with
    | some (.lst xs) => some (.ref st.nxt,st.new (.lst (cutD xs lo hi)))
    | _ => none)
  | _ => none
theorem VRs.cut {K : PySem.W.Frag} {μ : Nat → Addr} {N : Nat} {H : Hp} {ds : List D} {vs : List V} (r : VRs K μ N H ds vs) (lo hi : Option Int) : VRs K μ N H (cutD ds lo hi) (cutV vs lo hi):=by
  unfold cutD cutV
  rw [r.length]
  exact (r.drop _).take _
theorem x_sl : SlR X fun x lo hi H Q => ∃ μ st d,SR X.K cl μ st H ∧ VR X.K μ st.nxt H d x ∧ PostO X.K cl (VR X.K) μ st.nxt H Q (fSl d lo hi st):=by
  intro pins s σ H x v vl vu lo hi sl Q I rx hs pl pu ⟨μ,st,d,S,r,h⟩
  unfold fSl at h
  cases d with
  | tup xs =>
    simp only [VR] at r
    obtain ⟨p,vs,rfl,s1,t1⟩:=r
    simp only at h
    refine sl_tupA pins s σ H _ v vl vu lo hi sl Q I rx hs pl pu ⟨p,vs,rfl,s1,fun hw => ?_,fun hw a ha => ?_⟩
    · have e : cutD xs lo hi = xs:=by
        unfold cutD
        rw [t1.length,hw.1,hw.2]
        rw [List.drop_zero]
        exact List.take_of_length_le (by rw [t1.length]; omega)
      rw [e] at h
      exact h μ H _ S Ev.refl (by simp only [VR]; exact ⟨p,vs,rfl,s1,t1⟩)
    · exact h μ _ _ (S.beside ha) (Ev.beside ha) (by simp only [VR]; exact ⟨a,_,rfl,SqT.of upd_same,(t1.cut lo hi).ev (Ev.beside ha)⟩)
  | rol xs =>
    simp only [VR] at r
    obtain ⟨p,vs,rfl,s1,t1⟩:=r
    exact sl_list pins s σ H _ v vl vu lo hi sl Q I rx hs pl pu ⟨p,vs,rfl,s1.sq,fun a ha => h _ _ _ (S.new_lst ha (t1.cut lo hi)) (Ev.new ha) (by simp only [VR]; exact ⟨Nat.lt_succ_self _,by rw [ext_same]⟩)⟩
  | ref m =>
    simp only [VR] at r
    obtain ⟨hm,rfl⟩:=r
    simp only at h
    cases z : st.at_ m with
    | none => rw [z] at h; exact h.elim
    | some c =>
      rw [z] at h
      cases c with
      | lst xs =>
        obtain ⟨vs,g1,t1⟩:=S.get z
        exact sl_list pins s σ H _ v vl vu lo hi sl Q I rx hs pl pu ⟨μ m,vs,rfl,SqL.of g1,fun a ha => h _ _ _ (S.new_lst ha (t1.cut lo hi)) (Ev.new ha) (by simp only [VR]; exact ⟨Nat.lt_succ_self _,by rw [ext_same]⟩)⟩
      | _ => exact h.elim
  | _ => exact h.elim
def mSl (a : ME) (lo hi : MO) : ME:=fun l st => (a l st).bind fun x st1 => (lo l st1).bind fun i st2 => (hi l st2).bind fun j st3 => Res.ofO (fSl x i j st3)
theorem s_sl {W : WX} {e : Expr} {lo hi : Option Expr} {ma : ME} {mi mj : MO} {pos p2 : Pos} (he : SE X cl W e ma) (hl : SO X cl W lo mi) (hh : SO X cl W hi mj) : SE X cl W (.Subscript e (.Slice lo hi none p2) pos) (mSl ma mi mj):=
  s_pe (pe_slice x_sl he hl hh) fun σ H Q ⟨μ,st,l,S,L,h⟩ => ⟨μ,st,l,S,L,Post.bind h fun x st1 μ1 H1 v _ S1 e1 r1 h1 => ⟨μ1,st1,l,S1,L.ev e1,Post.bind h1 fun i st2 μ2 H2 i' _ S2 e2 ri h2 =>
    ⟨μ2,st2,l,S2,L.ev (e1.trans e2),Post.bind h2 fun j st3 μ3 H3 j' _ S3 e3 rj h3 => by
      cases ri
      cases rj
      exact ⟨μ3,st3,x,S3,(r1.ev e2).ev e3,Post.ofO h3⟩⟩⟩⟩
end
end DV
namespace DV
open PySem PySem.Spec PyProof.Rows L2
def fSet (o i v : D) (st : Store) : Option Store:=match o with
  | .ref m => (match st.at_ m with
    | some (.lst xs) => (match i with
      | .int k => (match ixN xs.length k with
        | some j => some (st.put m (.lst (xs.set j v)))
        | none => none)
      | _ => none)
    | some (.dic kvs) => if kvs.length < sizeLine then (match i with
      | .str a => some (st.put m (.dic (dPut kvs (Sum.inr a) v)))
      | .int a => some (st.put m (.dic (dPut kvs (Sum.inl a) v)))
      | _ => none) else none
    | _ => none)
  | _ => none
def rdSet (K : PySem.W.Frag) (cl : CL) : TSet:=fun o i v H Q => ∃ μ st d1 d2 d3 st',SR K cl μ st H ∧ VR K μ st.nxt H d1 o ∧ VR K μ st.nxt H d2 i ∧ VR K μ st.nxt H d3 v ∧ fSet d1 d2 d3 st = some st' ∧ ∀ H',SR K cl μ st' H' → Ev K μ st.nxt H μ st'.nxt H' → Q H'
def msSub (m o i : ME) : MS:=fun l st => (m l st).toS l fun d3 st1 => ((o l st1).toS l fun d1 st2 => (i l st2).toS l fun d2 st3 => match fSet d1 d2 d3 st3 with
  | some st4 => .nx l st4
  | none => .bad)
section
variable {X : Cx} {cl : CL}
theorem x_set (hu : X.A.units + 64 < cLine) : PSet X (rdSet X.K cl):=by
  intro pins s σ H o i v ov iv u Q I ro ri rv ⟨μ,st,d1,d2,d3,st',S,r1,r2,r3,e,h⟩
  unfold fSet at e
  cases d1 with
  | ref m =>
    simp only [VR] at r1
    obtain ⟨hm,rfl⟩:=r1
    simp only at e
    cases z : st.at_ m with
    | none => rw [z] at e; cases e
    | some c =>
      rw [z] at e
      cases c with
      | lst xs =>
        simp only at e
        cases d2 with
        | int k =>
          simp only at e
          simp only [VR] at r2
          subst r2
          obtain ⟨vs,g1,g2⟩:=S.get z
          cases q : ixN xs.length k with
          | none => rw [q] at e; cases e
          | some j =>
            rw [q] at e
            cases e
            have ob : CellOk X.K cl μ st.nxt (upd H (μ m) (.lst (vs.set j v))) (μ m) (.lst (xs.set j d3)):=⟨_,upd_same,(g2.set r3 j).ev0 (Ev0.off g1 trivial)⟩
            obtain ⟨S',e'⟩:=S.put_ (c:=.lst (xs.set j d3)) z trivial hm ob
            exact set_list pins s σ H _ _ v ov iv u Q I ro ri rv ⟨μ m,vs,k,j,rfl,rfl,g1,by rw [← g2.length]; exact q,h _ S' e'⟩
        | _ => cases e
      | dic kvs =>
        simp only at e
        obtain ⟨ps,g1,g2,g3⟩:=S.get z
        have ln : ps.length = kvs.length:=by have:=congrArg List.length g2; simpa using this
        have go : ∀ k : Key,i = kV k → st' = st.put m (.dic (dPut kvs k d3)) → kvs.length < sizeLine → wpAny (model X.prog X.w) X.A (setItem ov iv u) (fun _ s' => ∃ H',Inv X pins σ H' s' ∧ Q H') X.xe s:=by
          intro k ek es hz
          subst es
          cases ro
          obtain ⟨p1,p2⟩:=put_rel (k:=k) r3 g2 g3
          have ob : CellOk X.K cl μ st.nxt (upd H (μ m) (.dK (putK ps k v))) (μ m) (.dic (dPut kvs k d3)):=⟨_,upd_same,p1,p2.ev0 (Ev0.off g1 trivial)⟩
          obtain ⟨S',e'⟩:=S.put_ (c:=.dic (dPut kvs k d3)) z trivial hm ob
          have g : DPut H (μ m) i v (upd H (μ m) (.dK (putK ps k v))):=by rw [ek]; exact DPut.k g1 (by omega)
          exact d_setItem (by omega) I g ri rv fun s4 I4 => ⟨_,I4,h _ S' e'⟩
        by_cases hz : kvs.length < sizeLine
        · rw [if_pos hz] at e
          cases d2 with
          | str a => simp only [VR] at r2; cases e; exact go (Sum.inr a) r2 rfl hz
          | int a => simp only [VR] at r2; cases e; exact go (Sum.inl a) r2 rfl hz
          | _ => cases e
        · rw [if_neg hz] at e; cases e
      | ins c fs => cases e
      | fdc _ => cases e
      | dn _ _ => cases e
      | exn _ _ => cases e
  | _ => cases e
theorem ss_sub {W : WX} {o i e : Expr} {m mo mi : ME} {pos' pos : Pos} (hu : X.A.units + 64 < cLine) (he : SE X cl W e m) (ho : SE X cl W o mo) (hi : SE X cl W i mi)
    (ha : ∀ v,assign (.Subscript o i pos') X.env v = (do
      let ov ← holding [v] (eval o X.env)
      let iv ← holding [v,ov] (eval i X.env)
      standAt pos'
      holding [v,ov,iv] (setItem ov iv v)
      release [v,ov,iv] []):=by intro _; rfl)
    (hs : swapsWithSole [.Subscript o i pos'] e pos.line X.env = pure false:=by rfl) (hw : swappedStores [.Subscript o i pos'] e X.env = pure none:=by rfl)
    (h1 : (assignEach [.Subscript o i pos'] X.env).map (·.2) = [assign (.Subscript o i pos') X.env]:=by rfl) : SS X cl W (.Assign [.Subscript o i pos'] e pos) (msSub m mo mi):=
  PS.weak (ps_asg he (pg_sub ho hi (x_set hu) ha) hs hw h1) fun E σ H ⟨μ,st,l,S,L,h⟩ => ⟨μ,st,l,S,L,PostS.bind h L fun d3 st1 μ1 H1 v _ S1 e1 r1 h1 =>
    ⟨μ1,st1,l,S1,L.ev e1,PostS.bind h1 (L.ev e1) fun d1 st2 μ2 H2 w _ S2 e2 r2 h2 => ⟨μ2,st2,l,S2,L.ev (e1.trans e2),PostS.bind h2 (L.ev (e1.trans e2)) fun d2 st3 μ3 H3 z _ S3 e3 r3 h3 => by
      cases q : fSet d1 d2 d3 st3 with
      | none => rw [q] at h3; exact h3.elim
      | some st4 =>
        rw [q] at h3
        exact ⟨μ3,st3,d1,d2,d3,st4,S3,r2.ev e3,r3,(r1.ev e2).ev e3,q,fun H4 S4 e4 => h3 μ3 H4 σ S4 e4 (L.ev (e1.trans (e2.trans (e3.trans e4))))⟩⟩⟩⟩
def f1 (f : D → Store → Option (D × Store)) : FL:=fun xs st => match xs with
  | [x] => f x st
  | _ => none
theorem c_one {v : Value} {f : D → Store → Option (D × Store)} (h : ∀ (pins : List (Addr × Obj)) (s : Shared) (σ : L2.St) (H : Hp) (x : V) (us : List Value) (Q : VK) (μ : Nat → Addr) (st : Store) (d : D),Inv X pins σ H s → Vals [x] us → SR X.K cl μ st H → VR X.K μ st.nxt H d x →
      PostO X.K cl (VR X.K) μ st.nxt H Q (f d st) → wpAny (model X.prog X.w) X.A (call v us) (EP X pins σ Q) X.xe s) : CallS X cl v (f1 f):=by
  intro pins s σ H xs us Q I r ⟨μ,st,ds,S,rs,q⟩
  match ds,rs,q with
  | [d],rs,q =>
    simp only [VRs] at rs
    obtain ⟨x,_,rfl,rd,rfl⟩:=rs
    exact h pins s σ H x us Q μ st d I r S rd q
  | [],_,q => exact q.elim
  | _ :: _ :: _,_,q => exact q.elim
def lenD (x : D) (st : Store) : Option (D × Store):=match x with
  | .str z => if z.length ≤ sizeLine then some (.int z.length,st) else none
  | .tup xs => some (.int xs.length,st)
  | .rol xs => some (.int xs.length,st)
  | .ref m => (match st.at_ m with
    | some (.lst xs) => some (.int xs.length,st)
    | some (.dic kvs) => some (.int kvs.length,st)
    | _ => none)
  | _ => none
theorem c_len : CallS X cl (.builtin "len") (f1 lenD):=c_one fun pins s σ H x us Q μ st d I r S rd h => by
  unfold lenD at h
  cases d with
  | str z =>
    simp only [VR] at rd
    subst rd
    simp only at h
    by_cases hz : z.length ≤ sizeLine
    · rw [if_pos hz] at h
      exact call_len pins s σ H _ us Q I r ⟨_,z.length,rfl,⟨hz,rfl⟩,h μ H _ S Ev.refl (by simp only [VR])⟩
    · rw [if_neg hz] at h; exact h.elim
  | tup xs =>
    simp only [VR] at rd
    obtain ⟨p,vs,rfl,s1,t1⟩:=rd
    exact call_len pins s σ H _ us Q I r ⟨_,vs.length,rfl,.inr ⟨vs,s1,rfl⟩,h μ H _ S Ev.refl (by simp only [VR]; rw [t1.length])⟩
  | rol xs =>
    simp only [VR] at rd
    obtain ⟨p,vs,rfl,s1,t1⟩:=rd
    exact call_len pins s σ H _ us Q I r ⟨_,vs.length,rfl,.inl ⟨vs,s1.sq,rfl⟩,h μ H _ S Ev.refl (by simp only [VR]; rw [t1.length])⟩
  | ref m =>
    simp only [VR] at rd
    obtain ⟨hm,rfl⟩:=rd
    simp only at h
    cases z : st.at_ m with
    | none => rw [z] at h; exact h.elim
    | some c =>
      rw [z] at h
      cases c with
      | lst xs =>
        obtain ⟨vs,g1,t1⟩:=S.get z
        exact call_len pins s σ H _ us Q I r ⟨_,vs.length,rfl,.inl ⟨vs,SqL.of g1,rfl⟩,h μ H _ S Ev.refl (by simp only [VR]; rw [t1.length])⟩
      | dic kvs =>
        obtain ⟨ps,g1,g2,g3⟩:=S.get z
        have ln : ps.length = kvs.length:=by have:=congrArg List.length g2; simpa using this
        exact call_lenD pins s σ H _ us Q I r ⟨_,ps,rfl,g1,h μ H _ S Ev.refl (by simp only [VR]; rw [ln])⟩
      | ins c fs => exact h.elim
      | fdc _ => exact h.elim
      | dn _ _ => exact h.elim
      | exn _ _ => exact h.elim
  | _ => exact h.elim
def absD (x : D) (st : Store) : Option (D × Store):=match x with
  | .int i => some (.int (if i < 0 then -i else i),st)
  | _ => none
theorem c_abs : CallS X cl (.builtin "abs") (f1 absD):=c_one fun pins s σ H x us Q μ st d I r S rd h => by
  unfold absD at h
  cases d with
  | int i =>
    simp only [VR] at rd
    subst rd
    exact call_abs pins s σ H _ us Q I r ⟨i,rfl,h μ H _ S Ev.refl (by simp only [VR])⟩
  | _ => exact h.elim
def intD (x : D) (st : Store) : Option (D × Store):=match x with
  | .int i => some (.int i,st)
  | _ => none
theorem c_int : CallS X cl (.type "int") (f1 intD):=c_one fun pins s σ H x us Q μ st d I r S rd h => by
  unfold intD at h
  cases d with
  | int i =>
    simp only [VR] at rd
    subst rd
    exact call_int1 pins s σ H _ us Q I r (.inl ⟨i,rfl,h μ H _ S Ev.refl (by simp only [VR])⟩)
  | _ => exact h.elim
def f2I (g : Int → Int → Int) : FL:=fun xs st => match xs with
  | [.int i,.int j] => some (.int (g i j),st)
  | _ => none
theorem c_two {v : Value} {g : Int → Int → Int} (h : CallR X v (fun xs H Q => ∃ i j,xs = [.int i,.int j] ∧ Q (.int (g i j)) H)) : CallS X cl v (f2I g):=by
  intro pins s σ H xs us Q I r ⟨μ,st,ds,S,rs,q⟩
  unfold f2I at q
  split at q
  · simp only [VRs,VR] at rs
    obtain ⟨_,_,rfl,rfl,_,_,rfl,rfl,rfl⟩:=rs
    exact h pins s σ H _ us Q I r ⟨_,_,rfl,q μ H _ S Ev.refl (by simp only [VR])⟩
  · exact q.elim
def maxI (i j : Int) : Int:=if j > i then j else i
def minI (i j : Int) : Int:=if j < i then j else i
theorem c_max2 (hc : X.calm = true) : CallS X cl (.builtin "max") (f2I maxI):=c_two (call_max2 hc)
theorem c_min2 (hc : X.calm = true) : CallS X cl (.builtin "min") (f2I minI):=c_two (call_min2 hc)
def reprD (x : D) (st : Store) : Option (D × Store):=match x with
  | .tup _ => (match toData st 20 x with
    | some d => if d.showable = true ∧ d.shown.length ≤ sizeLine then some (.str d.shown,st) else none
    | none => none)
  | .ref _ => (match toData st 20 x with
    | some d => if d.showable = true ∧ d.shown.length ≤ sizeLine then some (.str d.shown,st) else none
    | none => none)
  | .non => some (.str "None",st)
  | .bl b => some (.str (if b then "True" else "False"),st)
  | _ => none
theorem c_reprU (hg : X.A.guards = some []) (hu : X.A.units + 64 < cLine) : CallS X cl (.builtin "repr") (f1 reprD):=c_one fun pins s σ H x us Q μ st d I r S rd h => by
  have go : ∀ {p : Addr},x = .ref p → PostO X.K cl (VR X.K) μ st.nxt H Q (match toData st 20 d with
    | some d => if d.showable = true ∧ d.shown.length ≤ sizeLine then some (.str d.shown,st) else none
    | none => none) → wpAny (model X.prog X.w) X.A (call (.builtin "repr") us) (EP X pins σ Q) X.xe s:=by
    intro p ex h
    cases q : toData st 20 d with
    | none => rw [q] at h; exact h.elim
    | some t =>
      rw [q] at h
      simp only at h
      by_cases c : t.showable = true ∧ t.shown.length ≤ sizeLine
      · rw [if_pos c] at h
        subst ex
        rw [Vals.ref1 r]
        obtain ⟨as,rr⟩:=reads_of I S rd (u:=.ref p) rfl q
        have dp:=toData_depth 20 d t q
        refine repr_of_reads' rr c.1 (PyData.noDict_hsm (PyData.hasDict_of_canLay t (toData_lay 20 d t q))) hg (by omega) (fun b o e => e) (fun h' u tk hk => ?_) c.2
        exact ⟨.str t.shown,H,I.kept hk,⟨u,rfl⟩,h μ H _ S Ev.refl (by simp only [VR])⟩
      · rw [if_neg c] at h; exact h.elim
  unfold reprD at h
  cases d with
  | tup xs =>
    have rd':=rd
    simp only [VR] at rd'
    obtain ⟨p,vs,e,_⟩:=rd'
    exact go e h
  | ref m =>
    have rd':=rd
    simp only [VR] at rd'
    exact go rd'.2 h
  | non =>
    simp only [VR] at rd
    subst rd
    obtain ⟨u,rfl,hu⟩:=vals1 r
    obtain rfl : u = .none:=hu
    exact PySem.P.repr_of_none ⟨.str "None",H,I.tok _,⟨_,rfl⟩,h μ H _ S Ev.refl (by simp only [VR])⟩
  | bl b =>
    simp only [VR] at rd
    subst rd
    obtain ⟨u,rfl,hu⟩:=vals1 r
    obtain rfl : u = .bool b:=hu
    exact PySem.P.repr_of_bool ⟨.str (if b then "True" else "False"),H,I.tok _,⟨_,rfl⟩,h μ H _ S Ev.refl (by simp only [VR])⟩
  | _ => exact h.elim
end
end DV
namespace DV
open PySem PySem.Spec PyProof.Rows L2
section
variable {X : Cx} {cl : CL} {W : WX}
theorem o_ge : OpS X cl (compareOp .GtE) fGe:=by
  intro pins s σ H x y v u Q I rx ry ⟨μ,st,d1,d2,S,r1,r2,h⟩
  unfold fGe at h
  cases d1 with
  | int i =>
    cases d2 with
    | int j =>
      simp only [VR] at r1 r2
      subst r1 r2
      exact op_ge pins s σ H _ _ v u Q I rx ry ⟨i,j,rfl,rfl,h μ H _ S Ev.refl (by simp only [VR])⟩
    | _ => exact h.elim
  | str i =>
    cases d2 with
    | str j =>
      simp only [VR] at r1 r2
      subst r1 r2
      exact op_ge_str pins s σ H _ _ v u Q I rx ry ⟨i,j,rfl,rfl,h μ H _ S Ev.refl (by simp only [VR])⟩
    | _ => exact h.elim
  | _ => exact h.elim
instance (i j : Int) : Decidable (CDivW i j):=by unfold CDivW; infer_instance
def fFdiv : F2:=fI CDivW fun i j => .int (i / j)
theorem o_fdiv : OpS X cl (binaryOp .FloorDiv) fFdiv:=o_I op_fdivW fun _ _ _ _ _ => by simp only [VR]
inductive TyN where
  | b (n : String)
  | o (c : Nat)
def tyV (cl : CL) : TyN → Value
  | .b n => .type n
  | .o c => .ref (cl c)
structure ClsA (K : PySem.W.Frag) (C : Addr) : Prop where
  cl : Cls K C
  ha : PySem.W.findIn K (.ref C) "__class__" = some (some (.builtin "object.__class__"))
  hn : PySem.W.specialIn K (.builtin "object.__class__") "__get__" = some (some (.builtin "getset_descriptor.__get__"))
  htk : PySem.W.takesIn K (.builtin "object.__class__") = some true
  hm : PySem.W.mroIn K C (.type "object") = some true
structure IsiOk (K : PySem.W.Frag) (cl : CL) (u : Value) (f : TyN → Option Bool) : Prop where
  one : ∀ t b,f t = some b → PySem.W.kitOne K (tyV cl t) u = some b
  own : ∀ c b,f (.o c) = some b → ClsA K (cl c)
def fOwn (c : Nat) (bs : List String) : TyN → Option Bool
  | .b m => if m ∈ bs then some false else none
  | .o c' => if c' = c then some true else none
theorem isi_own {K : PySem.W.Frag} {c : Nat} {bs : List String} (A : ClsA K (cl c)) (hb : ∀ m ∈ bs,PySem.W.kitOne K (.type m) (.ref (cl c)) = some false) (h1 : PySem.W.kitOne K (.ref (cl c)) (.ref (cl c)) = some true) : IsiOk K cl (.ref (cl c)) (fOwn c bs) where
  one:=fun t b h => by
    cases t with
    | b m =>
      unfold fOwn at h
      simp only at h
      by_cases z : m ∈ bs
      · rw [if_pos z] at h; cases h; exact hb m z
      · rw [if_neg z] at h; cases h
    | o c' =>
      unfold fOwn at h
      simp only at h
      by_cases z : c' = c
      · rw [if_pos z] at h; cases h; subst z; exact h1
      · rw [if_neg z] at h; cases h
  own:=fun c' b h => by
    unfold fOwn at h
    simp only at h
    by_cases z : c' = c
    · rw [z]; exact A
    · rw [if_neg z] at h; cases h
structure ClsE (X : Cx) (e : Expr) (v : V) (u : Value) : Prop where
  pe : PE X e (tC v)
  cls : ClsV v u
theorem ce_ty {x : Str} {n : String} {pos : Pos} (hg : Gl X x) (hm : X.mg x = none) (hv : bootBuiltins x = some (.type n)) (hn : x ≠ "__name__":=by decide) (hd : (x == ("__debug__" : Str)) = false:=by decide) : ClsE X (.Name x pos) (.ty n) (.type n):=
  ⟨pe_bltn hg hm hv rfl hn hd,.ty n⟩
theorem ce_own {x : Str} {C : Addr} {pos : Pos} (hg : Gl X x) (hm : X.mg x = some (.ref C)) (hd : (x == ("__debug__" : Str)) = false:=by decide) : ClsE X (.Name x pos) (.ref C) (.ref C):=
  ⟨pe_glob hg hm rfl hd,.own C⟩
def intsFrom : Int → Nat → List D
  | _,0 => []
  | i,n + 1 => .int i :: intsFrom (i + 1) n
theorem intsFrom_get : ∀ (n : Nat) (i : Int) (j : Nat),(intsFrom i n)[j]? = if j < n then some (.int (i + j)) else none
  | 0,i,j => by simp [intsFrom]
  | n + 1,i,0 => by simp [intsFrom]
  | n + 1,i,j + 1 => by
    simp only [intsFrom,List.getElem?_cons_succ]
    rw [intsFrom_get n (i + 1) j]
    by_cases h : j < n
    · rw [if_pos h,if_pos (by omega)]
      congr 2
      omega
    · rw [if_neg h,if_neg (by omega)]
theorem intsFrom_len (n : Nat) : ∀ i,(intsFrom i n).length = n:=by
  induction n with
  | zero => intro i; rfl
  | succ n ih => intro i; simp [intsFrom,ih]
def rng1 : List D → Option Iter
  | [.int j] => if -(2 ^ 62) ≤ j ∧ j < 2 ^ 62 then some ⟨[],intsFrom 0 j.toNat⟩ else none
  | _ => none
def miRng (f : List D → Option Iter) (a : MA) : MI:=fun l st => (a l st).bind fun ds st1 => match f ds with
  | some it => .ok it st1
  | none => .bad
theorem rng_it {K : PySem.W.Frag} {μ : Nat → Addr} {N : Nat} {H : Hp} {i : Int} {n : Nat} : IterR K cl μ N H ⟨[],intsFrom i n⟩ (Itr i n):=fun μ' st' H' S e so => by
  refine ⟨fun j d q => ?_,?_⟩
  · rw [intsFrom_get] at q
    by_cases hj : j < n
    · rw [if_pos hj] at q
      cases q
      refine ⟨hj,fun x H2 y => ?_⟩
      obtain ⟨rfl,rfl⟩:=y
      exact ⟨S,Ev.refl,by simp only [VR]⟩
    · rw [if_neg hj] at q; cases q
  · show n ≤ (intsFrom i n).length
    rw [intsFrom_len]
    exact Nat.le_refl _
theorem rng1_inv {ds : List D} {it : Iter} (h : rng1 ds = some it) : ∃ j,ds = [.int j] ∧ -(2 ^ 62) ≤ j ∧ j < 2 ^ 62 ∧ it = ⟨[],intsFrom 0 j.toNat⟩:=by
  unfold rng1 at h
  split at h
  · rename_i j
    by_cases c : -(2 ^ 62) ≤ j ∧ j < 2 ^ 62
    · rw [if_pos c] at h; exact ⟨j,rfl,c.1,c.2,(Option.some.inj h).symm⟩
    · rw [if_neg c] at h; cases h
  · cases h
theorem i_rng1 {tg a : Expr} {ma : MA} {p pos : Pos} (hm : X.mg "range" = none) (ha : SA X cl W [a] ma) (hg : Gl X "range":=by rfl) (hs : starEach [a] X.env = [(false,eval a X.env)]:=by rfl) : SI X cl W tg (.Call (.Name "range" p) [a] [] pos) (miRng rng1 ma):=
  PI.weak (pi_range1 hg hm ha hs) fun σ H Q ⟨μ,st,l,S,L,h⟩ => ⟨μ,st,l,S,L,Post.bind h fun ds st1 μ1 H1 vs _ S1 e1 r1 h1 => by
    cases hit : rng1 ds with
    | none => rw [hit] at h1; exact h1.elim
    | some it =>
      rw [hit] at h1
      obtain ⟨j,rfl,c1,c2,rfl⟩:=rng1_inv hit
      simp only [VRs,VR] at r1
      obtain ⟨_,_,rfl,rfl,rfl⟩:=r1
      exact ⟨j,rfl,c1,c2,h1 μ1 H1 _ S1 Ev.refl rng_it⟩⟩
def SqA (K : PySem.W.Frag) (H : Hp) (a : Addr) (k : Bool) (vs : List V) : Prop:=if k then SqL K H a vs else SqT K H a vs
def seqOf (d : D) (st : Store) : Option Iter:=match d with
  | .tup xs => some ⟨[],xs⟩
  | .rol xs => some ⟨[],xs⟩
  | .ref m => (match st.at_ m with
    | some (.lst xs) => some ⟨[(m,xs)],xs⟩
    | _ => none)
  | _ => none
theorem seqOf_ok {K : PySem.W.Frag} {μ : Nat → Addr} {st : Store} {H : Hp} {d : D} {v : V} {it : Iter} (S : SR K cl μ st H) (r : VR K μ st.nxt H d v) (h : seqOf d st = some it) :
    ∃ a k,v = .ref a ∧ (∃ vs,SqA K H a k vs) ∧ ∀ μ' st' H',SR K cl μ' st' H' → Ev K μ st.nxt H μ' st'.nxt H' → SrcOk it.srcs st' → ∃ vs,SqA K H' a k vs ∧ VRs K μ' st'.nxt H' it.items vs:=by
  unfold seqOf at h
  cases d with
  | tup xs =>
    cases h
    simp only [VR] at r
    obtain ⟨p,vs,rfl,r1,r2⟩:=r
    exact ⟨p,false,rfl,⟨vs,r1⟩,fun μ' st' H' S' e _ => ⟨vs,e.sq p vs r1,r2.ev e⟩⟩
  | rol xs =>
    cases h
    simp only [VR] at r
    obtain ⟨p,vs,rfl,r1,r2⟩:=r
    exact ⟨p,true,rfl,⟨vs,r1.sq⟩,fun μ' st' H' S' e _ => ⟨vs,(e.rq p vs r1).sq,r2.ev e⟩⟩
  | ref m =>
    simp only [VR] at r
    obtain ⟨hm,rfl⟩:=r
    simp only at h
    cases z : st.at_ m with
    | none => rw [z] at h; cases h
    | some c =>
      rw [z] at h
      cases c with
      | lst xs =>
        cases h
        obtain ⟨vs,g1,g2⟩:=S.get z
        refine ⟨μ m,true,rfl,⟨vs,SqL.of g1⟩,fun μ' st' H' S' e so => ?_⟩
        have q:=so (m,xs) (by simp)
        obtain ⟨ws,f1,f2⟩:=S'.get q
        refine ⟨ws,?_,f2⟩
        rw [e.mu m hm] at f1
        exact SqL.of f1
      | _ => cases h
  | _ => cases h
def Its (K : PySem.W.Frag) (k : Bool) (a : Addr) : It:=if k then Itl K a else Itt K a
theorem its_it {K : PySem.W.Frag} {μ : Nat → Addr} {st : Store} {H : Hp} {it : Iter} {a : Addr} {k : Bool}
    (hh : ∀ μ' st' H',SR K cl μ' st' H' → Ev K μ st.nxt H μ' st'.nxt H' → SrcOk it.srcs st' → ∃ vs,SqA K H' a k vs ∧ VRs K μ' st'.nxt H' it.items vs) : IterR K cl μ st.nxt H it (Its K k a):=fun μ' st' H' S e so => by
  obtain ⟨vs,q1,q2⟩:=hh μ' st' H' S e so
  have ln:=q2.length
  cases k with
  | true =>
    refine ⟨fun j d q => ?_,?_⟩
    · obtain ⟨v,h1,h2⟩:=q2.get q
      refine ⟨⟨vs,v,q1,h1⟩,fun x H2 y => ?_⟩
      obtain ⟨rfl,y⟩:=y
      have:=y vs q1
      rw [h1] at this
      cases this
      exact ⟨S,Ev.refl,h2⟩
    · exact ⟨vs,q1,by omega⟩
  | false =>
    refine ⟨fun j d q => ?_,?_⟩
    · obtain ⟨v,h1,h2⟩:=q2.get q
      refine ⟨⟨vs,v,q1,h1⟩,fun x H2 y => ?_⟩
      obtain ⟨rfl,y⟩:=y
      have:=y vs q1
      rw [h1] at this
      cases this
      exact ⟨S,Ev.refl,h2⟩
    · exact ⟨vs,q1,by omega⟩
def miSeq (m : ME) : MI:=fun l st => (m l st).bind fun d st1 => match seqOf d st1 with
  | some it => .ok it st1
  | none => .bad
theorem i_seq {tg e : Expr} {m : ME} (he : SE X cl W e m) : SI X cl W tg e (miSeq m):=by
  refine ⟨fun pins s σ H R I ⟨μ,st,l,S,L,h⟩ => ?_⟩
  have w : rdE X.K cl W m σ H (fun x H1 => ∃ a k,x = .ref a ∧ (∃ vs,SqA X.K H1 a k vs) ∧ R (Its X.K k a) H1):=⟨μ,st,l,S,L,Post.bind h fun d st1 μ1 H1 v _ S1 e1 r1 h1 => by
    cases q : seqOf d st1 with
    | none => rw [q] at h1; exact h1.elim
    | some it =>
      rw [q] at h1
      obtain ⟨a,k,ev,z,hh⟩:=seqOf_ok S1 r1 q
      exact ⟨a,k,ev,z,h1 μ1 H1 _ S1 Ev.refl (its_it hh)⟩⟩
  refine thn (he.run pins s σ H _ I w) fun v s1 ⟨x,H1,I1,r1,q1⟩ => ?_
  obtain ⟨a,k,e,⟨xs,hq⟩,q⟩:=q1
  subst e
  cases r1
  have fr : ∀ b ∈ [s1.heap.objs.size],FpOk X pins H1 b:=fun b hb => by
    have e : b = s1.heap.objs.size:=by simpa using hb
    rw [e]
    exact I1.fpOk (Nat.le_refl _) (I1.hok.fresh (Nat.le_refl _))
  cases k with
  | true =>
    obtain ⟨its,rv,p,hz⟩:=I1.list hq
    exact wpAny_pyIter_list p.isList ⟨s1.heap.objs.size,[s1.heap.objs.size],_,_,H1,rfl,I1.kept (t':=s1.toks) fun b o e => Heap.get?_push_of_some _ e,turn_list a _,⟨_,Heap.get?_push_size _ rfl,rfl,rfl⟩,fr,q⟩
  | false =>
    obtain ⟨its,rv,p,hz⟩:=I1.tuple hq
    exact wpAny_pyIter_tuple (show s1.heap.IsTuple a its.toArray from p) ⟨s1.heap.objs.size,[s1.heap.objs.size],_,_,H1,rfl,I1.kept (t':=s1.toks) fun b o e => Heap.get?_push_of_some _ e,turn_tuple a _,⟨_,Heap.get?_push_size _ rfl,rfl,rfl⟩,fr,q⟩
end
end DV
namespace DV
open PySem PySem.Spec PyProof.Rows L2
def SeqIt (h : Heap) (it a : Addr) (k : Bool) (i : Nat) : Prop:=if k then h.IsListIter it a i else h.IsTupleIter it a i
def SeqAt (h : Heap) (a : Addr) (k : Bool) (items : Array Value) : Prop:=if k then h.IsList a items else h.IsTuple a items
def seqItO (a : Addr) (k : Bool) : Obj:=if k then { cls:=.type "list_iterator",data:=.fields #[.ref a,.int 0 0] } else { cls:=.type "tuple_iterator",data:=.fields #[.ref a,.int 0 0] }
theorem SeqIt.new {h : Heap} {it a : Addr} {k : Bool} (e : h.get? it = some (seqItO a k)) : SeqIt h it a k 0:=by
  cases k with
  | true => exact ⟨_,e,rfl,rfl⟩
  | false => exact ⟨_,e,rfl,rfl⟩
theorem SeqIt.ob {h : Heap} {it a : Addr} {k : Bool} {i : Nat} (s : SeqIt h it a k i) : ∃ o vs,h.get? it = some o ∧ o.data = .fields vs:=by
  cases k with
  | true => obtain ⟨o,e,_,d⟩:=s; exact ⟨o,_,e,d⟩
  | false => obtain ⟨o,e,_,d⟩:=s; exact ⟨o,_,e,d⟩
section
variable {X : Cx} {pins : List (Addr × Obj)} {σ : L2.St} {H : Hp} {s : Shared}
end
set_option maxHeartbeats 8000000 in
section
variable {X : Cx} {cl : CL} {W : WX}
end
section
variable {X : Cx} {cl : CL} {W : WX}
end
end DV
namespace DV
open PySem PySem.Spec PyProof.Rows L2
section
variable {prog : Program} {w : World} {A : Around} {E : Value → Shared → Prop} {s : Shared}
end
end DV
namespace DV
open PySem PySem.Spec PyProof.Rows L2
section
variable {prog : Program} {w : World} {A : Around} {E : Value → Shared → Prop} {s : Shared}
variable {R : Result → Shared → Prop} {I : Addr} {fp wr : List Addr} {G : Array GenState → Array GenState → Prop} {n : Nat} {P : Nat → Value → Prop} {St : Nat → Shared → Prop}
end
section
variable {prog : Program} {w : World} {A : Around} {E : Value → Shared → Prop} {s : Shared}
set_option maxHeartbeats 16000000 in
end
theorem vals_at : ∀ {vs : List V} {us : List Value} (i : Nat) (u : Value),Vals vs us → us[i]? = some u → ∃ v,vs[i]? = some v ∧ RelV v u
  | [],_,i,u,.nil,h => by simp at h
  | v :: vs,_,0,u,.cons r t,h => by
    simp at h
    subst h
    exact ⟨v,rfl,r⟩
  | v :: vs,_,i + 1,u,.cons r t,h => by
    obtain ⟨x,h1,h2⟩:=vals_at i u t (by simpa using h)
    exact ⟨x,by simpa using h1,h2⟩
section
variable {X : Cx} {cl : CL} {W : WX}
end
end DV
namespace DV
open PySem PySem.Spec PyProof.Rows L2
inductive Src where
  | p (i : Nat)
  | k (i : Nat)
  | d (i : Nat)
def Src.of {α : Type} (ps ks ds : List α) : Src → Option α
  | .p i => ps[i]?
  | .k i => ks[i]?
  | .d i => ds[i]?
def arr {α : Type} : List Src → List α → List α → List α → List α
  | [],_,_,_ => []
  | x :: r,ps,ks,ds => match x.of ps ks ds with
    | some a => a :: arr r ps ks ds
    | none => arr r ps ks ds
theorem vals_gets {vs : List V} {us : List Value} (h : Vals vs us) (i : Nat) : (∃ v u,vs[i]? = some v ∧ us[i]? = some u ∧ RelV v u) ∨ (vs[i]? = none ∧ us[i]? = none):=by
  have ln:=h.length
  cases q : us[i]? with
  | some u =>
    obtain ⟨v,h1,h2⟩:=vals_at i u h q
    exact .inl ⟨v,u,h1,rfl,h2⟩
  | none =>
    refine .inr ⟨?_,rfl⟩
    rw [List.getElem?_eq_none_iff] at q ⊢
    omega
theorem vrs_gets {K : PySem.W.Frag} {μ : Nat → Addr} {N : Nat} {H : Hp} {ds : List D} {vs : List V} (h : VRs K μ N H ds vs) (i : Nat) : (∃ d v,ds[i]? = some d ∧ vs[i]? = some v ∧ VR K μ N H d v) ∨ (ds[i]? = none ∧ vs[i]? = none):=by
  have ln:=h.length
  cases q : ds[i]? with
  | some d =>
    obtain ⟨v,h1,h2⟩:=h.get q
    exact .inl ⟨d,v,rfl,h1,h2⟩
  | none =>
    refine .inr ⟨rfl,?_⟩
    rw [List.getElem?_eq_none_iff] at q ⊢
    omega
theorem Vals.arr : ∀ (ix : List Src) {vs zs ms : List V} {us ws mv : List Value},Vals vs us → Vals zs ws → Vals ms mv → Vals (arr ix vs zs ms) (arr ix us ws mv)
  | [],_,_,_,_,_,_,_,_,_ => .nil
  | x :: r,vs,zs,ms,us,ws,mv,h1,h2,h3 => by
    have ih:=Vals.arr r h1 h2 h3
    have go : (∃ v u,x.of vs zs ms = some v ∧ x.of us ws mv = some u ∧ RelV v u) ∨ (x.of vs zs ms = none ∧ x.of us ws mv = none):=by
      cases x with
      | p i => exact vals_gets h1 i
      | k i => exact vals_gets h2 i
      | d i => exact vals_gets h3 i
    unfold DV.arr
    rcases go with ⟨v,u,e1,e2,r1⟩ | ⟨e1,e2⟩
    · rw [e1,e2]; exact .cons r1 ih
    · rw [e1,e2]; exact ih
theorem VRs.arr {K : PySem.W.Frag} {μ : Nat → Addr} {N : Nat} {H : Hp} : ∀ (ix : List Src) {ds es ms : List D} {vs zs mv : List V},VRs K μ N H ds vs → VRs K μ N H es zs → VRs K μ N H ms mv → VRs K μ N H (arr ix ds es ms) (arr ix vs zs mv)
  | [],_,_,_,_,_,_,_,_,_ => by simp only [DV.arr,VRs]
  | x :: r,ds,es,ms,vs,zs,mv,h1,h2,h3 => by
    have ih:=VRs.arr r h1 h2 h3
    have go : (∃ d v,x.of ds es ms = some d ∧ x.of vs zs mv = some v ∧ VR K μ N H d v) ∨ (x.of ds es ms = none ∧ x.of vs zs mv = none):=by
      cases x with
      | p i => exact vrs_gets h1 i
      | k i => exact vrs_gets h2 i
      | d i => exact vrs_gets h3 i
    unfold DV.arr
    rcases go with ⟨d,v,e1,e2,r1⟩ | ⟨e1,e2⟩
    · rw [e1,e2]; simp only [VRs]; exact ⟨v,_,rfl,r1,ih⟩
    · rw [e1,e2]; exact ih
def KB (K : PySem.W.Frag) (fd : FuncData) (ps : List Str) (n : Nat) (ks : List Str) (ix : List Src) (dvs : List V) : Prop:=∃ dv : List Value,KBn K fd ps n ks (fun us ws => arr ix us ws dv) (fun vs zs => arr ix vs zs dvs)
theorem kb_plain {K : PySem.W.Frag} {x qual : Str} {st : Stmt} {f : Addr} {fd : FuncData} {ps : List Str} (F : Fun K x qual st f fd) (n : Nat) (ks : List Str) (ix : List Src)
    (h : ∀ (kV doc pm : Value) (an : Option Addr) (cdv ct : Value) (us ws : List Value),us.length = n → ws.length = ks.length → bindArgs (PySem.W.fnOf x qual (defArgs st) (defBody st) (defScope st) .none kV doc pm an cdv ct) ⟨us,ks.zip ws⟩ = pure (ps.zip (arr ix us ws []))) : KB K fd ps n ks ix []:=by
  obtain ⟨oc,od,kV,doc,pm,an,cdv,ct,osl,rfl,lk,hcd⟩:=F.ex
  exact ⟨[],⟨fun s us ws X l1 l2 => .of_eq (h kV doc pm an cdv ct us ws l1 l2),fun r1 r2 => Vals.arr ix r1 r2 .nil⟩⟩
section
variable {X : Cx} {cl : CL} {W : WX} {k n : Nat} {f : Addr} {fd : FuncData} {ps ks : List Str} {F : FD} {x : Str} {p pos : Pos} {e : Expr} {es : List Expr} {kws : List Keyword} {xs ys : MA} {ix : List Src} {dds : List D} {dvs : List V} {kpos : Pos} {nm : Option Str} {me : ME}
abbrev SK (X : Cx) (cl : CL) (W : WX) (kws : List Keyword) (m : MA) : Prop:=PK X kws (rdA X.K cl W m)
theorem PK.weak {X : Cx} {kws : List Keyword} {t t' : TA} (h : PK X kws t) (w : ∀ σ H Q,t' σ H Q → t σ H Q) : PK X kws t':=⟨fun pos pins s σ H Q I q => h.run pos pins s σ H Q I (w σ H Q q)⟩
theorem sk_nil : SK X cl W [] maNil:=PK.weak pk_nil fun σ H Q ⟨μ,st,l,S,L,h⟩ => h μ H [] S Ev.refl (by simp only [VRs])
theorem sk_cons (ha : SE X cl W e me) (hr : SK X cl W kws xs) : SK X cl W (⟨nm,e,kpos⟩ :: kws) (maCons me xs):=
  PK.weak (pk_cons ha hr) fun σ H Q ⟨μ,st,l,S,L,h⟩ => ⟨μ,st,l,S,L,Post.bind h fun x st1 μ1 H1 v _ S1 e1 r1 h1 =>
    ⟨μ1,st1,l,S1,L.ev e1,Post.bind h1 fun ys st2 μ2 H2 vs _ S2 e2 r2 h2 => h2 μ2 H2 (v :: vs) S2 Ev.refl (by simp only [VRs]; exact ⟨v,vs,rfl,r1.ev e2,r2⟩)⟩⟩
end
theorem make_guards {A : Around} {C : Addr} {us : List Value} {kw : List (Str × Value)} : (A.under (.builtin "type.__call__" ⟨.ref C :: us,kw⟩)).guards = A.guards:=by
  first | rfl | simp [Around.under,Code.weight,Code.isCreation,Code.isGuard,Code.isCaller,Code.frames,Code.isFrame,guardIds]
theorem RoomG.make {k : Nat} {A : Around} (r : RoomG (k + 1) A) (C : Addr) (us : List Value) (kw : List (Str × Value)) : RoomG k (A.under (.builtin "type.__call__" ⟨.ref C :: us,kw⟩)):=⟨r.room.make C us kw,make_guards.trans r.g⟩
section
variable {X : Cx} {cl : CL} {W : WX} {k n c : Nat} {f : Addr} {fd : FuncData} {ps ks : List Str} {F : FD} {x : Str} {p pos : Pos} {e : Expr} {es : List Expr} {kws : List Keyword} {xs ys : MA} {ix : List Src} {dds : List D} {dvs : List V}
end
theorem lookA_rel {K : PySem.W.Frag} {μ : Nat → Addr} {N : Nat} {H : Hp} {f : Str} {d : D} : ∀ {fs : List (Str × D)} {ps : List (Str × V)},ps.map (·.1) = fs.map (·.1) → VRs K μ N H (fs.map (·.2)) (ps.map (·.2)) → fs.lookup f = some d → ∃ v,ps.lookup f = some v ∧ VR K μ N H d v
  | [],[],_,_,h => by simp [List.lookup] at h
  | (g,x) :: fs,(g',y) :: ps,h1,h2,h => by
    simp only [List.map_cons,List.cons.injEq] at h1
    obtain ⟨rfl,h1⟩:=h1
    simp only [List.map_cons,VRs] at h2
    obtain ⟨v0,r0,e0,a0,b0⟩:=h2
    simp only [List.cons.injEq] at e0
    obtain ⟨rfl,rfl⟩:=e0
    simp only [List.lookup] at h ⊢
    cases z : f == g' with
    | true =>
      rw [z] at h
      cases h
      exact ⟨y,rfl,a0⟩
    | false =>
      rw [z] at h
      exact lookA_rel h1 b0 h
  | [],_ :: _,h1,_,_ => by simp at h1
  | _ :: _,[],h1,_,_ => by simp at h1
section
variable {X : Cx} {cl : CL} {W : WX} {c k : Nat} {f : Str} {e o v : Expr} {m mo mv : ME} {pos pos' : Pos} {p g : Addr} {fd : FuncData} {ps : List Str} {F : FD} {x : Str}
end
end DV
namespace DV
open PySem PySem.Spec PyProof.Rows L2 He
def Wr (K : PySem.W.Frag) (d : D) (v : V) : Prop:=∀ μ N H,VR K μ N H d v
mutual
theorem datB_ok {K : PySem.W.Frag} : ∀ {d : D} {u : Value},datB K d u = true → ∃ v,RelV v u ∧ Wr K d v
  | .non,u,h => by
    cases u <;> simp only [datB] at h <;> first | cases h | skip
    exact ⟨.non,rfl,fun _ _ _ => by simp only [VR]⟩
  | .bl b,u,h => by
    cases u <;> simp only [datB] at h <;> first | cases h | skip
    exact ⟨.bl b,by rw [eq_of_beq h]; rfl,fun _ _ _ => by simp only [VR]⟩
  | .int i,u,h => by
    cases u <;> simp only [datB] at h <;> first | cases h | skip
    rename_i j t
    have e:=of_decide_eq_true h
    subst e
    exact ⟨.int i,⟨t,rfl⟩,fun _ _ _ => by simp only [VR]⟩
  | .str x,u,h => by
    cases u <;> simp only [datB] at h <;> first | cases h | skip
    rename_i y t
    have e:=of_decide_eq_true h
    subst e
    exact ⟨.str x,⟨t,rfl⟩,fun _ _ _ => by simp only [VR]⟩
  | .tup ds,u,h => by
    cases u <;> simp only [datB] at h <;> first | cases h | skip
    rename_i a
    cases q : K.lookup a with
    | none => rw [q] at h; cases h
    | some o =>
      obtain ⟨oc,od,dt,sl⟩:=o
      rw [q] at h
      cases oc with
      | type c =>
        cases dt with
        | seq its n =>
          obtain ⟨h1,h2⟩:=ba (show (decide (c = "tuple") && (decide (its.size ≤ sizeLine) && datsB K ds its.toList)) = true from h)
          obtain ⟨h3,h4⟩:=ba h2
          obtain ⟨vs,r,wr⟩:=datsB_ok h4
          refine ⟨.ref a,rfl,fun μ N H => ?_⟩
          simp only [VR]
          exact ⟨a,vs,rfl,.inr ⟨_,its,n,q,congrArg Value.type (of_decide_eq_true h1),rfl,of_decide_eq_true h3,r⟩,wr μ N H⟩
        | _ => cases h
      | _ => cases dt <;> cases h
  | .ref _,u,h => by simp only [datB] at h; cases h
  | .rol _,u,h => by simp only [datB] at h; cases h
  | .cst _,u,h => by simp only [datB] at h; cases h
theorem datsB_ok {K : PySem.W.Frag} : ∀ {ds : List D} {us : List Value},datsB K ds us = true → ∃ vs,Vals vs us ∧ ∀ μ N H,VRs K μ N H ds vs
  | [],us,h => by
    cases us with
    | nil => exact ⟨[],.nil,fun _ _ _ => by simp only [VRs]⟩
    | cons u us => simp only [datsB] at h; cases h
  | d :: ds,us,h => by
    cases us with
    | nil => simp only [datsB] at h; cases h
    | cons u us =>
      simp only [datsB] at h
      obtain ⟨h1,h2⟩:=ba h
      obtain ⟨v,r,w⟩:=datB_ok h1
      obtain ⟨vs,r2,w2⟩:=datsB_ok h2
      exact ⟨v :: vs,.cons r r2,fun μ N H => by simp only [VRs]; exact ⟨v,vs,rfl,w μ N H,w2 μ N H⟩⟩
end
section
variable {K : PySem.W.Frag} {h : Heap} {mg : Str → Option Value}
theorem fx_glo (X : K.In h) (G : h.Ns mainGlobals mg) {x : Str} (c : (Fx.glo x).ok K = true) : mg x = some (.ref (ga K x)) ∧ PySem.W.keepIn K (.ref (ga K x)) = true:=⟨PySem.W.mg_of X G (eqO_ok (ba c).1),(ba c).2⟩
theorem fx_free (X : K.In h) (G : h.Ns mainGlobals mg) {x : Str} (c : (Fx.free x).ok K = true) : mg x = none:=PySem.W.mg_none_of X G (eqO_ok c)
theorem fx_dat (X : K.In h) (G : h.Ns mainGlobals mg) {x : Str} {d : D} (c : (Fx.dat x d).ok K = true) : ∃ u v,mg x = some u ∧ RelV v u ∧ Wr K d v:=by
  have c2 : (match PySem.W.nsIn K mainGlobals x with
    | some (some u) => datB K d u
    | _ => false) = true:=c
  cases e : PySem.W.nsIn K mainGlobals x with
  | none => rw [e] at c2; cases c2
  | some o =>
    rw [e] at c2
    cases o with
    | none => cases c2
    | some u =>
      obtain ⟨v,r,w⟩:=datB_ok c2
      exact ⟨u,v,PySem.W.mg_of X G e,r,w⟩
theorem fx_cls {x : Str} (c : (Fx.cls x).ok K = true) : ClsA K (ga K x):=by
  obtain ⟨c1,c⟩:=ba c
  obtain ⟨c2,c⟩:=ba c
  obtain ⟨c3,c⟩:=ba c
  obtain ⟨c4,c5⟩:=ba c
  exact ⟨cls_ok c1,eqO_ok c2,eqO_ok c3,of_decide_eq_true c4,of_decide_eq_true c5⟩
theorem fx_bm {x m : Str} {id : String} (c : (Fx.bm x m id).ok K = true) : PySem.W.findIn K (.ref (ga K x)) m = some (some (.builtin id)):=eqO_ok c
theorem fx_noat {x f : Str} (c : (Fx.noat x f).ok K = true) : NoAttr K (ga K x) f:=eqO_ok c
theorem fx_prop {x f : Str} (c : (Fx.prop x f).ok K = true) : PropOf K (ga K x) f (ma K (ga K x) f) (pgA K x f):=by
  obtain ⟨c1,c⟩:=ba c
  obtain ⟨c2,c⟩:=ba c
  obtain ⟨c3,c4⟩:=ba c
  refine ⟨eqO_ok c1,eqO_ok c2,of_decide_eq_true c3,?_⟩
  unfold pgA
  cases q : PySem.W.recIn K (ma K (ga K x) f) "property" with
  | none => rw [q] at c4; cases c4
  | some l =>
    rw [q] at c4
    cases l with
    | nil => cases c4
    | cons g r =>
      cases g with
      | ref g => exact ⟨r,rfl⟩
      | _ => cases c4
theorem fx_mkr {x : Str} (c : (Fx.mkr x).ok K = true) : Mk K (ga K x) (ma K (ga K x) "__init__"):=mkr_ok c
theorem fx_isi {x : Str} {bs : List String} (c : (Fx.isi x bs).ok K = true) : PySem.W.kitOne K (.ref (ga K x)) (.ref (ga K x)) = some true ∧ ∀ m ∈ bs,PySem.W.kitOne K (.type m) (.ref (ga K x)) = some false:=by
  obtain ⟨c1,c2⟩:=ba c
  exact ⟨of_decide_eq_true c1,fun m hm => of_decide_eq_true (List.all_eq_true.mp c2 m hm)⟩
end
section
variable {fx : List Fx} {fn : List DefA} {K : PySem.W.Frag}
theorem SaysV.fact (c : SaysV fx fn K) (i : Nat) {f : Fx} (h : fx[i]? = some f:=by rfl) : f.ok K = true:=by
  have z:=(ba (show ((fx.all fun f => f.ok K) && fn.all fun d => d.ok K) = true from congrArg (fun z : He.AlD => z.1) c)).1
  exact List.all_eq_true.mp z f (List.mem_of_getElem? h)
theorem SaysV.def_ (c : SaysV fx fn K) (i : Nat) {d : DefA} (h : fn[i]? = some d:=by rfl) : ∃ fd,FunD K d.name d.qual d.params d.body d.scope (d.dvs K) (d.kws K) (d.at_ K) fd:=by
  have z:=(ba (show ((fx.all fun f => f.ok K) && fn.all fun d => d.ok K) = true from congrArg (fun z : He.AlD => z.1) c)).2
  have e : (fn.map (fun d => He5.fnA K (d.at_ K)))[i]? = (fn.map He5.DefA.val)[i]?:=congrArg (fun z : He.AlD => z.2[i]?) c
  rw [List.getElem?_map,List.getElem?_map,h] at e
  exact He5.DefA.funD (Option.some.inj e) (List.all_eq_true.mp z d (List.mem_of_getElem? h))
end
structure Tx (fx : List Fx) (fn : List DefA) (K : PySem.W.Frag) (mg : Str → Option Value) : Prop where
  says : SaysV fx fn K
  heap : ∃ h : Heap,K.In h ∧ h.Ns mainGlobals mg
section
variable {fx : List Fx} {fn : List DefA} {K : PySem.W.Frag} {mg : Str → Option Value}
theorem Tx.glo (T : Tx fx fn K mg) (i : Nat) {x : Str} (h : fx[i]? = some (.glo x):=by rfl) : mg x = some (.ref (ga K x)):=by
  obtain ⟨hp,X,G⟩:=T.heap
  exact (fx_glo X G (T.says.fact i h)).1
theorem Tx.kp (T : Tx fx fn K mg) (i : Nat) {x : Str} (h : fx[i]? = some (.glo x):=by rfl) : PySem.W.keepIn K (.ref (ga K x)) = true:=by
  obtain ⟨hp,X,G⟩:=T.heap
  exact (fx_glo X G (T.says.fact i h)).2
theorem Tx.free (T : Tx fx fn K mg) (i : Nat) {x : Str} (h : fx[i]? = some (.free x):=by rfl) : mg x = none:=by
  obtain ⟨hp,X,G⟩:=T.heap
  exact fx_free X G (T.says.fact i h)
theorem Tx.dat (T : Tx fx fn K mg) (i : Nat) {x : Str} {d : D} (h : fx[i]? = some (.dat x d):=by rfl) : ∃ u v,mg x = some u ∧ RelV v u ∧ Wr K d v:=by
  obtain ⟨hp,X,G⟩:=T.heap
  exact fx_dat X G (T.says.fact i h)
theorem Tx.cls (T : Tx fx fn K mg) (i : Nat) {x : Str} (h : fx[i]? = some (.cls x):=by rfl) : ClsA K (ga K x):=fx_cls (T.says.fact i h)
theorem Tx.bm (T : Tx fx fn K mg) (i : Nat) {x m : Str} {id : String} (h : fx[i]? = some (.bm x m id):=by rfl) : PySem.W.findIn K (.ref (ga K x)) m = some (some (.builtin id)):=fx_bm (T.says.fact i h)
theorem Tx.any (T : Tx fx fn K mg) (i : Nat) {f : PySem.W.Frag → Bool} (h : fx[i]? = some (.any f):=by rfl) : f K = true:=T.says.fact i h
theorem Tx.noat (T : Tx fx fn K mg) (i : Nat) {x f : Str} (h : fx[i]? = some (.noat x f):=by rfl) : NoAttr K (ga K x) f:=fx_noat (T.says.fact i h)
theorem Tx.prop (T : Tx fx fn K mg) (i : Nat) {x f : Str} (h : fx[i]? = some (.prop x f):=by rfl) : PropOf K (ga K x) f (ma K (ga K x) f) (pgA K x f):=fx_prop (T.says.fact i h)
theorem Tx.mkr (T : Tx fx fn K mg) (i : Nat) {x : Str} (h : fx[i]? = some (.mkr x):=by rfl) : Mk K (ga K x) (ma K (ga K x) "__init__"):=fx_mkr (T.says.fact i h)
theorem Tx.meth (T : Tx fx fn K mg) (i : Nat) {x m : Str} (h : fx[i]? = some (.meth x m):=by rfl) : Meth K (ga K x) m (ma K (ga K x) m):=meth_ok (T.says.fact i h)
theorem Tx.isi (T : Tx fx fn K mg) (i j : Nat) {cl : CL} {c : Nat} {x : Str} {bs : List String} (e : cl c = ga K x:=by rfl) (h : fx[i]? = some (.isi x bs):=by rfl) (h2 : fx[j]? = some (.cls x):=by rfl) : IsiOk K cl (.ref (cl c)) (fOwn c bs):=by
  obtain ⟨h3,h4⟩:=fx_isi (T.says.fact i h)
  rw [← e] at h3 h4
  exact isi_own (by rw [e]; exact T.cls j h2) h4 h3
end
theorem s_dat {X : Cx} {cl : CL} {W : WX} {x : Str} {d : D} {p : Pos} (e : ∃ u v,X.mg x = some u ∧ RelV v u ∧ Wr X.K d v) (hg : Gl X x:=by rfl) (hd : (x == ("__debug__" : Str)) = false:=by decide) : SE X cl W (.Name x p) (mC d):=by
  obtain ⟨u,v,hm,r,w⟩:=e
  exact s_glob hg hm r w hd
structure GD (P : Program) (w : World) (K : PySem.W.Frag) (mg : Str → Option Value) (base : Heap) (cl : CL) (k : Nat) (f : Addr) (x qual : Str) (st : Stmt) (kws : List (Str × V)) (ps : List Str) (F : FD) : Prop where
  ex : ∃ fd,FnS P w K mg base cl k f fd ps F ∧ FunD K x qual (defArgs st) (defBody st) (defScope st) [] kws f fd
theorem funA_of {K : PySem.W.Frag} {x qual : Str} {st : Stmt} {dvs : List V} {kws : List (Str × V)} {f : Addr} {fd : FuncData} (F : FunD K x qual (defArgs st) (defBody st) (defScope st) dvs kws f fd) : FunA K x qual st f fd:=by
  obtain ⟨oc,od,dV,kV,doc,pm,an,cdv,ct,osl,e,lk,c,_⟩:=F.ex
  exact ⟨⟨oc,od,dV,kV,doc,pm,an,cdv,ct,osl,e,lk,c⟩,F.kp⟩
theorem gd_of {P : Program} {w : World} {K : PySem.W.Frag} {mg : Str → Option Value} {base : Heap} {cl : CL} {x qual : Str} {st : Stmt} {kws : List (Str × V)} {f : Addr} {N ps : List Str} {k len n : Nat} {mb : MS} (e : ∃ fd,FunD K x qual (defArgs st) (defBody st) (defScope st) [] kws f fd) (S : FnScope N ps (defScope st)) (hn : ps.length = n) (hl : N.length = len)
    (hbody : ∀ (cdv : Value) (A : Around) (outer : List Env) (s : Shared) (H : Hp) (E : XK),RoomG k (A.deeper (envOfC qual (defScope st) s.heap.objs.size f cdv)) →
      Takes (cxD P w K mg base N qual st f cdv A outer s H E) (fun cls d _ H => E cls d H) →
      SSs (cxD P w K mg base N qual st f cdv A outer s H E) cl (fun cls d _ H => E cls d H) (defBody st) mb) : GD P w K mg base cl (k + 1) f x qual st kws ps (mDef n len mb):=by
  obtain ⟨fd,F⟩:=e
  exact ⟨fd,fn_s (funA_of F) S hn hl hbody,F⟩
theorem s_cal {X : Cx} {cl : CL} {W : WX} {e : Expr} {es : List Expr} {xs : MA} {k : Nat} {x qual : Str} {st : Stmt} {kws : List (Str × V)} {ps : List Str} {F : FD} {p pos : Pos} (G : GD X.prog X.w X.K X.mg X.base cl k (ga X.K x) x qual st kws ps F) (hr : RoomG k X.A) (tk : Takes X W) (hm : X.mg x = some (.ref (ga X.K x)))
    (ha : SA X cl W (e :: es) xs) (hb : ∀ (kV doc pm : Value) (an : Option Addr) (cdv ct : Value) (us : List Value),us.length = ps.length → bindArgs (PySem.W.fnOf x qual (defArgs st) (defBody st) (defScope st) .none kV doc pm an cdv ct) ⟨us,[]⟩ = pure (ps.zip us)) (hg : Gl X x:=by rfl)
    (hdb : (x == ("__debug__" : Str)) = false:=by decide) (he : starEach (e :: es) X.env = (false,eval e X.env) :: starEach es X.env:=by rfl) (hpl : (backTo pos (starEach es X.env)).any (·.1) = false:=by rfl) :
    SE X cl W (.Call (.Name x p) (e :: es) [] pos) (mCall F [] xs):=by
  obtain ⟨fd,G,D⟩:=G.ex
  exact s_call G hr tk hm D.kp (D.bindsN hb) .nil dfl_nil ha hg hdb he hpl
theorem ints_vr {K : PySem.W.Frag} {μ : Nat → Addr} {N : Nat} {H : Hp} : ∀ ns : List Int,VRs K μ N H (ns.map D.int) (ns.map V.int)
  | [] => by simp only [List.map,VRs]
  | n :: r => by
    simp only [List.map_cons,VRs]
    exact ⟨.int n,r.map V.int,rfl,by simp only [VR],ints_vr r⟩
end DV
namespace DV
open PySem PySem.Spec PyProof.Rows L2 He
def Onl (ts : List Addr) (H : Hp) : Prop:=∀ b,H b = none ∨ b ∈ ts ∧ H b = some (.tbl #[]) ∨ ∃ ob xs,H b = some (.frz ob (.lst xs))
theorem rol_of {ts : List Addr} {K : PySem.W.Frag} {H : Hp} {a : Addr} {vs : List V} (o : Onl ts H) (h : SqL K H a vs) : RoL K H a vs:=by
  rcases h with (h | ⟨u,h⟩) | h
  · rcases o a with z | ⟨_,z⟩ | ⟨ob,xs,z⟩ <;> (rw [h] at z; cases z)
  · exact .inl ⟨u,h⟩
  · exact .inr h
theorem roomG_caller {k : Nat} (r : Room k callerA) : RoomG k callerA:=⟨r,rfl⟩
def TabsIn (cl : CL) (cs : List (Addr × Addr)) : Prop:=∀ t ∈ cl.tabs,∃ q ∈ cs,t.1 = q.2
abbrev TBs (base : Heap) (mg : Str → Option Value) (cs : List (Addr × Addr)) : Prop:=∀ q ∈ cs,LamX.TabB base mg q.1 q.2
theorem called {P : Program} {w : World} {K : PySem.W.Frag} {mg mb : Str → Option Value} {cl : CL} {k : Nat} {fa a : Addr} {fd : FuncData} {x : Str} {F : FD} {t : Shared} {vs : List Value} {ns : List Int} {cs : List (Addr × Addr)}
    (KX : K.In t.heap) (hN : t.heap.Ns mainGlobals mg) (hB : t.heap.Ns builtinsNs mb) (hBB : ∀ x : Str,x ≠ "__name__" → mb x = bootBuiltins x) (noLim : t.heap.NoLimit) (hG : t.gens = #[])
    (tabs0 : ∀ q ∈ cs,t.heap.get? q.2 = some { cls:=.none,data:=.fields #[] }) (tabsK : ∀ q ∈ cs,K.lookup q.2 = none) (heads : ∀ q ∈ cs,PySem.W.CodeHd t.heap q.1 q.2) (cP : ∀ μ N H,cl.P K μ N H) (cT : TabsIn cl cs)
    (blt : ∃ (bm : Addr) (ob : Obj),mg "__builtins__" = some (.ref bm) ∧ bm ≠ builtinsNs ∧ t.heap.get? bm = some ob ∧ ob.cls = .type "module" ∧ ob.dict = some builtinsNs ∧ ob.data = .plain)
    (at_a : t.heap.get? a = some { cls:=.type "list",data:=.seq vs.toArray }) (areInts : IntsAre vs ns) (hl : ns.length ≤ 63) (room : Room k callerA)
    (fun_ : ∀ base : Heap,K.In base → base.Ns mainGlobals mg → TBs base mg cs → FnS P w K mg base cl k fa fd [x] F) (binds : ∀ (s : Shared) (u : Value),BindsTo s fd ⟨[u],[]⟩ [(x,u)])
    (law : ∃ st',F [.rol (ns.map D.int)] ⟨0,fun _ => none⟩ = .ok (.bl true) st') :
    codeAny (model P w) callerA (.call (.ref fa) ⟨[.ref a],[]⟩) (fun r s' => r = .ok (.ret (.bool true)) ∧ OldK t.heap s'.heap ∧ s'.os = t.os ∧ AllBare s'.gens) t:=by
  have rv:=vals_ints areInts
  have lz : ns.length ≤ sizeLine:=Nat.le_trans hl (by decide)
  have tabAt : ∀ b : Addr,b ∈ cs.map (·.2) → t.heap.get? b = some { cls:=.none,data:=.fields #[] }:=fun b m => by
    obtain ⟨q,hq,rfl⟩:=List.mem_map.mp m
    exact tabs0 q hq
  have aNo : a ∉ cs.map (·.2):=fun m => by
    have e:=tabAt a m
    rw [at_a] at e
    have e2 : Data.seq vs.toArray _ = Data.fields #[]:=congrArg Obj.data (Option.some.inj e)
    cases e2
  have main : ∀ H : Hp,Onl (cs.map (·.2)) H → (∀ q ∈ cs,H q.2 = some (.tbl #[])) → SqL K H a (ns.map V.int) → HOk P w H t.heap → (∀ b,H b ≠ none → b = a ∨ b ∈ cs.map (·.2)) → (H a ≠ none → K.lookup a = none) →
      codeAny (model P w) callerA (.call (.ref fa) ⟨[.ref a],[]⟩) (fun r s' => r = .ok (.ret (.bool true)) ∧ OldK t.heap s'.heap ∧ s'.os = t.os ∧ AllBare s'.gens) t:=by
    intro H only tabH sq hok onlyA notK
    have loose : ∀ {b : Addr} {o : Obj},t.heap.get? b = some o → (∀ ws m,o.data ≠ .seq ws m) → o.data ≠ .fields #[] → H b = none:=by
      intro b o e d1 d2
      cases q : H b with
      | none => rfl
      | some u =>
        rcases onlyA b (by rw [q]; simp) with z | z
        · subst z
          rw [at_a] at e
          cases e
          exact absurd rfl (d1 _ _)
        · rw [tabAt b z] at e
          cases e
          exact absurd rfl d2
    have free : ∀ {b : Addr} {o : Obj} {es : Array DictEntry} {ep : Nat},t.heap.get? b = some o → o.data = .dict es ep → H b = none:=by
      intro b o es ep e d
      refine loose e (fun ws m z => ?_) fun z => ?_ <;> (rw [d] at z; cases z)
    have ns_ : ∀ {b : Addr} {m : Str → Option Value},t.heap.Ns b m → (hidT t.heap H).Ns b m:=by
      intro b m n
      obtain ⟨o,es,ep,e,d,r⟩:=n
      exact ⟨o,es,ep,hidT_get e (free e d),d,r⟩
    have kb : K.In (hidT t.heap H):=by
      intro b o e
      refine hidT_get (KX b o e) ?_
      cases q : H b with
      | none => rfl
      | some u =>
        rcases onlyA b (by rw [q]; simp) with z | z
        · subst z
          rw [notK (by rw [q]; simp)] at e
          cases e
        · obtain ⟨y,hy,rfl⟩:=List.mem_map.mp z
          rw [tabsK y hy] at e
          cases e
    have md : Mod K mg (hidT t.heap H):=by
      obtain ⟨mc,l1,l2⟩:=noLim
      exact ⟨kb,ns_ hN,⟨mb,ns_ hB,hBB⟩,⟨mc,ns_ l1,l2⟩⟩
    have tb : TBs (hidT t.heap H) mg cs:=by
      intro y hy
      have ty:=tabs0 y hy
      refine ⟨?_,?_,fun z => ?_⟩
      · obtain ⟨co,us,file,tf,flags,tg,inF,text,tt,c1,r1,r2,r3,rest⟩:=heads y hy
        refine ⟨co,us,file,tf,flags,tg,inF,text,tt,hidT_get c1 (loose c1 (fun ws m z => ?_) fun z => ?_),r1,r2,r3,rest⟩
        · rw [r2] at z; cases z
        · rw [r2] at z; cases z; simp at r3
      · obtain ⟨bm,ob,b1,b2,b3,b4,b5,b6⟩:=blt
        have g1 : bm ≠ mainGlobals:=by
          rintro rfl
          obtain ⟨o,es,ep,e,d,_⟩:=hN
          rw [e] at b3
          cases b3
          rw [d] at b6
          cases b6
        have g2 : bm ≠ y.2:=by
          rintro rfl
          rw [ty] at b3
          cases b3
          cases b6
        refine ⟨bm,ob,b1,b2,g1,g2,hidT_get b3 (loose b3 (fun ws m z => ?_) fun z => ?_),b4,b5,b6⟩ <;> (rw [b6] at z; cases z)
      · obtain ⟨o,es,ep,e,d,_⟩:=hN
        rw [z,ty] at e
        cases e
        cases d
    have ev : Env0 P w K mg (hidT t.heap H) callerA [] t H:=⟨rfl,md,fun b o e => of_hidT e,Nat.le_of_eq (hidT_size _ _),trivial,fun b hb => absurd (show b ∈ ([] : List Addr) from hb) (by simp),hok,.of_eq hG⟩
    have sr : SR K cl (fun _ => 0) ⟨0,fun _ => none⟩ H:=⟨fun m n h => absurd h (Nat.not_lt_zero _),fun n h => absurd h (Nat.not_lt_zero _),fun _ _ => rfl,cP _ _ _,fun y hy => by
      obtain ⟨q,hq,e⟩:=cT y hy
      rw [e]
      exact NdefX.TabN.nil (tabH q hq)⟩
    have rd : VRs K (fun _ => 0) 0 H [.rol (ns.map D.int)] [.ref a]:=by
      simp only [VRs,VR]
      exact ⟨.ref a,[],rfl,⟨a,ns.map V.int,rfl,rol_of only sq,ints_vr ns⟩,rfl⟩
    have sp : spF K cl F [.ref a] H (fun v _ => v = .bl true) (fun _ _ _ => False):=by
      obtain ⟨st',law⟩:=law
      refine ⟨_,_,_,sr,rd,?_⟩
      rw [law]
      exact fun μ' H' v _ _ r => by simpa only [VR] using r
    refine codeAny_mono ((fun_ _ kb (ns_ hN) tb).run callerA [] t H ⟨[.ref a],[]⟩ [.ref a] [.ref a] _ _ (roomG_caller room) ev (binds t (.ref a)) (.cons rfl .nil) sp) fun r s' h => ?_
    cases r with
    | error er =>
      obtain ⟨a1,B,H',cls,d,h⟩:=h
      exact h.2.2.2.2.2.2.2.elim
    | ok fl =>
      cases fl with
      | ret u =>
        obtain ⟨v,H',os,bare,un,hok',r',q⟩:=h
        obtain rfl : v = .bl true:=q
        obtain rfl : u = Value.bool true:=r'
        have same : ∀ b o,b ∉ cs.map (·.2) → t.heap.get? b = some o → s'.heap.get? b = some o:=fun b o nb e => by
          cases q : H b with
          | none => exact un.keep b o e q (by intro z; exact absurd (show b ∈ ([] : List Addr) from z) (by simp)) (by simp)
          | some u =>
            rcases only b with z | ⟨z,_⟩ | ⟨ob,xs,z⟩
            · rw [q] at z; cases z
            · exact absurd z nb
            · obtain ⟨e1,_⟩:=hok b _ z
              obtain ⟨e2,_⟩:=hok' b _ (un.frzs b ob _ z)
              rw [e] at e1
              cases e1
              exact e2
        have grow : ∀ y ∈ cs,∃ more : Array Value,s'.heap.get? y.2 = some { cls:=.none,data:=.fields more }:=fun y hy => by
          obtain ⟨more,z⟩:=un.tbls y.2 #[] (tabH y hy)
          exact ⟨_,hok' y.2 _ z⟩
        refine ⟨rfl,⟨fun b o e => ?_,fun b o e => ?_⟩,os,bare⟩
        · by_cases m : b ∈ cs.map (·.2)
          · obtain ⟨y,hy,rfl⟩:=List.mem_map.mp m
            obtain ⟨more,gm⟩:=grow y hy
            rw [tabs0 y hy] at e
            cases e
            exact .inr (.inl ⟨((heads y hy).tab (tabs0 y hy)).isCodeTable,rfl,#[],more,rfl,by simpa using gm⟩)
          · exact .inl (same b o m e)
        · by_cases m : b ∈ cs.map (·.2)
          · obtain ⟨y,hy,rfl⟩:=List.mem_map.mp m
            obtain ⟨more,gm⟩:=grow y hy
            exact ⟨_,gm⟩
          · exact ⟨o,same b o m e⟩
      | next => exact h.elim
      | brk => exact h.elim
      | cont => exact h.elim
  have tabM : ∀ q ∈ cs,q.2 ∈ cs.map (·.2):=fun q hq => List.mem_map.mpr ⟨q,hq,rfl⟩
  cases hk : K.lookup a with
  | some o =>
    have e:=KX a o hk
    rw [at_a] at e
    cases e
    refine main (fun b => if b ∈ cs.map (·.2) then some (.tbl #[]) else none) (fun b => ?_) (fun q hq => if_pos (tabM q hq)) (.inr ⟨_,vs.toArray,_,hk,rfl,rfl,rfl,by rw [List.size_toArray,areInts.length]; exact lz,by simpa using rv⟩) (fun b u z => ?_) (fun b z => ?_) fun z => absurd (show (if a ∈ cs.map (·.2) then some (HO.tbl #[]) else none) = none from if_neg aNo) z
    · by_cases m : b ∈ cs.map (·.2)
      · exact .inr (.inl ⟨m,if_pos m⟩)
      · exact .inl (if_neg m)
    · by_cases m : b ∈ cs.map (·.2)
      · cases (if_pos m).symm.trans z
        exact tabAt b m
      · exact nomatch ((if_neg m).symm.trans z)
    · by_cases m : b ∈ cs.map (·.2)
      · exact .inr m
      · exact absurd (if_neg m) z
  | none =>
    refine main (fun b => if b = a then some (.frz { cls:=.type "list",data:=.seq vs.toArray } (.lst (ns.map V.int))) else if b ∈ cs.map (·.2) then some (.tbl #[]) else none) (fun b => ?_) (fun q hq => (if_neg (fun z => aNo (by rw [← z]; exact tabM q hq))).trans (if_pos (tabM q hq))) (.inl (.inr ⟨_,if_pos rfl⟩)) (fun b u z => ?_) (fun b z => ?_) fun _ => hk
    · by_cases y : b = a
      · exact .inr (.inr ⟨_,_,if_pos y⟩)
      · by_cases m : b ∈ cs.map (·.2)
        · exact .inr (.inl ⟨m,(if_neg y).trans (if_pos m)⟩)
        · exact .inl ((if_neg y).trans (if_neg m))
    · by_cases y : b = a
      · have z':=(if_pos y).symm.trans z
        cases z'
        subst y
        exact ⟨at_a,by rw [List.length_map]; exact lz,vs,_,rv,at_a⟩
      · have z1:=(if_neg y).symm.trans z
        by_cases m : b ∈ cs.map (·.2)
        · cases (if_pos m).symm.trans z1
          exact tabAt b m
        · exact nomatch ((if_neg m).symm.trans z1)
    · by_cases y : b = a
      · exact .inl y
      · by_cases m : b ∈ cs.map (·.2)
        · exact .inr m
        · exact absurd ((if_neg y).trans (if_neg m)) z
theorem walkG {l : PySem.W.OpenLaw} {k : Nat} {q : Program} {loose : List Str} {XP : (Str → Option Value) → Heap → Prop} {YP : World → Heap → Prop} {d : DefRec} {x : Str} {F : FD} (hn : l.most = some 63) (hdf : d.params.defaults = []) (room : Room k callerA)
    (G : ∀ (w : World) (mg : Str → Option Value) (fa : Addr) (h : Heap),YP w h → h.Ns mainGlobals mg → mg d.name = some (.ref fa) →
      ∃ (K : PySem.W.Frag) (cl : CL) (fd : FuncData) (cs : List (Addr × Addr)),K.In h ∧ (∀ y ∈ cs,h.get? y.2 = some { cls:=.none,data:=.fields #[] }) ∧ (∀ y ∈ cs,K.lookup y.2 = none) ∧ (∀ y ∈ cs,PySem.W.CodeHd h y.1 y.2) ∧ (∀ μ N H,cl.P K μ N H) ∧ TabsIn cl cs ∧
        (∀ (s : Shared) (u : Value),BindsTo s fd ⟨[u],[]⟩ [(x,u)]) ∧ ∀ base : Heap,K.In base → base.Ns mainGlobals mg → TBs base mg cs → FnS l.prog w K mg base cl k fa fd [x] F)
    (law : ∀ ns : List Int,ns.length ≤ 63 → ∃ st',F [.rol (ns.map D.int)] ⟨0,fun _ => none⟩ = .ok (.bl true) st') : PySem.W.WalkO q loose XP YP l.row.toRowW d [] (fun f vs => PySem.call f vs):=by
  refine Att.attach_call hn hdf fun w s₀ t mg mb fa o pm cd doc a vs ns Gr Y ho hd hcd hmg hobj hints hlen hg => ?_
  obtain ⟨K,cl,fd,cs,KX,c1,c2,c3,c4,c5,hb,hF⟩:=G w mg fa _ Y Gr.T.g hmg
  exact called KX Gr.T.g Gr.T.b Gr.T.builtins Gr.T.nolimit hg c1 c2 c3 c4 c5 Gr.T.bmain hobj hints hlen room hF hb (law ns hlen)
end DV
namespace DV
open PySem PySem.Spec PyProof.Rows L2 He
section
variable {X : Cx} {cl : CL} {W : WX} {k n c : Nat} {f : Addr} {fd : FuncData} {ps ks : List Str} {F : FD} {name : Str} {apos pos : Pos} {o e : Expr} {es : List Expr} {kws : List Keyword} {mo : ME} {xs ys : MA} {ix : List Src} {dds : List D} {dvs : List V}
end
end DV
namespace DV
open PySem PySem.Spec PyProof.Rows L2
def insI (x : Int) : List Int → List Int
  | [] => [x]
  | y :: r => if x < y then x :: y :: r else if x = y then y :: r else y :: insI x r
def sddI (xs : List Int) : List Int:=xs.foldr insI []
theorem mem_insI {x k : Int} : ∀ {l : List Int},k ∈ insI x l ↔ k = x ∨ k ∈ l
  | [] => by simp [insI]
  | y :: r => by
    unfold insI
    split
    · simp
    · split
      · rename_i h
        subst h
        simp
      · simp only [List.mem_cons,mem_insI (l:=r)]
        constructor
        · rintro (h | h | h)
          · exact .inr (.inl h)
          · exact .inl h
          · exact .inr (.inr h)
        · rintro (h | h | h)
          · exact .inr (.inl h)
          · exact .inl h
          · exact .inr (.inr h)
theorem up_insI {x : Int} : ∀ {l : List Int},l.Pairwise (· < ·) → (insI x l).Pairwise (· < ·)
  | [],_ => by simp [insI]
  | y :: r,h => by
    have h':=List.pairwise_cons.mp h
    unfold insI
    split
    · rename_i q
      exact List.pairwise_cons.mpr ⟨fun z hz => by
        rcases List.mem_cons.mp hz with e | e
        · rw [e]; exact q
        · exact Int.lt_trans q (h'.1 z e),h⟩
    · split
      · exact h
      · refine List.pairwise_cons.mpr ⟨fun z hz => ?_,up_insI h'.2⟩
        rcases mem_insI.mp hz with e | e
        · rw [e]; omega
        · exact h'.1 z e
theorem mem_sddI {k : Int} : ∀ {xs : List Int},k ∈ sddI xs ↔ k ∈ xs
  | [] => by simp [sddI]
  | x :: xs => by
    have ih:=mem_sddI (k:=k) (xs:=xs)
    show k ∈ insI x (sddI xs) ↔ _
    rw [mem_insI,ih,List.mem_cons]
theorem up_sddI : ∀ (xs : List Int),(sddI xs).Pairwise (· < ·)
  | [] => List.Pairwise.nil
  | x :: xs => up_insI (up_sddI xs)
section
variable {prog : Program} {w : World} {A : Around} {E : Value → Shared → Prop} {s : Shared}
set_option maxHeartbeats 16000000 in
end
section
variable {X : Cx} {cl : CL} {W : WX}
end
end DV
namespace DV
open PySem PySem.Spec PyProof.Rows L2
section
variable {X : Cx} {cl : CL} {W : WX} {k c : Nat} {f : Addr} {fd : FuncData} {ps : List Str} {F : FD} {e : Expr} {m : ME} {p pos : Pos}
end
end DV
namespace HT
open PySem PySem.Spec PyProof.Rows
section
variable {prog : Program} {w : World} {A : Around} {E : Value → Shared → Prop} {s : Shared}
end
end HT
namespace DV
open PySem PySem.Spec PyProof.Rows L2
section
variable {X : Cx} {cl : CL} {W : WX}
end
end DV
namespace DV
open PySem PySem.Spec PyProof.Rows L2 NdefX
structure PP where
  P : PySem.W.Frag → (Nat → Addr) → Nat → Hp → Prop
  up : ∀ {K : PySem.W.Frag} {μ : Nat → Addr} {N : Nat} {H : Hp} {μ' : Nat → Addr} {N' : Nat} {H' : Hp},Ev0 K μ N H μ' N' H' → P K μ N H → P K μ' N' H'
def PP.all : PP:=⟨fun _ _ _ _ => True,fun _ _ => trivial⟩
abbrev CL.of (a : Nat → Addr) (T : List NTab) (p : PP) : CL:=⟨a,p.P,p.up,T⟩
section
variable {K : PySem.W.Frag} {a : Nat → Addr} {T : List NTab} {p q : PP} {μ μ1 : Nat → Addr} {N N1 : Nat} {H H1 : Hp} {st : Store}
end
theorem func_not {f : Addr} {F : NF} : NotD (fun h => ∃ (od : Option Addr) (sl : Array (Option Value)) (doc pm ctv : Value),h.get? f = some (⟨.type "function",od,.func (F.fd doc pm ctv),sl⟩ : Obj)):=fun h ⟨_,_,_,_,_,e⟩ => ⟨f,_,e,fun es ep z => by cases z⟩
def ppF (f : Addr) (F : NF) : PP:=⟨fun _ _ _ H => H f = some (FnO f F) ∧ H F.c = some (LamX.CodeO F.c F.qual),fun e h => ⟨e.ex _ _ h.1 func_not,e.ex _ _ h.2 code_not⟩⟩
def ppW (ws : List D) (wv : List V) : PP:=⟨fun K μ N H => VRs K μ N H ws wv,fun e h => h.ev0 e⟩
open Classical in
section
variable {X : Cx} {a : Nat → Addr} {T : List NTab} {p : PP} {W : WX}
end
structure NfS (P : Program) (w : World) (K : PySem.W.Frag) (mg : Str → Option Value) (base : Heap) (a : Nat → Addr) (T : List NTab) (k : Nat) (f : Addr) (F : NF) (ps fr : List Str) (Fn : FD) : Prop where
  len : ∀ ds st,Fn ds st ≠ .bad → ds.length = ps.length + fr.length
  run : ∀ (p : PP) (A : Around) (outer : List Env) (s : Shared) (H : Hp) (us : List Value) (vs wv : List V) (Q : VK) (E : XK),RoomG k A → Env0 P w K mg base A outer s H → H f = some (FnO f F) → H F.c = some (LamX.CodeO F.c F.qual) →
    CellsAt F.cl fr (wv.map some) s.heap H → Vals vs us → spF K (CL.of a T p) Fn (vs ++ wv) H Q E → codeAny (model P w) A (.call (.ref f) ⟨us,[]⟩) (CR (L2.CX P w) outer P w H s Q E) s
section
variable {P : Program} {w : World} {K : PySem.W.Frag} {mg : Str → Option Value} {base : Heap} {a : Nat → Addr} {T : List NTab}
end
structure CloP (X : Cx) (cl : CL) (k : Nat) (f : Addr) (n : Nat) (Fd : FD) : Prop where
  len : ∀ ds st,Fd ds st ≠ .bad → ds.length = n
  at_ : ∀ μ N H,cl.P X.K μ N H → ∃ F,H f = some (FnO f F)
  run : ∀ (pins : List (Addr × Obj)) (σ : L2.St) (H : Hp) (s : Shared) (us : List Value) (vs : List V) (Q : VK) (E : XK),RoomG k X.A → Inv X pins σ H s → Vals vs us → spF X.K cl Fd vs H Q E →
    codeAny (model X.prog X.w) X.A (.call (.ref f) ⟨us,[]⟩) (CR (L2.CX X.prog X.w) X.stack X.prog X.w H s Q E) s
theorem CloP.of {X : Cx} {a : Nat → Addr} {T : List NTab} {p : PP} {k : Nat} {f : Addr} {F : NF} {ps fr : List Str} {Fn : FD} {ws : List D} {wv : List V} (G : NfS X.prog X.w X.K X.mg X.base a T k f F ps fr Fn) (hp : ∀ μ N H,p.P X.K μ N H → (ppF f F).P X.K μ N H ∧ (ppW ws wv).P X.K μ N H) (hw : wv.length = fr.length)
    (C : CellsAt F.cl fr (wv.map some) X.s_0.heap X.H_0) (nf : ∀ y c,F.cl.lookup y = some c → c ∉ X.fs) (hx : X.ex = []) : CloP X (CL.of a T p) k f ps.length (fun ds st => if ws.length = fr.length then Fn (ds ++ ws) st else .bad) where
  len:=fun ds st h => by
    by_cases z : ws.length = fr.length
    · simp only [z,if_true] at h
      have:=G.len _ _ h
      rw [List.length_append,z] at this
      omega
    · simp only [z,if_false] at h
      exact absurd rfl h
  at_:=fun μ N H h => ⟨F,(hp μ N H h).1.1⟩
  run:=fun pins σ H s us vs Q E hr I r ⟨μ,st,ds,S,rv,h⟩ => by
    by_cases z : ws.length = fr.length
    · simp only [z,if_true] at h
      have hp1:=hp _ _ _ S.pp
      exact G.run p X.A X.stack s H us vs wv Q E hr I.env0 hp1.1.1 hp1.1.2 (C.later nf (fun y c _ => by rw [hx]; simp) I) r ⟨μ,st,ds ++ ws,S,rv.append hp1.2,h⟩
    · simp only [z,if_false] at h
      exact h.elim
section
variable {X : Cx} {cl : CL} {W : WX} {e : Expr} {es : List Expr} {xs : MA} {k j n i : Nat} {f : Addr} {Fd : FD} {x : Str} {p pos : Pos}
end
end DV
namespace DV
open PySem PySem.Spec PyProof.Rows L2 NdefX
theorem NfS.mono {P : Program} {w : World} {K : PySem.W.Frag} {mg : Str → Option Value} {base : Heap} {a : Nat → Addr} {T : List NTab} {j k : Nat} {f : Addr} {F : NF} {ps fr : List Str} {Fn : FD} (G : NfS P w K mg base a T j f F ps fr Fn) (h : j ≤ k) : NfS P w K mg base a T k f F ps fr Fn:=
  ⟨G.len,fun p A outer s H us vs wv Q E hr => G.run p A outer s H us vs wv Q E (hr.mono h)⟩
def fdC (Fn : FD) (ws : List D) : FD:=fun ds st => Fn (ds ++ ws) st
structure FnH (P : Program) (w : World) (K : PySem.W.Frag) (mg : Str → Option Value) (base : Heap) (a : Nat → Addr) (T : List NTab) (k j : Nat) (g : Addr) (fd : FuncData) (ps : List Str) (n : Nat) (G : Addr → FD → FD) : Prop where
  len : ∀ f Fd ds st,G f Fd ds st ≠ .bad → ds.length = ps.length
  run : ∀ (p : PP) (f : Addr) (F : NF) (ps' fr : List Str) (Fn : FD) (ws : List D) (wv : List V),NfS P w K mg base a T j f F ps' fr Fn → ps'.length = n → (∀ μ N H,p.P K μ N H → (ppF f F).P K μ N H ∧ (ppW ws wv).P K μ N H) → wv.length = fr.length → ws.length = fr.length →
    ∀ (A : Around) (outer : List Env) (s : Shared) (H : Hp) (args : Args) (us : List Value) (vs : List V) (Q : VK) (E : XK),RoomG k A → Env0 P w K mg base A outer s H → CellsAt F.cl fr (wv.map some) s.heap H → (∀ y c,F.cl.lookup y = some c → c ∉ frs outer) →
      BindsTo s fd args (ps.zip us) → Vals vs us → spF K (CL.of a T p) (G f (fdC Fn ws)) vs H Q E → codeAny (model P w) A (.call (.ref g) args) (CR (L2.CX P w) outer P w H s Q E) s
section
variable {P : Program} {w : World} {K : PySem.W.Frag} {mg : Str → Option Value} {base : Heap} {a : Nat → Addr} {T : List NTab}
end
def slots (l : Loc) : List Nat → Option (List D)
  | [] => some []
  | j :: r => match l[j]? with
    | some (some d) => (match slots l r with
      | some ds => some (d :: ds)
      | none => none)
    | _ => none
section
variable {X : Cx} {a : Nat → Addr} {T : List NTab} {p : PP} {W : WX} {e : Expr} {es : List Expr} {xs : MA} {k j n q : Nat} {f g : Addr} {fd : FuncData} {ps ps' fr : List Str} {G : Addr → FD → FD} {Fn : FD} {F : NF} {js : List Nat} {x : Str} {sc : Scope} {pp pos : Pos}
end
end DV
namespace DV
open PySem PySem.Spec PyProof.Rows L2 NdefX He
def csOf (K : PySem.W.Frag) (tf : List Defn) : List (Addr × Addr):=tf.map (cT K)
section
variable {P : Program} {w : World} {K : PySem.W.Frag} {mg : Str → Option Value} {base : Heap} {cl : CL}
end
structure GH (P : Program) (w : World) (K : PySem.W.Frag) (mg : Str → Option Value) (base : Heap) (a : Nat → Addr) (T : List NTab) (k j : Nat) (f : Addr) (x qual : Str) (st : Stmt) (ps : List Str) (n : Nat) (G : Addr → FD → FD) : Prop where
  ex : ∃ fd,FnH P w K mg base a T k j f fd ps n G ∧ FunD K x qual (defArgs st) (defBody st) (defScope st) [] [] f fd
end DV
namespace DV
open PySem PySem.Spec PyProof.Rows L2
section
variable {prog : Program} {w : World} {A : Around} {E : Value → Shared → Prop} {s : Shared} {z TI TO i1 i2 : Addr} {fp1 fp2 : List Addr} {n1 n2 i : Nat} {P1 P2 : Nat → Value → Prop} {St1 St2 : Nat → Heap → Prop} {a1 a2 : Value}
structure EnZ (e z TI TO i1 i2 : Addr) (fp1 fp2 : List Addr) : Prop where
  z : e ≠ z
  TI : e ≠ TI
  TO : e ≠ TO
  i1 : e ≠ i1
  i2 : e ≠ i2
  f1 : e ∉ fp1
  f2 : e ∉ fp2
end
end DV
namespace DV
open PySem PySem.Spec PyProof.Rows L2
set_option maxHeartbeats 8000000 in
section
variable {X : Cx} {cl : CL} {W : WX}
end
end DV
namespace DV
open PySem PySem.Spec PyProof.Rows L2
section
variable {X : Cx} {x1 x2 x3 n : Str} {c1 c2 c3 : Value} {i : Nat} {body suite : List Stmt} {b₀ : Stmt} {p1 p2 p3 np pos pos' : Pos} {kt : Nat} {tb : WX → TS} {ts : Addr → Value → Option Addr → TS}
end
def ppX (d : Option Addr) (fs : List (Str × D)) : PP:=⟨fun K μ N H => (fs = [] ∧ d = none) ∨ ∃ a ps,d = some a ∧ H a = some (.xd ps) ∧ ps.map (·.1) = fs.map (·.1) ∧ VRs K μ N H (fs.map (·.2)) (ps.map (·.2)),fun e h => by
  rcases h with h | ⟨a,ps,h1,h2,h3,h4⟩
  · exact .inl h
  · exact .inr ⟨a,ps,h1,e.xd _ _ h2,h3,h4.ev0 e⟩⟩
def RS.un (i : Nat) : RS → RS
  | .nx l st => .nx (l.set i none) st
  | .bk l st => .bk (l.set i none) st
  | .ct l st => .ct (l.set i none) st
  | .rt d st => .rt d st
  | _ => .bad
section
variable {X : Cx} {aT : Nat → Addr} {T : List NdefX.NTab} {p : PP} {W : WX} {x1 x2 x3 n : Str} {c1 c2 c3 : Value} {i : Nat} {body suite : List Stmt} {b₀ : Stmt} {p1 p2 p3 np pos pos' : Pos} {kt : Nat} {mb : MS} {m : Nat → List (Str × D) → Addr → MS} {cs : List Nat}
end
structure ExcE (K : PySem.W.Frag) (D : Addr) : Prop where
  cl : (PySem.W.clsIn K D).isSome = true
  hg : PySem.W.findIn K (.ref D) "__getattribute__" = some (some (.builtin "BaseException.__getattribute__"))
  hk : PySem.W.findIn K (.ref D) "__getattr__" = some none
  hs : PySem.W.subIn K (.ref D) (.type "BaseException") = some true
  hd : PySem.W.hasDictIn K D = true
  ha : PySem.W.findIn K (.ref D) "__class__" = some (some (.builtin "object.__class__"))
  hn : PySem.W.specialIn K (.builtin "object.__class__") "__get__" = some (some (.builtin "getset_descriptor.__get__"))
  ht : PySem.W.takesIn K (.builtin "object.__class__") = some true
  hm : PySem.W.mroIn K D (.type "object") = some true
section
variable {X : Cx} {aT : Nat → Addr} {T : List NdefX.NTab} {p : PP} {W : WX} {a : Addr} {oe : Obj} {c : Nat} {d : Option Addr} {fs : List (Str × D)}
end
section
variable {X : Cx} {aT : Nat → Addr} {T : List NdefX.NTab} {p : PP} {W : WX} {a : Addr} {oe : Obj} {c : Nat} {d : Option Addr} {fs : List (Str × D)} {pn : List (Addr × Obj)}
end
structure FnE (P : Program) (w : World) (K : PySem.W.Frag) (mg : Str → Option Value) (base : Heap) (aT : Nat → Addr) (T : List NdefX.NTab) (cs : List Nat) (k : Nat) (f : Addr) (fd : FuncData) (y : Str) (G : Nat → Addr → FD) : Prop where
  run : ∀ (c : Nat),c ∈ cs → ∀ (p : PP) (A : Around) (outer : List Env) (s : Shared) (H : Hp) (args : Args) (Q : VK) (E : XK) (a : Addr) (oe : Obj) (d : Option Addr) (fs : List (Str × D)),L2H.RoomH k A → L2H.PinOk outer H s (a,oe) → Zc (.ref (aT c)) d oe → (∃ vs,oe.data = .fields vs) →
    (∀ μ N H,p.P K μ N H → (ppX d fs).P K μ N H) → Env0 P w K mg base A outer s H → BindsTo s fd args [(y,.ref a)] → spF K (CL.of aT T p) (G c a) [.ref a] H Q E → codeAny (model P w) A (.call (.ref f) args) (CR (L2.CX P w) outer P w H s Q E) s
section
variable {P : Program} {w : World} {K : PySem.W.Frag} {mg : Str → Option Value} {base : Heap} {aT : Nat → Addr} {T : List NdefX.NTab} {cs : List Nat}
end
section
variable {X : Cx} {aT : Nat → Addr} {T : List NdefX.NTab} {p : PP} {a : Addr} {oe : Obj} {c : Nat} {d : Option Addr} {fs : List (Str × D)} {pn : List (Addr × Obj)} {cs : List Nat} {k j : Nat} {f : Addr} {fd : FuncData} {y : Str} {G : Nat → Addr → FD}
end
end DV
namespace DV
open PySem PySem.Spec PyProof.Rows L2 NdefX LamX
def mAct (i : Nat) (f : Addr) (Fd : Store → Res D) : ME:=fun l st => match l[i]? with
  | some (some (.cst (.ref g))) => if g = f then Fd st else .bad
  | _ => .bad
structure CloL (X : Cx) (cl : CL) (i : Nat) (y : Str) (f : Addr) (Fd : Store → Res D) : Prop where
  call : ∀ (pn : List (Addr × Obj)) (xe : Value → Shared → Prop) (W : WX) (p1 p2 : Pos),Takes (X.tr pn xe) W → SE (X.tr pn xe) cl W (.Call (.Name y p1) [] [] p2) (mAct i f Fd)
section
variable {X : Cx} {pins : List (Addr × Obj)} {σ : L2.St} {H : Hp} {s : Shared} {aT : Nat → Addr} {T : List NTab} {p : PP}
end
structure FnL (P : Program) (w : World) (K : PySem.W.Frag) (mg : Str → Option Value) (base : Heap) (aT : Nat → Addr) (T : List NTab) (k : Nat) (N : List Str) (qual : Str) (st : Stmt) (g : Addr) (fd : FuncData) (y : Str) (G : Addr → (Store → Res D) → FD) : Prop where
  run : ∀ (p : PP) (f : Addr) (Fd : Store → Res D) (A : Around) (outer : List Env) (s : Shared) (H : Hp) (args : Args) (Q : VK) (E : XK),RoomG k A → Env0 P w K mg base A outer s H → BindsTo s fd args [(y,.ref f)] →
    (∀ cdv,CloL (cxD P w K mg base N qual st g cdv A outer s H E) (CL.of aT T p) 0 y f Fd) → spF K (CL.of aT T p) (G f Fd) [.ref f] H Q E → codeAny (model P w) A (.call (.ref g) args) (CR (L2.CX P w) outer P w H s Q E) s
section
variable {P : Program} {w : World} {K : PySem.W.Frag} {mg : Str → Option Value} {base : Heap} {aT : Nat → Addr} {T : List NTab}
end
theorem FnL.mono {P : Program} {w : World} {K : PySem.W.Frag} {mg : Str → Option Value} {base : Heap} {aT : Nat → Addr} {T : List NTab} {j k : Nat} {N : List Str} {qual : Str} {st : Stmt} {g : Addr} {fd : FuncData} {y : Str} {G : Addr → (Store → Res D) → FD} (F : FnL P w K mg base aT T j N qual st g fd y G) (h : j ≤ k) : FnL P w K mg base aT T k N qual st g fd y G:=
  ⟨fun p f Fd A outer s H args Q E hr => F.run p f Fd A outer s H args Q E (hr.mono h)⟩
open Classical in
section
variable {X : Cx} {aT : Nat → Addr} {T : List NTab} {p : PP} {W : WX}
end
end DV
namespace DV
open PySem PySem.Spec PyProof.Rows L2 He
theorem refsT_cases {tl : List Value} : ∀ l : List Value,refsT tl l = true → (∃ c r,l = .ref c :: r ∧ refsT tl r = true) ∨ l = tl
  | [],e => .inr (of_decide_eq_true e)
  | .ref c :: r,e => by
    unfold refsT at e
    rcases Bool.or_eq_true_iff.mp e with e | e
    · exact .inr (of_decide_eq_true e)
    · exact .inl ⟨c,r,rfl,e⟩
  | .none :: _,e => .inr (of_decide_eq_true e)
  | .ellipsis :: _,e => .inr (of_decide_eq_true e)
  | .notImplemented :: _,e => .inr (of_decide_eq_true e)
  | .bool _ :: _,e => .inr (of_decide_eq_true e)
  | .int _ _ :: _,e => .inr (of_decide_eq_true e)
  | .float _ _ :: _,e => .inr (of_decide_eq_true e)
  | .str _ _ :: _,e => .inr (of_decide_eq_true e)
  | .bytes _ _ :: _,e => .inr (of_decide_eq_true e)
  | .type _ :: _,e => .inr (of_decide_eq_true e)
  | .builtin _ :: _,e => .inr (of_decide_eq_true e)
structure BaseT (tl : List Value) (B newId initId : String) : Prop where
  base : ExcBaseFacts B newId initId tl
  pass : ∀ self : Value,refuseLoop self "__setattr__" tl = pure ()
  obj : tl.contains (.type "object") = true
theorem baseV : BaseT tlV "ValueError" "ValueError.__new__" "ValueError.__init__":=⟨F.excBase_ValueError,fun s => F.store_ValueError.passes s,by decide +kernel⟩
theorem baseL : BaseT tlL "LookupError" "LookupError.__new__" "LookupError.__init__":=⟨F.excBase_LookupError,fun s => F.store_LookupError.passes s,by decide +kernel⟩
theorem baseA : BaseT tlA "ArithmeticError" "ArithmeticError.__new__" "ArithmeticError.__init__":=⟨F.excBase_ArithmeticError,fun s => F.store_ArithmeticError.passes s,by decide +kernel⟩
section
variable {tl : List Value} {B newId initId : String}
theorem refsT_pass (b : BaseT tl B newId initId) (self : Value) : ∀ l : List Value,refsT tl l = true → refuseLoop self "__setattr__" l = pure ():=by
  intro l
  induction l with
  | nil =>
    intro e
    rcases refsT_cases [] e with ⟨c,r',q,h⟩ | q
    · cases q
    · rw [q]; exact b.pass self
  | cons a r ih =>
    intro e
    rcases refsT_cases (a :: r) e with ⟨c,r',q,h⟩ | q
    · obtain ⟨rfl,rfl⟩:=List.cons.inj q
      rw [refuseLoop_ref]; exact ih h
    · rw [q]; exact b.pass self
theorem refsT_contains (X : String) : ∀ l : List Value,refsT tl l = true → l.contains (.type X) = tl.contains (.type X):=by
  intro l
  induction l with
  | nil =>
    intro e
    rcases refsT_cases [] e with ⟨c,r',q,h⟩ | q
    · cases q
    · rw [q]
  | cons a r ih =>
    intro e
    rcases refsT_cases (a :: r) e with ⟨c,r',q,h⟩ | q
    · obtain ⟨rfl,rfl⟩:=List.cons.inj q
      rw [List.contains_cons,ih h]; rfl
    · rw [q]
end
structure OexG (K : PySem.W.Frag) (C : Addr) : Prop where
  cls : ∃ nm q N bs bm sn sub ab col dd k0 k1 k2 k3 k5 tl B newId initId,BaseT tl B newId initId ∧ K.lookup C = some (excClassObj nm q C N bs bm true sn sub ab col dd k0 k1 k2 k3 k5 newId) ∧ refsT tl bm = true
  sa : PySem.W.findIn K (.ref C) "__setattr__" = some (some (.builtin "object.__setattr__"))
  exC : PySem.W.subIn K (.ref C) (.type "BaseException") = some true
  tyC : PySem.W.typeIn K (.ref C) = some (.type "type")
  kC : PySem.W.keepIn K (.ref C) = true
theorem excB_ok {K : PySem.W.Frag} {C : Addr} (h : excB K C = true) : ∃ nm q N bs bm sn sub ab col dd k0 k1 k2 k3 k5 tl B newId initId,BaseT tl B newId initId ∧ K.lookup C = some (excClassObj nm q C N bs bm true sn sub ab col dd k0 k1 k2 k3 k5 newId) ∧ refsT tl bm = true:=by
  unfold excB at h
  split at h
  · rename_i dd cd sl ho
    split at h
    · rename_i C' bm k0 k1 k2 k3 n k5 hm hs
      simp only [Bool.and_eq_true,Bool.or_eq_true,beq_iff_eq,Bool.not_eq_true',decide_eq_true_eq] at h
      obtain ⟨rfl,hdel,hh,ht⟩:=h
      obtain ⟨nm,bs,mro,ns,qn,hd,sn,sub,ab,col,del⟩:=cd
      dsimp only at hm hdel hh
      subst hm hdel hh
      have hsl : sl = #[k0,k1,k2,k3,some (.builtin n),k5]:=by
        obtain ⟨l⟩:=sl
        simp only at hs
        rw [hs]
      subst hsl
      rcases ht with (⟨rfl,ht⟩ | ⟨rfl,ht⟩) | ⟨rfl,ht⟩
      · exact ⟨nm,qn,ns,bs,bm,sn,sub,ab,col,dd,k0,k1,k2,k3,k5,_,_,_,_,baseV,ho,ht⟩
      · exact ⟨nm,qn,ns,bs,bm,sn,sub,ab,col,dd,k0,k1,k2,k3,k5,_,_,_,_,baseL,ho,ht⟩
      · exact ⟨nm,qn,ns,bs,bm,sn,sub,ab,col,dd,k0,k1,k2,k3,k5,_,_,_,_,baseA,ho,ht⟩
    · cases h
  · cases h
theorem xc_ok {K : PySem.W.Frag} {x : Str} (h : xcB x K = true) : OexG K (ga K x) ∧ ExcE K (ga K x):=by
  obtain ⟨h1,h⟩:=ba h
  obtain ⟨h2,h⟩:=ba h
  obtain ⟨h3,h⟩:=ba h
  obtain ⟨h4,h⟩:=ba h
  obtain ⟨h5,h⟩:=ba h
  obtain ⟨h6,h⟩:=ba h
  obtain ⟨h7,h⟩:=ba h
  obtain ⟨h8,h⟩:=ba h
  obtain ⟨h9,h⟩:=ba h
  obtain ⟨h10,h⟩:=ba h
  obtain ⟨h11,h12⟩:=ba h
  refine ⟨⟨excB_ok h1,eqO_ok h2,of_decide_eq_true h3,of_decide_eq_true h4,h12⟩,⟨?_,eqO_ok h5,eqO_ok h6,of_decide_eq_true h3,h7,eqO_ok h8,eqO_ok h9,of_decide_eq_true h10,of_decide_eq_true h11⟩⟩
  obtain ⟨nm,q,N,bs,bm,sn,sub,ab,col,dd,k0,k1,k2,k3,k5,tl,B,newId,initId,_,hC,_⟩:=excB_ok h1
  unfold PySem.W.clsIn
  rw [hC]
  rfl
theorem xi_ok {K : PySem.W.Frag} {x f : Str} (h : xiB x f K = true) : PySem.W.findIn K (.ref (ga K x)) "__init__" = some (some (.ref (ma K (ga K x) "__init__"))) ∧ PySem.W.typeIn K (.ref (ma K (ga K x) "__init__")) = some (.type "function") ∧ PySem.W.findIn K (.ref (ga K x)) f = some none:=
  ⟨eqO_ok (ba h).1,of_decide_eq_true (ba (ba h).2).1,eqO_ok (ba (ba h).2).2⟩
theorem xa_ok {K : PySem.W.Frag} {x : Str} (h : xaB x K = true) : PySem.W.findIn K (.ref (ga K x)) "index" = some none ∧ PySem.W.findIn K (.ref (ga K x)) "given" = some none ∧ PySem.W.findIn K (.ref (ga K x)) "limit" = some none:=
  ⟨eqO_ok (ba h).1,eqO_ok (ba (ba h).2).1,eqO_ok (ba (ba h).2).2⟩
section
open Builtin Builtin.ObjectAttr
variable {prog : Program} {w : World} {A : Around} {E : Value → Shared → Prop} {R : Result → Shared → Prop} {hp : Heap} {g : Array GenState} {d : Drawn} {t : Nat} {os : OsState} {tl : List Value} {B newId initId : String}
theorem exc_osaG {K : PySem.W.Frag} {name : Str} {tk : Tok} {v : Value} {x C : Addr} {fv : Array Value} {cd : ClassData} (b : BaseT tl B newId initId)
    (X : K.In hp) (hx : hp.get? x = some { cls:=.ref C,data:=.fields fv }) (hcd : PySem.W.clsIn K C = some cd) (hm : refsT tl cd.mro = true) (ne : cd.mro.isEmpty = false) (hh : cd.hasDict = true) (ha : PySem.W.findIn K (.ref C) name = some none)
    (hq : ∀ h' tk' dx,(∀ b o,b ≠ x → hp.get? b = some o → h'.get? b = some o) → hp.objs.size ≤ dx → dx ≠ x → h'.get? x = some { cls:=.ref C,dict:=some dx,data:=.fields fv } →
      h'.Ns1 dx (fun y => if y = name then some v else none) → R (.ok (.ret .none)) ⟨h',g,d,tk',os⟩) :
    codeAny (model prog w) A (.call (.builtin "object.__setattr__") ⟨[.ref x,.str name tk,v],[]⟩) R ⟨hp,g,d,t,os⟩:=by
  have I : PySem.W.InstAt hp x { cls:=.ref C,data:=.fields fv } C none:=⟨hx,rfl,rfl,trivial⟩
  have SF:=F.store_object
  have hob : cd.mro.contains (.type "object") = true:=(refsT_contains "object" _ hm).trans b.obj
  have hxs : x ≠ hp.objs.size:=Nat.ne_of_lt (Heap.lt_size hx)
  have sub : PySem.W.Looks (model prog w) hp (isInstance (.ref x) (.type "object")) true:=I.type.andThen (PySem.W.looks_mroIn X (by unfold PySem.W.mroIn; rw [hcd,Option.bind_some,if_neg (by rw [ne]; decide),hob]))
  refine codeAny_call_builtin SF.slot.plain SF.entry (@PySem.W.check_slot (model prog w) _ _ ⟨hp,g,d,t,os⟩ "object.__setattr__" "object" "__setattr__" (.ref x) [.str name tk,v] [] _ SF.kind SF.split sub (SF.args (.ref x) (.str name tk) v) ?_)
  have hmr : PySem.W.Looks (model prog w) hp (mroOf (.ref C)) cd.mro:=(PySem.W.looks_clsIn X hcd).andThen .now
  have L3 : PySem.W.Looks (model prog w) hp (storeTaker? none) none:=.now
  have hcls : PySem.W.Looks (model prog w) hp (classData C) cd:=PySem.W.looks_clsIn X hcd
  rw [PySem.W.osa_eq,refuse_eq]
  refine wpAny_bind (wpAny_bind (I.type.at (wpAny_bind (hmr.at ?_))))
  rw [refsT_pass b _ _ hm]
  refine wpAny_pure (wpAny_bind (I.type.at (wpAny_bind ((PySem.W.looks_findIn X ha).at (wpAny_bind (L3.at ?_))))))
  show wpAny _ _ (storeInOwnDict (.ref x) (.ref C) (.str name tk) name v false) _ _ _
  obtain ⟨nm,bs,mro,ns,qn,hd,sn,sb,ab,col,del⟩:=cd
  dsimp only at hh
  subst hh
  unfold storeInOwnDict ownDictForStores
  repeat (first | with_reducible refine HandSPX.store_in_new ?_ ?_ | with_reducible refine wpAny_loadPart_at hx ?_ | with_reducible refine hcls.at ?_ | wp_step)
  · exact ⟨_,#[],_,(Heap.get?_update_ne _ _ _ _ hxs.symm).trans (Heap.get?_push_at rfl rfl),rfl,fun e he => absurd he (by simp),fun _ => rfl⟩
  · intro h' tk' hn' hs
    have hx₁ : (hp.push { cls:=.type "dict",data:=.dict #[] }).get? x = some { cls:=.ref C,data:=.fields fv }:=Heap.get?_push_of_some _ hx
    refine hq h' tk' hp.objs.size (fun b o hb ho => ?_) (Nat.le_refl _) hxs.symm ?_ hn'
    · exact (hs.2 b (Nat.ne_of_lt (Heap.lt_size ho))).trans ((Heap.get?_update_ne _ _ _ _ hb).trans (Heap.get?_push_of_some _ ho))
    · exact (hs.2 x hxs).trans (Heap.get?_update_self _ hx₁ rfl)
end
section
variable {X : Cx} {pins : List (Addr × Obj)} {σ : L2.St} {H : Hp} {s : Shared} {a C dx : Addr} {f : Str} {y : V} {u : Value} {fs : List (Str × V)} {Q : Unit → Shared → Prop} {E : Value → Shared → Prop} {A : Around}
theorem ost_newG (T : OexG X.K C) (I : Inv X pins σ H s) (e : H a = some (exo a C none)) (hno : PySem.W.findIn X.K (.ref C) f = some none) (ry : L2.RelV y u)
    (h : ∀ dx s',H dx = none → dx ≠ a → Inv X pins σ (upd (upd H dx (exd dx [(f,y)])) a (exo a C (some dx))) s' → Q () s') : wpAny (model X.prog X.w) A (setAttr (.ref a) f u) Q E s:=by
  obtain ⟨nm,q,N,bs,bm,sn,sub,ab,col,dd,k0,k1,k2,k3,k5,tl,B,newId,initId,b,hC,hbm⟩:=T.cls
  have hcl : PySem.W.clsIn X.K C = some { name:=nm,bases:=bs,mro:=.ref C :: bm,ns:=N,qualname:=q,hasDict:=true,slotNames:=sn,subclasses:=sub,abstract:=ab,collection:=col,hasDel:=false }:=by unfold PySem.W.clsIn; rw [hC] <;> rfl
  obtain ⟨t1,ho⟩:=exo_at I.hok e
  obtain ⟨hp,g,d,t,os⟩:=s
  have hm2 : refsT tl (.ref C :: bm) = true:=by unfold refsT; rw [hbm,Bool.or_true]
  refine PySem.W.set_plain I.kIn (ox:={ cls:=.ref C,dict:=none,data:=.fields #[.ref t1,.none,.none,.none,.bool false,.none] }) (od:=none) ⟨ho,rfl,rfl,trivial⟩ T.sa ?_
  refine exc_osaG b I.kIn ho hcl hm2 rfl rfl hno (fun h' tk' dx k dn dne hx hn => ?_)
  have hnd : H dx = none:=I.hok.fresh dn
  have nd : ∀ {b : Addr} {o : Obj},hp.get? b = some o → b ≠ dx:=fun {b o} q => Nat.ne_of_lt (Nat.lt_of_lt_of_le (Heap.lt_size q) dn)
  have na : ∀ {b : Addr},H b = none → b ≠ a:=fun {b} n z => by
    rw [z,e] at n
    cases n
  have Un1 : Un X.fs [] H (upd (upd H dx (exd dx [(f,y)])) a (exo a C (some dx))) hp h':={
    keep:=fun b o q n _ _ => k b o (na n) q
    slot:=fun b o q n _ _ => ⟨o.slots,k b o (na n) q⟩
    free:=fun b o q n _ => by rw [upd_ne (na n),upd_ne (nd q)]; exact n
    there:=fun b o q _ => by
      by_cases hb : b = a
      · exact ⟨_,by rw [hb]; exact hx⟩
      · exact ⟨o,k b o hb q⟩
    tups:=fun b xs q => by rw [upd_ne (at_ne e q exo_tup),upd_ne (ne_of_none q hnd)]; exact q
    frzs:=fun b o v q => by rw [upd_ne (at_ne e q exo_frz),upd_ne (ne_of_none q hnd)]; exact q
    tbls:=fun b ps q => ⟨#[],by rw [upd_ne (at_ne e q exo_tbl),upd_ne (ne_of_none q hnd),q]; simp⟩ }
  refine h dx _ hnd dne (I.un (t':=tk') Un1 fun b o q => ?_)
  by_cases hb : b = a
  · subst hb
    rw [upd_same] at q
    cases q
    exact exo_ok hx
  · rw [upd_ne hb] at q
    by_cases hd : b = dx
    · subst hd
      rw [upd_same] at q
      cases q
      exact exd_ok hn (relO_put (fs:=[]) ry fun g => True.intro)
    · rw [upd_ne hd] at q
      exact (I.hok b o q).stay (fun c v hc z => k c v (by
          rcases hc with hc | hc
          · rw [hc]
            exact hb
          · exact at_ne e hc exo_own) z)
        (fun c hc => by rw [upd_ne (at_ne e hc exo_own),upd_ne (ne_of_none hc hnd)]; exact hc) (fun c xs hc => by rw [upd_ne (at_ne e hc exo_tup),upd_ne (ne_of_none hc hnd)]; exact hc)
end
def spI (C : Addr) (f : Str) : Sp:=fun vs H Q _ => ∃ a v,vs = [.ref a,v] ∧ H a = some (exo a C none) ∧ ∀ dx,H dx = none → dx ≠ a → Q .non (upd (upd H dx (exd dx [(f,v)])) a (exo a C (some dx)))
section
variable {P : Program} {w : World} {K : PySem.W.Frag} {mg : Str → Option Value} {base : Heap}
theorem init_fn {qual y f : Str} {st : Stmt} {fI C : Addr} {fd : FuncData} {q1 q2 q3 q4 : Pos} (D : FunD K "__init__" qual (defArgs st) (defBody st) (defScope st) [] [] fI fd) (S : FnScope ["self",y] ["self",y] (defScope st)) (hbd : defBody st = [.Assign [.Attribute (.Name "self" q1) f q2] (.Name y q3) q4])
    (T : OexG K C) (hno : PySem.W.findIn K (.ref C) f = some none) (hy1 : (y == ("__debug__" : Str)) = false) (hy2 : (y == ("__classdict__" : Str)) = false) (hy3 : (defScope st).names.lookup y = some .local) (hs3 : (defScope st).names.lookup ("self" : Str) = some .local) (k : Nat) : FnOk P w K mg base (L2.CX P w) (k + 1) fI fd ["self",y] (spI C f):=by
  refine FunD.ok D S (fun vs H Q E ⟨a,v,e,_⟩ => by rw [e]; rfl) fun cdv A outer s H vs Q E hr hsp => ?_
  obtain ⟨a,v,e,ha,hq⟩:=hsp
  subst e
  rw [hbd]
  refine ⟨_,pss_one (t:=fun D σ H => σ = L2.start ["self",y] [.ref a,v] ∧ H a = some (exo a C none) ∧ ∀ dx,H dx = none → dx ≠ a → D.nx σ (upd (upd H dx (exd dx [(f,v)])) a (exo a C (some dx)))) ⟨fun pins s1 σ H1 D I ⟨es,h1,h2⟩ => ?_⟩,rfl,ha,hq⟩
  subst es
  have vY : PE (cxOf (L2.CX P w) P w K mg base ["self",y] qual (defScope st) fI cdv A outer s H E) (.Name y q3) (tVar 1):=pe_var rfl (.inl hy3) hy1 hy2
  have vS : PE (cxOf (L2.CX P w) P w K mg base ["self",y] qual (defScope st) fI cdv A outer s H E) (.Name "self" q1) (tVar 0):=pe_var rfl (.inl hs3) (by decide) (by decide)
  refine plainObj_wpAny_Assign_Attribute (thn (vY.run pins s1 _ H1 (fun x H2 => x = v ∧ H2 = H1) I ⟨v,rfl,rfl,rfl⟩) fun u s2 ⟨x,H2,I2,r2,ex,eH⟩ => thn (vS.run pins s2 _ H2 (fun x H3 => x = .ref a ∧ H3 = H2) I2 ⟨.ref a,rfl,rfl,rfl⟩) fun u3 s3 ⟨x3,H3,I3,r3,ex3,eH3⟩ => ?_) rfl
  subst ex ex3
  rw [eH3,eH] at I3
  obtain rfl : u3 = Value.ref a:=r3
  exact ost_newG T I3 h1 hno r2 fun dx s' n ne J => ⟨_,_,J,h2 dx n ne⟩
end
section
variable {X : Cx} {cl : CL} {W : WX} {e : Expr} {xs : MA} {x y f qual : Str} {c : Nat} {fI : Addr} {fd : FuncData} {k : Nat} {p pos p2 : Pos}
end
end DV
namespace DV
open PySem PySem.Spec PyProof.Rows L2
section
variable {X : Cx} {cl : CL}
end
section
variable {X : Cx} {cl : CL} {W : WX} {xs : MA} {pos : Pos}
end
end DV
namespace DV
open PySem PySem.Spec PyProof.Rows L2
section
variable {X : Cx} {cl : CL}
end
section
variable {X : Cx} {cl : CL} {W : WX} {e : Expr} {es : List Expr} {me : ME} {xs : MA} {p : Pos}
end
end DV
namespace DV
open PySem PySem.Spec PyProof.Rows L2
open Classical in
open Classical in
section
variable {X : Cx} {cl : CL} {W : WX}
end
end DV
namespace DV
open PySem PySem.Spec PyProof.Rows L2
section
variable {X : Cx} {cl : CL}
end
end DV
namespace DV
open PySem PySem.Spec PyProof.Rows L2
def toDT (st : Store) : Nat → D → Option PyData
  | 0,_ => none
  | n + 1,d => match d with
    | .non => some .none
    | .bl b => some (.bool b)
    | .int i => some (.int i)
    | .str x => if PyData.strOk x then some (.str x) else none
    | .tup xs => match optL (toDT st n) xs with
      | none => none
      | some ds => some (.tuple ds)
    | .ref r => (match st.at_ r with
      | some (.dic kvs) => (match kvs with
        | [] => some (.dict [])
        | _ :: _ => none)
      | _ => none)
    | _ => none
def reprN (x : D) (st : Store) : Option (D × Store):=match toDT st 20 x with
  | some d => if d.showable = true ∧ d.shown.length ≤ sizeLine then some (.str d.shown,st) else none
  | none => none
def reprA (x : D) (st : Store) : Option (D × Store):=match x with
  | .tup ds => (match reprD (.tup ds) st with
    | some r => some r
    | none => reprN (.tup ds) st)
  | .int i => if i.natAbs.log2 < 1920 then some (.str (toString i),st) else none
  | .str s => if (reprText s).length ≤ sizeLine then some (.str (reprText s),st) else none
  | .ref n => (match st.at_ n with
    | some (.dic []) => some (.str "{}",st)
    | some (.dic [(.inr k,.int i)]) => if (PyData.dict [(.str k,.int i)]).showable = true ∧ (PyData.dict [(.str k,.int i)]).shown.length ≤ sizeLine then some (.str (PyData.dict [(.str k,.int i)]).shown,st) else none
    | some (.dic _) => none
    | _ => reprD x st)
  | _ => reprD x st
section
variable {X : Cx} {cl : CL} {W : WX}
theorem dic_reads {P : Program} {w : World} {H : Hp} {h : Heap} {a : Addr} (hok : HOk P w H h) (e : H a = some (.dK [])) : Reads h (.ref a) (.dict []) [a] ∧ a ≠ sysModules:=by
  obtain ⟨z,hd,vs,r,o,es,ep,ho,hx,hdat,_,hp,_⟩:=(show ObjOk P w H h a (.dK []) from hok a _ e)
  cases r
  have he : es.toList = []:=by cases es with | mk l => cases l with | nil => rfl | cons a r => cases hp
  have e0 : ([a] : List Addr) = a :: [] ++ []:=rfl
  rw [e0]
  exact ⟨.dict ho hx.1 hdat (by rw [he]; exact .nil) (by rw [he]; exact .nil),fun q => by rw [q] at hd; simp at hd⟩
theorem dic1_reads {P : Program} {w : World} {H : Hp} {h : Heap} {a : Addr} {k : Str} {i : Int} (hok : HOk P w H h) (e : H a = some (.dK [(.inr k,.int i)])) : Reads h (.ref a) (.dict [(.str k,.int i)]) [a] ∧ a ≠ sysModules:=by
  obtain ⟨z,hd,vs,r,o,es,ep,ho,hx,hdat,_,hp,_⟩:=(show ObjOk P w H h a (.dK [(.inr k,.int i)]) from hok a _ e)
  cases r with
  | @cons p q ps qs hh ht =>
    cases ht
    obtain ⟨q1,q2⟩:=q
    obtain ⟨rfl,h2⟩:=hh
    obtain ⟨t,rfl⟩ : ∃ t,q2 = .int i t:=h2
    obtain ⟨l⟩:=es
    cases hp with
    | @cons en kv es2 kvs2 hk hv hn =>
      cases hn
      obtain ⟨t2,ek⟩ : ∃ t2,en.key = .str k t2:=by
        rcases keyIs_shape (k:=.inr k) (v:=en.key) hk with ⟨_,_,e1,_⟩ | ⟨x,t2,e1,e2⟩
        · cases e1
        · cases e1
          exact ⟨t2,e2⟩
      have e0 : ([a] : List Addr) = a :: ([] ++ []) ++ ([] ++ []):=rfl
      rw [e0]
      refine ⟨.dict ho hx.1 hdat ?_ ?_,fun q => by rw [q] at hd; simp at hd⟩
      · show ReadsAll h [en.key] [.str k] ([] ++ [])
        rw [ek]
        exact .cons (.str k t2) .nil
      · show ReadsAll h [en.val] [.int i] ([] ++ [])
        rw [hv]
        exact .cons (.int i t) .nil
theorem dt_all {n : Nat} {f : D → Option PyData} {P : PyData → Prop} (hf : ∀ d x,f d = some x → P x) : ∀ {ds : List D} {xs : List PyData},optL f ds = some xs → ∀ x ∈ xs,P x
  | [],xs,h => by cases h; simp
  | d :: ds,xs,h => by
    unfold optL at h
    cases q : f d with
    | none => rw [q] at h; cases h
    | some b =>
      rw [q] at h
      cases q2 : optL f ds with
      | none => simp only [q2] at h; cases h
      | some bs =>
        simp only [q2] at h
        cases h
        intro x hx
        rcases List.mem_cons.mp hx with rfl | hx
        · exact hf d _ q
        · exact dt_all (n:=n) hf q2 x hx
theorem dt_depthAll {n : Nat} : ∀ {xs : List PyData},(∀ x ∈ xs,x.depth ≤ n) → PyData.depthAll xs ≤ n
  | [],_ => by simp [PyData.depthAll]
  | x :: r,h => by
    have a:=h x List.mem_cons_self
    have b:=dt_depthAll (n:=n) (xs:=r) fun y hy => h y (List.mem_cons_of_mem _ hy)
    simp only [PyData.depthAll]
    omega
theorem toDT_depth {st : Store} : ∀ (n : Nat) (d : D) (x : PyData),toDT st n d = some x → x.depth ≤ n + 1
  | 0,d,x,h => by cases h
  | n + 1,d,x,h => by
    unfold toDT at h
    cases d with
    | non => cases h; simp [PyData.depth]
    | bl b => cases h; simp [PyData.depth]
    | int i => cases h; simp [PyData.depth]
    | str z =>
      simp only at h
      by_cases hz : PyData.strOk z = true
      · rw [if_pos hz] at h; cases h; simp [PyData.depth]
      · rw [if_neg hz] at h; cases h
    | tup xs =>
      simp only at h
      cases q : optL (toDT st n) xs with
      | none => rw [q] at h; cases h
      | some ds =>
        rw [q] at h; cases h
        have:=dt_depthAll (n:=n + 1) (dt_all (n:=n) (fun d x => toDT_depth n d x) q)
        simp only [PyData.depth]; omega
    | ref r =>
      simp only at h
      cases z : st.at_ r with
      | none => rw [z] at h; cases h
      | some c =>
        rw [z] at h
        cases c with
        | dic kvs =>
          cases kvs with
          | nil => cases h; simp [PyData.depth,PyData.depthAll,PyData.depthKv]
          | cons _ _ => cases h
        | _ => cases h
    | _ => cases h
theorem dt_reads_all {pins : List (Addr × Obj)} {s : Shared} {σ : L2.St} {H : Hp} (_I : Inv X pins σ H s) {μ : Nat → Addr} {N : Nat} {f : D → Option PyData}
    (hf : ∀ d v x u,VR X.K μ N H d v → f d = some x → RelV v u → ∃ as,Reads s.heap u x as ∧ sysModules ∉ as) : ∀ {ds : List D} {vs : List V} {us : List Value} {xs : List PyData},VRs X.K μ N H ds vs → optL f ds = some xs → Vals vs us → ∃ as,ReadsAll s.heap us xs as ∧ sysModules ∉ as
  | [],vs,us,xs,r,h,q => by
    simp only [VRs] at r
    subst r
    cases h
    cases q
    exact ⟨_,.nil,by simp⟩
  | d :: ds,vs,us,xs,r,h,q => by
    simp only [VRs] at r
    obtain ⟨v,vr,rfl,r1,r2⟩:=r
    unfold optL at h
    cases z : f d with
    | none => rw [z] at h; cases h
    | some b =>
      rw [z] at h
      cases z2 : optL f ds with
      | none => simp only [z2] at h; cases h
      | some bs =>
        simp only [z2] at h
        cases h
        cases q with
        | cons q1 q2 =>
          obtain ⟨as,e1,e2⟩:=hf d v b _ r1 z q1
          obtain ⟨cs,e3,e4⟩:=dt_reads_all _I hf r2 z2 q2
          exact ⟨_,.cons e1 e3,by simp [e2,e4]⟩
theorem dt_reads {pins : List (Addr × Obj)} {s : Shared} {σ : L2.St} {H : Hp} (I : Inv X pins σ H s) {μ : Nat → Addr} {st : Store} (S : SR X.K cl μ st H) : ∀ (n : Nat) (d : D) (v : V) (x : PyData) (u : Value),VR X.K μ st.nxt H d v → toDT st n d = some x → RelV v u →
    ∃ as,Reads s.heap u x as ∧ sysModules ∉ as
  | 0,d,v,x,u,r,h,ru => by cases h
  | n + 1,d,v,x,u,r,h,ru => by
    unfold toDT at h
    cases d with
    | non => cases h; simp only [VR] at r; subst r; cases ru; exact ⟨_,.none,by simp⟩
    | bl b => cases h; simp only [VR] at r; subst r; cases ru; exact ⟨_,.bool b,by simp⟩
    | int i => cases h; simp only [VR] at r; subst r; obtain ⟨t,rfl⟩:=ru; exact ⟨_,.int i t,by simp⟩
    | str z =>
      simp only at h
      by_cases hz : PyData.strOk z = true
      · rw [if_pos hz] at h
        cases h; simp only [VR] at r; subst r; obtain ⟨t,rfl⟩:=ru; exact ⟨_,.str z t,by simp⟩
      · rw [if_neg hz] at h; cases h
    | tup xs =>
      simp only at h
      cases q : optL (toDT st n) xs with
      | none => rw [q] at h; cases h
      | some ds =>
        rw [q] at h
        cases h
        simp only [VR] at r
        obtain ⟨p,vs,rfl,r1,r2⟩:=r
        cases ru
        obtain ⟨its,rv,⟨o,ho,hc,m,hd⟩,_⟩:=I.tuple r1
        obtain ⟨as,e1,e2⟩:=dt_reads_all I (fun d v x u => dt_reads I S n d v x u) r2 q rv
        exact ⟨_,.tuple ho hc hd e1,e2⟩
    | ref m =>
      simp only at h
      simp only [VR] at r
      obtain ⟨hm,rfl⟩:=r
      cases ru
      cases z : st.at_ m with
      | none => rw [z] at h; cases h
      | some c =>
        rw [z] at h
        cases c with
        | dic kvs =>
          cases kvs with
          | nil =>
            cases h
            obtain ⟨ps,hd,hk,hv⟩:=S.get z
            cases ps with
            | cons p r => simp at hk
            | nil =>
              obtain ⟨rr,ne⟩:=dic_reads I.hok hd
              exact ⟨_,rr,fun hm => ne (List.mem_singleton.mp hm).symm⟩
          | cons _ _ => cases h
        | _ => cases h
    | _ => cases h
theorem c_reprA (hg : X.A.guards = some []) (hu : X.A.units + 64 < cLine) : CallS X cl (.builtin "repr") (f1 reprA):=c_one fun pins s σ H x us Q μ st d I r S rd h => by
  cases d with
  | int i =>
    simp only [VR] at rd
    subst rd
    obtain ⟨u,rfl,hu⟩:=vals1 r
    obtain ⟨t,rfl⟩ : ∃ t,u = .int i t:=hu
    unfold reprA at h
    by_cases z : i.natAbs.log2 < 1920
    · simp only [if_pos z] at h
      exact PySem.P.repr_of_int z ⟨.str (toString i),H,I.tok _,⟨_,rfl⟩,h μ H _ S Ev.refl (by simp only [VR])⟩
    · simp only [if_neg z] at h
      exact h.elim
  | str y =>
    simp only [VR] at rd
    subst rd
    obtain ⟨u,rfl,hu⟩:=vals1 r
    obtain ⟨t,rfl⟩ : ∃ t,u = .str y t:=hu
    unfold reprA at h
    by_cases z : (reprText y).length ≤ sizeLine
    · simp only [if_pos z] at h
      exact PySem.P.repr_of_str ⟨.str (reprText y),H,I.tok _,⟨_,rfl⟩,h μ H _ S Ev.refl (by simp only [VR])⟩ z
    · simp only [if_neg z] at h
      exact h.elim
  | ref n =>
    unfold reprA at h
    simp only at h
    cases q : st.at_ n with
    | none =>
      rw [q] at h
      exact c_reprU (cl:=cl) hg hu pins s σ H _ us Q I r ⟨μ,st,_,S,VRs.one rd,h⟩
    | some cc =>
      rw [q] at h
      cases cc with
      | lst ys => exact c_reprU (cl:=cl) hg hu pins s σ H _ us Q I r ⟨μ,st,_,S,VRs.one rd,h⟩
      | ins c fs => exact c_reprU (cl:=cl) hg hu pins s σ H _ us Q I r ⟨μ,st,_,S,VRs.one rd,h⟩
      | fdc _ => exact c_reprU (cl:=cl) hg hu pins s σ H _ us Q I r ⟨μ,st,_,S,VRs.one rd,h⟩
      | dn _ _ => exact c_reprU (cl:=cl) hg hu pins s σ H _ us Q I r ⟨μ,st,_,S,VRs.one rd,h⟩
      | exn _ _ => exact c_reprU (cl:=cl) hg hu pins s σ H _ us Q I r ⟨μ,st,_,S,VRs.one rd,h⟩
      | dic kvs =>
        have rd':=rd
        simp only [VR] at rd'
        obtain ⟨_,ex⟩:=rd'
        subst ex
        rw [Vals.ref1 r]
        obtain ⟨ps,hd,hk,hv⟩:=S.get q
        cases kvs with
        | nil =>
          simp only at h
          cases ps with
          | cons p r => simp at hk
          | nil =>
            obtain ⟨rr,ne⟩:=dic_reads I.hok hd
            have dp : (PyData.dict []).depth ≤ 2:=by decide +kernel
            refine repr_of_reads' rr rfl (fun _ hm => ne (List.mem_singleton.mp hm).symm) hg (by omega) (fun b o e => e) (fun h' u tk hk2 => ?_) (by decide +kernel)
            exact ⟨.str "{}",H,I.kept hk2,⟨u,rfl⟩,h μ H _ S Ev.refl (by simp only [VR])⟩
        | cons kv r2 =>
          obtain ⟨k,v⟩:=kv
          cases k with
          | inl j => cases v <;> cases r2 <;> exact h.elim
          | inr k =>
            cases v with
            | int i =>
              cases r2 with
              | cons z r3 => exact h.elim
              | nil =>
                simp only at h
                by_cases c : (PyData.dict [(.str k,.int i)]).showable = true ∧ (PyData.dict [(.str k,.int i)]).shown.length ≤ sizeLine
                · rw [if_pos c] at h
                  have e1 : ps = [(.inr k,.int i)]:=by
                    cases ps with
                    | nil => simp at hk
                    | cons p1 ps =>
                      cases ps with
                      | cons p2 ps => simp at hk
                      | nil =>
                        obtain ⟨p1a,p1b⟩:=p1
                        simp at hk
                        simp only [List.map,VRs,VR] at hv
                        obtain ⟨v,r,e,ev,er⟩:=hv
                        subst er
                        subst ev
                        cases e
                        rw [hk]
                  subst e1
                  obtain ⟨rr,ne⟩:=dic1_reads I.hok hd
                  have dp : (PyData.dict [(.str k,.int i)]).depth ≤ 4:=by
                    simp [PyData.depth,PyData.depthKv,PyData.depthAll]
                  refine repr_of_reads' rr c.1 (fun _ hm => ne (List.mem_singleton.mp hm).symm) hg (by omega) (fun b o e => e) (fun h' u tk hk2 => ?_) c.2
                  exact ⟨.str _,H,I.kept hk2,⟨u,rfl⟩,h μ H _ S Ev.refl (by simp only [VR])⟩
                · rw [if_neg c] at h
                  exact h.elim
            | _ => cases r2 <;> exact h.elim
  | tup xs =>
    unfold reprA at h
    simp only at h
    cases q : reprD (.tup xs) st with
    | some z =>
      rw [q] at h
      have h2 : PostO X.K cl (VR X.K) μ st.nxt H Q (f1 reprD [.tup xs] st):=by
        show PostO X.K cl (VR X.K) μ st.nxt H Q (reprD (.tup xs) st)
        rw [q]
        exact h
      exact c_reprU (cl:=cl) hg hu pins s σ H _ us Q I r ⟨μ,st,_,S,VRs.one rd,h2⟩
    | none =>
      rw [q] at h
      simp only at h
      unfold reprN at h
      cases q2 : toDT st 20 (.tup xs) with
      | none => rw [q2] at h; exact h.elim
      | some t =>
        rw [q2] at h
        simp only at h
        by_cases c : t.showable = true ∧ t.shown.length ≤ sizeLine
        · rw [if_pos c] at h
          have rd':=rd
          simp only [VR] at rd'
          obtain ⟨p,vs,e,_⟩:=rd'
          subst e
          rw [Vals.ref1 r]
          obtain ⟨as,rr,ns⟩:=dt_reads I S 20 _ _ t (.ref p) rd q2 rfl
          have dp:=toDT_depth 20 _ t q2
          refine repr_of_reads' rr c.1 (fun _ => ns) hg (by omega) (fun b o e => e) (fun h' u tk hk => ?_) c.2
          exact ⟨.str t.shown,H,I.kept hk,⟨u,rfl⟩,h μ H _ S Ev.refl (by simp only [VR])⟩
        · rw [if_neg c] at h; exact h.elim
  | _ => exact c_reprU (cl:=cl) hg hu pins s σ H _ us Q I r ⟨μ,st,_,S,VRs.one rd,h⟩
theorem reprA_tup {ds : List D} {st : Store} {r : D × Store} (h : reprD (.tup ds) st = some r) : reprA (.tup ds) st = some r:=by
  unfold reprA
  simp only [h]
end
end DV
namespace G
open DV PySem L2
noncomputable section
def F_law_dip : FD:=mDef 2 4 (msSeq (msSub (m2 fAdd (m2 fIx (mVar 0) (mC (.int 2))) (mC (.int 1))) (mVar 0) (mC (.int 2)))
  (msSeq (msIf (tB_ (m2 fGt (m2 fIx (mVar 0) (mC (.int 0))) (mC (.int 0))))
  (msSeq (msAsg (m2 fMod (mL (f1 intD) (maCons (m2 fIx (mVar 0) (mC (.int 0))) maNil)) (mVar 1)) (tgName 2))
  (msSeq (msSub (m2 fFdiv (mL (f1 intD) (maCons (m2 fIx (mVar 0) (mC (.int 0))) maNil)) (mVar 1)) (mVar 0) (mC (.int 0)))
  (msRet (mVar 2))))
  msNil)
  (msSeq (msAsg (mL (f1 intD) (maCons (m2 fIx (mVar 0) (mC (.int 1))) maNil)) (tgName 3))
  (msSeq (msSub (m2 fMod (mL (f1 intD) (maCons (m2 fAdd (m2 fAdd (m2 fMul (mVar 3) (mC (.int 48271))) (m2 fMul (m2 fIx (mVar 0) (mC (.int 2))) (mC (.int 40503)))) (mC (.int 17))) maNil)) (mC (.int 2147483629))) (mVar 0) (mC (.int 1)))
  (msRet (m2 fMod (mL (f1 intD) (maCons (m2 fFdiv (m2 fIx (mVar 0) (mC (.int 1))) (mC (.int 4096))) maNil)) (mVar 1)))))))
def F_law_pick : FD:=mDef 2 3 (msSeq (msAsg (mCall F_law_dip [] (maCons (mVar 0) (maCons (mL (f1 lenD) (maCons (mVar 1) maNil)) maNil))) (tgName 2))
  (msRet (m2 fIx (mVar 1) (mVar 2))))
def law_jar_L1 : MS:=(msAsg (m2 fMod (mL (f1 intD) (maCons (m2 fAdd (m2 fMul (mVar 2) (mC (.int 733))) (mVar 3)) maNil)) (mC (.int 1000000007))) (tgName 2))
def F_law_jar : FD:=mDef 2 6 (msSeq (msAsg (m2 fAdd (m2 fMul (m2 fMul (mC (.int 8191)) (m2 fAdd (mVar 1) (mC (.int 2)))) (m2 fAdd (mVar 1) (mC (.int 5)))) (m2 fMul (mC (.int 13)) (mL (f1 lenD) (maCons (mVar 0) maNil)))) (tgName 2))
  (msSeq (msFor (miSeq (mSl (mVar 0) moNone (moSome (mC (.int 4))))) (tgName 3)
  law_jar_L1)
  (msSeq (msAsg (mIf (tB_ (m2 fLt (mVar 1) (mL (f1 lenD) (maCons (mVar 0) maNil)))) (m2 fIx (mVar 0) (mVar 1)) (mC (.int 0))) (tgName 4))
  (msSeq (msAsg (mIf (tOr_ (tB_ (m2 fLt (mVar 4) (mC (.int 0)))) (tB_ (m2 fGe (mVar 4) (m2 fPow (mC (.int 10)) (mC (.int 18)))))) (mL (f1 absD) (maCons (mVar 4) maNil)) (mC (.int 0))) (tgName 5))
  (msRet (mLst (maCons (mVar 5) (maCons (m2 fMod (mL (f1 intD) (maCons (m2 fAdd (m2 fAdd (m2 fMul (mVar 2) (mC (.int 7907))) (m2 fMul (mVar 4) (mC (.int 65537)))) (m2 fMul (mC (.int 104729)) (m2 fAdd (mVar 1) (mC (.int 1))))) maNil)) (mC (.int 2147483587))) (maCons (mC (.int 0)) maNil)))))))))
end
end G
namespace DV
open PySem PySem.Spec PyProof.Rows L2 He
section
variable {X : Cx} {cl : CL} {es : List Expr} {pos : Pos}
end
section
variable {X : Cx} {C : Addr} {bmB : List Value} {B newId initId : String} {x : Str} {p pos : Pos}
end
section
variable {X : Cx} {cl : CL}
end
end DV
namespace PySem
namespace HandSPX
open PySem.W PySem.Calls PyProof.Rows
section
variable {M : Model} {A : Around} {E : Value → Shared → Prop} {h : Heap} {g : Array GenState} {d : Drawn} {t : Nat} {os : OsState}
variable {nm q : Str} {C N : Addr} {bs bm bmB : List Value} {hdct : Bool} {sn : List Str} {sub : List Value} {ab : Bool} {col : Option Bool} {dd : Option Addr} {k0 k1 k2 k3 k5 : Option Value} {B newId initId : String}
theorem check_new_ownK (F : ExcBaseFacts B newId initId bmB) (hT : ∀ X : String,bm.contains (.type X) = bmB.contains (.type X)) {kw : List (Str × Value)} {Q : Unit → Shared → Prop}
    (hC : h.get? C = some (excClassObj nm q C N bs bm hdct sn sub ab col dd k0 k1 k2 k3 k5 newId)) (hq : Q () ⟨h,g,d,t,os⟩) : wpAny M A (checkBuiltinCall newId ⟨[.ref C],kw⟩) Q E ⟨h,g,d,t,os⟩:=by
  have hcont : (Value.ref C :: bm).contains (.type B) = true:=by rw [List.contains_cons,hT,F.hasB,Bool.or_true]
  have hstar:=F.noStar
  simp only [checkBuiltinCall,F.newKind,F.newSplit,F.newRow]
  repeat (first | refine wpAny_loadPart_at hC ?_ | (refine wpAny_isSubtype_exc hC ?_; rw [hcont]) | refine wpAny_staticBase_exc hC ?_ | refine wpAny_madeBy_exc hC ?_ | simp only [bne_self_eq_false,Bool.false_eq_true,if_false] | wp_step)
  exact hq
end
section
variable {prog : Program} {w : World} {A : Around} {E : Value → Shared → Prop} {R : Result → Shared → Prop} {h : Heap} {g : Array GenState} {d : Drawn} {t : Nat} {os : OsState}
variable {nm q : Str} {C N : Addr} {bs bm bmB : List Value} {hdct : Bool} {sn : List Str} {sub : List Value} {ab : Bool} {col : Option Bool} {dd : Option Addr} {k0 k1 k2 k3 k5 : Option Value} {B newId initId : String}
theorem new_ownK (F : ExcBaseFacts B newId initId bmB) (hT : ∀ X : String,bm.contains (.type X) = bmB.contains (.type X)) {kw : List (Str × Value)}
    (hC : h.get? C = some (excClassObj nm q C N bs bm hdct sn sub ab col dd k0 k1 k2 k3 k5 newId))
    (hq : R (.ok (.ret (.ref (h.objs.size + 1)))) ⟨(h.push { cls:=.type "tuple",data:=.seq #[] }).push
      { cls:=.ref C,data:=.fields #[.ref h.objs.size,.none,.none,.none,.bool false,.none] },g,d,t,os⟩) :
    codeAny (model prog w) A (.builtin newId ⟨[.ref C],kw⟩) R ⟨h,g,d,t,os⟩:=by
  have hends:=F.ends
  have hrest : ([] : List Value).length ≤ sizeLine:=Nat.zero_le _
  have hcB : (Value.ref C :: bm).contains (.type B) = true:=by rw [List.contains_cons,hT,F.hasB,Bool.or_true]
  have hcA : (Value.ref C :: bm).contains (.type "AttributeError") = false:=by rw [List.contains_cons,hT,F.noAttr]; rfl
  have hcN : (Value.ref C :: bm).contains (.type "NameError") = false:=by rw [List.contains_cons,hT,F.noName]; rfl
  refine codeAny_builtinAt F.entry ?_
  unfold Builtin.«BaseException.__new__»
  refine wpAt_bind ?_
  show wpAt _ _ _ (stack >>= _) _ _ _
  refine wpAt_bind (wpAt_stack fun p below => wpAt_of_wpAny ?_)
  wp_walk
  refine wpAt_of_wpAny ?_
  rw [F.owner]
  repeat (first | with_reducible refine wpAny_madeHere_exc F.canon hC ?_ | with_reducible refine wpAny_loadPart_at hC ?_ | (with_reducible refine wpAny_isSubtype_exc hC ?_; first | rw [hcB] | rw [hcA] | rw [hcN]) | wp_step)
  show R _ _
  rw [Heap.size_push]
  exact hq
theorem type_call_ownK (F : ExcBaseFacts B newId initId bmB) (hT : ∀ X : String,bm.contains (.type X) = bmB.contains (.type X)) {kw : List (Str × Value)} {fI : Addr} {Q : Fin → Shared → Prop}
    (hC : h.get? C = some (excClassObj nm q C N bs bm hdct sn sub ab col dd k0 k1 k2 k3 k5 newId))
    (hi : W.Looks (model prog w) h (typeLookup (.ref C) "__init__") (some (.ref fI))) (hb : ∀ self,W.Looks (model prog w) h (bindSpecial (.ref fI) self) (.ref fI,[self]))
    (hq : codeAny (model prog w) A (.call (.ref fI) ⟨[.ref (h.objs.size + 1)],kw⟩)
      (fun r s' => match r with | .ok (.ret v) => v = .none ∧ Q (.done (.ret (.ref (h.objs.size + 1)))) s' | .ok _ => False | .error e => E e s')
      ⟨(h.push (W.kdv_tup [])).push (excO C h.objs.size),g,d,t,os⟩) :
    wpAny (model prog w) A (Builtin.«type.__call__» ⟨[.ref C],kw⟩) Q E ⟨h,g,d,t,os⟩:=by
  repeat (first | with_reducible refine wpAny_loadPart_at hC ?_ | with_reducible refine wpAny_madeBy_exc hC ?_ | wp_step)
  refine codeAny_call_builtin_code (Code.quiet_builtin _ F.quiet) (check_new_ownK F hT hC ?_)
  refine new_ownK F hT hC ?_
  show wpAny _ _ _ _ _ _
  have k : ∀ b o,h.get? b = some o → ((h.push (W.kdv_tup [])).push (excO C h.objs.size)).get? b = some o:=fun b o e => Heap.get?_push_of_some _ (Heap.get?_push_of_some _ e)
  have hC₁:=k _ _ hC
  have hget : ((h.push (W.kdv_tup [])).push (excO C h.objs.size)).get? (h.objs.size + 1) = some (excO C h.objs.size):=by heap_get
  have hcC : (Value.ref C :: bm).contains (.ref C) = true:=by simp
  have i1:=hi.keeps k
  have b1:=(hb (.ref (h.objs.size + 1))).keeps k
  unfold isInstance
  repeat (first | with_reducible refine wpAny_loadPart_at hget ?_ | (with_reducible refine wpAny_isSubtype_exc hC₁ ?_; rw [hcC]) | wp_step)
  show wpAny _ _ (typeLookup (.ref C) _) _ _ _
  refine i1.at ?_
  refine wpAny_holding (wpAny_bind (b1.at ?_))
  refine wpAny_bind (wpAny_call (codeAny_mono hq fun r s' z => ?_))
  rcases r with e | (v | _ | _ | _) <;> first | exact z | exact z.elim | skip
  obtain ⟨rfl,z⟩:=z
  first
    | exact wpAny_pure (wpAny_pure z)
    | (wp_walk; exact z)
theorem call_ownK (F : ExcBaseFacts B newId initId bmB) (hT : ∀ X : String,bm.contains (.type X) = bmB.contains (.type X)) {kw : List (Str × Value)} {fI : Addr}
    (hC : h.get? C = some (excClassObj nm q C N bs bm hdct sn sub ab col dd k0 k1 k2 k3 k5 newId))
    (hi : W.Looks (model prog w) h (typeLookup (.ref C) "__init__") (some (.ref fI))) (hb : ∀ self,W.Looks (model prog w) h (bindSpecial (.ref fI) self) (.ref fI,[self]))
    (hq : codeAny (model prog w) (A.under (.builtin "type.__call__" ⟨[.ref C],kw⟩)) (.call (.ref fI) ⟨[.ref (h.objs.size + 1)],kw⟩) (W.InitBack (h.objs.size + 1) R)
      ⟨(h.push (W.kdv_tup [])).push (excO C h.objs.size),g,d,t,os⟩) :
    codeAny (model prog w) A (.call (.ref C) ⟨[],kw⟩) R ⟨h,g,d,t,os⟩:=by
  have f1:=tc_lookup
  have f2:=tc_bind (.ref C)
  have hTy : (⟨h,g,d,t,os⟩ : Shared).TypeIs (.ref C) "type":=⟨_,hC,rfl⟩
  refine codeAny_of_tree ?_
  show wpAny _ _ (callAny (.ref C) _) _ _ _
  repeat (any_goals (first | assumption | with_reducible refine wpAny_loadPart_at hC ?_ | wp_step))
  refine ⟨rfl,?_⟩
  refine codeAny_call_builtin_at (Code.quiet_builtin _ (by decide +kernel)) entry_typeCall (wpAny_check_type_call_sub hC (type_call_ownK F hT hC hi hb ?_))
  refine codeAny_mono hq fun r s' z => ?_
  rcases r with e | (v | _ | _ | _) <;> exact z
end
end HandSPX
end PySem
namespace DV
open PySem PySem.Spec PyProof.Rows L2 He
theorem mk_keep {X : Cx} {pins : List (Addr × Obj)} {σ : L2.St} {H1 H2 : Hp} {hp hp2 h2 : Heap} {g1 g2 : Array GenState} {d1 d2 : Drawn} {t1 t2 : Nat} {os1 os2 : OsState} {a C d : Addr} {fs : List (Str × V)} (I1 : Inv X pins σ H1 ⟨hp,g1,d1,t1,os1⟩)
    (ha : hp.objs.size ≤ a) (k : ∀ b o,hp.get? b = some o → hp2.get? b = some o) (un : Un (frs X.stack) [] (upd H1 a (exo a C none)) H2 hp2 h2) (hok : HOk X.prog X.w H2 h2) (ho : os2 = os1) (hb : AllBare g2)
    (ed : H2 d = some (exd d fs)) (hd1 : H1 d = none) : Inv X pins σ (upd H2 d (.xd fs)) ⟨h2,g2,d2,t2,os2⟩:=by
  obtain ⟨mA,hns,rel⟩:=exd_at hok ed
  have hn : H1 a = none:=I1.hok.fresh ha
  have nha : ∀ {b : Addr} {o : Obj},hp.get? b = some o → b ≠ a:=fun {b o} z => Nat.ne_of_lt (Nat.lt_of_lt_of_le (Heap.lt_size z) ha)
  have up : ∀ {b : Addr},b ≠ a → H1 b = none → upd H1 a (exo a C none) b = none:=fun {b} hb n => by rw [upd_ne hb]; exact n
  have nd : ∀ {b : Addr} {o : Obj},hp.get? b = some o → H1 b = none → b ≠ d:=fun {b o} z n e => by
    have y:=un.free b o (k b o z) (up (nha z) n) (by simp)
    rw [e,ed] at y
    cases y
  have U : Un (frs X.stack) [] H1 (upd H2 d (.xd fs)) hp h2:={
    keep:=fun b o z n hf hx => un.keep b o (k b o z) (up (nha z) n) hf hx
    slot:=fun b o z n hf hx => un.slot b o (k b o z) (up (nha z) n) hf hx
    free:=fun b o z n hx => by
      rw [upd_ne (nd z n)]
      exact un.free b o (k b o z) (up (nha z) n) hx
    there:=fun b o z hx => un.there b o (k b o z) hx
    tups:=fun b xs z => by
      rw [upd_ne (ne_of_none z hd1)]
      exact un.tups b xs (by rw [upd_ne (ne_of_none z hn)]; exact z)
    frzs:=fun b o v z => by
      rw [upd_ne (ne_of_none z hd1)]
      exact un.frzs b o v (by rw [upd_ne (ne_of_none z hn)]; exact z)
    tbls:=fun b ps z => by
      rw [upd_ne (ne_of_none z hd1)]
      exact un.tbls b ps (by rw [upd_ne (ne_of_none z hn)]; exact z) }
  have hok3 : HOk X.prog X.w (upd H2 d (.xd fs)) h2:=fun b o z => by
    by_cases hbd : b = d
    · subst hbd
      rw [upd_same] at z
      cases z
      exact ⟨mA,hns,rel⟩
    · rw [upd_ne hbd] at z
      exact (hok b o z).stay (fun c v hc y => y) (fun c hc => by rw [upd_ne (at_ne ed hc exd_own)]; exact hc) (fun c xs hc => by rw [upd_ne (at_ne ed hc exd_tup)]; exact hc)
  exact I1.call' (ch:=[]) ho U hok3 hb (fun b z => absurd z (by simp))
def newX (H : Hp) (a C dx : Addr) (f : Str) (v : V) : Hp:=upd (upd H dx (.xd [(f,v)])) a (exo a C (some dx))
section
variable {X : Cx} {cl : CL} {W : WX} {e : Expr} {xs : MA} {x y f qual : Str} {c : Nat} {fI : Addr} {fd : FuncData} {k : Nat} {p pos p2 : Pos}
theorem new_end {CX : CXT} {C : Addr} {pins : List (Addr × Obj)} {σ : L2.St} {H1 : Hp} {Q : VK} {hp : Heap} {g : Array GenState} {dr : Drawn} {tk : Nat} {os : OsState} {us : List Value} {kw : List (Str × Value)} {u : Value} {v : V} (hx : Passes CX X (fun _ _ _ => False))
    (I1 : Inv X pins σ H1 ⟨hp,g,dr,tk,os⟩) (F1 : FnOk X.prog X.w X.K X.mg X.base CX k fI fd ["self",y] (spI C f)) (hr : Room (k + 1) X.A) (rv : RelV v u)
    (hb : ∀ s : Shared,X.K.In s.heap → BindsTo s fd ⟨Value.ref (hp.objs.size + 1) :: us,kw⟩ ((["self",y] : List Str).zip [Value.ref (hp.objs.size + 1),u]))
    (q1 : ∀ a dx,H1 a = none → H1 dx = none → dx ≠ a → Q (.ref a) (newX H1 a C dx f v)) {fin : Result → Shared → Prop}
    (hend : ∀ (s' : Shared),EP X pins σ Q (.ref (hp.objs.size + 1)) s' → fin (.ok (.ret .none)) s') (herr : ∀ er s',X.xe er s' → fin (.error er) s') :
    codeAny (model X.prog X.w) (X.A.under (.builtin "type.__call__" ⟨.ref C :: us,kw⟩)) (.call (.ref fI) ⟨Value.ref (hp.objs.size + 1) :: us,kw⟩) fin ⟨(hp.push (PySem.W.kdv_tup us)).push (PySem.HandSPX.excO C hp.objs.size),g,dr,tk,os⟩:=by
  have hsz : hp.objs.size ≤ hp.objs.size + 1:=Nat.le_succ _
  have hn : H1 (hp.objs.size + 1) = none:=I1.hok.fresh hsz
  have kk : ∀ b o,hp.get? b = some o → ((hp.push (PySem.W.kdv_tup us)).push (PySem.HandSPX.excO C hp.objs.size)).get? b = some o:=fun b o e => Heap.get?_push_of_some _ (Heap.get?_push_of_some _ e)
  have hget : ((hp.push (PySem.W.kdv_tup us)).push (PySem.HandSPX.excO C hp.objs.size)).get? (hp.objs.size + 1) = some (PySem.HandSPX.excO C hp.objs.size):=by heap_get
  have I2 : Inv X pins σ (upd H1 (hp.objs.size + 1) (exo (hp.objs.size + 1) C none)) ⟨(hp.push (PySem.W.kdv_tup us)).push (PySem.HandSPX.excO C hp.objs.size),g,dr,tk,os⟩:=
    I1.laid (t':=tk) (a:=hp.objs.size + 1) (o:=exo (hp.objs.size + 1) C none) (h':=(hp.push (PySem.W.kdv_tup us)).push (PySem.HandSPX.excO C hp.objs.size)) kk hsz (exo_ok hget)
  have r2 : Vals [V.ref (hp.objs.size + 1),v] [Value.ref (hp.objs.size + 1),u]:=.cons rfl (.cons rv .nil)
  refine codeAny_mono (F1.run _ X.stack _ _ ⟨Value.ref (hp.objs.size + 1) :: us,kw⟩ [Value.ref (hp.objs.size + 1),u] _ (fun v2 H2 => v2 = .non ∧ ∃ dx,H1 dx = none ∧ dx ≠ hp.objs.size + 1 ∧ H2 = upd (upd (upd H1 (hp.objs.size + 1) (exo (hp.objs.size + 1) C none)) dx (exd dx [(f,v)])) (hp.objs.size + 1) (exo (hp.objs.size + 1) C (some dx))) (fun _ _ _ => False) (hr.make C us kw) (I2.env0.make C us kw) (hb _ I2.kIn) r2 ⟨hp.objs.size + 1,v,rfl,upd_same,fun dx n ne => ⟨rfl,dx,by rw [upd_ne ne] at n; exact n,ne,rfl⟩⟩) fun r s' hq' => ?_
  cases r with
  | error er => exact herr _ _ (hx pins σ _ _ er s' I2 hq')
  | ok fl =>
    cases fl with
    | ret u2 =>
      obtain ⟨v2,H2,os2,bare2,un2,hok2,rv2,ev,dx,nd,ne,eH⟩:=hq'
      subst ev
      obtain rfl : u2 = Value.none:=rv2
      obtain ⟨h2,g2,d2,t2,os'⟩:=s'
      have ed : H2 dx = some (exd dx [(f,v)]):=by rw [eH,upd_ne ne]; exact upd_same
      have J:=mk_keep (d2:=d2) (t2:=t2) I1 hsz kk un2 hok2 os2 bare2 ed nd
      have eqH : upd H2 dx (.xd [(f,v)]) = newX H1 (hp.objs.size + 1) C dx f v:=by
        unfold newX
        funext b
        by_cases hb2 : b = hp.objs.size + 1
        · rw [hb2,upd_ne (Ne.symm ne),eH,upd_same,upd_same]
        · rw [upd_ne hb2]
          by_cases hb : b = dx
          · rw [hb,upd_same,upd_same]
          · rw [upd_ne hb,upd_ne hb,eH,upd_ne hb2,upd_ne hb,upd_ne hb2]
      rw [eqH] at J
      exact hend _ ⟨.ref (hp.objs.size + 1),_,J,rfl,q1 _ dx hn nd ne⟩
    | next => exact False.elim hq'
    | brk => exact False.elim hq'
    | cont => exact False.elim hq'
theorem pe_newE {CX : CXT} {C : Addr} {ta : TA} (T : OexG X.K C) (iC : PySem.W.findIn X.K (.ref C) "__init__" = some (some (.ref fI))) (tI : PySem.W.typeIn X.K (.ref fI) = some (.type "function"))
    (F1 : FnOk X.prog X.w X.K X.mg X.base CX k fI fd ["self",y] (spI C f)) (hr : Room (k + 1) X.A) (hb : Binds X.K fd ["self",y] []) (hx : Passes CX X (fun _ _ _ => False)) (hg : Gl X x) (hm : X.mg x = some (.ref C)) (ha : PA X [e] ta)
    (hdb : (x == ("__debug__" : Str)) = false:=by decide) (he : starEach (e :: []) X.env = (false,eval e X.env) :: starEach [] X.env:=by rfl) (hpl : (backTo pos (starEach [] X.env)).any (·.1) = false:=by rfl) :
    PE X (.Call (.Name x p) [e] [] pos) (fun σ H Q => ta σ H fun vs H1 => ∃ v,vs = [v] ∧ ∀ a dx,H1 a = none → H1 dx = none → dx ≠ a → Q (.ref a) (newX H1 a C dx f v)):=by
  refine ⟨fun pins s σ H Q I h => ?_⟩
  obtain ⟨nm,q,N,bs,bm,sn,sub,ab,col,dd,k0,k1,k2,k3,k5,tl,B,newId,initId,b,hC,hbm⟩:=T.cls
  refine wpAny_Call_Name_kw (ld_glob I hg hm ?_ hdb)
  refine PySem.W.callWith_K (h₀:=X.base) I.ok.mod.kin T.kC (thn (ha.run pos pins s σ H _ I h) fun us s1 ⟨vs,H1,I1,r1,v,ev,q1⟩ => ⟨I1.kIn,?_⟩) he hpl
  subst ev
  show wpAny _ _ (call (.ref C) us) _ _ _
  obtain ⟨hp,g,dr,tk,os⟩:=s1
  obtain ⟨u,rfl,ru⟩:=vals1 r1
  refine wpAny_call (PySem.HandSPX.call_own b.base (fun Y => refsT_contains Y bm hbm) (I1.kIn _ _ hC) (PySem.W.looks_findIn I1.kIn iC) (fun self => PySem.W.bind_fn I1.kIn self tI) (by show 1 ≤ sizeLine; rw [sizeLine_eq]; omega)
    (new_end (kw:=[]) hx I1 F1 hr ru (fun s ks => by
      have b2:=hb s [Value.ref (hp.objs.size + 1),u] ks rfl
      rw [List.append_nil] at b2
      exact b2) q1 (fun s' z => ⟨rfl,z⟩) fun er s' z => z))
theorem pe_newEK {CX : CXT} {C : Addr} {ta : TA} {kpos : Pos} (T : OexG X.K C) (iC : PySem.W.findIn X.K (.ref C) "__init__" = some (some (.ref fI))) (tI : PySem.W.typeIn X.K (.ref fI) = some (.type "function"))
    (F1 : FnOk X.prog X.w X.K X.mg X.base CX k fI fd ["self",y] (spI C f)) (hr : Room (k + 1) X.A)
    (hb : ∀ (s : Shared) (a u : Value),X.K.In s.heap → BindsTo s fd ⟨[a],[(y,u)]⟩ ((["self",y] : List Str).zip [a,u])) (hx : Passes CX X (fun _ _ _ => False)) (hg : Gl X x) (hm : X.mg x = some (.ref C)) (ha : PK X [⟨some y,e,kpos⟩] ta)
    (hdb : (x == ("__debug__" : Str)) = false:=by decide) (hall : (backToKw pos (keywordEach [⟨some y,e,kpos⟩] X.env)).all (·.1.isSome) = true:=by rfl) (hks : (backToKw pos (keywordEach [⟨some y,e,kpos⟩] X.env)).filterMap (·.1) = [y]:=by rfl)
    (hpl : ((backTo pos (starEach [] X.env)).any (·.1) || (backToKw pos (keywordEach [⟨some y,e,kpos⟩] X.env)).any (·.1.isNone)) = false:=by rfl) :
    PE X (.Call (.Name x p) [] [⟨some y,e,kpos⟩] pos) (fun σ H Q => ta σ H fun vs H1 => ∃ v,vs = [v] ∧ ∀ a dx,H1 a = none → H1 dx = none → dx ≠ a → Q (.ref a) (newX H1 a C dx f v)):=by
  refine ⟨fun pins s σ H Q I h => ?_⟩
  obtain ⟨nm,q,N,bs,bm,sn,sub,ab,col,dd,k0,k1,k2,k3,k5,tl,B,newId,initId,b,hC,hbm⟩:=T.cls
  refine wpAny_Call_Name_kw (ld_glob I hg hm ?_ hdb)
  refine PySem.W.callWith_KW0 (h₀:=X.base) I.ok.mod.kin T.kC hall ?_ hpl
  refine thn (ha.run pos pins s σ H _ I h) fun us s1 ⟨vs,H1,I1,r1,v,ev,q1⟩ => ⟨I1.kIn,?_⟩
  subst ev
  rw [hks]
  obtain ⟨hp,g,dr,tk,os⟩:=s1
  obtain ⟨u,rfl,ru⟩:=vals1 r1
  show wpAny _ _ (call (.ref C) [] [(y,u)]) _ _ _
  refine wpAny_call (PySem.HandSPX.call_ownK b.base (fun Y => refsT_contains Y bm hbm) (I1.kIn _ _ hC) (PySem.W.looks_findIn I1.kIn iC) (fun self => PySem.W.bind_fn I1.kIn self tI)
    (new_end (us:=[]) (kw:=[(y,u)]) hx I1 F1 hr ru (fun s ks => hb s _ u ks) q1 (fun s' z => ⟨rfl,z⟩) fun er s' z => z))
theorem pe_newE0 {C : Addr} {bmB : List Value} {B newId initId : String} (F : ExcBaseFacts B newId initId bmB) (q : PySem.W.excIn X.K C bmB newId = true) (gC : X.mg x = some (.ref C)) (kC : PySem.W.keepIn X.K (.ref C) = true) (hg : Gl X x) (hdb : (x == ("__debug__" : Str)) = false:=by decide) :
    PE X (.Call (.Name x p) [] [] pos) (fun _ H Q => ∀ a,H a = none → Q (.ref a) (upd H a (exo a C none))):=by
  refine ⟨fun pins s σ H Q I h => ?_⟩
  refine wpAny_Call_Name_kw (ld_glob I hg gC ?_ hdb)
  refine PySem.W.callWith_K0 I.kIn kC ?_
  show wpAny _ _ (call (.ref C) []) _ _ _
  obtain ⟨bm,N,nm,qn,bs,hdct,sn,sub,ab,col,dd,k0,k1,k2,k3,k5,mN,hC,hN,hni,T⟩:=exc_obj I.kIn q
  refine wpAny_call_exc_subT F T hC hN hni (fun h' a hm => ?_) (Nat.zero_le _)
  have hn : H a = none:=I.hok.gone hm.new
  obtain ⟨t,ht,_,_⟩:=hm.there
  exact ⟨.ref a,upd H a (exo a C none),I.laidN hm.keeps hm.new hn (exo_ok ht),rfl,h a hn⟩
end
def mNewE (c : Nat) (f : Str) (xs : MA) : ME:=fun l st => match xs l st with
  | .ok ds st' => (match ds with
    | [d] => .ok (.ref st'.nxt) (st'.new (.exn c [(f,d)]))
    | _ => .bad)
  | .exc c' fs st' => .exc c' fs st'
  | .bad => .bad
def mNewE0 (c : Nat) : ME:=fun _ st => .ok (.ref st.nxt) (st.new (.exn c []))
def mIsX (cs : List Nat) (g : Nat → Bool) (m : ME) : ME:=fun l st => (m l st).bind fun d st1 => match d with
  | .ref n => (match st1.at_ n with
    | some (.exn c _) => if c ∈ cs then .ok (.bl (g c)) st1 else .bad
    | _ => .bad)
  | _ => .bad
def mXfX (cs : List Nat) (f : Str) (m : ME) : ME:=fun l st => (m l st).bind fun d st1 => match d with
  | .ref n => (match st1.at_ n with
    | some (.exn c fs) => if c ∈ cs then (match fs.lookup f with
      | some x => .ok x st1
      | none => .bad) else .bad
    | _ => .bad)
  | _ => .bad
section
variable {X : Cx} {cl : CL} {W : WX} {e : Expr} {xs : MA} {x y f qual : Str} {c : Nat} {fI : Addr} {fd : FuncData} {k : Nat} {p pos p2 : Pos}
theorem newE_post {c : Nat} {f : Str} {l : Loc} {μ : Nat → Addr} {st : Store} {H : Hp} {Q : VK} {E : XK} (h : Post X.K cl (VR X.K) μ st.nxt H Q E (mNewE c f xs l st)) :
    Post X.K cl (fun μ N H (ds : List D) (vs : List V) => VRs X.K μ N H ds vs) μ st.nxt H (fun vs H1 => ∃ v,vs = [v] ∧ ∀ a dx,H1 a = none → H1 dx = none → dx ≠ a → Q (.ref a) (newX H1 a (cl c) dx f v)) E (xs l st):=by
  unfold mNewE at h
  cases q : xs l st with
  | bad => rw [q] at h; exact h.elim
  | exc c' fs st' => rw [q] at h; exact h
  | ok ds st' =>
    rw [q] at h
    cases ds with
    | nil => exact h.elim
    | cons d0 r =>
      cases r with
      | cons d1 r => exact h.elim
      | nil =>
        intro μ' H' vs S' e' rv
        simp only [VRs] at rv
        obtain ⟨v,r,rfl,rv1,rfl⟩:=rv
        refine ⟨v,rfl,fun a dx na nd ne => ?_⟩
        have na2 : upd H' dx (.xd [(f,v)]) a = none:=by rw [upd_ne (Ne.symm ne)]; exact na
        have e2 : Ev X.K μ' st'.nxt H' (ext μ' st'.nxt a) (st'.nxt + 1) (newX H' a (cl c) dx f v):=(Ev.beside nd).trans (Ev.new na2)
        have S2 : SR X.K cl (ext μ' st'.nxt a) (st'.new (.exn c [(f,d0)])) (newX H' a (cl c) dx f v):=(S'.beside nd).mk_new na2 ⟨[(f,v)],.inr ⟨dx,upd_same,(upd_ne ne).trans upd_same⟩,rfl,by
          simp only [List.map,VRs]
          exact ⟨v,[],rfl,rv1.ev e2,rfl⟩⟩
        exact h _ _ _ S2 (e'.trans e2) (by
          simp only [VR]
          exact ⟨Nat.lt_succ_self _,by rw [ext_same]⟩)
theorem s_newE {st : Stmt} {q1 q2 q3 q4 : Pos} (c : Nat) (T : OexG X.K (cl c)) (hi : PySem.W.findIn X.K (.ref (cl c)) "__init__" = some (some (.ref fI)) ∧ PySem.W.typeIn X.K (.ref fI) = some (.type "function") ∧ PySem.W.findIn X.K (.ref (cl c)) f = some none)
    (D : FunD X.K "__init__" qual (defArgs st) (defBody st) (defScope st) [] [] fI fd) (S : FnScope ["self",y] ["self",y] (defScope st)) (hbd : defBody st = [.Assign [.Attribute (.Name "self" q1) f q2] (.Name y q3) q4]) (hb : ∀ (kV doc pm : Value) (an : Option Addr) (cdv ct : Value) (us : List Value),us.length = (["self",y] : List Str).length → bindArgs (PySem.W.fnOf "__init__" qual (defArgs st) (defBody st) (defScope st) .none kV doc pm an cdv ct) ⟨us,[]⟩ = pure ((["self",y] : List Str).zip us))
    (hr : RoomG (k + 2) X.A) (tk : Takes X W) (hm : X.mg x = some (.ref (cl c))) (ha : SA X cl W [e] xs)
    (hy1 : (y == ("__debug__" : Str)) = false:=by decide) (hy2 : (y == ("__classdict__" : Str)) = false:=by decide) (hy3 : (defScope st).names.lookup y = some .local:=by rfl) (hs3 : (defScope st).names.lookup ("self" : Str) = some .local:=by rfl) (hg : Gl X x:=by rfl)
    (hdb : (x == ("__debug__" : Str)) = false:=by decide) (he : starEach (e :: []) X.env = (false,eval e X.env) :: starEach [] X.env:=by rfl) (hpl : (backTo p2 (starEach [] X.env)).any (·.1) = false:=by rfl) :
    SE X cl W (.Call (.Name x p) [e] [] p2) (mNewE c f xs):=
  s_pe (pe_newE (f:=f) (k:=k + 1) T hi.1 hi.2.1 (init_fn (P:=X.prog) (w:=X.w) (mg:=X.mg) (base:=X.base) D S hbd T hi.2.2 hy1 hy2 hy3 hs3 k) (by simpa using hr.room) (D.bindsN hb) (L2.passes_call tk (fun _ _ _ _ z => z.elim)) hg hm ha hdb he hpl) fun σ H Q ⟨μ,st,l,S,L,h⟩ =>
    ⟨μ,st,l,S,L,newE_post h⟩
theorem s_newEK {st : Stmt} {q1 q2 q3 q4 kpos : Pos} (c : Nat) (T : OexG X.K (cl c)) (hi : PySem.W.findIn X.K (.ref (cl c)) "__init__" = some (some (.ref fI)) ∧ PySem.W.typeIn X.K (.ref fI) = some (.type "function") ∧ PySem.W.findIn X.K (.ref (cl c)) f = some none)
    (D : FunD X.K "__init__" qual (defArgs st) (defBody st) (defScope st) [] [] fI fd) (S : FnScope ["self",y] ["self",y] (defScope st)) (hbd : defBody st = [.Assign [.Attribute (.Name "self" q1) f q2] (.Name y q3) q4])
    (hkb : KB X.K fd ["self",y] 1 [y] [.p 0,.k 0] [])
    (hr : RoomG (k + 2) X.A) (tk : Takes X W) (hm : X.mg x = some (.ref (cl c))) (ha : SK X cl W [⟨some y,e,kpos⟩] xs)
    (hy1 : (y == ("__debug__" : Str)) = false:=by decide) (hy2 : (y == ("__classdict__" : Str)) = false:=by decide) (hy3 : (defScope st).names.lookup y = some .local:=by rfl) (hs3 : (defScope st).names.lookup ("self" : Str) = some .local:=by rfl) (hg : Gl X x:=by rfl)
    (hdb : (x == ("__debug__" : Str)) = false:=by decide) (hall : (backToKw p2 (keywordEach [⟨some y,e,kpos⟩] X.env)).all (·.1.isSome) = true:=by rfl) (hks : (backToKw p2 (keywordEach [⟨some y,e,kpos⟩] X.env)).filterMap (·.1) = [y]:=by rfl)
    (hpl : ((backTo p2 (starEach [] X.env)).any (·.1) || (backToKw p2 (keywordEach [⟨some y,e,kpos⟩] X.env)).any (·.1.isNone)) = false:=by rfl) :
    SE X cl W (.Call (.Name x p) [] [⟨some y,e,kpos⟩] p2) (mNewE c f xs):=
  s_pe (pe_newEK (f:=f) (k:=k + 1) T hi.1 hi.2.1 (init_fn (P:=X.prog) (w:=X.w) (mg:=X.mg) (base:=X.base) D S hbd T hi.2.2 hy1 hy2 hy3 hs3 k) (by simpa using hr.room) (fun s a u ks => by
    obtain ⟨dv,h⟩:=hkb
    exact h.to s [a] [u] ks rfl rfl) (L2.passes_call tk (fun _ _ _ _ z => z.elim)) hg hm ha hdb hall hks hpl) fun σ H Q ⟨μ,st,l,S,L,h⟩ =>
    ⟨μ,st,l,S,L,newE_post h⟩
theorem s_newE0 {tl : List Value} {B newId initId : String} (c : Nat) (b : BaseT tl B newId initId) (q : PySem.W.excIn X.K (cl c) tl newId = true) (hm : X.mg x = some (.ref (cl c))) (kC : PySem.W.keepIn X.K (.ref (cl c)) = true) (hg : Gl X x:=by rfl) (hdb : (x == ("__debug__" : Str)) = false:=by decide) :
    SE X cl W (.Call (.Name x p) [] [] p2) (mNewE0 c):=
  s_pe (pe_newE0 b.base q hm kC hg hdb) fun σ H Q ⟨μ,st,l,S,L,h⟩ a na =>
    h _ _ _ (S.mk_new (c:=.exn c []) na ⟨[],.inl ⟨rfl,upd_same⟩,rfl,by simp only [List.map,VRs]⟩) (Ev.new na) (by
      simp only [VR]
      exact ⟨Nat.lt_succ_self _,by rw [ext_same]⟩)
theorem exn_inst {P : Program} {w : World} {H : Hp} {h : Heap} {a C : Addr} {ps : List (Str × V)} (hok : HOk P w H h) (hx : ExnAt C H a ps) : ∃ o od,PySem.W.InstAt h a o C od:=by
  rcases hx with ⟨_,h1⟩ | ⟨dx,h1,hd⟩
  · obtain ⟨t1,ho⟩:=exo_at hok h1
    exact ⟨_,none,ho,rfl,rfl,trivial⟩
  · obtain ⟨t1,ho⟩:=exo_at hok h1
    have x : ObjOk P w H h dx (.xd ps):=hok dx _ hd
    obtain ⟨mA,hns,hr⟩:=x
    obtain ⟨od,hod,hl⟩:=lookIn_ns hns
    exact ⟨_,some od,ho,rfl,rfl,hod⟩
theorem call_isX {v : V} {u : Value} : CallR X (.builtin "isinstance") (fun xs H Q => ∃ (a C : Addr) (ps : List (Str × V)) (b : Bool),xs = [.ref a,v] ∧ ClsV v u ∧ ExcE X.K C ∧ PySem.W.kitOne X.K (.ref C) u = some b ∧ ExnAt C H a ps ∧ Q (.bl b) H):=by
  intro pins s σ H xs us Q I r h
  obtain ⟨a,C,ps,b,rfl,hcv,T,e,hx,q⟩:=h
  cases r with
  | cons rx rr =>
    cases rr with
    | cons rt rr =>
      cases rr
      cases rx
      obtain ⟨o,od,J⟩:=exn_inst I.hok hx
      cases hcv <;> cases rt <;> exact PySem.W.kia_one (PySem.W.kitx_exc (od:=od) T.cl T.hg T.hk T.hs T.ha T.hn T.ht T.hm) I.kIn J e (fun z => nomatch z) fun tk => ⟨.bl b,H,I.kept (t':=tk) fun _ _ z => z,rfl,q⟩
theorem s_isX {e2 : Expr} {m : ME} {v : V} {u : Value} {cs : List Nat} {g : Nat → Bool} (hE : ∀ c ∈ cs,ExcE X.K (cl c)) (hk : ∀ c ∈ cs,PySem.W.kitOne X.K (.ref (cl c)) u = some (g c)) (hc : ClsE X e2 v u) (he : SE X cl W e m) (hm : X.mg "isinstance" = none) (hg : Gl X "isinstance":=by rfl)
    (hv : bootBuiltins "isinstance" = some (.builtin "isinstance"):=by rfl)
    (h1 : starEach (e :: [e2]) X.env = (false,eval e X.env) :: starEach [e2] X.env:=by rfl) (h2 : starEach (e2 :: []) X.env = (false,eval e2 X.env) :: starEach [] X.env:=by rfl) (hpl : (backTo pos (starEach [e2] X.env)).any (·.1) = false:=by rfl) :
    SE X cl W (.Call (.Name "isinstance" p) [e,e2] [] pos) (mIsX cs g m):=
  s_pe (pe_callB call_isX hg hm hv (pa_cons he (pa_cons hc.pe pa_nil h2) h1) (by decide) (by decide) h1 hpl) fun σ H Q ⟨μ,st,l,S,L,h⟩ =>
    ⟨μ,st,l,S,L,Post.bind h fun d st1 μ1 H1 x _ S1 e1 r1 h1 => by
      cases d with
      | ref n =>
        simp only at h1
        cases z : st1.at_ n with
        | none => rw [z] at h1; exact h1.elim
        | some cell =>
          rw [z] at h1
          cases cell with
          | exn c fs =>
            simp only at h1
            by_cases y : c ∈ cs
            · rw [if_pos y] at h1
              simp only [VR] at r1
              obtain ⟨hn,rfl⟩:=r1
              obtain ⟨ps,hx,_,_⟩:=S1.get z
              exact ⟨μ1 n,cl c,ps,g c,rfl,hc.cls,hE c y,hk c y,hx,h1 μ1 H1 _ S1 Ev.refl (by simp only [VR])⟩
            · rw [if_neg y] at h1; exact h1.elim
          | _ => exact h1.elim
      | _ => exact h1.elim⟩
theorem pe_xfX {te : TE} {n : Str} (he : PE X e te) (hb : attributeBase e n X.env (eval e X.env) = eval e X.env:=by rfl) :
    PE X (.Attribute e n pos) (fun σ H Q => te σ H fun x H1 => ∃ (a C dx : Addr) (fs : List (Str × V)) (v : V),x = .ref a ∧ ExcE X.K C ∧ PySem.W.findIn X.K (.ref C) n = some none ∧ H1 a = some (exo a C (some dx)) ∧ H1 dx = some (.xd fs) ∧ fs.lookup n = some v ∧ Q v H1):=by
  refine ⟨fun pins s σ H Q I h => ?_⟩
  refine attr_of hb (thn (he.run pins s σ H _ I h) fun u s1 hh => ?_)
  obtain ⟨x,H1,I1,rx,a,C,dx,fs,v,ex,T,hno,ha,hd,l,q⟩:=hh
  subst ex
  obtain rfl : u = Value.ref a:=rx
  obtain ⟨t1,ho⟩:=exo_at I1.hok ha
  have hx : ObjOk X.prog X.w H1 s1.heap dx (.xd fs):=I1.hok dx _ hd
  obtain ⟨mA,hns,hr⟩:=hx
  obtain ⟨od,hod,hl⟩:=lookIn_ns hns
  obtain ⟨u,hu,ru⟩:=RelO.some_of (v:=v) (o:=mA n) (by rw [← l]; exact hr n)
  have J : PySem.W.InstAt s1.heap a _ C (some od):=⟨ho,rfl,rfl,hod⟩
  exact HandSPX.exc_get I1.kIn J T.hg T.hk T.hs (PySem.W.findObj_own T.hd hno rfl (by rw [hl,hu])) (handed_of ru) ⟨v,H1,I1.tok _,ru,q⟩
theorem s_xfX {m : ME} {n : Str} {cs : List Nat} (hE : ∀ c ∈ cs,ExcE X.K (cl c)) (hno : ∀ c ∈ cs,PySem.W.findIn X.K (.ref (cl c)) n = some none) (he : SE X cl W e m) (hb : attributeBase e n X.env (eval e X.env) = eval e X.env:=by rfl) :
    SE X cl W (.Attribute e n pos) (mXfX cs n m):=s_pe (pe_xfX he hb) fun σ H Q ⟨μ,st,l,S,L,h⟩ =>
  ⟨μ,st,l,S,L,Post.bind h fun d st1 μ1 H1 v _ S1 e1 r1 h1 => by
    cases d with
    | ref r =>
      simp only [VR] at r1
      obtain ⟨hr,rfl⟩:=r1
      simp only at h1
      cases z : st1.at_ r with
      | none => rw [z] at h1; exact h1.elim
      | some cell =>
        rw [z] at h1
        cases cell with
        | exn c fs =>
          simp only at h1
          by_cases y : c ∈ cs
          · rw [if_pos y] at h1
            cases q : fs.lookup n with
            | none => rw [q] at h1; exact h1.elim
            | some x =>
              rw [q] at h1
              obtain ⟨ps,hx,hn,hv⟩:=S1.get z
              obtain ⟨w,lw,rw'⟩:=lookA_rel hn hv q
              rcases hx with ⟨e0,_⟩ | ⟨dx,ha,hd⟩
              · rw [e0] at lw; cases lw
              · exact ⟨μ1 r,cl c,dx,ps,w,rfl,hE c y,hno c y,ha,hd,lw,h1 μ1 H1 w S1 Ev.refl rw'⟩
          · rw [if_neg y] at h1; exact h1.elim
        | _ => exact h1.elim
    | _ => exact h1.elim⟩
end
end DV
namespace DV
open PySem PySem.Spec PyProof.Rows L2
def reprX (x : D) (st : Store) : Option (D × Store):=match x with
  | .ref n => (match st.at_ n with
    | some (.dic [(.inr k,.non)]) => if (PyData.dict [(.str k,.none)]).showable = true ∧ (PyData.dict [(.str k,.none)]).shown.length ≤ sizeLine then some (.str (PyData.dict [(.str k,.none)]).shown,st) else none
    | _ => reprA (.ref n) st)
  | _ => reprA x st
section
variable {X : Cx} {cl : CL}
theorem dicN_reads {P : Program} {w : World} {H : Hp} {h : Heap} {a : Addr} {k : Str} (hok : HOk P w H h) (e : H a = some (.dK [(.inr k,.non)])) : Reads h (.ref a) (.dict [(.str k,.none)]) [a] ∧ a ≠ sysModules:=by
  obtain ⟨z,hd,vs,r,o,es,ep,ho,hx,hdat,_,hp,_⟩:=(show ObjOk P w H h a (.dK [(.inr k,.non)]) from hok a _ e)
  cases r with
  | @cons p q ps qs hh ht =>
    cases ht
    obtain ⟨q1,q2⟩:=q
    obtain ⟨rfl,h2⟩:=hh
    obtain rfl : q2 = .none:=h2
    obtain ⟨l⟩:=es
    cases hp with
    | @cons en kv es2 kvs2 hk hv hn =>
      cases hn
      obtain ⟨t2,ek⟩ : ∃ t2,en.key = .str k t2:=by
        rcases keyIs_shape (k:=.inr k) (v:=en.key) hk with ⟨_,_,e1,_⟩ | ⟨x,t2,e1,e2⟩
        · cases e1
        · cases e1
          exact ⟨t2,e2⟩
      have e0 : ([a] : List Addr) = a :: ([] ++ []) ++ ([] ++ []):=rfl
      rw [e0]
      refine ⟨.dict ho hx.1 hdat ?_ ?_,fun q => by rw [q] at hd; simp at hd⟩
      · show ReadsAll h [en.key] [.str k] ([] ++ [])
        rw [ek]
        exact .cons (.str k t2) .nil
      · show ReadsAll h [en.val] [.none] ([] ++ [])
        rw [hv]
        exact .cons .none .nil
theorem c_reprX (hg : X.A.guards = some []) (hu : X.A.units + 64 < cLine) : CallS X cl (.builtin "repr") (f1 reprX):=c_one fun pins s σ H x us Q μ st d I r S rd h => by
  have old : PostO X.K cl (VR X.K) μ st.nxt H Q (f1 reprA [d] st) → _:=fun h => c_reprA (cl:=cl) hg hu pins s σ H _ us Q I r ⟨μ,st,_,S,VRs.one rd,h⟩
  cases d with
  | ref n =>
    unfold reprX at h
    simp only at h
    cases q : st.at_ n with
    | none => rw [q] at h; exact old h
    | some cc =>
      rw [q] at h
      cases cc with
      | dic kvs =>
        cases kvs with
        | nil => exact old h
        | cons kv r2 =>
          obtain ⟨k,v⟩:=kv
          cases k with
          | inl j => exact old h
          | inr k =>
            cases v with
            | non =>
              cases r2 with
              | cons z r3 => exact old h
              | nil =>
                simp only at h
                by_cases c : (PyData.dict [(.str k,.none)]).showable = true ∧ (PyData.dict [(.str k,.none)]).shown.length ≤ sizeLine
                · rw [if_pos c] at h
                  have rd':=rd
                  simp only [VR] at rd'
                  obtain ⟨_,ex⟩:=rd'
                  subst ex
                  rw [Vals.ref1 r]
                  obtain ⟨ps,hd,hk,hv⟩:=S.get q
                  have e1 : ps = [(.inr k,.non)]:=by
                    cases ps with
                    | nil => simp at hk
                    | cons p1 ps =>
                      cases ps with
                      | cons p2 ps => simp at hk
                      | nil =>
                        obtain ⟨p1a,p1b⟩:=p1
                        simp at hk
                        simp only [List.map,VRs,VR] at hv
                        obtain ⟨v,r,e,ev,er⟩:=hv
                        subst er
                        subst ev
                        cases e
                        rw [hk]
                  subst e1
                  obtain ⟨rr,ne⟩:=dicN_reads I.hok hd
                  have dp : (PyData.dict [(.str k,.none)]).depth ≤ 4:=by
                    simp [PyData.depth,PyData.depthKv,PyData.depthAll]
                  refine repr_of_reads' rr c.1 (fun _ hm => ne (List.mem_singleton.mp hm).symm) hg (by omega) (fun b o e => e) (fun h' u tk hk2 => ?_) c.2
                  exact ⟨.str _,H,I.kept hk2,⟨u,rfl⟩,h μ H _ S Ev.refl (by simp only [VR])⟩
                · rw [if_neg c] at h
                  exact h.elim
            | _ => exact old h
      | _ => exact old h
  | _ => exact old h
end
end DV
namespace DV
open PySem PySem.Spec PyProof.Rows L2
section
variable {X : Cx} {cl : CL}
end
section
variable {X : Cx} {cl : CL}
end
end DV
namespace DV
open PySem PySem.Spec PyProof.Rows L2
def txK (e : Int × Value) : Str:=match e.2 with
  | .str k _ => k
  | _ => ""
def TxE (w : World) (e : Int × Value) : Prop:=∃ k tk,e.2 = Value.str k tk ∧ e.1 = hashStr w k
def TxR (w : World) (h : Heap) (a : Addr) (M : Str → Bool) (n : Nat) : Prop:=
  ∃ u items c t,h.get? a = some u ∧ u.ExactSet ∧ u.data = .set items c t ∧ (∀ e ∈ items.toList,TxE w e) ∧ (items.toList.map txK).Nodup ∧ (∀ k,M k = true ↔ k ∈ items.toList.map txK) ∧
    items.size < scanBound ∧ t.fits items.size = true ∧ items.size = n ∧ Ris t.place.toList ∧ (w.params.followText "set-order" = true ∨ t.led = true)
section
variable {P : Program} {w : World} {h h' : Heap} {a : Addr} {M : Str → Bool} {n : Nat}
theorem TxR.as {M' : Str → Bool} (R : TxR w h a M n) (e : ∀ k,M' k = M k) : TxR w h a M' n:=by
  obtain rfl : M' = M:=funext e
  exact R
theorem TxR.at_ (R : TxR w h a M n) (k : ∀ o,h.get? a = some o → h'.get? a = some o) : TxR w h' a M n:=
  let ⟨u,items,c,t,hu,r⟩:=R; ⟨u,items,c,t,k u hu,r⟩
end
section
variable {P : Program} {w : World} {A : Around} {E : Value → Shared → Prop} {s : Shared} {a : Addr} {M : Str → Bool} {n : Nat}
end
end DV
namespace DV
open PySem PySem.Spec PyProof.Rows L2
section
variable {P : Program} {w : World} {A : Around} {E : Value → Shared → Prop} {s : Shared}
variable {R : Result → Shared → Prop} {I : Addr} {fp wr : List Addr} {G : Array GenState → Array GenState → Prop} {n : Nat} {Pv : Nat → Value → Prop} {St : Nat → Shared → Prop}
set_option maxHeartbeats 16000000 in
end
section
variable {X : Cx} {cl : CL} {W : WX}
end
end DV
namespace DV
open PySem PySem.Spec PyProof.Rows L2
section
variable {prog : Program} {w : World} {A : Around} {E : Value → Shared → Prop} {s : Shared} {d : Addr} {vs : List (Key × Value)} {ks : List Str} {Q : Value → Shared → Prop}
end
section
variable {X : Cx} {cl : CL}
end
end DV
namespace DV
open PySem PySem.Spec PyProof.Rows L2
def dKey : D → Option Key
  | .str a => some (Sum.inr a)
  | .int i => some (Sum.inl i)
  | _ => none
def pairsD : List (ME × ME) → Loc → Store → Res (List (Key × D))
  | [],_,st => .ok [] st
  | q :: r,l,st => match q.1 l st with
    | .ok k st1 => (match q.2 l st1 with
      | .ok v st2 => (match dKey k with
        | some key => (match pairsD r l st2 with
          | .ok kvs st3 => .ok ((key,v) :: kvs) st3
          | _ => .bad)
        | none => .bad)
      | _ => .bad)
    | _ => .bad
def mergeD (kvs more : List (Key × D)) : List (Key × D):=more.foldl (fun acc kv => dPut acc kv.1 kv.2) kvs
def mDisp (ps : List (ME × ME)) : ME:=fun l st => match pairsD ps l st with
  | .ok kvs st1 => if kvs.length ≤ 15 then .ok (.ref st1.nxt) (st1.new (.dic (mergeD [] kvs))) else .bad
  | _ => .bad
theorem key_rel {K : PySem.W.Frag} {μ : Nat → Addr} {N : Nat} {H : Hp} {k : D} {x : V} {key : Key} (r : VR K μ N H k x) (h : dKey k = some key) : x = kV key:=by
  cases k with
  | str a => cases h; simp only [VR] at r; exact r
  | int a => cases h; simp only [VR] at r; exact r
  | _ => cases h
theorem merge_rel {K : PySem.W.Frag} {μ : Nat → Addr} {N : Nat} {H : Hp} : ∀ {more : List (Key × D)} {vs : List (Key × V)} {kvs : List (Key × D)} {ps : List (Key × V)},vs.map (·.1) = more.map (·.1) → VRs K μ N H (more.map (·.2)) (vs.map (·.2)) → ps.map (·.1) = kvs.map (·.1) → VRs K μ N H (kvs.map (·.2)) (ps.map (·.2)) →
    (mergeK ps vs).map (·.1) = (mergeD kvs more).map (·.1) ∧ VRs K μ N H ((mergeD kvs more).map (·.2)) ((mergeK ps vs).map (·.2))
  | [],[],kvs,ps,_,_,e,r => ⟨e,r⟩
  | [],_ :: _,_,_,h,_,_,_ => by cases h
  | _ :: _,[],_,_,h,_,_,_ => by cases h
  | m :: more,v :: vs,kvs,ps,h,hr,e,r => by
    simp only [List.map_cons,List.cons.injEq] at h
    simp only [List.map_cons,VRs] at hr
    obtain ⟨y,yr,ey,r1,r2⟩:=hr
    cases ey
    obtain ⟨a,b⟩:=put_rel (k:=m.1) r1 e r
    have:=merge_rel (more:=more) (vs:=vs) h.2 r2 a b
    have ek : mergeK ps (v :: vs) = mergeK (putK ps m.1 v.2) vs:=by
      show mergeK (putK ps v.1 v.2) vs = _
      rw [h.1]
    rw [ek]
    exact this
section
variable {X : Cx} {cl : CL} {W : WX}
theorem w_pairs {p : Addr} {σ : L2.St} : ∀ (ps : List (ME × ME)) (μ : Nat → Addr) (st : Store) (H : Hp) (l : Loc),SR X.K cl μ st H → LR X.K μ st.nxt H l σ → H p = some (.dK []) → (∀ n,n < st.nxt → μ n ≠ p) → ∀ kvs st2,pairsD ps l st = .ok kvs st2 → ∀ (Q : List (V × V) → Hp → Prop),
    (∀ (μ' : Nat → Addr) (H' : Hp) (vs : List (Key × V)),SR X.K cl μ' st2 H' → Ev X.K μ st.nxt H μ' st2.nxt H' → H' p = some (.dK []) → (∀ n,n < st2.nxt → μ' n ≠ p) → vs.map (·.1) = kvs.map (·.1) → VRs X.K μ' st2.nxt H' (kvs.map (·.2)) (vs.map (·.2)) → Q (vs.map fun kv => (kV kv.1,kv.2)) H') →
    tPairs (ps.map fun q => (rdE X.K cl W q.1,rdE X.K cl W q.2)) σ H Q
  | [],μ,st,H,l,S,L,hp,ap,kvs,st2,h,Q,hQ => by
    cases h
    exact hQ μ H [] S Ev.refl hp ap rfl (by simp only [List.map_nil,VRs])
  | (mk,mv) :: r,μ,st,H,l,S,L,hp,ap,kvs,st2,h,Q,hQ => by
    unfold pairsD at h
    simp only at h
    refine ⟨μ,st,l,S,L,?_⟩
    cases q1 : mk l st with
    | exc a b c => rw [q1] at h; cases h
    | bad => rw [q1] at h; cases h
    | ok k st1 =>
      rw [q1] at h
      simp only at h
      show Post X.K cl (VR X.K) μ st.nxt H _ (WE W σ) (mk l st)
      rw [q1]
      intro μ1 H1 x S1 e1 r1
      have hp1 : H1 p = some (.dK []):=e1.kp p _ hp ap (fun _ e => by cases e)
      have ap1 : ∀ n,n < st1.nxt → μ1 n ≠ p:=e1.apart ap (by rw [hp]; simp)
      refine ⟨μ1,st1,l,S1,L.ev e1,?_⟩
      cases q2 : mv l st1 with
      | exc a b c => rw [q2] at h; cases h
      | bad => rw [q2] at h; cases h
      | ok v st3 =>
        rw [q2] at h
        simp only at h
        cases q3 : dKey k with
        | none => rw [q3] at h; cases h
        | some key =>
          rw [q3] at h
          simp only at h
          cases q4 : pairsD r l st3 with
          | exc a b c => rw [q4] at h; cases h
          | bad => rw [q4] at h; cases h
          | ok kvs' st4 =>
            rw [q4] at h
            cases h
            show Post X.K cl (VR X.K) μ1 st1.nxt H1 _ (WE W σ) (mv l st1)
            rw [q2]
            intro μ2 H2 y S2 e2 r2
            have hp2 : H2 p = some (.dK []):=e2.kp p _ hp1 ap1 (fun _ e => by cases e)
            have ap2 : ∀ n,n < st3.nxt → μ2 n ≠ p:=e2.apart ap1 (by rw [hp1]; simp)
            refine w_pairs r μ2 st3 H2 l S2 (L.ev (e1.trans e2)) hp2 ap2 kvs' _ q4 _ fun μ' H' vs S' e' hp' ap' hk hv => ?_
            have ex:=key_rel r1 q3
            subst ex
            have:=hQ μ' H' ((key,y) :: vs) S' (e1.trans (e2.trans e')) hp' ap' (by rw [List.map_cons,List.map_cons,hk]) (by
              simp only [List.map_cons,VRs]
              exact ⟨y,_,rfl,r2.ev e',hv⟩)
            exact this
theorem w_disp (ps : List (ME × ME)) : ∀ σ H Q,rdE X.K cl W (mDisp ps) σ H Q → tDisp (ps.map fun q => (rdE X.K cl W q.1,rdE X.K cl W q.2)) σ H Q:=fun σ H Q ⟨μ,st,l,S,L,h⟩ => by
  intro p hp
  unfold mDisp at h
  cases q : pairsD ps l st with
  | exc a b c => rw [q] at h; exact h.elim
  | bad => rw [q] at h; exact h.elim
  | ok kvs st1 =>
    rw [q] at h
    simp only at h
    by_cases z : kvs.length ≤ 15
    · rw [if_pos z] at h
      refine w_pairs ps μ st _ l (S.beside hp) (L.ev (Ev.beside hp)) upd_same (S.ne_new hp) kvs st1 q _ fun μ' H' vs S' e' hp' ap' hk hv => ⟨hp',vs,rfl,?_,?_⟩
      · have:=congrArg List.length hk
        simp only [List.length_map] at this
        omega
      · obtain ⟨m1,m2⟩:=merge_rel (kvs:=[]) (ps:=[]) hk hv rfl (by simp only [List.map_nil,VRs])
        exact h (ext μ' st1.nxt p) _ (.ref p) ((S'.off hp' trivial ap').adopt (c:=.dic (mergeD [] kvs)) ap' ⟨_,upd_same,m1,VRs.ev0 (Ev0.off hp' trivial) m2⟩) ((((Ev.beside hp).trans e').off hp hp' trivial).adopt hp) (by
          simp only [VR]
          exact ⟨Nat.lt_succ_self _,by rw [ext_same]⟩)
    · rw [if_neg z] at h; exact h.elim
abbrev SPs (X : Cx) (cl : CL) (W : WX) (pos : Pos) (keys : List (Option Expr)) (values : List Expr) (ps : List (ME × ME)) : Prop:=PPs X pos keys values (ps.map fun q => (rdE X.K cl W q.1,rdE X.K cl W q.2))
theorem sp_nil {pos : Pos} : SPs X cl W pos [] [] []:=pps_nil
theorem sp_cons {pos : Pos} {k v : Expr} {ks : List (Option Expr)} {vs : List Expr} {mk mv : ME} {ps : List (ME × ME)} (hk : SE X cl W k mk) (hv : SE X cl W v mv) (hr : SPs X cl W pos ks vs ps) : SPs X cl W pos (some k :: ks) (v :: vs) ((mk,mv) :: ps):=pps_cons hk hv hr
theorem s_disp {pos : Pos} {keys : List (Option Expr)} {values : List Expr} {ps : List (ME × ME)} (h : SPs X cl W pos keys values ps) (hall : keys.all (·.isSome) = true:=by rfl) (hl : keys.length = values.length:=by rfl) (h0 : keys ≠ []:=by simp)
    (h15 : keys.length ≤ 15:=by decide) : SE X cl W (.Dict keys values pos) (mDisp ps):=s_pe (pe_disp h hall hl h0 h15) (w_disp ps)
end
@[simp] theorem ev_mDisp (ps : List (ME × ME)) (l : Loc) (st : Store) : mDisp ps l st = (match pairsD ps l st with
  | .ok kvs st1 => if kvs.length ≤ 15 then .ok (.ref st1.nxt) (st1.new (.dic (mergeD [] kvs))) else .bad
  | _ => .bad):=rfl
end DV
namespace DV
open PySem PySem.Spec PyProof.Rows L2
section
variable {X : Cx} {cl : CL} {W : WX} {o e : Expr} {mo me : ME} {apos pos : Pos}
end
section
variable {X : Cx} {cl : CL} {W : WX} {e : Expr} {m : ME} {pos : Pos}
inductive SJ (X : Cx) (cl : CL) (W : WX) : List Expr → List ME → Prop where
  | nil : SJ X cl W [] []
  | cons {e : Expr} {m : ME} {es : List Expr} {ms : List ME} (h : SE X cl W e m) (r : SJ X cl W es ms) : SJ X cl W (e :: es) (m :: ms)
end
section
variable {X : Cx} {cl : CL}
end
section
variable {X : Cx} {cl : CL} {W : WX} {k c : Nat} {f : Addr} {fd : FuncData} {ps : List Str} {F : FD} {e : Expr} {m : ME} {p pos : Pos}
end
end DV
namespace DV
open PySem PySem.Spec PyProof.Rows L2
section
variable {prog : Program} {w : World} {A : Around} {E : Value → Shared → Prop} {s : Shared} {K : PySem.W.Frag} {x y C f : Addr} {ox oy : Obj} {od od' : Option Obj}
end
section
variable {X : Cx} {cl : CL} {k c : Nat} {f : Addr} {fd : FuncData} {ps : List Str} {F : FD}
end
end DV
namespace DV
open PySem PySem.Spec PyProof.Rows L2
section
variable {prog : Program} {w : World} {A : Around} {E : Value → Shared → Prop} {s : Shared} {K : PySem.W.Frag} {x C f : Addr} {ox : Obj} {od : Option Obj}
end
section
variable {X : Cx} {cl : CL} {W : WX} {k c : Nat} {f : Addr} {fd : FuncData} {ps : List Str} {F : FD} {e : Expr} {m : ME} {p pos : Pos}
end
end DV
namespace DV
open PySem PySem.Spec PyProof.Rows L2
section
variable {prog : Program} {w : World} {A : Around} {E : Value → Shared → Prop} {s : Shared} {K : PySem.W.Frag} {x y C f : Addr} {ox oy : Obj} {od od' : Option Obj}
end
section
variable {X : Cx} {cl : CL} {c : Nat}
end
section
variable {prog : Program} {w : World} {A : Around} {E : Value → Shared → Prop} {s : Shared} {K : PySem.W.Frag} {x C f : Addr} {ox : Obj} {od : Option Obj}
end
section
variable {X : Cx} {cl : CL} {W : WX} {k c : Nat} {f : Addr} {fd : FuncData} {ps : List Str} {F : FD} {e : Expr} {m : ME} {p pos : Pos}
end
end DV
namespace DV
open PySem PySem.Spec PyProof.Rows L2
section
variable {X : Cx} {cl : CL} {W : WX} {k c : Nat} {f : Addr} {fd : FuncData} {ps : List Str} {F : FD} {mo mi mv : ME} {o i e : Expr} {pos pos' : Pos}
end
end DV
namespace DV
open PySem PySem.Spec PyProof.Rows L2
section
variable {prog : Program} {w : World} {K : Type} [DecidableEq K] {knd : KeyKind prog w K} {A : Around} {E : Value → Shared → Prop} {s : Shared}
end
end DV
namespace DV
open PySem PySem.Spec PyProof.Rows L2
section
variable {X : Cx} {ax kx vx : Expr} {ta tk tv : TE} {pos : Pos}
end
section
variable {X : Cx} {cl : CL} {W : WX}
end
end DV
namespace L01
open DV G PySem L2
noncomputable section
def F_law_bases : FD:=mDef 1 2 (msSeq (msAsg (mLst (maCons (mIsX XC (fun c => decide (c ∈ ([16,12,11,22,19,14,18,10,25,7,24,9,23,13,8,17,15,20,21,26,34] : List Nat))) (mVar 0)) (maCons (mIsX XC (fun c => decide (c ∈ ([28,27,35] : List Nat))) (mVar 0)) (maCons (mIsX XC (fun c => decide (c ∈ ([32,29,36,31,30,33] : List Nat))) (mVar 0)) maNil)))) (tgName 1))
  (msRet (m2 fAdd (mVar 1) (mLst (maCons (mIsX XC (fun c => decide (c ∈ ([16,12,11,22,19,14,18,10,25,7,24,9,23,13,8,17,15,20,21,26,34] : List Nat))) (mVar 0)) (maCons (mIsX XC (fun c => decide (c ∈ ([28,27,35] : List Nat))) (mVar 0)) (maCons (mIsX XC (fun c => decide (c ∈ ([32,29,36,31,30,33] : List Nat))) (mVar 0)) maNil)))))))
def F_law_sorts : FD:=mDef 1 2 (msSeq (msAsg (mLst (maCons (mIsX XC (fun c => decide (c ∈ ([9] : List Nat))) (mVar 0)) (maCons (mIsX XC (fun c => decide (c ∈ ([10] : List Nat))) (mVar 0)) (maCons (mIsX XC (fun c => decide (c ∈ ([11] : List Nat))) (mVar 0)) maNil)))) (tgName 1))
  (msSeq (msAsg (m2 fAdd (mVar 1) (mLst (maCons (mIsX XC (fun c => decide (c ∈ ([12] : List Nat))) (mVar 0)) (maCons (mIsX XC (fun c => decide (c ∈ ([13] : List Nat))) (mVar 0)) (maCons (mIsX XC (fun c => decide (c ∈ ([14] : List Nat))) (mVar 0)) maNil))))) (tgName 1))
  (msSeq (msAsg (m2 fAdd (mVar 1) (mLst (maCons (mIsX XC (fun c => decide (c ∈ ([7] : List Nat))) (mVar 0)) (maCons (mIsX XC (fun c => decide (c ∈ ([15] : List Nat))) (mVar 0)) (maCons (mIsX XC (fun c => decide (c ∈ ([16] : List Nat))) (mVar 0)) maNil))))) (tgName 1))
  (msSeq (msAsg (m2 fAdd (mVar 1) (mLst (maCons (mIsX XC (fun c => decide (c ∈ ([8] : List Nat))) (mVar 0)) (maCons (mIsX XC (fun c => decide (c ∈ ([17] : List Nat))) (mVar 0)) (maCons (mIsX XC (fun c => decide (c ∈ ([18] : List Nat))) (mVar 0)) maNil))))) (tgName 1))
  (msSeq (msAsg (m2 fAdd (mVar 1) (mLst (maCons (mIsX XC (fun c => decide (c ∈ ([19] : List Nat))) (mVar 0)) (maCons (mIsX XC (fun c => decide (c ∈ ([20] : List Nat))) (mVar 0)) (maCons (mIsX XC (fun c => decide (c ∈ ([21] : List Nat))) (mVar 0)) maNil))))) (tgName 1))
  (msSeq (msAsg (m2 fAdd (mVar 1) (mLst (maCons (mIsX XC (fun c => decide (c ∈ ([22] : List Nat))) (mVar 0)) (maCons (mIsX XC (fun c => decide (c ∈ ([23] : List Nat))) (mVar 0)) (maCons (mIsX XC (fun c => decide (c ∈ ([24] : List Nat))) (mVar 0)) maNil))))) (tgName 1))
  (msSeq (msAsg (m2 fAdd (mVar 1) (mLst (maCons (mIsX XC (fun c => decide (c ∈ ([25] : List Nat))) (mVar 0)) (maCons (mIsX XC (fun c => decide (c ∈ ([26] : List Nat))) (mVar 0)) (maCons (mIsX XC (fun c => decide (c ∈ ([27] : List Nat))) (mVar 0)) maNil))))) (tgName 1))
  (msSeq (msAsg (m2 fAdd (mVar 1) (mLst (maCons (mIsX XC (fun c => decide (c ∈ ([28] : List Nat))) (mVar 0)) (maCons (mIsX XC (fun c => decide (c ∈ ([32] : List Nat))) (mVar 0)) (maCons (mIsX XC (fun c => decide (c ∈ ([33] : List Nat))) (mVar 0)) maNil))))) (tgName 1))
  (msRet (m2 fAdd (mVar 1) (mLst (maCons (mIsX XC (fun c => decide (c ∈ ([29] : List Nat))) (mVar 0)) (maCons (mIsX XC (fun c => decide (c ∈ ([30] : List Nat))) (mVar 0)) (maCons (mIsX XC (fun c => decide (c ∈ ([31] : List Nat))) (mVar 0)) maNil))))))))))))))
def F_law_kept : FD:=mDef 2 2 (msSeq (msIf (tB_ (m2 fIn (mVar 1) (mLst (maCons (mC (.int 15)) (maCons (mC (.int 16)) (maCons (mC (.int 17)) (maCons (mC (.int 18)) (maCons (mC (.int 19)) (maCons (mC (.int 21)) (maCons (mC (.int 22)) maNil))))))))))
  (msRet (mXfX XC "index" (mVar 0)))
  msNil)
  (msRet (mIf (tB_ (m2 fEq (mVar 1) (mC (.int 23)))) (mXfX XC "limit" (mVar 0)) (mIf (tB_ (m2 fLt (mVar 1) (mC (.int 24)))) (mXfX XC "given" (mVar 0)) (mC .non)))))
def law_right_C1 : ME:=(m2 fEq (mVar 4) (mVar 2))
def law_right_C2 : ME:=(m2 fEq (mVar 4) (mVar 3))
def law_right_L1 : MS:=(msSeq (msAsg (mIf (tB_ (m2 fLt (mVar 2) (mC (.int 20)))) (mC (.int 0)) (mIf (tB_ (m2 fLt (mVar 2) (mC (.int 22)))) (mC (.int 1)) (mC (.int 2)))) (tgName 3))
  (msSeq (msIf (tB_ (m2 fNe (mCall F_law_sorts [] (maCons (m2 fIx (mVar 0) (mVar 2)) maNil)) (mLc (miRng rng1 (maCons (mC (.int 27)) maNil)) (tgName 4) tYes_ law_right_C1 [4])))
  (msRet (mC (.bl false)))
  msNil)
  (msSeq (msIf (tB_ (m2 fNe (mCall F_law_bases [] (maCons (m2 fIx (mVar 0) (mVar 2)) maNil)) (m2 fMul (mLc (miRng rng1 (maCons (mC (.int 3)) maNil)) (tgName 4) tYes_ law_right_C2 [4]) (mC (.int 2)))))
  (msRet (mC (.bl false)))
  msNil)
  (msIf (tB_ (m2 fNe (mL (f1 reprX) (maCons (mCall F_law_kept [] (maCons (m2 fIx (mVar 0) (mVar 2)) (maCons (mVar 2) maNil))) maNil)) (mL (f1 reprX) (maCons (mIf (tB_ (m2 fLt (mVar 2) (mC (.int 24)))) (mVar 1) (mC .non)) maNil))))
  (msRet (mC (.bl false)))
  msNil))))
def F_law_right : FD:=mDef 2 5 (msSeq (msFor (miRng rng1 (maCons (mC (.int 27)) maNil)) (tgName 2)
  law_right_L1)
  (msRet (mC (.bl true))))
def F_law_all : FD:=mDef 1 2 (msSeq (msAsg (mLst (maCons (mNewE 9 "given" (maCons (mVar 0) maNil)) (maCons (mNewE 10 "given" (maCons (mVar 0) maNil)) (maCons (mNewE 11 "given" (maCons (mVar 0) maNil)) (maCons (mNewE 12 "given" (maCons (mVar 0) maNil)) (maCons (mNewE 13 "given" (maCons (mVar 0) maNil)) maNil)))))) (tgName 1))
  (msSeq (msAsg (m2 fAdd (mVar 1) (mLst (maCons (mNewE 14 "given" (maCons (mVar 0) maNil)) (maCons (mNewE 7 "given" (maCons (mVar 0) maNil)) (maCons (mNewE 15 "given" (maCons (mVar 0) maNil)) (maCons (mNewE 16 "given" (maCons (mVar 0) maNil)) maNil)))))) (tgName 1))
  (msSeq (msAsg (m2 fAdd (mVar 1) (mLst (maCons (mNewE 8 "given" (maCons (mVar 0) maNil)) (maCons (mNewE 17 "given" (maCons (mVar 0) maNil)) (maCons (mNewE 18 "given" (maCons (mVar 0) maNil)) (maCons (mNewE 19 "given" (maCons (mVar 0) maNil)) (maCons (mNewE 20 "given" (maCons (mVar 0) maNil)) maNil))))))) (tgName 1))
  (msSeq (msAsg (m2 fAdd (mVar 1) (mLst (maCons (mNewE 21 "given" (maCons (mVar 0) maNil)) (maCons (mNewE 22 "index" (maCons (mVar 0) maNil)) (maCons (mNewE 23 "index" (maCons (mVar 0) maNil)) (maCons (mNewE 24 "index" (maCons (mVar 0) maNil)) maNil)))))) (tgName 1))
  (msSeq (msAsg (m2 fAdd (mVar 1) (mLst (maCons (mNewE 25 "index" (maCons (mVar 0) maNil)) (maCons (mNewE 26 "index" (maCons (mVar 0) maNil)) (maCons (mNewE 27 "given" (maCons (mVar 0) maNil)) (maCons (mNewE 28 "index" (maCons (mVar 0) maNil)) (maCons (mNewE 32 "index" (maCons (mVar 0) maNil)) maNil))))))) (tgName 1))
  (msRet (m2 fAdd (mVar 1) (mLst (maCons (mNewE 33 "limit" (maCons (mVar 0) maNil)) (maCons (mNewE0 29) (maCons (mNewE0 30) (maCons (mNewE0 31) maNil))))))))))))
def F_law_named : FD:=mDef 1 2 (msSeq (msAsg (mLst (maCons (mNewE 9 "given" (maCons (mVar 0) maNil)) (maCons (mNewE 10 "given" (maCons (mVar 0) maNil)) (maCons (mNewE 11 "given" (maCons (mVar 0) maNil)) (maCons (mNewE 12 "given" (maCons (mVar 0) maNil)) maNil))))) (tgName 1))
  (msSeq (msAsg (m2 fAdd (mVar 1) (mLst (maCons (mNewE 13 "given" (maCons (mVar 0) maNil)) (maCons (mNewE 14 "given" (maCons (mVar 0) maNil)) (maCons (mNewE 7 "given" (maCons (mVar 0) maNil)) maNil))))) (tgName 1))
  (msSeq (msAsg (m2 fAdd (mVar 1) (mLst (maCons (mNewE 15 "given" (maCons (mVar 0) maNil)) (maCons (mNewE 16 "given" (maCons (mVar 0) maNil)) (maCons (mNewE 8 "given" (maCons (mVar 0) maNil)) maNil))))) (tgName 1))
  (msSeq (msAsg (m2 fAdd (mVar 1) (mLst (maCons (mNewE 17 "given" (maCons (mVar 0) maNil)) (maCons (mNewE 18 "given" (maCons (mVar 0) maNil)) (maCons (mNewE 19 "given" (maCons (mVar 0) maNil)) maNil))))) (tgName 1))
  (msSeq (msAsg (m2 fAdd (mVar 1) (mLst (maCons (mNewE 20 "given" (maCons (mVar 0) maNil)) (maCons (mNewE 21 "given" (maCons (mVar 0) maNil)) (maCons (mNewE 22 "index" (maCons (mVar 0) maNil)) maNil))))) (tgName 1))
  (msSeq (msAsg (m2 fAdd (mVar 1) (mLst (maCons (mNewE 23 "index" (maCons (mVar 0) maNil)) (maCons (mNewE 24 "index" (maCons (mVar 0) maNil)) (maCons (mNewE 25 "index" (maCons (mVar 0) maNil)) maNil))))) (tgName 1))
  (msSeq (msAsg (m2 fAdd (mVar 1) (mLst (maCons (mNewE 26 "index" (maCons (mVar 0) maNil)) (maCons (mNewE 27 "given" (maCons (mVar 0) maNil)) (maCons (mNewE 28 "index" (maCons (mVar 0) maNil)) (maCons (mNewE 32 "index" (maCons (mVar 0) maNil)) maNil)))))) (tgName 1))
  (msRet (m2 fAdd (mVar 1) (mLst (maCons (mNewE 33 "limit" (maCons (mVar 0) maNil)) (maCons (mNewE0 29) (maCons (mNewE0 30) (maCons (mNewE0 31) maNil))))))))))))))
def law_L1 : MS:=(msSeq (msAsg (mCall F_law_jar [] (maCons (mVar 0) (maCons (mVar 2) maNil))) (tgName 3))
  (msSeq (msAsg (mCall F_law_pick [] (maCons (mVar 3) (maCons (mLst (maCons (mC .non) (maCons (mC (.int 0)) (maCons (mC (.bl true)) (maCons (m1 fNeg (mC (.int 3))) (maCons (m2 fPow (mC (.int 10)) (mC (.int 50))) (maCons (mC (.str "")) (maCons (mC (.str "sky")) (maCons (mTup maNil) (maCons (mTup (maCons (mC (.str "a")) (maCons (mC (.int 1)) maNil))) (maCons (mLst (maCons (mC (.int 2)) maNil)) (maCons (mDisp [((mC (.str "a")),(mC .non))]) (maCons (mTup (maCons (mC (.int 1)) (maCons (mTup (maCons (mC (.int 2)) (maCons (mLst (maCons (mC (.int 3)) maNil)) maNil))) maNil))) maNil))))))))))))) maNil))) (tgName 4))
  (msIf (tOr_ (tNot_ (tB_ (mCall F_law_right [] (maCons (mCall F_law_all [] (maCons (mVar 4) maNil)) (maCons (mVar 4) maNil))))) (tNot_ (tB_ (mCall F_law_right [] (maCons (mCall F_law_named [] (maCons (mVar 4) maNil)) (maCons (mVar 4) maNil))))))
  (msRet (mC (.bl false)))
  msNil)))
def F_law : FD:=mDef 1 5 (msSeq (msAsg (mLst (maCons (mC (.int 8)) (maCons (mC (.int 8)) (maCons (mC (.int 1000000000000)) (maCons (mC (.int 4)) (maCons (mC (.int 4)) (maCons (mC (.int 5)) (maCons (mC (.int 6)) maNil)))))))) (tgName 1))
  (msSeq (msIf (tB_ (m2 fNe (mL (f1 reprX) (maCons (mVar 1) maNil)) (mC (.str "[8, 8, 1000000000000, 4, 4, 5, 6]"))))
  (msRet (mC (.bl false)))
  msNil)
  (msSeq (msIf (tB_ (m2 fNe (mLst (maCons (mCall F_law_bases [] (maCons (mNewE0 34) maNil)) (maCons (mCall F_law_bases [] (maCons (mNewE0 35) maNil)) maNil))) (mLst (maCons (m2 fMul (mLst (maCons (mC (.bl true)) (maCons (mC (.bl false)) (maCons (mC (.bl false)) maNil)))) (mC (.int 2))) (maCons (m2 fMul (mLst (maCons (mC (.bl false)) (maCons (mC (.bl true)) (maCons (mC (.bl false)) maNil)))) (mC (.int 2))) maNil)))))
  (msRet (mC (.bl false)))
  msNil)
  (msSeq (msIf (tB_ (m2 fNe (mCall F_law_bases [] (maCons (mNewE0 36) maNil)) (m2 fMul (mLst (maCons (mC (.bl false)) (maCons (mC (.bl false)) (maCons (mC (.bl true)) maNil)))) (mC (.int 2)))))
  (msRet (mC (.bl false)))
  msNil)
  (msSeq (msFor (miRng rng1 (maCons (mL (f2I maxI) (maCons (mC (.int 2)) (maCons (mL (f2I minI) (maCons (mL (f1 lenD) (maCons (mVar 0) maNil)) (maCons (mC (.int 4)) maNil))) maNil))) maNil)) (tgName 2)
  law_L1)
  (msRet (mC (.bl true))))))))
end
end L01
namespace DV
open PySem PySem.Spec PyProof.Rows L2 NdefX
section
variable {M : Model} {A : Around} {E : Value → Shared → Prop} {s₀ s : Shared} {m cm : Str → Option Value} {env : Env} {cs : List (Str × Addr)}
end
section
variable {M : Model} {A : Around} {E : Value → Shared → Prop} {s : Shared}
end
structure NScopeC (N ps fr : List Str) (sc : Scope) : Prop where
  kind : sc.kind = .function
  co : sc.isCoroutine = false
  gen : sc.isGenerator = false
  nd : N.Nodup
  pre : N.take (ps.length + fr.length) = ps ++ fr
  par : ∀ x ∈ ps,sc.names.lookup x = some .local ∨ sc.names.lookup x = some .cell
  own : ∀ y ∈ sc.names,y.2 = .cell → y.1 ∉ fr
  free : ∀ y ∈ sc.names,y.2 = .free → y.1 ∈ fr
  frk : ∀ x ∈ fr,sc.names.lookup x = some .free
section
variable {CX : CXT} {P : Program} {w : World} {K : PySem.W.Frag} {mg : Str → Option Value} {base : Heap} {N ps fr : List Str} {F : NF} {f : Addr} {A : Around} {outer : List Env} {s s1 : Shared} {H : Hp} {E : XK} {us : List Value} {vs : List V} {ws : List (Option V)}
end
section
variable {P : Program} {w : World} {K : PySem.W.Frag} {mg : Str → Option Value} {base : Heap} {a : Nat → Addr} {T : List NTab}
end
end DV
namespace L01
open DV G PySem PySem.Spec PyProof.Rows L2 He NdefX
def clN : Nat → Str:=fun n => match n with
  | 32 => "Broken"
  | 29 => "DoNotFit"
  | 28 => "InUse"
  | 16 => "InvalidAnew"
  | 12 => "InvalidBeat"
  | 11 => "InvalidFate"
  | 22 => "InvalidFrames"
  | 19 => "InvalidHope"
  | 14 => "InvalidIndex"
  | 18 => "InvalidName"
  | 10 => "InvalidPart"
  | 25 => "InvalidPlan"
  | 7 => "InvalidPlayer"
  | 24 => "InvalidSheets"
  | 9 => "InvalidSize"
  | 23 => "InvalidSolid"
  | 13 => "InvalidSpot"
  | 8 => "InvalidStart"
  | 17 => "InvalidText"
  | 15 => "InvalidTurn"
  | 36 => "NoAnswer"
  | 20 => "NotAFilm"
  | 21 => "NotAWish"
  | 31 => "NothingPainted"
  | 30 => "NothingToUndo"
  | 33 => "TooMany"
  | 27 => "UnknownName"
  | 35 => "WrongName"
  | 26 => "WrongRow"
  | 34 => "WrongValue"
  | _ => ""
abbrev clA (K : PySem.W.Frag) : Nat → Addr:=fun n => ga K (clN n)
theorem x_nm : ∀ x ∈ XN,clN x.2 = x.1:=by decide +kernel
theorem x_mem {c : Nat} (h : c ∈ XC) : ∃ x ∈ XN,x.2 = c ∧ clN c = x.1:=by
  have e : XN.map (·.2) = XC:=rfl
  rw [← e] at h
  obtain ⟨x,hx,rfl⟩:=List.mem_map.mp h
  exact ⟨x,hx,rfl,x_nm x hx⟩
section
variable {K : PySem.W.Frag} {y : Str} {z : String} {S : List Nat}
theorem x_e (h : xvC K = true) : ∀ c ∈ XC,ExcE K (clA K c):=fun c hc => by
  obtain ⟨x,hx,_,e⟩:=x_mem hc
  show ExcE K (ga K (clN c))
  rw [e]
  exact (xc_ok (List.all_eq_true.mp h x hx)).2
theorem x_k (h : xvS y S K = true) : ∀ c ∈ XC,PySem.W.kitOne K (.ref (clA K c)) (.ref (ga K y)) = some (decide (c ∈ S)):=fun c hc => by
  obtain ⟨x,hx,rfl,e⟩:=x_mem hc
  show PySem.W.kitOne K (.ref (ga K (clN x.2))) _ = _
  rw [e]
  exact of_decide_eq_true (List.all_eq_true.mp h x hx)
theorem x_t (h : xvT z S K = true) : ∀ c ∈ XC,PySem.W.kitOne K (.ref (clA K c)) (.type z) = some (decide (c ∈ S)):=fun c hc => by
  obtain ⟨x,hx,rfl,e⟩:=x_mem hc
  show PySem.W.kitOne K (.ref (ga K (clN x.2))) _ = _
  rw [e]
  exact of_decide_eq_true (List.all_eq_true.mp h x hx)
theorem x_a (h : xvA K = true) : ∀ c ∈ XC,PySem.W.findIn K (.ref (clA K c)) "index" = some none ∧ PySem.W.findIn K (.ref (clA K c)) "given" = some none ∧ PySem.W.findIn K (.ref (clA K c)) "limit" = some none:=fun c hc => by
  obtain ⟨x,hx,_,e⟩:=x_mem hc
  show PySem.W.findIn K (.ref (ga K (clN c))) _ = _ ∧ PySem.W.findIn K (.ref (ga K (clN c))) _ = _ ∧ PySem.W.findIn K (.ref (ga K (clN c))) _ = _
  rw [e]
  exact xa_ok (List.all_eq_true.mp h x hx)
theorem x_ni (h : xvA K = true) : ∀ c ∈ XC,PySem.W.findIn K (.ref (clA K c)) "index" = some none:=fun c hc => (x_a h c hc).1
theorem x_ng (h : xvA K = true) : ∀ c ∈ XC,PySem.W.findIn K (.ref (clA K c)) "given" = some none:=fun c hc => (x_a h c hc).2.1
theorem x_nl (h : xvA K = true) : ∀ c ∈ XC,PySem.W.findIn K (.ref (clA K c)) "limit" = some none:=fun c hc => (x_a h c hc).2.2
end
def tabs (K : PySem.W.Frag) : List NTab:=[]
abbrev cl (K : PySem.W.Frag) (p : PP) : CL:=CL.of (clA K) (tabs K) p
section
variable {P : Program} {w : World} {K : PySem.W.Frag} {mg : Str → Option Value} {base : Heap} {p : PP}
theorem sc_law_bases : FnScope ["_law_e","_law_found"] ["_law_e"] (defScope s_law_bases):=⟨rfl,rfl,rfl,by decide +kernel,rfl,by decide +kernel,by decide +kernel⟩
abbrev GD_law_bases (P : Program) (w : World) (K : PySem.W.Frag) (mg : Str → Option Value) (base : Heap) (p : PP) : Prop:=GD P w K mg base (cl K p) 1 (ga K "_law_bases") "_law_bases" "_law_bases" s_law_bases [] ["_law_e"] F_law_bases
theorem bd_law_bases (kV doc pm : Value) (an : Option Addr) (cdv ct : Value) (us : List Value) (hl : us.length = (["_law_e"] : List Str).length) : bindArgs (PySem.W.fnOf "_law_bases" "_law_bases" (defArgs s_law_bases) (defBody s_law_bases) (defScope s_law_bases) .none kV doc pm an cdv ct) ⟨us,[]⟩ = pure ((["_law_e"] : List Str).zip us):=match us,hl with | [_],_ => rfl
theorem ok_law_bases (T : Tx fx fn K mg) (TB : TBs base mg (csOf K tf)) : GD_law_bases P w K mg base p:=by
  refine gd_of (T.says.def_ 0 (d:=d_law_bases) rfl) sc_law_bases rfl rfl fun cdv A outer s H E hr tk => ?_
  exact (ss_cons (ss_set 1 sc_law_bases.nd (s_lst (sa_cons (s_isX (cl:=cl K _) (x_e (T.any 8)) (x_k (T.any 9)) (ce_own rfl (T.glo 10)) (s_var 0) (hm:=T.free 11)) (sa_cons (s_isX (cl:=cl K _) (x_e (T.any 8)) (x_k (T.any 12)) (ce_own rfl (T.glo 13)) (s_var 0) (hm:=T.free 11)) (sa_cons (s_isX (cl:=cl K _) (x_e (T.any 8)) (x_k (T.any 14)) (ce_own rfl (T.glo 15)) (s_var 0) (hm:=T.free 11)) sa_nil)))))
    (ss_one (ss_ret (s_op o_add (s_var 1) (s_lst (sa_cons (s_isX (cl:=cl K _) (x_e (T.any 8)) (x_t (T.any 16)) (ce_ty rfl (T.free 17) rfl) (s_var 0) (hm:=T.free 11)) (sa_cons (s_isX (cl:=cl K _) (x_e (T.any 8)) (x_t (T.any 18)) (ce_ty rfl (T.free 19) rfl) (s_var 0) (hm:=T.free 11)) (sa_cons (s_isX (cl:=cl K _) (x_e (T.any 8)) (x_t (T.any 20)) (ce_ty rfl (T.free 21) rfl) (s_var 0) (hm:=T.free 11)) sa_nil))))))))
theorem sc_law_jar : FnScope ["_law_script","_law_k","_law_mixed","_law_cell","_law_own","_law_digits"] ["_law_script","_law_k"] (defScope s_law_jar):=⟨rfl,rfl,rfl,by decide +kernel,rfl,by decide +kernel,by decide +kernel⟩
abbrev GD_law_jar (P : Program) (w : World) (K : PySem.W.Frag) (mg : Str → Option Value) (base : Heap) (p : PP) : Prop:=GD P w K mg base (cl K p) 1 (ga K "_law_jar") "_law_jar" "_law_jar" s_law_jar [] ["_law_script","_law_k"] F_law_jar
theorem bd_law_jar (kV doc pm : Value) (an : Option Addr) (cdv ct : Value) (us : List Value) (hl : us.length = (["_law_script","_law_k"] : List Str).length) : bindArgs (PySem.W.fnOf "_law_jar" "_law_jar" (defArgs s_law_jar) (defBody s_law_jar) (defScope s_law_jar) .none kV doc pm an cdv ct) ⟨us,[]⟩ = pure ((["_law_script","_law_k"] : List Str).zip us):=match us,hl with | [_,_],_ => rfl
theorem ok_law_jar (T : Tx fx fn K mg) (TB : TBs base mg (csOf K tf)) : GD_law_jar P w K mg base p:=by
  refine gd_of (T.says.def_ 1 (d:=d_law_jar) rfl) sc_law_jar rfl rfl fun cdv A outer s H E hr tk => ?_
  exact (ss_cons (ss_set 2 sc_law_jar.nd (s_op o_add (s_op o_mul (s_op o_mul s_int (s_op o_add (s_var 1) s_int)) (s_op o_add (s_var 1) s_int)) (s_op o_mul s_int (s_callB c_len rfl (T.free 29) rfl (sa_cons (s_var 0) sa_nil)))))
    (ss_cons (ss_for (passes_of rfl) rfl (i_seq (s_sl (s_var 0) so_none (so_some s_int))) (g_name 3 sc_law_jar.nd)
    (ss_one (ss_set 2 sc_law_jar.nd (s_op o_mod (s_callTy c_int rfl (T.free 33) rfl (sa_cons (s_op o_add (s_op o_mul (s_var 2) s_int) (s_var 3)) sa_nil)) s_int))))
    (ss_cons (ss_set 4 sc_law_jar.nd (s_if (t_cmp o_lt (s_var 1) (s_callB c_len rfl (T.free 29) rfl (sa_cons (s_var 0) sa_nil))) (s_ix (x_ix hr.hu) (s_var 0) (s_var 1)) s_int))
    (ss_cons (ss_set 5 sc_law_jar.nd (s_if (t_w (t_or (t_cmp o_lt (s_var 4) s_int) (t_or1 (t_cmp o_ge (s_var 4) (s_op o_pow s_int s_int))))) (s_callB c_abs rfl (T.free 34) rfl (sa_cons (s_var 4) sa_nil)) s_int))
    (ss_one (ss_ret (s_lst (sa_cons (s_var 5) (sa_cons (s_op o_mod (s_callTy c_int rfl (T.free 33) rfl (sa_cons (s_op o_add (s_op o_add (s_op o_mul (s_var 2) s_int) (s_op o_mul (s_var 4) s_int)) (s_op o_mul s_int (s_op o_add (s_var 1) s_int))) sa_nil)) s_int) (sa_cons s_int sa_nil))))))))))
theorem sc_law_dip : FnScope ["_law_jar_here","_law_many","_law_digit","_law_seed"] ["_law_jar_here","_law_many"] (defScope s_law_dip):=⟨rfl,rfl,rfl,by decide +kernel,rfl,by decide +kernel,by decide +kernel⟩
abbrev GD_law_dip (P : Program) (w : World) (K : PySem.W.Frag) (mg : Str → Option Value) (base : Heap) (p : PP) : Prop:=GD P w K mg base (cl K p) 1 (ga K "_law_dip") "_law_dip" "_law_dip" s_law_dip [] ["_law_jar_here","_law_many"] F_law_dip
theorem bd_law_dip (kV doc pm : Value) (an : Option Addr) (cdv ct : Value) (us : List Value) (hl : us.length = (["_law_jar_here","_law_many"] : List Str).length) : bindArgs (PySem.W.fnOf "_law_dip" "_law_dip" (defArgs s_law_dip) (defBody s_law_dip) (defScope s_law_dip) .none kV doc pm an cdv ct) ⟨us,[]⟩ = pure ((["_law_jar_here","_law_many"] : List Str).zip us):=match us,hl with | [_,_],_ => rfl
theorem ok_law_dip (T : Tx fx fn K mg) (TB : TBs base mg (csOf K tf)) : GD_law_dip P w K mg base p:=by
  refine gd_of (T.says.def_ 2 (d:=d_law_dip) rfl) sc_law_dip rfl rfl fun cdv A outer s H E hr tk => ?_
  exact (ss_cons (ss_sub hr.hu (s_op o_add (s_ix (x_ix hr.hu) (s_var 0) s_int) s_int) (s_var 0) s_int)
    (ss_cons (ss_if (t_cmp o_gt (s_ix (x_ix hr.hu) (s_var 0) s_int) s_int)
    (ss_cons (ss_set 2 sc_law_dip.nd (s_op o_mod (s_callTy c_int rfl (T.free 33) rfl (sa_cons (s_ix (x_ix hr.hu) (s_var 0) s_int) sa_nil)) (s_var 1)))
    (ss_cons (ss_sub hr.hu (s_op o_fdiv (s_callTy c_int rfl (T.free 33) rfl (sa_cons (s_ix (x_ix hr.hu) (s_var 0) s_int) sa_nil)) (s_var 1)) (s_var 0) s_int)
    (ss_one (ss_ret (s_var 2)))))
    ss_nil)
    (ss_cons (ss_set 3 sc_law_dip.nd (s_callTy c_int rfl (T.free 33) rfl (sa_cons (s_ix (x_ix hr.hu) (s_var 0) s_int) sa_nil)))
    (ss_cons (ss_sub hr.hu (s_op o_mod (s_callTy c_int rfl (T.free 33) rfl (sa_cons (s_op o_add (s_op o_add (s_op o_mul (s_var 3) s_int) (s_op o_mul (s_ix (x_ix hr.hu) (s_var 0) s_int) s_int)) s_int) sa_nil)) s_int) (s_var 0) s_int)
    (ss_one (ss_ret (s_op o_mod (s_callTy c_int rfl (T.free 33) rfl (sa_cons (s_op o_fdiv (s_ix (x_ix hr.hu) (s_var 0) s_int) s_int) sa_nil)) (s_var 1))))))))
theorem sc_law_pick : FnScope ["_law_jar_here","_law_menu","_law_at"] ["_law_jar_here","_law_menu"] (defScope s_law_pick):=⟨rfl,rfl,rfl,by decide +kernel,rfl,by decide +kernel,by decide +kernel⟩
abbrev GD_law_pick (P : Program) (w : World) (K : PySem.W.Frag) (mg : Str → Option Value) (base : Heap) (p : PP) : Prop:=GD P w K mg base (cl K p) 2 (ga K "_law_pick") "_law_pick" "_law_pick" s_law_pick [] ["_law_jar_here","_law_menu"] F_law_pick
theorem bd_law_pick (kV doc pm : Value) (an : Option Addr) (cdv ct : Value) (us : List Value) (hl : us.length = (["_law_jar_here","_law_menu"] : List Str).length) : bindArgs (PySem.W.fnOf "_law_pick" "_law_pick" (defArgs s_law_pick) (defBody s_law_pick) (defScope s_law_pick) .none kV doc pm an cdv ct) ⟨us,[]⟩ = pure ((["_law_jar_here","_law_menu"] : List Str).zip us):=match us,hl with | [_,_],_ => rfl
theorem ok_law_pick (T : Tx fx fn K mg) (TB : TBs base mg (csOf K tf)) : GD_law_pick P w K mg base p:=by
  have ok_law_dip_ : GD_law_dip P w K mg base p:=ok_law_dip T TB
  obtain ⟨fd_law_dip,G_law_dip,D_law_dip⟩:=ok_law_dip_.ex
  refine gd_of (T.says.def_ 3 (d:=d_law_pick) rfl) sc_law_pick rfl rfl fun cdv A outer s H E hr tk => ?_
  exact (ss_cons (ss_set 2 sc_law_pick.nd (s_cal ok_law_dip_ (hr.mono (by decide)) tk (T.glo 36) (sa_cons (s_var 0) (sa_cons (s_callB c_len rfl (T.free 29) rfl (sa_cons (s_var 1) sa_nil)) sa_nil)) bd_law_dip))
    (ss_one (ss_ret (s_ix (x_ix hr.hu) (s_var 1) (s_var 2)))))
theorem sc_law_sorts : FnScope ["_law_e","_law_found"] ["_law_e"] (defScope s_law_sorts):=⟨rfl,rfl,rfl,by decide +kernel,rfl,by decide +kernel,by decide +kernel⟩
abbrev GD_law_sorts (P : Program) (w : World) (K : PySem.W.Frag) (mg : Str → Option Value) (base : Heap) (p : PP) : Prop:=GD P w K mg base (cl K p) 1 (ga K "_law_sorts") "_law_sorts" "_law_sorts" s_law_sorts [] ["_law_e"] F_law_sorts
theorem bd_law_sorts (kV doc pm : Value) (an : Option Addr) (cdv ct : Value) (us : List Value) (hl : us.length = (["_law_e"] : List Str).length) : bindArgs (PySem.W.fnOf "_law_sorts" "_law_sorts" (defArgs s_law_sorts) (defBody s_law_sorts) (defScope s_law_sorts) .none kV doc pm an cdv ct) ⟨us,[]⟩ = pure ((["_law_e"] : List Str).zip us):=match us,hl with | [_],_ => rfl
theorem ok_law_sorts (T : Tx fx fn K mg) (TB : TBs base mg (csOf K tf)) : GD_law_sorts P w K mg base p:=by
  refine gd_of (T.says.def_ 4 (d:=d_law_sorts) rfl) sc_law_sorts rfl rfl fun cdv A outer s H E hr tk => ?_
  exact (ss_cons (ss_set 1 sc_law_sorts.nd (s_lst (sa_cons (s_isX (cl:=cl K _) (x_e (T.any 8)) (x_k (T.any 38)) (ce_own rfl (T.glo 39)) (s_var 0) (hm:=T.free 11)) (sa_cons (s_isX (cl:=cl K _) (x_e (T.any 8)) (x_k (T.any 40)) (ce_own rfl (T.glo 41)) (s_var 0) (hm:=T.free 11)) (sa_cons (s_isX (cl:=cl K _) (x_e (T.any 8)) (x_k (T.any 42)) (ce_own rfl (T.glo 43)) (s_var 0) (hm:=T.free 11)) sa_nil)))))
    (ss_cons (ss_set 1 sc_law_sorts.nd (s_op o_add (s_var 1) (s_lst (sa_cons (s_isX (cl:=cl K _) (x_e (T.any 8)) (x_k (T.any 44)) (ce_own rfl (T.glo 45)) (s_var 0) (hm:=T.free 11)) (sa_cons (s_isX (cl:=cl K _) (x_e (T.any 8)) (x_k (T.any 46)) (ce_own rfl (T.glo 47)) (s_var 0) (hm:=T.free 11)) (sa_cons (s_isX (cl:=cl K _) (x_e (T.any 8)) (x_k (T.any 48)) (ce_own rfl (T.glo 49)) (s_var 0) (hm:=T.free 11)) sa_nil))))))
    (ss_cons (ss_set 1 sc_law_sorts.nd (s_op o_add (s_var 1) (s_lst (sa_cons (s_isX (cl:=cl K _) (x_e (T.any 8)) (x_k (T.any 50)) (ce_own rfl (T.glo 51)) (s_var 0) (hm:=T.free 11)) (sa_cons (s_isX (cl:=cl K _) (x_e (T.any 8)) (x_k (T.any 52)) (ce_own rfl (T.glo 53)) (s_var 0) (hm:=T.free 11)) (sa_cons (s_isX (cl:=cl K _) (x_e (T.any 8)) (x_k (T.any 54)) (ce_own rfl (T.glo 55)) (s_var 0) (hm:=T.free 11)) sa_nil))))))
    (ss_cons (ss_set 1 sc_law_sorts.nd (s_op o_add (s_var 1) (s_lst (sa_cons (s_isX (cl:=cl K _) (x_e (T.any 8)) (x_k (T.any 56)) (ce_own rfl (T.glo 57)) (s_var 0) (hm:=T.free 11)) (sa_cons (s_isX (cl:=cl K _) (x_e (T.any 8)) (x_k (T.any 58)) (ce_own rfl (T.glo 59)) (s_var 0) (hm:=T.free 11)) (sa_cons (s_isX (cl:=cl K _) (x_e (T.any 8)) (x_k (T.any 60)) (ce_own rfl (T.glo 61)) (s_var 0) (hm:=T.free 11)) sa_nil))))))
    (ss_cons (ss_set 1 sc_law_sorts.nd (s_op o_add (s_var 1) (s_lst (sa_cons (s_isX (cl:=cl K _) (x_e (T.any 8)) (x_k (T.any 62)) (ce_own rfl (T.glo 63)) (s_var 0) (hm:=T.free 11)) (sa_cons (s_isX (cl:=cl K _) (x_e (T.any 8)) (x_k (T.any 64)) (ce_own rfl (T.glo 65)) (s_var 0) (hm:=T.free 11)) (sa_cons (s_isX (cl:=cl K _) (x_e (T.any 8)) (x_k (T.any 66)) (ce_own rfl (T.glo 67)) (s_var 0) (hm:=T.free 11)) sa_nil))))))
    (ss_cons (ss_set 1 sc_law_sorts.nd (s_op o_add (s_var 1) (s_lst (sa_cons (s_isX (cl:=cl K _) (x_e (T.any 8)) (x_k (T.any 68)) (ce_own rfl (T.glo 69)) (s_var 0) (hm:=T.free 11)) (sa_cons (s_isX (cl:=cl K _) (x_e (T.any 8)) (x_k (T.any 70)) (ce_own rfl (T.glo 71)) (s_var 0) (hm:=T.free 11)) (sa_cons (s_isX (cl:=cl K _) (x_e (T.any 8)) (x_k (T.any 72)) (ce_own rfl (T.glo 73)) (s_var 0) (hm:=T.free 11)) sa_nil))))))
    (ss_cons (ss_set 1 sc_law_sorts.nd (s_op o_add (s_var 1) (s_lst (sa_cons (s_isX (cl:=cl K _) (x_e (T.any 8)) (x_k (T.any 74)) (ce_own rfl (T.glo 75)) (s_var 0) (hm:=T.free 11)) (sa_cons (s_isX (cl:=cl K _) (x_e (T.any 8)) (x_k (T.any 76)) (ce_own rfl (T.glo 77)) (s_var 0) (hm:=T.free 11)) (sa_cons (s_isX (cl:=cl K _) (x_e (T.any 8)) (x_k (T.any 78)) (ce_own rfl (T.glo 79)) (s_var 0) (hm:=T.free 11)) sa_nil))))))
    (ss_cons (ss_set 1 sc_law_sorts.nd (s_op o_add (s_var 1) (s_lst (sa_cons (s_isX (cl:=cl K _) (x_e (T.any 8)) (x_k (T.any 80)) (ce_own rfl (T.glo 81)) (s_var 0) (hm:=T.free 11)) (sa_cons (s_isX (cl:=cl K _) (x_e (T.any 8)) (x_k (T.any 82)) (ce_own rfl (T.glo 83)) (s_var 0) (hm:=T.free 11)) (sa_cons (s_isX (cl:=cl K _) (x_e (T.any 8)) (x_k (T.any 84)) (ce_own rfl (T.glo 85)) (s_var 0) (hm:=T.free 11)) sa_nil))))))
    (ss_one (ss_ret (s_op o_add (s_var 1) (s_lst (sa_cons (s_isX (cl:=cl K _) (x_e (T.any 8)) (x_k (T.any 86)) (ce_own rfl (T.glo 87)) (s_var 0) (hm:=T.free 11)) (sa_cons (s_isX (cl:=cl K _) (x_e (T.any 8)) (x_k (T.any 88)) (ce_own rfl (T.glo 89)) (s_var 0) (hm:=T.free 11)) (sa_cons (s_isX (cl:=cl K _) (x_e (T.any 8)) (x_k (T.any 90)) (ce_own rfl (T.glo 91)) (s_var 0) (hm:=T.free 11)) sa_nil)))))))))))))))
theorem sc_law_kept : FnScope ["_law_e","_law_at"] ["_law_e","_law_at"] (defScope s_law_kept):=⟨rfl,rfl,rfl,by decide +kernel,rfl,by decide +kernel,by decide +kernel⟩
abbrev GD_law_kept (P : Program) (w : World) (K : PySem.W.Frag) (mg : Str → Option Value) (base : Heap) (p : PP) : Prop:=GD P w K mg base (cl K p) 1 (ga K "_law_kept") "_law_kept" "_law_kept" s_law_kept [] ["_law_e","_law_at"] F_law_kept
theorem bd_law_kept (kV doc pm : Value) (an : Option Addr) (cdv ct : Value) (us : List Value) (hl : us.length = (["_law_e","_law_at"] : List Str).length) : bindArgs (PySem.W.fnOf "_law_kept" "_law_kept" (defArgs s_law_kept) (defBody s_law_kept) (defScope s_law_kept) .none kV doc pm an cdv ct) ⟨us,[]⟩ = pure ((["_law_e","_law_at"] : List Str).zip us):=match us,hl with | [_,_],_ => rfl
theorem ok_law_kept (T : Tx fx fn K mg) (TB : TBs base mg (csOf K tf)) : GD_law_kept P w K mg base p:=by
  refine gd_of (T.says.def_ 5 (d:=d_law_kept) rfl) sc_law_kept rfl rfl fun cdv A outer s H E hr tk => ?_
  exact (ss_cons (ss_if (t_cmp (o_in hr.hu) (s_var 1) (s_lst (sa_cons s_int (sa_cons s_int (sa_cons s_int (sa_cons s_int (sa_cons s_int (sa_cons s_int (sa_cons s_int sa_nil)))))))))
    (ss_one (ss_ret (s_xfX (cl:=cl K _) (x_e (T.any 8)) (x_ni (T.any 93)) (s_var 0))))
    ss_nil)
    (ss_one (ss_ret (s_if (t_cmp (o_eq hr.hu) (s_var 1) s_int) (s_xfX (cl:=cl K _) (x_e (T.any 8)) (x_nl (T.any 93)) (s_var 0)) (s_if (t_cmp o_lt (s_var 1) s_int) (s_xfX (cl:=cl K _) (x_e (T.any 8)) (x_ng (T.any 93)) (s_var 0)) s_non)))))
theorem sc_law_right : FnScope ["_law_some","_law_thing","_law_at","_law_base","_law_k"] ["_law_some","_law_thing"] (defScope s_law_right):=⟨rfl,rfl,rfl,by decide +kernel,rfl,by decide +kernel,by decide +kernel⟩
abbrev GD_law_right (P : Program) (w : World) (K : PySem.W.Frag) (mg : Str → Option Value) (base : Heap) (p : PP) : Prop:=GD P w K mg base (cl K p) 2 (ga K "_law_right") "_law_right" "_law_right" s_law_right [] ["_law_some","_law_thing"] F_law_right
theorem bd_law_right (kV doc pm : Value) (an : Option Addr) (cdv ct : Value) (us : List Value) (hl : us.length = (["_law_some","_law_thing"] : List Str).length) : bindArgs (PySem.W.fnOf "_law_right" "_law_right" (defArgs s_law_right) (defBody s_law_right) (defScope s_law_right) .none kV doc pm an cdv ct) ⟨us,[]⟩ = pure ((["_law_some","_law_thing"] : List Str).zip us):=match us,hl with | [_,_],_ => rfl
theorem ok_law_right (T : Tx fx fn K mg) (TB : TBs base mg (csOf K tf)) : GD_law_right P w K mg base p:=by
  have ok_law_sorts_ : GD_law_sorts P w K mg base p:=ok_law_sorts T TB
  obtain ⟨fd_law_sorts,G_law_sorts,D_law_sorts⟩:=ok_law_sorts_.ex
  have ok_law_bases_ : GD_law_bases P w K mg base p:=ok_law_bases T TB
  obtain ⟨fd_law_bases,G_law_bases,D_law_bases⟩:=ok_law_bases_.ex
  have ok_law_kept_ : GD_law_kept P w K mg base p:=ok_law_kept T TB
  obtain ⟨fd_law_kept,G_law_kept,D_law_kept⟩:=ok_law_kept_.ex
  refine gd_of (T.says.def_ 6 (d:=d_law_right) rfl) sc_law_right rfl rfl fun cdv A outer s H E hr tk => ?_
  exact (ss_cons (ss_for (passes_of rfl) rfl (i_rng1 (T.free 32) (sa_cons s_int sa_nil)) (g_name 2 sc_law_right.nd)
    (ss_cons (ss_set 3 sc_law_right.nd (s_if (t_cmp o_lt (s_var 2) s_int) s_int (s_if (t_cmp o_lt (s_var 2) s_int) s_int s_int)))
    (ss_cons (ss_if (t_cmp (o_ne hr.hu) (s_cal ok_law_sorts_ (hr.mono (by decide)) tk (T.glo 92) (sa_cons (s_ix (x_ix hr.hu) (s_var 0) (s_var 2)) sa_nil) bd_law_sorts) (s_lc [("_law_k",4)] rfl sc_law_right.nd (i_rng1 (T.free 32) (sa_cons s_int sa_nil)) (blkOk_by (N:=["_law_some","_law_thing","_law_at","_law_base","_law_k"]) (sc:=defScope s_law_right) (own:=[("_law_k",4)]) (by decide +kernel)) (fun _ _ _ _ _ => (g_name 4 sc_law_right.nd)) (fun _ _ _ _ _ => ts_nil) (fun _ _ _ _ _ => (s_cmp (o_eq hr.hu) (s_var 4) (s_var 2)))))
    (ss_one (ss_ret s_bl))
    ss_nil)
    (ss_cons (ss_if (t_cmp (o_ne hr.hu) (s_cal ok_law_bases_ (hr.mono (by decide)) tk (T.glo 24) (sa_cons (s_ix (x_ix hr.hu) (s_var 0) (s_var 2)) sa_nil) bd_law_bases) (s_op o_mul (s_lc [("_law_k",4)] rfl sc_law_right.nd (i_rng1 (T.free 32) (sa_cons s_int sa_nil)) (blkOk_by (N:=["_law_some","_law_thing","_law_at","_law_base","_law_k"]) (sc:=defScope s_law_right) (own:=[("_law_k",4)]) (by decide +kernel)) (fun _ _ _ _ _ => (g_name 4 sc_law_right.nd)) (fun _ _ _ _ _ => ts_nil) (fun _ _ _ _ _ => (s_cmp (o_eq hr.hu) (s_var 4) (s_var 3)))) s_int))
    (ss_one (ss_ret s_bl))
    ss_nil)
    (ss_one (ss_if (t_cmp (o_ne hr.hu) (s_callB (c_reprX hr.g hr.hu) rfl (T.free 7) rfl (sa_cons (s_cal ok_law_kept_ (hr.mono (by decide)) tk (T.glo 94) (sa_cons (s_ix (x_ix hr.hu) (s_var 0) (s_var 2)) (sa_cons (s_var 2) sa_nil)) bd_law_kept) sa_nil)) (s_callB (c_reprX hr.g hr.hu) rfl (T.free 7) rfl (sa_cons (s_if (t_cmp o_lt (s_var 2) s_int) (s_var 1) s_non) sa_nil)))
    (ss_one (ss_ret s_bl))
    ss_nil))))))
    (ss_one (ss_ret s_bl)))
theorem sc_InvalidSize_init : FnScope ["self","given"] ["self","given"] (defScope s_InvalidSize_init):=⟨rfl,rfl,rfl,by decide +kernel,rfl,by decide +kernel,by decide +kernel⟩
theorem bd_InvalidSize_init (kV doc pm : Value) (an : Option Addr) (cdv ct : Value) (us : List Value) (hl : us.length = (["self","given"] : List Str).length) : bindArgs (PySem.W.fnOf "__init__" "InvalidSize.__init__" (defArgs s_InvalidSize_init) (defBody s_InvalidSize_init) (defScope s_InvalidSize_init) .none kV doc pm an cdv ct) ⟨us,[]⟩ = pure ((["self","given"] : List Str).zip us):=match us,hl with | [_,_],_ => rfl
theorem xd_InvalidSize_init (T : Tx fx fn K mg) : ∃ fd,FunD K "__init__" "InvalidSize.__init__" (defArgs s_InvalidSize_init) (defBody s_InvalidSize_init) (defScope s_InvalidSize_init) [] [] (ma K (ga K "InvalidSize") "__init__") fd:=T.says.def_ 7 (d:=d_InvalidSize_init) rfl
theorem sc_InvalidPart_init : FnScope ["self","given"] ["self","given"] (defScope s_InvalidPart_init):=⟨rfl,rfl,rfl,by decide +kernel,rfl,by decide +kernel,by decide +kernel⟩
theorem bd_InvalidPart_init (kV doc pm : Value) (an : Option Addr) (cdv ct : Value) (us : List Value) (hl : us.length = (["self","given"] : List Str).length) : bindArgs (PySem.W.fnOf "__init__" "InvalidPart.__init__" (defArgs s_InvalidPart_init) (defBody s_InvalidPart_init) (defScope s_InvalidPart_init) .none kV doc pm an cdv ct) ⟨us,[]⟩ = pure ((["self","given"] : List Str).zip us):=match us,hl with | [_,_],_ => rfl
theorem xd_InvalidPart_init (T : Tx fx fn K mg) : ∃ fd,FunD K "__init__" "InvalidPart.__init__" (defArgs s_InvalidPart_init) (defBody s_InvalidPart_init) (defScope s_InvalidPart_init) [] [] (ma K (ga K "InvalidPart") "__init__") fd:=T.says.def_ 8 (d:=d_InvalidPart_init) rfl
theorem sc_InvalidFate_init : FnScope ["self","given"] ["self","given"] (defScope s_InvalidFate_init):=⟨rfl,rfl,rfl,by decide +kernel,rfl,by decide +kernel,by decide +kernel⟩
theorem bd_InvalidFate_init (kV doc pm : Value) (an : Option Addr) (cdv ct : Value) (us : List Value) (hl : us.length = (["self","given"] : List Str).length) : bindArgs (PySem.W.fnOf "__init__" "InvalidFate.__init__" (defArgs s_InvalidFate_init) (defBody s_InvalidFate_init) (defScope s_InvalidFate_init) .none kV doc pm an cdv ct) ⟨us,[]⟩ = pure ((["self","given"] : List Str).zip us):=match us,hl with | [_,_],_ => rfl
theorem xd_InvalidFate_init (T : Tx fx fn K mg) : ∃ fd,FunD K "__init__" "InvalidFate.__init__" (defArgs s_InvalidFate_init) (defBody s_InvalidFate_init) (defScope s_InvalidFate_init) [] [] (ma K (ga K "InvalidFate") "__init__") fd:=T.says.def_ 9 (d:=d_InvalidFate_init) rfl
theorem sc_InvalidBeat_init : FnScope ["self","given"] ["self","given"] (defScope s_InvalidBeat_init):=⟨rfl,rfl,rfl,by decide +kernel,rfl,by decide +kernel,by decide +kernel⟩
theorem bd_InvalidBeat_init (kV doc pm : Value) (an : Option Addr) (cdv ct : Value) (us : List Value) (hl : us.length = (["self","given"] : List Str).length) : bindArgs (PySem.W.fnOf "__init__" "InvalidBeat.__init__" (defArgs s_InvalidBeat_init) (defBody s_InvalidBeat_init) (defScope s_InvalidBeat_init) .none kV doc pm an cdv ct) ⟨us,[]⟩ = pure ((["self","given"] : List Str).zip us):=match us,hl with | [_,_],_ => rfl
theorem xd_InvalidBeat_init (T : Tx fx fn K mg) : ∃ fd,FunD K "__init__" "InvalidBeat.__init__" (defArgs s_InvalidBeat_init) (defBody s_InvalidBeat_init) (defScope s_InvalidBeat_init) [] [] (ma K (ga K "InvalidBeat") "__init__") fd:=T.says.def_ 10 (d:=d_InvalidBeat_init) rfl
theorem sc_InvalidSpot_init : FnScope ["self","given"] ["self","given"] (defScope s_InvalidSpot_init):=⟨rfl,rfl,rfl,by decide +kernel,rfl,by decide +kernel,by decide +kernel⟩
theorem bd_InvalidSpot_init (kV doc pm : Value) (an : Option Addr) (cdv ct : Value) (us : List Value) (hl : us.length = (["self","given"] : List Str).length) : bindArgs (PySem.W.fnOf "__init__" "InvalidSpot.__init__" (defArgs s_InvalidSpot_init) (defBody s_InvalidSpot_init) (defScope s_InvalidSpot_init) .none kV doc pm an cdv ct) ⟨us,[]⟩ = pure ((["self","given"] : List Str).zip us):=match us,hl with | [_,_],_ => rfl
theorem xd_InvalidSpot_init (T : Tx fx fn K mg) : ∃ fd,FunD K "__init__" "InvalidSpot.__init__" (defArgs s_InvalidSpot_init) (defBody s_InvalidSpot_init) (defScope s_InvalidSpot_init) [] [] (ma K (ga K "InvalidSpot") "__init__") fd:=T.says.def_ 11 (d:=d_InvalidSpot_init) rfl
theorem sc_InvalidIndex_init : FnScope ["self","given"] ["self","given"] (defScope s_InvalidIndex_init):=⟨rfl,rfl,rfl,by decide +kernel,rfl,by decide +kernel,by decide +kernel⟩
theorem bd_InvalidIndex_init (kV doc pm : Value) (an : Option Addr) (cdv ct : Value) (us : List Value) (hl : us.length = (["self","given"] : List Str).length) : bindArgs (PySem.W.fnOf "__init__" "InvalidIndex.__init__" (defArgs s_InvalidIndex_init) (defBody s_InvalidIndex_init) (defScope s_InvalidIndex_init) .none kV doc pm an cdv ct) ⟨us,[]⟩ = pure ((["self","given"] : List Str).zip us):=match us,hl with | [_,_],_ => rfl
theorem xd_InvalidIndex_init (T : Tx fx fn K mg) : ∃ fd,FunD K "__init__" "InvalidIndex.__init__" (defArgs s_InvalidIndex_init) (defBody s_InvalidIndex_init) (defScope s_InvalidIndex_init) [] [] (ma K (ga K "InvalidIndex") "__init__") fd:=T.says.def_ 12 (d:=d_InvalidIndex_init) rfl
theorem sc_InvalidPlayer_init : FnScope ["self","given"] ["self","given"] (defScope s_InvalidPlayer_init):=⟨rfl,rfl,rfl,by decide +kernel,rfl,by decide +kernel,by decide +kernel⟩
theorem bd_InvalidPlayer_init (kV doc pm : Value) (an : Option Addr) (cdv ct : Value) (us : List Value) (hl : us.length = (["self","given"] : List Str).length) : bindArgs (PySem.W.fnOf "__init__" "InvalidPlayer.__init__" (defArgs s_InvalidPlayer_init) (defBody s_InvalidPlayer_init) (defScope s_InvalidPlayer_init) .none kV doc pm an cdv ct) ⟨us,[]⟩ = pure ((["self","given"] : List Str).zip us):=match us,hl with | [_,_],_ => rfl
theorem xd_InvalidPlayer_init (T : Tx fx fn K mg) : ∃ fd,FunD K "__init__" "InvalidPlayer.__init__" (defArgs s_InvalidPlayer_init) (defBody s_InvalidPlayer_init) (defScope s_InvalidPlayer_init) [] [] (ma K (ga K "InvalidPlayer") "__init__") fd:=T.says.def_ 13 (d:=d_InvalidPlayer_init) rfl
theorem sc_InvalidTurn_init : FnScope ["self","given"] ["self","given"] (defScope s_InvalidTurn_init):=⟨rfl,rfl,rfl,by decide +kernel,rfl,by decide +kernel,by decide +kernel⟩
theorem bd_InvalidTurn_init (kV doc pm : Value) (an : Option Addr) (cdv ct : Value) (us : List Value) (hl : us.length = (["self","given"] : List Str).length) : bindArgs (PySem.W.fnOf "__init__" "InvalidTurn.__init__" (defArgs s_InvalidTurn_init) (defBody s_InvalidTurn_init) (defScope s_InvalidTurn_init) .none kV doc pm an cdv ct) ⟨us,[]⟩ = pure ((["self","given"] : List Str).zip us):=match us,hl with | [_,_],_ => rfl
theorem xd_InvalidTurn_init (T : Tx fx fn K mg) : ∃ fd,FunD K "__init__" "InvalidTurn.__init__" (defArgs s_InvalidTurn_init) (defBody s_InvalidTurn_init) (defScope s_InvalidTurn_init) [] [] (ma K (ga K "InvalidTurn") "__init__") fd:=T.says.def_ 14 (d:=d_InvalidTurn_init) rfl
theorem sc_InvalidAnew_init : FnScope ["self","given"] ["self","given"] (defScope s_InvalidAnew_init):=⟨rfl,rfl,rfl,by decide +kernel,rfl,by decide +kernel,by decide +kernel⟩
theorem bd_InvalidAnew_init (kV doc pm : Value) (an : Option Addr) (cdv ct : Value) (us : List Value) (hl : us.length = (["self","given"] : List Str).length) : bindArgs (PySem.W.fnOf "__init__" "InvalidAnew.__init__" (defArgs s_InvalidAnew_init) (defBody s_InvalidAnew_init) (defScope s_InvalidAnew_init) .none kV doc pm an cdv ct) ⟨us,[]⟩ = pure ((["self","given"] : List Str).zip us):=match us,hl with | [_,_],_ => rfl
theorem xd_InvalidAnew_init (T : Tx fx fn K mg) : ∃ fd,FunD K "__init__" "InvalidAnew.__init__" (defArgs s_InvalidAnew_init) (defBody s_InvalidAnew_init) (defScope s_InvalidAnew_init) [] [] (ma K (ga K "InvalidAnew") "__init__") fd:=T.says.def_ 15 (d:=d_InvalidAnew_init) rfl
theorem sc_InvalidStart_init : FnScope ["self","given"] ["self","given"] (defScope s_InvalidStart_init):=⟨rfl,rfl,rfl,by decide +kernel,rfl,by decide +kernel,by decide +kernel⟩
theorem bd_InvalidStart_init (kV doc pm : Value) (an : Option Addr) (cdv ct : Value) (us : List Value) (hl : us.length = (["self","given"] : List Str).length) : bindArgs (PySem.W.fnOf "__init__" "InvalidStart.__init__" (defArgs s_InvalidStart_init) (defBody s_InvalidStart_init) (defScope s_InvalidStart_init) .none kV doc pm an cdv ct) ⟨us,[]⟩ = pure ((["self","given"] : List Str).zip us):=match us,hl with | [_,_],_ => rfl
theorem xd_InvalidStart_init (T : Tx fx fn K mg) : ∃ fd,FunD K "__init__" "InvalidStart.__init__" (defArgs s_InvalidStart_init) (defBody s_InvalidStart_init) (defScope s_InvalidStart_init) [] [] (ma K (ga K "InvalidStart") "__init__") fd:=T.says.def_ 16 (d:=d_InvalidStart_init) rfl
theorem sc_InvalidText_init : FnScope ["self","given"] ["self","given"] (defScope s_InvalidText_init):=⟨rfl,rfl,rfl,by decide +kernel,rfl,by decide +kernel,by decide +kernel⟩
theorem bd_InvalidText_init (kV doc pm : Value) (an : Option Addr) (cdv ct : Value) (us : List Value) (hl : us.length = (["self","given"] : List Str).length) : bindArgs (PySem.W.fnOf "__init__" "InvalidText.__init__" (defArgs s_InvalidText_init) (defBody s_InvalidText_init) (defScope s_InvalidText_init) .none kV doc pm an cdv ct) ⟨us,[]⟩ = pure ((["self","given"] : List Str).zip us):=match us,hl with | [_,_],_ => rfl
theorem xd_InvalidText_init (T : Tx fx fn K mg) : ∃ fd,FunD K "__init__" "InvalidText.__init__" (defArgs s_InvalidText_init) (defBody s_InvalidText_init) (defScope s_InvalidText_init) [] [] (ma K (ga K "InvalidText") "__init__") fd:=T.says.def_ 17 (d:=d_InvalidText_init) rfl
theorem sc_InvalidName_init : FnScope ["self","given"] ["self","given"] (defScope s_InvalidName_init):=⟨rfl,rfl,rfl,by decide +kernel,rfl,by decide +kernel,by decide +kernel⟩
theorem bd_InvalidName_init (kV doc pm : Value) (an : Option Addr) (cdv ct : Value) (us : List Value) (hl : us.length = (["self","given"] : List Str).length) : bindArgs (PySem.W.fnOf "__init__" "InvalidName.__init__" (defArgs s_InvalidName_init) (defBody s_InvalidName_init) (defScope s_InvalidName_init) .none kV doc pm an cdv ct) ⟨us,[]⟩ = pure ((["self","given"] : List Str).zip us):=match us,hl with | [_,_],_ => rfl
theorem xd_InvalidName_init (T : Tx fx fn K mg) : ∃ fd,FunD K "__init__" "InvalidName.__init__" (defArgs s_InvalidName_init) (defBody s_InvalidName_init) (defScope s_InvalidName_init) [] [] (ma K (ga K "InvalidName") "__init__") fd:=T.says.def_ 18 (d:=d_InvalidName_init) rfl
theorem sc_InvalidHope_init : FnScope ["self","given"] ["self","given"] (defScope s_InvalidHope_init):=⟨rfl,rfl,rfl,by decide +kernel,rfl,by decide +kernel,by decide +kernel⟩
theorem bd_InvalidHope_init (kV doc pm : Value) (an : Option Addr) (cdv ct : Value) (us : List Value) (hl : us.length = (["self","given"] : List Str).length) : bindArgs (PySem.W.fnOf "__init__" "InvalidHope.__init__" (defArgs s_InvalidHope_init) (defBody s_InvalidHope_init) (defScope s_InvalidHope_init) .none kV doc pm an cdv ct) ⟨us,[]⟩ = pure ((["self","given"] : List Str).zip us):=match us,hl with | [_,_],_ => rfl
theorem xd_InvalidHope_init (T : Tx fx fn K mg) : ∃ fd,FunD K "__init__" "InvalidHope.__init__" (defArgs s_InvalidHope_init) (defBody s_InvalidHope_init) (defScope s_InvalidHope_init) [] [] (ma K (ga K "InvalidHope") "__init__") fd:=T.says.def_ 19 (d:=d_InvalidHope_init) rfl
theorem sc_NotAFilm_init : FnScope ["self","given"] ["self","given"] (defScope s_NotAFilm_init):=⟨rfl,rfl,rfl,by decide +kernel,rfl,by decide +kernel,by decide +kernel⟩
theorem bd_NotAFilm_init (kV doc pm : Value) (an : Option Addr) (cdv ct : Value) (us : List Value) (hl : us.length = (["self","given"] : List Str).length) : bindArgs (PySem.W.fnOf "__init__" "NotAFilm.__init__" (defArgs s_NotAFilm_init) (defBody s_NotAFilm_init) (defScope s_NotAFilm_init) .none kV doc pm an cdv ct) ⟨us,[]⟩ = pure ((["self","given"] : List Str).zip us):=match us,hl with | [_,_],_ => rfl
theorem xd_NotAFilm_init (T : Tx fx fn K mg) : ∃ fd,FunD K "__init__" "NotAFilm.__init__" (defArgs s_NotAFilm_init) (defBody s_NotAFilm_init) (defScope s_NotAFilm_init) [] [] (ma K (ga K "NotAFilm") "__init__") fd:=T.says.def_ 20 (d:=d_NotAFilm_init) rfl
theorem sc_NotAWish_init : FnScope ["self","given"] ["self","given"] (defScope s_NotAWish_init):=⟨rfl,rfl,rfl,by decide +kernel,rfl,by decide +kernel,by decide +kernel⟩
theorem bd_NotAWish_init (kV doc pm : Value) (an : Option Addr) (cdv ct : Value) (us : List Value) (hl : us.length = (["self","given"] : List Str).length) : bindArgs (PySem.W.fnOf "__init__" "NotAWish.__init__" (defArgs s_NotAWish_init) (defBody s_NotAWish_init) (defScope s_NotAWish_init) .none kV doc pm an cdv ct) ⟨us,[]⟩ = pure ((["self","given"] : List Str).zip us):=match us,hl with | [_,_],_ => rfl
theorem xd_NotAWish_init (T : Tx fx fn K mg) : ∃ fd,FunD K "__init__" "NotAWish.__init__" (defArgs s_NotAWish_init) (defBody s_NotAWish_init) (defScope s_NotAWish_init) [] [] (ma K (ga K "NotAWish") "__init__") fd:=T.says.def_ 21 (d:=d_NotAWish_init) rfl
theorem sc_InvalidFrames_init : FnScope ["self","index"] ["self","index"] (defScope s_InvalidFrames_init):=⟨rfl,rfl,rfl,by decide +kernel,rfl,by decide +kernel,by decide +kernel⟩
theorem bd_InvalidFrames_init (kV doc pm : Value) (an : Option Addr) (cdv ct : Value) (us : List Value) (hl : us.length = (["self","index"] : List Str).length) : bindArgs (PySem.W.fnOf "__init__" "InvalidFrames.__init__" (defArgs s_InvalidFrames_init) (defBody s_InvalidFrames_init) (defScope s_InvalidFrames_init) .none kV doc pm an cdv ct) ⟨us,[]⟩ = pure ((["self","index"] : List Str).zip us):=match us,hl with | [_,_],_ => rfl
theorem xd_InvalidFrames_init (T : Tx fx fn K mg) : ∃ fd,FunD K "__init__" "InvalidFrames.__init__" (defArgs s_InvalidFrames_init) (defBody s_InvalidFrames_init) (defScope s_InvalidFrames_init) [] [] (ma K (ga K "InvalidFrames") "__init__") fd:=T.says.def_ 22 (d:=d_InvalidFrames_init) rfl
theorem sc_InvalidSolid_init : FnScope ["self","index"] ["self","index"] (defScope s_InvalidSolid_init):=⟨rfl,rfl,rfl,by decide +kernel,rfl,by decide +kernel,by decide +kernel⟩
theorem bd_InvalidSolid_init (kV doc pm : Value) (an : Option Addr) (cdv ct : Value) (us : List Value) (hl : us.length = (["self","index"] : List Str).length) : bindArgs (PySem.W.fnOf "__init__" "InvalidSolid.__init__" (defArgs s_InvalidSolid_init) (defBody s_InvalidSolid_init) (defScope s_InvalidSolid_init) .none kV doc pm an cdv ct) ⟨us,[]⟩ = pure ((["self","index"] : List Str).zip us):=match us,hl with | [_,_],_ => rfl
theorem xd_InvalidSolid_init (T : Tx fx fn K mg) : ∃ fd,FunD K "__init__" "InvalidSolid.__init__" (defArgs s_InvalidSolid_init) (defBody s_InvalidSolid_init) (defScope s_InvalidSolid_init) [] [] (ma K (ga K "InvalidSolid") "__init__") fd:=T.says.def_ 23 (d:=d_InvalidSolid_init) rfl
theorem sc_InvalidSheets_init : FnScope ["self","index"] ["self","index"] (defScope s_InvalidSheets_init):=⟨rfl,rfl,rfl,by decide +kernel,rfl,by decide +kernel,by decide +kernel⟩
theorem bd_InvalidSheets_init (kV doc pm : Value) (an : Option Addr) (cdv ct : Value) (us : List Value) (hl : us.length = (["self","index"] : List Str).length) : bindArgs (PySem.W.fnOf "__init__" "InvalidSheets.__init__" (defArgs s_InvalidSheets_init) (defBody s_InvalidSheets_init) (defScope s_InvalidSheets_init) .none kV doc pm an cdv ct) ⟨us,[]⟩ = pure ((["self","index"] : List Str).zip us):=match us,hl with | [_,_],_ => rfl
theorem xd_InvalidSheets_init (T : Tx fx fn K mg) : ∃ fd,FunD K "__init__" "InvalidSheets.__init__" (defArgs s_InvalidSheets_init) (defBody s_InvalidSheets_init) (defScope s_InvalidSheets_init) [] [] (ma K (ga K "InvalidSheets") "__init__") fd:=T.says.def_ 24 (d:=d_InvalidSheets_init) rfl
theorem sc_InvalidPlan_init : FnScope ["self","index"] ["self","index"] (defScope s_InvalidPlan_init):=⟨rfl,rfl,rfl,by decide +kernel,rfl,by decide +kernel,by decide +kernel⟩
theorem bd_InvalidPlan_init (kV doc pm : Value) (an : Option Addr) (cdv ct : Value) (us : List Value) (hl : us.length = (["self","index"] : List Str).length) : bindArgs (PySem.W.fnOf "__init__" "InvalidPlan.__init__" (defArgs s_InvalidPlan_init) (defBody s_InvalidPlan_init) (defScope s_InvalidPlan_init) .none kV doc pm an cdv ct) ⟨us,[]⟩ = pure ((["self","index"] : List Str).zip us):=match us,hl with | [_,_],_ => rfl
theorem xd_InvalidPlan_init (T : Tx fx fn K mg) : ∃ fd,FunD K "__init__" "InvalidPlan.__init__" (defArgs s_InvalidPlan_init) (defBody s_InvalidPlan_init) (defScope s_InvalidPlan_init) [] [] (ma K (ga K "InvalidPlan") "__init__") fd:=T.says.def_ 25 (d:=d_InvalidPlan_init) rfl
theorem sc_WrongRow_init : FnScope ["self","index"] ["self","index"] (defScope s_WrongRow_init):=⟨rfl,rfl,rfl,by decide +kernel,rfl,by decide +kernel,by decide +kernel⟩
theorem bd_WrongRow_init (kV doc pm : Value) (an : Option Addr) (cdv ct : Value) (us : List Value) (hl : us.length = (["self","index"] : List Str).length) : bindArgs (PySem.W.fnOf "__init__" "WrongRow.__init__" (defArgs s_WrongRow_init) (defBody s_WrongRow_init) (defScope s_WrongRow_init) .none kV doc pm an cdv ct) ⟨us,[]⟩ = pure ((["self","index"] : List Str).zip us):=match us,hl with | [_,_],_ => rfl
theorem xd_WrongRow_init (T : Tx fx fn K mg) : ∃ fd,FunD K "__init__" "WrongRow.__init__" (defArgs s_WrongRow_init) (defBody s_WrongRow_init) (defScope s_WrongRow_init) [] [] (ma K (ga K "WrongRow") "__init__") fd:=T.says.def_ 26 (d:=d_WrongRow_init) rfl
theorem sc_UnknownName_init : FnScope ["self","given"] ["self","given"] (defScope s_UnknownName_init):=⟨rfl,rfl,rfl,by decide +kernel,rfl,by decide +kernel,by decide +kernel⟩
theorem bd_UnknownName_init (kV doc pm : Value) (an : Option Addr) (cdv ct : Value) (us : List Value) (hl : us.length = (["self","given"] : List Str).length) : bindArgs (PySem.W.fnOf "__init__" "UnknownName.__init__" (defArgs s_UnknownName_init) (defBody s_UnknownName_init) (defScope s_UnknownName_init) .none kV doc pm an cdv ct) ⟨us,[]⟩ = pure ((["self","given"] : List Str).zip us):=match us,hl with | [_,_],_ => rfl
theorem xd_UnknownName_init (T : Tx fx fn K mg) : ∃ fd,FunD K "__init__" "UnknownName.__init__" (defArgs s_UnknownName_init) (defBody s_UnknownName_init) (defScope s_UnknownName_init) [] [] (ma K (ga K "UnknownName") "__init__") fd:=T.says.def_ 27 (d:=d_UnknownName_init) rfl
theorem sc_InUse_init : FnScope ["self","index"] ["self","index"] (defScope s_InUse_init):=⟨rfl,rfl,rfl,by decide +kernel,rfl,by decide +kernel,by decide +kernel⟩
theorem bd_InUse_init (kV doc pm : Value) (an : Option Addr) (cdv ct : Value) (us : List Value) (hl : us.length = (["self","index"] : List Str).length) : bindArgs (PySem.W.fnOf "__init__" "InUse.__init__" (defArgs s_InUse_init) (defBody s_InUse_init) (defScope s_InUse_init) .none kV doc pm an cdv ct) ⟨us,[]⟩ = pure ((["self","index"] : List Str).zip us):=match us,hl with | [_,_],_ => rfl
theorem xd_InUse_init (T : Tx fx fn K mg) : ∃ fd,FunD K "__init__" "InUse.__init__" (defArgs s_InUse_init) (defBody s_InUse_init) (defScope s_InUse_init) [] [] (ma K (ga K "InUse") "__init__") fd:=T.says.def_ 28 (d:=d_InUse_init) rfl
theorem sc_Broken_init : FnScope ["self","index"] ["self","index"] (defScope s_Broken_init):=⟨rfl,rfl,rfl,by decide +kernel,rfl,by decide +kernel,by decide +kernel⟩
theorem bd_Broken_init (kV doc pm : Value) (an : Option Addr) (cdv ct : Value) (us : List Value) (hl : us.length = (["self","index"] : List Str).length) : bindArgs (PySem.W.fnOf "__init__" "Broken.__init__" (defArgs s_Broken_init) (defBody s_Broken_init) (defScope s_Broken_init) .none kV doc pm an cdv ct) ⟨us,[]⟩ = pure ((["self","index"] : List Str).zip us):=match us,hl with | [_,_],_ => rfl
theorem xd_Broken_init (T : Tx fx fn K mg) : ∃ fd,FunD K "__init__" "Broken.__init__" (defArgs s_Broken_init) (defBody s_Broken_init) (defScope s_Broken_init) [] [] (ma K (ga K "Broken") "__init__") fd:=T.says.def_ 29 (d:=d_Broken_init) rfl
theorem sc_TooMany_init : FnScope ["self","limit"] ["self","limit"] (defScope s_TooMany_init):=⟨rfl,rfl,rfl,by decide +kernel,rfl,by decide +kernel,by decide +kernel⟩
theorem bd_TooMany_init (kV doc pm : Value) (an : Option Addr) (cdv ct : Value) (us : List Value) (hl : us.length = (["self","limit"] : List Str).length) : bindArgs (PySem.W.fnOf "__init__" "TooMany.__init__" (defArgs s_TooMany_init) (defBody s_TooMany_init) (defScope s_TooMany_init) .none kV doc pm an cdv ct) ⟨us,[]⟩ = pure ((["self","limit"] : List Str).zip us):=match us,hl with | [_,_],_ => rfl
theorem xd_TooMany_init (T : Tx fx fn K mg) : ∃ fd,FunD K "__init__" "TooMany.__init__" (defArgs s_TooMany_init) (defBody s_TooMany_init) (defScope s_TooMany_init) [] [] (ma K (ga K "TooMany") "__init__") fd:=T.says.def_ 30 (d:=d_TooMany_init) rfl
theorem sc_law_all : FnScope ["_law_thing","_law_found"] ["_law_thing"] (defScope s_law_all):=⟨rfl,rfl,rfl,by decide +kernel,rfl,by decide +kernel,by decide +kernel⟩
abbrev GD_law_all (P : Program) (w : World) (K : PySem.W.Frag) (mg : Str → Option Value) (base : Heap) (p : PP) : Prop:=GD P w K mg base (cl K p) 3 (ga K "_law_all") "_law_all" "_law_all" s_law_all [] ["_law_thing"] F_law_all
theorem bd_law_all (kV doc pm : Value) (an : Option Addr) (cdv ct : Value) (us : List Value) (hl : us.length = (["_law_thing"] : List Str).length) : bindArgs (PySem.W.fnOf "_law_all" "_law_all" (defArgs s_law_all) (defBody s_law_all) (defScope s_law_all) .none kV doc pm an cdv ct) ⟨us,[]⟩ = pure ((["_law_thing"] : List Str).zip us):=match us,hl with | [_],_ => rfl
theorem ok_law_all (T : Tx fx fn K mg) (TB : TBs base mg (csOf K tf)) : GD_law_all P w K mg base p:=by
  obtain ⟨fd_InvalidSize_init,D_InvalidSize_init⟩:=xd_InvalidSize_init T
  obtain ⟨fd_InvalidPart_init,D_InvalidPart_init⟩:=xd_InvalidPart_init T
  obtain ⟨fd_InvalidFate_init,D_InvalidFate_init⟩:=xd_InvalidFate_init T
  obtain ⟨fd_InvalidBeat_init,D_InvalidBeat_init⟩:=xd_InvalidBeat_init T
  obtain ⟨fd_InvalidSpot_init,D_InvalidSpot_init⟩:=xd_InvalidSpot_init T
  obtain ⟨fd_InvalidIndex_init,D_InvalidIndex_init⟩:=xd_InvalidIndex_init T
  obtain ⟨fd_InvalidPlayer_init,D_InvalidPlayer_init⟩:=xd_InvalidPlayer_init T
  obtain ⟨fd_InvalidTurn_init,D_InvalidTurn_init⟩:=xd_InvalidTurn_init T
  obtain ⟨fd_InvalidAnew_init,D_InvalidAnew_init⟩:=xd_InvalidAnew_init T
  obtain ⟨fd_InvalidStart_init,D_InvalidStart_init⟩:=xd_InvalidStart_init T
  obtain ⟨fd_InvalidText_init,D_InvalidText_init⟩:=xd_InvalidText_init T
  obtain ⟨fd_InvalidName_init,D_InvalidName_init⟩:=xd_InvalidName_init T
  obtain ⟨fd_InvalidHope_init,D_InvalidHope_init⟩:=xd_InvalidHope_init T
  obtain ⟨fd_NotAFilm_init,D_NotAFilm_init⟩:=xd_NotAFilm_init T
  obtain ⟨fd_NotAWish_init,D_NotAWish_init⟩:=xd_NotAWish_init T
  obtain ⟨fd_InvalidFrames_init,D_InvalidFrames_init⟩:=xd_InvalidFrames_init T
  obtain ⟨fd_InvalidSolid_init,D_InvalidSolid_init⟩:=xd_InvalidSolid_init T
  obtain ⟨fd_InvalidSheets_init,D_InvalidSheets_init⟩:=xd_InvalidSheets_init T
  obtain ⟨fd_InvalidPlan_init,D_InvalidPlan_init⟩:=xd_InvalidPlan_init T
  obtain ⟨fd_WrongRow_init,D_WrongRow_init⟩:=xd_WrongRow_init T
  obtain ⟨fd_UnknownName_init,D_UnknownName_init⟩:=xd_UnknownName_init T
  obtain ⟨fd_InUse_init,D_InUse_init⟩:=xd_InUse_init T
  obtain ⟨fd_Broken_init,D_Broken_init⟩:=xd_Broken_init T
  obtain ⟨fd_TooMany_init,D_TooMany_init⟩:=xd_TooMany_init T
  refine gd_of (T.says.def_ 31 (d:=d_law_all) rfl) sc_law_all rfl rfl fun cdv A outer s H E hr tk => ?_
  exact (ss_cons (ss_set 1 sc_law_all.nd (s_lst (sa_cons (s_newE (cl:=cl K _) (k:=0) (st:=s_InvalidSize_init) (y:="given") (f:="given") 9 (xc_ok (T.any 95)).1 (xi_ok (T.any 96)) D_InvalidSize_init sc_InvalidSize_init rfl bd_InvalidSize_init (hr.mono (by decide)) tk (T.glo 39) (sa_cons (s_var 0) sa_nil)) (sa_cons (s_newE (cl:=cl K _) (k:=0) (st:=s_InvalidPart_init) (y:="given") (f:="given") 10 (xc_ok (T.any 97)).1 (xi_ok (T.any 98)) D_InvalidPart_init sc_InvalidPart_init rfl bd_InvalidPart_init (hr.mono (by decide)) tk (T.glo 41) (sa_cons (s_var 0) sa_nil)) (sa_cons (s_newE (cl:=cl K _) (k:=0) (st:=s_InvalidFate_init) (y:="given") (f:="given") 11 (xc_ok (T.any 99)).1 (xi_ok (T.any 100)) D_InvalidFate_init sc_InvalidFate_init rfl bd_InvalidFate_init (hr.mono (by decide)) tk (T.glo 43) (sa_cons (s_var 0) sa_nil)) (sa_cons (s_newE (cl:=cl K _) (k:=0) (st:=s_InvalidBeat_init) (y:="given") (f:="given") 12 (xc_ok (T.any 101)).1 (xi_ok (T.any 102)) D_InvalidBeat_init sc_InvalidBeat_init rfl bd_InvalidBeat_init (hr.mono (by decide)) tk (T.glo 45) (sa_cons (s_var 0) sa_nil)) (sa_cons (s_newE (cl:=cl K _) (k:=0) (st:=s_InvalidSpot_init) (y:="given") (f:="given") 13 (xc_ok (T.any 103)).1 (xi_ok (T.any 104)) D_InvalidSpot_init sc_InvalidSpot_init rfl bd_InvalidSpot_init (hr.mono (by decide)) tk (T.glo 47) (sa_cons (s_var 0) sa_nil)) sa_nil)))))))
    (ss_cons (ss_set 1 sc_law_all.nd (s_op o_add (s_var 1) (s_lst (sa_cons (s_newE (cl:=cl K _) (k:=0) (st:=s_InvalidIndex_init) (y:="given") (f:="given") 14 (xc_ok (T.any 105)).1 (xi_ok (T.any 106)) D_InvalidIndex_init sc_InvalidIndex_init rfl bd_InvalidIndex_init (hr.mono (by decide)) tk (T.glo 49) (sa_cons (s_var 0) sa_nil)) (sa_cons (s_newE (cl:=cl K _) (k:=0) (st:=s_InvalidPlayer_init) (y:="given") (f:="given") 7 (xc_ok (T.any 107)).1 (xi_ok (T.any 108)) D_InvalidPlayer_init sc_InvalidPlayer_init rfl bd_InvalidPlayer_init (hr.mono (by decide)) tk (T.glo 51) (sa_cons (s_var 0) sa_nil)) (sa_cons (s_newE (cl:=cl K _) (k:=0) (st:=s_InvalidTurn_init) (y:="given") (f:="given") 15 (xc_ok (T.any 109)).1 (xi_ok (T.any 110)) D_InvalidTurn_init sc_InvalidTurn_init rfl bd_InvalidTurn_init (hr.mono (by decide)) tk (T.glo 53) (sa_cons (s_var 0) sa_nil)) (sa_cons (s_newE (cl:=cl K _) (k:=0) (st:=s_InvalidAnew_init) (y:="given") (f:="given") 16 (xc_ok (T.any 111)).1 (xi_ok (T.any 112)) D_InvalidAnew_init sc_InvalidAnew_init rfl bd_InvalidAnew_init (hr.mono (by decide)) tk (T.glo 55) (sa_cons (s_var 0) sa_nil)) sa_nil)))))))
    (ss_cons (ss_set 1 sc_law_all.nd (s_op o_add (s_var 1) (s_lst (sa_cons (s_newE (cl:=cl K _) (k:=0) (st:=s_InvalidStart_init) (y:="given") (f:="given") 8 (xc_ok (T.any 113)).1 (xi_ok (T.any 114)) D_InvalidStart_init sc_InvalidStart_init rfl bd_InvalidStart_init (hr.mono (by decide)) tk (T.glo 57) (sa_cons (s_var 0) sa_nil)) (sa_cons (s_newE (cl:=cl K _) (k:=0) (st:=s_InvalidText_init) (y:="given") (f:="given") 17 (xc_ok (T.any 115)).1 (xi_ok (T.any 116)) D_InvalidText_init sc_InvalidText_init rfl bd_InvalidText_init (hr.mono (by decide)) tk (T.glo 59) (sa_cons (s_var 0) sa_nil)) (sa_cons (s_newE (cl:=cl K _) (k:=0) (st:=s_InvalidName_init) (y:="given") (f:="given") 18 (xc_ok (T.any 117)).1 (xi_ok (T.any 118)) D_InvalidName_init sc_InvalidName_init rfl bd_InvalidName_init (hr.mono (by decide)) tk (T.glo 61) (sa_cons (s_var 0) sa_nil)) (sa_cons (s_newE (cl:=cl K _) (k:=0) (st:=s_InvalidHope_init) (y:="given") (f:="given") 19 (xc_ok (T.any 119)).1 (xi_ok (T.any 120)) D_InvalidHope_init sc_InvalidHope_init rfl bd_InvalidHope_init (hr.mono (by decide)) tk (T.glo 63) (sa_cons (s_var 0) sa_nil)) (sa_cons (s_newE (cl:=cl K _) (k:=0) (st:=s_NotAFilm_init) (y:="given") (f:="given") 20 (xc_ok (T.any 121)).1 (xi_ok (T.any 122)) D_NotAFilm_init sc_NotAFilm_init rfl bd_NotAFilm_init (hr.mono (by decide)) tk (T.glo 65) (sa_cons (s_var 0) sa_nil)) sa_nil))))))))
    (ss_cons (ss_set 1 sc_law_all.nd (s_op o_add (s_var 1) (s_lst (sa_cons (s_newE (cl:=cl K _) (k:=0) (st:=s_NotAWish_init) (y:="given") (f:="given") 21 (xc_ok (T.any 123)).1 (xi_ok (T.any 124)) D_NotAWish_init sc_NotAWish_init rfl bd_NotAWish_init (hr.mono (by decide)) tk (T.glo 67) (sa_cons (s_var 0) sa_nil)) (sa_cons (s_newE (cl:=cl K _) (k:=0) (st:=s_InvalidFrames_init) (y:="index") (f:="index") 22 (xc_ok (T.any 125)).1 (xi_ok (T.any 126)) D_InvalidFrames_init sc_InvalidFrames_init rfl bd_InvalidFrames_init (hr.mono (by decide)) tk (T.glo 69) (sa_cons (s_var 0) sa_nil)) (sa_cons (s_newE (cl:=cl K _) (k:=0) (st:=s_InvalidSolid_init) (y:="index") (f:="index") 23 (xc_ok (T.any 127)).1 (xi_ok (T.any 128)) D_InvalidSolid_init sc_InvalidSolid_init rfl bd_InvalidSolid_init (hr.mono (by decide)) tk (T.glo 71) (sa_cons (s_var 0) sa_nil)) (sa_cons (s_newE (cl:=cl K _) (k:=0) (st:=s_InvalidSheets_init) (y:="index") (f:="index") 24 (xc_ok (T.any 129)).1 (xi_ok (T.any 130)) D_InvalidSheets_init sc_InvalidSheets_init rfl bd_InvalidSheets_init (hr.mono (by decide)) tk (T.glo 73) (sa_cons (s_var 0) sa_nil)) sa_nil)))))))
    (ss_cons (ss_set 1 sc_law_all.nd (s_op o_add (s_var 1) (s_lst (sa_cons (s_newE (cl:=cl K _) (k:=0) (st:=s_InvalidPlan_init) (y:="index") (f:="index") 25 (xc_ok (T.any 131)).1 (xi_ok (T.any 132)) D_InvalidPlan_init sc_InvalidPlan_init rfl bd_InvalidPlan_init (hr.mono (by decide)) tk (T.glo 75) (sa_cons (s_var 0) sa_nil)) (sa_cons (s_newE (cl:=cl K _) (k:=0) (st:=s_WrongRow_init) (y:="index") (f:="index") 26 (xc_ok (T.any 133)).1 (xi_ok (T.any 134)) D_WrongRow_init sc_WrongRow_init rfl bd_WrongRow_init (hr.mono (by decide)) tk (T.glo 77) (sa_cons (s_var 0) sa_nil)) (sa_cons (s_newE (cl:=cl K _) (k:=0) (st:=s_UnknownName_init) (y:="given") (f:="given") 27 (xc_ok (T.any 135)).1 (xi_ok (T.any 136)) D_UnknownName_init sc_UnknownName_init rfl bd_UnknownName_init (hr.mono (by decide)) tk (T.glo 79) (sa_cons (s_var 0) sa_nil)) (sa_cons (s_newE (cl:=cl K _) (k:=0) (st:=s_InUse_init) (y:="index") (f:="index") 28 (xc_ok (T.any 137)).1 (xi_ok (T.any 138)) D_InUse_init sc_InUse_init rfl bd_InUse_init (hr.mono (by decide)) tk (T.glo 81) (sa_cons (s_var 0) sa_nil)) (sa_cons (s_newE (cl:=cl K _) (k:=0) (st:=s_Broken_init) (y:="index") (f:="index") 32 (xc_ok (T.any 139)).1 (xi_ok (T.any 140)) D_Broken_init sc_Broken_init rfl bd_Broken_init (hr.mono (by decide)) tk (T.glo 83) (sa_cons (s_var 0) sa_nil)) sa_nil))))))))
    (ss_one (ss_ret (s_op o_add (s_var 1) (s_lst (sa_cons (s_newE (cl:=cl K _) (k:=0) (st:=s_TooMany_init) (y:="limit") (f:="limit") 33 (xc_ok (T.any 141)).1 (xi_ok (T.any 142)) D_TooMany_init sc_TooMany_init rfl bd_TooMany_init (hr.mono (by decide)) tk (T.glo 85) (sa_cons (s_var 0) sa_nil)) (sa_cons (s_newE0 (cl:=cl K _) 29 baseA (T.any 144) (T.glo 87) (xc_ok (T.any 143)).1.kC) (sa_cons (s_newE0 (cl:=cl K _) 30 baseA (T.any 146) (T.glo 89) (xc_ok (T.any 145)).1.kC) (sa_cons (s_newE0 (cl:=cl K _) 31 baseA (T.any 148) (T.glo 91) (xc_ok (T.any 147)).1.kC) sa_nil)))))))))))))
theorem sc_law_named : FnScope ["_law_thing","_law_found"] ["_law_thing"] (defScope s_law_named):=⟨rfl,rfl,rfl,by decide +kernel,rfl,by decide +kernel,by decide +kernel⟩
abbrev GD_law_named (P : Program) (w : World) (K : PySem.W.Frag) (mg : Str → Option Value) (base : Heap) (p : PP) : Prop:=GD P w K mg base (cl K p) 3 (ga K "_law_named") "_law_named" "_law_named" s_law_named [] ["_law_thing"] F_law_named
theorem bd_law_named (kV doc pm : Value) (an : Option Addr) (cdv ct : Value) (us : List Value) (hl : us.length = (["_law_thing"] : List Str).length) : bindArgs (PySem.W.fnOf "_law_named" "_law_named" (defArgs s_law_named) (defBody s_law_named) (defScope s_law_named) .none kV doc pm an cdv ct) ⟨us,[]⟩ = pure ((["_law_thing"] : List Str).zip us):=match us,hl with | [_],_ => rfl
theorem ok_law_named (T : Tx fx fn K mg) (TB : TBs base mg (csOf K tf)) : GD_law_named P w K mg base p:=by
  obtain ⟨fd_InvalidSize_init,D_InvalidSize_init⟩:=xd_InvalidSize_init T
  obtain ⟨fd_InvalidPart_init,D_InvalidPart_init⟩:=xd_InvalidPart_init T
  obtain ⟨fd_InvalidFate_init,D_InvalidFate_init⟩:=xd_InvalidFate_init T
  obtain ⟨fd_InvalidBeat_init,D_InvalidBeat_init⟩:=xd_InvalidBeat_init T
  obtain ⟨fd_InvalidSpot_init,D_InvalidSpot_init⟩:=xd_InvalidSpot_init T
  obtain ⟨fd_InvalidIndex_init,D_InvalidIndex_init⟩:=xd_InvalidIndex_init T
  obtain ⟨fd_InvalidPlayer_init,D_InvalidPlayer_init⟩:=xd_InvalidPlayer_init T
  obtain ⟨fd_InvalidTurn_init,D_InvalidTurn_init⟩:=xd_InvalidTurn_init T
  obtain ⟨fd_InvalidAnew_init,D_InvalidAnew_init⟩:=xd_InvalidAnew_init T
  obtain ⟨fd_InvalidStart_init,D_InvalidStart_init⟩:=xd_InvalidStart_init T
  obtain ⟨fd_InvalidText_init,D_InvalidText_init⟩:=xd_InvalidText_init T
  obtain ⟨fd_InvalidName_init,D_InvalidName_init⟩:=xd_InvalidName_init T
  obtain ⟨fd_InvalidHope_init,D_InvalidHope_init⟩:=xd_InvalidHope_init T
  obtain ⟨fd_NotAFilm_init,D_NotAFilm_init⟩:=xd_NotAFilm_init T
  obtain ⟨fd_NotAWish_init,D_NotAWish_init⟩:=xd_NotAWish_init T
  obtain ⟨fd_InvalidFrames_init,D_InvalidFrames_init⟩:=xd_InvalidFrames_init T
  obtain ⟨fd_InvalidSolid_init,D_InvalidSolid_init⟩:=xd_InvalidSolid_init T
  obtain ⟨fd_InvalidSheets_init,D_InvalidSheets_init⟩:=xd_InvalidSheets_init T
  obtain ⟨fd_InvalidPlan_init,D_InvalidPlan_init⟩:=xd_InvalidPlan_init T
  obtain ⟨fd_WrongRow_init,D_WrongRow_init⟩:=xd_WrongRow_init T
  obtain ⟨fd_UnknownName_init,D_UnknownName_init⟩:=xd_UnknownName_init T
  obtain ⟨fd_InUse_init,D_InUse_init⟩:=xd_InUse_init T
  obtain ⟨fd_Broken_init,D_Broken_init⟩:=xd_Broken_init T
  obtain ⟨fd_TooMany_init,D_TooMany_init⟩:=xd_TooMany_init T
  refine gd_of (T.says.def_ 32 (d:=d_law_named) rfl) sc_law_named rfl rfl fun cdv A outer s H E hr tk => ?_
  exact (ss_cons (ss_set 1 sc_law_named.nd (s_lst (sa_cons (s_newEK (cl:=cl K _) (k:=0) (st:=s_InvalidSize_init) (y:="given") (f:="given") 9 (xc_ok (T.any 95)).1 (xi_ok (T.any 96)) D_InvalidSize_init sc_InvalidSize_init rfl (kb_plain (He5.fun_of D_InvalidSize_init) 1 ["given"] [.p 0,.k 0] (fun _ _ _ _ _ _ us ws h1 h2 => match us,ws,h1,h2 with | [_],[_],_,_ => rfl)) (hr.mono (by decide)) tk (T.glo 39) (sk_cons (s_var 0) sk_nil)) (sa_cons (s_newEK (cl:=cl K _) (k:=0) (st:=s_InvalidPart_init) (y:="given") (f:="given") 10 (xc_ok (T.any 97)).1 (xi_ok (T.any 98)) D_InvalidPart_init sc_InvalidPart_init rfl (kb_plain (He5.fun_of D_InvalidPart_init) 1 ["given"] [.p 0,.k 0] (fun _ _ _ _ _ _ us ws h1 h2 => match us,ws,h1,h2 with | [_],[_],_,_ => rfl)) (hr.mono (by decide)) tk (T.glo 41) (sk_cons (s_var 0) sk_nil)) (sa_cons (s_newEK (cl:=cl K _) (k:=0) (st:=s_InvalidFate_init) (y:="given") (f:="given") 11 (xc_ok (T.any 99)).1 (xi_ok (T.any 100)) D_InvalidFate_init sc_InvalidFate_init rfl (kb_plain (He5.fun_of D_InvalidFate_init) 1 ["given"] [.p 0,.k 0] (fun _ _ _ _ _ _ us ws h1 h2 => match us,ws,h1,h2 with | [_],[_],_,_ => rfl)) (hr.mono (by decide)) tk (T.glo 43) (sk_cons (s_var 0) sk_nil)) (sa_cons (s_newEK (cl:=cl K _) (k:=0) (st:=s_InvalidBeat_init) (y:="given") (f:="given") 12 (xc_ok (T.any 101)).1 (xi_ok (T.any 102)) D_InvalidBeat_init sc_InvalidBeat_init rfl (kb_plain (He5.fun_of D_InvalidBeat_init) 1 ["given"] [.p 0,.k 0] (fun _ _ _ _ _ _ us ws h1 h2 => match us,ws,h1,h2 with | [_],[_],_,_ => rfl)) (hr.mono (by decide)) tk (T.glo 45) (sk_cons (s_var 0) sk_nil)) sa_nil))))))
    (ss_cons (ss_set 1 sc_law_named.nd (s_op o_add (s_var 1) (s_lst (sa_cons (s_newEK (cl:=cl K _) (k:=0) (st:=s_InvalidSpot_init) (y:="given") (f:="given") 13 (xc_ok (T.any 103)).1 (xi_ok (T.any 104)) D_InvalidSpot_init sc_InvalidSpot_init rfl (kb_plain (He5.fun_of D_InvalidSpot_init) 1 ["given"] [.p 0,.k 0] (fun _ _ _ _ _ _ us ws h1 h2 => match us,ws,h1,h2 with | [_],[_],_,_ => rfl)) (hr.mono (by decide)) tk (T.glo 47) (sk_cons (s_var 0) sk_nil)) (sa_cons (s_newEK (cl:=cl K _) (k:=0) (st:=s_InvalidIndex_init) (y:="given") (f:="given") 14 (xc_ok (T.any 105)).1 (xi_ok (T.any 106)) D_InvalidIndex_init sc_InvalidIndex_init rfl (kb_plain (He5.fun_of D_InvalidIndex_init) 1 ["given"] [.p 0,.k 0] (fun _ _ _ _ _ _ us ws h1 h2 => match us,ws,h1,h2 with | [_],[_],_,_ => rfl)) (hr.mono (by decide)) tk (T.glo 49) (sk_cons (s_var 0) sk_nil)) (sa_cons (s_newEK (cl:=cl K _) (k:=0) (st:=s_InvalidPlayer_init) (y:="given") (f:="given") 7 (xc_ok (T.any 107)).1 (xi_ok (T.any 108)) D_InvalidPlayer_init sc_InvalidPlayer_init rfl (kb_plain (He5.fun_of D_InvalidPlayer_init) 1 ["given"] [.p 0,.k 0] (fun _ _ _ _ _ _ us ws h1 h2 => match us,ws,h1,h2 with | [_],[_],_,_ => rfl)) (hr.mono (by decide)) tk (T.glo 51) (sk_cons (s_var 0) sk_nil)) sa_nil))))))
    (ss_cons (ss_set 1 sc_law_named.nd (s_op o_add (s_var 1) (s_lst (sa_cons (s_newEK (cl:=cl K _) (k:=0) (st:=s_InvalidTurn_init) (y:="given") (f:="given") 15 (xc_ok (T.any 109)).1 (xi_ok (T.any 110)) D_InvalidTurn_init sc_InvalidTurn_init rfl (kb_plain (He5.fun_of D_InvalidTurn_init) 1 ["given"] [.p 0,.k 0] (fun _ _ _ _ _ _ us ws h1 h2 => match us,ws,h1,h2 with | [_],[_],_,_ => rfl)) (hr.mono (by decide)) tk (T.glo 53) (sk_cons (s_var 0) sk_nil)) (sa_cons (s_newEK (cl:=cl K _) (k:=0) (st:=s_InvalidAnew_init) (y:="given") (f:="given") 16 (xc_ok (T.any 111)).1 (xi_ok (T.any 112)) D_InvalidAnew_init sc_InvalidAnew_init rfl (kb_plain (He5.fun_of D_InvalidAnew_init) 1 ["given"] [.p 0,.k 0] (fun _ _ _ _ _ _ us ws h1 h2 => match us,ws,h1,h2 with | [_],[_],_,_ => rfl)) (hr.mono (by decide)) tk (T.glo 55) (sk_cons (s_var 0) sk_nil)) (sa_cons (s_newEK (cl:=cl K _) (k:=0) (st:=s_InvalidStart_init) (y:="given") (f:="given") 8 (xc_ok (T.any 113)).1 (xi_ok (T.any 114)) D_InvalidStart_init sc_InvalidStart_init rfl (kb_plain (He5.fun_of D_InvalidStart_init) 1 ["given"] [.p 0,.k 0] (fun _ _ _ _ _ _ us ws h1 h2 => match us,ws,h1,h2 with | [_],[_],_,_ => rfl)) (hr.mono (by decide)) tk (T.glo 57) (sk_cons (s_var 0) sk_nil)) sa_nil))))))
    (ss_cons (ss_set 1 sc_law_named.nd (s_op o_add (s_var 1) (s_lst (sa_cons (s_newEK (cl:=cl K _) (k:=0) (st:=s_InvalidText_init) (y:="given") (f:="given") 17 (xc_ok (T.any 115)).1 (xi_ok (T.any 116)) D_InvalidText_init sc_InvalidText_init rfl (kb_plain (He5.fun_of D_InvalidText_init) 1 ["given"] [.p 0,.k 0] (fun _ _ _ _ _ _ us ws h1 h2 => match us,ws,h1,h2 with | [_],[_],_,_ => rfl)) (hr.mono (by decide)) tk (T.glo 59) (sk_cons (s_var 0) sk_nil)) (sa_cons (s_newEK (cl:=cl K _) (k:=0) (st:=s_InvalidName_init) (y:="given") (f:="given") 18 (xc_ok (T.any 117)).1 (xi_ok (T.any 118)) D_InvalidName_init sc_InvalidName_init rfl (kb_plain (He5.fun_of D_InvalidName_init) 1 ["given"] [.p 0,.k 0] (fun _ _ _ _ _ _ us ws h1 h2 => match us,ws,h1,h2 with | [_],[_],_,_ => rfl)) (hr.mono (by decide)) tk (T.glo 61) (sk_cons (s_var 0) sk_nil)) (sa_cons (s_newEK (cl:=cl K _) (k:=0) (st:=s_InvalidHope_init) (y:="given") (f:="given") 19 (xc_ok (T.any 119)).1 (xi_ok (T.any 120)) D_InvalidHope_init sc_InvalidHope_init rfl (kb_plain (He5.fun_of D_InvalidHope_init) 1 ["given"] [.p 0,.k 0] (fun _ _ _ _ _ _ us ws h1 h2 => match us,ws,h1,h2 with | [_],[_],_,_ => rfl)) (hr.mono (by decide)) tk (T.glo 63) (sk_cons (s_var 0) sk_nil)) sa_nil))))))
    (ss_cons (ss_set 1 sc_law_named.nd (s_op o_add (s_var 1) (s_lst (sa_cons (s_newEK (cl:=cl K _) (k:=0) (st:=s_NotAFilm_init) (y:="given") (f:="given") 20 (xc_ok (T.any 121)).1 (xi_ok (T.any 122)) D_NotAFilm_init sc_NotAFilm_init rfl (kb_plain (He5.fun_of D_NotAFilm_init) 1 ["given"] [.p 0,.k 0] (fun _ _ _ _ _ _ us ws h1 h2 => match us,ws,h1,h2 with | [_],[_],_,_ => rfl)) (hr.mono (by decide)) tk (T.glo 65) (sk_cons (s_var 0) sk_nil)) (sa_cons (s_newEK (cl:=cl K _) (k:=0) (st:=s_NotAWish_init) (y:="given") (f:="given") 21 (xc_ok (T.any 123)).1 (xi_ok (T.any 124)) D_NotAWish_init sc_NotAWish_init rfl (kb_plain (He5.fun_of D_NotAWish_init) 1 ["given"] [.p 0,.k 0] (fun _ _ _ _ _ _ us ws h1 h2 => match us,ws,h1,h2 with | [_],[_],_,_ => rfl)) (hr.mono (by decide)) tk (T.glo 67) (sk_cons (s_var 0) sk_nil)) (sa_cons (s_newEK (cl:=cl K _) (k:=0) (st:=s_InvalidFrames_init) (y:="index") (f:="index") 22 (xc_ok (T.any 125)).1 (xi_ok (T.any 126)) D_InvalidFrames_init sc_InvalidFrames_init rfl (kb_plain (He5.fun_of D_InvalidFrames_init) 1 ["index"] [.p 0,.k 0] (fun _ _ _ _ _ _ us ws h1 h2 => match us,ws,h1,h2 with | [_],[_],_,_ => rfl)) (hr.mono (by decide)) tk (T.glo 69) (sk_cons (s_var 0) sk_nil)) sa_nil))))))
    (ss_cons (ss_set 1 sc_law_named.nd (s_op o_add (s_var 1) (s_lst (sa_cons (s_newEK (cl:=cl K _) (k:=0) (st:=s_InvalidSolid_init) (y:="index") (f:="index") 23 (xc_ok (T.any 127)).1 (xi_ok (T.any 128)) D_InvalidSolid_init sc_InvalidSolid_init rfl (kb_plain (He5.fun_of D_InvalidSolid_init) 1 ["index"] [.p 0,.k 0] (fun _ _ _ _ _ _ us ws h1 h2 => match us,ws,h1,h2 with | [_],[_],_,_ => rfl)) (hr.mono (by decide)) tk (T.glo 71) (sk_cons (s_var 0) sk_nil)) (sa_cons (s_newEK (cl:=cl K _) (k:=0) (st:=s_InvalidSheets_init) (y:="index") (f:="index") 24 (xc_ok (T.any 129)).1 (xi_ok (T.any 130)) D_InvalidSheets_init sc_InvalidSheets_init rfl (kb_plain (He5.fun_of D_InvalidSheets_init) 1 ["index"] [.p 0,.k 0] (fun _ _ _ _ _ _ us ws h1 h2 => match us,ws,h1,h2 with | [_],[_],_,_ => rfl)) (hr.mono (by decide)) tk (T.glo 73) (sk_cons (s_var 0) sk_nil)) (sa_cons (s_newEK (cl:=cl K _) (k:=0) (st:=s_InvalidPlan_init) (y:="index") (f:="index") 25 (xc_ok (T.any 131)).1 (xi_ok (T.any 132)) D_InvalidPlan_init sc_InvalidPlan_init rfl (kb_plain (He5.fun_of D_InvalidPlan_init) 1 ["index"] [.p 0,.k 0] (fun _ _ _ _ _ _ us ws h1 h2 => match us,ws,h1,h2 with | [_],[_],_,_ => rfl)) (hr.mono (by decide)) tk (T.glo 75) (sk_cons (s_var 0) sk_nil)) sa_nil))))))
    (ss_cons (ss_set 1 sc_law_named.nd (s_op o_add (s_var 1) (s_lst (sa_cons (s_newEK (cl:=cl K _) (k:=0) (st:=s_WrongRow_init) (y:="index") (f:="index") 26 (xc_ok (T.any 133)).1 (xi_ok (T.any 134)) D_WrongRow_init sc_WrongRow_init rfl (kb_plain (He5.fun_of D_WrongRow_init) 1 ["index"] [.p 0,.k 0] (fun _ _ _ _ _ _ us ws h1 h2 => match us,ws,h1,h2 with | [_],[_],_,_ => rfl)) (hr.mono (by decide)) tk (T.glo 77) (sk_cons (s_var 0) sk_nil)) (sa_cons (s_newEK (cl:=cl K _) (k:=0) (st:=s_UnknownName_init) (y:="given") (f:="given") 27 (xc_ok (T.any 135)).1 (xi_ok (T.any 136)) D_UnknownName_init sc_UnknownName_init rfl (kb_plain (He5.fun_of D_UnknownName_init) 1 ["given"] [.p 0,.k 0] (fun _ _ _ _ _ _ us ws h1 h2 => match us,ws,h1,h2 with | [_],[_],_,_ => rfl)) (hr.mono (by decide)) tk (T.glo 79) (sk_cons (s_var 0) sk_nil)) (sa_cons (s_newEK (cl:=cl K _) (k:=0) (st:=s_InUse_init) (y:="index") (f:="index") 28 (xc_ok (T.any 137)).1 (xi_ok (T.any 138)) D_InUse_init sc_InUse_init rfl (kb_plain (He5.fun_of D_InUse_init) 1 ["index"] [.p 0,.k 0] (fun _ _ _ _ _ _ us ws h1 h2 => match us,ws,h1,h2 with | [_],[_],_,_ => rfl)) (hr.mono (by decide)) tk (T.glo 81) (sk_cons (s_var 0) sk_nil)) (sa_cons (s_newEK (cl:=cl K _) (k:=0) (st:=s_Broken_init) (y:="index") (f:="index") 32 (xc_ok (T.any 139)).1 (xi_ok (T.any 140)) D_Broken_init sc_Broken_init rfl (kb_plain (He5.fun_of D_Broken_init) 1 ["index"] [.p 0,.k 0] (fun _ _ _ _ _ _ us ws h1 h2 => match us,ws,h1,h2 with | [_],[_],_,_ => rfl)) (hr.mono (by decide)) tk (T.glo 83) (sk_cons (s_var 0) sk_nil)) sa_nil)))))))
    (ss_one (ss_ret (s_op o_add (s_var 1) (s_lst (sa_cons (s_newEK (cl:=cl K _) (k:=0) (st:=s_TooMany_init) (y:="limit") (f:="limit") 33 (xc_ok (T.any 141)).1 (xi_ok (T.any 142)) D_TooMany_init sc_TooMany_init rfl (kb_plain (He5.fun_of D_TooMany_init) 1 ["limit"] [.p 0,.k 0] (fun _ _ _ _ _ _ us ws h1 h2 => match us,ws,h1,h2 with | [_],[_],_,_ => rfl)) (hr.mono (by decide)) tk (T.glo 85) (sk_cons (s_var 0) sk_nil)) (sa_cons (s_newE0 (cl:=cl K _) 29 baseA (T.any 144) (T.glo 87) (xc_ok (T.any 143)).1.kC) (sa_cons (s_newE0 (cl:=cl K _) 30 baseA (T.any 146) (T.glo 89) (xc_ok (T.any 145)).1.kC) (sa_cons (s_newE0 (cl:=cl K _) 31 baseA (T.any 148) (T.glo 91) (xc_ok (T.any 147)).1.kC) sa_nil)))))))))))))))
theorem sc_law : FnScope ["_law_script","_law_limits_here","_law_k","_law_jar_here","_law_thing"] ["_law_script"] (defScope s_law):=⟨rfl,rfl,rfl,by decide +kernel,rfl,by decide +kernel,by decide +kernel⟩
abbrev GD_law (P : Program) (w : World) (K : PySem.W.Frag) (mg : Str → Option Value) (base : Heap) (p : PP) : Prop:=GD P w K mg base (cl K p) 4 (ga K "law") "law" "law" s_law [] ["_law_script"] F_law
theorem bd_law (kV doc pm : Value) (an : Option Addr) (cdv ct : Value) (us : List Value) (hl : us.length = (["_law_script"] : List Str).length) : bindArgs (PySem.W.fnOf "law" "law" (defArgs s_law) (defBody s_law) (defScope s_law) .none kV doc pm an cdv ct) ⟨us,[]⟩ = pure ((["_law_script"] : List Str).zip us):=match us,hl with | [_],_ => rfl
theorem ok_law (T : Tx fx fn K mg) (TB : TBs base mg (csOf K tf)) : GD_law P w K mg base p:=by
  have ok_law_bases_ : GD_law_bases P w K mg base p:=ok_law_bases T TB
  obtain ⟨fd_law_bases,G_law_bases,D_law_bases⟩:=ok_law_bases_.ex
  have ok_law_jar_ : GD_law_jar P w K mg base p:=ok_law_jar T TB
  obtain ⟨fd_law_jar,G_law_jar,D_law_jar⟩:=ok_law_jar_.ex
  have ok_law_pick_ : GD_law_pick P w K mg base p:=ok_law_pick T TB
  obtain ⟨fd_law_pick,G_law_pick,D_law_pick⟩:=ok_law_pick_.ex
  have ok_law_right_ : GD_law_right P w K mg base p:=ok_law_right T TB
  obtain ⟨fd_law_right,G_law_right,D_law_right⟩:=ok_law_right_.ex
  have ok_law_all_ : GD_law_all P w K mg base p:=ok_law_all T TB
  obtain ⟨fd_law_all,G_law_all,D_law_all⟩:=ok_law_all_.ex
  have ok_law_named_ : GD_law_named P w K mg base p:=ok_law_named T TB
  obtain ⟨fd_law_named,G_law_named,D_law_named⟩:=ok_law_named_.ex
  refine gd_of (T.says.def_ 33 (d:=d_law) rfl) sc_law rfl rfl fun cdv A outer s H E hr tk => ?_
  exact (ss_cons (ss_set 1 sc_law.nd (s_lst (sa_cons (s_dat (T.dat 0)) (sa_cons (s_dat (T.dat 1)) (sa_cons (s_dat (T.dat 2)) (sa_cons (s_dat (T.dat 3)) (sa_cons (s_dat (T.dat 4)) (sa_cons (s_dat (T.dat 5)) (sa_cons (s_dat (T.dat 6)) sa_nil)))))))))
    (ss_cons (ss_if (t_cmp (o_ne hr.hu) (s_callB (c_reprX hr.g hr.hu) rfl (T.free 7) rfl (sa_cons (s_var 1) sa_nil)) s_str)
    (ss_one (ss_ret s_bl))
    ss_nil)
    (ss_cons (ss_if (t_cmp (o_ne hr.hu) (s_lst (sa_cons (s_cal ok_law_bases_ (hr.mono (by decide)) tk (T.glo 24) (sa_cons (s_newE0 (cl:=cl K _) 34 baseV (T.any 23) (T.glo 10) (xc_ok (T.any 22)).1.kC) sa_nil) bd_law_bases) (sa_cons (s_cal ok_law_bases_ (hr.mono (by decide)) tk (T.glo 24) (sa_cons (s_newE0 (cl:=cl K _) 35 baseL (T.any 26) (T.glo 13) (xc_ok (T.any 25)).1.kC) sa_nil) bd_law_bases) sa_nil))) (s_lst (sa_cons (s_op o_mul (s_lst (sa_cons s_bl (sa_cons s_bl (sa_cons s_bl sa_nil)))) s_int) (sa_cons (s_op o_mul (s_lst (sa_cons s_bl (sa_cons s_bl (sa_cons s_bl sa_nil)))) s_int) sa_nil))))
    (ss_one (ss_ret s_bl))
    ss_nil)
    (ss_cons (ss_if (t_cmp (o_ne hr.hu) (s_cal ok_law_bases_ (hr.mono (by decide)) tk (T.glo 24) (sa_cons (s_newE0 (cl:=cl K _) 36 baseA (T.any 28) (T.glo 15) (xc_ok (T.any 27)).1.kC) sa_nil) bd_law_bases) (s_op o_mul (s_lst (sa_cons s_bl (sa_cons s_bl (sa_cons s_bl sa_nil)))) s_int))
    (ss_one (ss_ret s_bl))
    ss_nil)
    (ss_cons (ss_for (passes_of rfl) rfl (i_rng1 (T.free 32) (sa_cons (s_callB (c_max2 rfl) rfl (T.free 31) rfl (sa_cons s_int (sa_cons (s_callB (c_min2 rfl) rfl (T.free 30) rfl (sa_cons (s_callB c_len rfl (T.free 29) rfl (sa_cons (s_var 0) sa_nil)) (sa_cons s_int sa_nil))) sa_nil))) sa_nil)) (g_name 2 sc_law.nd)
    (ss_cons (ss_set 3 sc_law.nd (s_cal ok_law_jar_ (hr.mono (by decide)) tk (T.glo 35) (sa_cons (s_var 0) (sa_cons (s_var 2) sa_nil)) bd_law_jar))
    (ss_cons (ss_set 4 sc_law.nd (s_cal ok_law_pick_ (hr.mono (by decide)) tk (T.glo 37) (sa_cons (s_var 3) (sa_cons (s_lst (sa_cons s_non (sa_cons s_int (sa_cons s_bl (sa_cons (s_un u_neg s_int) (sa_cons (s_op o_pow s_int s_int) (sa_cons s_str (sa_cons s_str (sa_cons (s_tup sa_nil) (sa_cons (s_tup (sa_cons s_str (sa_cons s_int sa_nil))) (sa_cons (s_lst (sa_cons s_int sa_nil)) (sa_cons (s_disp (sp_cons s_str s_non sp_nil)) (sa_cons (s_tup (sa_cons s_int (sa_cons (s_tup (sa_cons s_int (sa_cons (s_lst (sa_cons s_int sa_nil)) sa_nil))) sa_nil))) sa_nil))))))))))))) sa_nil)) bd_law_pick))
    (ss_one (ss_if (t_w (t_or (t_not (t_val (s_cal ok_law_right_ (hr.mono (by decide)) tk (T.glo 150) (sa_cons (s_cal ok_law_all_ (hr.mono (by decide)) tk (T.glo 149) (sa_cons (s_var 4) sa_nil) bd_law_all) (sa_cons (s_var 4) sa_nil)) bd_law_right))) (t_or1 (t_not (t_val (s_cal ok_law_right_ (hr.mono (by decide)) tk (T.glo 150) (sa_cons (s_cal ok_law_named_ (hr.mono (by decide)) tk (T.glo 151) (sa_cons (s_var 4) sa_nil) bd_law_named) (sa_cons (s_var 4) sa_nil)) bd_law_right))))))
    (ss_one (ss_ret s_bl))
    ss_nil)))))
    (ss_one (ss_ret s_bl)))))))
end
end L01
namespace DV
open PySem L2
theorem Store.put_same {st : Store} {j : Nat} {c : Cell} : (st.put j c).at_ j = some c:=by simp [Store.put]
theorem Store.put_ne {st : Store} {j m : Nat} {c : Cell} (h : m ≠ j) : (st.put j c).at_ m = st.at_ m:=by simp [Store.put,h]
theorem Store.put_put {st : Store} {j : Nat} {c d : Cell} : (st.put j c).put j d = st.put j d:=by
  unfold Store.put
  congr 1
  funext m
  by_cases h : m = j <;> simp [h]
theorem Store.new_same {st : Store} {c : Cell} : (st.new c).at_ st.nxt = some c:=by simp [Store.new]
theorem Store.new_ne {st : Store} {m : Nat} {c : Cell} (h : m ≠ st.nxt) : (st.new c).at_ m = st.at_ m:=by simp [Store.new,h]
structure Kp (js : List Nat) (st st' : Store) : Prop where
  le : st.nxt ≤ st'.nxt
  at_ : ∀ m,m < st.nxt → m ∉ js → st'.at_ m = st.at_ m
theorem Kp.refl {js : List Nat} {st : Store} : Kp js st st:=⟨Nat.le_refl _,fun _ _ _ => rfl⟩
theorem Kp.trans {js : List Nat} {a b c : Store} (h : Kp js a b) (h' : Kp js b c) : Kp js a c:=⟨Nat.le_trans h.le h'.le,fun m hm hj => (h'.at_ m (Nat.lt_of_lt_of_le hm h.le) hj).trans (h.at_ m hm hj)⟩
theorem Kp.more {js ks : List Nat} {a b : Store} (h : Kp js a b) (hs : ∀ x ∈ js,x ∈ ks) : Kp ks a b:=⟨h.le,fun m hm hj => h.at_ m hm fun z => hj (hs m z)⟩
theorem Kp.nil {js : List Nat} {a b : Store} (h : Kp [] a b) : Kp js a b:=h.more (by simp)
theorem Kp.new {js : List Nat} {st : Store} {c : Cell} : Kp js st (st.new c):=⟨Nat.le_succ _,fun m hm _ => Store.new_ne (Nat.ne_of_lt hm)⟩
theorem Kp.put {js : List Nat} {st : Store} {j : Nat} {c : Cell} (hj : j ∈ js) : Kp js st (st.put j c):=⟨Nat.le_refl _,fun m _ h => Store.put_ne fun e => h (e ▸ hj)⟩
theorem Kp.drop {js : List Nat} {a b : Store} {j : Nat} (h : Kp (j :: js) a b) (hj : a.nxt ≤ j) : Kp js a b:=⟨h.le,fun m hm hs => h.at_ m hm (by simp only [List.mem_cons,not_or]; exact ⟨by omega,hs⟩)⟩
theorem Kp.get {js : List Nat} {a b : Store} (h : Kp js a b) {m : Nat} {c : Cell} (e : a.at_ m = some c) (hm : m < a.nxt) (hj : m ∉ js) : b.at_ m = some c:=(h.at_ m hm hj).trans e
theorem Kp.get0 {a b : Store} (h : Kp [] a b) {m : Nat} {c : Cell} (e : a.at_ m = some c) (hm : m < a.nxt) : b.at_ m = some c:=h.get e hm (by simp)
@[simp] theorem srcOk_nil {st : Store} : SrcOk [] st:=fun _ h => nomatch h
theorem srcOk_one {st : Store} {m : Nat} {xs : List D} (h : st.at_ m = some (.lst xs)) : SrcOk [(m,xs)] st:=fun p hp => by
  rw [List.mem_singleton.mp hp]
  exact h
theorem loopC_nil {t : TGT} {mt : MT} {me : ME} {srcs : List (Nat × Cell)} {l0 : Loc} {st : Store} (so : SrcOk srcs st) : loopC t mt me srcs l0 [] st = .ok [] st:=by
  unfold loopC
  rw [if_pos so]
theorem loopC_cons {t : TGT} {mt : MT} {me : ME} {srcs : List (Nat × Cell)} {l0 l1 : Loc} {d : D} {ds : List D} {st : Store} (so : SrcOk srcs st) (ht : t d l0 st = some l1) :
    loopC t mt me srcs l0 (d :: ds) st = (match mt l1 st with
    | .ok k st1 => if k then (match me l1 st1 with
      | .ok x st2 => (match loopC t mt me srcs l0 ds st2 with
        | .ok r st3 => .ok (x :: r) st3
        | _ => .bad)
      | _ => .bad) else loopC t mt me srcs l0 ds st1
    | _ => .bad):=by
  rw [loopC.eq_def]
  simp only [if_pos so,ht]
  cases mt l1 st with
  | ok k st1 =>
    cases k <;> simp only [Bool.false_eq_true,if_false,if_true]
    all_goals rfl
  | exc c fs s => rfl
  | bad => rfl
theorem loopS_nil {t : TGT} {body : MS} {srcs : List (Nat × Cell)} {l : Loc} {st : Store} (so : SrcOk srcs st) : loopS t body srcs [] l st = .nx l st:=by
  unfold loopS
  rw [if_pos so]
theorem loopS_nx {t : TGT} {body : MS} {srcs : List (Nat × Cell)} {l l1 l2 : Loc} {d : D} {ds : List D} {st st2 : Store} (so : SrcOk srcs st) (ht : t d l st = some l1) (hb : body l1 st = .nx l2 st2) : loopS t body srcs (d :: ds) l st = loopS t body srcs ds l2 st2:=by
  rw [loopS.eq_def]
  simp only [if_pos so,ht,hb]
theorem small_line {n : Nat} (h : n ≤ 1000) : n ≤ sizeLine:=Nat.le_trans h (by decide)
end DV
namespace DV
open PySem L2
@[simp] theorem ev_mVar (i : Nat) (l : Loc) (st : Store) : mVar i l st = (match l[i]? with
  | some (some d) => .ok d st
  | _ => .bad):=rfl
@[simp] theorem ev_mC (d : D) (v0 : Loc) (st : Store) : mC d v0 st = (.ok d st):=rfl
@[simp] theorem ev_m2 (f : F2) (a b : ME) (l : Loc) (st : Store) : m2 f a b l st = ((a l st).bind fun x st1 => (b l st1).bind fun y st2 => Res.ofO (f x y st2)):=rfl
@[simp] theorem ev_m1 (f : F1) (a : ME) (l : Loc) (st : Store) : m1 f a l st = ((a l st).bind fun x st1 => Res.ofO (f x st1)):=rfl
@[simp] theorem ev_mL (f : FL) (a : MA) (l : Loc) (st : Store) : mL f a l st = ((a l st).bind fun xs st1 => Res.ofO (f xs st1)):=rfl
@[simp] theorem ev_maNil  (v0 : Loc) (st : Store) : maNil v0 st = (.ok [] st):=rfl
@[simp] theorem ev_maCons (a : ME) (b : MA) (l : Loc) (st : Store) : maCons a b l st = ((a l st).bind fun x st1 => (b l st1).bind fun xs st2 => .ok (x :: xs) st2):=rfl
@[simp] theorem ev_fTup  (xs : List D) (st : Store) : fTup xs st = (if xs.length ≤ sizeLine then some (.tup xs,st) else none):=rfl
@[simp] theorem ev_fLst  (xs : List D) (st : Store) : fLst xs st = (if xs.length ≤ sizeLine then some (.ref st.nxt,st.new (.lst xs)) else none):=rfl
@[simp] theorem ev_mTup (a : MA) (l : Loc) (st : Store) : mTup a l st = ((mL fTup a) l st):=rfl
@[simp] theorem ev_mLst (a : MA) (l : Loc) (st : Store) : mLst a l st = ((mL fLst a) l st):=rfl
@[simp] theorem ev_tB_ (a : ME) (l : Loc) (st : Store) : tB_ a l st = ((a l st).bind toB):=rfl
@[simp] theorem ev_tOr_ (a b : MT) (l : Loc) (st : Store) : tOr_ a b l st = ((a l st).bind fun k st1 => if k then .ok true st1 else b l st1):=rfl
@[simp] theorem ev_tNot_ (a : MT) (l : Loc) (st : Store) : tNot_ a l st = ((a l st).bind fun k st1 => .ok (!k) st1):=rfl
@[simp] theorem ev_mIf (c : MT) (a b : ME) (l : Loc) (st : Store) : mIf c a b l st = ((c l st).bind fun k st1 => if k then a l st1 else b l st1):=rfl
@[simp] theorem ev_msNil  (l : Loc) (st : Store) : msNil l st = (.nx l st):=rfl
@[simp] theorem ev_msSeq (a b : MS) (l : Loc) (st : Store) : msSeq a b l st = (match a l st with
  | .nx l' st' => b l' st'
  | r => r):=rfl
@[simp] theorem ev_msRet (m : ME) (l : Loc) (st : Store) : msRet m l st = ((m l st).toS l fun d st1 => .rt d st1):=rfl
@[simp] theorem ev_msIf (c : MT) (a b : MS) (l : Loc) (st : Store) : msIf c a b l st = ((c l st).toS l fun k st1 => if k then a l st1 else b l st1):=rfl
@[simp] theorem ev_msAsg (m : ME) (t : TGT) (l : Loc) (st : Store) : msAsg m t l st = ((m l st).toS l fun d st1 => match t d l st1 with
  | some l' => .nx l' st1
  | none => .bad):=rfl
@[simp] theorem ev_tgName (i : Nat) (d : D) (l : Loc) (v2 : Store) : tgName i d l v2 = (some (l.set i (some d))):=rfl
open Classical in
@[simp] theorem ev_msFor (mi : MI) (t : TGT) (body : MS) (l : Loc) (st : Store) : msFor mi t body l st = ((mi l st).toS l fun it st1 => loopS t body it.srcs it.items l st1):=rfl
@[simp] theorem ev_mCall (F : FD) (dds : List D) (a : MA) (l : Loc) (st : Store) : mCall F dds a l st = ((a l st).bind fun ds st1 => F (ds ++ dds) st1):=rfl
@[simp] theorem ev_f1 (f : D → Store → Option (D × Store)) (xs : List D) (st : Store) : f1 f xs st = (match xs with
  | [x] => f x st
  | _ => none):=rfl
@[simp] theorem ev_intD (x : D) (st : Store)  : intD x st = (match x with
  | .int i => some (.int i,st)
  | _ => none):=rfl
@[simp] theorem ev_lenD (x : D) (st : Store)  : lenD x st = (match x with
  | .str z => if z.length ≤ sizeLine then some (.int z.length,st) else none
  | .tup xs => some (.int xs.length,st)
  | .rol xs => some (.int xs.length,st)
  | .ref m => (match st.at_ m with
    | some (.lst xs) => some (.int xs.length,st)
    | some (.dic kvs) => some (.int kvs.length,st)
    | _ => none)
  | _ => none):=rfl
@[simp] theorem ev_absD (x : D) (st : Store)  : absD x st = (match x with
  | .int i => some (.int (if i < 0 then -i else i),st)
  | _ => none):=rfl
@[simp] theorem ev_msSub (m o i : ME) (l : Loc) (st : Store) : msSub m o i l st = ((m l st).toS l fun d3 st1 => ((o l st1).toS l fun d1 st2 => (i l st2).toS l fun d2 st3 => match fSet d1 d2 d3 st3 with
  | some st4 => .nx l st4
  | none => .bad)):=rfl
@[simp] theorem ev_fSet (o i v : D) (st : Store)  : fSet o i v st = (match o with
  | .ref m => (match st.at_ m with
    | some (.lst xs) => (match i with
      | .int k => (match ixN xs.length k with
        | some j => some (st.put m (.lst (xs.set j v)))
        | none => none)
      | _ => none)
    | some (.dic kvs) => if kvs.length < sizeLine then (match i with
      | .str a => some (st.put m (.dic (dPut kvs (Sum.inr a) v)))
      | .int a => some (st.put m (.dic (dPut kvs (Sum.inl a) v)))
      | _ => none) else none
    | _ => none)
  | _ => none):=rfl
@[simp] theorem ev_fIx  (x : D) (y : D) (st : Store) : fIx x y st = (match x,y with
  | .tup xs,.int i => (atI xs i).map fun d => (d,st)
  | .rol xs,.int i => (atI xs i).map fun d => (d,st)
  | .str z,.int i => if z.length ≤ sizeLine then (atI z.cps.toList i).map fun c => (.str ⟨#[c]⟩,st) else none
  | .ref m,k => (match st.at_ m with
    | some (.lst xs) => (match k with
      | .int i => (atI xs i).map fun d => (d,st)
      | _ => none)
    | some (.dic kvs) => (match k with
      | .str a => (dLook kvs (Sum.inr a)).map fun d => (d,st)
      | .int a => (dLook kvs (Sum.inl a)).map fun d => (d,st)
      | _ => none)
    | some (.fdc kvs) => (match k with
      | .str a => (dLook kvs (Sum.inr a)).map fun d => (d,st)
      | .int a => (dLook kvs (Sum.inl a)).map fun d => (d,st)
      | _ => none)
    | _ => none)
  | _,_ => none):=rfl
@[simp] theorem ev_fAdd  (x : D) (y : D) (st : Store) : fAdd x y st = (match x,y with
  | .int i,.int j => some (.int (i + j),st)
  | .str a,.str b => if a.length + b.length ≤ sizeLine then some (.str (a ++ b),st) else none
  | .tup xs,.tup ys => if xs.length + ys.length ≤ sizeLine then some (.tup (xs ++ ys),st) else none
  | .ref m,.ref n => match st.at_ m,st.at_ n with
    | some (.lst xs),some (.lst ys) => if xs.length + ys.length ≤ sizeLine then some (.ref st.nxt,st.new (.lst (xs ++ ys))) else none
    | _,_ => none
  | _,_ => none):=rfl
@[simp] theorem ev_fGt  (x : D) (y : D) (st : Store) : fGt x y st = (match x,y with
  | .int i,.int j => some (.bl (decide (j < i)),st)
  | _,_ => none):=rfl
@[simp] theorem ev_fLt  (x : D) (y : D) (st : Store) : fLt x y st = (match x,y with
  | .int i,.int j => some (.bl (decide (i < j)),st)
  | .str i,.str j => some (.bl (decide (i.cps.toList < j.cps.toList)),st)
  | _,_ => none):=rfl
@[simp] theorem ev_fGe  (x : D) (y : D) (st : Store) : fGe x y st = (match x,y with
  | .int i,.int j => some (.bl (decide (j ≤ i)),st)
  | .str i,.str j => some (.bl (!decide (i.cps.toList < j.cps.toList)),st)
  | _,_ => none):=rfl
@[simp] theorem ev_fEq  (x : D) (y : D) (st : Store) : fEq x y st = ((dataEq x y st).map fun b => (.bl b,st)):=rfl
@[simp] theorem ev_fNe  (x : D) (y : D) (st : Store) : fNe x y st = ((dataEq x y st).map fun b => (.bl (!b),st)):=rfl
@[simp] theorem ev_dataEq (x y : D) (st : Store)  : dataEq x y st = (match scalEq x y with
  | some b => some b
  | none => match toData st 20 x,toData st 20 y with
    | some a,some b => some (PyData.eqv a b)
    | _,_ => none):=rfl
@[simp] theorem ev_mSl (a : ME) (lo hi : MO) (l : Loc) (st : Store) : mSl a lo hi l st = ((a l st).bind fun x st1 => (lo l st1).bind fun i st2 => (hi l st2).bind fun j st3 => Res.ofO (fSl x i j st3)):=rfl
@[simp] theorem ev_fSl (x : D) (lo hi : Option Int) (st : Store)  : fSl x lo hi st = (match x with
  | .tup xs => some (.tup (cutD xs lo hi),st)
  | .rol xs => some (.ref st.nxt,st.new (.lst (cutD xs lo hi)))
  | .ref m => (match st.at_ m with
    | some (.lst xs) => some (.ref st.nxt,st.new (.lst (cutD xs lo hi)))
    | _ => none)
  | _ => none):=rfl
@[simp] theorem ev_moNone  (v0 : Loc) (st : Store) : moNone v0 st = (.ok none st):=rfl
@[simp] theorem ev_moSome (m : ME) (l : Loc) (st : Store) : moSome m l st = ((m l st).bind fun d st1 => match d with
  | .int i => .ok (some i) st1
  | _ => .bad):=rfl
@[simp] theorem ev_miSeq (m : ME) (l : Loc) (st : Store) : miSeq m l st = ((m l st).bind fun d st1 => match seqOf d st1 with
  | some it => .ok it st1
  | none => .bad):=rfl
@[simp] theorem ev_miRng (f : List D → Option Iter) (a : MA) (l : Loc) (st : Store) : miRng f a l st = ((a l st).bind fun ds st1 => match f ds with
  | some it => .ok it st1
  | none => .bad):=rfl
@[simp] theorem ev_fNeg  (x : D) (st : Store) : fNeg x st = (match x with
  | .int i => some (.int (-i),st)
  | _ => none):=rfl
@[simp] theorem ev_fIn  (x : D) (y : D) (st : Store) : fIn x y st = ((inB x y st).map fun b => (.bl b,st)):=rfl
@[simp] theorem ev_fMul  (x : D) (y : D) (st : Store) : fMul x y st = (match x,y with
  | .int i,.int j => if CMul i j then some (.int (i * j),st) else none
  | .ref m,.int k => match st.at_ m with
    | some (.lst xs) => if -(2 ^ 63) ≤ k ∧ k < 2 ^ 63 ∧ xs.length * k.toNat ≤ sizeLine then some (.ref st.nxt,st.new (.lst (repL k.toNat xs))) else none
    | _ => none
  | _,_ => none):=rfl
@[simp] theorem ev_f2I (g : Int → Int → Int) (xs : List D) (st : Store) : f2I g xs st = (match xs with
  | [.int i,.int j] => some (.int (g i j),st)
  | _ => none):=rfl
@[simp] theorem ev_maxI (i j : Int)  : maxI i j = (if j > i then j else i):=rfl
@[simp] theorem ev_minI (i j : Int)  : minI i j = (if j < i then j else i):=rfl
open Classical in
@[simp] theorem ev_mLc (mi : MI) (t : TGT) (mt : MT) (me : ME) (vs : List Nat) (l : Loc) (st : Store) : mLc mi t mt me vs l st = ((mi l st).bind fun it st1 => match loopC t mt me it.srcs (wipeL l vs) it.items st1 with
  | .ok ys st2 => if ys.length ≤ sizeLine then .ok (.ref st2.nxt) (st2.new (.lst ys)) else .bad
  | _ => .bad):=rfl
@[simp] theorem ev_seqOf (d : D) (st : Store)  : seqOf d st = (match d with
  | .tup xs => some ⟨[],xs⟩
  | .rol xs => some ⟨[],xs⟩
  | .ref m => (match st.at_ m with
    | some (.lst xs) => some ⟨[(m,xs)],xs⟩
    | _ => none)
  | _ => none):=rfl
@[simp] theorem ev_tYes_  (v0 : Loc) (st : Store) : tYes_ v0 st = (.ok true st):=rfl
@[simp] theorem ev_bind_ok {α β : Type} (a : α) (st : Store) (k : α → Store → Res β) : (Res.ok a st).bind k = k a st:=rfl
@[simp] theorem ev_toS_ok {α : Type} (a : α) (st : Store) (l : Loc) (k : α → Store → RS) : (Res.ok a st).toS l k = k a st:=rfl
@[simp] theorem ev_ofO_some {α : Type} (p : α × Store) : Res.ofO (some p) = .ok p.1 p.2:=rfl
@[simp] theorem ev_toB (b : Bool) (st : Store) : toB (.bl b) st = .ok b st:=rfl
@[simp] theorem ev_fMod (i j : Int) (st : Store) : fMod (.int i) (.int j) st = if 0 < j then some (.int (i % j),st) else none:=rfl
@[simp] theorem ev_fFdiv (i j : Int) (st : Store) : fFdiv (.int i) (.int j) st = if 0 < j ∧ j.natAbs.log2 < 9000 then some (.int (i / j),st) else none:=rfl
@[simp] theorem ev_rng1 (j : Int) : rng1 [.int j] = if -(2 ^ 62) ≤ j ∧ j < 2 ^ 62 then some ⟨[],intsFrom 0 j.toNat⟩ else none:=rfl
@[simp] theorem ev_mDef (n len : Nat) (body : MS) (ds : List D) (st : Store) : mDef n len body ds st = if ds.length = n then (match body (ds.map some ++ List.replicate (len - n) none) st with
  | .rt d st' => .ok d st'
  | .nx _ st' => .ok .non st'
  | .exc c fs _ st' => .exc c fs st'
  | _ => .bad) else .bad:=rfl
@[simp] theorem ev_own (c : Nat) (bs : List String) : fOwn c bs (.o c) = some true:=if_pos rfl
@[simp] theorem ev_sc_ii (i j : Int) : scalEq (.int i) (.int j) = some (decide (i = j)):=rfl
@[simp] theorem ev_sc_ss (i j : Str) : scalEq (.str i) (.str j) = some (decide (i = j)):=rfl
@[simp] theorem ev_sc_bb (i j : Bool) : scalEq (.bl i) (.bl j) = some (decide (i = j)):=rfl
@[simp] theorem ev_sc_nn : scalEq .non .non = some true:=rfl
@[simp] theorem ev_sc_ni (i : Int) : scalEq .non (.int i) = some false:=rfl
@[simp] theorem ev_sc_in (i : Int) : scalEq (.int i) .non = some false:=rfl
@[simp] theorem ev_sc_tt (xs ys : List D) : scalEq (.tup xs) (.tup ys) = none:=rfl
@[simp] theorem ev_sc_rr (m n : Nat) : scalEq (.ref m) (.ref n) = none:=rfl
@[simp] theorem ev_put_same {st : Store} {j : Nat} {c : Cell} : (st.put j c).at_ j = some c:=Store.put_same
@[simp] theorem ev_new_same {st : Store} {c : Cell} : (st.new c).at_ st.nxt = some c:=Store.new_same
@[simp] theorem ev_new_nxt {st : Store} {c : Cell} : (st.new c).nxt = st.nxt + 1:=rfl
@[simp] theorem ev_put_nxt {st : Store} {j : Nat} {c : Cell} : (st.put j c).nxt = st.nxt:=rfl
@[simp] theorem ev_put_put {st : Store} {j : Nat} {c d : Cell} : (st.put j c).put j d = st.put j d:=Store.put_put
@[simp] theorem le_line0 : 0 ≤ sizeLine:=Nat.zero_le _
@[simp] theorem le_line1 : 1 ≤ sizeLine:=by decide
@[simp] theorem le_line2 : 2 ≤ sizeLine:=by decide
@[simp] theorem le_line3 : 3 ≤ sizeLine:=by decide
@[simp] theorem le_line4 : 4 ≤ sizeLine:=by decide
theorem ev_atI {α : Type} {xs : List α} {i : Int} {x : α} (h0 : 0 ≤ i) (h : xs[i.toNat]? = some x) : atI xs i = some x:=by
  have hl : i.toNat < xs.length:=(List.getElem?_eq_some_iff.mp h).1
  unfold atI ixN
  rw [if_pos h0,if_pos (by omega)]
  exact h
@[simp] theorem atI0 {α : Type} (x : α) (xs : List α) : atI (x :: xs) 0 = some x:=ev_atI (by omega) rfl
@[simp] theorem atI1 {α : Type} (x y : α) (xs : List α) : atI (x :: y :: xs) 1 = some y:=ev_atI (by omega) rfl
@[simp] theorem atI2 {α : Type} (x y z : α) (xs : List α) : atI (x :: y :: z :: xs) 2 = some z:=ev_atI (by omega) rfl
@[simp] theorem atI3 {α : Type} (x y z u : α) (xs : List α) : atI (x :: y :: z :: u :: xs) 3 = some u:=ev_atI (by omega) rfl
end DV
namespace DV
open PySem L2
abbrev TOk (x : Str) : Prop:=PyData.strOk x = true
theorem toData_str {st : Store} {n : Nat} {x : Str} (h : TOk x) : toData st (n + 1) (.str x) = some (.str x):=by
  simp only [toData]
  rw [if_pos h]
theorem toData_tup {st : Store} {n : Nat} {ds : List D} {ps : List PyData} (h : optL (toData st n) ds = some ps) : toData st (n + 1) (.tup ds) = some (.tuple ps):=by
  simp only [toData]
  rw [h]
theorem toData_lst {st : Store} {n m : Nat} {ds : List D} {ps : List PyData} (e : st.at_ m = some (.lst ds)) (h : optL (toData st n) ds = some ps) : toData st (n + 1) (.ref m) = some (.list ps):=by
  simp only [toData,e]
  rw [h]
end DV
namespace G
open DV PySem L2
section
variable {l l' : DV.Loc} {s s1 s2 s3 s4 : Store}
theorem seq_go {a b : MS} {r : RS} (h : a l s = .nx l' s1) (h2 : b l' s1 = r) : msSeq a b l s = r:=by rw [ev_msSeq,h]; exact h2
theorem nil_is : maNil l s = .ok [] s:=rfl
theorem cons_is {a : ME} {b : MA} {x : D} {xs : List D} (h : a l s = .ok x s1) (h2 : b l s1 = .ok xs s2) : maCons a b l s = .ok (x :: xs) s2:=by
  rw [ev_maCons,h,ev_bind_ok,h2]
  rfl
theorem call_is {F : FD} {dd : List D} {a : MA} {ds : List D} {r : Res D} (h : a l s = .ok ds s1) (e : F (ds ++ dd) s1 = r) : mCall F dd a l s = r:=by
  rw [ev_mCall,h]
  exact e
theorem m2_is {f : F2} {a b : ME} {x y d : D} (h : a l s = .ok x s1) (h2 : b l s1 = .ok y s2) (e : f x y s2 = some (d,s3)) : m2 f a b l s = .ok d s3:=by
  rw [ev_m2,h,ev_bind_ok,h2,ev_bind_ok,e]
  rfl
theorem mL_is {f : DV.FL} {a : MA} {ds : List D} {d : D} (h : a l s = .ok ds s1) (e : f ds s1 = some (d,s2)) : mL f a l s = .ok d s2:=by
  rw [ev_mL,h,ev_bind_ok,e]
  rfl
theorem lst_is {a : MA} {ds : List D} (h : a l s = .ok ds s1) (hl : ds.length ≤ 1000) : mLst a l s = .ok (.ref s1.nxt) (s1.new (.lst ds)):=by
  rw [ev_mLst]
  exact mL_is h (by rw [ev_fLst,if_pos (small_line hl)])
theorem tup_is {a : MA} {ds : List D} (h : a l s = .ok ds s1) (hl : ds.length ≤ 1000) : mTup a l s = .ok (.tup ds) s1:=by
  rw [ev_mTup]
  exact mL_is h (by rw [ev_fTup,if_pos (small_line hl)])
theorem tb_is {m : ME} {b : Bool} (h : m l s = .ok (.bl b) s1) : tB_ m l s = .ok b s1:=by
  rw [ev_tB_,h]
  rfl
theorem not_is {t : MT} {b : Bool} (h : t l s = .ok b s1) : tNot_ t l s = .ok (!b) s1:=by
  rw [ev_tNot_,h]
  rfl
theorem or_f {a b : MT} {r : Res Bool} (h : a l s = .ok false s1) (h2 : b l s1 = r) : tOr_ a b l s = r:=by
  rw [ev_tOr_,h]
  exact h2
theorem mif_t {c : MT} {a b : ME} {r : Res D} (h : c l s = .ok true s1) (e : a l s1 = r) : mIf c a b l s = r:=by
  rw [ev_mIf,h,ev_bind_ok,if_pos rfl]
  exact e
theorem mif_f {c : MT} {a b : ME} {r : Res D} (h : c l s = .ok false s1) (e : b l s1 = r) : mIf c a b l s = r:=by
  rw [ev_mIf,h,ev_bind_ok,if_neg (by simp)]
  exact e
theorem if_t {c : MT} {a b : MS} {r : RS} (h : c l s = .ok true s1) (e : a l s1 = r) : msIf c a b l s = r:=by
  rw [ev_msIf,h]
  exact e
theorem if_f {c : MT} {a b : MS} {r : RS} (h : c l s = .ok false s1) (e : b l s1 = r) : msIf c a b l s = r:=by
  rw [ev_msIf,h]
  exact e
theorem if_fn {c : MT} {a : MS} (h : c l s = .ok false s1) : msIf c a msNil l s = .nx l s1:=if_f h rfl
theorem asg_is {m : ME} {t : TGT} {d : D} (h : m l s = .ok d s1) (e : t d l s1 = some l') : msAsg m t l s = .nx l' s1:=by
  rw [ev_msAsg,h,ev_toS_ok]
  simp only [e]
theorem asg_n {m : ME} {i : Nat} {d : D} (h : m l s = .ok d s1) (e : l.set i (some d) = l') : msAsg m (tgName i) l s = .nx l' s1:=asg_is h (by rw [ev_tgName,e])
theorem ret_is {m : ME} {d : D} (h : m l s = .ok d s1) : msRet m l s = .rt d s1:=by
  rw [ev_msRet,h]
  rfl
theorem ix_lst {m : Nat} {xs : List D} {i : Int} {d : D} (h : s.at_ m = some (.lst xs)) (e : atI xs i = some d) : fIx (.ref m) (.int i) s = some (d,s):=by
  rw [ev_fIx]
  simp only [h,e]
  rfl
end
end G
namespace G
open DV PySem L2
def JarAt (st : Store) (j : Nat) : Prop:=∃ a b c,st.at_ j = some (.lst [.int a,.int b,.int c])
theorem JarAt.mv {st : Store} {j : Nat} (h : JarAt st j) {st' : Store} {js : List Nat} (k : Kp js st st') (hj : j < st.nxt) (hn : j ∉ js) : JarAt st' j:=by
  obtain ⟨a,b,c,e⟩:=h
  exact ⟨a,b,c,k.get e hj hn⟩
theorem JarAt.new {st : Store} {j : Nat} (h : JarAt st j) (hj : j < st.nxt) {c : Cell} : JarAt (st.new c) j:=h.mv (js:=[]) Kp.new hj (by simp)
theorem dip_ok {st : Store} {j : Nat} {n : Int} (h : JarAt st j) (h0 : 0 < n) (h1 : n < 1152921504606846976) :
    ∃ k st',0 ≤ k ∧ k < n ∧ F_law_dip [.ref j,.int n] st = .ok (.int k) st' ∧ Kp [j] st st' ∧ JarAt st' j:=by
  have w1 : n.natAbs.log2 < 9000:=Nat.lt_trans ((Nat.log2_lt (by omega)).mpr (show n.natAbs < 2 ^ 61 by omega)) (by decide)
  have w2 : Nat.log2 4096 < 9000:=by decide
  obtain ⟨a,b,c,h⟩:=h
  by_cases hp : 0 < a
  · refine ⟨a % n,st.put j (.lst [.int (a / n),.int b,.int (c + 1)]),Int.emod_nonneg _ (by omega),Int.emod_lt_of_pos _ h0,?_,Kp.put (by simp),_,_,_,Store.put_same⟩
    simp [F_law_dip,h,hp,h0,w1,ixN]
  · refine ⟨((b * 48271 + (c + 1) * 40503 + 17) % 2147483629 / 4096) % n,st.put j (.lst [.int a,.int ((b * 48271 + (c + 1) * 40503 + 17) % 2147483629),.int (c + 1)]),Int.emod_nonneg _ (by omega),Int.emod_lt_of_pos _ h0,?_,Kp.put (by simp),_,_,_,Store.put_same⟩
    have e1 : CMul b 48271:=.inr ⟨by decide,by decide⟩
    have e2 : CMul (c + 1) 40503:=.inr ⟨by decide,by decide⟩
    simp [F_law_dip,h,hp,h0,w1,w2,e1,e2,ixN]
theorem pick_ok {st : Store} {j m : Nat} {ds : List D} (h : JarAt st j) (hm : st.at_ m = some (.lst ds)) (hj : m ≠ j) (hj2 : m < st.nxt) (h0 : 0 < ds.length) (h1 : ds.length < 1000) :
    ∃ d st',d ∈ ds ∧ F_law_pick [.ref j,.ref m] st = .ok d st' ∧ Kp [j] st st' ∧ JarAt st' j:=by
  obtain ⟨k,st',k0,k1,e,kp,jr⟩:=dip_ok (n:=(ds.length : Nat)) h (by omega) (by omega)
  have hm2:=kp.get hm hj2 (by simpa using hj)
  have hlt : k.toNat < ds.length:=by omega
  refine ⟨ds[k.toNat],st',List.getElem_mem _,?_,kp,jr⟩
  have e3 : atI ds k = some ds[k.toNat]:=ev_atI k0 (List.getElem?_eq_getElem hlt)
  simp [F_law_pick,hm,e,hm2,e3]
def SMALLS : Str:="abcdefghijklmnopqrstuvwxyz"
def DIGS : Str:="0123456789"
structure NameOk (x : Str) : Prop where
  t : TOk x
  l8 : x.length ≤ 8
  l1 : 1 ≤ x.length
  n1 : x ≠ "screen"
  n2 : x ≠ "solid"
  n3 : x ≠ "beat"
  first : (x.cps.toList.head?.any fun c => decide (c ∈ SMALLS.cps.toList)) = true
  signs : ∀ c ∈ x.cps.toList,(decide (c ∈ SMALLS.cps.toList) || decide (c ∈ DIGS.cps.toList)) = true
structure Fr where
  ink : Str
  l : Int
  t : Int
  r : Int
  b : Int
  doom : Str
def Fr.part (f : Fr) : D:=.tup [.int f.l,.int f.t,.int f.r,.int f.b]
def Fr.d (f : Fr) : D:=.tup [.str f.ink,f.part,.str f.doom]
def inks : List Str:=["sky","a","bird2"]
def dooms : List Str:=["stays","wiped","back"]
def firms : List Str:=["a","bird2","sky","zz"]
structure Fr.Ok (f : Fr) (W Hh : Int) : Prop where
  ink : NameOk f.ink
  l0 : 0 ≤ f.l
  lr : f.l < f.r
  rW : f.r ≤ W
  t0 : 0 ≤ f.t
  tb : f.t < f.b
  bH : f.b ≤ Hh
  doom : f.doom ∈ dooms
structure FirmOk (firm : List Str) : Prop where
  name : ∀ x ∈ firm,NameOk x
  up : firm.Pairwise fun a b => a.cps.toList < b.cps.toList
  l8 : firm.length ≤ 8
theorem FirmOk.t {firm : List Str} (h : FirmOk firm) : ∀ x ∈ firm,TOk x:=fun x hx => (h.name x hx).t
structure Pic where
  W : Int
  Hh : Int
  fs : List Fr
  firm : List Str
def Pic.d (p : Pic) : D:=.tup [.int p.W,.int p.Hh,.tup (p.fs.map Fr.d),.tup (p.firm.map D.str)]
structure Pic.Ok (p : Pic) : Prop where
  W0 : 1 ≤ p.W
  W1 : p.W ≤ 1000000000000
  H0 : 1 ≤ p.Hh
  H1 : p.Hh ≤ 1000000000000
  ne : p.fs ≠ []
  l8 : p.fs.length ≤ 8
  fr : ∀ f ∈ p.fs,f.Ok p.W p.Hh
  firm : FirmOk p.firm
structure Pic.Drawn (p : Pic) (most : Nat) (wide high : Int) : Prop extends Pic.Ok p where
  Ww : p.W ≤ wide
  Hw : p.Hh ≤ high
  lm : p.fs.length ≤ most
  inks : ∀ f ∈ p.fs,f.ink ∈ G.inks
  sub : p.firm.Sublist firms
end G
namespace G
open DV PySem L2
end G
namespace G
open DV PySem L2
section
variable {st : Store} {n : Nat} {p : Pic}
end
end G
namespace G
open DV PySem L2
structure Stand where
  row : List Str
  closed : Bool
def Stand.d (s : Stand) : D:=.tup [.tup (s.row.map D.str),.bl s.closed]
instance : DecidableEq Stand:=fun a b => decidable_of_iff (a.row = b.row ∧ a.closed = b.closed) (by cases a; cases b; simp)
def lastIn (solid found : List Str) : Bool:=found.getLast?.any fun y => decide (y ∈ solid)
structure Stand.Ok (I : List Str) (s : Stand) : Prop where
  inks : ∀ z ∈ s.row,z ∈ I
  nd : s.row.Nodup
theorem Stand.Ok.none {I : List Str} {b : Bool} : Stand.Ok I ⟨[],b⟩:=⟨by simp,by simp⟩
theorem Stand.Ok.sub {I J : List Str} {s : Stand} (h : s.Ok I) (hs : ∀ z ∈ I,z ∈ J) : s.Ok J:=⟨fun z hz => hs z (h.inks z hz),h.nd⟩
theorem nodup_len : ∀ (l m : List Str),l.Nodup → (∀ x ∈ l,x ∈ m) → l.length ≤ m.length
  | [],m,_,_ => Nat.zero_le _
  | x :: l,m,h1,h2 => by
    rw [List.nodup_cons] at h1
    have hx:=h2 x (by simp)
    have ih:=nodup_len l (m.erase x) h1.2 fun y hy => (List.mem_erase_of_ne fun e => h1.1 (by rw [← e]; exact hy)).mpr (h2 y (List.mem_cons_of_mem _ hy))
    rw [List.length_erase_of_mem hx] at ih
    have : 0 < m.length:=List.length_pos_of_mem hx
    simp only [List.length_cons]
    omega
theorem Stand.Ok.len {I : List Str} {s : Stand} (h : s.Ok I) : s.row.length ≤ I.length:=nodup_len _ _ h.nd h.inks
structure InkOk (I : List Str) : Prop where
  t : ∀ z ∈ I,TOk z
  l : I.length ≤ 40
theorem Stand.Ok.t {I : List Str} {s : Stand} (h : s.Ok I) (hI : InkOk I) : ∀ z ∈ s.row,TOk z:=fun z hz => hI.t z (h.inks z hz)
def Pic.inks (p : Pic) : List Str:=p.fs.map (·.ink)
end G
namespace G
open DV PySem L2
abbrev Col:=Option Int
def colD : Col → D
  | some i => .int i
  | none => .non
def PatAt (st : Store) (r : Nat) (done : List Str) (pat : Str → Col) : Prop:=st.at_ r = some (.dic (done.map fun x => (Sum.inr x,colD (pat x))))
end G
namespace G
open DV PySem L2
structure Stand.Good (firm I : List Str) (s : Stand) : Prop where
  ok : s.Ok I
  drop : ∀ z ∈ s.row.dropLast,z ∉ firm
  last : lastIn firm s.row = true → s.closed = true
end G
namespace G
open DV PySem L2
section
variable {n : Nat} {p : Pic} {st : Store}
end
end G
namespace DV
theorem zip_tail_mem {xs : List Int} {a b : Int} (h : (a,b) ∈ xs.zip xs.tail) : a ∈ xs ∧ b ∈ xs:=by
  have:=List.of_mem_zip h
  exact ⟨this.1,List.mem_of_mem_tail this.2⟩
theorem zip_tail_lt : ∀ {xs : List Int} {a b : Int},xs.Pairwise (· < ·) → (a,b) ∈ xs.zip xs.tail → a < b
  | [],_,_,_,h => by simp at h
  | [p],_,_,_,h => by simp at h
  | p :: q :: r,a,b,hs,h => by
    have hs':=List.pairwise_cons.mp hs
    simp only [List.tail_cons,List.zip_cons_cons,List.mem_cons,Prod.mk.injEq] at h
    rcases h with ⟨rfl,rfl⟩ | h
    · exact hs'.1 _ (by simp)
    · exact zip_tail_lt (xs:=q :: r) hs'.2 (by simpa using h)
end DV
namespace G
open DV PySem L2
def acrossP (W : Int) (fs : List Fr) : List Int:=sddI (0 :: W :: (fs.map Fr.l ++ fs.map Fr.r))
def downP (Hh : Int) (fs : List Fr) : List Int:=sddI (0 :: Hh :: (fs.map Fr.t ++ fs.map Fr.b))
end G
namespace G
open DV PySem L2
end G
namespace G
open DV PySem L2
abbrev Pat:=Str → Col
def PatOk (st : Store) (done : List Str) (a : Nat × Pat) : Prop:=a.1 < st.nxt ∧ PatAt st a.1 done a.2
theorem PatOk.mv {st st' : Store} {done : List Str} {a : Nat × Pat} {js : List Nat} (h : PatOk st done a) (k : Kp js st st') (hj : a.1 ∉ js) : PatOk st' done a:=⟨Nat.lt_of_lt_of_le h.1 k.le,k.get h.2 h.1 hj⟩
end G
namespace G
open DV PySem L2
theorem pow18 {st : Store} : fPow (.int 10) (.int 18) st = some (.int 1000000000000000000,st):=by
  have c : CPow 10 18:=⟨by decide,by decide,by decide⟩
  have e : (10 : Int) ^ (18 : Int).toNat = 1000000000000000000:=by decide +kernel
  unfold fPow fI
  simp only [if_pos c,e]
theorem jar_loop {m : Nat} {all : List D} {o0 o1 o4 o5 : Option D} {st : Store} (ha : st.at_ m = some (.lst all)) : ∀ (is : List Int) (mx : Int) (o3 : Option D),∃ (mx' : Int) (p3 : Option D),loopS (tgName 3) law_jar_L1 [(m,all)] (is.map D.int) [o0,o1,some (.int mx),o3,o4,o5] st = .nx [o0,o1,some (.int mx'),p3,o4,o5] st
  | [],mx,o3 => ⟨mx,o3,loopS_nil (srcOk_one ha)⟩
  | i :: is,mx,o3 => by
    have c : CMul mx 733:=.inr ⟨by decide,by decide⟩
    have body : law_jar_L1 [o0,o1,some (.int mx),some (.int i),o4,o5] st = .nx [o0,o1,some (.int ((mx * 733 + i) % 1000000007)),some (.int i),o4,o5] st:=by simp [law_jar_L1,c]
    obtain ⟨mx',p3,e⟩:=jar_loop (o0:=o0) (o1:=o1) (o4:=o4) (o5:=o5) ha is ((mx * 733 + i) % 1000000007) (some (.int i))
    refine ⟨mx',p3,?_⟩
    rw [List.map_cons,loopS_nx (srcOk_one ha) (by rfl) body]
    exact e
theorem cut_ints (ns : List Int) (lo hi : Option Int) : ∃ is : List Int,cutD (ns.map D.int) lo hi = is.map D.int:=by
  unfold cutD
  rw [← List.map_drop,← List.map_take]
  exact ⟨_,rfl⟩
theorem jar_ok {ns : List Int} {k : Int} {st : Store} (h0 : 0 ≤ k) (h4 : k < 60) (hn : ns.length ≤ 63) : ∃ (j : Nat) (st' : Store),F_law_jar [.rol (ns.map D.int),.int k] st = .ok (.ref j) st' ∧ JarAt st' j ∧ j < st'.nxt ∧ st.nxt ≤ st'.nxt:=by
  obtain ⟨is,his⟩:=cut_ints ns none (some 4)
  obtain ⟨mx,p3,e3⟩:=jar_loop (m:=st.nxt) (all:=is.map D.int) (o0:=some (.rol (ns.map D.int))) (o1:=some (.int k)) (o4:=none) (o5:=none) (st:=st.new (.lst (is.map D.int))) Store.new_same is (8191 * (k + 2) * (k + 5) + 13 * (ns.length : Nat)) none
  have c1 : CMul 8191 (k + 2):=.inl ⟨by decide,by decide⟩
  have c2 : CMul (8191 * (k + 2)) (k + 5):=.inr ⟨by omega,by omega⟩
  have c3 : CMul 13 (ns.length : Nat):=.inl ⟨by decide,by decide⟩
  have c4 : CMul mx 7907:=.inr ⟨by decide,by decide⟩
  have c5 : ∀ o : Int,CMul o 65537:=fun o => .inr ⟨by decide,by decide⟩
  have c6 : CMul 104729 (k + 1):=.inl ⟨by decide,by decide⟩
  -- the cell's own number
  obtain ⟨own,ho⟩ : ∃ own : Int,(if k < (ns.length : Nat) then atI (ns.map D.int) k else some (.int 0)) = some (.int own):=by
    by_cases q : k < (ns.length : Nat)
    · have hk : k.toNat < ns.length:=by omega
      refine ⟨ns[k.toNat],?_⟩
      rw [if_pos q]
      exact ev_atI h0 (by rw [List.getElem?_map,List.getElem?_eq_getElem hk]; rfl)
    · exact ⟨0,by rw [if_neg q]⟩
  have own_ : mIf (tB_ (m2 fLt (mVar 1) (mL (f1 lenD) (maCons (mVar 0) maNil)))) (m2 fIx (mVar 0) (mVar 1)) (mC (.int 0)) [some (.rol (ns.map D.int)),some (.int k),some (.int mx),p3,none,none] (st.new (.lst (is.map D.int))) = .ok (.int own) (st.new (.lst (is.map D.int))):=by
    by_cases q : k < (ns.length : Nat)
    · rw [if_pos q] at ho
      simp [q,ho]
    · rw [if_neg q] at ho
      have z : own = 0:=by simpa using ho.symm
      simp [q,z]
  obtain ⟨dig,dig_⟩ : ∃ dig : Int,mIf (tOr_ (tB_ (m2 fLt (mVar 4) (mC (.int 0)))) (tB_ (m2 fGe (mVar 4) (m2 fPow (mC (.int 10)) (mC (.int 18)))))) (mL (f1 absD) (maCons (mVar 4) maNil)) (mC (.int 0)) [some (.rol (ns.map D.int)),some (.int k),some (.int mx),p3,some (.int own),none] (st.new (.lst (is.map D.int))) = .ok (.int dig) (st.new (.lst (is.map D.int))):=by
    by_cases q : own < 0
    · exact ⟨_,by simp [q]; rfl⟩
    · by_cases q2 : (1000000000000000000 : Int) ≤ own
      · exact ⟨_,by simp [q,pow18,q2]; rfl⟩
      · exact ⟨0,by simp [q,pow18,q2]⟩
  refine ⟨st.nxt + 1,(st.new (.lst (is.map D.int))).new (.lst [.int dig,.int ((mx * 7907 + own * 65537 + 104729 * (k + 1)) % 2147483587),.int 0]),?_,⟨_,_,_,Store.new_same⟩,by show st.nxt + 1 < st.nxt + 1 + 1; omega,by show st.nxt ≤ st.nxt + 1 + 1; omega⟩
  unfold F_law_jar
  have b1 : msAsg (m2 fAdd (m2 fMul (m2 fMul (mC (.int 8191)) (m2 fAdd (mVar 1) (mC (.int 2)))) (m2 fAdd (mVar 1) (mC (.int 5)))) (m2 fMul (mC (.int 13)) (mL (f1 lenD) (maCons (mVar 0) maNil)))) (tgName 2) [some (.rol (ns.map D.int)),some (.int k),none,none,none,none] st =
      .nx [some (.rol (ns.map D.int)),some (.int k),some (.int (8191 * (k + 2) * (k + 5) + 13 * (ns.length : Nat))),none,none,none] st:=by simp [c1,c2,c3]
  have b2 : miSeq (mSl (mVar 0) moNone (moSome (mC (.int 4)))) [some (.rol (ns.map D.int)),some (.int k),some (.int (8191 * (k + 2) * (k + 5) + 13 * (ns.length : Nat))),none,none,none] st = .ok ⟨[(st.nxt,is.map D.int)],is.map D.int⟩ (st.new (.lst (is.map D.int))):=by simp [his]
  simp only [ev_mDef,List.length_cons,List.length_nil,if_true,List.map_cons,List.map_nil,List.replicate,List.cons_append,List.nil_append]
  rw [ev_msSeq,b1]
  simp only
  rw [ev_msSeq,ev_msFor,b2]
  simp only [ev_toS_ok,e3]
  rw [ev_msSeq,ev_msAsg,own_]
  simp only [ev_toS_ok,ev_tgName,List.set_cons_succ,List.set_cons_zero]
  rw [ev_msSeq,ev_msAsg,dig_]
  simp only [ev_toS_ok,ev_tgName,List.set_cons_succ,List.set_cons_zero]
  simp [c4,c5,c6]
section
variable {R : FD} (hR : ∀ (j : Nat) (st : Store),JarAt st j → j < st.nxt → ∃ st',R [.ref j] st = .ok (.bl true) st' ∧ st.nxt ≤ st'.nxt)
include hR
end
end G
namespace G
open DV PySem L2
structure Box where
  l : Int
  t : Int
  r : Int
  b : Int
def Box.d (c : Box) : D:=.tup [.int c.l,.int c.t,.int c.r,.int c.b]
def cellsG (W Hh : Int) (fs : List Fr) : List Box:=(((downP Hh fs).zip (downP Hh fs).tail).map fun q => ((acrossP W fs).zip (acrossP W fs).tail).map fun s => (⟨s.1,q.1,s.2,q.2⟩ : Box)).flatten
theorem mem_cellsG {W Hh : Int} {fs : List Fr} {c : Box} : c ∈ cellsG W Hh fs ↔ (c.l,c.r) ∈ (acrossP W fs).zip (acrossP W fs).tail ∧ (c.t,c.b) ∈ (downP Hh fs).zip (downP Hh fs).tail:=by
  unfold cellsG
  simp only [List.mem_flatten,List.mem_map]
  constructor
  · rintro ⟨l,⟨q,hq,rfl⟩,h⟩
    obtain ⟨s,hs,rfl⟩:=List.mem_map.mp h
    exact ⟨hs,hq⟩
  · rintro ⟨h1,h2⟩
    exact ⟨_,⟨(c.t,c.b),h2,rfl⟩,List.mem_map.mpr ⟨(c.l,c.r),h1,rfl⟩⟩
section
variable {W Hh : Int} {fs : List Fr}
theorem acr_up : (acrossP W fs).Pairwise (· < ·):=up_sddI _
theorem dwn_up : (downP Hh fs).Pairwise (· < ·):=up_sddI _
theorem mem_acr {z : Int} : z ∈ acrossP W fs ↔ z = 0 ∨ z = W ∨ ∃ f ∈ fs,z = f.l ∨ z = f.r:=by
  unfold acrossP
  rw [mem_sddI]
  simp only [List.mem_cons,List.mem_append,List.mem_map]
  constructor
  · rintro (h | h | ⟨f,hf,rfl⟩ | ⟨f,hf,rfl⟩)
    · exact .inl h
    · exact .inr (.inl h)
    · exact .inr (.inr ⟨f,hf,.inl rfl⟩)
    · exact .inr (.inr ⟨f,hf,.inr rfl⟩)
  · rintro (h | h | ⟨f,hf,rfl | rfl⟩)
    · exact .inl h
    · exact .inr (.inl h)
    · exact .inr (.inr (.inl ⟨f,hf,rfl⟩))
    · exact .inr (.inr (.inr ⟨f,hf,rfl⟩))
theorem mem_dwn {z : Int} : z ∈ downP Hh fs ↔ z = 0 ∨ z = Hh ∨ ∃ f ∈ fs,z = f.t ∨ z = f.b:=by
  unfold downP
  rw [mem_sddI]
  simp only [List.mem_cons,List.mem_append,List.mem_map]
  constructor
  · rintro (h | h | ⟨f,hf,rfl⟩ | ⟨f,hf,rfl⟩)
    · exact .inl h
    · exact .inr (.inl h)
    · exact .inr (.inr ⟨f,hf,.inl rfl⟩)
    · exact .inr (.inr ⟨f,hf,.inr rfl⟩)
  · rintro (h | h | ⟨f,hf,rfl | rfl⟩)
    · exact .inl h
    · exact .inr (.inl h)
    · exact .inr (.inr (.inl ⟨f,hf,rfl⟩))
    · exact .inr (.inr (.inr ⟨f,hf,rfl⟩))
theorem cell_on {c : Box} (hW : 0 ≤ W) (hH : 0 ≤ Hh) (hf : ∀ f ∈ fs,f.Ok W Hh) (hc : c ∈ cellsG W Hh fs) : 0 ≤ c.l ∧ c.l < c.r ∧ c.r ≤ W ∧ 0 ≤ c.t ∧ c.t < c.b ∧ c.b ≤ Hh:=by
  obtain ⟨h1,h2⟩:=mem_cellsG.mp hc
  have l1:=zip_tail_lt acr_up h1
  have l2:=zip_tail_lt dwn_up h2
  have m1:=zip_tail_mem h1
  have m2:=zip_tail_mem h2
  have a : ∀ z,z ∈ acrossP W fs → 0 ≤ z ∧ z ≤ W:=fun z hz => by
    rcases mem_acr.mp hz with rfl | rfl | ⟨f,hf',rfl | rfl⟩
    · omega
    · omega
    · have q:=hf f hf'; have:=q.l0; have:=q.lr; have:=q.rW; omega
    · have q:=hf f hf'; have:=q.l0; have:=q.lr; have:=q.rW; omega
  have b : ∀ z,z ∈ downP Hh fs → 0 ≤ z ∧ z ≤ Hh:=fun z hz => by
    rcases mem_dwn.mp hz with rfl | rfl | ⟨f,hf',rfl | rfl⟩
    · omega
    · omega
    · have q:=hf f hf'; have:=q.t0; have:=q.tb; have:=q.bH; omega
    · have q:=hf f hf'; have:=q.t0; have:=q.tb; have:=q.bH; omega
  have q1:=a _ m1.1; have q2:=a _ m1.2; have q3:=b _ m2.1; have q4:=b _ m2.2
  omega
end
def cellsL (p : Pic) : List Box:=cellsG p.W p.Hh p.fs
theorem Pic.Ok.cell {p : Pic} (h : p.Ok) {c : Box} (hc : c ∈ cellsL p) : 0 ≤ c.l ∧ c.l < c.r ∧ c.r ≤ p.W ∧ 0 ≤ c.t ∧ c.t < c.b ∧ c.b ≤ p.Hh:=by
  have:=h.W0; have:=h.H0
  exact cell_on (by omega) (by omega) h.fr hc
theorem ints_range_ : ∀ (n i : Nat),DV.intsFrom (i : Int) n = (List.range' i n).map fun k : Nat => D.int (k : Int)
  | 0,_ => rfl
  | n + 1,i => by
    simp only [DV.intsFrom,List.range'_succ,List.map_cons]
    rw [← ints_range_ n (i + 1)]
    rfl
theorem ints_range (n : Nat) : DV.intsFrom 0 n = (List.range n).map fun k : Nat => D.int (k : Int):=by
  rw [List.range_eq_range']
  exact ints_range_ n 0
theorem rng_nat {n : Nat} (h : n ≤ 1000) : rng1 [.int (n : Int)] = some ⟨[],(List.range n).map fun k : Nat => D.int (k : Int)⟩:=by
  have c : -(2 ^ 62) ≤ (n : Int) ∧ (n : Int) < 2 ^ 62:=⟨by omega,by omega⟩
  rw [ev_rng1,if_pos c,← ints_range]
  rfl
theorem miRng_of {f : List D → Option Iter} {a : MA} {l : DV.Loc} {st st1 : Store} {ds : List D} {it : Iter} (e : a l st = .ok ds st1) (r : f ds = some it) : miRng f a l st = .ok it st1:=by
  rw [ev_miRng,e,ev_bind_ok,r]
theorem rng_len {n : Nat} (h : n ≤ 1000) {m : ME} {l : DV.Loc} {st : Store} (e : m l st = .ok (.int (n : Int)) st) : miRng rng1 (maCons m maNil) l st = .ok ⟨[],(List.range n).map fun k : Nat => D.int (k : Int)⟩ st:=
  miRng_of (by rw [ev_maCons,e]; rfl) (rng_nat h)
end G
namespace G
open DV PySem L2
structure Shw (d : PyData) (n : Nat) : Prop where
  s : d.showable = true
  l : d.shown.length ≤ n
theorem Shw.mono {d : PyData} {n m : Nat} (h : Shw d n) (hl : n ≤ m) : Shw d m:=⟨h.s,Nat.le_trans h.l hl⟩
end G
namespace G
open DV PySem L2
end G
namespace G
open DV PySem L2
end G
namespace G
open DV PySem L2
noncomputable section
end
end G
namespace G
open DV PySem L2
section
variable {n : Nat} {p : Pic} {who way : Str} {turn b : Nat}
end
end G
namespace G
open DV PySem L2
theorem seq_rt {a b : MS} {l : DV.Loc} {d : D} {st st' : Store} (h : a l st = .rt d st') : msSeq a b l st = .rt d st':=by rw [ev_msSeq,h]
theorem for_is {mi : MI} {t : TGT} {body : MS} {l : DV.Loc} {st st1 : Store} {it : Iter} {r : RS} (h : mi l st = .ok it st1) (e : loopS t body it.srcs it.items l st1 = r) : msFor mi t body l st = r:=by
  rw [ev_msFor,h]
  exact e
theorem def_rt {n len : Nat} {body : MS} {ds : List D} {l : DV.Loc} {d : D} {st st' : Store} (hn : ds.length = n) (hl : ds.map some ++ List.replicate (len - n) none = l) (h : body l st = .rt d st') : mDef n len body ds st = .ok d st':=by
  subst hl
  rw [ev_mDef,if_pos hn,h]
end G
namespace L01
open DV G PySem L2
section
variable {st s s1 s2 s3 : Store} {l : DV.Loc} {j m k : Nat} {d : D}
theorem var_is {i : Nat} (h : l[i]? = some (some d)) : mVar i l st = .ok d st:=by rw [ev_mVar,h]
abbrev Sp:=Nat × Option Str
def fsOf (e : Sp) (d : D) : List (Str × D):=match e.2 with
  | some f => [(f,d)]
  | none => []
def eM (e : Sp) : ME:=match e.2 with
  | some f => mNewE e.1 f (maCons (mVar 0) maNil)
  | none => mNewE0 e.1
def esM : List Sp → MA
  | [] => maNil
  | e :: r => maCons (eM e) (esM r)
def ErrL (st : Store) (d : D) : List Nat → List Sp → Prop
  | r :: rs,e :: sp => (st.at_ r = some (.exn e.1 (fsOf e d)) ∧ r < st.nxt) ∧ ErrL st d rs sp
  | [],[] => True
  | _,_ => False
theorem ErrL.mv (k : Kp [] st s) : ∀ {rs : List Nat} {sp : List Sp},ErrL st d rs sp → ErrL s d rs sp
  | [],[],_ => trivial
  | [],_ :: _,h => h.elim
  | _ :: _,[],h => h.elim
  | r :: rs,e :: sp,h => ⟨⟨k.get0 h.1.1 h.1.2,Nat.lt_of_lt_of_le h.1.2 k.le⟩,ErrL.mv k h.2⟩
theorem ErrL.app : ∀ {rs : List Nat} {sp : List Sp} {rs' : List Nat} {sp' : List Sp},ErrL st d rs sp → ErrL st d rs' sp' → ErrL st d (rs ++ rs') (sp ++ sp')
  | [],[],_,_,_,h => h
  | [],_ :: _,_,_,h,_ => h.elim
  | _ :: _,[],_,_,h,_ => h.elim
  | r :: rs,e :: sp,_,_,h,h' => ⟨h.1,ErrL.app h.2 h'⟩
theorem ErrL.len : ∀ {rs : List Nat} {sp : List Sp},ErrL st d rs sp → rs.length = sp.length
  | [],[],_ => rfl
  | [],_ :: _,h => h.elim
  | _ :: _,[],h => h.elim
  | r :: rs,e :: sp,h => by rw [List.length_cons,List.length_cons,ErrL.len h.2]
theorem ErrL.get : ∀ {rs : List Nat} {sp : List Sp} {i : Nat} {e : Sp},ErrL st d rs sp → sp[i]? = some e → ∃ r,rs[i]? = some r ∧ st.at_ r = some (.exn e.1 (fsOf e d)) ∧ r < st.nxt
  | [],[],i,e,_,h => by simp at h
  | [],_ :: _,_,_,h,_ => h.elim
  | _ :: _,[],_,_,h,_ => h.elim
  | r :: rs,x :: sp,0,e,h,hi => by cases hi; exact ⟨r,rfl,h.1⟩
  | r :: rs,x :: sp,i + 1,e,h,hi => by
    obtain ⟨q,a,b⟩:=ErrL.get h.2 (show sp[i]? = some e by simpa using hi)
    exact ⟨q,by simpa using a,b⟩
theorem e_ok (h0 : l[0]? = some (some d)) (e : Sp) : eM e l st = .ok (.ref st.nxt) (st.new (.exn e.1 (fsOf e d))):=by
  obtain ⟨c,f⟩:=e
  cases f with
  | none => rfl
  | some f =>
    show mNewE c f (maCons (mVar 0) maNil) l st = _
    unfold mNewE
    rw [cons_is (var_is h0) nil_is]
    rfl
theorem es_ok (h0 : l[0]? = some (some d)) : ∀ (sp : List Sp) (st : Store),∃ rs st',esM sp l st = .ok (rs.map D.ref) st' ∧ ErrL st' d rs sp ∧ Kp [] st st'
  | [],st => ⟨[],st,rfl,trivial,Kp.refl⟩
  | e :: sp,st => by
    obtain ⟨rs,st',e2,h2,k2⟩:=es_ok h0 sp (st.new (.exn e.1 (fsOf e d)))
    exact ⟨st.nxt :: rs,st',cons_is (e_ok h0 e) e2,⟨⟨k2.get0 Store.new_same (Nat.lt_succ_self _),Nat.lt_of_lt_of_le (Nat.lt_succ_self _) k2.le⟩,h2⟩,Kp.new.trans k2⟩
theorem one_es (h0 : l[0]? = some (some d)) (sp : List Sp) (hl : sp.length ≤ 100) : ∃ n rs st',mLst (esM sp) l st = .ok (.ref n) st' ∧ st'.at_ n = some (.lst (rs.map D.ref)) ∧ n < st'.nxt ∧ ErrL st' d rs sp ∧ Kp [] st st':=by
  obtain ⟨rs,s1,e1,h1,k1⟩:=es_ok h0 sp st
  exact ⟨s1.nxt,rs,s1.new (.lst (rs.map D.ref)),lst_is e1 (by rw [List.length_map,h1.len]; omega),Store.new_same,Nat.lt_succ_self _,h1.mv Kp.new,k1.trans Kp.new⟩
theorem grow_es (h0 : l[0]? = some (some d)) (h1 : l[1]? = some (some (.ref m))) {rs : List Nat} {sp0 : List Sp} (hm : st.at_ m = some (.lst (rs.map D.ref))) (hn : m < st.nxt) (hE : ErrL st d rs sp0) (sp : List Sp) (hl : sp0.length + sp.length ≤ 100) :
    ∃ n rs' st',m2 fAdd (mVar 1) (mLst (esM sp)) l st = .ok (.ref n) st' ∧ st'.at_ n = some (.lst (rs'.map D.ref)) ∧ n < st'.nxt ∧ ErrL st' d rs' (sp0 ++ sp) ∧ Kp [] st st':=by
  obtain ⟨n1,rs1,s1,e1,g1,l1,h1',k1⟩:=one_es (st:=st) h0 sp (by omega)
  refine ⟨s1.nxt,rs ++ rs1,s1.new (.lst ((rs ++ rs1).map D.ref)),m2_is (var_is h1) e1 ?_,Store.new_same,Nat.lt_succ_self _,((hE.mv k1).app h1').mv Kp.new,k1.trans Kp.new⟩
  unfold fAdd
  simp only [k1.get0 hm hn,g1]
  rw [if_pos (small_line (by rw [List.length_map,List.length_map,hE.len,h1'.len]; omega)),List.map_append]
def SPEC : List Sp:=[(9,some "given"),(10,some "given"),(11,some "given"),(12,some "given"),(13,some "given"),(14,some "given"),(7,some "given"),(15,some "given"),(16,some "given"),(8,some "given"),(17,some "given"),(18,some "given"),(19,some "given"),(20,some "given"),(21,some "given"),(22,some "index"),(23,some "index"),(24,some "index"),(25,some "index"),(26,some "index"),(27,some "given"),(28,some "index"),(32,some "index"),(33,some "limit"),(29,none),(30,none),(31,none)]
theorem all_ok : ∃ n rs st',F_law_all [d] st = .ok (.ref n) st' ∧ st'.at_ n = some (.lst (rs.map D.ref)) ∧ n < st'.nxt ∧ ErrL st' d rs SPEC ∧ Kp [] st st':=by
  let lo : Nat → DV.Loc:=fun n => [some d,some (.ref n)]
  obtain ⟨m1,r1,s1,e1,g1,n1,h1,k1⟩:=one_es (st:=st) (l:=[some d,none]) (d:=d) rfl (SPEC.take 5) (by decide)
  obtain ⟨m2',r2,s2,e2,g2,n2,h2,k2⟩:=grow_es (l:=lo m1) rfl rfl g1 n1 h1 ((SPEC.drop 5).take 4) (by decide)
  obtain ⟨m3,r3,s3,e3,g3,n3,h3,k3⟩:=grow_es (l:=lo m2') rfl rfl g2 n2 h2 ((SPEC.drop 9).take 5) (by decide)
  obtain ⟨m4,r4,s4,e4,g4,n4,h4,k4⟩:=grow_es (l:=lo m3) rfl rfl g3 n3 h3 ((SPEC.drop 14).take 4) (by decide)
  obtain ⟨m5,r5,s5,e5,g5,n5,h5,k5⟩:=grow_es (l:=lo m4) rfl rfl g4 n4 h4 ((SPEC.drop 18).take 5) (by decide)
  obtain ⟨m6,r6,s6,e6,g6,n6,h6,k6⟩:=grow_es (l:=lo m5) rfl rfl g5 n5 h5 (SPEC.drop 23) (by decide)
  exact ⟨m6,r6,s6,def_rt (l:=[some d,none]) rfl rfl (seq_go (asg_n (l':=lo m1) e1 rfl) (seq_go (asg_n (l':=lo m2') e2 rfl) (seq_go (asg_n (l':=lo m3) e3 rfl) (seq_go (asg_n (l':=lo m4) e4 rfl) (seq_go (asg_n (l':=lo m5) e5 rfl) (ret_is e6)))))),g6,n6,h6,k1.trans (k2.trans (k3.trans (k4.trans (k5.trans k6))))⟩
theorem named_ok : ∃ n rs st',F_law_named [d] st = .ok (.ref n) st' ∧ st'.at_ n = some (.lst (rs.map D.ref)) ∧ n < st'.nxt ∧ ErrL st' d rs SPEC ∧ Kp [] st st':=by
  let lo : Nat → DV.Loc:=fun n => [some d,some (.ref n)]
  obtain ⟨m1,r1,s1,e1,g1,n1,h1,k1⟩:=one_es (st:=st) (l:=[some d,none]) (d:=d) rfl (SPEC.take 4) (by decide)
  obtain ⟨m2',r2,s2,e2,g2,n2,h2,k2⟩:=grow_es (l:=lo m1) rfl rfl g1 n1 h1 ((SPEC.drop 4).take 3) (by decide)
  obtain ⟨m3,r3,s3,e3,g3,n3,h3,k3⟩:=grow_es (l:=lo m2') rfl rfl g2 n2 h2 ((SPEC.drop 7).take 3) (by decide)
  obtain ⟨m4,r4,s4,e4,g4,n4,h4,k4⟩:=grow_es (l:=lo m3) rfl rfl g3 n3 h3 ((SPEC.drop 10).take 3) (by decide)
  obtain ⟨m5,r5,s5,e5,g5,n5,h5,k5⟩:=grow_es (l:=lo m4) rfl rfl g4 n4 h4 ((SPEC.drop 13).take 3) (by decide)
  obtain ⟨m6,r6,s6,e6,g6,n6,h6,k6⟩:=grow_es (l:=lo m5) rfl rfl g5 n5 h5 ((SPEC.drop 16).take 3) (by decide)
  obtain ⟨m7,r7,s7,e7,g7,n7,h7,k7⟩:=grow_es (l:=lo m6) rfl rfl g6 n6 h6 ((SPEC.drop 19).take 4) (by decide)
  obtain ⟨m8,r8,s8,e8,g8,n8,h8,k8⟩:=grow_es (l:=lo m7) rfl rfl g7 n7 h7 (SPEC.drop 23) (by decide)
  exact ⟨m8,r8,s8,def_rt (l:=[some d,none]) rfl rfl (seq_go (asg_n (l':=lo m1) e1 rfl) (seq_go (asg_n (l':=lo m2') e2 rfl) (seq_go (asg_n (l':=lo m3) e3 rfl) (seq_go (asg_n (l':=lo m4) e4 rfl) (seq_go (asg_n (l':=lo m5) e5 rfl) (seq_go (asg_n (l':=lo m6) e6 rfl) (seq_go (asg_n (l':=lo m7) e7 rfl) (ret_is e8)))))))),g8,n8,h8,k1.trans (k2.trans (k3.trans (k4.trans (k5.trans (k6.trans (k7.trans k8))))))⟩
def isM (S : List Nat) : ME:=mIsX XC (fun c => decide (c ∈ S)) (mVar 0)
def isL : List (List Nat) → MA
  | [] => maNil
  | S :: r => maCons (isM S) (isL r)
def isB (c : Nat) (Ss : List (List Nat)) : List D:=Ss.map fun S => D.bl (decide (c ∈ S))
variable {r c : Nat} {fs : List (Str × D)}
theorem is_ok (h0 : l[0]? = some (some (.ref r))) (hr : st.at_ r = some (.exn c fs)) (hc : c ∈ XC) : ∀ Ss : List (List Nat),isL Ss l st = .ok (isB c Ss) st
  | [] => rfl
  | S :: Ss => by
    refine cons_is ?_ (is_ok h0 hr hc Ss)
    unfold isM mIsX
    rw [var_is h0,ev_bind_ok]
    simp only [hr]
    rw [if_pos hc]
theorem one_is (h0 : l[0]? = some (some (.ref r))) (hr : st.at_ r = some (.exn c fs)) (hc : c ∈ XC) (Ss : List (List Nat)) (hl : Ss.length ≤ 100) : mLst (isL Ss) l st = .ok (.ref st.nxt) (st.new (.lst (isB c Ss))):=lst_is (is_ok h0 hr hc Ss) (by unfold isB; rw [List.length_map]; omega)
theorem grow_is (h0 : l[0]? = some (some (.ref r))) (h1 : l[1]? = some (some (.ref m))) (hr : st.at_ r = some (.exn c fs)) (hrn : r < st.nxt) (hc : c ∈ XC) {S0 : List (List Nat)} (hm : st.at_ m = some (.lst (isB c S0))) (hn : m < st.nxt) (Ss : List (List Nat)) (hl : S0.length + Ss.length ≤ 100) :
    ∃ n st',m2 fAdd (mVar 1) (mLst (isL Ss)) l st = .ok (.ref n) st' ∧ st'.at_ n = some (.lst (isB c (S0 ++ Ss))) ∧ n < st'.nxt ∧ Kp [] st st':=by
  refine ⟨st.nxt + 1,(st.new (.lst (isB c Ss))).new (.lst (isB c (S0 ++ Ss))),m2_is (var_is h1) (one_is h0 hr hc Ss (by omega)) ?_,Store.new_same (st:=st.new (.lst (isB c Ss))),Nat.lt_succ_self _,Kp.new.trans Kp.new⟩
  have g1 : (st.new (.lst (isB c Ss))).at_ m = some (.lst (isB c S0)):=by rw [Store.new_ne (Nat.ne_of_lt hn)]; exact hm
  unfold fAdd
  simp only [g1,Store.new_same]
  rw [if_pos (small_line (by unfold isB; rw [List.length_map,List.length_map]; omega))]
  unfold isB
  rw [List.map_append]
  rfl
def ORD : List (List Nat):=[[9],[10],[11],[12],[13],[14],[7],[15],[16],[8],[17],[18],[19],[20],[21],[22],[23],[24],[25],[26],[27],[28],[32],[33],[29],[30],[31]]
def BAS : List (List Nat):=[[16,12,11,22,19,14,18,10,25,7,24,9,23,13,8,17,15,20,21,26,34],[28,27,35],[32,29,36,31,30,33]]
theorem sorts_ok (hr : st.at_ r = some (.exn c fs)) (hn : r < st.nxt) (hc : c ∈ XC) : ∃ n st',F_law_sorts [.ref r] st = .ok (.ref n) st' ∧ st'.at_ n = some (.lst (isB c ORD)) ∧ n < st'.nxt ∧ Kp [] st st':=by
  let lo : Nat → DV.Loc:=fun n => [some (.ref r),some (.ref n)]
  obtain ⟨s1,es1⟩ : ∃ s1,s1 = st.new (.lst (isB c (ORD.take 3))):=⟨_,rfl⟩
  have e1:=one_is (st:=st) (l:=[some (.ref r),none]) rfl hr hc (ORD.take 3) (by decide)
  rw [← es1] at e1
  have g1 : s1.at_ st.nxt = some (.lst (isB c (ORD.take 3))):=by rw [es1]; exact Store.new_same
  have n1 : st.nxt < s1.nxt:=by rw [es1]; exact Nat.lt_succ_self _
  have k1 : Kp [] st s1:=by rw [es1]; exact Kp.new
  have R : ∀ {s},Kp [] st s → s.at_ r = some (.exn c fs) ∧ r < s.nxt:=fun k => ⟨k.get0 hr hn,Nat.lt_of_lt_of_le hn k.le⟩
  obtain ⟨m2',s2,e2,g2,n2,k2⟩:=grow_is (l:=lo st.nxt) rfl rfl (R k1).1 (R k1).2 hc g1 n1 ((ORD.drop 3).take 3) (by decide)
  have K2:=k1.trans k2
  obtain ⟨m3,s3,e3,g3,n3,k3⟩:=grow_is (l:=lo m2') rfl rfl (R K2).1 (R K2).2 hc g2 n2 ((ORD.drop 6).take 3) (by decide)
  have K3:=K2.trans k3
  obtain ⟨m4,s4,e4,g4,n4,k4⟩:=grow_is (l:=lo m3) rfl rfl (R K3).1 (R K3).2 hc g3 n3 ((ORD.drop 9).take 3) (by decide)
  have K4:=K3.trans k4
  obtain ⟨m5,s5,e5,g5,n5,k5⟩:=grow_is (l:=lo m4) rfl rfl (R K4).1 (R K4).2 hc g4 n4 ((ORD.drop 12).take 3) (by decide)
  have K5:=K4.trans k5
  obtain ⟨m6,s6,e6,g6,n6,k6⟩:=grow_is (l:=lo m5) rfl rfl (R K5).1 (R K5).2 hc g5 n5 ((ORD.drop 15).take 3) (by decide)
  have K6:=K5.trans k6
  obtain ⟨m7,s7,e7,g7,n7,k7⟩:=grow_is (l:=lo m6) rfl rfl (R K6).1 (R K6).2 hc g6 n6 ((ORD.drop 18).take 3) (by decide)
  have K7:=K6.trans k7
  obtain ⟨m8,s8,e8,g8,n8,k8⟩:=grow_is (l:=lo m7) rfl rfl (R K7).1 (R K7).2 hc g7 n7 ((ORD.drop 21).take 3) (by decide)
  have K8:=K7.trans k8
  obtain ⟨m9,s9,e9,g9,n9,k9⟩:=grow_is (l:=lo m8) rfl rfl (R K8).1 (R K8).2 hc g8 n8 (ORD.drop 24) (by decide)
  exact ⟨m9,s9,def_rt (l:=[some (.ref r),none]) rfl rfl (seq_go (asg_n (l':=lo st.nxt) e1 rfl) (seq_go (asg_n (l':=lo m2') e2 rfl) (seq_go (asg_n (l':=lo m3) e3 rfl) (seq_go (asg_n (l':=lo m4) e4 rfl) (seq_go (asg_n (l':=lo m5) e5 rfl) (seq_go (asg_n (l':=lo m6) e6 rfl) (seq_go (asg_n (l':=lo m7) e7 rfl) (seq_go (asg_n (l':=lo m8) e8 rfl) (ret_is e9))))))))),g9,n9,K8.trans k9⟩
theorem bases_ok (hr : st.at_ r = some (.exn c fs)) (hn : r < st.nxt) (hc : c ∈ XC) : ∃ n st',F_law_bases [.ref r] st = .ok (.ref n) st' ∧ st'.at_ n = some (.lst (isB c (BAS ++ BAS))) ∧ n < st'.nxt ∧ Kp [] st st':=by
  let lo : Nat → DV.Loc:=fun n => [some (.ref r),some (.ref n)]
  obtain ⟨s1,es1⟩ : ∃ s1,s1 = st.new (.lst (isB c BAS)):=⟨_,rfl⟩
  have e1:=one_is (st:=st) (l:=[some (.ref r),none]) rfl hr hc BAS (by decide)
  rw [← es1] at e1
  have g1 : s1.at_ st.nxt = some (.lst (isB c BAS)):=by rw [es1]; exact Store.new_same
  have n1 : st.nxt < s1.nxt:=by rw [es1]; exact Nat.lt_succ_self _
  have k1 : Kp [] st s1:=by rw [es1]; exact Kp.new
  obtain ⟨m2',s2,e2,g2,n2,k2⟩:=grow_is (l:=lo st.nxt) rfl rfl (k1.get0 hr hn) (Nat.lt_of_lt_of_le hn k1.le) hc g1 n1 BAS (by decide)
  exact ⟨m2',s2,def_rt (l:=[some (.ref r),none]) rfl rfl (seq_go (asg_n (l':=lo st.nxt) e1 rfl) (ret_is e2)),g2,n2,k1.trans k2⟩
end
end L01
namespace L01
open DV G PySem L2
section
variable {st s s1 s2 s3 : Store} {l : DV.Loc} {j m k r c i : Nat} {d : D} {fs : List (Str × D)}
theorem in_ints {m : Nat} {ns : List Int} {x : Int} (h : st.at_ m = some (.lst (ns.map D.int))) : fIn (.int x) (.ref m) st = some (.bl (decide (x ∈ ns)),st):=by
  have e1 : toData st 20 (.int x) = some (.int x):=rfl
  have e2 : ∀ xs : List Int,optL (toData st 20) (xs.map D.int) = some (xs.map PyData.int):=fun xs => by
    induction xs with
    | nil => rfl
    | cons y ys ih =>
      rw [List.map_cons,List.map_cons]
      unfold optL
      rw [ih]
      rfl
  have e3 : ∀ xs : List Int,(xs.map PyData.int).any (fun z => PyData.eqv z (.int x)) = decide (x ∈ xs):=fun xs => by
    induction xs with
    | nil => rfl
    | cons y ys ih =>
      rw [List.map_cons,List.any_cons,ih]
      have e : PyData.eqv (.int y) (.int x) = decide (y = x):=by simp only [PyData.eqv]; rfl
      rw [e,Bool.eq_iff_iff]
      simp only [Bool.or_eq_true,decide_eq_true_eq,List.mem_cons]
      constructor
      · rintro (h | h)
        · exact .inl h.symm
        · exact .inr h
      · rintro (h | h)
        · exact .inl h.symm
        · exact .inr h
  rw [ev_fIn]
  unfold inB
  simp only [h,e1,e2,e3,Option.map_some]
theorem data_bools {n : Nat} (bs : List Bool) : optL (toData st (n + 1)) (bs.map D.bl) = some (bs.map PyData.bool):=by
  induction bs with
  | nil => rfl
  | cons b bs ih =>
    rw [List.map_cons,List.map_cons]
    unfold optL
    rw [ih]
    rfl
theorem eqv_bools : ∀ bs : List Bool,PyData.eqvAll (bs.map PyData.bool) (bs.map PyData.bool) = true
  | [] => rfl
  | b :: bs => by
    show (PyData.eqv (.bool b) (.bool b) && PyData.eqvAll (bs.map PyData.bool) (bs.map PyData.bool)) = true
    rw [eqv_bools bs]
    cases b <;> rfl
theorem ne_bools {a b : Nat} {bs : List Bool} (ha : st.at_ a = some (.lst (bs.map D.bl))) (hb : st.at_ b = some (.lst (bs.map D.bl))) : fNe (.ref a) (.ref b) st = some (.bl false,st):=by
  have ta : toData st 20 (.ref a) = some (.list (bs.map PyData.bool)):=toData_lst (n:=19) ha (data_bools (n:=18) bs)
  have tb : toData st 20 (.ref b) = some (.list (bs.map PyData.bool)):=toData_lst (n:=19) hb (data_bools (n:=18) bs)
  have sc : scalEq (.ref a) (.ref b) = none:=rfl
  have e : PyData.eqv (.list (bs.map PyData.bool)) (.list (bs.map PyData.bool)) = true:=by
    show PyData.eqvAll (bs.map PyData.bool) (bs.map PyData.bool) = true
    exact eqv_bools bs
  rw [ev_fNe,ev_dataEq,sc]
  simp only [ta,tb,e]
  rfl
theorem rng_is {o x : Nat} {me : ME} (n : Nat) (hn : n ≤ 100) {l0 : DV.Loc} (hw : wipeL l0 [4] = l0) (h5 : l0.length = 5) (hme : ∀ (k : Nat) (s : Store),me (l0.set 4 (some (.int (k : Int)))) s = .ok (.bl (decide (k = x))) s) :
    mLc (miRng rng1 (maCons (mC (.int (n : Int))) maNil)) (tgName 4) tYes_ me [4] l0 st = .ok (.ref st.nxt) (st.new (.lst (((List.range n).map fun k => decide (k = x)).map D.bl))):=by
  have it : miRng rng1 (maCons (mC (.int (n : Int))) maNil) l0 st = .ok ⟨[],(List.range n).map fun k : Nat => D.int (k : Int)⟩ st:=rng_len (n:=n) (by omega) rfl
  have lp : ∀ (ks : List Nat) (st : Store),loopC (tgName 4) tYes_ me [] l0 (ks.map fun k : Nat => D.int (k : Int)) st = .ok ((ks.map fun k => decide (k = x)).map D.bl) st:=fun ks => by
    induction ks with
    | nil => exact fun st => loopC_nil srcOk_nil
    | cons k ks ih =>
      intro st
      rw [List.map_cons,loopC_cons srcOk_nil (l1:=l0.set 4 (some (.int (k : Int)))) (by rw [ev_tgName])]
      simp only [ev_tYes_,if_true,hme,ih]
      rfl
  rw [ev_mLc,it]
  simp only [ev_bind_ok,hw,lp]
  rw [if_pos (small_line (by rw [List.length_map,List.length_map,List.length_range]; omega))]
theorem xf_ok {f : Str} (h0 : l[0]? = some (some (.ref r))) (hr : st.at_ r = some (.exn c [(f,d)])) (hc : c ∈ XC) : mXfX XC f (mVar 0) l st = .ok d st:=by
  unfold mXfX
  rw [var_is h0,ev_bind_ok]
  simp only [hr]
  rw [if_pos hc]
  simp [List.lookup]
def KI : List Int:=[15,16,17,18,19,21,22]
def fldOf (i : Nat) : Option Str:=if (i : Int) ∈ KI then some "index" else if i = 23 then some "limit" else if i < 24 then some "given" else none
theorem spec_fld : ∀ i ∈ List.range 27,(SPEC[i]?.map (·.2)) = some (fldOf i):=by decide +kernel
theorem spec_cls : ∀ i ∈ List.range 27,((SPEC[i]?.map (·.1)).getD 0) ∈ XC:=by decide +kernel
theorem spec_ord : ∀ i ∈ List.range 27,(ORD.map fun S => decide ((SPEC[i]?.map (·.1)).getD 0 ∈ S)) = (List.range 27).map fun k => decide (k = i):=by decide +kernel
def basI (i : Nat) : Nat:=if i < 20 then 0 else if i < 22 then 1 else 2
theorem spec_bas : ∀ i ∈ List.range 27,((BAS ++ BAS).map fun S => decide ((SPEC[i]?.map (·.1)).getD 0 ∈ S)) = ((List.range 3).map fun k => decide (k = basI i)) ++ (List.range 3).map fun k => decide (k = basI i):=by decide +kernel
theorem isB_map {c : Nat} {Ss : List (List Nat)} : isB c Ss = (Ss.map fun S => decide (c ∈ S)).map D.bl:=by
  unfold isB
  rw [List.map_map]
  rfl
theorem kept_ok {e : Sp} (hi : i < 27) (he : SPEC[i]? = some e) (hr : st.at_ r = some (.exn e.1 (fsOf e d))) (hn : r < st.nxt) : ∃ st',F_law_kept [.ref r,.int (i : Int)] st = .ok (if i < 24 then d else .non) st' ∧ Kp [] st st':=by
  have mi : i ∈ List.range 27:=List.mem_range.mpr hi
  have hf:=spec_fld i mi
  have hc:=spec_cls i mi
  rw [he] at hf hc
  have hf : e.2 = fldOf i:=Option.some.inj hf
  have hc : e.1 ∈ XC:=hc
  let l0 : DV.Loc:=[some (.ref r),some (.int (i : Int))]
  obtain ⟨s1,es1⟩ : ∃ s1,s1 = st.new (.lst (KI.map D.int)):=⟨_,rfl⟩
  have k1 : Kp [] st s1:=by rw [es1]; exact Kp.new
  have g1 : s1.at_ st.nxt = some (.lst (KI.map D.int)):=by rw [es1]; exact Store.new_same
  have t1 : tB_ (m2 fIn (mVar 1) (mLst (maCons (mC (.int 15)) (maCons (mC (.int 16)) (maCons (mC (.int 17)) (maCons (mC (.int 18)) (maCons (mC (.int 19)) (maCons (mC (.int 21)) (maCons (mC (.int 22)) maNil))))))))) l0 st = .ok (decide ((i : Int) ∈ KI)) s1:=by
    refine tb_is (m2_is (x:=.int (i : Int)) (y:=.ref st.nxt) (s2:=s1) rfl ?_ (in_ints g1))
    rw [es1]
    exact lst_is (ds:=KI.map D.int) rfl (by decide)
  have hr1:=k1.get0 hr hn
  have go : ∀ {f : Str},fldOf i = some f → s1.at_ r = some (.exn e.1 [(f,d)]):=fun h => by
    rw [hr1]
    unfold fsOf
    rw [hf,h]
  by_cases c1 : (i : Int) ∈ KI
  · rw [decide_eq_true c1] at t1
    have i24 : i < 24:=by
      simp only [KI,List.mem_cons,List.not_mem_nil,or_false] at c1
      omega
    rw [if_pos i24]
    exact ⟨s1,def_rt (l:=l0) rfl rfl (seq_rt (if_t t1 (ret_is (xf_ok rfl (go (by unfold fldOf; rw [if_pos c1])) hc)))),k1⟩
  rw [decide_eq_false c1] at t1
  have t2 : tB_ (m2 fEq (mVar 1) (mC (.int 23))) l0 s1 = .ok (decide ((i : Int) = 23)) s1:=tb_is (m2_is (x:=.int (i : Int)) (y:=.int 23) rfl rfl rfl)
  by_cases c2 : i = 23
  · rw [decide_eq_true (by omega)] at t2
    rw [if_pos (by omega)]
    exact ⟨s1,def_rt (l:=l0) rfl rfl (seq_go (if_fn t1) (ret_is (mif_t t2 (xf_ok rfl (go (by unfold fldOf; rw [if_neg c1,if_pos c2])) hc)))),k1⟩
  rw [decide_eq_false (by omega)] at t2
  have t3 : tB_ (m2 fLt (mVar 1) (mC (.int 24))) l0 s1 = .ok (decide ((i : Int) < 24)) s1:=tb_is (m2_is (x:=.int (i : Int)) (y:=.int 24) rfl rfl rfl)
  by_cases c3 : i < 24
  · rw [decide_eq_true (by omega)] at t3
    rw [if_pos c3]
    exact ⟨s1,def_rt (l:=l0) rfl rfl (seq_go (if_fn t1) (ret_is (mif_f t2 (mif_t t3 (xf_ok rfl (go (by unfold fldOf; rw [if_neg c1,if_neg c2,if_pos c3])) hc))))),k1⟩
  · rw [decide_eq_false (by omega)] at t3
    rw [if_neg c3]
    exact ⟨s1,def_rt (l:=l0) rfl rfl (seq_go (if_fn t1) (ret_is (mif_f t2 (mif_f t3 rfl)))),k1⟩
def ToldR (st : Store) (d : D) : Prop:=∃ t,∀ s,Kp [] st s → reprX d s = some (.str t,s)
theorem ToldR.mv (h : ToldR st d) (k : Kp [] st s) : ToldR s d:=by
  obtain ⟨t,h⟩:=h
  exact ⟨t,fun s' k' => h s' (k.trans k')⟩
theorem told_non : ToldR st .non:=⟨"None",fun s _ => rfl⟩
abbrev rtL (m : Nat) (d : D) (o2 o3 o4 : Option D) : DV.Loc:=[some (.ref m),some d,o2,o3,o4]
theorem lap_ok {rs : List Nat} {o3 : Option D} (gm : st.at_ m = some (.lst (rs.map D.ref))) (mn : m < st.nxt) (hE : ErrL st d rs SPEC) (ht : ToldR st d) (hi : i < 27) :
    ∃ p3 st',law_right_L1 (rtL m d (some (.int (i : Int))) o3 none) st = .nx (rtL m d (some (.int (i : Int))) p3 none) st' ∧ Kp [] st st':=by
  have mi : i ∈ List.range 27:=List.mem_range.mpr hi
  obtain ⟨e,he⟩ : ∃ e,SPEC[i]? = some e:=⟨_,List.getElem?_eq_getElem hi⟩
  obtain ⟨r,hr,gr,rn⟩:=hE.get he
  have hc:=spec_cls i mi
  have ho:=spec_ord i mi
  have hb:=spec_bas i mi
  rw [he] at hc ho hb
  have hc : e.1 ∈ XC:=hc
  have ho : (ORD.map fun S => decide (e.1 ∈ S)) = (List.range 27).map fun k => decide (k = i):=ho
  have hb : ((BAS ++ BAS).map fun S => decide (e.1 ∈ S)) = ((List.range 3).map fun k => decide (k = basI i)) ++ (List.range 3).map fun k => decide (k = basI i):=hb
  let l0 : DV.Loc:=rtL m d (some (.int (i : Int))) o3 none
  let l1 : DV.Loc:=rtL m d (some (.int (i : Int))) (some (.int (basI i : Int))) none
  have lt : ∀ (x : Int) (s : Store),tB_ (m2 fLt (mVar 2) (mC (.int x))) l0 s = .ok (decide ((i : Int) < x)) s:=fun x s => tb_is (m2_is (x:=.int (i : Int)) (y:=.int x) rfl rfl rfl)
  have b1 : mIf (tB_ (m2 fLt (mVar 2) (mC (.int 20)))) (mC (.int 0)) (mIf (tB_ (m2 fLt (mVar 2) (mC (.int 22)))) (mC (.int 1)) (mC (.int 2))) l0 st = .ok (.int (basI i : Int)) st:=by
    have t1:=lt 20 st
    have t2:=lt 22 st
    unfold basI
    by_cases c1 : i < 20
    · rw [decide_eq_true (by omega)] at t1
      rw [if_pos c1]
      exact mif_t t1 rfl
    · rw [decide_eq_false (by omega)] at t1
      rw [if_neg c1]
      by_cases c2 : i < 22
      · rw [decide_eq_true (by omega)] at t2
        rw [if_pos c2]
        exact mif_f t1 (mif_t t2 rfl)
      · rw [decide_eq_false (by omega)] at t2
        rw [if_neg c2]
        exact mif_f t1 (mif_f t2 rfl)
  have w1 : msAsg (mIf (tB_ (m2 fLt (mVar 2) (mC (.int 20)))) (mC (.int 0)) (mIf (tB_ (m2 fLt (mVar 2) (mC (.int 22)))) (mC (.int 1)) (mC (.int 2)))) (tgName 3) l0 st = .nx l1 st:=asg_n b1 rfl
  have R : ∀ {s},Kp [] st s → s.at_ r = some (.exn e.1 (fsOf e d)) ∧ r < s.nxt ∧ s.at_ m = some (.lst (rs.map D.ref)):=fun k => ⟨k.get0 gr rn,Nat.lt_of_lt_of_le rn k.le,k.get0 gm mn⟩
  have ix : ∀ {s},Kp [] st s → m2 fIx (mVar 0) (mVar 2) l1 s = .ok (.ref r) s:=fun k => m2_is (x:=.ref m) (y:=.int (i : Int)) rfl rfl (ix_lst (R k).2.2 (ev_atI (by omega) (by
    rw [List.getElem?_map]
    simp [hr])))
  -- the classes
  obtain ⟨n1,s1,e1,g1,l1',k1⟩:=sorts_ok gr rn hc
  rw [isB_map,ho] at g1
  have r1:=rng_is (st:=s1) (o:=0) (x:=i) (me:=law_right_C1) 27 (by omega) (l0:=l1) rfl rfl fun k s => m2_is (x:=.int (k : Int)) (y:=.int (i : Int)) rfl rfl (by
    rw [ev_fEq]
    show some (D.bl (decide ((k : Int) = (i : Int))),s) = _
    congr 3
    simp only [decide_eq_decide]
    omega)
  obtain ⟨s2,es2⟩ : ∃ s2,s2 = s1.new (.lst (((List.range 27).map fun k => decide (k = i)).map D.bl)):=⟨_,rfl⟩
  rw [← es2] at r1
  have k2 : Kp [] s1 s2:=by rw [es2]; exact Kp.new
  have g2 : s2.at_ s1.nxt = some (.lst (((List.range 27).map fun k => decide (k = i)).map D.bl)):=by rw [es2]; exact Store.new_same
  have w2 : msIf (tB_ (m2 fNe (mCall F_law_sorts [] (maCons (m2 fIx (mVar 0) (mVar 2)) maNil)) (mLc (miRng rng1 (maCons (mC (.int 27)) maNil)) (tgName 4) tYes_ law_right_C1 [4]))) (msRet (mC (.bl false))) msNil l1 st = .nx l1 s2:=
    if_fn (tb_is (m2_is (x:=.ref n1) (y:=.ref s1.nxt) (call_is (ds:=[.ref r]) (cons_is (ix Kp.refl) nil_is) e1) r1 (ne_bools (k2.get0 g1 l1') g2)))
  have K2:=k1.trans k2
  -- the base classes
  obtain ⟨n3,s3,e3,g3,l3,k3⟩:=bases_ok (R K2).1 (R K2).2.1 hc
  rw [isB_map,hb] at g3
  have r3:=rng_is (st:=s3) (o:=0) (x:=basI i) (me:=law_right_C2) 3 (by omega) (l0:=l1) rfl rfl fun k s => m2_is (x:=.int (k : Int)) (y:=.int (basI i : Int)) rfl rfl (by
    rw [ev_fEq]
    show some (D.bl (decide ((k : Int) = (basI i : Int))),s) = _
    congr 3
    simp only [decide_eq_decide]
    omega)
  obtain ⟨bs,ebs⟩ : ∃ bs,bs = (List.range 3).map fun k => decide (k = basI i):=⟨_,rfl⟩
  rw [← ebs] at r3 g3
  have bl : bs.length = 3:=by rw [ebs]; rfl
  obtain ⟨s4,es4⟩ : ∃ s4,s4 = s3.new (.lst (bs.map D.bl)):=⟨_,rfl⟩
  rw [← es4] at r3
  obtain ⟨s5,es5⟩ : ∃ s5,s5 = s4.new (.lst ((bs ++ bs).map D.bl)):=⟨_,rfl⟩
  have k4 : Kp [] s3 s4:=by rw [es4]; exact Kp.new
  have k5 : Kp [] s4 s5:=by rw [es5]; exact Kp.new
  have g4 : s4.at_ s3.nxt = some (.lst (bs.map D.bl)):=by rw [es4]; exact Store.new_same
  have g5 : s5.at_ s4.nxt = some (.lst ((bs ++ bs).map D.bl)):=by rw [es5]; exact Store.new_same
  have mu : m2 fMul (mLc (miRng rng1 (maCons (mC (.int 3)) maNil)) (tgName 4) tYes_ law_right_C2 [4]) (mC (.int 2)) l1 s3 = .ok (.ref s4.nxt) s5:=m2_is (x:=.ref s3.nxt) (y:=.int 2) r3 rfl (by
    unfold fMul
    simp only [g4]
    have z : -(2 ^ 63) ≤ (2 : Int) ∧ (2 : Int) < 2 ^ 63 ∧ (bs.map D.bl).length * (2 : Int).toNat ≤ sizeLine:=⟨by decide,by decide,small_line (by rw [List.length_map,bl]; decide)⟩
    rw [if_pos z,es5]
    have y : repL (2 : Int).toNat (bs.map D.bl) = (bs ++ bs).map D.bl:=by
      show (List.replicate 2 (bs.map D.bl)).flatten = _
      simp [List.replicate,List.map_append]
    rw [y])
  have w3 : msIf (tB_ (m2 fNe (mCall F_law_bases [] (maCons (m2 fIx (mVar 0) (mVar 2)) maNil)) (m2 fMul (mLc (miRng rng1 (maCons (mC (.int 3)) maNil)) (tgName 4) tYes_ law_right_C2 [4]) (mC (.int 2))))) (msRet (mC (.bl false))) msNil l1 s2 = .nx l1 s5:=
    if_fn (tb_is (m2_is (x:=.ref n3) (y:=.ref s4.nxt) (call_is (ds:=[.ref r]) (cons_is (ix K2) nil_is) e3) mu (ne_bools ((k4.trans k5).get0 g3 l3) g5)))
  have K5 : Kp [] st s5:=K2.trans (k3.trans (k4.trans k5))
  -- what it keeps
  obtain ⟨s6,e6,k6⟩:=kept_ok hi he (R K5).1 (R K5).2.1
  have K6:=K5.trans k6
  obtain ⟨dd,edd⟩ : ∃ dd,dd = if i < 24 then d else D.non:=⟨_,rfl⟩
  rw [← edd] at e6
  have td : ToldR s6 dd:=by
    rw [edd]
    by_cases c : i < 24
    · rw [if_pos c]
      exact ht.mv K6
    · rw [if_neg c]
      exact told_non
  obtain ⟨t,ht6⟩:=td
  have a1 : mL (f1 reprX) (maCons (mCall F_law_kept [] (maCons (m2 fIx (mVar 0) (mVar 2)) (maCons (mVar 2) maNil))) maNil) l1 s5 = .ok (.str t) s6:=mL_is (ds:=[dd]) (cons_is (call_is (ds:=[.ref r,.int (i : Int)]) (cons_is (ix K5) (cons_is rfl nil_is)) e6) nil_is) (ht6 s6 Kp.refl)
  have c24 : mIf (tB_ (m2 fLt (mVar 2) (mC (.int 24)))) (mVar 1) (mC .non) l1 s6 = .ok dd s6:=by
    have t24 : tB_ (m2 fLt (mVar 2) (mC (.int 24))) l1 s6 = .ok (decide ((i : Int) < 24)) s6:=tb_is (m2_is (x:=.int (i : Int)) (y:=.int 24) rfl rfl rfl)
    rw [edd]
    by_cases c : i < 24
    · rw [decide_eq_true (by omega)] at t24
      rw [if_pos c]
      exact mif_t t24 rfl
    · rw [decide_eq_false (by omega)] at t24
      rw [if_neg c]
      exact mif_f t24 rfl
  have a2 : mL (f1 reprX) (maCons (mIf (tB_ (m2 fLt (mVar 2) (mC (.int 24)))) (mVar 1) (mC .non)) maNil) l1 s6 = .ok (.str t) s6:=mL_is (ds:=[dd]) (cons_is c24 nil_is) (ht6 s6 Kp.refl)
  exact ⟨_,s6,seq_go w1 (seq_go w2 (seq_go w3 (if_fn (tb_is (m2_is (x:=.str t) (y:=.str t) (d:=.bl false) a1 a2 (by simp)))))),K6⟩
theorem right_ok {rs : List Nat} (gm : st.at_ m = some (.lst (rs.map D.ref))) (mn : m < st.nxt) (hE : ErrL st d rs SPEC) (ht : ToldR st d) : ∃ st',F_law_right [.ref m,d] st = .ok (.bl true) st' ∧ Kp [] st st':=by
  have laps : ∀ (ks i : Nat) (o2 o3 : Option D) (s : Store),i + ks = 27 → Kp [] st s → ∃ p2 p3 s',loopS (tgName 2) law_right_L1 [] ((List.range' i ks).map fun k : Nat => D.int (k : Int)) (rtL m d o2 o3 none) s = .nx (rtL m d p2 p3 none) s' ∧ Kp [] st s':=by
    intro ks
    induction ks with
    | zero => exact fun i o2 o3 s _ k => ⟨o2,o3,s,loopS_nil srcOk_nil,k⟩
    | succ ks ih =>
      intro i o2 o3 s hi k
      obtain ⟨p3,s1,e1,k1⟩:=lap_ok (o3:=o3) (i:=i) (k.get0 gm mn) (Nat.lt_of_lt_of_le mn k.le) (hE.mv k) (ht.mv k) (by omega)
      obtain ⟨q2,q3,sz,ez,kz⟩:=ih (i + 1) (some (.int (i : Int))) p3 s1 (by omega) (k.trans k1)
      refine ⟨q2,q3,sz,?_,kz⟩
      rw [List.range'_succ,List.map_cons,loopS_nx (l1:=rtL m d (some (.int (i : Int))) o3 none) srcOk_nil rfl e1]
      exact ez
  obtain ⟨p2,p3,s1,e1,k1⟩:=laps 27 0 none none st rfl Kp.refl
  rw [← List.range_eq_range'] at e1
  have it : miRng rng1 (maCons (mC (.int 27)) maNil) (rtL m d none none none) st = .ok ⟨[],(List.range 27).map fun k : Nat => D.int (k : Int)⟩ st:=rng_len (n:=27) (by omega) rfl
  exact ⟨s1,def_rt (l:=rtL m d none none none) rfl rfl (seq_go (for_is it e1) (ret_is rfl)),k1⟩
end
end L01
namespace L01
open DV G PySem L2
section
variable {st s s1 s2 s3 : Store} {l : DV.Loc} {j m k r c i : Nat} {d : D}
theorem mul2_is {ma : MA} {bs : List Bool} (h : ma l st = .ok (bs.map D.bl) st) (hl : bs.length ≤ 100) : m2 fMul (mLst ma) (mC (.int 2)) l st = .ok (.ref (st.nxt + 1)) ((st.new (.lst (bs.map D.bl))).new (.lst ((bs ++ bs).map D.bl))):=by
  refine m2_is (x:=.ref st.nxt) (y:=.int 2) (lst_is h (by rw [List.length_map]; omega)) rfl ?_
  unfold fMul
  simp only [Store.new_same]
  have z : -(2 ^ 63) ≤ (2 : Int) ∧ (2 : Int) < 2 ^ 63 ∧ (bs.map D.bl).length * (2 : Int).toNat ≤ sizeLine:=⟨by decide,by decide,small_line (by
    rw [List.length_map]
    show bs.length * 2 ≤ 1000
    omega)⟩
  have y : repL (2 : Int).toNat (bs.map D.bl) = (bs ++ bs).map D.bl:=by
    show (List.replicate 2 (bs.map D.bl)).flatten = _
    simp [List.replicate,List.map_append]
  rw [if_pos z,y]
  rfl
theorem base_is {c : Nat} (hc : c ∈ XC) : ∃ n st',mCall F_law_bases [] (maCons (mNewE0 c) maNil) l st = .ok (.ref n) st' ∧ st'.at_ n = some (.lst (((BAS ++ BAS).map fun S => decide (c ∈ S)).map D.bl)) ∧ n < st'.nxt ∧ Kp [] st st':=by
  obtain ⟨n,s1,e1,g1,n1,k1⟩:=bases_ok (st:=st.new (.exn c [])) (r:=st.nxt) (c:=c) (fs:=[]) Store.new_same (Nat.lt_succ_self _) hc
  rw [isB_map] at g1
  exact ⟨n,s1,call_is (ds:=[.ref st.nxt]) (cons_is rfl nil_is) e1,g1,n1,Kp.new.trans k1⟩
def B1 : List Bool:=[true,false,false]
def B2 : List Bool:=[false,true,false]
def B3 : List Bool:=[false,false,true]
theorem b34 : ((BAS ++ BAS).map fun S => decide (34 ∈ S)) = B1 ++ B1:=by decide +kernel
theorem b35 : ((BAS ++ BAS).map fun S => decide (35 ∈ S)) = B2 ++ B2:=by decide +kernel
theorem b36 : ((BAS ++ BAS).map fun S => decide (36 ∈ S)) = B3 ++ B3:=by decide +kernel
theorem ne_two {a b a1 a2 b1 b2 : Nat} {xs ys : List Bool} (ha : st.at_ a = some (.lst [.ref a1,.ref a2])) (hb : st.at_ b = some (.lst [.ref b1,.ref b2])) (h1 : st.at_ a1 = some (.lst (xs.map D.bl))) (h2 : st.at_ a2 = some (.lst (ys.map D.bl))) (h3 : st.at_ b1 = some (.lst (xs.map D.bl))) (h4 : st.at_ b2 = some (.lst (ys.map D.bl))) : fNe (.ref a) (.ref b) st = some (.bl false,st):=by
  have in_ : ∀ {q : Nat} {zs : List Bool},st.at_ q = some (.lst (zs.map D.bl)) → toData st 19 (.ref q) = some (.list (zs.map PyData.bool)):=fun h => toData_lst (n:=18) h (data_bools (n:=17) _)
  have two : ∀ {q q1 q2 : Nat},st.at_ q = some (.lst [.ref q1,.ref q2]) → st.at_ q1 = some (.lst (xs.map D.bl)) → st.at_ q2 = some (.lst (ys.map D.bl)) → toData st 20 (.ref q) = some (.list [.list (xs.map PyData.bool),.list (ys.map PyData.bool)]):=fun h z1 z2 => toData_lst (n:=19) h (by
    unfold optL
    rw [in_ z1]
    unfold optL
    rw [in_ z2]
    rfl)
  have sc : scalEq (.ref a) (.ref b) = none:=rfl
  have e : PyData.eqv (.list [.list (xs.map PyData.bool),.list (ys.map PyData.bool)]) (.list [.list (xs.map PyData.bool),.list (ys.map PyData.bool)]) = true:=by
    show (PyData.eqvAll (xs.map PyData.bool) (xs.map PyData.bool) && (PyData.eqvAll (ys.map PyData.bool) (ys.map PyData.bool) && true)) = true
    rw [eqv_bools,eqv_bools]
    rfl
  rw [ev_fNe,ev_dataEq,sc]
  simp only [two ha h1 h2,two hb h3 h4,e]
  rfl
theorem told_int {i : Int} (h : i.natAbs.log2 < 1920) : ToldR st (.int i):=⟨toString i,fun s _ => by
  show reprA (.int i) s = _
  unfold reprA
  simp only [if_pos h]⟩
theorem told_str {x : Str} (h : (reprText x).length ≤ sizeLine) : ToldR st (.str x):=⟨reprText x,fun s _ => by
  show reprA (.str x) s = _
  unfold reprA
  simp only [if_pos h]⟩
theorem told_bl {b : Bool} : ToldR st (.bl b):=⟨if b then "True" else "False",fun s _ => rfl⟩
theorem told_tup {ds : List D} {a : PyData} (h : ∀ s,Kp [] st s → toData s 20 (.tup ds) = some a) (h1 : a.showable = true) (h2 : a.shown.length ≤ sizeLine) : ToldR st (.tup ds):=⟨a.shown,fun s k => by
  show reprA (.tup ds) s = _
  refine reprA_tup ?_
  unfold reprD
  simp only [h s k]
  rw [if_pos ⟨h1,h2⟩]⟩
theorem told_lst {n : Nat} {ds : List D} {a : PyData} (g : st.at_ n = some (.lst ds)) (hn : n < st.nxt) (h : ∀ s,Kp [] st s → toData s 20 (.ref n) = some a) (h1 : a.showable = true) (h2 : a.shown.length ≤ sizeLine) : ToldR st (.ref n):=⟨a.shown,fun s k => by
  have g1:=k.get0 g hn
  unfold reprX
  simp only [g1]
  unfold reprA
  simp only [g1]
  unfold reprD
  simp only [h s k]
  rw [if_pos ⟨h1,h2⟩]⟩
theorem told_dic {n : Nat} (g : st.at_ n = some (.dic [(.inr "a",.non)])) (hn : n < st.nxt) : ToldR st (.ref n):=⟨_,fun s k => by
  have g1:=k.get0 g hn
  have c : (PyData.dict [(.str "a",.none)]).showable = true ∧ (PyData.dict [(.str "a",.none)]).shown.length ≤ sizeLine:=by decide +kernel
  unfold reprX
  simp only [g1]
  rw [if_pos c]⟩
theorem pow50 : fPow (.int 10) (.int 50) st = some (.int 100000000000000000000000000000000000000000000000000,st):=by
  have c : CPow 10 50:=⟨by decide,by decide,by decide⟩
  have e : (10 : Int) ^ (50 : Int).toNat = 100000000000000000000000000000000000000000000000000:=by decide +kernel
  unfold fPow fI
  simp only [if_pos c,e]
abbrev lwL (sc : D) (m1 : Nat) (o2 o3 o4 : Option D) : DV.Loc:=[some sc,some (.ref m1),o2,o3,o4]
theorem lap {ns : List Int} {m1 : Nat} {o3 o4 : Option D} (hn : ns.length ≤ 63) {k : Int} (k0 : 0 ≤ k) (k4 : k < 60) (st : Store) : ∃ p3 p4 st',law_L1 (lwL (.rol (ns.map D.int)) m1 (some (.int k)) o3 o4) st = .nx (lwL (.rol (ns.map D.int)) m1 (some (.int k)) p3 p4) st':=by
  obtain ⟨j,s1,e1,jr,jn,_⟩:=jar_ok (ns:=ns) (k:=k) (st:=st) k0 k4 hn
  let l1 : DV.Loc:=lwL (.rol (ns.map D.int)) m1 (some (.int k)) (some (.ref j)) o4
  obtain ⟨t1,et1⟩ : ∃ t1,t1 = s1.new (.lst [.int 2]):=⟨_,rfl⟩
  obtain ⟨t2,et2⟩ : ∃ t2,t2 = t1.new (.dic [(.inr "a",.non)]):=⟨_,rfl⟩
  obtain ⟨t3,et3⟩ : ∃ t3,t3 = t2.new (.lst [.int 3]):=⟨_,rfl⟩
  have x1 : s1.nxt < t1.nxt:=by rw [et1]; exact Nat.lt_succ_self _
  have x2 : t1.nxt < t2.nxt:=by rw [et2]; exact Nat.lt_succ_self _
  have x3 : t2.nxt < t3.nxt:=by rw [et3]; exact Nat.lt_succ_self _
  have h1 : Kp [j] s1 t1:=by rw [et1]; exact Kp.new
  have h2 : Kp [j] t1 t2:=by rw [et2]; exact Kp.new
  have h3 : Kp [j] t2 t3:=by rw [et3]; exact Kp.new
  have jt : JarAt t3 j:=by rw [et3]; exact JarAt.new (by rw [et2]; exact JarAt.new (by rw [et1]; exact JarAt.new jr jn) (by omega)) (by omega)
  obtain ⟨ds,eds⟩ : ∃ ds : List D,ds = [.non,.int 0,.bl true,.int (-3),.int 100000000000000000000000000000000000000000000000000,.str "",.str "sky",.tup [],.tup [.str "a",.int 1],.ref s1.nxt,.ref t1.nxt,.tup [.int 1,.tup [.int 2,.ref t2.nxt]]]:=⟨_,rfl⟩
  have b1 : mLst (maCons (mC (.int 2)) maNil) l1 s1 = .ok (.ref s1.nxt) t1:=by rw [et1]; exact lst_is (ds:=[.int 2]) rfl (by simp)
  have b2 : mDisp [((mC (.str "a")),(mC .non))] l1 t1 = .ok (.ref t1.nxt) t2:=by rw [et2]; rfl
  have b3 : mTup (maCons (mC (.int 1)) (maCons (mTup (maCons (mC (.int 2)) (maCons (mLst (maCons (mC (.int 3)) maNil)) maNil))) maNil)) l1 t2 = .ok (.tup [.int 1,.tup [.int 2,.ref t2.nxt]]) t3:=by
    have b4 : mLst (maCons (mC (.int 3)) maNil) l1 t2 = .ok (.ref t2.nxt) t3:=by rw [et3]; exact lst_is (ds:=[.int 3]) rfl (by simp)
    exact tup_is (cons_is rfl (cons_is (tup_is (cons_is rfl (cons_is b4 nil_is)) (by simp)) nil_is)) (by simp)
  have dl : ds.length = 12:=by rw [eds]; rfl
  have ar : mLst (maCons (mC .non) (maCons (mC (.int 0)) (maCons (mC (.bl true)) (maCons (DV.m1 fNeg (mC (.int 3))) (maCons (m2 fPow (mC (.int 10)) (mC (.int 50))) (maCons (mC (.str "")) (maCons (mC (.str "sky")) (maCons (mTup maNil) (maCons (mTup (maCons (mC (.str "a")) (maCons (mC (.int 1)) maNil))) (maCons (mLst (maCons (mC (.int 2)) maNil)) (maCons (mDisp [((mC (.str "a")),(mC .non))]) (maCons (mTup (maCons (mC (.int 1)) (maCons (mTup (maCons (mC (.int 2)) (maCons (mLst (maCons (mC (.int 3)) maNil)) maNil))) maNil))) maNil)))))))))))) l1 s1 = .ok (.ref t3.nxt) (t3.new (.lst ds)):=lst_is (ds:=ds) (by
    rw [eds]
    exact cons_is rfl (cons_is rfl (cons_is rfl (cons_is rfl (cons_is (m2_is (x:=.int 10) (y:=.int 50) rfl rfl pow50) (cons_is rfl (cons_is rfl (cons_is (tup_is nil_is (by simp)) (cons_is (tup_is (cons_is rfl (cons_is rfl nil_is)) (by simp)) (cons_is b1 (cons_is b2 (cons_is b3 nil_is)))))))))))) (by omega)
  obtain ⟨d,s4,hd,e4,k4',j4⟩:=pick_ok (st:=t3.new (.lst ds)) (m:=t3.nxt) (j:=j) (jt.new (by omega)) Store.new_same (by omega) (Nat.lt_succ_self _) (by omega) (by omega)
  have K : Kp [j] t3 s4:=Kp.new.trans k4'
  have ne : ∀ {q : Nat},s1.nxt ≤ q → q ∉ [j]:=fun h z => by
    have:=List.mem_singleton.mp z
    omega
  have ga : s4.at_ s1.nxt = some (.lst [.int 2]):=(h2.trans (h3.trans K)).get (by rw [et1]; exact Store.new_same) x1 (ne (Nat.le_refl _))
  have gb : s4.at_ t1.nxt = some (.dic [(.inr "a",.non)]):=(h3.trans K).get (by rw [et2]; exact Store.new_same) x2 (ne (by omega))
  have gc : s4.at_ t2.nxt = some (.lst [.int 3]):=K.get (by rw [et3]; exact Store.new_same) x3 (ne (by omega))
  have L:=K.le
  have td : ToldR s4 d:=by
    rw [eds] at hd
    simp only [List.mem_cons,List.not_mem_nil,or_false] at hd
    rcases hd with rfl | rfl | rfl | rfl | rfl | rfl | rfl | rfl | rfl | rfl | rfl | rfl
    · exact told_non
    · exact told_int (by decide +kernel)
    · exact told_bl
    · exact told_int (by decide +kernel)
    · exact told_int (by decide +kernel)
    · exact told_str (by decide +kernel)
    · exact told_str (by decide +kernel)
    · exact told_tup (a:=.tuple []) (fun s _ => rfl) (by decide +kernel) (by decide +kernel)
    · refine told_tup (a:=.tuple [.str "a",.int 1]) (fun s _ => toData_tup (n:=19) ?_) (by decide +kernel) (by decide +kernel)
      unfold optL
      rw [toData_str (n:=18) (by decide +kernel)]
      rfl
    · refine told_lst (a:=.list [.int 2]) ga (by omega) (fun s k => toData_lst (n:=19) (k.get0 ga (by omega)) rfl) (by decide +kernel) (by decide +kernel)
    · exact told_dic gb (by omega)
    · refine told_tup (a:=.tuple [.int 1,.tuple [.int 2,.list [.int 3]]]) (fun s k => toData_tup (n:=19) ?_) (by decide +kernel) (by decide +kernel)
      have z1 : toData s 18 (.ref t2.nxt) = some (.list [.int 3]):=toData_lst (n:=17) (k.get0 gc (by omega)) rfl
      have z2 : toData s 19 (.tup [.int 2,.ref t2.nxt]) = some (.tuple [.int 2,.list [.int 3]]):=toData_tup (n:=18) (by
        show optL (toData s 18) [.int 2,.ref t2.nxt] = _
        unfold optL
        simp only [optL,z1]
        rfl)
      unfold optL
      simp only [optL,z2]
      rfl
  let l2 : DV.Loc:=lwL (.rol (ns.map D.int)) m1 (some (.int k)) (some (.ref j)) (some d)
  obtain ⟨n5,rs5,s5,e5,g5,n5',E5,k5⟩:=all_ok (st:=s4) (d:=d)
  obtain ⟨s6,e6,k6⟩:=right_ok g5 n5' E5 (td.mv k5)
  obtain ⟨n7,rs7,s7,e7,g7,n7',E7,k7⟩:=named_ok (st:=s6) (d:=d)
  obtain ⟨s8,e8,k8⟩:=right_ok g7 n7' E7 (td.mv (k5.trans (k6.trans k7)))
  have a1 : tNot_ (tB_ (mCall F_law_right [] (maCons (mCall F_law_all [] (maCons (mVar 4) maNil)) (maCons (mVar 4) maNil)))) l2 s4 = .ok false s6:=not_is (b:=true) (tb_is (call_is (ds:=[.ref n5,d]) (cons_is (call_is (ds:=[d]) (cons_is rfl nil_is) e5) (cons_is rfl nil_is)) e6))
  have a2 : tNot_ (tB_ (mCall F_law_right [] (maCons (mCall F_law_named [] (maCons (mVar 4) maNil)) (maCons (mVar 4) maNil)))) l2 s6 = .ok false s8:=not_is (b:=true) (tb_is (call_is (ds:=[.ref n7,d]) (cons_is (call_is (ds:=[d]) (cons_is rfl nil_is) e7) (cons_is rfl nil_is)) e8))
  exact ⟨_,_,s8,seq_go (asg_n (l':=l1) (call_is (ds:=[.rol (ns.map D.int),.int k]) (cons_is rfl (cons_is rfl nil_is)) e1) rfl) (seq_go (asg_n (l':=l2) (call_is (ds:=[.ref j,.ref t3.nxt]) (cons_is rfl (cons_is ar nil_is)) e4) rfl) (if_fn (or_f a1 a2)))⟩
theorem laps {ns : List Int} {m1 : Nat} (hn : ns.length ≤ 63) : ∀ (n : Nat) (i : Int) (o2 o3 o4 : Option D) (st : Store),0 ≤ i → i + n ≤ 60 → ∃ p2 p3 p4 st',loopS (tgName 2) law_L1 [] (DV.intsFrom i n) (lwL (.rol (ns.map D.int)) m1 o2 o3 o4) st = .nx (lwL (.rol (ns.map D.int)) m1 p2 p3 p4) st'
  | 0,i,o2,o3,o4,st,_,_ => ⟨o2,o3,o4,st,loopS_nil srcOk_nil⟩
  | n + 1,i,o2,o3,o4,st,hi,hin => by
    obtain ⟨p3,p4,s1,e1⟩:=lap (m1:=m1) (o3:=o3) (o4:=o4) hn (k:=i) hi (by omega) st
    obtain ⟨q2,q3,q4,s2,e2⟩:=laps (m1:=m1) hn n (i + 1) (some (.int i)) p3 p4 s1 (by omega) (by omega)
    refine ⟨q2,q3,q4,s2,?_⟩
    show loopS (tgName 2) law_L1 [] (.int i :: DV.intsFrom (i + 1) n) _ st = _
    rw [loopS_nx (l1:=lwL (.rol (ns.map D.int)) m1 (some (.int i)) o3 o4) srcOk_nil rfl e1]
    exact e2
end
def LIM : List D:=[.int 8,.int 8,.int 1000000000000,.int 4,.int 4,.int 5,.int 6]
theorem law_ok (ns : List Int) (hn : ns.length ≤ 63) : ∃ st',F_law [.rol (ns.map D.int)] ⟨0,fun _ => none⟩ = .ok (.bl true) st':=by
  obtain ⟨st,est⟩ : ∃ st : Store,st = ⟨0,fun _ => none⟩:=⟨_,rfl⟩
  rw [← est]
  obtain ⟨sc,esc⟩ : ∃ sc,sc = D.rol (ns.map D.int):=⟨_,rfl⟩
  let l0 : DV.Loc:=[some sc,none,none,none,none]
  let l1 : DV.Loc:=lwL sc st.nxt none none none
  obtain ⟨s1,es1⟩ : ∃ s1,s1 = st.new (.lst LIM):=⟨_,rfl⟩
  have g1 : s1.at_ st.nxt = some (.lst LIM):=by rw [es1]; exact Store.new_same
  have w1 : msAsg (mLst (maCons (mC (.int 8)) (maCons (mC (.int 8)) (maCons (mC (.int 1000000000000)) (maCons (mC (.int 4)) (maCons (mC (.int 4)) (maCons (mC (.int 5)) (maCons (mC (.int 6)) maNil)))))))) (tgName 1) l0 st = .nx l1 s1:=asg_n (by
    rw [es1]
    exact lst_is (ds:=LIM) rfl (by decide)) rfl
  have rp : reprX (.ref st.nxt) s1 = some (.str "[8, 8, 1000000000000, 4, 4, 5, 6]",s1):=by
    have t : toData s1 20 (.ref st.nxt) = some (.list [.int 8,.int 8,.int 1000000000000,.int 4,.int 4,.int 5,.int 6]):=toData_lst (n:=19) g1 rfl
    have c : (PyData.list [.int 8,.int 8,.int 1000000000000,.int 4,.int 4,.int 5,.int 6]).showable = true ∧ (PyData.list [.int 8,.int 8,.int 1000000000000,.int 4,.int 4,.int 5,.int 6]).shown.length ≤ sizeLine:=by decide +kernel
    have e : (PyData.list [.int 8,.int 8,.int 1000000000000,.int 4,.int 4,.int 5,.int 6]).shown = "[8, 8, 1000000000000, 4, 4, 5, 6]":=by decide +kernel
    unfold reprX
    simp only [g1]
    unfold reprA
    simp only [g1]
    unfold reprD
    simp only [t]
    rw [if_pos c,e]
  have w2 : msIf (tB_ (m2 fNe (mL (f1 reprX) (maCons (mVar 1) maNil)) (mC (.str "[8, 8, 1000000000000, 4, 4, 5, 6]")))) (msRet (mC (.bl false))) msNil l1 s1 = .nx l1 s1:=if_fn (tb_is (m2_is (x:=.str "[8, 8, 1000000000000, 4, 4, 5, 6]") (y:=.str "[8, 8, 1000000000000, 4, 4, 5, 6]") (d:=.bl false) (mL_is (ds:=[.ref st.nxt]) (cons_is rfl nil_is) rp) rfl (by simp)))
  -- the base classes
  obtain ⟨a1,s2,e2,ga1,na1,k2⟩:=base_is (st:=s1) (l:=l1) (c:=34) (by decide)
  obtain ⟨a2,s3,e3,ga2,na2,k3⟩:=base_is (st:=s2) (l:=l1) (c:=35) (by decide)
  rw [b34] at ga1
  rw [b35] at ga2
  obtain ⟨s4,es4⟩ : ∃ s4,s4 = s3.new (.lst [.ref a1,.ref a2]):=⟨_,rfl⟩
  have k4 : Kp [] s3 s4:=by rw [es4]; exact Kp.new
  have q4 : mLst (maCons (mCall F_law_bases [] (maCons (mNewE0 34) maNil)) (maCons (mCall F_law_bases [] (maCons (mNewE0 35) maNil)) maNil)) l1 s1 = .ok (.ref s3.nxt) s4:=by
    rw [es4]
    exact lst_is (ds:=[.ref a1,.ref a2]) (cons_is e2 (cons_is e3 nil_is)) (by simp)
  have m5:=mul2_is (st:=s4) (l:=l1) (ma:=maCons (mC (.bl true)) (maCons (mC (.bl false)) (maCons (mC (.bl false)) maNil))) (bs:=B1) rfl (by decide)
  obtain ⟨s5,es5⟩ : ∃ s5,s5 = (s4.new (.lst (B1.map D.bl))).new (.lst ((B1 ++ B1).map D.bl)):=⟨_,rfl⟩
  rw [← es5] at m5
  have k5 : Kp [] s4 s5:=by rw [es5]; exact Kp.new.trans Kp.new
  have g5 : s5.at_ (s4.nxt + 1) = some (.lst ((B1 ++ B1).map D.bl)):=by rw [es5]; exact Store.new_same (st:=s4.new (.lst (B1.map D.bl)))
  have n5 : s4.nxt + 1 < s5.nxt:=by rw [es5]; exact Nat.lt_succ_self _
  have m6:=mul2_is (st:=s5) (l:=l1) (ma:=maCons (mC (.bl false)) (maCons (mC (.bl true)) (maCons (mC (.bl false)) maNil))) (bs:=B2) rfl (by decide)
  obtain ⟨s6,es6⟩ : ∃ s6,s6 = (s5.new (.lst (B2.map D.bl))).new (.lst ((B2 ++ B2).map D.bl)):=⟨_,rfl⟩
  rw [← es6] at m6
  have k6 : Kp [] s5 s6:=by rw [es6]; exact Kp.new.trans Kp.new
  have g6 : s6.at_ (s5.nxt + 1) = some (.lst ((B2 ++ B2).map D.bl)):=by rw [es6]; exact Store.new_same (st:=s5.new (.lst (B2.map D.bl)))
  have n6 : s5.nxt + 1 < s6.nxt:=by rw [es6]; exact Nat.lt_succ_self _
  obtain ⟨s7,es7⟩ : ∃ s7,s7 = s6.new (.lst [.ref (s4.nxt + 1),.ref (s5.nxt + 1)]):=⟨_,rfl⟩
  have k7 : Kp [] s6 s7:=by rw [es7]; exact Kp.new
  have g7 : s7.at_ s6.nxt = some (.lst [.ref (s4.nxt + 1),.ref (s5.nxt + 1)]):=by rw [es7]; exact Store.new_same
  have q7 : mLst (maCons (m2 fMul (mLst (maCons (mC (.bl true)) (maCons (mC (.bl false)) (maCons (mC (.bl false)) maNil)))) (mC (.int 2))) (maCons (m2 fMul (mLst (maCons (mC (.bl false)) (maCons (mC (.bl true)) (maCons (mC (.bl false)) maNil)))) (mC (.int 2))) maNil)) l1 s4 = .ok (.ref s6.nxt) s7:=by
    rw [es7]
    exact lst_is (ds:=[.ref (s4.nxt + 1),.ref (s5.nxt + 1)]) (cons_is m5 (cons_is m6 nil_is)) (by simp)
  have K47 : Kp [] s4 s7:=k5.trans (k6.trans k7)
  have g4 : s4.at_ s3.nxt = some (.lst [.ref a1,.ref a2]):=by rw [es4]; exact Store.new_same
  have n4 : s3.nxt < s4.nxt:=by rw [es4]; exact Nat.lt_succ_self _
  have nt:=ne_two (st:=s7) (xs:=B1 ++ B1) (ys:=B2 ++ B2) (K47.get0 g4 n4) g7 ((k3.trans (k4.trans K47)).get0 ga1 na1) ((k4.trans K47).get0 ga2 na2) ((k6.trans k7).get0 g5 n5) (k7.get0 g6 n6)
  have w3:=if_fn (l:=l1) (tb_is (m2_is (f:=fNe) q4 q7 nt)) (a:=msRet (mC (.bl false)))
  obtain ⟨a8,s8,e8,ga8,na8,k8⟩:=base_is (st:=s7) (l:=l1) (c:=36) (by decide)
  rw [b36] at ga8
  have m9:=mul2_is (st:=s8) (l:=l1) (ma:=maCons (mC (.bl false)) (maCons (mC (.bl false)) (maCons (mC (.bl true)) maNil))) (bs:=B3) rfl (by decide)
  obtain ⟨s9,es9⟩ : ∃ s9,s9 = (s8.new (.lst (B3.map D.bl))).new (.lst ((B3 ++ B3).map D.bl)):=⟨_,rfl⟩
  rw [← es9] at m9
  have k9 : Kp [] s8 s9:=by rw [es9]; exact Kp.new.trans Kp.new
  have g9 : s9.at_ (s8.nxt + 1) = some (.lst ((B3 ++ B3).map D.bl)):=by rw [es9]; exact Store.new_same (st:=s8.new (.lst (B3.map D.bl)))
  have w4:=if_fn (l:=l1) (tb_is (m2_is (f:=fNe) e8 m9 (ne_bools (k9.get0 ga8 na8) g9))) (a:=msRet (mC (.bl false)))
  -- the cells
  obtain ⟨r,hr,r0,r4⟩ : ∃ r : Int,r = maxI 2 (minI (ns.length : Nat) 4) ∧ 0 ≤ r ∧ r ≤ 60:=by
    refine ⟨_,rfl,?_,?_⟩ <;> unfold maxI minI <;> split <;> (try split) <;> omega
  obtain ⟨p2,p3,p4,sz,ez⟩:=laps (m1:=st.nxt) hn r.toNat 0 none none none s9 (by omega) (by omega)
  have w1' : -4611686018427387904 ≤ r:=by omega
  have w2' : r < 4611686018427387904:=by omega
  have rg : miRng rng1 (maCons (mL (f2I maxI) (maCons (mC (.int 2)) (maCons (mL (f2I minI) (maCons (mL (f1 lenD) (maCons (mVar 0) maNil)) (maCons (mC (.int 4)) maNil))) maNil))) maNil) l1 s9 = .ok ⟨[],DV.intsFrom 0 r.toNat⟩ s9:=by
    have e : miRng rng1 (maCons (mL (f2I maxI) (maCons (mC (.int 2)) (maCons (mL (f2I minI) (maCons (mL (f1 lenD) (maCons (mVar 0) maNil)) (maCons (mC (.int 4)) maNil))) maNil))) maNil) l1 s9 = (match rng1 [.int (maxI 2 (minI (((ns.map D.int).length : Nat) : Int) 4))] with
      | some it => (.ok it s9 : Res Iter)
      | none => .bad):=by
      have : l1 = lwL (.rol (ns.map D.int)) st.nxt none none none:=by rw [← esc]
      rw [this]
      rfl
    rw [e,List.length_map,← hr]
    simp [w1',w2']
  have lp : loopS (tgName 2) law_L1 [] (DV.intsFrom 0 r.toNat) l1 s9 = .nx (lwL (.rol (ns.map D.int)) st.nxt p2 p3 p4) sz:=by
    show loopS (tgName 2) law_L1 [] (DV.intsFrom 0 r.toNat) (lwL sc st.nxt none none none) s9 = _
    rw [esc]
    exact ez
  exact ⟨sz,def_rt (l:=l0) rfl (by rw [← esc]; rfl) (seq_go w1 (seq_go w2 (seq_go w3 (seq_go w4 (seq_go (for_is rg lp) (ret_is rfl))))))⟩
end L01
set_option maxHeartbeats 0
namespace L01
open DV G PySem PySem.Spec PyProof.Rows L2 He NdefX
theorem facts {P : Program} {w : World} {K : PySem.W.Frag} {h : Heap} {mg : Str → Option Value} {f : Addr} (X : K.In h) (G : h.Ns mainGlobals mg) (hfa : mg ("law" : Str) = some (.ref f)) (c : SaysV fx fn K) :
    ∃ fd : FuncData,(∀ (s : Shared) (u : Value),BindsTo s fd ⟨[u],[]⟩ [("_law_script",u)]) ∧ ∀ base : Heap,K.In base → base.Ns mainGlobals mg → TBs base mg (csOf K tf) → FnS P w K mg base (cl K PP.all) 4 f fd ["_law_script"] F_law:=by
  have T : Tx fx fn K mg:=⟨c,h,X,G⟩
  have e:=hfa.symm.trans (T.glo 152)
  cases e
  obtain ⟨fd,D⟩:=c.def_ 33 (d:=d_law) rfl
  refine ⟨fd,fun s u => FunD.bindsA (ps:=["_law_script"]) D (fun kV doc pm an cdv ct us hl => bd_law kV doc pm an cdv ct us hl) s [u] rfl,fun base _ _ TB => ?_⟩
  obtain ⟨fd2,G2,D2⟩:=(ok_law (P:=P) (w:=w) (base:=base) (p:=PP.all) T TB).ex
  obtain ⟨_,_,_,_,_,_,_,_,_,_,_,l1,_⟩:=D.ex
  obtain ⟨_,_,_,_,_,_,_,_,_,_,_,l2,_⟩:=D2.ex
  have z:=l1.symm.trans l2
  cases z
  exact G2
theorem tabs_in {K : PySem.W.Frag} : TabsIn (cl K PP.all) (csOf K tf):=fun t ht => by
  have ht : t ∈ tabs K:=ht
  unfold tabs at ht
  cases ht
end L01
open PySem PySem.W PySem.Calls PyProof.Rows
theorem PySem.Challenge.cw_tidyframes_k01_limits_and_errors_holds : PySem.Challenge.rw_tidyframes_k01_limits_and_errors.Holds := by
  w_on; o_law
  refine HandSHeadRun.head_any (r:=OpenLaw.row PySem.Challenge.rw_tidyframes_k01_limits_and_errors) (q:=view (OpenLaw.row PySem.Challenge.rw_tidyframes_k01_limits_and_errors).prog [48]) (H:=L01.hk) (ob:=L01.ob) (M:=20000) (loose:=L01.looseAll) (d:=HandSHeadRun.topDef (OpenLaw.row PySem.Challenge.rw_tidyframes_k01_limits_and_errors).prog 48) (kwd:=[]) L01.ob_eq
    (by kernel_rfl) (fun s => by kernel_rfl) L01.run (by kernel_rfl) (by kernel_rfl) (by kernel_rfl) (by rfl) (by first | assumption | decide +kernel) (by decide +kernel) ⟨rfl,rfl,rfl,rfl,rfl,by decide +kernel⟩ ?hw ?hc
  case hw => w_witness2
  case hc =>
    refine DV.walkG (l:=PySem.Challenge.rw_tidyframes_k01_limits_and_errors) (k:=4) (x:="_law_script") (F:=L01.F_law) rfl (by kernel_rfl) ⟨rfl,by decide,by decide⟩ ?G L01.law_ok
    intro w mg fa h Y G hmg0
    obtain ⟨K,KX,c⟩:=Y
    have hmg : mg ("law" : PySem.Str) = some (.ref fa):=by
      have e : (HandSHeadRun.topDef (OpenLaw.row PySem.Challenge.rw_tidyframes_k01_limits_and_errors).prog 48).name = ("law" : PySem.Str):=by kernel_rfl
      rw [← e]
      exact hmg0
    obtain ⟨fd,hb,hF⟩:=L01.facts (P:=(PySem.Challenge.rw_tidyframes_k01_limits_and_errors).prog) (w:=w) KX G hmg c.t
    refine ⟨K,L01.cl K DV.PP.all,fd,DV.csOf K L01.tf,KX,fun y hy => ?_,fun y hy => ?_,fun y hy => ?_,fun _ _ _ => trivial,L01.tabs_in,hb,hF⟩
    · obtain ⟨q,hq,rfl⟩:=List.mem_map.mp hy
      exact c.empty q hq
    · obtain ⟨q,hq,rfl⟩:=List.mem_map.mp hy
      exact c.out q hq
    · obtain ⟨q,hq,rfl⟩:=List.mem_map.mp hy
      exact PySem.W.codeHd_of_K KX (c.hd q hq)
